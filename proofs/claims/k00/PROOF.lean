import PyProof.Rows.All
import Wide.All
import OpenK.AllK
import Wide.FinOn
import HandS.ForMost
import HandS.Deep
import HandS.IsInst
import HandS.Conv
import HandS.Style
import HandS.TupAny
import HandS.Exc
import HandS.ExcOwn
import HandS.ExcInit
import HandS.TryOnly
import HandS.WordsExc
import HandS.Wide
import KE.KDictItemsList
import KE.KDictZip
import KE.KTurns
import HandS.ListItems
import KE.DataMinMax
import KE.SortData
import KE.IntBitsLaws
import HandS.Defaults
import HandS.CallSlots
import HandS.Property
import HandS.ClsMeth
import KE.KOpsOwn
import KE.KExcIs
import HandS.Flow
import HandS.MakeKw
import HandS.SetFor
import KE.KExcSuper
import HandS.ExcValue
import PyProof.ReprRoads
import KE.KCallOwn
import HandS.FStr
import HandS.Dict
import HandS.RaiseMore
import HandS.Zip
import PySem.Challenge.RW_hiddentones_k00_errors_steps_ratios
import HandS.Ends
set_option Elab.async false
set_option linter.all false
set_option maxRecDepth 100000
set_option maxHeartbeats 8000000
/-! The widened data layer: readings over plain data (Dat), a store (Mem) of things that change, exceptions that leave. -/
namespace EX
open PySem PySem.Spec PyProof.Rows L2

/-- what stands fast through a law: the written part, the module's names -/
structure Kx where
  K : PySem.W.Frag
  mg : Str → Option Value
abbrev kx (X : Cx) : Kx := ⟨X.K, X.mg⟩

/-- what of an own class's text is asked of instances -/
structure InsF (K : PySem.W.Frag) (C : Addr) : Prop where
  cl : Cls K C
  ca : PySem.W.findIn K (.ref C) "__class__" = some (some (.builtin "object.__class__"))
  cn : PySem.W.specialIn K (.builtin "object.__class__") "__get__" = some (some (.builtin "getset_descriptor.__get__"))
  ct : PySem.W.takesIn K (.builtin "object.__class__") = some true
  co : PySem.W.mroIn K C (.type "object") = some true
  sf : PySem.W.selfFirst K C = true
/-- .. of an own exception class -/
structure ExcF (K : PySem.W.Frag) (C : Addr) : Prop where
  cs : (PySem.W.clsIn K C).isSome = true
  ga : PySem.W.findIn K (.ref C) "__getattribute__" = some (some (.builtin "BaseException.__getattribute__"))
  gt : PySem.W.findIn K (.ref C) "__getattr__" = some none
  sub : PySem.W.subIn K (.ref C) (.type "BaseException") = some true
  ca : PySem.W.findIn K (.ref C) "__class__" = some (some (.builtin "object.__class__"))
  cn : PySem.W.specialIn K (.builtin "object.__class__") "__get__" = some (some (.builtin "getset_descriptor.__get__"))
  ct : PySem.W.takesIn K (.builtin "object.__class__") = some true
  co : PySem.W.mroIn K C (.type "object") = some true
  hd : PySem.W.hasDictIn K C = true

inductive Dat where
  | non | bl (b : Bool) | int (i : Int) | str (x : Str) | lst (ds : List Dat) | tup (ds : List Dat) | loc (a : Addr) | scr (ns : List Int) | ty (n : String)
  | cls (c : Str) | ins (c : Str) (ns : List Str) (ds : List Dat) | dK (ks : List Key) (ds : List Dat) | dT (ks : List (List Key)) (ds : List Dat)

mutual
inductive DP (K : Kx) (G : Hp) : V → Dat → Prop
  | non : DP K G .non .non
  | bl (b : Bool) : DP K G (.bl b) (.bl b)
  | int (i : Int) : DP K G (.int i) (.int i)
  | str (x : Str) : DP K G (.str x) (.str x)
  | lst {a : Addr} {xs : List V} {ds : List Dat} : G a = some (.lst xs) → DPs K G xs ds → DP K G (.ref a) (.lst ds)
  | tup {a : Addr} {xs : List V} {ds : List Dat} : G a = some (.tup xs) → DPs K G xs ds → DP K G (.ref a) (.tup ds)
  | loc (a : Addr) : DP K G (.ref a) (.loc a)
  | scr {a : Addr} {ns : List Int} : SqL K.K G a (ns.map V.int) → DP K G (.ref a) (.scr ns)
  | ty (n : String) : DP K G (.ty n) (.ty n)
  | cls {c : Str} {C : Addr} : K.mg c = some (.ref C) → DP K G (.ref C) (.cls c)
  | ins {a C dx : Addr} {c : Str} {ns : List Str} {xs : List V} {ds : List Dat} : K.mg c = some (.ref C) → InsF K.K C → G a = some (.ins C dx (ns.zip xs)) → ns.length = xs.length → DPs K G xs ds → DP K G (.ref a) (.ins c ns ds)
  | dK {a : Addr} {ks : List Key} {xs : List V} {ds : List Dat} : G a = some (.dK (ks.zip xs)) → ks.length = xs.length → DPs K G xs ds → DP K G (.ref a) (.dK ks ds)
  | dT {a : Addr} {ks : List (List Key)} {xs : List V} {ds : List Dat} : G a = some (.dT (ks.zip xs)) → ks.length = xs.length → DPs K G xs ds → DP K G (.ref a) (.dT ks ds)
inductive DPs (K : Kx) (G : Hp) : List V → List Dat → Prop
  | nil : DPs K G [] []
  | cons {v : V} {vs : List V} {d : Dat} {ds : List Dat} : DP K G v d → DPs K G vs ds → DPs K G (v :: vs) (d :: ds)
end

def Ex (H H' : Hp) : Prop := ∀ a o, H a = some o → H' a = some o
theorem Ex.rfl' {H : Hp} : Ex H H := fun _ _ h => h
theorem Ex.trans {H H1 H2 : Hp} (a : Ex H H1) (b : Ex H1 H2) : Ex H H2 := fun x o h => b x o (a x o h)
theorem Ex.new {H : Hp} {p : Addr} {o : HO} (h : H p = none) : Ex H (upd H p o) := fun a u e => by
  rw [upd_ne (ne_of_none e h)]; exact e
theorem Ex.sql {K : PySem.W.Frag} {H H' : Hp} {a : Addr} {xs : List V} (e : Ex H H') (h : SqL K H a xs) : SqL K H' a xs := by
  rcases h with (h | ⟨o, h⟩) | h
  · exact .inl (.inl (e _ _ h))
  · exact .inl (.inr ⟨o, e _ _ h⟩)
  · exact .inr h
theorem Ex.free {H H' : Hp} {p : Addr} (e : Ex H H') (h : H' p = none) : H p = none := by
  cases q : H p with
  | none => rfl
  | some o => rw [e p o q] at h; cases h

section
variable {K : Kx} {G G' : Hp}
mutual
theorem DP.mono (e : Ex G G') : ∀ {v : V} {d : Dat}, DP K G v d → DP K G' v d
  | _, _, .non => .non
  | _, _, .bl b => .bl b
  | _, _, .int i => .int i
  | _, _, .str x => .str x
  | _, _, .lst h r => .lst (e _ _ h) (DPs.mono e r)
  | _, _, .tup h r => .tup (e _ _ h) (DPs.mono e r)
  | _, _, .loc a => .loc a
  | _, _, .scr h => .scr (e.sql h)
  | _, _, .ty n => .ty n
  | _, _, .cls h => .cls h
  | _, _, .ins h hf h1 h2 r => .ins h hf (e _ _ h1) h2 (DPs.mono e r)
  | _, _, .dK h1 h2 r => .dK (e _ _ h1) h2 (DPs.mono e r)
  | _, _, .dT h1 h2 r => .dT (e _ _ h1) h2 (DPs.mono e r)
theorem DPs.mono (e : Ex G G') : ∀ {vs : List V} {ds : List Dat}, DPs K G vs ds → DPs K G' vs ds
  | _, _, .nil => .nil
  | _, _, .cons h r => .cons (DP.mono e h) (DPs.mono e r)
end
theorem DPs.len : ∀ {vs : List V} {ds : List Dat}, DPs K G vs ds → vs.length = ds.length
  | _, _, .nil => rfl
  | _, _, .cons _ r => congrArg (· + 1) r.len
theorem DPs.app : ∀ {vs ws : List V} {ds es : List Dat}, DPs K G vs ds → DPs K G ws es → DPs K G (vs ++ ws) (ds ++ es)
  | _, _, _, _, .nil, s => s
  | _, _, _, _, .cons h r, s => .cons h (r.app s)
theorem DPs.get : ∀ {vs : List V} {ds : List Dat} {i : Nat} {d : Dat}, DPs K G vs ds → ds[i]? = some d → ∃ v, vs[i]? = some v ∧ DP K G v d
  | _, _, _, _, .nil, e => by simp at e
  | _, _, 0, _, .cons h _, e => by simp at e; subst e; exact ⟨_, rfl, h⟩
  | _, _, i + 1, d, .cons _ r, e => by
    obtain ⟨v, h1, h2⟩ := r.get (i := i) (d := d) (by simpa using e)
    exact ⟨v, by simpa using h1, h2⟩
theorem DPs.getV : ∀ {vs : List V} {ds : List Dat} {i : Nat} {v : V}, DPs K G vs ds → vs[i]? = some v → ∃ d, ds[i]? = some d ∧ DP K G v d
  | _, _, _, _, .nil, e => by simp at e
  | _, _, 0, _, .cons h _, e => by simp at e; subst e; exact ⟨_, rfl, h⟩
  | _, _, i + 1, d, .cons _ r, e => by
    obtain ⟨v, h1, h2⟩ := r.getV (i := i) (v := d) (by simpa using e)
    exact ⟨v, by simpa using h1, h2⟩
theorem DPs.take : ∀ {vs : List V} {ds : List Dat} (n : Nat), DPs K G vs ds → DPs K G (vs.take n) (ds.take n)
  | _, _, 0, _ => .nil
  | _, _, _ + 1, .nil => .nil
  | _, _, n + 1, .cons h r => .cons h (r.take n)
theorem DPs.drop : ∀ {vs : List V} {ds : List Dat} (n : Nat), DPs K G vs ds → DPs K G (vs.drop n) (ds.drop n)
  | _, _, 0, r => r
  | _, _, _ + 1, .nil => .nil
  | _, _, n + 1, .cons _ r => r.drop n
theorem DPs.rev : ∀ {vs : List V} {ds : List Dat}, DPs K G vs ds → DPs K G vs.reverse ds.reverse
  | _, _, .nil => .nil
  | _, _, .cons h r => by
    rw [List.reverse_cons, List.reverse_cons]
    exact r.rev.app (.cons h .nil)
theorem DPs.set {v : V} {d : Dat} (h : DP K G v d) : ∀ {vs : List V} {ds : List Dat} (i : Nat), DPs K G vs ds → DPs K G (vs.set i v) (ds.set i d)
  | _, _, _, .nil => .nil
  | _, _, 0, .cons _ r => .cons h r
  | _, _, i + 1, .cons q r => .cons q (DPs.set h i r)
theorem DPs.ints : ∀ {vs : List V} {ns : List Int}, DPs K G vs (ns.map Dat.int) → vs = ns.map V.int
  | _, [], .nil => rfl
  | _, n :: ns, .cons h r => by
    cases h
    rw [r.ints]
    rfl
theorem DPs.of_ints : ∀ (ns : List Int), DPs K G (ns.map V.int) (ns.map Dat.int)
  | [] => .nil
  | n :: ns => .cons (.int n) (DPs.of_ints ns)
theorem DPs.bls : ∀ {vs : List V} {ns : List Bool}, DPs K G vs (ns.map Dat.bl) → vs = ns.map V.bl
  | _, [], .nil => rfl
  | _, n :: ns, .cons h r => by
    cases h
    rw [r.bls]
    rfl
theorem DPs.strs : ∀ {vs : List V} {ns : List Str}, DPs K G vs (ns.map Dat.str) → vs = ns.map V.str
  | _, [], .nil => rfl
  | _, n :: ns, .cons h r => by
    cases h
    rw [r.strs]
    rfl
theorem DPs.of_strs : ∀ (ns : List Str), DPs K G (ns.map V.str) (ns.map Dat.str)
  | [] => .nil
  | n :: ns => .cons (.str n) (DPs.of_strs ns)
theorem DPs.rep {vs : List V} {ds : List Dat} (h : DPs K G vs ds) : ∀ n : Nat, DPs K G (List.replicate n vs).flatten (List.replicate n ds).flatten
  | 0 => .nil
  | n + 1 => by
    rw [List.replicate_succ, List.replicate_succ, List.flatten_cons, List.flatten_cons]
    exact h.app (DPs.rep h n)
end

/-! ### the store -/
/-- what stands at an address of one's own -/
inductive Cell where
  | lst (ds : List Dat) | ins (c : Str) (ns : List Str) (ds : List Dat) | dK (ks : List Key) (ds : List Dat) | dT (ks : List (List Key)) (ds : List Dat)
  /-- an exception that was caught, or made and not raised -/
  | exn (c : Str) (ns : List Str) (ds : List Dat)
/-- the things that change, by their addresses -/
abbrev Mem := Addr → Option Cell
def Mem.put (M : Mem) (a : Addr) (c : Cell) : Mem := fun b => if b = a then some c else M b
def Mem.del (M : Mem) (a : Addr) : Mem := fun b => if b = a then none else M b
theorem Mem.put_same {M : Mem} {a : Addr} {c : Cell} : M.put a c a = some c := by unfold Mem.put; rw [if_pos rfl]
theorem Mem.put_ne {M : Mem} {a b : Addr} {c : Cell} (h : b ≠ a) : M.put a c b = M b := by unfold Mem.put; rw [if_neg h]
theorem Mem.del_same {M : Mem} {a : Addr} : M.del a a = none := by unfold Mem.del; rw [if_pos rfl]
theorem Mem.del_ne {M : Mem} {a b : Addr} (h : b ≠ a) : M.del a b = M b := by unfold Mem.del; rw [if_neg h]
theorem Mem.put_put {M : Mem} {a : Addr} {c d : Cell} : (M.put a c).put a d = M.put a d := by
  funext b; unfold Mem.put; split <;> rfl
theorem Mem.put_del {M : Mem} {a : Addr} {c : Cell} (h : M a = none) : (M.put a c).del a = M := by
  funext b
  by_cases e : b = a
  · rw [e, Mem.del_same, h]
  · rw [Mem.del_ne e, Mem.put_ne e]
/-- the list at an address -/
def Mem.l (M : Mem) (a : Addr) : Option (List Dat) := match M a with
  | some (.lst ds) => some ds
  | _ => none
theorem Mem.l_of {M : Mem} {a : Addr} {ds : List Dat} (h : M a = some (.lst ds)) : M.l a = some ds := by unfold Mem.l; rw [h]
theorem Mem.of_l {M : Mem} {a : Addr} {ds : List Dat} (h : M.l a = some ds) : M a = some (.lst ds) := by
  unfold Mem.l at h
  split at h
  · rename_i e; cases h; exact e
  · cases h

/-- an exception's object: its class, its own dict -/
def excH (C a : Addr) (d : Option Addr) : HO := .ext fun h => ∃ (oe : Obj) (vs : Array Value), h.get? a = some oe ∧ Zc (.ref C) d oe ∧ oe.data = .fields vs
/-- what an exception holds in its own dict -/
def ExD (K : Kx) (G : Hp) (d : Option Addr) (ns : List Str) (ds : List Dat) : Prop :=
  (d = none ∧ ns = [] ∧ ds = []) ∨ ∃ da xs, d = some da ∧ G da = some (.xd (ns.zip xs)) ∧ ns.length = xs.length ∧ DPs K G xs ds
theorem ExD.mono {K : Kx} {G G' : Hp} {d : Option Addr} {ns : List Str} {ds : List Dat} (e : Ex G G') (h : ExD K G d ns ds) : ExD K G' d ns ds := by
  rcases h with h | ⟨da, xs, h1, h2, h3, h4⟩
  · exact .inl h
  · exact .inr ⟨da, xs, h1, e _ _ h2, h3, h4.mono e⟩
def CellAt (K : Kx) (G H : Hp) (a : Addr) : Cell → Prop
  | .lst ds => ∃ xs, H a = some (.lst xs) ∧ DPs K G xs ds
  | .ins c ns ds => ∃ C dx xs, K.mg c = some (.ref C) ∧ InsF K.K C ∧ H a = some (.ins C dx (ns.zip xs)) ∧ ns.length = xs.length ∧ DPs K G xs ds
  | .dK ks ds => ∃ xs, H a = some (.dK (ks.zip xs)) ∧ ks.length = xs.length ∧ DPs K G xs ds
  | .dT ks ds => ∃ xs, H a = some (.dT (ks.zip xs)) ∧ ks.length = xs.length ∧ DPs K G xs ds
  | .exn c ns ds => ∃ C d, K.mg c = some (.ref C) ∧ ExcF K.K C ∧ H a = some (excH C a d) ∧ ExD K G d ns ds
theorem CellAt.some {K : Kx} {G H : Hp} {a : Addr} {c : Cell} (h : CellAt K G H a c) : H a ≠ none := by
  cases c with
  | lst ds => obtain ⟨xs, q, _⟩ := h; rw [q]; intro z; cases z
  | ins c ns ds => obtain ⟨C, dx, xs, _, _, q, _⟩ := h; rw [q]; intro z; cases z
  | dK ks ds => obtain ⟨xs, q, _⟩ := h; rw [q]; intro z; cases z
  | dT ks ds => obtain ⟨xs, q, _⟩ := h; rw [q]; intro z; cases z
  | exn c ns ds => obtain ⟨C, d, _, _, q, _⟩ := h; rw [q]; intro z; cases z
theorem CellAt.mono {K : Kx} {G G' H H' : Hp} {a : Addr} {c : Cell} (h : CellAt K G H a c) (e : Ex G G') (k : ∀ o, H a = .some o → H' a = .some o) : CellAt K G' H' a c := by
  cases c with
  | lst ds => obtain ⟨xs, q, r⟩ := h; exact ⟨xs, k _ q, r.mono e⟩
  | ins c ns ds => obtain ⟨C, dx, xs, q1, f, q, q2, r⟩ := h; exact ⟨C, dx, xs, q1, f, k _ q, q2, r.mono e⟩
  | dK ks ds => obtain ⟨xs, q, q2, r⟩ := h; exact ⟨xs, k _ q, q2, r.mono e⟩
  | dT ks ds => obtain ⟨xs, q, q2, r⟩ := h; exact ⟨xs, k _ q, q2, r.mono e⟩
  | exn c ns ds => obtain ⟨C, d, q1, f, q, r⟩ := h; exact ⟨C, d, q1, f, k _ q, r.mono e⟩

/-- an exception that leaves: its class's name, the names and data of its attributes, the slots and the store at that point -/
abbrev Slots := List (Option Dat)
structure DEnv where
  sl : Slots
  ex : Str → List Str → List Dat → Slots → Mem → Prop
def DEnv.set (Γ : DEnv) (i : Nat) (d : Option Dat) : DEnv := { Γ with sl := Γ.sl.set i d }

section
variable (K : Kx)
def MemOk (G H : Hp) (M : Mem) : Prop := ∀ a c, M a = some c → G a = none ∧ CellAt K G H a c
def SlO (G : Hp) (σ : L2.St) (sl : Slots) : Prop := σ.length = sl.length ∧ ∀ (i : Nat) (d : Dat), sl[i]? = some (some d) → ∃ v, σ[i]? = some (some v) ∧ DP K G v d
structure Stp (G H : Hp) (M : Mem) (G' H' : Hp) (M' : Mem) : Prop where
  ex : Ex G G'
  ex' : Ex G' H'
  mem : MemOk K G' H' M'
  fr : ∀ a o, M a = none → H a = some o → H' a = some o
  ng : ∀ a, G' a ≠ none → G a = none → H a = none ∨ M a ≠ none
  nm : ∀ a, M' a ≠ none → M a ≠ none ∨ H a = none
/-- the slots, and what is wanted of exceptions -/
structure Sl (W : WX) (G H : Hp) (M : Mem) (σ : L2.St) (Γ : DEnv) : Prop where
  o : SlO K G σ Γ.sl
  x : ∀ c ns ds C da σ' sl' G' H' M', Stp K G H M G' H' M' → SlO K G' σ' sl' → K.mg c = some (.ref C) → ExD K G' da ns ds → Γ.ex c ns ds sl' M' → W (.ref C) da σ' H'
end
section
variable {K : Kx} {W : WX} {G G1 G2 H H1 H2 : Hp} {M M1 M2 : Mem} {σ : L2.St} {Γ : DEnv}
theorem MemOk.there (m : MemOk K G H M) {a : Addr} (h : M a ≠ none) : H a ≠ none := by
  cases e : M a with
  | none => exact absurd e h
  | some c => exact (m a c e).2.some
theorem Stp.refl (e : Ex G H) (m : MemOk K G H M) : Stp K G H M G H M :=
  ⟨Ex.rfl', e, m, fun _ _ _ h => h, fun _ h n => absurd n h, fun _ h => .inl h⟩
theorem Stp.trans (s : Stp K G H M G1 H1 M1) (t : Stp K G1 H1 M1 G2 H2 M2) : Stp K G H M G2 H2 M2 where
  ex := s.ex.trans t.ex
  ex' := t.ex'
  mem := t.mem
  fr := fun a o n h => t.fr a o (by
    cases e : M1 a with
    | none => rfl
    | some ds =>
      rcases s.nm a (by rw [e]; intro z; cases z) with q | q
      · exact absurd n q
      · rw [q] at h; cases h) (s.fr a o n h)
  ng := fun a h n => by
    cases e : G1 a with
    | some o => exact s.ng a (by rw [e]; intro z; cases z) n
    | none =>
      rcases t.ng a h e with q | q
      · by_cases hm : M a = none
        · refine .inl ?_
          cases z : H a with
          | none => rfl
          | some o => rw [s.fr a o hm z] at q; cases q
        · exact .inr hm
      · rcases s.nm a q with r | r
        · exact .inr r
        · exact .inl r
  nm := fun a h => by
    rcases t.nm a h with q | q
    · exact s.nm a q
    · by_cases hm : M a = none
      · refine .inr ?_
        cases z : H a with
        | none => rfl
        | some o => rw [s.fr a o hm z] at q; cases q
      · exact .inl hm
theorem SlO.mono {sl : Slots} (e : Ex G G1) (s : SlO K G σ sl) : SlO K G1 σ sl := ⟨s.1, fun i d h => let ⟨v, a, b⟩ := s.2 i d h; ⟨v, a, b.mono e⟩⟩
theorem SlO.set {sl : Slots} {v : V} {d : Dat} (s : SlO K G σ sl) (h : DP K G v d) (i : Nat) : SlO K G (σ.set i (some v)) (sl.set i (some d)) := by
  refine ⟨by rw [List.length_set, List.length_set]; exact s.1, fun j e q => ?_⟩
  by_cases hj : i = j
  · subst hj
    by_cases hl : i < sl.length
    · rw [List.getElem?_set_self hl] at q
      cases q
      exact ⟨v, List.getElem?_set_self (by rw [s.1]; exact hl), h⟩
    · rw [List.getElem?_eq_none (by rw [List.length_set]; omega)] at q
      cases q
  · rw [List.getElem?_set_ne hj] at q ⊢
    exact s.2 j e q
theorem SlO.none {sl : Slots} (s : SlO K G σ sl) (i : Nat) : SlO K G (σ.set i none) (sl.set i none) := by
  refine ⟨by rw [List.length_set, List.length_set]; exact s.1, fun j d q => ?_⟩
  by_cases hj : i = j
  · subst hj
    by_cases hl : i < sl.length
    · rw [List.getElem?_set_self hl] at q; cases q
    · rw [List.getElem?_eq_none (by rw [List.length_set]; omega)] at q; cases q
  · rw [List.getElem?_set_ne hj] at q ⊢
    exact s.2 j d q
theorem Sl.step (s : Sl K W G H M σ Γ) (t : Stp K G H M G1 H1 M1) : Sl K W G1 H1 M1 σ Γ :=
  ⟨s.o.mono t.ex, fun c ns ds C da σ' sl' G' H' M' u a b d e => s.x c ns ds C da σ' sl' G' H' M' (t.trans u) a b d e⟩
theorem Sl.set {v : V} {d : Dat} (s : Sl K W G H M σ Γ) (h : DP K G v d) (i : Nat) : Sl K W G H M (σ.set i (some v)) (Γ.set i (some d)) := ⟨s.o.set h i, s.x⟩
theorem Sl.none (s : Sl K W G H M σ Γ) (i : Nat) : Sl K W G H M (σ.set i none) (Γ.set i none) := ⟨s.o.none i, s.x⟩
/-- other slots, the same wish -/
theorem Sl.re {σ' : L2.St} {sl : Slots} (s : Sl K W G H M σ Γ) (h : SlO K G σ' sl) : Sl K W G H M σ' { Γ with sl := sl } := ⟨h, s.x⟩
theorem MemOk.mono (m : MemOk K G H M) (e : Ex G G1) (f : ∀ a, M a ≠ none → G1 a = none) (k : ∀ a o, M a ≠ none → H a = some o → H1 a = some o) : MemOk K G1 H1 M := fun a c h => by
  have n : M a ≠ none := by rw [h]; intro z; cases z
  exact ⟨f a n, (m a c h).2.mono e fun o q => k a o n q⟩
theorem mem_none (m : MemOk K G H M) {p : Addr} (h : H p = none) : M p = none := by
  cases q : M p with
  | none => rfl
  | some ds => exact absurd h (m.there (by rw [q]; intro z; cases z))
/-- a new object that never changes -/
theorem Stp.alloc {p : Addr} {o : HO} (e : Ex G H) (m : MemOk K G H M) (hp : H p = none) : Stp K G H M (upd G p o) (upd H p o) M := by
  have gp : G p = none := e.free hp
  have np : ∀ a, M a ≠ none → a ≠ p := fun a h z => by subst z; exact m.there h hp
  refine ⟨Ex.new gp, fun a u h => ?_, m.mono (Ex.new gp) (fun a h => ?_) (fun a u h q => ?_), fun a u _ h => ?_, fun a h n => ?_, fun a h => .inl h⟩
  · by_cases z : a = p
    · rw [z, upd_same] at h ⊢; exact h
    · rw [upd_ne z] at h ⊢; exact e a u h
  · rw [upd_ne (np a h)]
    cases q : M a with
    | none => exact absurd q h
    | some ds => exact (m a ds q).1
  · rw [upd_ne (np a h)]; exact q
  · rw [upd_ne (ne_of_none h hp)]; exact h
  · by_cases z : a = p
    · rw [z]; exact .inl hp
    · rw [upd_ne z] at h; exact absurd n h
/-- a new object of one's own; new things besides it never change (Hb) -/
theorem Stp.ownC {p : Addr} {o : HO} {c : Cell} (e : Ex G H) (m : MemOk K G H M) (hp : H p = none) (r : CellAt K G (upd H p o) p c) : Stp K G H M G (upd H p o) (M.put p c) := by
  have gp : G p = none := e.free hp
  refine ⟨Ex.rfl', fun a u h => ?_, fun a d h => ?_, fun a u _ h => ?_, fun a h n => absurd n h, fun a h => ?_⟩
  · rw [upd_ne (ne_of_none h gp)]; exact e a u h
  · by_cases z : a = p
    · subst z
      rw [Mem.put_same] at h
      cases h
      exact ⟨gp, r⟩
    · rw [Mem.put_ne z] at h
      exact ⟨(m a d h).1, (m a d h).2.mono Ex.rfl' fun u q => by rw [upd_ne z]; exact q⟩
  · rw [upd_ne (ne_of_none h hp)]; exact h
  · by_cases z : a = p
    · rw [z]; exact .inr hp
    · rw [Mem.put_ne z] at h; exact .inl h
theorem Stp.own {p : Addr} {xs : List V} {ds : List Dat} (e : Ex G H) (m : MemOk K G H M) (hp : H p = none) (r : DPs K G xs ds) : Stp K G H M G (upd H p (.lst xs)) (M.put p (.lst ds)) :=
  Stp.ownC e m hp ⟨xs, upd_same, r⟩
/-- an object of one's own changes -/
theorem Stp.writeC {p : Addr} {o : HO} {c c' : Cell} (e : Ex G H) (m : MemOk K G H M) (hp : M p = some c') (r : CellAt K G (upd H p o) p c) : Stp K G H M G (upd H p o) (M.put p c) := by
  have gp : G p = none := (m p c' hp).1
  refine ⟨Ex.rfl', fun a u h => ?_, fun a d h => ?_, fun a u n h => ?_, fun a h n => absurd n h, fun a h => ?_⟩
  · rw [upd_ne (ne_of_none h gp)]; exact e a u h
  · by_cases z : a = p
    · subst z
      rw [Mem.put_same] at h
      cases h
      exact ⟨gp, r⟩
    · rw [Mem.put_ne z] at h
      exact ⟨(m a d h).1, (m a d h).2.mono Ex.rfl' fun u q => by rw [upd_ne z]; exact q⟩
  · have z : a ≠ p := fun z => by rw [z, hp] at n; cases n
    rw [upd_ne z]; exact h
  · by_cases z : a = p
    · rw [z]; exact .inl (by rw [hp]; intro q; cases q)
    · rw [Mem.put_ne z] at h; exact .inl h
theorem Stp.write {p : Addr} {xs : List V} {ds : List Dat} {c : Cell} (e : Ex G H) (m : MemOk K G H M) (hp : M p = some c) (r : DPs K G xs ds) : Stp K G H M G (upd H p (.lst xs)) (M.put p (.lst ds)) :=
  Stp.writeC e m hp ⟨xs, upd_same, r⟩
/-- an object of one's own changes no more -/
theorem Stp.freezeC {p : Addr} {o : HO} {c : Cell} (e : Ex G H) (m : MemOk K G H M) (hp : M p = some c) (hx : H p = some o) : Stp K G H M (upd G p o) H (M.del p) := by
  have gp : G p = none := (m p c hp).1
  have eg : Ex G (upd G p o) := Ex.new gp
  refine ⟨eg, fun a u h => ?_, fun a d h => ?_, fun a u _ h => h, fun a h n => ?_, fun a h => ?_⟩
  · by_cases z : a = p
    · rw [z, upd_same] at h; cases h; rw [z]; exact hx
    · rw [upd_ne z] at h; exact e a u h
  · by_cases z : a = p
    · rw [z, Mem.del_same] at h; cases h
    · rw [Mem.del_ne z] at h
      exact ⟨by rw [upd_ne z]; exact (m a d h).1, (m a d h).2.mono eg fun u q => q⟩
  · by_cases z : a = p
    · rw [z]; exact .inr (by rw [hp]; intro q; cases q)
    · rw [upd_ne z] at h; exact absurd n h
  · by_cases z : a = p
    · rw [z, Mem.del_same] at h; exact absurd rfl h
    · rw [Mem.del_ne z] at h; exact .inl h
theorem Stp.freeze {p : Addr} {xs : List V} {ds : List Dat} (e : Ex G H) (m : MemOk K G H M) (hp : M p = some (.lst ds)) (hx : H p = some (.lst xs)) : Stp K G H M (upd G p (.lst xs)) H (M.del p) := Stp.freezeC e m hp hx
/-- it changes no more while another look (the tracked) at it changes: nothing -/
def Sub (M0 M : Mem) : Prop := ∀ a c, M0 a = some c → M a = some c
theorem Sub.rfl' : Sub M M := fun _ _ h => h
theorem Stp.drop {M0 : Mem} (t : Stp K G H M G1 H1 M1) (h : Sub M0 M1) : Stp K G H M G1 H1 M0 :=
  ⟨t.ex, t.ex', fun a ds q => t.mem a ds (h a ds q), t.fr, t.ng, fun a q => t.nm a (by
    cases e : M0 a with
    | none => exact absurd e q
    | some ds => rw [h a ds e]; intro z; cases z)⟩
end

/-! ### room, and defs: no guard of repr stands on the stack -/
structure Room (k : Nat) (A : Around) : Prop where
  r : L2.Room k A
  gu : A.guards = some []
section
variable {j k : Nat} {A : Around}
theorem Room.mono (r : Room k A) (h : j ≤ k) : Room j A := ⟨r.r.mono h, r.gu⟩
theorem guards_deeper (env : PySem.Env) : (A.deeper env).guards = A.guards := by first | rfl | (cases A; rfl)
theorem guards_make {C : Addr} {us : List Value} {kw : List (Str × Value)} : (A.under (.builtin "type.__call__" ⟨.ref C :: us, kw⟩)).guards = A.guards := by
  first | rfl | (cases h : A.guards <;> simp [Around.under, Code.guards, Code.isGuard, guardIds, pushGuards, h])
theorem Room.deeper (r : Room (k + 1) A) (env : PySem.Env) : Room k (A.deeper env) := ⟨r.r.deeper env, (guards_deeper env).trans r.gu⟩
theorem Room.in1 (r : Room (k + 1) A) : Room k A.in1 := ⟨r.r.in1, r.gu⟩
theorem Room.make (r : Room (k + 1) A) (C : Addr) (us : List Value) (kw : List (Str × Value)) : Room k (A.under (.builtin "type.__call__" ⟨.ref C :: us, kw⟩)) := ⟨r.r.make C us kw, guards_make.trans r.gu⟩
theorem Room.depth (r : Room k A) : A.depth < recursionLimit := r.r.depth
theorem Room.units (r : Room k A) : A.units + 64 < cLine := r.r.units
theorem Room.units0 (r : Room k A) : A.units < cLine := r.r.units0
theorem Room.un (r : Room k A) : A.units + 16 * k + 200 < cLine := r.r.un
theorem Room.dp (r : Room k A) : A.depth + 3 * k + 5 < recursionLimit := r.r.dp
theorem Room.hd (r : Room k A) : A.handled = none := r.r.hd
end
/-- a def and its promise, where there is such room -/
structure FnOk (P : Program) (w : World) (K : PySem.W.Frag) (mg : Str → Option Value) (base : Heap) (CX : CXT) (k : Nat) (f : Addr) (fd : FuncData) (ps : List Str) (sp : Sp) : Prop where
  len : ∀ vs H Q E, sp vs H Q E → vs.length = ps.length
  run : ∀ (A : Around) (outer : List PySem.Env) (s : Shared) (H : Hp) (args : Args) (us : List Value) (vs : List V) (Q : VK) (E : XK), EX.Room k A → Env0 P w K mg base A outer s H → BindsTo s fd args (ps.zip us) → Vals vs us → sp vs H Q E → codeAny (model P w) A (.call (.ref f) args) (CR CX outer P w H s Q E) s
theorem FnOk.imp {P : Program} {w : World} {K : PySem.W.Frag} {mg : Str → Option Value} {base : Heap} {CX : CXT} {k : Nat} {f : Addr} {fd : FuncData} {ps : List Str} {sp sp' : Sp} (F : FnOk P w K mg base CX k f fd ps sp) (h : ∀ vs H Q E, sp' vs H Q E → sp vs H Q E) : FnOk P w K mg base CX k f fd ps sp' :=
  ⟨fun vs H Q E q => F.len vs H Q E (h _ _ _ _ q), fun A outer s H args us vs Q E hr he hb hv hs => F.run A outer s H args us vs Q E hr he hb hv (h _ _ _ _ hs)⟩
/-- .. by its body -/
theorem fn_in {CX : CXT} {P : Program} {w : World} {K : PySem.W.Frag} {mg : Str → Option Value} {base : Heap} {k : Nat} {f : Addr} {name qual : Str} {params : Arguments} {body : List Stmt} {scope : Scope} {dV kV doc pm cdv ct oc : Value} {an od : Option Addr}
    {osl : Array (Option Value)} {N ps : List Str} {sp : Sp} (lk : K.lookup f = some ⟨oc, od, .func (PySem.W.fnOf name qual params body scope dV kV doc pm an cdv ct), osl⟩) (hcd : PySem.W.codeIn K cdv qual = true) (S : FnScope N ps scope) (len : ∀ vs H Q E, sp vs H Q E → vs.length = ps.length)
    (hbody : ∀ (A : Around) (outer : List PySem.Env) (s : Shared) (H : Hp) (vs : List V) (Q : VK) (E : XK), EX.Room k (A.deeper (envOfC qual scope s.heap.objs.size f cdv)) → sp vs H Q E → ∃ t, PSs (cxOf CX P w K mg base N qual scope f cdv A outer s H E) body t ∧ t { nx := fun _ H' => Q .non H', rt := Q } (L2.start N vs) H) :
    FnOk P w K mg base CX (k + 1) f (PySem.W.fnOf name qual params body scope dV kV doc pm an cdv ct) ps sp := by
  refine ⟨len, fun A outer s H args us vs Q E hr e0 hb r hsp => ?_⟩
  have kb : ∀ b o, base.get? b = some o → s.heap.get? b = some o := fun b o e => (e0.bs b o e).1
  refine codeAny_call_function hr.depth (e0.mod.kin.keeps kb _ _ lk) rfl S.co S.gen rfl (PySem.W.codeRec_of (e0.mod.kin.keeps kb) hcd) (hb _ _ _ _ ?_)
  refine wpAny_newFunctionEnv_cells S.kind (fun ⟨n, v⟩ hy => ?_) fun env he s1 x => ?_
  · exact (S.par n (List.of_mem_zip hy).1).imp id fun q => ⟨q, PySem.W.cellsFrom_some _ _ _ (.inl q)⟩
  subst he
  refine ⟨(e0.mod.nolimit.keeps kb).keeps x.toInCall.keep, codeAny_func ?_⟩
  obtain ⟨t, ht, hq⟩ := hbody A outer s H vs Q E (hr.deeper _) hsp
  refine wpAny_mono (ht.run [] s1 (L2.start N vs) H _ (inv_start S hr.hd e0 (len _ _ _ _ hsp) r x) hq) (fun fl s' hs => ?_) fun e s' hs => hs
  cases fl with
  | ret u => obtain ⟨v, σ', H', J, rv, q⟩ := hs; exact ⟨v, H', J.os, J.bare, J.base, J.hok, rv, q⟩
  | next => obtain ⟨σ', H', J, q⟩ := hs; exact ⟨V.non, H', J.os, J.bare, J.base, J.hok, rfl, q⟩
  | brk => obtain ⟨_, _, _, q⟩ := hs; exact q.elim
  | cont => obtain ⟨_, _, _, q⟩ := hs; exact q.elim
section
variable {X : Cx} {CX : CXT} {k : Nat} {f : Addr} {fd : FuncData} {ps ks : List Str} {sp : Sp} {E : L2.St → XK} {E1 : XK} {x : Str} {p pos : Pos} {e : Expr} {es : List Expr} {t : TA} {ds : List Value} {dvs : List V} {g : List Value → List Value → List Value} {gV : List V → List V → List V}
theorem run_in {pins : List (Addr × Obj)} {σ : L2.St} {H : Hp} {s : Shared} {Q : VK} {args : Args} {us : List Value} {vs : List V} (F : FnOk X.prog X.w X.K X.mg X.base CX k f fd ps sp) (hr : EX.Room k X.A) (hb : BindsTo s fd args (ps.zip us)) (hx : ∀ e s', CX X.stack H s E1 e s' → X.xe e s') (I : Inv X pins σ H s) (r : Vals vs us) (h : sp vs H Q E1) :
    wpAny (model X.prog X.w) X.A (call (.ref f) args.pos args.kw) (EP X pins σ Q) X.xe s := by
  refine wpAny_call (codeAny_mono (F.run X.A X.stack s H args us vs Q E1 hr I.env0 hb r h) fun out s' hq => ?_)
  match out, hq with
  | .error e, hq => exact hx e s' hq
  | .ok (.ret u), hq => exact I.after hq
theorem run_inSD {pins : List (Addr × Obj)} {σ : L2.St} {H : Hp} {s : Shared} {Q : VK} {us : List Value} {vs : List V} (F : FnOk X.prog X.w X.K X.mg X.base CX k f fd ps sp) (hr : EX.Room k X.A) (hb : Binds X.K fd ps ds) (hd : Vals dvs ds) (hx : PassesAt CX X σ (E σ)) (I : Inv X pins σ H s) (r : Vals vs us) (h : sp (vs ++ dvs) H Q (E σ)) :
    wpAny (model X.prog X.w) X.A (call (.ref f) us) (EP X pins σ Q) X.xe s := by
  have r2 : Vals (vs ++ dvs) (us ++ ds) := r.append hd
  exact run_in (args := ⟨us, []⟩) F hr (hb s us I.kIn (by rw [← r2.length]; exact F.len _ _ _ _ h)) (fun e s' c => hx pins H s e s' I c) I r2 h
theorem run_in0 {pins : List (Addr × Obj)} {σ : L2.St} {H : Hp} {s : Shared} {Q : VK} {us : List Value} {vs : List V} (F : FnOk X.prog X.w X.K X.mg X.base CX k f fd ps sp) (hr : EX.Room k X.A) (hb : Binds X.K fd ps ds) (hd : Vals dvs ds) (hx : Passes CX X E1) (I : Inv X pins σ H s) (r : Vals vs us) (h : sp (vs ++ dvs) H Q E1) :
    wpAny (model X.prog X.w) X.A (call (.ref f) us) (EP X pins σ Q) X.xe s := by
  have r2 : Vals (vs ++ dvs) (us ++ ds) := r.append hd
  exact run_in (args := ⟨us, []⟩) F hr (hb s us I.kIn (by rw [← r2.length]; exact F.len _ _ _ _ h)) (fun e s' c => hx pins σ H s e s' I c) I r2 h
theorem run_inK {pins : List (Addr × Obj)} {σ : L2.St} {H : Hp} {s : Shared} {Q : VK} {us ws : List Value} {vs zs : List V} (F : FnOk X.prog X.w X.K X.mg X.base CX k f fd ps sp) (hr : EX.Room k X.A) (hb : KBinds X.K fd ps ks g gV) (hx : Passes CX X E1) (I : Inv X pins σ H s) (r : Vals vs us) (rz : Vals zs ws) (h : sp (gV vs zs) H Q E1) :
    wpAny (model X.prog X.w) X.A (call (.ref f) us (ks.zip ws)) (EP X pins σ Q) X.xe s := by
  have r2 := hb.rel r rz
  exact run_in (args := ⟨us, ks.zip ws⟩) F hr (hb.to s us ws I.kIn (by rw [← r2.length]; exact F.len _ _ _ _ h)) (fun e s' c => hx pins σ H s e s' I c) I r2 h
theorem pe_inS (F : FnOk X.prog X.w X.K X.mg X.base CX k f fd ps sp) (hr : EX.Room k X.A) (hg : Gl X x) (hm : X.mg x = some (.ref f)) (hk : PySem.W.keepIn X.K (.ref f) = true) (hb : Binds X.K fd ps []) (hx : ∀ σ, PassesAt CX X σ (E σ)) (ha : PA X (e :: es) t)
    (hdb : (x == ("__debug__" : Str)) = false := by decide) (he : starEach (e :: es) X.env = (false, eval e X.env) :: starEach es X.env := by rfl) (hpl : (backTo pos (starEach es X.env)).any (·.1) = false := by rfl) : PE X (.Call (.Name x p) (e :: es) [] pos) (tCallS sp E t) := by
  refine ⟨fun pins s σ H Q I h => wpAny_Call_Name_kw (ld_glob I hg hm ?_ hdb)⟩
  exact PySem.W.callWith_K (h₀ := X.base) I.ok.mod.kin hk (thn (ha.run pos pins s σ H _ I h) fun us s1 ⟨vs, H1, I1, r, q⟩ => ⟨I1.kIn, run_inSD (dvs := []) F hr hb .nil (hx σ) I1 r (by rw [List.append_nil]; exact q)⟩) he hpl
theorem pe_in0 (F : FnOk X.prog X.w X.K X.mg X.base CX k f fd ps sp) (hr : EX.Room k X.A) (hg : Gl X x) (hm : X.mg x = some (.ref f)) (hk : PySem.W.keepIn X.K (.ref f) = true) (hb : Binds X.K fd ps ds) (hd : Vals dvs ds) (hx : Passes CX X E1) (hdb : (x == ("__debug__" : Str)) = false := by decide) : PE X (.Call (.Name x p) [] [] pos) (tCall sp dvs E1 tNil) :=
  ⟨fun pins s σ H Q I h => wpAny_Call_Name_kw (ld_glob I hg hm (PySem.W.callWith_K0 I.kIn hk (run_in0 (us := []) F hr hb hd hx I .nil h)) hdb)⟩
end
end EX
/-! The data layer 2: expressions. -/
namespace EX
open PySem PySem.Spec PyProof.Rows L2

abbrev DTE := DEnv → Mem → (Dat → Mem → Prop) → Prop
abbrev DTT := DEnv → Mem → (Bool → Mem → Prop) → Prop
abbrev DTA := DEnv → Mem → (List Dat → Mem → Prop) → Prop
abbrev DTO := DEnv → Mem → (Option Int → Mem → Prop) → Prop
abbrev DFn := List Dat → Mem → (Dat → Mem → Prop) → Prop
abbrev DOp := Dat → Dat → Mem → (Dat → Mem → Prop) → Prop
abbrev DUn := Dat → Mem → (Dat → Mem → Prop) → Prop

/-- a reading over data, as a reading of the hand layer -/
def Lf {α β : Type} (K : Kx) (W : WX) (R : Hp → β → α → Prop) (t : DEnv → Mem → (α → Mem → Prop) → Prop) : L2.St → Hp → (β → Hp → Prop) → Prop := fun σ H Q =>
  ∃ Γ G M Φ, Ex G H ∧ Sl K W G H M σ Γ ∧ MemOk K G H M ∧ t Γ M Φ ∧ ∀ v d G' H' M', Stp K G H M G' H' M' → R G' v d → Φ d M' → Q v H'
abbrev LE (K : Kx) (W : WX) (t : DTE) : TE := Lf K W (DP K) t
abbrev LT (K : Kx) (W : WX) (t : DTT) : TT := Lf K W (fun _ b c => b = c) t
abbrev LA (K : Kx) (W : WX) (t : DTA) : TA := Lf K W (DPs K) t
abbrev LO (K : Kx) (W : WX) (t : DTO) : TO := Lf K W (fun _ b c => b = c) t
/-- .. of operators, calls of built-ins, slices -/
def LOp (K : Kx) (r : DOp) : R2 := fun x y H Q => ∃ G M dx dy Φ, Ex G H ∧ MemOk K G H M ∧ DP K G x dx ∧ DP K G y dy ∧ r dx dy M Φ ∧ ∀ v d G' H' M', Stp K G H M G' H' M' → DP K G' v d → Φ d M' → Q v H'
def LUn (K : Kx) (r : DUn) : V → Hp → VK → Prop := fun x H Q => ∃ G M dx Φ, Ex G H ∧ MemOk K G H M ∧ DP K G x dx ∧ r dx M Φ ∧ ∀ v d G' H' M', Stp K G H M G' H' M' → DP K G' v d → Φ d M' → Q v H'
def LC (K : Kx) (r : DFn) : List V → Hp → VK → Prop := fun vs H Q => ∃ G M ds Φ, Ex G H ∧ MemOk K G H M ∧ DPs K G vs ds ∧ r ds M Φ ∧ ∀ v d G' H' M', Stp K G H M G' H' M' → DP K G' v d → Φ d M' → Q v H'
def LSl (K : Kx) (r : Dat → Option Int → Option Int → Mem → (Dat → Mem → Prop) → Prop) : V → Option Int → Option Int → Hp → VK → Prop := fun x lo hi H Q =>
  ∃ G M dx Φ, Ex G H ∧ MemOk K G H M ∧ DP K G x dx ∧ r dx lo hi M Φ ∧ ∀ v d G' H' M', Stp K G H M G' H' M' → DP K G' v d → Φ d M' → Q v H'
def LMt (K : Kx) (r : Dat → List Dat → Mem → (Dat → Mem → Prop) → Prop) : V → List V → Hp → VK → Prop := fun x vs H Q =>
  ∃ G M dx ds Φ, Ex G H ∧ MemOk K G H M ∧ DP K G x dx ∧ DPs K G vs ds ∧ r dx ds M Φ ∧ ∀ v d G' H' M', Stp K G H M G' H' M' → DP K G' v d → Φ d M' → Q v H'

theorem pe_wk {X : Cx} {e : Expr} {t t' : TE} (h : PE X e t) (w : ∀ σ H Q, t' σ H Q → t σ H Q) : PE X e t' := ⟨fun pins s σ H Q I q => h.run pins s σ H Q I (w σ H Q q)⟩
theorem pt_wk {X : Cx} {e : Expr} {t t' : TT} (h : PT X e t) (w : ∀ σ H Q, t' σ H Q → t σ H Q) : PT X e t' := ⟨fun pins s σ H Q I q => h.run pins s σ H Q I (w σ H Q q)⟩
theorem pw_wk {X : Cx} {e : Expr} {t t' : TT} (h : PW X e t) (w : ∀ σ H Q, t' σ H Q → t σ H Q) : PW X e t' := ⟨fun wh pins s σ H Q I q => h.run wh pins s σ H Q I (w σ H Q q)⟩
theorem pa_wk {X : Cx} {e : List Expr} {t t' : TA} (h : PA X e t) (w : ∀ σ H Q, t' σ H Q → t σ H Q) : PA X e t' := ⟨fun pos pins s σ H Q I q => h.run pos pins s σ H Q I (w σ H Q q)⟩
theorem po_wk {X : Cx} {e : Option Expr} {t t' : TO} (h : PO X e t) (w : ∀ σ H Q, t' σ H Q → t σ H Q) : PO X e t' := ⟨fun pins s σ H Q I q => h.run pins s σ H Q I (w σ H Q q)⟩
theorem pts_wk {X : Cx} {e : List Expr} {t t' : TT} (h : PTs X e t) (w : ∀ σ H Q, t' σ H Q → t σ H Q) : PTs X e t' := ⟨fun pins s σ H Q I q => h.run pins s σ H Q I (w σ H Q q)⟩
theorem ps_wk {X : Cx} {e : Stmt} {t t' : TS} (h : PS X e t) (w : ∀ D σ H, t' D σ H → t D σ H) : PS X e t' := ⟨fun pins s σ H D I q => h.run pins s σ H D I (w D σ H q)⟩
theorem pss_wk {X : Cx} {e : List Stmt} {t t' : TS} (h : PSs X e t) (w : ∀ D σ H, t' D σ H → t D σ H) : PSs X e t' := ⟨fun pins s σ H D I q => h.run pins s σ H D I (w D σ H q)⟩

section
variable {X : Cx} {W : WX} {a b c : Expr} {ta tb tc : DTE} {pos : Pos} {cA cB : DTT}
/-! ### names and constants -/
def dVar (i : Nat) : DTE := fun Γ M Φ => match Γ.sl[i]? with
  | some (some d) => Φ d M
  | _ => False
def dC (d : Dat) : DTE := fun _ M Φ => Φ d M
theorem wk_var {K : Kx} {W : WX} {i : Nat} : ∀ σ H Q, LE K W (dVar i) σ H Q → tVar i σ H Q := fun σ H Q ⟨Γ, G, M, Φ, e, s, m, h, k⟩ => by
  have h' : match Γ.sl[i]? with
    | some (some d) => Φ d M
    | _ => False := h
  cases q : Γ.sl[i]? with
  | none => rw [q] at h'; exact h'.elim
  | some o =>
    cases o with
    | none => rw [q] at h'; exact h'.elim
    | some d =>
      rw [q] at h'
      obtain ⟨v, h1, h2⟩ := s.o.2 i d q
      exact ⟨v, h1, k v d G H M (Stp.refl e m) h2 h'⟩
theorem dv (i : Nat) {x : Str} {pos : Pos} (hN : X.N[i]? = some x := by rfl) (hv : Vis X.env.scope x := by first | exact Or.inl rfl | exact Or.inr (Or.inl rfl) | exact Or.inr (Or.inr rfl)) (hd : (x == ("__debug__" : Str)) = false := by decide)
    (hcd : (x == ("__classdict__" : Str)) = false := by decide) : PE X (.Name x pos) (LE (kx X) W (dVar i)) := pe_wk (pe_var hN hv hd hcd) wk_var
theorem wk_c {K : Kx} {W : WX} {v : V} {d : Dat} (r : ∀ G, DP K G v d) : ∀ σ H Q, LE K W (dC d) σ H Q → tC v σ H Q := fun σ H Q ⟨Γ, G, M, Φ, e, s, m, h, k⟩ => k v d G H M (Stp.refl e m) (r G) h
theorem de_int {i j pos} : PE X (.Constant (.int i) j pos) (LE (kx X) W (dC (.int i))) := pe_wk pe_int (wk_c fun _ => .int i)
theorem de_bl {i j pos} : PE X (.Constant (.bool i) j pos) (LE (kx X) W (dC (.bl i))) := pe_wk pe_bl (wk_c fun _ => .bl i)
theorem de_non {j pos} : PE X (.Constant .none j pos) (LE (kx X) W (dC .non)) := pe_wk pe_non (wk_c fun _ => .non)
theorem de_str {i j pos} : PE X (.Constant (.str i) j pos) (LE (kx X) W (dC (.str i))) := pe_wk pe_str (wk_c fun _ => .str i)

/-! ### operators -/
def dOp (r : DOp) (ta tb : DTE) : DTE := fun Γ M Φ => ta Γ M fun x M1 => tb Γ M1 fun y M2 => r x y M2 Φ
def dUn (r : DUn) (ta : DTE) : DTE := fun Γ M Φ => ta Γ M fun x M1 => r x M1 Φ
theorem wk_op {K : Kx} {W : WX} {r : DOp} : ∀ σ H Q, LE K W (dOp r ta tb) σ H Q → tOp (LOp K r) (LE K W ta) (LE K W tb) σ H Q := fun σ H Q ⟨Γ, G, M, Φ, e, s, m, h, k⟩ =>
  ⟨Γ, G, M, _, e, s, m, h, fun x dx G1 H1 M1 t1 rx h1 => ⟨Γ, G1, M1, _, t1.ex', s.step t1, t1.mem, h1, fun y dy G2 H2 M2 t2 ry h2 =>
    ⟨G2, M2, dx, dy, Φ, t2.ex', t2.mem, rx.mono t2.ex, ry, h2, fun v d G3 H3 M3 t3 rv h3 => k v d G3 H3 M3 ((t1.trans t2).trans t3) rv h3⟩⟩⟩
theorem de_op {op : Operator} {r : DOp} (ho : OpR X (binaryOp op) (LOp (kx X) r)) (ha : PE X a (LE (kx X) W ta)) (hb : PE X b (LE (kx X) W tb)) : PE X (.BinOp a op b pos) (LE (kx X) W (dOp r ta tb)) := pe_wk (pe_op ho ha hb) wk_op
theorem de_ix {r : DOp} (ho : IxR X (LOp (kx X) r)) (ha : PE X a (LE (kx X) W ta)) (hb : PE X b (LE (kx X) W tb)) (hs : PlainIx b) : PE X (.Subscript a b pos) (LE (kx X) W (dOp r ta tb)) := pe_wk (pe_ix ho ha hb hs) wk_op
theorem de_cmp {op : CmpOp} {r : DOp} (ho : OpR X (compareOp op) (LOp (kx X) r)) (ha : PE X a (LE (kx X) W ta)) (hb : PE X b (LE (kx X) W tb)) (hm : behindInMarks op b = false) : PE X (.Compare a [op] [b] pos) (LE (kx X) W (dOp r ta tb)) := pe_wk (pe_cmpR ho ha hb hm) wk_op
theorem de_un {op : UnaryOp} {r : DUn} (ho : UnR X (unaryOp op) (LUn (kx X) r)) (ha : PE X a (LE (kx X) W ta)) : PE X (.UnaryOp op a pos) (LE (kx X) W (dUn r ta)) := pe_wk (pe_un ho ha) fun σ H Q ⟨Γ, G, M, Φ, e, s, m, h, k⟩ =>
  ⟨Γ, G, M, _, e, s, m, h, fun x dx G1 H1 M1 t1 rx h1 => ⟨G1, M1, dx, Φ, t1.ex', t1.mem, rx, h1, fun v d G3 H3 M3 t3 rv h3 => k v d G3 H3 M3 (t1.trans t3) rv h3⟩⟩
/-- a value that is a bool, as a test -/
def onB (Φ : Bool → Mem → Prop) : Dat → Mem → Prop := fun d M => match d with
  | .bl b => Φ b M
  | _ => False
theorem onB_get {Φ : Bool → Mem → Prop} {d : Dat} {M : Mem} (h : onB Φ d M) : ∃ b, d = .bl b ∧ Φ b M := by
  cases d <;> first | exact ⟨_, rfl, h⟩ | exact (show False from h).elim
def dTest (t : DTE) : DTT := fun Γ M Φ => t Γ M (onB Φ)
theorem dt_cmp {op : CmpOp} {r : DOp} (ho : OpR X (compareOp op) (LOp (kx X) r)) (ha : PE X a (LE (kx X) W ta)) (hb : PE X b (LE (kx X) W tb)) (hm : behindInMarks op b = false) : PT X (.Compare a [op] [b] pos) (LT (kx X) W (dTest (dOp r ta tb))) :=
  pt_wk (pt_cmpR ho ha hb hm) fun σ H Q ⟨Γ, G, M, Φ, e, s, m, h, k⟩ => wk_op σ H _ ⟨Γ, G, M, _, e, s, m, h, fun v d G1 H1 M1 t r h1 => by
    obtain ⟨b, rfl, q⟩ := onB_get h1
    cases r
    exact ⟨b, rfl, k b b G1 H1 M1 t rfl q⟩⟩
/-- a value (a call's, a name's ..) that is a bool, as a test -/
theorem dt_val {e : Expr} {t : DTE} (h : PE X e (LE (kx X) W t)) (he : ∀ whole, isTrue e X.env whole = (do let v ← whole; standAt e.pos; holding [v] (truthy v)) := by intro _; rfl) : PT X e (LT (kx X) W (dTest t)) :=
  pt_wk (pt_val h he) fun σ H Q ⟨Γ, G, M, Φ, e, s, m, h, k⟩ => ⟨Γ, G, M, _, e, s, m, h, fun v d G1 H1 M1 t r h1 => by
    obtain ⟨b, rfl, q⟩ := onB_get h1
    cases r
    exact ⟨b, rfl, k b b G1 H1 M1 t rfl q⟩⟩
def dChain (r r' : DOp) (ta tb tc : DTE) : DTE := fun Γ M Φ => ta Γ M fun x M1 => tb Γ M1 fun y M2 => r x y M2 (onB fun k M3 => if k = true then tc Γ M3 fun z M4 => r' y z M4 Φ else Φ (.bl false) M3)
theorem wk_chain {K : Kx} {W : WX} {r r' : DOp} : ∀ σ H Q, LE K W (dChain r r' ta tb tc) σ H Q → tChain (LOp K r) (LOp K r') (LE K W ta) (LE K W tb) (LE K W tc) σ H Q := fun σ H Q ⟨Γ, G, M, Φ, e, s, m, h, k⟩ =>
  ⟨Γ, G, M, _, e, s, m, h, fun x dx G1 H1 M1 t1 rx h1 => ⟨Γ, G1, M1, _, t1.ex', s.step t1, t1.mem, h1, fun y dy G2 H2 M2 t2 ry h2 =>
    ⟨G2, M2, dx, dy, _, t2.ex', t2.mem, rx.mono t2.ex, ry, h2, fun v d G3 H3 M3 t3 rv h3 => by
      obtain ⟨b, rfl, q⟩ := onB_get h3
      cases rv
      refine ⟨b, rfl, ?_⟩
      have t13 := (t1.trans t2).trans t3
      cases b with
      | false =>
        rw [if_neg Bool.false_ne_true] at q ⊢
        exact k (.bl false) (.bl false) G3 H3 M3 t13 (.bl false) q
      | true =>
        rw [if_pos rfl] at q ⊢
        exact ⟨Γ, G3, M3, _, t3.ex', s.step t13, t3.mem, q, fun z dz G4 H4 M4 t4 rz h4 => ⟨G4, M4, dy, dz, Φ, t4.ex', t4.mem, ry.mono (t3.ex.trans t4.ex), rz, h4, fun v d G5 H5 M5 t5 rv h5 => k v d G5 H5 M5 ((t13.trans t4).trans t5) rv h5⟩⟩⟩⟩⟩
theorem de_chain {op op' : CmpOp} {r r' : DOp} (ho : OpR X (compareOp op) (LOp (kx X) r)) (ho' : OpR X (compareOp op') (LOp (kx X) r')) (ha : PE X a (LE (kx X) W ta)) (hb : PE X b (LE (kx X) W tb)) (hc : PE X c (LE (kx X) W tc))
    (hm : lastMarks [op, op'] [b, c] = false := by with_unfolding_all rfl) : PE X (.Compare a [op, op'] [b, c] pos) (LE (kx X) W (dChain r r' ta tb tc)) := pe_wk (pe_chain ho ho' ha hb hc hm) wk_chain
theorem dt_chain {op op' : CmpOp} {r r' : DOp} (ho : OpR X (compareOp op) (LOp (kx X) r)) (ho' : OpR X (compareOp op') (LOp (kx X) r')) (ha : PE X a (LE (kx X) W ta)) (hb : PE X b (LE (kx X) W tb)) (hc : PE X c (LE (kx X) W tc))
    (hm : lastMarks [op, op'] [b, c] = false := by with_unfolding_all rfl) : PT X (.Compare a [op, op'] [b, c] pos) (LT (kx X) W (dTest (dChain r r' ta tb tc))) :=
  pt_wk (pt_chain ho ho' ha hb hc hm) fun σ H Q ⟨Γ, G, M, Φ, e, s, m, h, k⟩ => wk_chain σ H _ ⟨Γ, G, M, _, e, s, m, h, fun v d G1 H1 M1 t r h1 => by
    obtain ⟨b, rfl, q⟩ := onB_get h1
    cases r
    exact ⟨b, rfl, k b b G1 H1 M1 t rfl q⟩⟩

/-! ### and, or, not, if -/
def dAnd (t u : DTT) : DTT := fun Γ M Φ => t Γ M fun c M1 => if c = true then u Γ M1 Φ else Φ false M1
def dOr (t u : DTT) : DTT := fun Γ M Φ => t Γ M fun c M1 => if c = true then Φ true M1 else u Γ M1 Φ
def dNot (t : DTT) : DTT := fun Γ M Φ => t Γ M fun c M1 => Φ (!c) M1
theorem wk_and {K : Kx} {W : WX} : ∀ σ H Q, LT K W (dAnd cA cB) σ H Q → tAnd (LT K W cA) (LT K W cB) σ H Q := fun σ H Q ⟨Γ, G, M, Φ, e, s, m, h, k⟩ =>
  ⟨Γ, G, M, _, e, s, m, h, fun x dx G1 H1 M1 t1 rx h1 => by
    subst rx
    cases x with
    | true =>
      rw [if_pos rfl] at h1 ⊢
      exact ⟨Γ, G1, M1, Φ, t1.ex', s.step t1, t1.mem, h1, fun v d G2 H2 M2 t2 r h2 => k v d G2 H2 M2 (t1.trans t2) r h2⟩
    | false =>
      rw [if_neg Bool.false_ne_true] at h1 ⊢
      exact k false false G1 H1 M1 t1 rfl h1⟩
theorem wk_or {K : Kx} {W : WX} : ∀ σ H Q, LT K W (dOr cA cB) σ H Q → tOr (LT K W cA) (LT K W cB) σ H Q := fun σ H Q ⟨Γ, G, M, Φ, e, s, m, h, k⟩ =>
  ⟨Γ, G, M, _, e, s, m, h, fun x dx G1 H1 M1 t1 rx h1 => by
    subst rx
    cases x with
    | false =>
      rw [if_neg Bool.false_ne_true] at h1 ⊢
      exact ⟨Γ, G1, M1, Φ, t1.ex', s.step t1, t1.mem, h1, fun v d G2 H2 M2 t2 r h2 => k v d G2 H2 M2 (t1.trans t2) r h2⟩
    | true =>
      rw [if_pos rfl] at h1 ⊢
      exact k true true G1 H1 M1 t1 rfl h1⟩
variable {rest : List Expr}
theorem dw_and1 (ha : PT X a (LT (kx X) W cA)) : PW X (.BoolOp .And [a] pos) (LT (kx X) W cA) := pw_and1 ha
theorem dw_or1 (ha : PT X a (LT (kx X) W cA)) : PW X (.BoolOp .Or [a] pos) (LT (kx X) W cA) := pw_or1 ha
theorem dw_and (ha : PT X a (LT (kx X) W cA)) (hb : PW X (.BoolOp .And (b :: rest) pos) (LT (kx X) W cB)) : PW X (.BoolOp .And (a :: b :: rest) pos) (LT (kx X) W (dAnd cA cB)) := pw_wk (pw_and ha hb) wk_and
theorem dw_or (ha : PT X a (LT (kx X) W cA)) (hb : PW X (.BoolOp .Or (b :: rest) pos) (LT (kx X) W cB)) : PW X (.BoolOp .Or (a :: b :: rest) pos) (LT (kx X) W (dOr cA cB)) := pw_wk (pw_or ha hb) wk_or
theorem dt_not (ha : PT X a (LT (kx X) W cA)) : PT X (.UnaryOp .Not a pos) (LT (kx X) W (dNot cA)) := pt_wk (pt_not ha) fun σ H Q ⟨Γ, G, M, Φ, e, s, m, h, k⟩ =>
  ⟨Γ, G, M, _, e, s, m, h, fun x dx G1 H1 M1 t1 rx h1 => by subst rx; exact k (!x) (!x) G1 H1 M1 t1 rfl h1⟩
def dAndV (ta tb : DTE) : DTE := fun Γ M Φ => ta Γ M (onB fun c M1 => if c = true then tb Γ M1 Φ else Φ (.bl false) M1)
def dOrV (ta tb : DTE) : DTE := fun Γ M Φ => ta Γ M (onB fun c M1 => if c = true then Φ (.bl true) M1 else tb Γ M1 Φ)
def dNotV (ta : DTE) : DTE := fun Γ M Φ => ta Γ M (onB fun c M1 => Φ (.bl (!c)) M1)
theorem de_one {op} {t : DTE} (h : PE X a (LE (kx X) W t)) : PE X (.BoolOp op [a] pos) (LE (kx X) W t) := pe_one h
theorem de_and (ha : PE X a (LE (kx X) W ta)) (hb : PE X (.BoolOp .And (b :: rest) pos) (LE (kx X) W tb)) : PE X (.BoolOp .And (a :: b :: rest) pos) (LE (kx X) W (dAndV ta tb)) := pe_wk (pe_and ha hb) fun σ H Q ⟨Γ, G, M, Φ, e, s, m, h, k⟩ =>
  ⟨Γ, G, M, _, e, s, m, h, fun x dx G1 H1 M1 t1 rx h1 => by
    obtain ⟨b, rfl, q⟩ := onB_get h1
    cases rx
    refine ⟨b, rfl, ?_⟩
    cases b with
    | true =>
      rw [if_pos rfl] at q ⊢
      exact ⟨Γ, G1, M1, Φ, t1.ex', s.step t1, t1.mem, q, fun v d G2 H2 M2 t2 r h2 => k v d G2 H2 M2 (t1.trans t2) r h2⟩
    | false =>
      rw [if_neg Bool.false_ne_true] at q ⊢
      exact k _ _ G1 H1 M1 t1 (.bl false) q⟩
theorem de_or (ha : PE X a (LE (kx X) W ta)) (hb : PE X (.BoolOp .Or (b :: rest) pos) (LE (kx X) W tb)) : PE X (.BoolOp .Or (a :: b :: rest) pos) (LE (kx X) W (dOrV ta tb)) := pe_wk (pe_or ha hb) fun σ H Q ⟨Γ, G, M, Φ, e, s, m, h, k⟩ =>
  ⟨Γ, G, M, _, e, s, m, h, fun x dx G1 H1 M1 t1 rx h1 => by
    obtain ⟨b, rfl, q⟩ := onB_get h1
    cases rx
    refine ⟨b, rfl, ?_⟩
    cases b with
    | false =>
      rw [if_neg Bool.false_ne_true] at q ⊢
      exact ⟨Γ, G1, M1, Φ, t1.ex', s.step t1, t1.mem, q, fun v d G2 H2 M2 t2 r h2 => k v d G2 H2 M2 (t1.trans t2) r h2⟩
    | true =>
      rw [if_pos rfl] at q ⊢
      exact k _ _ G1 H1 M1 t1 (.bl true) q⟩
theorem de_not (ha : PE X a (LE (kx X) W ta)) : PE X (.UnaryOp .Not a pos) (LE (kx X) W (dNotV ta)) := pe_wk (pe_not ha) fun σ H Q ⟨Γ, G, M, Φ, e, s, m, h, k⟩ =>
  ⟨Γ, G, M, _, e, s, m, h, fun x dx G1 H1 M1 t1 rx h1 => by
    obtain ⟨b, rfl, q⟩ := onB_get h1
    cases rx
    exact ⟨b, rfl, k _ _ G1 H1 M1 t1 (.bl _) q⟩⟩
def dIf (c : DTT) (ta tb : DTE) : DTE := fun Γ M Φ => c Γ M fun b M1 => if b = true then ta Γ M1 Φ else tb Γ M1 Φ
theorem de_if {c : Expr} (hc : PT X c (LT (kx X) W cA)) (ha : PE X a (LE (kx X) W ta)) (hb : PE X b (LE (kx X) W tb)) : PE X (.IfExp c a b pos) (LE (kx X) W (dIf cA ta tb)) := pe_wk (pe_ifExp hc ha hb) fun σ H Q ⟨Γ, G, M, Φ, e, s, m, h, k⟩ =>
  ⟨Γ, G, M, _, e, s, m, h, fun x dx G1 H1 M1 t1 rx h1 => by
    subst rx
    cases x with
    | true =>
      rw [if_pos rfl] at h1 ⊢
      exact ⟨Γ, G1, M1, Φ, t1.ex', s.step t1, t1.mem, h1, fun v d G2 H2 M2 t2 r h2 => k v d G2 H2 M2 (t1.trans t2) r h2⟩
    | false =>
      rw [if_neg Bool.false_ne_true] at h1 ⊢
      exact ⟨Γ, G1, M1, Φ, t1.ex', s.step t1, t1.mem, h1, fun v d G2 H2 M2 t2 r h2 => k v d G2 H2 M2 (t1.trans t2) r h2⟩⟩

/-! ### arguments, displays -/
def dNil : DTA := fun _ M Φ => Φ [] M
def dCons (ta : DTE) (tr : DTA) : DTA := fun Γ M Φ => ta Γ M fun x M1 => tr Γ M1 fun xs M2 => Φ (x :: xs) M2
variable {es : List Expr} {tr : DTA}
theorem da_nil : PA X [] (LA (kx X) W dNil) := pa_wk pa_nil fun σ H Q ⟨Γ, G, M, Φ, e, s, m, h, k⟩ => k [] [] G H M (Stp.refl e m) .nil h
theorem wk_cons {K : Kx} {W : WX} : ∀ σ H Q, LA K W (dCons ta tr) σ H Q → tCons (LE K W ta) (LA K W tr) σ H Q := fun σ H Q ⟨Γ, G, M, Φ, e, s, m, h, k⟩ =>
  ⟨Γ, G, M, _, e, s, m, h, fun x dx G1 H1 M1 t1 rx h1 => ⟨Γ, G1, M1, _, t1.ex', s.step t1, t1.mem, h1, fun y dy G2 H2 M2 t2 ry h2 => k (x :: y) (dx :: dy) G2 H2 M2 (t1.trans t2) (.cons (rx.mono t2.ex) ry) h2⟩⟩
theorem da_cons (ha : PE X a (LE (kx X) W ta)) (hr : PA X es (LA (kx X) W tr)) (he : starEach (a :: es) X.env = (false, eval a X.env) :: starEach es X.env := by rfl) : PA X (a :: es) (LA (kx X) W (dCons ta tr)) := pa_wk (pa_cons ha hr he) wk_cons
def dTup (t : DTA) : DTE := fun Γ M Φ => t Γ M fun ds M1 => ds.length ≤ sizeLine ∧ Φ (.tup ds) M1
def dLst (t : DTA) : DTE := fun Γ M Φ => t Γ M fun ds M1 => ds.length ≤ sizeLine ∧ Φ (.lst ds) M1
/-- a display that is a list of one's own -/
def dLstO (t : DTA) : DTE := fun Γ M Φ => t Γ M fun ds M1 => ds.length ≤ sizeLine ∧ ∀ p, M1 p = none → Φ (.loc p) (M1.put p (.lst ds))
end
section
variable {X : Cx} {W : WX} {a b c : Expr} {ta tb tc : DTE} {pos : Pos} {es : List Expr} {tr : DTA}
theorem de_tup {x1 : _} (ht : PA X es (LA (kx X) W tr)) : PE X (.Tuple es x1 pos) (LE (kx X) W (dTup tr)) := pe_wk (pe_tup ht) fun σ H Q ⟨Γ, G, M, Φ, e, s, m, h, k⟩ =>
  ⟨Γ, G, M, _, e, s, m, h, fun xs ds G1 H1 M1 t1 r h1 => ⟨by rw [r.len]; exact h1.1, fun p hp => k (.ref p) (.tup ds) _ _ M1 (t1.trans (Stp.alloc t1.ex' t1.mem hp)) (.tup upd_same (r.mono (Ex.new (t1.ex'.free hp)))) h1.2⟩⟩
theorem de_lst (ht : PA X es (LA (kx X) W tr)) : PE X (.List es pos) (LE (kx X) W (dLst tr)) := pe_wk (pe_lst ht) fun σ H Q ⟨Γ, G, M, Φ, e, s, m, h, k⟩ =>
  ⟨Γ, G, M, _, e, s, m, h, fun xs ds G1 H1 M1 t1 r h1 => ⟨by rw [r.len]; exact h1.1, fun p hp => k (.ref p) (.lst ds) _ _ M1 (t1.trans (Stp.alloc t1.ex' t1.mem hp)) (.lst upd_same (r.mono (Ex.new (t1.ex'.free hp)))) h1.2⟩⟩
theorem de_lstO (ht : PA X es (LA (kx X) W tr)) : PE X (.List es pos) (LE (kx X) W (dLstO tr)) := pe_wk (pe_lst ht) fun σ H Q ⟨Γ, G, M, Φ, e, s, m, h, k⟩ =>
  ⟨Γ, G, M, _, e, s, m, h, fun xs ds G1 H1 M1 t1 r h1 => ⟨by rw [r.len]; exact h1.1, fun p hp => k (.ref p) (.loc p) _ _ _ (t1.trans (Stp.own t1.ex' t1.mem hp r)) (.loc p) (h1.2 p (mem_none t1.mem hp))⟩⟩

/-! ### calls -/
def dCB (r : DFn) (t : DTA) : DTE := fun Γ M Φ => t Γ M fun ds M1 => r ds M1 Φ
theorem wk_cb {K : Kx} {W : WX} {r : DFn} {t : DTA} : ∀ σ H Q, LE K W (dCB r t) σ H Q → tCB (LC K r) (LA K W t) σ H Q := fun σ H Q ⟨Γ, G, M, Φ, e, s, m, h, k⟩ =>
  ⟨Γ, G, M, _, e, s, m, h, fun xs ds G1 H1 M1 t1 rx h1 => ⟨G1, M1, ds, Φ, t1.ex', t1.mem, rx, h1, fun v d G3 H3 M3 t3 rv h3 => k v d G3 H3 M3 (t1.trans t3) rv h3⟩⟩
theorem de_callB {id : String} {r : DFn} {x : Str} {p : Pos} (hc : CallR X (.builtin id) (LC (kx X) r)) (hg : Gl X x) (hm : X.mg x = none) (hv : bootBuiltins x = some (.builtin id)) (ha : PA X (a :: es) (LA (kx X) W tr)) (hn : x ≠ "__name__" := by decide) (hdb : (x == ("__debug__" : Str)) = false := by decide)
    (he : starEach (a :: es) X.env = (false, eval a X.env) :: starEach es X.env := by rfl) (hpl : (backTo pos (starEach es X.env)).any (·.1) = false := by rfl) : PE X (.Call (.Name x p) (a :: es) [] pos) (LE (kx X) W (dCB r tr)) := pe_wk (pe_callB hc hg hm hv ha hn hdb he hpl) wk_cb
theorem de_callTy {T : String} {r : DFn} {x : Str} {p : Pos} (hc : CallR X (.type T) (LC (kx X) r)) (hg : Gl X x) (hm : X.mg x = none) (hv : bootBuiltins x = some (.type T)) (ha : PA X (a :: es) (LA (kx X) W tr)) (hn : x ≠ "__name__" := by decide) (hdb : (x == ("__debug__" : Str)) = false := by decide)
    (he : starEach (a :: es) X.env = (false, eval a X.env) :: starEach es X.env := by rfl) (hpl : (backTo pos (starEach es X.env)).any (·.1) = false := by rfl) : PE X (.Call (.Name x p) (a :: es) [] pos) (LE (kx X) W (dCB r tr)) := pe_wk (pe_callTy hc hg hm hv ha hn hdb he hpl) wk_cb
/-- a def's promise over data: arguments, store, what follows, what is wanted of an exception -/
abbrev DXc := Str → List Str → List Dat → Mem → Prop
abbrev DFnX := List Dat → Mem → (Dat → Mem → Prop) → DXc → Prop
def spX (K : Kx) (t : DFnX) : Sp := fun vs H Q E => ∃ G M ds Φ Ψ, Ex G H ∧ MemOk K G H M ∧ DPs K G vs ds ∧ t ds M Φ Ψ ∧ (∀ v d G' H' M', Stp K G H M G' H' M' → DP K G' v d → Φ d M' → Q v H') ∧
  ∀ c ns fs C da G' H' M', Stp K G H M G' H' M' → K.mg c = some (.ref C) → ExD K G' da ns fs → Ψ c ns fs M' → E (.ref C) da H'
def exAt (Γ : DEnv) : DXc := fun c ns fs M => Γ.ex c ns fs Γ.sl M
def dCall (sp : DFnX) (t : DTA) : DTE := fun Γ M Φ => t Γ M fun ds M1 => sp ds M1 Φ (exAt Γ)
theorem Sl.raise {K : Kx} {W : WX} {G H : Hp} {M : Mem} {σ : L2.St} {Γ : DEnv} (s : Sl K W G H M σ Γ) {c : Str} {ns : List Str} {fs : List Dat} {C : Addr} {da : Option Addr} {G' H' : Hp} {M' : Mem} (t : Stp K G H M G' H' M') (hc : K.mg c = some (.ref C)) (hd : ExD K G' da ns fs) (h : exAt Γ c ns fs M') : W (.ref C) da σ H' :=
  s.x c ns fs C da σ Γ.sl G' H' M' t (s.o.mono t.ex) hc hd h
theorem wk_call {K : Kx} {W : WX} {sp : DFnX} {t : DTA} : ∀ σ H Q, LE K W (dCall sp t) σ H Q → tCallS (spX K sp) (WE W) (LA K W t) σ H Q := fun σ H Q ⟨Γ, G, M, Φ, e, s, m, h, k⟩ =>
  ⟨Γ, G, M, _, e, s, m, h, fun xs ds G1 H1 M1 t1 rx h1 => ⟨G1, M1, ds, Φ, _, t1.ex', t1.mem, rx, h1, fun v d G3 H3 M3 t3 rv h3 => k v d G3 H3 M3 (t1.trans t3) rv h3, fun c ns fs C da G3 H3 M3 t3 hc hd h3 => s.raise (t1.trans t3) hc hd h3⟩⟩
theorem de_call {k : Nat} {f : Addr} {fd : FuncData} {ps : List Str} {sp : DFnX} {x : Str} {p : Pos} (tk : Takes X W) (F : FnOk X.prog X.w X.K X.mg X.base (L2.CX X.prog X.w) k f fd ps (spX (kx X) sp)) (hr : Room k X.A) (hg : Gl X x) (hm : X.mg x = some (.ref f)) (hk : PySem.W.keepIn X.K (.ref f) = true) (hb : Binds X.K fd ps [])
    (ha : PA X (a :: es) (LA (kx X) W tr)) (hdb : (x == ("__debug__" : Str)) = false := by decide) (he : starEach (a :: es) X.env = (false, eval a X.env) :: starEach es X.env := by rfl) (hpl : (backTo pos (starEach es X.env)).any (·.1) = false := by rfl) :
    PE X (.Call (.Name x p) (a :: es) [] pos) (LE (kx X) W (dCall sp tr)) := pe_wk (pe_inS F hr hg hm hk hb (fun σ => passAt tk σ) ha hdb he hpl) wk_call
/-- .. without arguments; it lets nothing out -/
def dCall0 (sp : DFnX) : DTE := fun _ M Φ => sp [] M Φ (fun _ _ _ _ => False)
theorem de_call0 {k : Nat} {f : Addr} {fd : FuncData} {ps : List Str} {sp : DFnX} {x : Str} {p : Pos} (F : FnOk X.prog X.w X.K X.mg X.base (L2.CX X.prog X.w) k f fd ps (spX (kx X) sp)) (hr : Room k X.A) (hg : Gl X x) (hm : X.mg x = some (.ref f)) (hk : PySem.W.keepIn X.K (.ref f) = true) (hb : Binds X.K fd ps [])
    (hdb : (x == ("__debug__" : Str)) = false := by decide) : PE X (.Call (.Name x p) [] [] pos) (LE (kx X) W (dCall0 sp)) := pe_wk (pe_in0 F hr hg hm hk hb .nil passL hdb) fun σ H Q ⟨Γ, G, M, Φ, e, s, m, h, k⟩ => ⟨G, M, [], Φ, _, e, m, .nil, h, k, fun _ _ _ _ _ _ _ _ _ _ _ z => z.elim⟩

/-! ### slices -/
def dNoPart : DTO := fun _ M Φ => Φ none M
def onI (Φ : Option Int → Mem → Prop) : Dat → Mem → Prop := fun d M => match d with
  | .int i => Φ (some i) M
  | _ => False
def dPart (t : DTE) : DTO := fun Γ M Φ => t Γ M (onI Φ)
theorem do_none : PO X none (LO (kx X) W dNoPart) := po_wk po_none fun σ H Q ⟨Γ, G, M, Φ, e, s, m, h, k⟩ => k none none G H M (Stp.refl e m) rfl h
theorem do_some (ha : PE X a (LE (kx X) W ta)) : PO X (some a) (LO (kx X) W (dPart ta)) := po_wk (po_some ha) fun σ H Q ⟨Γ, G, M, Φ, e, s, m, h, k⟩ =>
  ⟨Γ, G, M, _, e, s, m, h, fun x dx G1 H1 M1 t1 rx h1 => by
    cases dx with
    | int i =>
      cases rx
      exact ⟨i, rfl, k (some i) (some i) G1 H1 M1 t1 rfl h1⟩
    | _ => exact (show False from h1).elim⟩
def dSl (r : Dat → Option Int → Option Int → Mem → (Dat → Mem → Prop) → Prop) (te : DTE) (tl th : DTO) : DTE := fun Γ M Φ => te Γ M fun x M1 => tl Γ M1 fun l M2 => th Γ M2 fun u M3 => r x l u M3 Φ
theorem de_slice {r : Dat → Option Int → Option Int → Mem → (Dat → Mem → Prop) → Prop} {lo hi : Option Expr} {p2 : Pos} {tl th : DTO} (hr : SlR X (LSl (kx X) r)) (he : PE X a (LE (kx X) W ta)) (hl : PO X lo (LO (kx X) W tl)) (hu : PO X hi (LO (kx X) W th)) :
    PE X (.Subscript a (.Slice lo hi none p2) pos) (LE (kx X) W (dSl r ta tl th)) := pe_wk (pe_slice hr he hl hu) fun σ H Q ⟨Γ, G, M, Φ, e, s, m, h, k⟩ =>
  ⟨Γ, G, M, _, e, s, m, h, fun x dx G1 H1 M1 t1 rx h1 => ⟨Γ, G1, M1, _, t1.ex', s.step t1, t1.mem, h1, fun l l' G2 H2 M2 t2 rl h2 => ⟨Γ, G2, M2, _, t2.ex', s.step (t1.trans t2), t2.mem, h2, fun u u' G3 H3 M3 t3 ru h3 => by
    subst rl ru
    exact ⟨G3, M3, dx, Φ, t3.ex', t3.mem, rx.mono (t2.ex.trans t3.ex), h3, fun v d G4 H4 M4 t4 rv h4 => k v d G4 H4 M4 (((t1.trans t2).trans t3).trans t4) rv h4⟩⟩⟩⟩
end
end EX
/-! The data layer 3: targets, what is walked, comprehensions, statements, defs. -/
namespace EX
open PySem PySem.Spec PyProof.Rows L2

structure DEnds where
  nx : DEnv → Mem → Prop
  rt : Dat → Mem → Prop
  bk : DEnv → Mem → Prop
  ct : DEnv → Mem → Prop
abbrev DTS := DEnds → DEnv → Mem → Prop
/-- a statement's reading over data, as a reading of the hand layer -/
def LS (K : Kx) (W : WX) (t : DTS) : TS := fun D σ H => ∃ Γ G M DD, Ex G H ∧ Sl K W G H M σ Γ ∧ MemOk K G H M ∧ t DD Γ M ∧
  (∀ σ' Γ' G' H' M', Stp K G H M G' H' M' → Sl K W G' H' M' σ' Γ' → DD.nx Γ' M' → D.nx σ' H') ∧
  (∀ v d G' H' M', Stp K G H M G' H' M' → DP K G' v d → DD.rt d M' → D.rt v H') ∧
  (∀ σ' Γ' G' H' M', Stp K G H M G' H' M' → Sl K W G' H' M' σ' Γ' → DD.bk Γ' M' → D.bk σ' H') ∧
  (∀ σ' Γ' G' H' M', Stp K G H M G' H' M' → Sl K W G' H' M' σ' Γ' → DD.ct Γ' M' → D.ct σ' H')

theorem set_swap {σ : L2.St} {i j : Nat} {a b : Option V} (h : i ≠ j) : (σ.set i a).set j b = (σ.set j b).set i a := List.set_comm a b h
theorem wipe_set_out {σ : L2.St} {i : Nat} {a : Option V} : ∀ {vs : List Nat}, i ∉ vs → wipe (σ.set i a) vs = (wipe σ vs).set i a
  | [], _ => rfl
  | v :: vs, h => by
    have h1 : i ≠ v := fun z => h (by rw [z]; exact List.mem_cons_self)
    show (wipe (σ.set i a) vs).set v none = ((wipe σ vs).set v none).set i a
    rw [wipe_set_out fun z => h (List.mem_cons_of_mem _ z), set_swap h1]
theorem wipe_set_in {σ : L2.St} {i : Nat} {a : Option V} : ∀ {vs : List Nat}, i ∈ vs → wipe (σ.set i a) vs = wipe σ vs
  | v :: vs, h => by
    show (wipe (σ.set i a) vs).set v none = (wipe σ vs).set v none
    by_cases hi : i ∈ vs
    · rw [wipe_set_in hi]
    · have hv : i = v := by
        rcases List.mem_cons.mp h with z | z
        · exact z
        · exact absurd z hi
      subst hv
      rw [wipe_set_out hi, List.set_set]

/-! ### targets: names, and tuples of targets -/
inductive Pat where
  | nm (i : Nat)
  | tu (ps : List Pat)
mutual
def Pat.dg : Pat → Dat → DEnv → Option DEnv
  | .nm i, d, Γ => some (Γ.set i (some d))
  | .tu ps, .tup ds, Γ => Pat.dgs ps ds Γ
  | .tu _, _, _ => none
def Pat.dgs : List Pat → List Dat → DEnv → Option DEnv
  | [], [], Γ => some Γ
  | p :: ps, d :: ds, Γ => (p.dg d Γ).bind fun Γ' => Pat.dgs ps ds Γ'
  | _, _, _ => none
end
mutual
def Pat.tg (K : Kx) : Pat → TG
  | .nm i => gName i
  | .tu ps => gTup K.K ps.length (Pat.tgs K ps)
def Pat.tgs (K : Kx) : List Pat → TGs
  | [] => gNil
  | p :: ps => gCons (p.tg K) (Pat.tgs K ps)
end
mutual
def Pat.ix : Pat → List Nat
  | .nm i => [i]
  | .tu ps => Pat.ixs ps
def Pat.ixs : List Pat → List Nat
  | [] => []
  | p :: ps => p.ix ++ Pat.ixs ps
end
section
variable {K : Kx} {W : WX} {G H : Hp} {M : Mem} {σ : L2.St} {Γ Γ' : DEnv}
theorem DP.sqt {F : PySem.W.Frag} {a : Addr} {xs : List V} (e : Ex G H) (h : G a = some (.tup xs)) : SqT F H a xs := .inl (.inl (e _ _ h))
theorem DP.sql {F : PySem.W.Frag} {a : Addr} {xs : List V} (e : Ex G H) (h : G a = some (.lst xs)) : SqL F H a xs := .inl (.inl (e _ _ h))
mutual
theorem Pat.sound (e : Ex G H) : ∀ (p : Pat) {σ : L2.St} {Γ Γ' : DEnv} {v : V} {d : Dat} {Q : L2.St → Hp → Prop}, Sl K W G H M σ Γ → DP K G v d → p.dg d Γ = some Γ' → (∀ σ', Sl K W G H M σ' Γ' → (∀ vs, (∀ i ∈ p.ix, i ∈ vs) → wipe σ' vs = wipe σ vs) → Q σ' H) → p.tg K v σ H Q
  | .nm i, σ, Γ, Γ', v, d, Q, s, r, h, k => by
    have e1 : Γ.set i (some d) = Γ' := Option.some.inj h
    subst e1
    refine k (σ.set i (some v)) (s.set r i) fun vs hv => ?_
    have hi : i ∈ vs := hv i (by simp [Pat.ix])
    exact wipe_set_in hi
  | .tu ps, σ, Γ, Γ', v, d, Q, s, r, h, k => by
    cases r with
    | @tup a xs ds ha hr =>
      have hl : xs.length = ps.length := Pat.lens ps hr h
      refine ⟨a, xs, rfl, .inl (.inl (e _ _ ha)), hl, ?_⟩
      exact Pat.sounds e ps s hr h fun σ' s' w => k σ' s' w
    | _ => cases h
theorem Pat.sounds (e : Ex G H) : ∀ (ps : List Pat) {σ : L2.St} {Γ Γ' : DEnv} {vs : List V} {ds : List Dat} {Q : L2.St → Hp → Prop}, Sl K W G H M σ Γ → DPs K G vs ds → Pat.dgs ps ds Γ = some Γ' → (∀ σ', Sl K W G H M σ' Γ' → (∀ ws, (∀ i ∈ Pat.ixs ps, i ∈ ws) → wipe σ' ws = wipe σ ws) → Q σ' H) → Pat.tgs K ps vs σ H Q
  | [], σ, Γ, Γ', vs, ds, Q, s, r, h, k => by
    cases r with
    | nil =>
      have e1 : Γ = Γ' := Option.some.inj h
      subst e1
      exact ⟨rfl, k σ s fun _ _ => rfl⟩
    | cons _ _ => cases h
  | p :: ps, σ, Γ, Γ', vs, ds, Q, s, r, h, k => by
    cases r with
    | nil => cases h
    | @cons v vs d ds r1 r2 =>
      have h' : (p.dg d Γ).bind (fun Γ1 => Pat.dgs ps ds Γ1) = some Γ' := h
      cases q : p.dg d Γ with
      | none => rw [q] at h'; cases h'
      | some Γ1 =>
        rw [q] at h'
        refine ⟨v, vs, rfl, Pat.sound e p s r1 q fun σ1 s1 w1 => Pat.sounds e ps s1 r2 h' fun σ2 s2 w2 => k σ2 s2 fun ws hw => ?_⟩
        rw [w2 ws fun i hi => hw i (List.mem_append_right _ hi), w1 ws fun i hi => hw i (List.mem_append_left _ hi)]
theorem Pat.lens : ∀ (ps : List Pat) {Γ Γ' : DEnv} {vs : List V} {ds : List Dat}, DPs K G vs ds → Pat.dgs ps ds Γ = some Γ' → vs.length = ps.length
  | [], Γ, Γ', vs, ds, r, h => by
    cases r with
    | nil => rfl
    | cons _ _ => cases h
  | p :: ps, Γ, Γ', vs, ds, r, h => by
    cases r with
    | nil => cases h
    | @cons v vs d ds r1 r2 =>
      have h' : (p.dg d Γ).bind (fun Γ1 => Pat.dgs ps ds Γ1) = some Γ' := h
      cases q : p.dg d Γ with
      | none => rw [q] at h'; cases h'
      | some Γ1 =>
        rw [q] at h'
        show vs.length + 1 = ps.length + 1
        rw [Pat.lens ps r2 h']
end
end
end EX
/-! The data layer 4: what is walked, comprehensions, statements, defs. -/
namespace EX
open PySem PySem.Spec PyProof.Rows L2

/-! ### what is walked -/
def ItOk (K : Kx) (J : It) (items : List Dat) (G0 : Hp) (I : Mem → Prop) : Prop := ∀ G H M i, Ex G0 G → Ex G H → MemOk K G H M → I M →
  (∀ d, items[i]? = some d → J.go i H ∧ ∀ x H', J.yld i H x H' → ∃ G', Stp K G H M G' H' M ∧ DP K G' x d) ∧ (items.length ≤ i → J.stop i H)
/-- the items, and what of the store must stay while they are walked -/
abbrev DTI := DEnv → Mem → (List Dat → (Mem → Prop) → Mem → Prop) → Prop
def LI (K : Kx) (W : WX) (t : DTI) : TI := fun σ H R => ∃ Γ G M Φ, Ex G H ∧ Sl K W G H M σ Γ ∧ MemOk K G H M ∧ t Γ M Φ ∧ ∀ J items I G' H' M', Stp K G H M G' H' M' → ItOk K J items G' I → Φ items I M' → R J H'
/-- a list, as it stands -/
def vw (M : Mem) : Dat → Option (List Dat)
  | .lst ds => some ds
  | .loc a => M.l a
  | .scr ns => some (ns.map .int)
  | _ => none
def keep (d : Dat) (ds : List Dat) : Mem → Prop := match d with
  | .loc a => fun M => M.l a = some ds
  | _ => fun _ => True
theorem vw_at {K : Kx} {G H : Hp} {M : Mem} {v : V} {d : Dat} {ds : List Dat} (e : Ex G H) (m : MemOk K G H M) (r : DP K G v d) (h : vw M d = some ds) : ∃ a xs, v = .ref a ∧ SqL K.K H a xs ∧ DPs K G xs ds ∧
    ∀ G' H' M', Ex G G' → Ex G' H' → MemOk K G' H' M' → keep d ds M' → ∃ ys, SqL K.K H' a ys ∧ DPs K G' ys ds := by
  cases r with
  | @lst a xs ds' ha hr =>
    cases h
    exact ⟨a, xs, rfl, .inl (.inl (e _ _ ha)), hr, fun G' H' M' e1 e2 _ _ => ⟨xs, .inl (.inl (e2 _ _ (e1 _ _ ha))), hr.mono e1⟩⟩
  | loc a =>
    obtain ⟨g0, xs, hx, hr⟩ := m a (.lst ds) (Mem.of_l h)
    exact ⟨a, xs, rfl, .inl (.inl hx), hr, fun G' H' M' e1 e2 m' k => by
      obtain ⟨_, ys, hy, hr'⟩ := m' a (.lst ds) (Mem.of_l k)
      exact ⟨ys, .inl (.inl hy), hr'⟩⟩
  | @scr a ns ha =>
    cases h
    exact ⟨a, _, rfl, e.sql ha, DPs.of_ints ns, fun G' H' M' e1 e2 _ _ => ⟨_, e2.sql (e1.sql ha), DPs.of_ints ns⟩⟩
  | _ => cases h
theorem keep_now {M : Mem} {d : Dat} {ds : List Dat} (h : vw M d = some ds) : keep d ds M := by
  cases d <;> first | trivial | exact h
theorem pi_wk {X : Cx} {tg e : Expr} {t t' : TI} (h : PI X tg e t) (w : ∀ σ H R, t' σ H R → t σ H R) : PI X tg e t' := ⟨fun pins s σ H R I q => h.run pins s σ H R I (w σ H R q)⟩
section
variable {X : Cx} {W : WX} {tg a b l : Expr} {ta tb tl : DTE} {tr : DTA} {pos : Pos} {es : List Expr}
def onL (Φ : List Dat → Mem → Prop) : Dat → Mem → Prop := fun d M => match d with
  | .lst ds => Φ ds M
  | _ => False
theorem onL_get {Φ : List Dat → Mem → Prop} {d : Dat} {M : Mem} (h : onL Φ d M) : ∃ b, d = .lst b ∧ Φ b M := by
  cases d <;> first | exact ⟨_, rfl, h⟩ | exact (show False from h).elim
def onT (Φ : List Dat → Mem → Prop) : Dat → Mem → Prop := fun d M => match d with
  | .tup ds => Φ ds M
  | _ => False
theorem onT_get {Φ : List Dat → Mem → Prop} {d : Dat} {M : Mem} (h : onT Φ d M) : ∃ b, d = .tup b ∧ Φ b M := by
  cases d <;> first | exact ⟨_, rfl, h⟩ | exact (show False from h).elim
def diList (t : DTE) : DTI := fun Γ M Φ => t Γ M fun d M1 => ∃ ds, vw M1 d = some ds ∧ Φ ds (keep d ds) M1
def diTup (t : DTE) : DTI := fun Γ M Φ => t Γ M (onT fun ds M1 => Φ ds (fun _ => True) M1)
theorem itl_ok {K : Kx} {G0 : Hp} {a : Addr} {ds : List Dat} {I : Mem → Prop} (h : ∀ G' H' M', Ex G0 G' → Ex G' H' → MemOk K G' H' M' → I M' → ∃ ys, SqL K.K H' a ys ∧ DPs K G' ys ds) : ItOk K (Itl K.K a) ds G0 I := fun G H M i e1 e2 m hI => by
  obtain ⟨xs, hs, r⟩ := h G H M e1 e2 m hI
  refine ⟨fun d hd => ?_, fun hl => ⟨xs, hs, by rw [r.len]; exact hl⟩⟩
  obtain ⟨v, hv, rv⟩ := r.get hd
  refine ⟨⟨xs, v, hs, hv⟩, fun x H' hy => ?_⟩
  obtain ⟨rfl, q⟩ := hy
  have ex : v = x := Option.some.inj (hv.symm.trans (q xs hs))
  subst ex
  exact ⟨G, Stp.refl e2 m, rv⟩
theorem itt_ok {K : Kx} {G0 : Hp} {a : Addr} {xs : List V} {ds : List Dat} {I : Mem → Prop} (h : G0 a = some (.tup xs)) (r : DPs K G0 xs ds) : ItOk K (Itt K.K a) ds G0 I := fun G H M i e1 e2 m _ => by
  have hs : SqT K.K H a xs := DP.sqt (e1.trans e2) h
  refine ⟨fun d hd => ?_, fun hl => ⟨xs, hs, by rw [r.len]; exact hl⟩⟩
  obtain ⟨v, hv, rv⟩ := r.get hd
  refine ⟨⟨xs, v, hs, hv⟩, fun x H' hy => ?_⟩
  obtain ⟨rfl, q⟩ := hy
  have ex : v = x := Option.some.inj (hv.symm.trans (q xs hs))
  subst ex
  exact ⟨G, Stp.refl e2 m, rv.mono e1⟩
theorem di_list (hl : PE X l (LE (kx X) W tl)) : PI X tg l (LI (kx X) W (diList tl)) := pi_wk (pi_list hl) fun σ H R ⟨Γ, G, M, Φ, e, s, m, h, k⟩ =>
  ⟨Γ, G, M, _, e, s, m, h, fun v d G1 H1 M1 t1 r h1 => by
    obtain ⟨ds, hv, q⟩ := h1
    obtain ⟨a, xs, rfl, hs, _, st⟩ := vw_at t1.ex' t1.mem r hv
    exact ⟨a, rfl, ⟨xs, hs⟩, k _ ds _ G1 H1 M1 t1 (itl_ok st) q⟩⟩
theorem di_tup (hl : PE X l (LE (kx X) W tl)) : PI X tg l (LI (kx X) W (diTup tl)) := pi_wk (pi_tup hl) fun σ H R ⟨Γ, G, M, Φ, e, s, m, h, k⟩ =>
  ⟨Γ, G, M, _, e, s, m, h, fun v d G1 H1 M1 t1 r h1 => by
    obtain ⟨ds, rfl, q⟩ := onT_get h1
    cases r with
    | @tup a xs _ ha hr => exact ⟨a, rfl, ⟨xs, DP.sqt t1.ex' ha⟩, k _ ds _ G1 H1 M1 t1 (itt_ok ha hr) q⟩⟩
/-- range(lo, ..): n numbers -/
def rngD (lo : Int) (n : Nat) : List Dat := (List.range n).map fun i => .int (lo + (i : Nat))
theorem itr_ok {K : Kx} {G0 : Hp} {lo : Int} {n : Nat} {I : Mem → Prop} : ItOk K (Itr lo n) (rngD lo n) G0 I := fun G H M i e1 e2 m _ => by
  unfold rngD
  refine ⟨fun d hd => ?_, fun hl => by rw [List.length_map, List.length_range] at hl; exact hl⟩
  rw [List.getElem?_map] at hd
  by_cases hi : i < n
  · rw [List.getElem?_range hi] at hd
    cases hd
    refine ⟨hi, fun x H' hy => ?_⟩
    obtain ⟨rfl, rfl⟩ := hy
    exact ⟨G, Stp.refl e2 m, .int _⟩
  · rw [List.getElem?_eq_none (by rw [List.length_range]; omega)] at hd
    cases hd
def diRng1 (t : DTA) : DTI := fun Γ M Φ => t Γ M fun ds M1 => ∃ j : Int, ds = [.int j] ∧ -(2 ^ 62) ≤ j ∧ j < 2 ^ 62 ∧ Φ (rngD 0 j.toNat) (fun _ => True) M1
theorem di_rng1 {p : Pos} (hg : Gl X "range") (hm : X.mg "range" = none) (ha : PA X [a] (LA (kx X) W tr)) (hs : starEach [a] X.env = (false, eval a X.env) :: starEach [] X.env := by rfl) : PI X tg (.Call (.Name "range" p) [a] [] pos) (LI (kx X) W (diRng1 tr)) := pi_wk (pi_range1 hg hm ha hs) fun σ H R ⟨Γ, G, M, Φ, e, s, m, h, k⟩ =>
  ⟨Γ, G, M, _, e, s, m, h, fun v d G1 H1 M1 t1 r h1 => by
    obtain ⟨j, rfl, h2, h3, q⟩ := h1
    cases r with
    | cons r1 r2 => cases r1; cases r2; exact ⟨j, rfl, h2, h3, k _ _ _ G1 H1 M1 t1 itr_ok q⟩⟩
def diRng2 (t : DTA) : DTI := fun Γ M Φ => t Γ M fun ds M1 => ∃ i j : Int, ds = [.int i, .int j] ∧ (-(2 ^ 62) ≤ i ∧ i < 2 ^ 62 ∧ -(2 ^ 62) ≤ j ∧ j < 2 ^ 62) ∧ Φ (rngD i (j - i).toNat) (fun _ => True) M1
theorem di_rng2 {p : Pos} (hg : Gl X "range") (hm : X.mg "range" = none) (ha : PA X [a, b] (LA (kx X) W tr)) (hs : starEach [a, b] X.env = [(false, eval a X.env), (false, eval b X.env)] := by rfl) (hs2 : starEach [b] X.env = [(false, eval b X.env)] := by rfl) : PI X tg (.Call (.Name "range" p) [a, b] [] pos) (LI (kx X) W (diRng2 tr)) := pi_wk (pi_range2 hg hm ha hs hs2) fun σ H R ⟨Γ, G, M, Φ, e, s, m, h, k⟩ =>
  ⟨Γ, G, M, _, e, s, m, h, fun v d G1 H1 M1 t1 r h1 => by
    obtain ⟨i, j, rfl, h2, q⟩ := h1
    cases r with
    | cons r1 r2 =>
      cases r2 with
      | cons r2 r3 => cases r1; cases r2; cases r3; exact ⟨i, j, rfl, h2, k _ _ _ G1 H1 M1 t1 itr_ok q⟩⟩
/-- enumerate(list) -/
def enumD (ds : List Dat) : List Dat := ds.zipIdx.map fun p => .tup [.int (p.2 : Nat), p.1]
def zipD (xs ys : List Dat) : List Dat := (xs.zip ys).map fun p => .tup [p.1, p.2]
theorem ite_ok {K : Kx} {G0 : Hp} {a : Addr} {ds : List Dat} {I : Mem → Prop} (h : ∀ G' H' M', Ex G0 G' → Ex G' H' → MemOk K G' H' M' → I M' → ∃ ys, SqL K.K H' a ys ∧ DPs K G' ys ds) : ItOk K (Ite K.K a) (enumD ds) G0 I := fun G H M i e1 e2 m hI => by
  obtain ⟨xs, hs, r⟩ := h G H M e1 e2 m hI
  unfold enumD
  refine ⟨fun d hd => ?_, fun hl => ⟨xs, hs, by rw [List.length_map, List.length_zipIdx] at hl; rw [r.len]; exact hl⟩⟩
  rw [List.getElem?_map, List.getElem?_zipIdx] at hd
  cases q : ds[i]? with
  | none => rw [q] at hd; cases hd
  | some d0 =>
    rw [q] at hd
    have ed : Dat.tup [.int ((0 + i : Nat) : Int), d0] = d := Option.some.inj hd
    rw [Nat.zero_add] at ed
    subst ed
    obtain ⟨v, hv, rv⟩ := r.get q
    refine ⟨⟨xs, v, hs, hv⟩, fun x H' hy => ?_⟩
    obtain ⟨T, y, rfl, hT, rfl, f⟩ := hy
    have ex : v = y := Option.some.inj (hv.symm.trans (f xs hs))
    subst ex
    exact ⟨_, Stp.alloc e2 m hT, .tup upd_same (.cons (.int _) (.cons (rv.mono (Ex.new (e2.free hT))) .nil))⟩
theorem itz_ok {K : Kx} {G0 : Hp} {a b : Addr} {ds es : List Dat} {I : Mem → Prop} (h : ∀ G' H' M', Ex G0 G' → Ex G' H' → MemOk K G' H' M' → I M' → ∃ ys, SqL K.K H' a ys ∧ DPs K G' ys ds) (h' : ∀ G' H' M', Ex G0 G' → Ex G' H' → MemOk K G' H' M' → I M' → ∃ ys, SqL K.K H' b ys ∧ DPs K G' ys es) : ItOk K (Itz K.K a b) (zipD ds es) G0 I := fun G H M i e1 e2 m hI => by
  obtain ⟨xs, hs, r⟩ := h G H M e1 e2 m hI
  obtain ⟨ys, hs', r'⟩ := h' G H M e1 e2 m hI
  unfold zipD
  refine ⟨fun d hd => ?_, fun hl => ⟨xs, ys, hs, hs', by rw [List.length_map, List.length_zip] at hl; rw [r.len, r'.len]; omega⟩⟩
  rw [List.getElem?_map] at hd
  cases q : (ds.zip es)[i]? with
  | none => rw [q] at hd; cases hd
  | some p =>
    rw [q] at hd
    have ed : Dat.tup [p.1, p.2] = d := Option.some.inj hd
    subst ed
    obtain ⟨q1, q2⟩ := List.getElem?_zip_eq_some.mp q
    obtain ⟨v, hv, rv⟩ := r.get q1
    obtain ⟨u, hu, ru⟩ := r'.get q2
    refine ⟨⟨xs, ys, v, u, hs, hs', hv, hu⟩, fun x H' hy => ?_⟩
    obtain ⟨T, y, z, rfl, hT, rfl, f, g⟩ := hy
    have ex : v = y := Option.some.inj (hv.symm.trans (f xs hs))
    have ex' : u = z := Option.some.inj (hu.symm.trans (g ys hs'))
    subst ex ex'
    exact ⟨_, Stp.alloc e2 m hT, .tup upd_same (.cons (rv.mono (Ex.new (e2.free hT))) (.cons (ru.mono (Ex.new (e2.free hT))) .nil))⟩
def diEnum (t : DTA) : DTI := fun Γ M Φ => t Γ M fun ds M1 => ∃ x xs, ds = [x] ∧ vw M1 x = some xs ∧ Φ (enumD xs) (keep x xs) M1
def diZip (t : DTA) : DTI := fun Γ M Φ => t Γ M fun ds M1 => ∃ x y xs ys, ds = [x, y] ∧ vw M1 x = some xs ∧ vw M1 y = some ys ∧ Φ (zipD xs ys) (fun M => keep x xs M ∧ keep y ys M) M1
theorem di_enum {p tpos : Pos} {elts : List Expr} {kk : Nat} (hg : Gl X "enumerate") (hm : X.mg "enumerate" = none) (ha : PA X [a] (LA (kx X) W tr)) (hs : starEach [a] X.env = [(false, eval a X.env)] := by rfl) : PI X (.Tuple elts kk tpos) (.Call (.Name "enumerate" p) [a] [] pos) (LI (kx X) W (diEnum tr)) := pi_wk (pi_enum hg hm ha hs) fun σ H R ⟨Γ, G, M, Φ, e, s, m, h, k⟩ =>
  ⟨Γ, G, M, _, e, s, m, h, fun v d G1 H1 M1 t1 r h1 => by
    obtain ⟨x, ds, rfl, hv, q⟩ := h1
    cases r with
    | cons r1 r2 =>
      cases r2
      obtain ⟨a, xs, rfl, hs, _, st⟩ := vw_at t1.ex' t1.mem r1 hv
      exact ⟨a, xs, rfl, hs, k _ _ _ G1 H1 M1 t1 (ite_ok st) q⟩⟩
theorem di_zip {p tpos : Pos} {elts : List Expr} {kk : Nat} (hg : Gl X "zip") (hm : X.mg "zip" = none) (ha : PA X [a, b] (LA (kx X) W tr)) (hs : starEach [a, b] X.env = (false, eval a X.env) :: starEach [b] X.env := by rfl) (hpl : (backTo pos (starEach [b] X.env)).any (·.1) = false := by rfl) :
    PI X (.Tuple elts kk tpos) (.Call (.Name "zip" p) [a, b] [] pos) (LI (kx X) W (diZip tr)) := pi_wk (pi_zip hg hm ha hs hpl) fun σ H R ⟨Γ, G, M, Φ, e, s, m, h, k⟩ =>
  ⟨Γ, G, M, _, e, s, m, h, fun v d G1 H1 M1 t1 r h1 => by
    obtain ⟨x, y, ds, es, rfl, hv, hw, q⟩ := h1
    cases r with
    | cons r1 r2 =>
      cases r2 with
      | cons r2 r3 =>
        cases r3
        obtain ⟨a, xs, rfl, hs, _, st⟩ := vw_at t1.ex' t1.mem r1 hv
        obtain ⟨b, ys, rfl, hs', _, st'⟩ := vw_at t1.ex' t1.mem r2 hw
        exact ⟨a, b, xs, ys, rfl, hs, hs', k _ _ _ G1 H1 M1 t1 (itz_ok (fun G' H' M' a b c d => st G' H' M' a b c d.1) fun G' H' M' a b c d => st' G' H' M' a b c d.2) q⟩⟩
end

/-! ### comprehensions -/
def dwipe (Γ : DEnv) : List Nat → DEnv
  | [] => Γ
  | v :: vs => (dwipe Γ vs).set v none
theorem Sl.wipe {K : Kx} {W : WX} {G H : Hp} {M : Mem} {σ : L2.St} {Γ : DEnv} (s : Sl K W G H M σ Γ) : ∀ vs, Sl K W G H M (wipe σ vs) (dwipe Γ vs)
  | [] => s
  | v :: vs => (s.wipe vs).none v
theorem wipe_in {σ : L2.St} {i : Nat} : ∀ {vs : List Nat}, i ∈ vs → (wipe σ vs).set i none = wipe σ vs
  | v :: vs, h => by
    show ((wipe σ vs).set v none).set i none = (wipe σ vs).set v none
    by_cases e : i = v
    · subst e; rw [List.set_set]
    · have hi : i ∈ vs := by
        rcases List.mem_cons.mp h with z | z
        · exact absurd z e
        · exact z
      rw [List.set_comm none none (Ne.symm e), wipe_in hi]
theorem wipe_idem {σ : L2.St} {vs : List Nat} : ∀ ws : List Nat, (∀ i ∈ ws, i ∈ vs) → L2.wipe (L2.wipe σ vs) ws = L2.wipe σ vs
  | [], _ => rfl
  | w :: ws, h => by
    show (L2.wipe (L2.wipe σ vs) ws).set w none = L2.wipe σ vs
    rw [wipe_idem ws fun i hi => h i (List.mem_cons_of_mem _ hi)]
    exact wipe_in (h w List.mem_cons_self)
/-- nothing is let out of a comprehension -/
def W0 : WX := fun _ _ _ _ => False
def noEx (Γ : DEnv) : DEnv := { Γ with ex := fun _ _ _ _ _ => False }
theorem Sl.noEx {K : Kx} {W : WX} {G H : Hp} {M : Mem} {σ : L2.St} {Γ : DEnv} (s : Sl K W G H M σ Γ) : Sl K W0 G H M σ (noEx Γ) := ⟨s.o, fun _ _ _ _ _ _ _ _ _ _ _ _ _ _ z => z.elim⟩
theorem takesW0 {X : Cx} : Takes X W0 := takes0
def dLcGo (I : Mem → Prop) (p : Pat) (tt : DTT) (te : DTE) (Γw : DEnv) : List Dat → List Dat → Mem → (List Dat → Mem → Prop) → Prop
  | [], acc, M, Φ => I M ∧ Φ acc M
  | d :: r, acc, M, Φ => I M ∧ ∃ Γ1, p.dg d Γw = some Γ1 ∧ tt Γ1 M fun b M1 => if b = true then te Γ1 M1 fun y M2 => acc.length < sizeLine ∧ dLcGo I p tt te Γw r (acc ++ [y]) M2 Φ else dLcGo I p tt te Γw r acc M1 Φ
def dLc (src : DTI) (p : Pat) (tt : DTT) (te : DTE) (vs : List Nat) : DTE := fun Γ M Φ => src Γ M fun items I M1 => dLcGo I p tt te (dwipe (noEx Γ) vs) items [] M1 fun ys M2 => Φ (.lst ys) M2
def dLcO (src : DTI) (p : Pat) (tt : DTT) (te : DTE) (vs : List Nat) : DTE := fun Γ M Φ => src Γ M fun items I M1 => dLcGo I p tt te (dwipe (noEx Γ) vs) items [] M1 fun ys M2 => ∀ a, M2 a = none → M1 a = none → Φ (.loc a) (M2.put a (.lst ys))
theorem tLc_mono {wi : TI} {g : TG} {tt : TT} {te : TE} {vs : List Nat} {σ : L2.St} {H : Hp} {Q Q' : VK} (h : tLc wi g tt te vs σ H Q) (k : ∀ v H, Q v H → Q' v H) (mono : ∀ {R R' : It → Hp → Prop}, (∀ J H, R J H → R' J H) → wi σ H R → wi σ H R') : tLc wi g tt te vs σ H Q' := by
  refine mono (fun J H1 h1 D hD => ?_) h
  obtain ⟨W, w0, turn⟩ := h1 D hD
  refine ⟨W, w0, fun i m H w => ?_⟩
  rcases turn i m H w with ⟨a, b⟩ | c
  · exact .inl ⟨a, k _ _ b⟩
  · exact .inr c
theorem lc_walk {K : Kx} {W : WX} {p : Pat} {tt : DTT} {te : DTE} {vs : List Nat} (hv : ∀ i ∈ p.ix, i ∈ vs) {σ : L2.St} {Γ : DEnv} {G1 H1 : Hp} {M1 : Mem} {J : It} {items : List Dat} {I : Mem → Prop} {Φ : List Dat → Mem → Prop} {Q : VK} (e1 : Ex G1 H1) (s : Sl K W G1 H1 M1 σ Γ) (m1 : MemOk K G1 H1 M1)
    (ok : ItOk K J items G1 I) (h : dLcGo I p tt te (dwipe (noEx Γ) vs) items [] M1 Φ) {D : Addr} (hD : H1 D = none)
    (fin : ∀ G H M xs ys, Stp K G1 H1 M1 G H M → H D = some (.lst xs) → DPs K G xs ys → G D = none → M D = none → Φ ys M → Q (.ref D) H) :
    ∃ W : Nat → Nat → Hp → Prop, (∃ m, W 0 m (upd H1 D (.lst []))) ∧ ∀ i m H, W i m H →
      (J.stop i H ∧ Q (.ref D) H) ∨ (J.go i H ∧ ∃ Nx : Hp → Prop, (∀ H', Nx H' → ∃ m', m' < m ∧ W (i + 1) m' H') ∧ ∀ x H', J.yld i H x H' → p.tg K x (L2.wipe σ vs) H' fun σ2 H2 => L2.wipe σ2 vs = L2.wipe σ vs ∧ LT K W0 tt σ2 H2 fun b H3 =>
        if b = true then LE K W0 te σ2 H3 fun y H4 => ∃ acc, H4 D = some (.lst acc) ∧ acc.length < sizeLine ∧ Nx (upd H4 D (.lst (acc ++ [y]))) else Nx H3) := by
  let V (i : Nat) (H : Hp) : Prop := ∃ G M xs acc, Stp K G1 H1 M1 G H M ∧ H D = some (.lst xs) ∧ DPs K G xs acc ∧ G D = none ∧ M D = none ∧ dLcGo I p tt te (dwipe (noEx Γ) vs) (items.drop i) acc M Φ
  have gD : G1 D = none := e1.free hD
  have mD : M1 D = none := mem_none m1 hD
  have v0 : V 0 (upd H1 D (.lst [])) := by
    refine ⟨G1, M1, [], [], ⟨Ex.rfl', fun a u h => ?_, fun a es h => ?_, fun a u _ h => ?_, fun a h n => absurd n h, fun a h => .inl h⟩, upd_same, .nil, gD, mD, h⟩
    · rw [upd_ne (ne_of_none h gD)]; exact e1 a u h
    · refine ⟨(m1 a es h).1, (m1 a es h).2.mono Ex.rfl' fun u q => ?_⟩
      rw [upd_ne (ne_of_none q hD)]; exact q
    · rw [upd_ne (ne_of_none h hD)]; exact h
  refine ⟨fun i m H => i + m = items.length ∧ V i H, ⟨items.length, Nat.zero_add _, v0⟩, fun i m H w => ?_⟩
  obtain ⟨em, G, M, xs, acc, st, hx, rx, g0, m0, hg⟩ := w
  have hI : I M := by
    cases q : items.drop i with
    | nil => rw [q] at hg; exact hg.1
    | cons d r => rw [q] at hg; exact hg.1
  obtain ⟨go, stop⟩ := ok G H M i st.ex st.ex' st.mem hI
  by_cases hi : i < items.length
  · obtain ⟨d, hd⟩ : ∃ d, items[i]? = some d := ⟨items[i], List.getElem?_eq_getElem hi⟩
    obtain ⟨g1, yl⟩ := go d hd
    have dr : items.drop i = d :: items.drop (i + 1) := by
      rw [List.drop_eq_getElem_cons hi]
      have : items[i] = d := Option.some.inj ((List.getElem?_eq_getElem hi).symm.trans hd)
      rw [this]
    rw [dr] at hg
    obtain ⟨_, Γ1, hp, ht⟩ := hg
    refine .inr ⟨g1, V (i + 1), fun H' v => ⟨m - 1, by omega, by omega, v⟩, fun x H' hy => ?_⟩
    obtain ⟨G2, t2, r2⟩ := yl x H' hy
    have hx2 : H' D = some (.lst xs) := t2.fr D _ m0 hx
    have g2 : G2 D = none := by
      cases q : G2 D with
      | none => rfl
      | some o =>
        rcases t2.ng D (by rw [q]; intro z; cases z) g0 with z | z
        · rw [hx] at z; cases z
        · exact absurd m0 z
    have s2 : Sl K W0 G2 H' M (L2.wipe σ vs) (dwipe (noEx Γ) vs) := (s.step (st.trans t2)).noEx.wipe vs
    refine Pat.sound t2.ex' p s2 r2 hp fun σ2 s3 w2 => ⟨?_, Γ1, G2, M, _, t2.ex', s3, t2.mem, ht, fun b b' G3 H3 M3 t3 rb hb => ?_⟩
    · rw [w2 vs hv, wipe_idem vs fun _ h => h]
    · subst rb
      have hx3 : H3 D = some (.lst xs) := t3.fr D _ m0 hx2
      have g3 : G3 D = none := by
        cases q : G3 D with
        | none => rfl
        | some o =>
          rcases t3.ng D (by rw [q]; intro z; cases z) g2 with z | z
          · rw [hx2] at z; cases z
          · exact absurd m0 z
      have m3 : M3 D = none := by
        cases q : M3 D with
        | none => rfl
        | some o =>
          rcases t3.nm D (by rw [q]; intro z; cases z) with z | z
          · exact absurd m0 z
          · rw [hx2] at z; cases z
      have st3 := (st.trans t2).trans t3
      cases b with
      | false =>
        rw [if_neg Bool.false_ne_true] at hb ⊢
        exact ⟨G3, M3, xs, acc, st3, hx3, rx.mono (t2.ex.trans t3.ex), g3, m3, hb⟩
      | true =>
        rw [if_pos rfl] at hb ⊢
        refine ⟨Γ1, G3, M3, _, t3.ex', s3.step t3, t3.mem, hb, fun y dy G4 H4 M4 t4 ry hq => ?_⟩
        obtain ⟨hlen, hq⟩ := hq
        have hx4 : H4 D = some (.lst xs) := t4.fr D _ m3 hx3
        have g4 : G4 D = none := by
          cases q : G4 D with
          | none => rfl
          | some o =>
            rcases t4.ng D (by rw [q]; intro z; cases z) g3 with z | z
            · rw [hx3] at z; cases z
            · exact absurd m3 z
        have m4 : M4 D = none := by
          cases q : M4 D with
          | none => rfl
          | some o =>
            rcases t4.nm D (by rw [q]; intro z; cases z) with z | z
            · exact absurd m3 z
            · rw [hx3] at z; cases z
        have st4 := st3.trans t4
        have rx4 : DPs K G4 xs acc := rx.mono ((t2.ex.trans t3.ex).trans t4.ex)
        refine ⟨xs, hx4, by rw [rx4.len]; exact hlen, G4, M4, xs ++ [y], acc ++ [dy], ⟨st4.ex, fun a u h => ?_, fun a es h => ?_, fun a u n h => ?_, st4.ng, st4.nm⟩, upd_same, rx4.app (.cons ry .nil), g4, m4, hq⟩
        · rw [upd_ne (ne_of_none h g4)]; exact st4.ex' a u h
        · have ne : a ≠ D := fun z => by rw [z, m4] at h; cases h
          refine ⟨(st4.mem a es h).1, (st4.mem a es h).2.mono Ex.rfl' fun u q => ?_⟩
          rw [upd_ne ne]; exact q
        · rw [upd_ne (ne_of_none h hD)]; exact st4.fr a u n h
  · have e0 : items.drop i = [] := List.drop_eq_nil_of_le (by omega)
    rw [e0] at hg
    exact .inl ⟨stop (by omega), fin G H M xs acc st hx rx g0 m0 hg.2⟩
section
variable {X : Cx} {W : WX} {elt tg iter : Expr} {ifs : List Expr} {scope : Scope} {own : List (Str × Nat)} {pos : Pos} {src : DTI} {p : Pat} {tt : DTT} {te : DTE}
theorem wk_lc {K : Kx} {W : WX} {vs : List Nat} (hv : ∀ i ∈ p.ix, i ∈ vs) : ∀ σ H Q, LE K W (dLc src p tt te vs) σ H Q → tLc (LI K W src) (p.tg K) (LT K W0 tt) (LE K W0 te) vs σ H Q := fun σ H Q ⟨Γ, G, M, Φ, e, s, m, h, k⟩ =>
  ⟨Γ, G, M, _, e, s, m, h, fun J items I G1 H1 M1 t1 ok hq D hD => lc_walk hv t1.ex' (s.step t1) t1.mem ok hq hD fun G2 H2 M2 xs ys st hx rx g0 m0 hf =>
    k (.ref D) (.lst ys) (upd G2 D (.lst xs)) H2 M2 (t1.trans
      ⟨st.ex.trans (Ex.new g0), fun a u h => by
        by_cases z : a = D
        · rw [z, upd_same] at h; rw [z, hx]; exact h
        · rw [upd_ne z] at h; exact st.ex' a u h,
      st.mem.mono (Ex.new g0) (fun a h => by
        have z : a ≠ D := fun z => h (by rw [z]; exact m0)
        rw [upd_ne z]
        cases q : M2 a with
        | none => exact absurd q h
        | some es => exact (st.mem a es q).1) (fun _ _ _ h => h), st.fr, fun a h n => by
        by_cases z : a = D
        · rw [z]; exact .inl hD
        · rw [upd_ne z] at h; exact st.ng a h n, st.nm⟩) (.lst upd_same (rx.mono (Ex.new g0))) hf⟩
theorem wk_lcO {K : Kx} {W : WX} {vs : List Nat} (hv : ∀ i ∈ p.ix, i ∈ vs) : ∀ σ H Q, LE K W (dLcO src p tt te vs) σ H Q → tLc (LI K W src) (p.tg K) (LT K W0 tt) (LE K W0 te) vs σ H Q := fun σ H Q ⟨Γ, G, M, Φ, e, s, m, h, k⟩ =>
  ⟨Γ, G, M, _, e, s, m, h, fun J items I G1 H1 M1 t1 ok hq D hD => lc_walk hv t1.ex' (s.step t1) t1.mem ok hq hD fun G2 H2 M2 xs ys st hx rx g0 m0 hf =>
    k (.ref D) (.loc D) G2 H2 (M2.put D (.lst ys)) (t1.trans
      ⟨st.ex, st.ex', fun a es h => by
        by_cases z : a = D
        · rw [z, Mem.put_same] at h
          cases h
          rw [z]
          exact ⟨g0, xs, hx, rx⟩
        · rw [Mem.put_ne z] at h; exact st.mem a es h, st.fr, st.ng, fun a h => by
        by_cases z : a = D
        · rw [z]; exact .inr hD
        · rw [Mem.put_ne z] at h; exact st.nm a h⟩) (.loc D) (hf D m0 (mem_none t1.mem hD))⟩
theorem de_lc (hc : X.calm = true) (hN : X.N.Nodup) (hi : PI X tg iter (LI (kx X) W src)) (ok : BlkOk X.N X.env.scope scope own) (hv : ∀ i ∈ p.ix, i ∈ own.map (·.2))
    (hg : ∀ (s : Shared) (H : Hp) (C : Addr) (cl : List (Str × Addr)) (fp : List Addr), PG (X.blk s H scope (compEnvC scope cl C X.env) fp) tg (p.tg (kx X))) (ht : ∀ (s : Shared) (H : Hp) (C : Addr) (cl : List (Str × Addr)) (fp : List Addr), PTs (X.blk s H scope (compEnvC scope cl C X.env) fp) ifs (LT (kx X) W0 tt))
    (he : ∀ (s : Shared) (H : Hp) (C : Addr) (cl : List (Str × Addr)) (fp : List Addr), PE (X.blk s H scope (compEnvC scope cl C X.env) fp) elt (LE (kx X) W0 te)) (hs : ∀ x, foldedSetIterable iter X.env x = pure x := by intro _; rfl) :
    PE X (.ListComp elt [⟨tg, iter, ifs, 0⟩] scope pos) (LE (kx X) W (dLc src p tt te (own.map (·.2)))) := pe_wk (pe_lc hc hN hi ok hg ht he hs) (wk_lc hv)
theorem de_lcO (hc : X.calm = true) (hN : X.N.Nodup) (hi : PI X tg iter (LI (kx X) W src)) (ok : BlkOk X.N X.env.scope scope own) (hv : ∀ i ∈ p.ix, i ∈ own.map (·.2))
    (hg : ∀ (s : Shared) (H : Hp) (C : Addr) (cl : List (Str × Addr)) (fp : List Addr), PG (X.blk s H scope (compEnvC scope cl C X.env) fp) tg (p.tg (kx X))) (ht : ∀ (s : Shared) (H : Hp) (C : Addr) (cl : List (Str × Addr)) (fp : List Addr), PTs (X.blk s H scope (compEnvC scope cl C X.env) fp) ifs (LT (kx X) W0 tt))
    (he : ∀ (s : Shared) (H : Hp) (C : Addr) (cl : List (Str × Addr)) (fp : List Addr), PE (X.blk s H scope (compEnvC scope cl C X.env) fp) elt (LE (kx X) W0 te)) (hs : ∀ x, foldedSetIterable iter X.env x = pure x := by intro _; rfl) :
    PE X (.ListComp elt [⟨tg, iter, ifs, 0⟩] scope pos) (LE (kx X) W (dLcO src p tt te (own.map (·.2)))) := pe_wk (pe_lc hc hN hi ok hg ht he hs) (wk_lcO hv)
def dYes : DTT := fun _ M Φ => Φ true M
theorem dts_nil : PTs X [] (LT (kx X) W dYes) := pts_wk pts_nil fun σ H Q ⟨Γ, G, M, Φ, e, s, m, h, k⟩ => k true true G H M (Stp.refl e m) rfl h
theorem dts_one {c : Expr} {t : DTT} (h : PT X c (LT (kx X) W t)) : PTs X [c] (LT (kx X) W t) := pts_one h
end
end EX
/-! The data layer 5: statements, defs. -/
namespace EX
open PySem PySem.Spec PyProof.Rows L2

/-- what follows a statement: over data, and in the hand layer -/
structure Kont (K : Kx) (W : WX) (G H : Hp) (M : Mem) (DD : DEnds) (D : Ends) : Prop where
  nx : ∀ σ' Γ' G' H' M', Stp K G H M G' H' M' → Sl K W G' H' M' σ' Γ' → DD.nx Γ' M' → D.nx σ' H'
  rt : ∀ v d G' H' M', Stp K G H M G' H' M' → DP K G' v d → DD.rt d M' → D.rt v H'
  bk : ∀ σ' Γ' G' H' M', Stp K G H M G' H' M' → Sl K W G' H' M' σ' Γ' → DD.bk Γ' M' → D.bk σ' H'
  ct : ∀ σ' Γ' G' H' M', Stp K G H M G' H' M' → Sl K W G' H' M' σ' Γ' → DD.ct Γ' M' → D.ct σ' H'
section
variable {K : Kx} {W : WX} {G H G1 H1 : Hp} {M M1 : Mem} {DD : DEnds} {D : Ends} {σ : L2.St} {Γ : DEnv}
theorem Kont.step (k : Kont K W G H M DD D) (t : Stp K G H M G1 H1 M1) : Kont K W G1 H1 M1 DD D :=
  ⟨fun a b c d e f => k.nx a b c d e (t.trans f), fun a b c d e f => k.rt a b c d e (t.trans f), fun a b c d e f => k.bk a b c d e (t.trans f), fun a b c d e f => k.ct a b c d e (t.trans f)⟩
theorem LS.mk {t : DTS} (e : Ex G H) (s : Sl K W G H M σ Γ) (m : MemOk K G H M) (h : t DD Γ M) (k : Kont K W G H M DD D) : LS K W t D σ H := ⟨Γ, G, M, DD, e, s, m, h, k.nx, k.rt, k.bk, k.ct⟩
theorem LS.get {t : DTS} (h : LS K W t D σ H) : ∃ Γ G M DD, Ex G H ∧ Sl K W G H M σ Γ ∧ MemOk K G H M ∧ t DD Γ M ∧ Kont K W G H M DD D := by
  obtain ⟨Γ, G, M, DD, e, s, m, h, k1, k2, k3, k4⟩ := h
  exact ⟨Γ, G, M, DD, e, s, m, h, k1, k2, k3, k4⟩
end
section
variable {X : Cx} {W : WX} {pos : Pos} {e : Expr} {te : DTE} {tc : DTT} {t u : DTS} {st : Stmt} {rest p q : List Stmt}
def dNext : DTS := fun D Γ M => D.nx Γ M
def dBreak : DTS := fun D Γ M => D.bk Γ M
def dCont : DTS := fun D Γ M => D.ct Γ M
def dSeq (t u : DTS) : DTS := fun D Γ M => t { D with nx := fun Γ' M' => u D Γ' M' } Γ M
def dDrop (te : DTE) : DTS := fun D Γ M => te Γ M fun _ M1 => D.nx Γ M1
def dRet (te : DTE) : DTS := fun D Γ M => te Γ M D.rt
def dRetN : DTS := fun D _ M => D.rt .non M
def dIfS (c : DTT) (t u : DTS) : DTS := fun D Γ M => c Γ M fun b M1 => if b = true then t D Γ M1 else u D Γ M1
theorem wk_next {K : Kx} {W : WX} : ∀ D σ H, LS K W dNext D σ H → tNext D σ H := fun D σ H h => by
  obtain ⟨Γ, G, M, DD, e, s, m, h, k⟩ := h.get
  exact k.nx σ Γ G H M (Stp.refl e m) s h
theorem dss_nil : PSs X [] (LS (kx X) W dNext) := pss_wk pss_nil wk_next
theorem ds_pass : PS X (.Pass pos) (LS (kx X) W dNext) := ps_wk ps_pass wk_next
theorem ds_break : PS X (.Break pos) (LS (kx X) W dBreak) := ps_wk ps_break fun D σ H h => by
  obtain ⟨Γ, G, M, DD, e, s, m, h, k⟩ := h.get
  exact k.bk σ Γ G H M (Stp.refl e m) s h
theorem ds_continue : PS X (.Continue pos) (LS (kx X) W dCont) := ps_wk ps_continue fun D σ H h => by
  obtain ⟨Γ, G, M, DD, e, s, m, h, k⟩ := h.get
  exact k.ct σ Γ G H M (Stp.refl e m) s h
theorem dss_cons (h1 : PS X st (LS (kx X) W t)) (h2 : PSs X rest (LS (kx X) W u)) : PSs X (st :: rest) (LS (kx X) W (dSeq t u)) := pss_wk (pss_cons h1 h2) fun D σ H h => by
  obtain ⟨Γ, G, M, DD, e, s, m, h, k⟩ := h.get
  exact LS.mk (DD := { DD with nx := fun Γ' M' => u DD Γ' M' }) e s m h ⟨fun σ' Γ' G' H' M' t s' h' => LS.mk t.ex' s' t.mem h' (k.step t), k.rt, k.bk, k.ct⟩
theorem dss_one (h1 : PS X st (LS (kx X) W t)) : PSs X [st] (LS (kx X) W t) := pss_one h1
theorem ds_expr (h1 : PE X e (LE (kx X) W te)) (hs : swapsWith e none pos.line X.env = pure false := by rfl) : PS X (.Expr e pos) (LS (kx X) W (dDrop te)) := ps_wk (ps_expr h1 hs) fun D σ H h => by
  obtain ⟨Γ, G, M, DD, e, s, m, h, k⟩ := h.get
  exact ⟨Γ, G, M, _, e, s, m, h, fun v d G' H' M' t r q => k.nx σ Γ G' H' M' t (s.step t) q⟩
theorem ds_ret (h1 : PE X e (LE (kx X) W te)) : PS X (.Return (some e) pos) (LS (kx X) W (dRet te)) := ps_wk (ps_ret h1) fun D σ H h => by
  obtain ⟨Γ, G, M, DD, e, s, m, h, k⟩ := h.get
  exact ⟨Γ, G, M, _, e, s, m, h, fun v d G' H' M' t r q => k.rt v d G' H' M' t r q⟩
theorem ds_retN : PS X (.Return none pos) (LS (kx X) W dRetN) := ps_wk ps_retN fun D σ H h => by
  obtain ⟨Γ, G, M, DD, e, s, m, h, k⟩ := h.get
  exact k.rt .non .non G H M (Stp.refl e m) .non h
theorem ds_if {c : Expr} (hc : PT X c (LT (kx X) W tc)) (h1 : PSs X p (LS (kx X) W t)) (h2 : PSs X q (LS (kx X) W u)) : PS X (.If c p q pos) (LS (kx X) W (dIfS tc t u)) := ps_wk (ps_if hc h1 h2) fun D σ H h => by
  obtain ⟨Γ, G, M, DD, e, s, m, h, k⟩ := h.get
  refine ⟨Γ, G, M, _, e, s, m, h, fun v d G' H' M' t r q => ?_⟩
  subst r
  cases v with
  | true =>
    rw [if_pos rfl] at q ⊢
    exact LS.mk t.ex' (s.step t) t.mem q (k.step t)
  | false =>
    rw [if_neg Bool.false_ne_true] at q ⊢
    exact LS.mk t.ex' (s.step t) t.mem q (k.step t)
/-! ### assignments -/
def dAsg (te : DTE) (p : Pat) : DTS := fun D Γ M => te Γ M fun d M1 => ∃ Γ1, p.dg d Γ = some Γ1 ∧ D.nx Γ1 M1
def dSet (te : DTE) (i : Nat) : DTS := fun D Γ M => te Γ M fun d M1 => D.nx (Γ.set i (some d)) M1
theorem ds_asg {tg : Expr} {p : Pat} (he : PE X e (LE (kx X) W te)) (hg : PG X tg (p.tg (kx X))) (hs : swapsWithSole [tg] e pos.line X.env = pure false := by rfl) (hw : swappedStores [tg] e X.env = pure none := by rfl)
    (h1 : (assignEach [tg] X.env).map (·.2) = [assign tg X.env] := by rfl) : PS X (.Assign [tg] e pos) (LS (kx X) W (dAsg te p)) := ps_wk (ps_asg he hg hs hw h1) fun D σ H h => by
  obtain ⟨Γ, G, M, DD, e, s, m, h, k⟩ := h.get
  refine ⟨Γ, G, M, _, e, s, m, h, fun v d G' H' M' t r q => ?_⟩
  obtain ⟨Γ1, hp, q⟩ := q
  exact Pat.sound t.ex' p (s.step t) r hp fun σ' s' _ => k.nx σ' Γ1 G' H' M' t s' q
theorem wk_set {K : Kx} {W : WX} {i : Nat} : ∀ D σ H, LS K W (dSet te i) D σ H → tAsg (LE K W te) (gName i) D σ H := fun D σ H h => by
  obtain ⟨Γ, G, M, DD, e, s, m, h, k⟩ := h.get
  exact ⟨Γ, G, M, _, e, s, m, h, fun v d G' H' M' t r q => k.nx _ _ G' H' M' t ((s.step t).set r i) q⟩
theorem ds_set {i : Nat} {x : Str} {pos' : Pos} (hN : X.N.Nodup) (hi : X.N[i]? = some x) (hx : Loc X.env.scope x) (he : PE X e (LE (kx X) W te)) (hs : swapsWith e (some (.Name x pos')) pos.line X.env = pure false := by rfl)
    (hf : X.fn x = true ∨ X.env.scope.names.lookup x = some .local := by first | exact .inl rfl | exact .inr rfl | assumption) : PS X (.Assign [.Name x pos'] e pos) (LS (kx X) W (dSet te i)) := ps_wk (ps_set hN hi hx he hs hf) wk_set
/-- name = [..] on one line, the name a local -/
theorem ds_setLc {i : Nat} {y : Str} {py : Pos} {elt tg iter : Expr} {ifs : List Expr} {scope : Scope} {own : List (Str × Nat)} {spos : Pos} {src : DTI} {p : Pat} {tt : DTT} {te : DTE} (hc : X.calm = true) (hN : X.N.Nodup) (hy : X.N[i]? = some y) (hyl : X.env.scope.names.lookup y = some .local)
    (hsw : swapsWith (.ListComp elt [⟨tg, iter, ifs, 0⟩] scope pos) (some (.Name y py)) spos.line X.env = pure true) (hi : PI X tg iter (LI (kx X) W src)) (ok : BlkOk X.N X.env.scope scope own) (hv : ∀ i ∈ p.ix, i ∈ own.map (·.2))
    (hg : ∀ (s : Shared) (H : Hp) (C : Addr) (cl : List (Str × Addr)) (fp : List Addr), PG (X.blk s H scope (compEnvC scope cl C X.env) fp) tg (p.tg (kx X))) (ht : ∀ (s : Shared) (H : Hp) (C : Addr) (cl : List (Str × Addr)) (fp : List Addr), PTs (X.blk s H scope (compEnvC scope cl C X.env) fp) ifs (LT (kx X) W0 tt))
    (he : ∀ (s : Shared) (H : Hp) (C : Addr) (cl : List (Str × Addr)) (fp : List Addr), PE (X.blk s H scope (compEnvC scope cl C X.env) fp) elt (LE (kx X) W0 te)) (hs : ∀ x, foldedSetIterable iter X.env x = pure x := by intro _; rfl) :
    PS X (.Assign [.Name y py] (.ListComp elt [⟨tg, iter, ifs, 0⟩] scope pos) spos) (LS (kx X) W (dSet (dLc src p tt te (own.map (·.2))) i)) := ps_wk (ps_setLc (i := i) hc hN hy hyl hsw hi ok hg ht he hs) fun D σ H h => by
  obtain ⟨Γ, G, M, DD, e, s, m, h, k⟩ := h.get
  exact wk_lc hv σ H _ ⟨Γ, G, M, _, e, s, m, h, fun v d G' H' M' t r q => k.nx _ _ G' H' M' t ((s.step t).set r i) q⟩
theorem ds_setLcO {i : Nat} {y : Str} {py : Pos} {elt tg iter : Expr} {ifs : List Expr} {scope : Scope} {own : List (Str × Nat)} {spos : Pos} {src : DTI} {p : Pat} {tt : DTT} {te : DTE} (hc : X.calm = true) (hN : X.N.Nodup) (hy : X.N[i]? = some y) (hyl : X.env.scope.names.lookup y = some .local)
    (hsw : swapsWith (.ListComp elt [⟨tg, iter, ifs, 0⟩] scope pos) (some (.Name y py)) spos.line X.env = pure true) (hi : PI X tg iter (LI (kx X) W src)) (ok : BlkOk X.N X.env.scope scope own) (hv : ∀ i ∈ p.ix, i ∈ own.map (·.2))
    (hg : ∀ (s : Shared) (H : Hp) (C : Addr) (cl : List (Str × Addr)) (fp : List Addr), PG (X.blk s H scope (compEnvC scope cl C X.env) fp) tg (p.tg (kx X))) (ht : ∀ (s : Shared) (H : Hp) (C : Addr) (cl : List (Str × Addr)) (fp : List Addr), PTs (X.blk s H scope (compEnvC scope cl C X.env) fp) ifs (LT (kx X) W0 tt))
    (he : ∀ (s : Shared) (H : Hp) (C : Addr) (cl : List (Str × Addr)) (fp : List Addr), PE (X.blk s H scope (compEnvC scope cl C X.env) fp) elt (LE (kx X) W0 te)) (hs : ∀ x, foldedSetIterable iter X.env x = pure x := by intro _; rfl) :
    PS X (.Assign [.Name y py] (.ListComp elt [⟨tg, iter, ifs, 0⟩] scope pos) spos) (LS (kx X) W (dSet (dLcO src p tt te (own.map (·.2))) i)) := ps_wk (ps_setLc (i := i) hc hN hy hyl hsw hi ok hg ht he hs) fun D σ H h => by
  obtain ⟨Γ, G, M, DD, e, s, m, h, k⟩ := h.get
  exact wk_lcO hv σ H _ ⟨Γ, G, M, _, e, s, m, h, fun v d G' H' M' t r q => k.nx _ _ G' H' M' t ((s.step t).set r i) q⟩
/-- a, b = x, y -/
def dPar (i j : Nat) (ta : DTA) : DTS := fun D Γ M => ta Γ M fun ds M1 => ∃ d d', ds = [d, d'] ∧ D.nx ((Γ.set i (some d)).set j (some d')) M1
theorem ds_par {i j : Nat} {x y : Str} {a b : Expr} {ta : DTA} {px py pt : Pos} {kt k2 pt2} (hc : X.calm = true) (hN : X.N.Nodup) (hi : X.N[i]? = some x) (hj : X.N[j]? = some y) (hij : i ≠ j)
    (hx : X.env.scope.names.lookup x = some .local) (hy : X.env.scope.names.lookup y = some .local) (ha : PA X [a, b] (LA (kx X) W ta))
    (hw : swappedStores [.Tuple [.Name x px, .Name y py] kt pt] (.Tuple [a, b] k2 pt2) X.env = pure (some [x, y])) (hs : swapsWithSole [.Tuple [.Name x px, .Name y py] kt pt] (.Tuple [a, b] k2 pt2) pos.line X.env = pure false := by rfl) :
    PS X (.Assign [.Tuple [.Name x px, .Name y py] kt pt] (.Tuple [a, b] k2 pt2) pos) (LS (kx X) W (dPar i j ta)) := ps_wk (ps_par hc hN hi hj hij hx hy ha hw hs) fun D σ H h => by
  obtain ⟨Γ, G, M, DD, e, s, m, h, k⟩ := h.get
  refine ⟨Γ, G, M, _, e, s, m, h, fun v d G' H' M' t r q => ?_⟩
  obtain ⟨d1, d2, rfl, q⟩ := q
  cases r with
  | cons r1 r2 =>
    cases r2 with
    | cons r2 r3 =>
      cases r3
      exact ⟨_, _, rfl, k.nx _ _ G' H' M' t (((s.step t).set r1 i).set r2 j) q⟩
/-- a[i] = e, a a list of one's own -/
def dSetIx (to ti te : DTE) : DTS := fun D Γ M => te Γ M fun v M1 => to Γ M1 fun o M2 => ti Γ M2 fun i M3 => ∃ a k ds j, o = .loc a ∧ i = .int k ∧ M3.l a = some ds ∧ ixN ds.length k = some j ∧ D.nx Γ (M3.put a (.lst (ds.set j v)))
theorem ds_setIx {o i : Expr} {to ti : DTE} {tpos : Pos} (he : PE X e (LE (kx X) W te)) (ho : PE X o (LE (kx X) W to)) (hi : PE X i (LE (kx X) W ti)) (hg : PE X o (LE (kx X) W to) → PE X i (LE (kx X) W ti) → PG X (.Subscript o i tpos) (gSub (LE (kx X) W to) (LE (kx X) W ti) rSetL))
    (hs : swapsWithSole [.Subscript o i tpos] e pos.line X.env = pure false := by rfl) (hw : swappedStores [.Subscript o i tpos] e X.env = pure none := by rfl) (h1 : (assignEach [.Subscript o i tpos] X.env).map (·.2) = [assign (.Subscript o i tpos) X.env] := by rfl) :
    PS X (.Assign [.Subscript o i tpos] e pos) (LS (kx X) W (dSetIx to ti te)) := ps_wk (ps_asg he (hg ho hi) hs hw h1) fun D σ H h => by
  obtain ⟨Γ, G, M, DD, e, s, m, h, k⟩ := h.get
  refine ⟨Γ, G, M, _, e, s, m, h, fun v d G1 H1 M1 t1 rv q => ⟨Γ, G1, M1, _, t1.ex', s.step t1, t1.mem, q, fun o d2 G2 H2 M2 t2 ro q => ⟨Γ, G2, M2, _, t2.ex', s.step (t1.trans t2), t2.mem, q, fun i d3 G3 H3 M3 t3 ri q => ?_⟩⟩⟩
  obtain ⟨a, kk, ds, j, rfl, rfl, hm, hj, q⟩ := q
  cases ro
  cases ri
  obtain ⟨g0, xs, hx, rx⟩ := t3.mem a (.lst ds) (Mem.of_l hm)
  refine ⟨a, xs, kk, j, rfl, rfl, hx, by rw [rx.len]; exact hj, ?_⟩
  have tw := (((t1.trans t2).trans t3).trans (Stp.write t3.ex' t3.mem (Mem.of_l hm) (rx.set (rv.mono (t2.ex.trans t3.ex)) j)))
  exact k.nx σ Γ G3 _ _ tw (s.step tw) q
/-! ### loops -/
def dForGo (I : Mem → Prop) (p : Pat) (tb : DTS) (D : DEnds) : List Dat → DEnv → Mem → Prop
  | [], Γ, M => I M ∧ D.nx Γ M
  | d :: r, Γ, M => I M ∧ ∃ Γ1, p.dg d Γ = some Γ1 ∧ tb { D with nx := dForGo I p tb D r, ct := dForGo I p tb D r, bk := D.nx } Γ1 M
def dFor (src : DTI) (p : Pat) (tb : DTS) : DTS := fun D Γ M => src Γ M fun items I M1 => dForGo I p tb D items Γ M1
theorem ds_for {tg iter : Expr} {body : List Stmt} {src : DTI} {p : Pat} {tb : DTS} (hp : PassesOwn (model X.prog X.w) X.A X.env X.xe) (hc : X.calm = true) (hi : PI X tg iter (LI (kx X) W src)) (hg : PG X tg (p.tg (kx X))) (hb : PSs X body (LS (kx X) W tb))
    (hs : ∀ x, foldedSetIterable iter X.env x = pure x := by intro _; rfl) : PS X (.For tg iter body [] pos) (LS (kx X) W (dFor src p tb)) := ps_wk (ps_for hp hc hi hg hb hs) fun D σ H h => by
  obtain ⟨Γ, G, M, DD, e, s, m, h, k⟩ := h.get
  refine ⟨Γ, G, M, _, e, s, m, h, fun J items I G1 H1 M1 t1 ok hq => ?_⟩
  refine ⟨fun i m σ H => i + m = items.length ∧ ∃ Γ G M, Stp (kx X) G1 H1 M1 G H M ∧ Sl (kx X) W G H M σ Γ ∧ dForGo I p tb DD (items.drop i) Γ M, ⟨items.length, Nat.zero_add _, Γ, G1, M1, Stp.refl t1.ex' t1.mem, s.step t1, hq⟩, fun i m σ H w => ?_⟩
  obtain ⟨em, Γ2, G2, M2, st, s2, hg⟩ := w
  have k1 := k.step t1
  have hI : I M2 := by
    cases q : items.drop i with
    | nil => rw [q] at hg; exact hg.1
    | cons d r => rw [q] at hg; exact hg.1
  obtain ⟨go, stop⟩ := ok G2 H M2 i st.ex st.ex' st.mem hI
  by_cases hi : i < items.length
  · obtain ⟨d, hd⟩ : ∃ d, items[i]? = some d := ⟨items[i], List.getElem?_eq_getElem hi⟩
    obtain ⟨g1, yl⟩ := go d hd
    have dr : items.drop i = d :: items.drop (i + 1) := by
      rw [List.drop_eq_getElem_cons hi]
      have : items[i] = d := Option.some.inj ((List.getElem?_eq_getElem hi).symm.trans hd)
      rw [this]
    rw [dr] at hg
    obtain ⟨_, Γ3, hp3, ht⟩ := hg
    refine .inr ⟨g1, fun σ' H' => ∃ Γ G M, Stp (kx X) G1 H1 M1 G H' M ∧ Sl (kx X) W G H' M σ' Γ ∧ dForGo I p tb DD (items.drop (i + 1)) Γ M, fun σ' H' v => ⟨m - 1, by omega, by omega, v⟩, fun x H' hy => ?_⟩
    obtain ⟨G3, t3, r3⟩ := yl x H' hy
    refine Pat.sound t3.ex' p (s2.step t3) r3 hp3 fun σ3 s3 _ => ?_
    have st3 := st.trans t3
    exact LS.mk t3.ex' s3 t3.mem ht ⟨fun σ' Γ' G' H' M' t s' q => ⟨Γ', G', M', st3.trans t, s', q⟩, fun v d G' H' M' t r q => k1.rt v d G' H' M' (st3.trans t) r q,
      fun σ' Γ' G' H' M' t s' q => k1.nx σ' Γ' G' H' M' (st3.trans t) s' q, fun σ' Γ' G' H' M' t s' q => ⟨Γ', G', M', st3.trans t, s', q⟩⟩
  · have e0 : items.drop i = [] := List.drop_eq_nil_of_le (by omega)
    rw [e0] at hg
    exact .inl ⟨stop (by omega), k1.nx σ Γ2 G2 H M2 st s2 hg.2⟩
def dWhGo (c : DTT) (tb : DTS) (D : DEnds) : Nat → DEnv → Mem → Prop
  | 0, _, _ => False
  | n + 1, Γ, M => c Γ M fun b M1 => if b = true then tb { D with nx := dWhGo c tb D n, ct := dWhGo c tb D n, bk := D.nx } Γ M1 else D.nx Γ M1
def dWh (c : DTT) (tb : DTS) : DTS := fun D Γ M => ∃ n, dWhGo c tb D n Γ M
theorem ds_while {c : Expr} {body : List Stmt} {tb : DTS} (hp : PassesOwn (model X.prog X.w) X.A X.env X.xe) (hc : PT X c (LT (kx X) W tc)) (hb : PSs X body (LS (kx X) W tb)) : PS X (.While c body [] pos) (LS (kx X) W (dWh tc tb)) := ps_wk (ps_while hp hc hb) fun D σ H h => by
  obtain ⟨Γ, G, M, DD, e, s, m, ⟨n, h⟩, k⟩ := h.get
  refine ⟨fun n σ1 H1 => ∃ Γ1 G1 M1, Stp (kx X) G H M G1 H1 M1 ∧ Sl (kx X) W G1 H1 M1 σ1 Γ1 ∧ dWhGo tc tb DD n Γ1 M1, ⟨n, Γ, G, M, Stp.refl e m, s, h⟩, fun n σ1 H1 w => ?_⟩
  obtain ⟨Γ1, G1, M1, st, s1, hq⟩ := w
  cases n with
  | zero => exact False.elim hq
  | succ n =>
    refine ⟨Γ1, G1, M1, _, st.ex', s1, st.mem, hq, fun b b' G2 H2 M2 t2 rb q => ?_⟩
    subst rb
    have st2 := st.trans t2
    cases b with
    | false =>
      rw [if_neg Bool.false_ne_true] at q ⊢
      exact k.nx σ1 Γ1 G2 H2 M2 st2 (s1.step t2) q
    | true =>
      rw [if_pos rfl] at q ⊢
      refine ⟨fun σ' H' => ∃ Γ1 G1 M1, Stp (kx X) G H M G1 H' M1 ∧ Sl (kx X) W G1 H' M1 σ' Γ1 ∧ dWhGo tc tb DD n Γ1 M1, fun σ' H' v => ⟨n, Nat.lt_succ_self n, v⟩, ?_⟩
      exact LS.mk t2.ex' (s1.step t2) t2.mem q ⟨fun σ' Γ' G' H' M' t s' q => ⟨Γ', G', M', st2.trans t, s', q⟩, fun v d G' H' M' t r q => k.rt v d G' H' M' (st2.trans t) r q,
        fun σ' Γ' G' H' M' t s' q => k.nx σ' Γ' G' H' M' (st2.trans t) s' q, fun σ' Γ' G' H' M' t s' q => ⟨Γ', G', M', st2.trans t, s', q⟩⟩
end
/-! ### defs -/
def startD (N : List Str) (ds : List Dat) (ex : Str → List Str → List Dat → Slots → Mem → Prop) : DEnv := ⟨ds.map some ++ List.replicate (N.length - ds.length) none, ex⟩
theorem sl_start {K : Kx} {G : Hp} {N : List Str} {vs : List V} {ds : List Dat} {ex : Str → List Str → List Dat → Slots → Mem → Prop} (r : DPs K G vs ds) : SlO K G (L2.start N vs) (startD N ds ex).sl := by
  unfold L2.start startD
  refine ⟨by simp only [List.length_append, List.length_map, List.length_replicate]; rw [r.len], fun i d h => ?_⟩
  by_cases hi : i < ds.length
  · rw [List.getElem?_append_left (by rw [List.length_map]; exact hi), List.getElem?_map] at h
    cases q : ds[i]? with
    | none => rw [q] at h; cases h
    | some d' =>
      rw [q] at h
      have e : d' = d := Option.some.inj (Option.some.inj h)
      subst e
      obtain ⟨v, h1, h2⟩ := r.get q
      refine ⟨v, ?_, h2⟩
      rw [List.getElem?_append_left (by rw [List.length_map, r.len]; exact hi), List.getElem?_map, h1]
      rfl
  · rw [List.getElem?_append_right (by rw [List.length_map]; omega)] at h
    have := List.mem_of_getElem? h
    have := List.eq_of_mem_replicate this
    cases this
section
variable {P : Program} {w : World} {K : PySem.W.Frag} {mg : Str → Option Value} {base : Heap}
/-- what a def's end makes of what is wanted: what the def made and nobody else knows is forgotten -/
def endsOf (Φ : Dat → Mem → Prop) : DEnds := { nx := fun _ M' => ∃ M0, Sub M0 M' ∧ Φ .non M0, rt := fun d M' => ∃ M0, Sub M0 M' ∧ Φ d M0, bk := fun _ _ => False, ct := fun _ _ => False }
def exOf (Ψ : DXc) : Str → List Str → List Dat → Slots → Mem → Prop := fun c ns fs _ M' => ∃ M0, Sub M0 M' ∧ Ψ c ns fs M0
/-- THE RULE for a def: its body's reading over data, and that this reading holds wherever the promise is asked -/
theorem fn_x {x qual : Str} {st : Stmt} {f : Addr} {fd : FuncData} {N ps : List Str} {k : Nat} {sp : DFnX} {t : DTS} (F : Fun K x qual st f fd) (S : FnScope N ps (defScope st))
    (hb : ∀ (cdv : Value) (A : Around) (outer : List PySem.Env) (s : Shared) (H : Hp) (E : XK), Room k (A.deeper (envOfC qual (defScope st) s.heap.objs.size f cdv)) → PSs (cxOf (L2.CX P w) P w K mg base N qual (defScope st) f cdv A outer s H E) (defBody st) (LS ⟨K, mg⟩ (fun c d _ H => E c d H) t))
    (h : ∀ ds M Φ Ψ, sp ds M Φ Ψ → ds.length = ps.length ∧ t (endsOf Φ) (startD N ds (exOf Ψ)) M) : FnOk P w K mg base (L2.CX P w) (k + 1) f fd ps (spX ⟨K, mg⟩ sp) := by
  obtain ⟨oc, od, kV, doc, pm, an, cdv, ct, osl, rfl, lk, hcd⟩ := F.ex
  refine fn_in lk hcd S (fun vs H Q E h0 => ?_) fun A outer s H vs Q E hr h0 => ⟨_, hb cdv A outer s H E hr, ?_⟩
  · obtain ⟨G, M, ds, Φ, Ψ, e, m, r, hs, kk, kx⟩ := h0
    rw [r.len]
    exact (h ds M Φ Ψ hs).1
  · obtain ⟨G, M, ds, Φ, Ψ, e, m, r, hs, kk, kx⟩ := h0
    refine LS.mk e ⟨sl_start r, fun c ns fs C da σ' sl' G' H' M' t' _ hc hd q => ?_⟩ m (h ds M Φ Ψ hs).2 ⟨fun σ' Γ' G' H' M' t s' q => ?_, fun v d G' H' M' t r q => ?_, fun _ _ _ _ _ _ _ q => q.elim, fun _ _ _ _ _ _ _ q => q.elim⟩
    · obtain ⟨M0, hs, q⟩ := q
      exact kx c ns fs C da G' H' M0 (t'.drop hs) hc hd q
    · obtain ⟨M0, hs, q⟩ := q
      exact kk .non .non G' H' M0 (t.drop hs) .non q
    · obtain ⟨M0, hs, q⟩ := q
      exact kk v d G' H' M0 (t.drop hs) r q
end
end EX
/-! The data layer 6: operators, comparisons, subscripts, built-ins. -/
namespace EX
open PySem PySem.Spec PyProof.Rows L2

/-! ### as the library's data, for == -/
mutual
def toP0 : Dat → Option PyData
  | .non => some .none
  | .bl b => some (.bool b)
  | .int i => some (.int i)
  | .str x => some (.str x)
  | .lst ds => (toP0s ds).map .list
  | .tup ds => (toP0s ds).map .tuple
  | _ => none
def toP0s : List Dat → Option (List PyData)
  | [] => some []
  | d :: ds => (toP0 d).bind fun p => (toP0s ds).map (p :: ·)
end
mutual
def toP (M : Mem) : Dat → Option PyData
  | .non => some .none
  | .bl b => some (.bool b)
  | .int i => some (.int i)
  | .str x => some (.str x)
  | .lst ds => (toPs M ds).map .list
  | .tup ds => (toPs M ds).map .tuple
  | .loc a => (M.l a).bind fun ds => (toP0s ds).map .list
  | _ => none
def toPs (M : Mem) : List Dat → Option (List PyData)
  | [] => some []
  | d :: ds => (toP M d).bind fun p => (toPs M ds).map (p :: ·)
end
section
variable {K : Kx} {W : WX} {G H : Hp} {M : Mem}
mutual
theorem DP.dp0 (e : Ex G H) : ∀ {v : V} {d : Dat} {p : PyData}, DP K G v d → toP0 d = some p → Dp K.K H v p
  | _, _, _, .non, h => by cases h; exact .non
  | _, _, _, .bl b, h => by cases h; exact .bl b
  | _, _, _, .int i, h => by cases h; exact .int i
  | _, _, _, .str x, h => by cases h; exact .str x
  | _, _, p, @DP.lst _ _ a xs ds ha r, h => by
    have h' : (toP0s ds).map PyData.list = some p := h
    cases q : toP0s ds with
    | none => rw [q] at h'; cases h'
    | some ps =>
      rw [q] at h'
      cases h'
      exact .lst (DP.sql e ha) (DPs.dps0 e r q)
  | _, _, p, @DP.tup _ _ a xs ds ha r, h => by
    have h' : (toP0s ds).map PyData.tuple = some p := h
    cases q : toP0s ds with
    | none => rw [q] at h'; cases h'
    | some ps =>
      rw [q] at h'
      cases h'
      exact .tup (DP.sqt e ha) (DPs.dps0 e r q)
  | _, _, _, .loc a, h => by cases h
  | _, _, _, .scr _, h => by cases h
  | _, _, _, .ty _, h => by cases h
  | _, _, _, .cls _, h => by cases h
  | _, _, _, .ins _ _ _ _ _, h => by cases h
  | _, _, _, .dK _ _ _, h => by cases h
  | _, _, _, .dT _ _ _, h => by cases h
theorem DPs.dps0 (e : Ex G H) : ∀ {vs : List V} {ds : List Dat} {ps : List PyData}, DPs K G vs ds → toP0s ds = some ps → DpAll K.K H vs ps
  | _, _, _, .nil, h => by cases h; exact .nil
  | _, _, ps, @DPs.cons _ _ v vs d ds r rs, h => by
    have h' : ((toP0 d).bind fun p => (toP0s ds).map (p :: ·)) = some ps := h
    cases q : toP0 d with
    | none => rw [q] at h'; cases h'
    | some p =>
      rw [q] at h'
      have h2 : (toP0s ds).map (p :: ·) = some ps := h'
      cases q2 : toP0s ds with
      | none => rw [q2] at h2; cases h2
      | some qs =>
        rw [q2] at h2
        cases h2
        exact .cons (DP.dp0 e r q) (DPs.dps0 e rs q2)
end
mutual
theorem DP.dp (e : Ex G H) (m : MemOk K G H M) : ∀ {v : V} {d : Dat} {p : PyData}, DP K G v d → toP M d = some p → Dp K.K H v p
  | _, _, _, .non, h => by cases h; exact .non
  | _, _, _, .bl b, h => by cases h; exact .bl b
  | _, _, _, .int i, h => by cases h; exact .int i
  | _, _, _, .str x, h => by cases h; exact .str x
  | _, _, p, @DP.lst _ _ a xs ds ha r, h => by
    have h' : (toPs M ds).map PyData.list = some p := h
    cases q : toPs M ds with
    | none => rw [q] at h'; cases h'
    | some ps =>
      rw [q] at h'
      cases h'
      exact .lst (DP.sql e ha) (DPs.dps e m r q)
  | _, _, p, @DP.tup _ _ a xs ds ha r, h => by
    have h' : (toPs M ds).map PyData.tuple = some p := h
    cases q : toPs M ds with
    | none => rw [q] at h'; cases h'
    | some ps =>
      rw [q] at h'
      cases h'
      exact .tup (DP.sqt e ha) (DPs.dps e m r q)
  | _, _, p, .loc a, h => by
    have h' : ((M.l a).bind fun ds => (toP0s ds).map PyData.list) = some p := h
    cases q : M.l a with
    | none => rw [q] at h'; cases h'
    | some ds =>
      rw [q] at h'
      have h2 : (toP0s ds).map PyData.list = some p := h'
      cases q2 : toP0s ds with
      | none => rw [q2] at h2; cases h2
      | some ps =>
        rw [q2] at h2
        cases h2
        obtain ⟨_, xs, hx, hr⟩ := m a (.lst ds) (Mem.of_l q)
        exact .lst (.inl (.inl hx)) (hr.dps0 e q2)
  | _, _, _, .scr _, h => by cases h
  | _, _, _, .ty _, h => by cases h
  | _, _, _, .cls _, h => by cases h
  | _, _, _, .ins _ _ _ _ _, h => by cases h
  | _, _, _, .dK _ _ _, h => by cases h
  | _, _, _, .dT _ _ _, h => by cases h
theorem DPs.dps (e : Ex G H) (m : MemOk K G H M) : ∀ {vs : List V} {ds : List Dat} {ps : List PyData}, DPs K G vs ds → toPs M ds = some ps → DpAll K.K H vs ps
  | _, _, _, .nil, h => by cases h; exact .nil
  | _, _, ps, @DPs.cons _ _ v vs d ds r rs, h => by
    have h' : ((toP M d).bind fun p => (toPs M ds).map (p :: ·)) = some ps := h
    cases q : toP M d with
    | none => rw [q] at h'; cases h'
    | some p =>
      rw [q] at h'
      have h2 : (toPs M ds).map (p :: ·) = some ps := h'
      cases q2 : toPs M ds with
      | none => rw [q2] at h2; cases h2
      | some qs =>
        rw [q2] at h2
        cases h2
        exact .cons (DP.dp e m r q) (DPs.dps e m rs q2)
end
end
/-- kinds of data with a plain == -/
class Enc (α : Type) where
  d : α → Dat
  p : α → PyData
  dep : Nat
  tp : ∀ M a, toP M (d a) = some (p a)
  deq : DecidableEq α
  eq : ∀ a b, PyData.eqv (p a) (p b) = @decide (a = b) (deq a b)
  lay : ∀ a, (p a).canLay0 = true
  depth : ∀ a, (p a).depth ≤ dep
theorem toPs_map {α : Type} {M : Mem} {f : α → Dat} {g : α → PyData} (h : ∀ a, toP M (f a) = some (g a)) : ∀ xs : List α, toPs M (xs.map f) = some (xs.map g)
  | [] => rfl
  | x :: xs => by
    show ((toP M (f x)).bind fun p => (toPs M (xs.map f)).map (p :: ·)) = _
    rw [h, toPs_map h xs]
    rfl
theorem eqvAll_map {α : Type} [DecidableEq α] {g : α → PyData} (h : ∀ a b, PyData.eqv (g a) (g b) = decide (a = b)) : ∀ xs ys : List α, PyData.eqvAll (xs.map g) (ys.map g) = decide (xs = ys)
  | [], [] => rfl
  | [], y :: ys => rfl
  | x :: xs, [] => rfl
  | x :: xs, y :: ys => by
    show (PyData.eqv (g x) (g y) && PyData.eqvAll (xs.map g) (ys.map g)) = _
    rw [h, eqvAll_map h xs ys, Bool.eq_iff_iff]
    simp
instance : Enc Int where
  d := .int
  p := .int
  dep := 0
  tp := fun _ _ => rfl
  deq := inferInstance
  eq := fun a b => by
    show (a == b) = _
    rw [Bool.eq_iff_iff]
    simp
  lay := fun _ => rfl
  depth := fun _ => Nat.le_refl _
instance : Enc Bool where
  d := .bl
  p := .bool
  dep := 0
  tp := fun _ _ => rfl
  deq := inferInstance
  eq := fun a b => by
    show (a == b) = _
    rw [Bool.eq_iff_iff]
    simp
  lay := fun _ => rfl
  depth := fun _ => Nat.le_refl _
theorem canLayAll_map {α : Type} {g : α → PyData} (h : ∀ a, (g a).canLay0 = true) : ∀ xs : List α, PyData.canLayAll0 (xs.map g) = true
  | [] => rfl
  | x :: xs => by
    show ((g x).canLay0 && PyData.canLayAll0 (xs.map g)) = true
    rw [h, canLayAll_map h xs]
    rfl
theorem depthAll_map {α : Type} {g : α → PyData} {n : Nat} (h : ∀ a, (g a).depth ≤ n) : ∀ xs : List α, PyData.depthAll (xs.map g) ≤ n
  | [] => Nat.zero_le _
  | x :: xs => by
    show max (g x).depth (PyData.depthAll (xs.map g)) ≤ n
    exact Nat.max_le.mpr ⟨h x, depthAll_map h xs⟩
instance {α : Type} [E : Enc α] : Enc (List α) where
  d := fun xs => .lst (xs.map E.d)
  p := fun xs => .list (xs.map E.p)
  dep := E.dep + 1
  tp := fun M xs => by
    show (toPs M (xs.map E.d)).map PyData.list = _
    rw [toPs_map (E.tp M)]
    rfl
  deq := @instDecidableEqList α E.deq
  eq := fun a b => @eqvAll_map α E.deq E.p E.eq a b
  lay := fun xs => canLayAll_map E.lay xs
  depth := fun xs => Nat.succ_le_succ (depthAll_map E.depth xs)
instance {α β : Type} [E : Enc α] [F : Enc β] : Enc (α × β) where
  d := fun x => .tup [E.d x.1, F.d x.2]
  p := fun x => .tuple [E.p x.1, F.p x.2]
  dep := max E.dep F.dep + 1
  tp := fun M x => by
    show (((toP M (E.d x.1)).bind fun p => ((toP M (F.d x.2)).bind fun q => (some []).map (q :: ·)).map (p :: ·))).map PyData.tuple = _
    rw [E.tp, F.tp]
    rfl
  deq := @instDecidableEqProd α β E.deq F.deq
  eq := fun a b => by
    have := E.deq
    have := F.deq
    show (PyData.eqv (E.p a.1) (E.p b.1) && (PyData.eqv (F.p a.2) (F.p b.2) && true)) = _
    rw [E.eq, F.eq, Bool.eq_iff_iff]
    simp [Prod.ext_iff]
  lay := fun x => by
    show ((E.p x.1).canLay0 && ((F.p x.2).canLay0 && true)) = true
    rw [E.lay, F.lay]
    rfl
  depth := fun x => by
    show max (E.p x.1).depth (max (F.p x.2).depth 0) + 1 ≤ _
    have h1 := E.depth x.1
    have h2 := F.depth x.2
    omega

/-! ### the operators over data -/
def oEq (neg : Bool) : DOp := fun x y M Φ => ∃ p q, toP M x = some p ∧ toP M y = some q ∧ SeqAt.shaped p = true ∧ SeqAt.shaped q = true ∧ Φ (.bl (if neg then !PyData.eqv p q else PyData.eqv p q)) M
theorem oEq_of {α : Type} [E : Enc α] {neg : Bool} {a b : α} {x y : Dat} {M : Mem} {Φ : Dat → Mem → Prop} (hx : toP M x = some (E.p a)) (hy : toP M y = some (E.p b)) (hd : E.dep ≤ 64) (h : Φ (.bl (if neg then !@decide (a = b) (E.deq a b) else @decide (a = b) (E.deq a b))) M) : oEq neg x y M Φ := by
  refine ⟨_, _, hx, hy, ?_, ?_, ?_⟩
  · exact Bool.and_eq_true_iff.mpr ⟨E.lay a, decide_eq_true (Nat.le_trans (E.depth a) hd)⟩
  · exact Bool.and_eq_true_iff.mpr ⟨E.lay b, decide_eq_true (Nat.le_trans (E.depth b) hd)⟩
  · rw [E.eq]; exact h
theorem oEq_enc {α : Type} [E : Enc α] {neg : Bool} {a b : α} {M : Mem} {Φ : Dat → Mem → Prop} (hd : E.dep ≤ 64) (h : Φ (.bl (if neg then !@decide (a = b) (E.deq a b) else @decide (a = b) (E.deq a b))) M) : oEq neg (E.d a) (E.d b) M Φ := oEq_of (E.tp M a) (E.tp M b) hd h
/-- a list of the heap's own, as it stands -/
def vl (M : Mem) : Dat → Option (List Dat)
  | .lst ds => some ds
  | .loc a => M.l a
  | _ => none
theorem vl_at {K : Kx} {G H : Hp} {M : Mem} {v : V} {d : Dat} {ds : List Dat} (e : Ex G H) (m : MemOk K G H M) (r : DP K G v d) (h : vl M d = some ds) : ∃ a xs, v = .ref a ∧ H a = some (.lst xs) ∧ DPs K G xs ds := by
  cases r with
  | @lst a xs ds' ha hr => cases h; exact ⟨a, xs, rfl, e _ _ ha, hr⟩
  | loc a =>
    obtain ⟨g0, xs, hx, hr⟩ := m a (.lst ds) (Mem.of_l h)
    exact ⟨a, xs, rfl, hx, hr⟩
  | _ => cases h
def oAdd : DOp
  | .int i, .int j, M, Φ => Φ (.int (i + j)) M
  | .str a, .str b, M, Φ => a.length + b.length ≤ sizeLine ∧ Φ (.str (a ++ b)) M
  | x, y, M, Φ => ∃ a b, vl M x = some a ∧ vl M y = some b ∧ a.length + b.length ≤ sizeLine ∧ Φ (.lst (a ++ b)) M
def oSub : DOp
  | .int i, .int j, M, Φ => Φ (.int (i - j)) M
  | _, _, _, _ => False
def oMul : DOp
  | .int i, .int j, M, Φ => IntMulOk i j ∧ Φ (.int (i * j)) M
  | .lst a, .int k, M, Φ => (-(2 ^ 63) ≤ k ∧ k < 2 ^ 63 ∧ a.length * k.toNat ≤ sizeLine) ∧ Φ (.lst (List.replicate k.toNat a).flatten) M
  | _, _, _, _ => False
def oFdiv : DOp
  | .int i, .int j, M, Φ => j ≠ 0 ∧ Φ (.int (i.fdiv j)) M
  | _, _, _, _ => False
def oMod : DOp
  | .int i, .int j, M, Φ => j ≠ 0 ∧ Φ (.int (i.fmod j)) M
  | _, _, _, _ => False
def oPow : DOp
  | .int i, .int j, M, Φ => CPow i j ∧ Φ (.int (i ^ j.toNat)) M
  | _, _, _, _ => False
def oLt : DOp
  | .int i, .int j, M, Φ => Φ (.bl (decide (i < j))) M
  | _, _, _, _ => False
def oLe : DOp
  | .int i, .int j, M, Φ => Φ (.bl (decide (i ≤ j))) M
  | _, _, _, _ => False
def oGt : DOp
  | .int i, .int j, M, Φ => Φ (.bl (decide (j < i))) M
  | _, _, _, _ => False
def oGe : DOp
  | .int i, .int j, M, Φ => Φ (.bl (decide (j ≤ i))) M
  | _, _, _, _ => False
def isNon : Dat → Bool
  | .non => true
  | _ => false
def oIs (neg : Bool) : DOp := fun x y M Φ => y = .non ∧ Φ (.bl (if neg then !isNon x else isNon x)) M
def oNeg : DUn
  | .int i, M, Φ => Φ (.int (-i)) M
  | _, _, _ => False
/-- a list or tuple, as it stands -/
def vq (M : Mem) : Dat → Option (List Dat)
  | .lst ds => some ds
  | .tup ds => some ds
  | .loc a => M.l a
  | .scr ns => some (ns.map .int)
  | _ => none
theorem vq_at {K : Kx} {G H : Hp} {M : Mem} {v : V} {d : Dat} {ds : List Dat} (e : Ex G H) (m : MemOk K G H M) (r : DP K G v d) (h : vq M d = some ds) : ∃ a xs, v = .ref a ∧ (SqL K.K H a xs ∨ SqT K.K H a xs) ∧ DPs K G xs ds := by
  cases r with
  | @lst a xs ds' ha hr => cases h; exact ⟨a, xs, rfl, .inl (DP.sql e ha), hr⟩
  | @tup a xs ds' ha hr => cases h; exact ⟨a, xs, rfl, .inr (DP.sqt e ha), hr⟩
  | loc a =>
    obtain ⟨g0, xs, hx, hr⟩ := m a (.lst ds) (Mem.of_l h)
    exact ⟨a, xs, rfl, .inl (.inl (.inl hx)), hr⟩
  | @scr a ns ha => cases h; exact ⟨a, _, rfl, .inl (e.sql ha), DPs.of_ints ns⟩
  | _ => cases h
def oIx : DOp := fun x y M Φ => ∃ ds i d, vq M x = some ds ∧ y = .int i ∧ atI ds i = some d ∧ Φ d M
def cutD (ds : List Dat) (lo hi : Option Int) : List Dat := (ds.drop (HT.sIx ds.length 0 lo)).take (HT.sIx ds.length ds.length hi - HT.sIx ds.length 0 lo)
def oSl (x : Dat) (lo hi : Option Int) (M : Mem) (Φ : Dat → Mem → Prop) : Prop := ∃ ds, vw M x = some ds ∧ Φ (.lst (cutD ds lo hi)) M
def oLen : DFn := fun xs M Φ => ∃ x ds, xs = [x] ∧ vq M x = some ds ∧ Φ (.int (ds.length : Nat)) M
def oAbs : DFn
  | [.int i], M, Φ => Φ (.int (i.natAbs : Int)) M
  | _, _, _ => False
def oInt : DFn
  | [.int i], M, Φ => Φ (.int i) M
  | [.bl b], M, Φ => Φ (.int (if b then 1 else 0)) M
  | _, _, _ => False
def oList : DFn := fun xs M Φ => ∃ x ds, xs = [x] ∧ vq M x = some ds ∧ Φ (.lst ds) M
/-- a list of one's own -/
def oListO : DFn := fun xs M Φ => ∃ x ds, xs = [x] ∧ vq M x = some ds ∧ ∀ p, M p = none → Φ (.loc p) (M.put p (.lst ds))
def oSum : DFn := fun xs M Φ => ∃ x, ∃ ns : List Int, xs = [x] ∧ vw M x = some (ns.map .int) ∧ Φ (.int ns.sum) M
def oMax : DFn := fun xs M Φ => ∃ x, ∃ ns : List Int, xs = [x] ∧ vw M x = some (ns.map .int) ∧ 0 < ns.length ∧ ∀ m, m ∈ ns → (∀ y, y ∈ ns → y ≤ m) → Φ (.int m) M
def oTuple : DFn
  | [.lst ds], M, Φ => Φ (.tup ds) M
  | [.tup ds], M, Φ => Φ (.tup ds) M
  | _, _, _ => False
/-- isinstance with a built-in type -/
def oIsi : DFn := fun xs M Φ => ∃ x T, xs = [x, .ty T] ∧ ∃ t b, (match x with
  | .non => t = "NoneType"
  | .bl _ => t = "bool"
  | .int _ => t = "int"
  | .str _ => t = "str"
  | .lst _ => t = "list"
  | .tup _ => t = "tuple"
  | .loc a => t = "list" ∧ M.l a ≠ none
  | _ => False) ∧ kitB t T = some b ∧ Φ (.bl b) M
/-- methods -/
def oAppend : Dat → List Dat → Mem → (Dat → Mem → Prop) → Prop
  | .loc a, [d], M, Φ => ∃ ds, M.l a = some ds ∧ ds.length < sizeLine ∧ Φ .non (M.put a (.lst (ds ++ [d])))
  | _, _, _, _ => False
def oExtend : Dat → List Dat → Mem → (Dat → Mem → Prop) → Prop
  | .loc a, [x], M, Φ => ∃ ds es, M.l a = some ds ∧ vl M x = some es ∧ ds.length + es.length ≤ sizeLine ∧ Φ .non (M.put a (.lst (ds ++ es)))
  | _, _, _, _ => False

/-- nothing looks on while a great number is divided -/
structure PyD (X : Cx) : Prop where
  ns : X.base.NoSeer
  tr : X.prog.given.tree = none
  dp : X.A.depth + Builtin.pylongFrames < recursionLimit
  st : ∃ (env : PySem.Env) (l : List PySem.Env), X.stack = env :: l ∧ env.scope.isGenerator = false ∧ env.scope.isCoroutine = false ∧ env.builtins = builtinsNs ∧ env.globals = mainGlobals
theorem PyD.room {X : Cx} (p : PyD X) {pins : List (Addr × Obj)} {σ : L2.St} {H : Hp} {s : Shared} (I : Inv X pins σ H s) : PylongRoom (model X.prog X.w) X.A s := by
  obtain ⟨env, l, e, g1, g2, g3, g4⟩ := p.st
  have fr : X.A.frames = some (env :: l) := I.ok.frames.trans (congrArg some e)
  exact PylongRoom.of I.nolimit p.dp (SeerAt.of (p.ns.keeps I.bk) p.tr fr g1 g2 g3 g4)
section
variable {X : Cx} {W : WX}
theorem LOp.int2 {K : Kx} {f : Int → Int → Prop} {g : Int → Int → Dat} {gv : Int → Int → V} (hg : ∀ G i j, DP K G (gv i j) (g i j)) {x y : V} {H : Hp} {Q : VK} {r : DOp} (hr : ∀ dx dy M Φ, r dx dy M Φ → ∃ i j, dx = .int i ∧ dy = .int j ∧ f i j ∧ Φ (g i j) M)
    (h : LOp K r x y H Q) : ∃ i j, x = .int i ∧ y = .int j ∧ f i j ∧ Q (gv i j) H := by
  obtain ⟨G, M, dx, dy, Φ, e, m, rx, ry, q, k⟩ := h
  obtain ⟨i, j, rfl, rfl, hf, q⟩ := hr _ _ _ _ q
  cases rx
  cases ry
  exact ⟨i, j, rfl, rfl, hf, k _ _ G H M (Stp.refl e m) (hg G i j) q⟩
theorem opr_wk {f : Value → Value → Sem Value} {r r' : R2} (h : OpR X f r) (w : ∀ x y H Q, r' x y H Q → r x y H Q) : OpR X f r' := fun pins s σ H x y v u Q I rx ry q => h pins s σ H x y v u Q I rx ry (w x y H Q q)
theorem unr_wk {f : Value → Sem Value} {r r' : V → Hp → VK → Prop} (h : UnR X f r) (w : ∀ x H Q, r' x H Q → r x H Q) : UnR X f r' := fun pins s σ H x v Q I rx q => h pins s σ H x v Q I rx (w x H Q q)
theorem ixr_wk {r r' : R2} (h : IxR X r) (w : ∀ x y H Q, r' x y H Q → r x y H Q) : IxR X r' := fun a b pins s σ H x y v u Q I rx ry q hs => h a b pins s σ H x y v u Q I rx ry (w x y H Q q) hs
theorem callr_wk {f : Value} {r r' : List V → Hp → VK → Prop} (h : CallR X f r) (w : ∀ xs H Q, r' xs H Q → r xs H Q) : CallR X f r' := fun pins s σ H xs us Q I rx q => h pins s σ H xs us Q I rx (w xs H Q q)
theorem int2_inv {r : Int → Int → Mem → (Dat → Mem → Prop) → Prop} {o : DOp} (h : ∀ dx dy M Φ, o dx dy M Φ → ∃ i j, dx = .int i ∧ dy = .int j ∧ r i j M Φ) : True := trivial
theorem os_sub : OpR X (binaryOp .Sub) (LOp (kx X) oSub) := opr_wk op_sub fun x y H Q h => by
  obtain ⟨i, j, a, b, _, c⟩ := LOp.int2 (f := fun _ _ => True) (g := fun i j => .int (i - j)) (gv := fun i j => .int (i - j)) (fun _ _ _ => .int _) (fun dx dy M Φ q => by cases dx <;> cases dy <;> first | exact ⟨_, _, rfl, rfl, trivial, q⟩ | exact q.elim) h
  exact ⟨i, j, a, b, c⟩
theorem os_fdiv (hp : PyD X) : OpR X (binaryOp .FloorDiv) (LOp (kx X) oFdiv) := by
  intro pins s σ H x y v u Q I rx ry h
  obtain ⟨i, j, rfl, rfl, c, q⟩ := LOp.int2 (f := fun _ j => j ≠ 0) (g := fun i j => .int (i.fdiv j)) (gv := fun i j => .int (i.fdiv j)) (fun _ _ _ => .int _) (fun dx dy M Φ q => by cases dx <;> cases dy <;> first | exact ⟨_, _, rfl, rfl, q.1, q.2⟩ | exact q.elim) h
  obtain ⟨t, rfl⟩ := rx
  obtain ⟨t', rfl⟩ := ry
  exact floordiv_int c ⟨.int _, H, I.tok _, ⟨_, rfl⟩, q⟩ (.inr (hp.room I))
theorem os_mod : OpR X (binaryOp .Mod) (LOp (kx X) oMod) := opr_wk op_modN fun x y H Q h => by
  exact LOp.int2 (f := fun _ j => j ≠ 0) (g := fun i j => .int (i.fmod j)) (gv := fun i j => .int (i.fmod j)) (fun _ _ _ => .int _) (fun dx dy M Φ q => by cases dx <;> cases dy <;> first | exact ⟨_, _, rfl, rfl, q.1, q.2⟩ | exact q.elim) h
theorem os_pow : OpR X (binaryOp .Pow) (LOp (kx X) oPow) := opr_wk op_pow fun x y H Q h => by
  exact LOp.int2 (f := CPow) (g := fun i j => .int (i ^ j.toNat)) (gv := fun i j => .int (i ^ j.toNat)) (fun _ _ _ => .int _) (fun dx dy M Φ q => by cases dx <;> cases dy <;> first | exact ⟨_, _, rfl, rfl, q.1, q.2⟩ | exact q.elim) h
theorem os_lt : OpR X (compareOp .Lt) (LOp (kx X) oLt) := opr_wk op_lt fun x y H Q h => by
  obtain ⟨i, j, a, b, _, c⟩ := LOp.int2 (f := fun _ _ => True) (g := fun i j => .bl (decide (i < j))) (gv := fun i j => .bl (decide (i < j))) (fun _ _ _ => .bl _) (fun dx dy M Φ q => by cases dx <;> cases dy <;> first | exact ⟨_, _, rfl, rfl, trivial, q⟩ | exact q.elim) h
  exact ⟨i, j, a, b, c⟩
theorem os_le : OpR X (compareOp .LtE) (LOp (kx X) oLe) := opr_wk op_le fun x y H Q h => by
  obtain ⟨i, j, a, b, _, c⟩ := LOp.int2 (f := fun _ _ => True) (g := fun i j => .bl (decide (i ≤ j))) (gv := fun i j => .bl (decide (i ≤ j))) (fun _ _ _ => .bl _) (fun dx dy M Φ q => by cases dx <;> cases dy <;> first | exact ⟨_, _, rfl, rfl, trivial, q⟩ | exact q.elim) h
  exact ⟨i, j, a, b, c⟩
theorem os_gt : OpR X (compareOp .Gt) (LOp (kx X) oGt) := opr_wk op_gt fun x y H Q h => by
  obtain ⟨i, j, a, b, _, c⟩ := LOp.int2 (f := fun _ _ => True) (g := fun i j => .bl (decide (j < i))) (gv := fun i j => .bl (decide (j < i))) (fun _ _ _ => .bl _) (fun dx dy M Φ q => by cases dx <;> cases dy <;> first | exact ⟨_, _, rfl, rfl, trivial, q⟩ | exact q.elim) h
  exact ⟨i, j, a, b, c⟩
theorem os_ge : OpR X (compareOp .GtE) (LOp (kx X) oGe) := opr_wk op_ge fun x y H Q h => by
  obtain ⟨i, j, a, b, _, c⟩ := LOp.int2 (f := fun _ _ => True) (g := fun i j => .bl (decide (j ≤ i))) (gv := fun i j => .bl (decide (j ≤ i))) (fun _ _ _ => .bl _) (fun dx dy M Φ q => by cases dx <;> cases dy <;> first | exact ⟨_, _, rfl, rfl, trivial, q⟩ | exact q.elim) h
  exact ⟨i, j, a, b, c⟩
theorem os_neg : UnR X (unaryOp .USub) (LUn (kx X) oNeg) := unr_wk un_neg fun x H Q h => by
  obtain ⟨G, M, dx, Φ, e, m, rx, q, k⟩ := h
  cases dx <;> first
    | exact (show False from q).elim
    | (cases rx; exact ⟨_, rfl, k _ _ G H M (Stp.refl e m) (.int _) q⟩)
theorem oAdd_lists {x y : Dat} {M : Mem} {Φ : Dat → Mem → Prop} (h : oAdd x y M Φ) : (∃ i j, x = .int i ∧ y = .int j ∧ Φ (.int (i + j)) M) ∨ (∃ a b, x = .str a ∧ y = .str b ∧ a.length + b.length ≤ sizeLine ∧ Φ (.str (a ++ b)) M) ∨ ∃ a b, vl M x = some a ∧ vl M y = some b ∧ a.length + b.length ≤ sizeLine ∧ Φ (.lst (a ++ b)) M := by
  cases x <;> cases y <;> first
    | exact .inl ⟨_, _, rfl, rfl, h⟩
    | exact .inr (.inl ⟨_, _, rfl, rfl, h⟩)
    | exact .inr (.inr h)
theorem os_add : OpR X (binaryOp .Add) (LOp (kx X) oAdd) := by
  intro pins s σ H x y v u Q I rx ry h
  obtain ⟨G, M, dx, dy, Φ, e, m, hx, hy, q, k⟩ := h
  rcases oAdd_lists q with ⟨i, j, rfl, rfl, q⟩ | ⟨a, b, rfl, rfl, hz, q⟩ | ⟨ds, es, h1, h2, hz, q⟩
  · cases hx
    cases hy
    exact op_add pins s σ H _ _ v u Q I rx ry ⟨i, j, rfl, rfl, k _ _ G H M (Stp.refl e m) (.int _) q⟩
  · cases hx
    cases hy
    exact op_add_str pins s σ H _ _ v u Q I rx ry ⟨a, b, rfl, rfl, hz, k _ _ G H M (Stp.refl e m) (.str _) q⟩
  · obtain ⟨a, xs, rfl, ha, hr⟩ := vl_at e m hx h1
    obtain ⟨b, ys, rfl, hb, hr'⟩ := vl_at e m hy h2
    exact op_cat pins s σ H _ _ v u Q I rx ry ⟨a, b, xs, ys, rfl, rfl, ha, hb, by rw [hr.len, hr'.len]; exact hz, fun p hp => k _ (.lst (ds ++ es)) _ _ M (Stp.alloc e m hp) (.lst upd_same ((hr.app hr').mono (Ex.new (e.free hp)))) q⟩
theorem op_mulK : OpR X (binaryOp .Mult) (rI IntMulOk fun i j => .int (i * j)) := opI fun _ _ _ _ _ _ _ hc q => mul_int q hc
theorem os_mul : OpR X (binaryOp .Mult) (LOp (kx X) oMul) := by
  intro pins s σ H x y v u Q I rx ry h
  obtain ⟨G, M, dx, dy, Φ, e, m, hx, hy, q, k⟩ := h
  cases hx with
  | int i =>
    cases hy with
    | int j => exact op_mulK pins s σ H _ _ v u Q I rx ry ⟨i, j, rfl, rfl, q.1, k _ _ G H M (Stp.refl e m) (.int _) q.2⟩
    | _ => exact (show False from q).elim
  | @lst a xs ds ha hr =>
    cases hy with
    | int n => exact op_rep pins s σ H _ _ v u Q I rx ry ⟨a, n, xs, rfl, rfl, e _ _ ha, q.1.1, q.1.2.1, by rw [hr.len]; exact q.1.2.2, fun p hp => k _ (.lst (List.replicate n.toNat ds).flatten) _ _ M (Stp.alloc e m hp) (.lst upd_same ((hr.rep _).mono (Ex.new (e.free hp)))) q.2⟩
    | _ => exact (show False from q).elim
  | _ => exact (show False from q).elim
theorem os_eq (hu : X.A.units + 64 < cLine) : OpR X (compareOp .Eq) (LOp (kx X) (oEq false)) := opr_wk (op_eqD hu) fun x y H Q h => by
  obtain ⟨G, M, dx, dy, Φ, e, m, hx, hy, ⟨p, q, tp, tq, sp, sq, r⟩, k⟩ := h
  exact ⟨p, q, hx.dp e m tp, hy.dp e m tq, sp, sq, k _ _ G H M (Stp.refl e m) (.bl _) r⟩
theorem os_ne (hu : X.A.units + 64 < cLine) : OpR X (compareOp .NotEq) (LOp (kx X) (oEq true)) := opr_wk (op_neD hu) fun x y H Q h => by
  obtain ⟨G, M, dx, dy, Φ, e, m, hx, hy, ⟨p, q, tp, tq, sp, sq, r⟩, k⟩ := h
  exact ⟨p, q, hx.dp e m tp, hy.dp e m tq, sp, sq, k _ _ G H M (Stp.refl e m) (.bl _) r⟩
theorem dp_non {K : Kx} {G : Hp} {v : V} {d : Dat} (h : DP K G v d) : decide (v = .non) = isNon d := by
  cases h <;> simp [isNon]
theorem os_is : OpR X (compareOp .Is) (LOp (kx X) (oIs false)) := opr_wk op_isN fun x y H Q h => by
  obtain ⟨G, M, dx, dy, Φ, e, m, hx, hy, ⟨rfl, q⟩, k⟩ := h
  cases hy
  exact ⟨rfl, by rw [dp_non hx]; exact k _ _ G H M (Stp.refl e m) (.bl _) q⟩
theorem os_isnot : OpR X (compareOp .IsNot) (LOp (kx X) (oIs true)) := opr_wk op_notN fun x y H Q h => by
  obtain ⟨G, M, dx, dy, Φ, e, m, hx, hy, ⟨rfl, q⟩, k⟩ := h
  cases hy
  exact ⟨rfl, by rw [dp_non hx]; exact k _ _ G H M (Stp.refl e m) (.bl _) q⟩
theorem atI_dps {K : Kx} {G : Hp} {xs : List V} {ds : List Dat} {i : Int} {d : Dat} (r : DPs K G xs ds) (h : atI ds i = some d) : ∃ v, atI xs i = some v ∧ DP K G v d := by
  unfold atI at h ⊢
  rw [r.len]
  cases q : ixN ds.length i with
  | none => rw [q] at h; cases h
  | some j =>
    rw [q] at h
    exact r.get h
theorem os_ix : IxR X (LOp (kx X) oIx) := ixr_wk (IxR.or ix_list ix_tup) fun x y H Q h => by
  obtain ⟨G, M, dx, dy, Φ, e, m, hx, hy, ⟨ds, i, d, hv, rfl, hd, q⟩, k⟩ := h
  cases hy
  obtain ⟨a, xs, rfl, hs, hr⟩ := vq_at e m hx hv
  obtain ⟨v, hv, rv⟩ := atI_dps hr hd
  rcases hs with hs | hs
  · exact .inl ⟨a, xs, i, v, rfl, rfl, hs, hv, k _ _ G H M (Stp.refl e m) rv q⟩
  · exact .inr ⟨a, xs, i, v, rfl, rfl, hs, hv, k _ _ G H M (Stp.refl e m) rv q⟩
theorem cutD_dps {K : Kx} {G : Hp} {xs : List V} {ds : List Dat} {lo hi : Option Int} (r : DPs K G xs ds) : DPs K G (cutV xs lo hi) (cutD ds lo hi) := by
  unfold cutV cutD
  rw [r.len]
  exact (r.drop _).take _
theorem os_sl : SlR X (LSl (kx X) oSl) := by
  intro pins s σ H x v vl vu lo hi sl Q I rx hs pl pu h
  obtain ⟨G, M, dx, Φ, e, m, hx, ⟨ds, hv, q⟩, k⟩ := h
  obtain ⟨a, xs, rfl, hsq, hr, _⟩ := vw_at e m hx hv
  exact sl_list pins s σ H _ v vl vu lo hi sl Q I rx hs pl pu ⟨a, xs, rfl, hsq, fun p hp => k _ (.lst (cutD ds lo hi)) _ _ M (Stp.alloc e m hp) (.lst upd_same ((cutD_dps hr).mono (Ex.new (e.free hp)))) q⟩

/-! ### built-ins -/
theorem LC.one {K : Kx} {r : DFn} {xs : List V} {H : Hp} {Q : VK} (h : LC K r xs H Q) (hr : ∀ ds M Φ, r ds M Φ → ∃ d, ds = [d]) : ∃ G M v d Φ, xs = [v] ∧ Ex G H ∧ MemOk K G H M ∧ DP K G v d ∧ r [d] M Φ ∧ ∀ v d G' H' M', Stp K G H M G' H' M' → DP K G' v d → Φ d M' → Q v H' := by
  obtain ⟨G, M, ds, Φ, e, m, rs, q, k⟩ := h
  obtain ⟨d, rfl⟩ := hr _ _ _ q
  cases rs with
  | cons r1 r2 => cases r2; exact ⟨G, M, _, d, Φ, rfl, e, m, r1, q, k⟩
theorem LC.one' {K : Kx} {r : Dat → Mem → (Dat → Mem → Prop) → Prop} {xs : List V} {H : Hp} {Q : VK} (h : LC K (fun xs M Φ => ∃ x, xs = [x] ∧ r x M Φ) xs H Q) : ∃ G M v d Φ, xs = [v] ∧ Ex G H ∧ MemOk K G H M ∧ DP K G v d ∧ r d M Φ ∧ ∀ v d G' H' M', Stp K G H M G' H' M' → DP K G' v d → Φ d M' → Q v H' := by
  obtain ⟨G, M, ds, Φ, e, m, rs, ⟨x, rfl, q⟩, k⟩ := h
  cases rs with
  | cons r1 r2 => cases r2; exact ⟨G, M, _, x, Φ, rfl, e, m, r1, q, k⟩
theorem oc_len : CallR X (.builtin "len") (LC (kx X) oLen) := callr_wk call_len_seq fun xs H Q h => by
  obtain ⟨G, M, ds, Φ, e, m, rs, ⟨x, es, rfl, hv, q⟩, k⟩ := h
  cases rs with
  | cons rv r2 =>
    cases r2
    obtain ⟨a, xs, rfl, hs, hr⟩ := vq_at e m rv hv
    exact ⟨a, xs, rfl, hs, by rw [hr.len]; exact k _ _ G H M (Stp.refl e m) (.int _) q⟩
theorem oc_abs : CallR X (.builtin "abs") (LC (kx X) oAbs) := callr_wk call_abs fun xs H Q h => by
  obtain ⟨G, M, v, d, Φ, rfl, e, m, rv, q, k⟩ := h.one fun ds M Φ q => by
    cases ds with
    | nil => exact q.elim
    | cons d r =>
      cases r with
      | nil => exact ⟨d, rfl⟩
      | cons _ _ => cases d <;> exact (show False from q).elim
  cases rv with
  | int i =>
    refine ⟨i, rfl, ?_⟩
    have : (if i < 0 then -i else i) = (i.natAbs : Int) := by split <;> omega
    rw [this]
    exact k _ _ G H M (Stp.refl e m) (.int _) q
  | _ => exact (show False from q).elim
theorem oc_int : CallR X (.type "int") (LC (kx X) oInt) := callr_wk call_int1 fun xs H Q h => by
  obtain ⟨G, M, v, d, Φ, rfl, e, m, rv, q, k⟩ := h.one fun ds M Φ q => by
    cases ds with
    | nil => exact q.elim
    | cons d r =>
      cases r with
      | nil => exact ⟨d, rfl⟩
      | cons _ _ => cases d <;> exact (show False from q).elim
  cases rv with
  | int i => exact .inl ⟨i, rfl, k _ _ G H M (Stp.refl e m) (.int _) q⟩
  | bl b => exact .inr ⟨b, rfl, k _ _ G H M (Stp.refl e m) (.int _) q⟩
  | _ => exact (show False from q).elim
theorem oc_list : CallR X (.type "list") (LC (kx X) oList) := callr_wk call_list_of fun xs H Q h => by
  obtain ⟨G, M, ds, Φ, e, m, rs, ⟨x, es, rfl, hv, q⟩, k⟩ := h
  cases rs with
  | cons rv r2 =>
    cases r2
    obtain ⟨a, xs, rfl, hs, hr⟩ := vq_at e m rv hv
    exact ⟨a, xs, rfl, hs, fun p hp => k _ (.lst es) _ _ M (Stp.alloc e m hp) (.lst upd_same (hr.mono (Ex.new (e.free hp)))) q⟩
theorem oc_listO : CallR X (.type "list") (LC (kx X) oListO) := callr_wk call_list_of fun xs H Q h => by
  obtain ⟨G, M, ds, Φ, e, m, rs, ⟨x, es, rfl, hv, q⟩, k⟩ := h
  cases rs with
  | cons rv r2 =>
    cases r2
    obtain ⟨a, xs, rfl, hs, hr⟩ := vq_at e m rv hv
    exact ⟨a, xs, rfl, hs, fun p hp => k _ (.loc p) _ _ _ (Stp.own e m hp hr) (.loc p) (q p (mem_none m hp))⟩
theorem oc_tuple : CallR X (.type "tuple") (LC (kx X) oTuple) := callr_wk call_tuple_of fun xs H Q h => by
  obtain ⟨G, M, v, d, Φ, rfl, e, m, rv, q, k⟩ := h.one fun ds M Φ q => by
    cases ds with
    | nil => exact q.elim
    | cons d r =>
      cases r with
      | nil => exact ⟨d, rfl⟩
      | cons _ _ => cases d <;> exact (show False from q).elim
  cases rv with
  | @lst a xs ds ha hr => exact ⟨a, xs, rfl, .inl ⟨DP.sql e ha, fun p hp => k _ (.tup ds) _ _ M (Stp.alloc e m hp) (.tup upd_same (hr.mono (Ex.new (e.free hp)))) q⟩⟩
  | @tup a xs ds ha hr => exact ⟨a, xs, rfl, .inr ⟨DP.sqt e ha, k _ (.tup ds) G H M (Stp.refl e m) (.tup ha hr) q⟩⟩
  | _ => exact (show False from q).elim
theorem oc_sum (hc : X.calm = true) : CallR X (.builtin "sum") (LC (kx X) oSum) := callr_wk (cr_sum hc) fun xs H Q h => by
  obtain ⟨G, M, ds, Φ, e, m, rs, ⟨x, ns, rfl, hv, q⟩, k⟩ := h
  cases rs with
  | cons rv r2 =>
    cases r2
    obtain ⟨a, xs, rfl, hs, hr, _⟩ := vw_at e m rv hv
    exact ⟨a, ns, rfl, by rw [← hr.ints]; exact hs, k _ _ G H M (Stp.refl e m) (.int _) q⟩
theorem oc_max (hc : X.calm = true) : CallR X (.builtin "max") (LC (kx X) oMax) := callr_wk (cr_max hc) fun xs H Q h => by
  obtain ⟨G, M, ds, Φ, e, m, rs, ⟨x, ns, rfl, hv, h0, q⟩, k⟩ := h
  cases rs with
  | cons rv r2 =>
    cases r2
    obtain ⟨a, xs, rfl, hs, hr, _⟩ := vw_at e m rv hv
    exact ⟨a, ns, rfl, by rw [← hr.ints]; exact hs, h0, fun mm h1 h2 => k _ _ G H M (Stp.refl e m) (.int _) (q mm h1 h2)⟩
theorem oc_isi : CallR X (.builtin "isinstance") (LC (kx X) oIsi) := callr_wk call_isi fun xs H Q h => by
  obtain ⟨G, M, ds, Φ, e, m, rs, ⟨x, T, rfl, t, b, ht, kb, q⟩, k⟩ := h
  cases rs with
  | cons r1 r2 =>
    cases r2 with
    | cons r2 r3 =>
      cases r3
      cases r2
      refine ⟨_, _, .type t, .type T, b, rfl, .ty T, ?_, kit_ty kb, k _ _ G H M (Stp.refl e m) (.bl _) q⟩
      cases r1 with
      | non => cases ht; exact .base .non
      | bl _ => cases ht; exact .base (.bl _)
      | int _ => cases ht; exact .base (.int _)
      | str _ => cases ht; exact .base (.str _)
      | lst ha _ => cases ht; exact .base (.lst (e _ _ ha))
      | tup ha _ => cases ht; exact .base (.tup (e _ _ ha))
      | loc a =>
        obtain ⟨rfl, hm⟩ := ht
        cases q : M.l a with
        | none => exact absurd q hm
        | some ds =>
          obtain ⟨_, xs, hx, _⟩ := m a (.lst ds) (Mem.of_l q)
          exact .base (.lst hx)
      | _ => exact (show False from ht).elim
theorem de_ty {x : Str} {T : String} {pos : Pos} (hg : Gl X x) (hm : X.mg x = none) (hv : bootBuiltins x = some (.type T)) (hn : x ≠ "__name__" := by decide) (hd : (x == ("__debug__" : Str)) = false := by decide) : PE X (.Name x pos) (LE (kx X) W (dC (.ty T))) :=
  pe_wk (pe_bltn (v := .ty T) (u := .type T) hg hm hv rfl hn hd) (wk_c fun _ => .ty T)

/-! ### methods of lists of one's own -/
def dMt (r : Dat → List Dat → Mem → (Dat → Mem → Prop) → Prop) (to : DTE) (ta : DTA) : DTE := fun Γ M Φ => to Γ M fun x M1 => (∃ a ds, x = .loc a ∧ M1.l a = some ds) ∧ ta Γ M1 fun ds M2 => r x ds M2 Φ
theorem dm_list {o e : Expr} {es : List Expr} {to : DTE} {ta : DTA} {name : Str} {apos cpos : Pos} {r : Dat → List Dat → Mem → (Dat → Mem → Prop) → Prop} {rr : V → List V → Hp → VK → Prop}
    (h : PE X (.Call (.Attribute o name apos) (e :: es) [] cpos) (tBM X.K "list" rr (LE (kx X) W to) (LA (kx X) W ta))) (hr : ∀ x vs H Q, LMt (kx X) r x vs H Q → rr x vs H Q) : PE X (.Call (.Attribute o name apos) (e :: es) [] cpos) (LE (kx X) W (dMt r to ta)) := pe_wk h fun σ H Q ⟨Γ, G, M, Φ, e, s, m, h, k⟩ =>
  ⟨Γ, G, M, _, e, s, m, h, fun x dx G1 H1 M1 t1 rx h1 => by
    obtain ⟨⟨a, ds, rfl, hm⟩, h1⟩ := h1
    cases rx
    obtain ⟨g0, xs, ha, hr'⟩ := t1.mem a (.lst ds) (Mem.of_l hm)
    exact ⟨.inl ⟨rfl, xs, .inl (.inl ha)⟩, Γ, G1, M1, _, t1.ex', s.step t1, t1.mem, h1, fun vs es G2 H2 M2 t2 rv h2 => hr _ _ _ _ ⟨G2, M2, .loc a, es, Φ, t2.ex', t2.mem, .loc a, rv, h2, fun v d G3 H3 M3 t3 rv h3 => k v d G3 H3 M3 ((t1.trans t2).trans t3) rv h3⟩⟩⟩
theorem wk_append {K : Kx} : ∀ x vs H Q, LMt K oAppend x vs H Q → rAppend x vs H Q := fun x vs H Q h => by
  obtain ⟨G, M, dx, ds, Φ, e, m, rx, rs, q, k⟩ := h
  cases rx with
  | loc a =>
    cases rs with
    | nil => exact (show False from q).elim
    | cons r1 r2 =>
      cases r2 with
      | nil =>
        obtain ⟨ds, hm, hl, q⟩ := q
        obtain ⟨g0, xs, ha, hr⟩ := m a (.lst ds) (Mem.of_l hm)
        exact ⟨a, xs, _, rfl, rfl, ha, by rw [hr.len]; exact hl, k _ _ G _ _ (Stp.write e m (Mem.of_l hm) (hr.app (.cons r1 .nil))) .non q⟩
      | cons _ _ => exact (show False from q).elim
  | _ => exact (show False from q).elim
theorem wk_extend {K : Kx} : ∀ x vs H Q, LMt K oExtend x vs H Q → rExtend x vs H Q := fun x vs H Q h => by
  obtain ⟨G, M, dx, ds, Φ, e, m, rx, rs, q, k⟩ := h
  cases rx with
  | loc a =>
    cases rs with
    | nil => exact (show False from q).elim
    | cons r1 r2 =>
      cases r2 with
      | nil =>
        obtain ⟨ds, es, hm, hv, hl, q⟩ := q
        obtain ⟨b, ys, rfl, hb, hr'⟩ := vl_at e m r1 hv
        obtain ⟨g0, xs, ha, hr⟩ := m a (.lst ds) (Mem.of_l hm)
        exact ⟨a, b, xs, ys, rfl, rfl, ha, hb, by rw [hr.len, hr'.len]; exact hl, k _ _ G _ _ (Stp.write e m (Mem.of_l hm) (hr.app hr')) .non q⟩
      | cons _ _ => exact (show False from q).elim
  | _ => exact (show False from q).elim
end
end EX
/-! The data layer 7: defs by name, keywords, in, a list of one's own read for the last time. -/
namespace EX
open PySem PySem.Spec PyProof.Rows L2

/-! ### the built-ins that a text reads -/
structure Bi (mg : Str → Option Value) : Prop where
  len : mg "len" = none
  abs : mg "abs" = none
  sum : mg "sum" = none
  max : mg "max" = none
  min : mg "min" = none
  isinstance : mg "isinstance" = none
  int : mg "int" = none
  bool : mg "bool" = none
  list : mg "list" = none
  tuple : mg "tuple" = none
  range : mg "range" = none
  zip : mg "zip" = none
  enumerate : mg "enumerate" = none
  str : mg "str" = none
  repr : mg "repr" = none
  all : mg "all" = none
  any : mg "any" = none
  sorted : mg "sorted" = none
  set : mg "set" = none
  dict : mg "dict" = none
  super : mg "super" = none
/-- nothing looks on: for // of great numbers -/
structure Seer (P : Program) (base : Heap) : Prop where
  ns : base.NoSeer
  tr : P.given.tree = none
theorem Seer.py {P : Program} {w : World} {K : PySem.W.Frag} {mg : Str → Option Value} {base : Heap} (S : Seer P base) {N ps : List Str} {st : Stmt} (sc : FnScope N ps (defScope st)) {k : Nat} {qual : Str} {f : Addr} {cdv : Value} {A : Around} {outer : List PySem.Env} {s : Shared} {H : Hp} {E : XK}
    (hr : Room k (A.deeper (envOfC qual (defScope st) s.heap.objs.size f cdv))) (hk : 40 ≤ k) : PyD (cxOf (L2.CX P w) P w K mg base N qual (defScope st) f cdv A outer s H E) :=
  ⟨S.ns, S.tr, by
    have h := hr.dp
    have e : Builtin.pylongFrames = 100 := rfl
    show (A.deeper (envOfC qual (defScope st) s.heap.objs.size f cdv)).depth + Builtin.pylongFrames < recursionLimit
    omega, envOfC qual (defScope st) s.heap.objs.size f cdv, outer, rfl, sc.gen, sc.co, rfl, rfl⟩
theorem PyD.blk {X : Cx} (p : PyD X) {s : Shared} {H : Hp} {scope : Scope} {cl : List (Str × Addr)} {C : Addr} {fp : List Addr} : PyD (X.blk s H scope (compEnvC scope cl C X.env) fp) := ⟨p.ns, p.tr, p.dp, p.st⟩
theorem room65 {k : Nat} {A : Around} (r : Room k A) : A.units + 65 < cLine := by have := r.un; omega
/-- a def as it stands at the top -/
structure Top (K : Kx) (x : Str) (st : Stmt) : Prop where
  ex : ∃ f fd, Fun K.K x x st f fd ∧ K.mg x = some (.ref f)
/-- a def and what it promises over data -/
structure Def (P : Program) (w : World) (K : Kx) (base : Heap) (x : Str) (st : Stmt) (k : Nat) (ps : List Str) (t : DFnX) : Prop where
  ex : ∃ f fd, Fun K.K x x st f fd ∧ FnOk P w K.K K.mg base (L2.CX P w) k f fd ps (spX K t) ∧ K.mg x = some (.ref f) ∧ Binds K.K fd ps []
/-- what a def's body wants of exceptions -/
abbrev WD (E : XK) : WX := fun c d _ H => E c d H
/-- the context of a def's body -/
abbrev cxD (P : Program) (w : World) (K : Kx) (base : Heap) (N : List Str) (qual : Str) (st : Stmt) (f : Addr) (cdv : Value) (A : Around) (outer : List PySem.Env) (s : Shared) (H : Hp) (E : XK) : Cx := cxOf (L2.CX P w) P w K.K K.mg base N qual (defScope st) f cdv A outer s H E
section
variable {P : Program} {w : World} {K : Kx} {base : Heap}
theorem Def.mk' {x : Str} {st : Stmt} {N ps : List Str} {k : Nat} {sp : DFnX} {t : DTS} (F : Top K x st) (S : FnScope N ps (defScope st))
    (hbd : ∀ us : List Value, us.length = ps.length → ∀ (kV doc pm : Value) (an : Option Addr) (cdv ct : Value), bindArgs (PySem.W.fnOf x x (defArgs st) (defBody st) (defScope st) .none kV doc pm an cdv ct) ⟨us, []⟩ = pure (ps.zip us))
    (hb : ∀ (f : Addr) (cdv : Value) (A : Around) (outer : List PySem.Env) (s : Shared) (H : Hp) (E : XK), Room k (A.deeper (envOfC x (defScope st) s.heap.objs.size f cdv)) → PSs (cxD P w K base N x st f cdv A outer s H E) (defBody st) (LS K (WD E) t))
    (h : ∀ ds M Φ Ψ, sp ds M Φ Ψ → ds.length = ps.length ∧ t (endsOf Φ) (startD N ds (exOf Ψ)) M) : Def P w K base x st (k + 1) ps sp := by
  obtain ⟨f, fd, Fn, hm⟩ := F.ex
  exact ⟨f, fd, Fn, fn_x Fn S (fun cdv A outer s H E hr => hb f cdv A outer s H E hr) h, hm, Fn.binds fun kV doc pm an cdv ct us hl => hbd us hl kV doc pm an cdv ct⟩
end
section
variable {X : Cx} {W : WX} {a b c : Expr} {ta tb tc : DTE} {pos : Pos} {es : List Expr} {tr : DTA}
theorem de_callD {k : Nat} {ps : List Str} {t : DFnX} {x : Str} {st : Stmt} {p : Pos} (tk : Takes X W) (D : Def X.prog X.w (kx X) X.base x st k ps t) (hr : Room k X.A) (hg : Gl X x)
    (ha : PA X (a :: es) (LA (kx X) W tr)) (hdb : (x == ("__debug__" : Str)) = false := by decide) (he : starEach (a :: es) X.env = (false, eval a X.env) :: starEach es X.env := by rfl) (hpl : (backTo pos (starEach es X.env)).any (·.1) = false := by rfl) :
    PE X (.Call (.Name x p) (a :: es) [] pos) (LE (kx X) W (dCall t tr)) := by
  obtain ⟨f, fd, Fn, F, m, b⟩ := D.ex
  exact de_call tk F hr hg m Fn.kp b ha hdb he hpl
theorem de_callD0 {k : Nat} {ps : List Str} {t : DFnX} {x : Str} {st : Stmt} {p : Pos} (D : Def X.prog X.w (kx X) X.base x st k ps t) (hr : Room k X.A) (hg : Gl X x) (hdb : (x == ("__debug__" : Str)) = false := by decide) :
    PE X (.Call (.Name x p) [] [] pos) (LE (kx X) W (dCall0 t)) := by
  obtain ⟨f, fd, Fn, F, m, b⟩ := D.ex
  exact de_call0 F hr hg m Fn.kp b hdb
/-! ### keywords alone -/
def perm {α : Type} (ord : List Nat) (xs : List α) : List α := ord.filterMap fun i => xs[i]?
theorem vals_perm {vs : List V} {us : List Value} (r : Vals vs us) : ∀ ord : List Nat, Vals (perm ord vs) (perm ord us)
  | [] => .nil
  | i :: ord => by
    have ih := vals_perm r ord
    unfold perm at ih ⊢
    cases q : vs[i]? with
    | none =>
      rw [List.filterMap_cons_none q, List.filterMap_cons_none (r.none_of q)]
      exact ih
    | some v =>
      obtain ⟨u, hu, ru⟩ := r.get q
      rw [List.filterMap_cons_some q, List.filterMap_cons_some hu]
      exact .cons ru ih
theorem vals_rep : ∀ n : Nat, Vals (List.replicate n V.non) (List.replicate n Value.none)
  | 0 => .nil
  | n + 1 => .cons rfl (vals_rep n)
theorem dps_perm {K : Kx} {G : Hp} {vs : List V} {ds : List Dat} (r : DPs K G vs ds) : ∀ ord : List Nat, DPs K G (perm ord vs) (perm ord ds)
  | [] => .nil
  | i :: ord => by
    have ih := dps_perm r ord
    unfold perm at ih ⊢
    cases q : vs[i]? with
    | none =>
      have q2 : ds[i]? = none := List.getElem?_eq_none (by rw [← r.len]; exact List.getElem?_eq_none_iff.mp q)
      rw [List.filterMap_cons_none q, List.filterMap_cons_none q2]
      exact ih
    | some v =>
      obtain ⟨u, hu, ru⟩ := r.getV q
      rw [List.filterMap_cons_some q, List.filterMap_cons_some hu]
      exact .cons ru ih
/-- f(k = v, ..): what leaves it is not looked at -/
def dCallK (t : DFnX) (n : Nat) (ord : List Nat) (ta : DTA) : DTE := fun Γ M Φ => ta Γ M fun ds M1 => ds.length = n ∧ t (perm ord ds) M1 Φ (fun _ _ _ _ => False)
theorem pe_callK0 {CX : CXT} {k : Nat} {f : Addr} {fd : FuncData} {ps ks : List Str} {sp : Sp} {E : XK} {x : Str} {p : Pos} {kws : List Keyword} {tk : TA} {g : List Value → List Value → List Value} {gV : List V → List V → List V} (F : FnOk X.prog X.w X.K X.mg X.base CX k f fd ps sp) (hr : Room k X.A) (hg : Gl X x) (hm : X.mg x = some (.ref f)) (hk : PySem.W.keepIn X.K (.ref f) = true)
    (hb : KBinds X.K fd ps ks g gV) (hx : Passes CX X E) (hkw : PK X kws tk) (hall : (backToKw pos (keywordEach kws X.env)).all (·.1.isSome) = true := by rfl) (hks : (backToKw pos (keywordEach kws X.env)).filterMap (·.1) = ks := by rfl) (hdb : (x == ("__debug__" : Str)) = false := by decide)
    (hpl : ((backTo pos (starEach [] X.env)).any (·.1) || (backToKw pos (keywordEach kws X.env)).any (·.1.isNone)) = false := by rfl) : PE X (.Call (.Name x p) [] kws pos) (tCallK sp gV E tNil tk) := by
  refine ⟨fun pins s σ H Q I h => wpAny_Call_Name_kw (ld_glob I hg hm ?_ hdb)⟩
  refine PySem.W.callWith_KW0 (h₀ := X.base) I.ok.mod.kin hk hall (thn (hkw.run pos pins s σ H _ I h) fun ws s2 ⟨zs, H2, I2, rz, q2⟩ => ⟨I2.kIn, ?_⟩) hpl
  rw [hks]
  exact run_inK (us := []) (vs := []) F hr hb hx I2 .nil rz q2
theorem dk_nil : PK X [] (LA (kx X) W dNil) := ⟨fun pos pins s σ H Q I ⟨Γ, G, M, Φ, e, sl, m, h, k⟩ => pk_nil.run pos pins s σ H Q I (k [] [] G H M (Stp.refl e m) .nil h)⟩
theorem dk_cons {nm : Option Str} {kpos : Pos} {kws : List Keyword} (ha : PE X a (LE (kx X) W ta)) (hr : PK X kws (LA (kx X) W tr)) : PK X (⟨nm, a, kpos⟩ :: kws) (LA (kx X) W (dCons ta tr)) := ⟨fun pos pins s σ H Q I q => (pk_cons ha hr).run pos pins s σ H Q I (wk_cons σ H Q q)⟩
theorem de_callDK {k : Nat} {ps ks : List Str} {t : DFnX} {x : Str} {st : Stmt} {p : Pos} {kws : List Keyword} {ord : List Nat} (D : Def X.prog X.w (kx X) X.base x st k ps t) (hr : Room k X.A) (hg : Gl X x)
    (hb : ∀ ws : List Value, ws.length = ks.length → ∀ (kV doc pm : Value) (an : Option Addr) (cdv ct : Value), bindArgs (PySem.W.fnOf x x (defArgs st) (defBody st) (defScope st) .none kV doc pm an cdv ct) ⟨[], ks.zip ws⟩ = pure (ps.zip (perm ord ws)))
    (hkw : PK X kws (LA (kx X) W tr)) (hall : (backToKw pos (keywordEach kws X.env)).all (·.1.isSome) = true := by rfl) (hks : (backToKw pos (keywordEach kws X.env)).filterMap (·.1) = ks := by rfl) (hdb : (x == ("__debug__" : Str)) = false := by decide)
    (hpl : ((backTo pos (starEach [] X.env)).any (·.1) || (backToKw pos (keywordEach kws X.env)).any (·.1.isNone)) = false := by rfl) : PE X (.Call (.Name x p) [] kws pos) (LE (kx X) W (dCallK t ks.length ord tr)) := by
  obtain ⟨f, fd, Fn, F, m, b⟩ := D.ex
  refine pe_wk (pe_callK0 (g := fun us ws => if us.length = 0 ∧ ws.length = ks.length then perm ord ws else List.replicate (ps.length + 1) .none) (gV := fun vs ws => if vs.length = 0 ∧ ws.length = ks.length then perm ord ws else List.replicate (ps.length + 1) .non) F hr hg m Fn.kp ⟨fun s us ws hK hl' => ?_, fun r rz => ?_⟩ passL hkw hall hks hdb hpl) fun σ H Q ⟨Γ, G, M, Φ, e, s, m, h, k⟩ => ?_
  · by_cases c : us.length = 0 ∧ ws.length = ks.length
    · rw [if_pos c]
      obtain ⟨oc, od, kV, doc, pm, an, cdv, ct, osl, rfl, _, _⟩ := Fn.ex
      have e0 : us = [] := List.eq_nil_of_length_eq_zero c.1
      subst e0
      exact .of_eq (hb ws c.2 kV doc pm an cdv ct)
    · rw [if_neg c, List.length_replicate] at hl'
      omega
  · simp only [r.length, rz.length]
    split
    · exact vals_perm rz ord
    · exact vals_rep _
  · exact ⟨Γ, G, M, _, e, s, m, h, fun xs ds G1 H1 M1 t1 rx h1 => by
      have hn : xs.length = ks.length := by rw [rx.len]; exact h1.1
      show spX (kx X) t (if ([] : List V).length = 0 ∧ xs.length = ks.length then perm ord xs else _) H1 Q E0
      rw [if_pos ⟨rfl, hn⟩]
      exact ⟨G1, M1, perm ord ds, Φ, _, t1.ex', t1.mem, dps_perm rx ord, h1.2, fun v d G3 H3 M3 t3 rv h3 => k v d G3 H3 M3 (t1.trans t3) rv h3, fun _ _ _ _ _ _ _ _ _ _ _ z => z.elim⟩⟩
/-! ### targets in short -/
theorem pgn (i : Nat) {x : Str} {pos : Pos} (hN : X.N.Nodup) (hi : X.N[i]? = some x := by rfl) (hx : Loc X.env.scope x := by first | exact Or.inl rfl | exact Or.inr rfl) (hf : X.fn x = true ∨ X.env.scope.names.lookup x = some .local := by first | exact .inl rfl | exact .inr rfl) : PG X (.Name x pos) ((Pat.nm i).tg (kx X)) := pg_name hN hi hx hf
/-! ### a list of one's own, read for the last time: it changes no more -/
def dVarF (i : Nat) : DTE := fun Γ M Φ => ∃ a ds, Γ.sl[i]? = some (some (.loc a)) ∧ M a = some (.lst ds) ∧ Φ (.lst ds) (M.del a)
theorem dvF (i : Nat) {x : Str} {pos : Pos} (hN : X.N[i]? = some x := by rfl) (hv : Vis X.env.scope x := by first | exact Or.inl rfl | exact Or.inr (Or.inl rfl) | exact Or.inr (Or.inr rfl)) (hd : (x == ("__debug__" : Str)) = false := by decide)
    (hcd : (x == ("__classdict__" : Str)) = false := by decide) : PE X (.Name x pos) (LE (kx X) W (dVarF i)) := pe_wk (pe_var hN hv hd hcd) fun σ H Q ⟨Γ, G, M, Φ, e, s, m, ⟨a, ds, hi, hm, h⟩, k⟩ => by
  obtain ⟨v, h1, h2⟩ := s.o.2 i _ hi
  cases h2
  obtain ⟨g0, xs, hx, hr⟩ := m a _ hm
  exact ⟨_, h1, k (.ref a) (.lst ds) _ H _ (Stp.freeze e m hm hx) (.lst upd_same (hr.mono (Ex.new g0))) h⟩
/-! ### in, of data at any depth -/
def oIn (neg : Bool) : DOp := fun x y M Φ => ∃ p ps, toP M x = some p ∧ toP M y = some (.list ps) ∧ SeqAt.shaped p = true ∧ SeqAt.shaped (.list ps) = true ∧ Φ (.bl (if neg then !ps.any (fun z => PyData.eqv z p) else ps.any fun z => PyData.eqv z p)) M
theorem os_in (hu : X.A.units + 65 < cLine) : OpR X (compareOp .In) (LOp (kx X) (oIn false)) := opr_wk (op_inD hu) fun x y H Q h => by
  obtain ⟨G, M, dx, dy, Φ, e, m, hx, hy, ⟨p, ps, tp, tq, sp, sq, r⟩, k⟩ := h
  exact ⟨p, ps, hx.dp e m tp, hy.dp e m tq, sp, sq, k _ _ G H M (Stp.refl e m) (.bl _) r⟩
theorem os_notin (hu : X.A.units + 65 < cLine) : OpR X (compareOp .NotIn) (LOp (kx X) (oIn true)) := opr_wk (op_notInD hu) fun x y H Q h => by
  obtain ⟨G, M, dx, dy, Φ, e, m, hx, hy, ⟨p, ps, tp, tq, sp, sq, r⟩, k⟩ := h
  exact ⟨p, ps, hx.dp e m tp, hy.dp e m tq, sp, sq, k _ _ G H M (Stp.refl e m) (.bl _) r⟩
end
end EX
/-! The data layer 8: list(zip(a, b)), the least of a list of pairs. -/
namespace DZ
open PySem PySem.Spec PyProof.Rows L2 PySem.Calls

theorem nolen_zip : typeLookup (.type "zip") "__len__" = pure none := by rw [typeLookup_type, builtinLookup_eq_fast]; kernel_rfl
theorem nohint_zip : typeLookup (.type "zip") "__length_hint__" = pure none := by rw [typeLookup_type, builtinLookup_eq_fast]; kernel_rfl

/-- the zip z stands before its i-th pair; a list grows at S -/
def ZS (z TI TO i1 i2 l1 l2 S : Addr) (xs ys : Array Value) (i : Nat) (h : Heap) : Prop :=
  PySem.IsPair h TI (.ref i1) (.ref i2) ∧ h.IsListIter i1 l1 i ∧ h.IsListIter i2 l2 i ∧ h.IsList l1 xs ∧ h.IsList l2 ys ∧
    ((IsZip h z TI TO .none ∧ ∃ a b, PySem.IsPair h TO a b) ∨ ∃ T f oT, IsZipHeld h z TI TO T f ∧ h.get? T = some oT ∧ T ≠ z ∧ T ≠ i1 ∧ T ≠ i2 ∧ T ≠ S)
structure Off (S z TI TO i1 i2 l1 l2 : Addr) : Prop where
  z : S ≠ z
  TI : S ≠ TI
  TO : S ≠ TO
  i1 : S ≠ i1
  i2 : S ≠ i2
  l1 : S ≠ l1
  l2 : S ≠ l2
/-- the pairs made so far -/
structure Made (xs ys : Array Value) (lo : Addr) (h : Heap) (as : List Addr) : Prop where
  rise : as.Pairwise (· < ·)
  above : ∀ a ∈ as, lo < a
  at' : ∀ (j : Nat) (a : Addr), as[j]? = some a → ∃ x y, xs[j]? = some x ∧ ys[j]? = some y ∧ PySem.IsPair h a x y
section
variable {prog : Program} {w : World} {A : Around} {E : Value → Shared → Prop} {s : Shared} {z TI TO i1 i2 l1 l2 S : Addr} {xs ys : Array Value}
theorem Made.there {lo : Addr} {h : Heap} {as : List Addr} (g : Made xs ys lo h as) {a : Addr} (ha : a ∈ as) : a < h.objs.size := by
  obtain ⟨j, hj⟩ := List.mem_iff_getElem?.mp ha
  obtain ⟨_, _, _, _, e⟩ := g.at' j a hj
  exact Heap.lt_size e
theorem ZS.frame {i : Nat} {h h' : Heap} (F : Off S z TI TO i1 i2 l1 l2) (st : ZS z TI TO i1 i2 l1 l2 S xs ys i h) (k : ∀ b o, b ≠ S → h.get? b = some o → h'.get? b = some o) : ZS z TI TO i1 i2 l1 l2 S xs ys i h' := by
  obtain ⟨hTI, h1, h2, hl1, hl2, hz⟩ := st
  refine ⟨k _ _ F.TI.symm hTI, h1.at fun o e => k _ o F.i1.symm e, h2.at fun o e => k _ o F.i2.symm e, hl1.at fun o e => k _ o F.l1.symm e, hl2.at fun o e => k _ o F.l2.symm e, ?_⟩
  rcases hz with ⟨hz, a, b, hTO⟩ | ⟨T, f, oT, hz, hT, r1, r2, r3, r4⟩
  · exact .inl ⟨k _ _ F.z.symm hz, a, b, k _ _ F.TO.symm hTO⟩
  · exact .inr ⟨T, f, oT, k _ _ F.z.symm hz, k _ _ r4 hT, r1, r2, r3, r4⟩
theorem zs_item {i : Nat} {Q : Option Value → Shared → Prop} (D : ZipApart z TI TO i1 i2 l1 l2) (st : ZS z TI TO i1 i2 l1 l2 S xs ys i s.heap) (hi : i < min xs.size ys.size) (hS : S < s.heap.objs.size)
    (hQ : ∀ h' x y, xs[i]? = some x → ys[i]? = some y → ZS z TI TO i1 i2 l1 l2 S xs ys (i + 1) h' → PySem.IsPair h' s.heap.objs.size x y → h'.objs.size = s.heap.objs.size + 1 →
      (∀ c o, c ≠ z → c ≠ TO → c ≠ i1 → c ≠ i2 → s.heap.get? c = some o → h'.get? c = some o) → Q (some (.ref s.heap.objs.size)) { s with heap := h' }) : wpAny (model prog w) A (pyNext (.ref z)) Q E s := by
  obtain ⟨hTI, h1, h2, hl1, hl2, hz⟩ := st
  have hix : i < xs.size := by omega
  have hiy : i < ys.size := by omega
  have ex := Array.getElem?_eq_getElem hix
  have ey := Array.getElem?_eq_getElem hiy
  have lt : ∀ {c o}, s.heap.get? c = some o → s.heap.objs.size ≠ c := fun e => (Nat.ne_of_lt (Heap.lt_size e)).symm
  have n1 : s.heap.objs.size ≠ i1 := by obtain ⟨_, e, _⟩ := h1; exact lt e
  have n2 : s.heap.objs.size ≠ i2 := by obtain ⟨_, e, _⟩ := h2; exact lt e
  rcases hz with ⟨hz, a, b, hTO⟩ | ⟨T, f, oT, hz, hT, r1, r2, r3, r4⟩
  · refine wpAny_pyNext_zip_item D hz hTI hTO h1 h2 hl1 hl2 ex ey (fun h' a1 a2 a3 a4 a5 a6 hk => hQ h' _ _ ex ey ⟨?_, a3, a4, ?_, ?_, .inr ⟨_, false, _, a1, a5, lt hz, n1, n2, (Nat.ne_of_lt hS).symm⟩⟩ a5 a6 hk)
    · exact hk _ _ D.TIz D.TITO D.TIi1 D.TIi2 hTI
    · exact hl1.at fun o e => hk _ o D.l1z D.l1TO D.l1i1 D.l1i2 e
    · exact hl2.at fun o e => hk _ o D.l2z D.l2TO D.l2i1 D.l2i2 e
  · refine wpAny_pyNext_zip_item_held D hz hT hTI h1 h2 hl1 hl2 ex ey (fun h' a1 a3 a4 a5 a6 hk => hQ h' _ _ ex ey ⟨?_, a3, a4, ?_, ?_, .inr ⟨T, true, oT, a1, hk _ _ r1 r2 r3 hT, r1, r2, r3, r4⟩⟩ a5 a6 fun c o c1 _ c3 c4 e => hk c o c1 c3 c4 e)
    · exact hk _ _ D.TIz D.TIi1 D.TIi2 hTI
    · exact hl1.at fun o e => hk _ o D.l1z D.l1i1 D.l1i2 e
    · exact hl2.at fun o e => hk _ o D.l2z D.l2i1 D.l2i2 e
theorem zs_done {Q : Option Value → Shared → Prop} (hh : A.handled = none) (D : ZipApart z TI TO i1 i2 l1 l2) (st : ZS z TI TO i1 i2 l1 l2 S xs ys (min xs.size ys.size) s.heap)
    (hQ : ∀ h', (∀ c o, c ≠ z → c ≠ TO → c ≠ i1 → c ≠ i2 → s.heap.get? c = some o → h'.get? c = some o) → Q none { s with heap := h' }) : wpAny (model prog w) A (pyNext (.ref z)) Q E s := by
  obtain ⟨hTI, h1, h2, hl1, hl2, hz⟩ := st
  have hend : xs[min xs.size ys.size]? = none ∨ ys[min xs.size ys.size]? = none := by
    rcases Nat.le_total xs.size ys.size with h | h
    · rw [Nat.min_eq_left h]; exact .inl (Array.getElem?_eq_none (Nat.le_refl _))
    · rw [Nat.min_eq_right h]; exact .inr (Array.getElem?_eq_none (Nat.le_refl _))
  rcases hz with ⟨hz, a, b, hTO⟩ | ⟨T, f, oT, hz, hT, r1, r2, r3, r4⟩
  · exact wpAny_pyNext_zip_end hh D hz hTI hTO h1 h2 hl1 hl2 hend hQ
  · exact wpAny_pyNext_zip_end_held hh D hz hT hTI h1 h2 hl1 hl2 hend (fun h' hk => hQ h' fun c o c1 _ c3 c4 e => hk c o c1 c3 c4 e)
end
section
variable {prog : Program} {w : World} {A : Around} {s : Shared} {R : Result → Shared → Prop} {z TI TO i1 i2 l1 l2 S : Addr} {xs ys : Array Value}
theorem zs_loop (hh : A.handled = none) (D : ZipApart z TI TO i1 i2 l1 l2) (F : Off S z TI TO i1 i2 l1 l2) (hn : min xs.size ys.size ≤ sizeLine) (res : Value) {h₁ : Heap} {lo : Addr} (hlo : ∀ b, b ∈ [z, TO, i1, i2, S] → b ≤ lo)
    (hR : ∀ h' tk acc c as, (∀ b o, b ∉ [S, z, TO, i1, i2] → h₁.get? b = some o → h'.get? b = some o) → h'.get? S = some { cls := .type "list", dict := none, data := .seq acc c, slots := #[] } → as.length = min xs.size ys.size → Made xs ys lo h' as →
      acc.toList = as.map Value.ref → R (.ok (.ret res)) { s with heap := h', toks := tk }) :
    ∀ (k i : Nat) (h : Heap) (tk c : Nat) (acc : Array Value) (as : List Addr), min xs.size ys.size - i = k → i ≤ min xs.size ys.size → ZS z TI TO i1 i2 l1 l2 S xs ys i h → (∀ b o, b ∉ [S, z, TO, i1, i2] → h₁.get? b = some o → h.get? b = some o) →
      h.get? S = some { cls := .type "list", dict := none, data := .seq acc c, slots := #[] } → acc.toList = as.map Value.ref → as.length = i → Made xs ys lo h as → lo < h.objs.size →
      codeAny (model prog w) A (.builtin "list.extend.loop" ⟨[.ref S, .ref z, res], []⟩) R { s with heap := h, toks := tk } := by
  have no : ∀ {b : Addr}, b ∉ [S, z, TO, i1, i2] → b ≠ S ∧ b ≠ z ∧ b ≠ TO ∧ b ≠ i1 ∧ b ≠ i2 := fun h => by simpa using h
  have nlo : ∀ {b : Addr}, lo < b → b ≠ z ∧ b ≠ TO ∧ b ≠ i1 ∧ b ≠ i2 ∧ b ≠ S := fun {b} h => by
    have e : ∀ c, c ∈ [z, TO, i1, i2, S] → b ≠ c := fun c hc q => absurd (hlo c hc) (Nat.not_le.mpr (by rw [← q]; exact h))
    exact ⟨e _ (by simp), e _ (by simp), e _ (by simp), e _ (by simp), e _ (by simp)⟩
  intro k
  induction k with
  | zero =>
    intro i h tk c acc as hk hi hst hkeep hS hacc hal hG hIs
    have hin : i = min xs.size ys.size := by omega
    refine codeAny_builtin PySem.F.entry_extend_loop (?_ : wpAny _ _ _ _ _ _)
    rw [Around.under_plainId PySem.F.plain_extend_loop ⟨[.ref S, .ref z, res], []⟩]
    show wpAny _ A.in1 (pyNext (.ref z) >>= _) _ _ _
    refine wpAny_bind (zs_done (s := { s with heap := h, toks := tk }) (A := A.in1) (S := S) hh D (by rw [← hin]; exact hst) (fun h' he => ?_))
    refine wpAny_pure (hR h' tk acc c as (fun b o hb e => ?_) (he S _ F.z F.TO F.i1 F.i2 hS) (by omega) ⟨hG.rise, hG.above, fun j a hj => ?_⟩ hacc)
    · obtain ⟨_, n2, n3, n4, n5⟩ := no hb
      exact he b o n2 n3 n4 n5 (hkeep b o hb e)
    · obtain ⟨x, y, e1, e2, e3⟩ := hG.at' j a hj
      obtain ⟨n1, n2, n3, n4, _⟩ := nlo (hG.above a (List.mem_of_getElem? hj))
      exact ⟨x, y, e1, e2, he a _ n1 n2 n3 n4 e3⟩
  | succ k ih =>
    intro i h tk c acc as hk hi hst hkeep hS hacc hal hG hIs
    have hlt : i < min xs.size ys.size := by omega
    have hsz : acc.size = i := by rw [← Array.length_toList, hacc, List.length_map]; exact hal
    refine codeAny_builtin PySem.F.entry_extend_loop (?_ : wpAny _ _ _ _ _ _)
    rw [Around.under_plainId PySem.F.plain_extend_loop ⟨[.ref S, .ref z, res], []⟩]
    show wpAny _ A.in1 (pyNext (.ref z) >>= _) _ _ _
    have hSl : S < h.objs.size := Heap.lt_size hS
    refine wpAny_bind (zs_item (s := { s with heap := h, toks := tk }) (S := S) D hst hlt hSl (fun h' x y ex ey hst' ht hz hkp => ?_))
    dsimp only at ht hz hkp ⊢
    have hS' := hkp S _ F.z F.TO F.i1 F.i2 hS
    have up : ∀ b o, b ≠ S → h'.get? b = some o → (h'.update S (Obj.mapSeq (·.push (Value.ref h.objs.size)))).get? b = some o := fun b o hb e => by
      rw [Heap.get?_update_other _ _ (Ne.symm hb)]; exact e
    show wpAny _ A.in1 (updateSeq S (·.push (Value.ref h.objs.size)) >>= _) _ _ _
    refine wpAny_bind ?_
    refine wpAny_updateSeq hS' rfl (wpAny_pure ⟨plainId_quiet PySem.F.plain_extend_loop _, ih (i + 1) _ tk _ (acc.push (Value.ref h.objs.size)) (as ++ [h.objs.size]) (by omega) hlt (hst'.frame F up) (fun b o hb e => ?_)
      (Heap.get?_update_self _ hS' rfl) (by rw [Array.toList_push, hacc, List.map_append]; rfl) (by rw [List.length_append, hal]; rfl) ⟨?_, ?_, ?_⟩ ?_⟩) (by rw [hsz]; omega) (by show (acc.push (Value.ref h.objs.size)).size ≤ sizeLine + 1; rw [Array.size_push]; omega)
    · obtain ⟨n1, n2, n3, n4, n5⟩ := no hb
      exact up b o n1 (hkp b o n2 n3 n4 n5 (hkeep b o hb e))
    · refine List.pairwise_append.mpr ⟨hG.rise, List.pairwise_singleton _ _, fun a ha b hb => ?_⟩
      rw [List.mem_singleton.mp hb]
      exact hG.there ha
    · intro a ha
      rcases List.mem_append.mp ha with ha | ha
      · exact hG.above a ha
      · rw [List.mem_singleton.mp ha]; exact hIs
    · intro j b hj
      by_cases h1 : j < as.length
      · rw [List.getElem?_append_left h1] at hj
        obtain ⟨x', y', e1, e2, e3⟩ := hG.at' j b hj
        obtain ⟨n1, n2, n3, n4, n5⟩ := nlo (hG.above b (List.mem_of_getElem? hj))
        exact ⟨x', y', e1, e2, up b _ n5 (hkp b _ n1 n2 n3 n4 e3)⟩
      · rw [List.getElem?_append_right (by omega)] at hj
        have hj0 : j - as.length = 0 := by
          rcases Nat.eq_zero_or_pos (j - as.length) with q | q
          · exact q
          · rw [List.getElem?_eq_none (by simp; omega)] at hj; cases hj
        rw [hj0] at hj
        have hb : h.objs.size = b := Option.some.inj hj
        subst hb
        have hji : j = i := by omega
        subst hji
        exact ⟨x, y, ex, ey, up _ _ (Nat.ne_of_lt hSl).symm ht⟩
    · have e := up _ _ (Nat.ne_of_lt hSl).symm ht
      exact Nat.lt_trans hIs (Heap.lt_size e)
end
section
variable {prog : Program} {w : World} {A : Around} {E : Value → Shared → Prop} {s : Shared} {z TI TO i1 i2 l1 l2 : Addr} {xs ys : Array Value}
theorem zs_hint {Q : Bool → Shared → Prop} (hT : s.TypeIs (.ref z) "zip") (h : Q true s) : wpAny (model prog w) A (Builtin.List.listLengthHint (.ref z)) Q E s := by
  unfold Builtin.List.listLengthHint
  refine wpAny_bind (wpAny_specialOf hT nolen_zip ?_)
  show wpAny _ _ (specialOf (Value.ref z) (Str.ofString "__length_hint__") >>= _) _ _ _
  exact wpAny_bind (wpAny_specialOf hT nohint_zip (wpAny_pure h))
/-- all that zip(..) made stands at the end of the heap -/
theorem zs_extend {R : Result → Shared → Prop} (hh : A.handled = none) (D : ZipApart z TI TO i1 i2 l1 l2) (S : Addr) (F : Off S z TI TO i1 i2 l1 l2) (hn : min xs.size ys.size ≤ sizeLine) (st : ZS z TI TO i1 i2 l1 l2 S xs ys 0 s.heap) (hz : IsZip s.heap z TI TO .none) (res : Value) (c₀ : Nat)
    (hS : s.heap.get? S = some { cls := .type "list", data := .seq #[] c₀ }) {lo : Addr} (hlo : ∀ b, b ∈ [z, TO, i1, i2, S] → b ≤ lo) (hl : lo < s.heap.objs.size)
    (hR : ∀ h' tk acc c as, (∀ b o, b ∉ [S, z, TO, i1, i2] → s.heap.get? b = some o → h'.get? b = some o) → h'.get? S = some { cls := .type "list", dict := none, data := .seq acc c, slots := #[] } → as.length = min xs.size ys.size → Made xs ys lo h' as →
      acc.toList = as.map Value.ref → R (.ok (.ret res)) { s with heap := h', toks := tk }) :
    wpAny (model prog w) A.in1 (Builtin.List.listExtendWith (.ref S) (.ref z) res)
      (fun fin s' => match fin with | .done f => R (.ok f) s' | .again c' => c'.quiet = true ∧ codeAny (model prog w) A c' R s') (fun e s' => R (.error e) s') s := by
  have hTz : s.TypeIs (.ref z) "zip" := ⟨_, hz, rfl⟩
  unfold Builtin.List.listExtendWith
  refine wpAny_bind (wpAny_typeOf (T := "zip") hTz ?_)
  have e1 : Builtin.List.listSameRef (.ref S) (.ref z) = false := by simp [Builtin.List.listSameRef, F.z]
  have e2 : (Value.type "zip" == Value.type "list") = false := by decide
  have e3 : (Value.type "zip" == Value.type "tuple") = false := by decide
  simp only [e1, e2, e3, Bool.or_false, Bool.false_eq_true, if_false]
  refine wpAny_bind (wpAny_pyIter_zip hz ?_)
  refine wpAny_bind (wpAny_holding (zs_hint hTz ?_))
  rw [if_pos (by rfl)]
  refine wpAny_bind (wpAny_rule ?_)
  refine wpAny_bind ?_
  show wpAny _ _ (updateSeq S (·.push .none) >>= fun _ => updateSeq S (·.pop)) _ _ _
  refine wpAny_bind (wpAny_updateSeq hS rfl ?_)
  have hS₂ := Heap.get?_update_self (Obj.mapSeq (·.push Value.none)) hS rfl
  refine wpAny_updateSeq (hz := by seq_fits) hS₂ rfl ?_
  have hS₃ := Heap.get?_update_self (Obj.mapSeq (·.pop)) hS₂ rfl
  have oth : ∀ b o, b ≠ S → s.heap.get? b = some o → ((s.heap.update S (Obj.mapSeq (·.push Value.none))).update S (Obj.mapSeq (·.pop))).get? b = some o :=
    fun b o hb e => by rw [Heap.get?_update_other _ _ (Ne.symm hb), Heap.get?_update_other _ _ (Ne.symm hb)]; exact e
  have big : lo < ((s.heap.update S (Obj.mapSeq (·.push Value.none))).update S (Obj.mapSeq (·.pop))).objs.size := by
    rw [Heap.size_update, Heap.size_update]; exact hl
  exact wpAny_pure ⟨plainId_quiet PySem.F.plain_extend_loop _, zs_loop (xs := xs) (ys := ys) (h₁ := s.heap) (lo := lo) hh D F hn res hlo hR (min xs.size ys.size) 0 _ _ _ #[] [] (Nat.sub_zero _) (Nat.zero_le _) (st.frame F oth)
    (fun b o hb e => oth b o (fun q => hb (by rw [q]; simp)) e) hS₃ rfl rfl ⟨List.Pairwise.nil, (fun _ ha => absurd ha List.not_mem_nil), (fun j a hj => by simp at hj)⟩ big⟩
theorem zs_init {R : Result → Shared → Prop} (hh : A.handled = none) (D : ZipApart z TI TO i1 i2 l1 l2) (S : Addr) (F : Off S z TI TO i1 i2 l1 l2) (hn : min xs.size ys.size ≤ sizeLine) (st : ZS z TI TO i1 i2 l1 l2 S xs ys 0 s.heap) (hz : IsZip s.heap z TI TO .none)
    (hS : s.heap.get? S = some { cls := .type "list", data := .seq #[] }) {lo : Addr} (hlo : ∀ b, b ∈ [z, TO, i1, i2, S] → b ≤ lo) (hl : lo < s.heap.objs.size)
    (hR : ∀ h' tk acc c as, (∀ b o, b ∉ [S, z, TO, i1, i2] → s.heap.get? b = some o → h'.get? b = some o) → h'.get? S = some { cls := .type "list", dict := none, data := .seq acc c, slots := #[] } → as.length = min xs.size ys.size → Made xs ys lo h' as →
      acc.toList = as.map Value.ref → R (.ok (.ret .none)) { s with heap := h', toks := tk }) :
    wpAny (model prog w) A.in1 (Builtin.«list.__init__» ⟨[.ref S, .ref z], []⟩)
      (fun fin s' => match fin with | .done f => R (.ok f) s' | .again c' => c'.quiet = true ∧ codeAny (model prog w) A c' R s') (fun e s' => R (.error e) s') s := by
  show wpAny _ _ (do let old ← Builtin.List.listItems (.ref S); Builtin.List.listUpdate (.ref S) (fun _ => #[]); letGo old.toList.reverse; Builtin.List.listExtendWith (.ref S) (.ref z) .none) _ _ s
  refine wpAny_bind ?_
  unfold Builtin.List.listItems
  refine wpAny_bind (wpAny_seqItems hS rfl (wpAny_pure ?_))
  show wpAny _ _ (updateSeq S (fun _ => #[]) >>= fun _ => letGo (#[] : Array Value).toList.reverse >>= fun _ => Builtin.List.listExtendWith (.ref S) (.ref z) .none) _ _ s
  refine wpAny_bind (wpAny_updateSeq hS rfl ?_)
  have hS₂ := Heap.get?_update_self (Obj.mapSeq (fun _ => (#[] : Array Value))) hS rfl
  have oth : ∀ b o, b ≠ S → s.heap.get? b = some o → (s.heap.update S (Obj.mapSeq (fun _ => (#[] : Array Value)))).get? b = some o :=
    fun b o hb e => by rw [Heap.get?_update_other _ _ (Ne.symm hb)]; exact e
  refine wpAny_bind (wpAny_letGo ?_)
  refine zs_extend (xs := xs) (ys := ys) (lo := lo) hh D S F hn (st.frame F oth) (oth z _ F.z.symm hz) .none _ hS₂ hlo (by show lo < (s.heap.update S _).objs.size; rw [Heap.size_update]; exact hl) (fun h' tk acc c as hk hS' hl' hG hacc => ?_)
  exact hR h' tk acc c as (fun b o hb e => hk b o hb (oth b o (fun q => hb (by rw [q]; simp)) e)) hS' hl' hG hacc
/-- list(zip(a, b)) from the zip on -/
theorem zs_call {Q : Value → Shared → Prop} (hh : A.handled = none) (D : ZipApart z TI TO i1 i2 l1 l2) (hn : min xs.size ys.size ≤ sizeLine) (hz : IsZip s.heap z TI TO .none) (hTI : PySem.IsPair s.heap TI (.ref i1) (.ref i2)) (hTO : PySem.IsPair s.heap TO .none .none)
    (h1 : s.heap.IsListIter i1 l1 0) (h2 : s.heap.IsListIter i2 l2 0) (hl1 : s.heap.IsList l1 xs) (hl2 : s.heap.IsList l2 ys)
    (hQ : ∀ h' tk acc c as, (∀ b o, b ∉ [z, TO, i1, i2] → s.heap.get? b = some o → h'.get? b = some o) → h'.get? s.heap.objs.size = some { cls := .type "list", dict := none, data := .seq acc c, slots := #[] } → as.length = min xs.size ys.size → Made xs ys s.heap.objs.size h' as →
      acc.toList = as.map Value.ref → Q (.ref s.heap.objs.size) { s with heap := h', toks := tk }) :
    wpAny (model prog w) A (call (.type "list") [.ref z]) Q E s := by
  refine callType_codes (Q₁ := fun obj s₁ => obj = .ref s.heap.objs.size ∧ s₁ = { s with heap := s.heap.push { cls := .type "list", data := .seq #[] } }) PySem.F.called_list (PySem.F.typeCall_list_1 _) PySem.F.entry_list_init
    (code_list_new _ ⟨rfl, rfl⟩) (fun obj s₁ h₁ => ?_)
  obtain ⟨rfl, rfl⟩ := h₁
  have hS : (s.heap.push { cls := .type "list", data := .seq #[] }).get? s.heap.objs.size = some { cls := .type "list", data := .seq #[] } := Heap.get?_push_size _ rfl
  have lt : ∀ {b o}, s.heap.get? b = some o → s.heap.objs.size ≠ b := fun e => (Nat.ne_of_lt (Heap.lt_size e)).symm
  have lz := Heap.lt_size hz
  have lTO := Heap.lt_size hTO
  have L1 : i1 < s.heap.objs.size := by obtain ⟨_, e, _⟩ := h1; exact Heap.lt_size e
  have L2 : i2 < s.heap.objs.size := by obtain ⟨_, e, _⟩ := h2; exact Heap.lt_size e
  have L3 : l1 < s.heap.objs.size := by obtain ⟨_, e, _⟩ := hl1; exact Heap.lt_size e
  have L4 : l2 < s.heap.objs.size := by obtain ⟨_, e, _⟩ := hl2; exact Heap.lt_size e
  have F : Off s.heap.objs.size z TI TO i1 i2 l1 l2 := ⟨lt hz, lt hTI, lt hTO, (Nat.ne_of_lt L1).symm, (Nat.ne_of_lt L2).symm, (Nat.ne_of_lt L3).symm, (Nat.ne_of_lt L4).symm⟩
  have pu : ∀ b o, s.heap.get? b = some o → (s.heap.push { cls := .type "list", data := .seq #[] }).get? b = some o := fun b o e => Heap.get?_push_of_some _ e
  refine ⟨⟨_, hS, rfl⟩, PySem.F.args_list_init_2 _ _, zs_init (xs := xs) (ys := ys) (A := A.in1) (lo := s.heap.objs.size) hh D _ F hn ⟨pu _ _ hTI, h1.at fun o e => pu _ o e, h2.at fun o e => pu _ o e, hl1.at fun o e => pu _ o e, hl2.at fun o e => pu _ o e, .inl ⟨pu _ _ hz, _, _, pu _ _ hTO⟩⟩ (pu _ _ hz) hS (fun b hb => ?_) ?_ (fun h' tk acc c as hk hS' hl hG hacc => ?_)⟩
  · simp at hb
    rcases hb with q | q | q | q | q <;> (rw [q]; first | exact Nat.le_refl _ | exact Nat.le_of_lt (by assumption))
  · show s.heap.objs.size < (s.heap.push _).objs.size
    rw [Heap.size_push]; exact Nat.lt_succ_self _
  · exact ⟨rfl, hQ h' tk acc c as (fun b o hb e => hk b o (fun q => by
      rcases List.mem_cons.mp q with q | q
      · exact lt e q.symm
      · exact hb q) (pu b o e)) hS' hl hG hacc⟩
end
end DZ
namespace DZ
open PySem PySem.Spec PyProof.Rows L2 PySem.Calls
/-- the pairs laid at their addresses -/
def putZ : Hp → List Addr → List (V × V) → Hp
  | H, a :: as, p :: ps => putZ (upd H a (.tup [p.1, p.2])) as ps
  | H, _, _ => H
theorem putZ_off {b : Addr} : ∀ (as : List Addr) (ps : List (V × V)) (H : Hp), b ∉ as → putZ H as ps b = H b
  | [], _, _, _ => rfl
  | _ :: _, [], _, _ => rfl
  | a :: as, p :: ps, H, h => by
    show putZ (upd H a _) as ps b = H b
    rw [putZ_off as ps _ (fun q => h (List.mem_cons_of_mem _ q)), upd_ne (fun q => h (by rw [q]; exact List.mem_cons_self))]
theorem putZ_at : ∀ (as : List Addr) (ps : List (V × V)) (H : Hp), as.length = ps.length → as.Nodup → Paired (fun (t : Addr) (p : V × V) => putZ H as ps t = some (.tup [p.1, p.2])) as ps
  | [], [], _, _, _ => .nil
  | [], _ :: _, _, h, _ => by cases h
  | _ :: _, [], _, h, _ => by cases h
  | a :: as, p :: ps, H, h, hn => by
    have hn' := List.nodup_cons.mp hn
    refine .cons ?_ (putZ_at as ps (upd H a (.tup [p.1, p.2])) (Nat.succ.inj h) hn'.2)
    show putZ (upd H a _) as ps a = _
    rw [putZ_off as ps _ hn'.1, upd_same]
section
variable {X : Cx} {W : WX} {pins : List (Addr × Obj)} {σ : L2.St} {H : Hp} {s : Shared}
theorem zip_laid {h' : Heap} {tk c : Nat} {us vs : List V} {xs ys acc : Array Value} {as : List Addr} (I : Inv X pins σ H s) (hz : us.length ≤ sizeLine) (ru : Vals us xs.toList) (rv : Vals vs ys.toList)
    (hk : ∀ b o, s.heap.get? b = some o → h'.get? b = some o) {S : Addr} (hSs : s.heap.objs.size ≤ S) (hS : h'.get? S = some { cls := .type "list", dict := none, data := .seq acc c, slots := #[] }) (hl : as.length = min xs.size ys.size) (hG : Made xs ys S h' as) (hacc : acc.toList = as.map Value.ref) :
    H S = none ∧ (∀ t ∈ as, H t = none) ∧ S ∉ as ∧ as.Nodup ∧ as.length = (us.zip vs).length ∧ Inv X pins σ (putZ (upd H S (.lst (as.map V.ref))) as (us.zip vs)) { s with heap := h', toks := tk } := by
  have lu : us.length = xs.size := by rw [ru.length]; exact Array.length_toList
  have lv : vs.length = ys.size := by rw [rv.length]; exact Array.length_toList
  have lz : as.length = (us.zip vs).length := by rw [List.length_zip, lu, lv, hl]
  have hSn : S ∉ as := fun z => Nat.lt_irrefl _ (hG.above _ z)
  have nd : as.Nodup := List.Pairwise.imp (fun {a b} (h : a < b) => Nat.ne_of_lt h) hG.rise
  have new : ∀ t ∈ as, H t = none := fun t ht => I.hok.fresh (Nat.le_trans hSs (Nat.le_of_lt (hG.above t ht)))
  have newS : H S = none := I.hok.fresh hSs
  have atP := putZ_at as (us.zip vs) (upd H S (.lst (as.map V.ref))) lz nd
  have off : ∀ b, b ∉ as → b ≠ S → putZ (upd H S (.lst (as.map V.ref))) as (us.zip vs) b = H b := fun b h1 h2 => by rw [putZ_off as _ _ h1, upd_ne h2]
  have low : ∀ b o, s.heap.get? b = some o → b ∉ as ∧ b ≠ S := fun b o e => by
    have q := Nat.lt_of_lt_of_le (Heap.lt_size e) hSs
    exact ⟨fun z => absurd q (Nat.not_lt.mpr (Nat.le_of_lt (hG.above b z))), Nat.ne_of_lt q⟩
  have kp : ∀ b u, H b = some u → (putZ (upd H S (.lst (as.map V.ref))) as (us.zip vs)) b = some u := fun b u e => by
    rw [off b (fun z => by rw [new b z] at e; cases e) (fun z => by rw [z, newS] at e; cases e)]
    exact e
  have eS : putZ (upd H S (.lst (as.map V.ref))) as (us.zip vs) S = some (.lst (as.map V.ref)) := by rw [putZ_off as _ _ hSn, upd_same]
  refine ⟨newS, new, hSn, nd, lz, ?_⟩
  refine I.call' (ch := []) rfl ⟨fun b o q _ _ _ => hk b o q, fun b o q _ _ _ => ⟨o.slots, hk b o q⟩, fun b o q n _ => ?_, fun b o q _ => ⟨o, hk b o q⟩, fun b xs q => kp b _ q, fun b o u q => kp b _ q, fun b ps q => ⟨#[], by rw [kp b _ q]; simp⟩⟩ (fun b u q => ?_) I.bare (fun b z => by simp at z)
  · obtain ⟨z1, z2⟩ := low b o q
    rw [off b z1 z2]
    exact n
  · by_cases hb : b ∈ as
    · obtain ⟨j, pk, e1, e2, e3⟩ := LiI.paired_ix atP hb
      rw [e3] at q
      cases q
      obtain ⟨x, y, f1, f2, f3⟩ := hG.at' j b e1
      obtain ⟨g1, g2⟩ := List.getElem?_zip_eq_some.mp e2
      obtain ⟨x', hx', rx⟩ := LiI.paired_get ru g1
      obtain ⟨y', hy', ry⟩ := LiI.paired_get rv g2
      have q1 : x' = x := Option.some.inj (hx'.symm.trans (by rw [Array.getElem?_toList]; exact f1))
      have q2 : y' = y := Option.some.inj (hy'.symm.trans (by rw [Array.getElem?_toList]; exact f2))
      subst q1 q2
      exact ⟨by show 2 ≤ sizeLine; decide, [x', y'], .cons rx (.cons ry .nil), ⟨_, f3, rfl, _, rfl⟩⟩
    · by_cases hb2 : b = S
      · rw [hb2] at q ⊢
        rw [eS] at q
        cases q
        refine ⟨by rw [List.length_map]; omega, acc.toList, c, by rw [hacc]; exact LiI.vals_refs as, ?_⟩
        rw [Array.toArray_toList]
        exact hS
      · rw [off b hb hb2] at q
        exact (I.hok b u q).stay (fun d v _ y => hk d v y) (fun d y => kp d _ y) (fun d xs y => kp d _ y)
end
/-- list(zip(a, b)) -/
def tLZ (K : PySem.W.Frag) (ta : TA) : TE := fun σ H Q => ta σ H fun ws H1 => ∃ a b us vs, ws = [.ref a, .ref b] ∧ SqL K H1 a us ∧ SqL K H1 b vs ∧
  ∀ p as, H1 p = none → (∀ t ∈ as, H1 t = none) → p ∉ as → as.Nodup → as.length = (us.zip vs).length → Q (.ref p) (putZ (upd H1 p (.lst (as.map V.ref))) as (us.zip vs))
section
variable {X : Cx} {W : WX} {e e2 : Expr} {ta : TA} {p p2 pos pos2 : Pos}
theorem pe_lz (hc : X.calm = true) (hg : Gl X "list") (hm : X.mg "list" = none) (hg2 : Gl X "zip") (hm2 : X.mg "zip" = none) (ha : PA X [e, e2] ta)
    (hs : starEach [.Call (.Name "zip" p2) [e, e2] [] pos2] X.env = (false, eval (.Call (.Name "zip" p2) [e, e2] [] pos2) X.env) :: starEach [] X.env := by rfl)
    (hs2 : starEach [e, e2] X.env = (false, eval e X.env) :: starEach [e2] X.env := by rfl) (hpl : (backTo pos2 (starEach [e2] X.env)).any (·.1) = false := by rfl) :
    PE X (.Call (.Name "list" p) [.Call (.Name "zip" p2) [e, e2] [] pos2] [] pos) (tLZ X.K ta) := by
  refine ⟨fun pins s σ H Q I hq => ?_⟩
  refine wpAny_Call_Name_kw (ld_blt I hg hm PyProof.Rows.boot_list ?_)
  refine PyProof.Rows.callWith_type1 ?_ hs rfl
  rw [hs]
  show wpAny _ _ (spliced ((false, eval (.Call (.Name "zip" p2) [e, e2] [] pos2) X.env) :: backTo pos (starEach [] X.env))) _ _ s
  refine Calls.spliced_cons ?_
  refine Call_ (ld_blt I hg2 hm2 PyProof.Rows.boot_zip (PyProof.Rows.callWith_type1 (thn (ha.run _ pins s σ H _ I hq) fun us s1 ⟨vs, H1, I1, r1, q1⟩ => ?_) hs2 hpl))
  obtain ⟨a, b, xs, ys, ex, hqx, hqy, q⟩ := q1
  subst ex
  cases r1 with
  | cons r rr =>
    cases rr with
    | cons r' rr =>
      cases rr
      cases r
      cases r'
      obtain ⟨its, rv, p1, z1⟩ := I1.list hqx
      obtain ⟨its2, rv2, p2, z2⟩ := I1.list hqy
      refine call_zip_2 p1.isList p2.isList (fun h' hz hTI hTO h1 h2 hsz hk => ?_)
      refine Calls.spliced_nil ?_
      have I2 : Inv X pins σ H1 { s1 with heap := h' } := I1.kept (t' := s1.toks) hk
      have l1 := rv.length
      have l2 := rv2.length
      refine zs_call (s := { s1 with heap := h' }) (xs := its.toArray) (ys := its2.toArray) (I1.ok.hd hc) (PySem.W.ktu_apart s1.heap.objs.size a b p1.lt p2.lt) (by rw [List.size_toArray]; omega) hz hTI hTO h1 h2 (p1.isList.at fun o e => hk _ o e) (p2.isList.at fun o e => hk _ o e) (fun h2 tk acc c as hk2 hS hl hG hacc => ?_)
      have kk : ∀ b o, s1.heap.get? b = some o → h2.get? b = some o := fun b o e => hk2 b o (fun q => by
        have := Heap.lt_size e
        simp only [List.mem_cons, List.not_mem_nil, or_false] at q
        rcases q with q | q | q | q <;> (rw [q] at this; first | exact absurd this (Nat.not_lt.mpr (Nat.le_add_right _ _)) | exact absurd this (Nat.lt_irrefl _))) (hk b o e)
      have hSs : s1.heap.objs.size ≤ h'.objs.size := by rw [hsz]; exact Nat.le_add_right _ _
      obtain ⟨k1, k2, k3, k4, k5, J⟩ := zip_laid (tk := tk) I1 z1 rv rv2 kk hSs hS hl hG hacc
      exact ⟨.ref _, _, J, rfl, q _ as k1 k2 k3 k4 k5⟩
end
end DZ

namespace EX
open PySem PySem.Spec PyProof.Rows L2 DZ
open PySem.W (minD dataLt dataLt_ii alike_unique min_list_data)
section
variable {K : Kx} {W : WX} {M : Mem}
theorem stp_putZ : ∀ (as : List Addr) (ps : List (V × V)) {G H : Hp}, Ex G H → MemOk K G H M → (∀ t ∈ as, H t = none) → as.Nodup → Stp K G H M (putZ G as ps) (putZ H as ps) M
  | [], _, _, _, e, m, _, _ => Stp.refl e m
  | _ :: _, [], _, _, e, m, _, _ => Stp.refl e m
  | a :: as, p :: ps, G, H, e, m, h, hn => by
    have hn' := List.nodup_cons.mp hn
    have t := Stp.alloc (o := .tup [p.1, p.2]) e m (h a List.mem_cons_self)
    exact t.trans (stp_putZ as ps t.ex' t.mem (fun b hb => by rw [upd_ne (fun q => hn'.1 (by rw [← q]; exact hb))]; exact h b (List.mem_cons_of_mem _ hb)) hn'.2)
theorem putZ_ex : ∀ (as : List Addr) (ps : List (V × V)) {G : Hp}, (∀ t ∈ as, G t = none) → as.Nodup → Ex G (putZ G as ps)
  | [], _, _, _, _ => Ex.rfl'
  | _ :: _, [], _, _, _ => Ex.rfl'
  | a :: as, p :: ps, G, h, hn => by
    have hn' := List.nodup_cons.mp hn
    exact (Ex.new (h a List.mem_cons_self)).trans (putZ_ex as ps (fun b hb => by rw [upd_ne (fun q => hn'.1 (by rw [← q]; exact hb))]; exact h b (List.mem_cons_of_mem _ hb)) hn'.2)
theorem dps_zip {G G' : Hp} : ∀ {as : List Addr} {us vs : List V} {ds es : List Dat}, DPs K G us ds → DPs K G vs es → Ex G G' → Paired (fun (t : Addr) (p : V × V) => G' t = some (.tup [p.1, p.2])) as (us.zip vs) → DPs K G' (as.map V.ref) (zipD ds es)
  | _, _, _, _, _, .nil, _, _, .nil => .nil
  | _, _, _, _, _, .cons _ _, .nil, _, .nil => .nil
  | _, _, _, _, _, .cons h1 r1, .cons h2 r2, e, .cons q r => .cons (.tup q (.cons (h1.mono e) (.cons (h2.mono e) .nil))) (dps_zip r1 r2 e r)
end
section
variable {X : Cx} {W : WX} {a b : Expr} {p p2 pos pos2 : Pos} {tr : DTA}
def dLZ (t : DTA) : DTE := fun Γ M Φ => t Γ M fun ds M1 => ∃ x y xs ys, ds = [x, y] ∧ vw M1 x = some xs ∧ vw M1 y = some ys ∧ Φ (.lst (zipD xs ys)) M1
theorem de_lz (hc : X.calm = true) (hg : Gl X "list") (hm : X.mg "list" = none) (hg2 : Gl X "zip") (hm2 : X.mg "zip" = none) (ha : PA X [a, b] (LA (kx X) W tr))
    (hs : starEach [.Call (.Name "zip" p2) [a, b] [] pos2] X.env = (false, eval (.Call (.Name "zip" p2) [a, b] [] pos2) X.env) :: starEach [] X.env := by rfl)
    (hs2 : starEach [a, b] X.env = (false, eval a X.env) :: starEach [b] X.env := by rfl) (hpl : (backTo pos2 (starEach [b] X.env)).any (·.1) = false := by rfl) :
    PE X (.Call (.Name "list" p) [.Call (.Name "zip" p2) [a, b] [] pos2] [] pos) (LE (kx X) W (dLZ tr)) := pe_wk (pe_lz hc hg hm hg2 hm2 ha hs hs2 hpl) fun σ H Q ⟨Γ, G, M, Φ, e, s, m, h, k⟩ =>
  ⟨Γ, G, M, _, e, s, m, h, fun ws ds G1 H1 M1 t1 r h1 => by
    obtain ⟨x, y, xs, ys, rfl, hv, hw, q⟩ := h1
    cases r with
    | cons r1 r2 =>
      cases r2 with
      | cons r2 r3 =>
        cases r3
        obtain ⟨a, us, rfl, hs, hr, _⟩ := vw_at t1.ex' t1.mem r1 hv
        obtain ⟨b, vs, rfl, hs', hr', _⟩ := vw_at t1.ex' t1.mem r2 hw
        refine ⟨a, b, us, vs, rfl, hs, hs', fun p as n1 n2 n3 n4 n5 => ?_⟩
        have ta := Stp.alloc (o := .lst (as.map V.ref)) t1.ex' t1.mem n1
        have f : ∀ t ∈ as, upd H1 p (.lst (as.map V.ref)) t = none := fun t ht => by
          rw [upd_ne (fun q => n3 (by rw [← q]; exact ht))]; exact n2 t ht
        have tz := stp_putZ (K := kx X) as (us.zip vs) ta.ex' ta.mem f n4
        have g1 : G1 p = none := t1.ex'.free n1
        have fg : ∀ t ∈ as, upd G1 p (.lst (as.map V.ref)) t = none := fun t ht => ta.ex'.free (f t ht)
        have e2 : Ex G1 (putZ (upd G1 p (.lst (as.map V.ref))) as (us.zip vs)) := (Ex.new g1).trans (putZ_ex as _ fg n4)
        exact k _ (.lst (zipD xs ys)) _ _ M1 (t1.trans (ta.trans tz)) (.lst (by rw [putZ_off as _ _ n3, upd_same]) (dps_zip hr hr' e2 (putZ_at as _ _ n5 n4))) q⟩
end
/-! ### the least of a list of pairs of numbers -/
def ppD (p : Int × Int) : Dat := .tup [.int p.1, .int p.2]
def oMinP : DFn := fun xs M Φ => ∃ x, ∃ ps : List (Int × Int), xs = [x] ∧ vw M x = some (ps.map ppD) ∧ ps ≠ [] ∧ ∀ p, p ∈ ps → (∀ q ∈ ps, p.1 < q.1 ∨ (p.1 = q.1 ∧ p.2 ≤ q.2)) → Φ (ppD p) M
def ppP (p : Int × Int) : PyData := .tuple [.int p.1, .int p.2]
theorem minD_pp : ∀ (ps : List (Int × Int)) (p : Int × Int), ∃ q, q ∈ p :: ps ∧ minD (ppP p) (ps.map ppP) = ppP q ∧ ∀ r ∈ p :: ps, q.1 < r.1 ∨ (q.1 = r.1 ∧ q.2 ≤ r.2)
  | [], p => ⟨p, List.mem_cons_self, rfl, fun r hr => by rw [List.mem_singleton.mp hr]; exact .inr ⟨rfl, Int.le_refl _⟩⟩
  | r :: ps, p => by
    have e : minD (ppP p) ((r :: ps).map ppP) = minD (if dataLt (ppP r) (ppP p) then ppP r else ppP p) (ps.map ppP) := rfl
    rw [e, show dataLt (ppP r) (ppP p) = _ from dataLt_ii _ _ _ _]
    by_cases c : r.1 < p.1 ∨ (r.1 = p.1 ∧ r.2 < p.2)
    · rw [if_pos (decide_eq_true c)]
      obtain ⟨q, h1, h2, h3⟩ := minD_pp ps r
      refine ⟨q, List.mem_cons_of_mem _ h1, h2, fun t ht => ?_⟩
      rcases List.mem_cons.mp ht with z | z
      · have := h3 r List.mem_cons_self
        rw [z]; omega
      · exact h3 t z
    · rw [if_neg (by rw [decide_eq_true_eq]; exact c)]
      obtain ⟨q, h1, h2, h3⟩ := minD_pp ps p
      refine ⟨q, ?_, h2, fun t ht => ?_⟩
      · rcases List.mem_cons.mp h1 with z | z
        · rw [z]; exact List.mem_cons_self
        · exact List.mem_cons_of_mem _ (List.mem_cons_of_mem _ z)
      · rcases List.mem_cons.mp ht with z | z
        · rw [z]; exact h3 p List.mem_cons_self
        · rcases List.mem_cons.mp z with z | z
          · have := h3 p List.mem_cons_self
            rw [z]; omega
          · exact h3 t (List.mem_cons_of_mem _ z)
section
variable {X : Cx} {W : WX}
theorem dpall_pp {K : Kx} {G H : Hp} {M : Mem} (e : Ex G H) (m : MemOk K G H M) : ∀ {vs : List V} {ps : List (Int × Int)}, DPs K G vs (ps.map ppD) → DpAll K.K H vs (ps.map ppP)
  | _, [], .nil => .nil
  | _, p :: ps, .cons h r => .cons (h.dp e m rfl) (dpall_pp e m r)
theorem oc_minP (hc : X.calm = true) (hu : X.A.units + 64 < cLine) : CallR X (.builtin "min") (LC (kx X) oMinP) := by
  intro pins s σ H xs us Q I r h
  obtain ⟨G, M, ds, Φ, e, m, rs, ⟨x, ps, rfl, hv, hne, q⟩, k⟩ := h
  cases rs with
  | cons rv r2 =>
    cases r2
    obtain ⟨a, ws, rfl, hs, hr, _⟩ := vw_at e m rv hv
    obtain ⟨its, rw', pl, hz⟩ := I.list hs
    rw [Vals.ref1 r]
    cases ps with
    | nil => exact absurd rfl hne
    | cons p ps =>
      obtain ⟨as, hR⟩ := Dp.readsAll I ((p :: ps).map ppP) ws its (dpall_pp e m hr) rw'
      obtain ⟨o, n1, n2, n3⟩ := minD_pp ps p
      have dep : PyData.depthAll (ppP p :: ps.map ppP) ≤ 1 := depthAll_map (g := ppP) (n := 1) (fun _ => Nat.le_refl _) (p :: ps)
      refine min_list_data (x := ppP p) (xs := ps.map ppP) (I.ok.hd hc) pl.isList hR ⟨fun y hy z hz => ?_, fun y hy => ?_⟩ (by omega) (fun i v h' tk bs hi hrd hk => ?_)
      · have hy' : y ∈ (p :: ps).map ppP := hy
        have hz' : z ∈ (p :: ps).map ppP := hz
        obtain ⟨y0, _, rfl⟩ := List.mem_map.mp hy'
        obtain ⟨z0, _, rfl⟩ := List.mem_map.mp hz'
        rfl
      · have hy' : y ∈ (p :: ps).map ppP := hy
        obtain ⟨y0, _, rfl⟩ := List.mem_map.mp hy'
        intro q; cases q
      · have hi' : its[i]? = some v := by simpa using hi
        have hlt : i < ws.length := by rw [rw'.length]; exact (List.getElem?_eq_some_iff.mp hi').1
        have hu' : ws[i]? = some ws[i] := List.getElem?_eq_getElem hlt
        generalize ws[i] = u at hu'
        obtain ⟨v', hv', ru⟩ := LiI.paired_get rw' hu'
        have evv : v' = v := Option.some.inj (hv'.symm.trans hi')
        rw [evv] at ru
        obtain ⟨d, hd, rd⟩ := hr.getV hu'
        obtain ⟨z, hz', rfl⟩ : ∃ z : Int × Int, z ∈ p :: ps ∧ ppD z = d := by
          obtain ⟨z, h1, h2⟩ := List.mem_map.mp (List.mem_of_getElem? hd)
          exact ⟨z, h1, h2⟩
        obtain ⟨bs', hr2⟩ := Dp.reads I (ppP z) u v (rd.dp e m rfl) ru
        have eq : ppP z = minD (ppP p) (ps.map ppP) := alike_unique _ _ v _ _ (by rw [n2]; rfl) (PySem.W.reads_keeps hk hr2) hrd
        rw [n2] at eq
        have ez : z = o := by
          unfold ppP at eq
          simp only [PyData.tuple.injEq, List.cons.injEq, PyData.int.injEq, and_true] at eq
          exact Prod.ext eq.1 eq.2
        subst ez
        exact ⟨u, H, I.kept hk, ru, k _ _ G H M (Stp.refl e m) rd (q z n1 n3)⟩
end
end EX
/-! The data layer 9: loops by invariants; freezing. -/
namespace EX
open PySem PySem.Spec PyProof.Rows L2

theorem get_drop {α : Type} {xs : List α} {i : Nat} {d : α} {r : List α} (h : xs.drop i = d :: r) : xs[i]? = some d ∧ xs.drop (i + 1) = r := by
  have h1 : (xs.drop i)[0]? = some d := by rw [h]; rfl
  rw [List.getElem?_drop] at h1
  refine ⟨by simpa using h1, ?_⟩
  have h2 : (xs.drop i).drop 1 = r := by rw [h]; rfl
  rw [List.drop_drop] at h2
  exact h2
theorem len_drop {α : Type} {xs : List α} {i : Nat} (h : xs.drop i = []) (hi : i ≤ xs.length) : i = xs.length := by
  have := congrArg List.length h
  rw [List.length_drop] at this
  simp at this; omega
section
variable {I : Mem → Prop} {p : Pat} {tt : DTT} {te : DTE} {Γw : DEnv} {Φ : List Dat → Mem → Prop} {items : List Dat}
/-- a comprehension by an invariant J (items done, what was made, the store) -/
theorem lc_inv (J : Nat → List Dat → Mem → Prop)
    (h : ∀ i d acc M, items[i]? = some d → J i acc M → I M ∧ ∃ Γ1, p.dg d Γw = some Γ1 ∧ ∀ Ψ : List Dat → Mem → Prop, (∀ acc' M', J (i + 1) acc' M' → Ψ acc' M') → tt Γ1 M fun b M1 => if b = true then te Γ1 M1 fun y M2 => acc.length < sizeLine ∧ Ψ (acc ++ [y]) M2 else Ψ acc M1)
    (k : ∀ acc M, J items.length acc M → I M ∧ Φ acc M) {acc : List Dat} {M : Mem} (hj : J 0 acc M) : dLcGo I p tt te Γw items acc M Φ := by
  have key : ∀ (r : List Dat) (i : Nat) (acc : List Dat) (M : Mem), items.drop i = r → i ≤ items.length → J i acc M → dLcGo I p tt te Γw r acc M Φ := by
    intro r
    induction r with
    | nil =>
      intro i acc M hr hi hj
      have e := len_drop hr hi
      subst e
      exact k acc M hj
    | cons d r ih =>
      intro i acc M hr hi hj
      obtain ⟨g1, g2⟩ := get_drop hr
      obtain ⟨hI, Γ1, e1, q⟩ := h i d acc M g1 hj
      refine ⟨hI, Γ1, e1, q (fun acc M => dLcGo I p tt te Γw r acc M Φ) fun acc' M' hj' => ?_⟩
      exact ih (i + 1) acc' M' g2 (by have := (List.getElem?_eq_some_iff.mp g1).1; omega) hj'
  exact key items 0 acc M rfl (Nat.zero_le _) hj
/-- .. where the store stays: each item d stands for x; those with b x are kept, and give f x -/
theorem lc_rel {α β : Type} {M : Mem} (R : Dat → β → Prop) (b : α → Bool) (f : α → β) (xs : List α) (hI : I M)
    (h : Paired (fun d x => ∃ Γ1, p.dg d Γw = some Γ1 ∧ (∀ Ψ : Bool → Mem → Prop, Ψ (b x) M → tt Γ1 M Ψ) ∧ (b x = true → ∃ y, R y (f x) ∧ ∀ Ψ : Dat → Mem → Prop, Ψ y M → te Γ1 M Ψ)) items xs) :
    ∀ {acc : List Dat}, acc.length + items.length ≤ sizeLine → (∀ ys, Paired R ys ((xs.filter b).map f) → Φ (acc ++ ys) M) → dLcGo I p tt te Γw items acc M Φ := by
  induction h with
  | nil => intro acc _ k; exact ⟨hI, by have := k [] .nil; rwa [List.append_nil] at this⟩
  | @cons d x ds xs hd _ ih =>
    intro acc hl k
    obtain ⟨Γ1, e1, h1, h2⟩ := hd
    have hl' : acc.length + (ds.length + 1) ≤ sizeLine := hl
    refine ⟨hI, Γ1, e1, h1 _ ?_⟩
    cases hb : b x with
    | true =>
      rw [if_pos rfl]
      obtain ⟨y, ry, hy⟩ := h2 hb
      refine hy _ ⟨by omega, ih (by rw [List.length_append]; show acc.length + 1 + ds.length ≤ _; omega) fun ys r => ?_⟩
      have := k (y :: ys) (by rw [List.filter_cons_of_pos hb]; exact .cons ry r)
      rw [List.append_assoc]
      exact this
    | false =>
      rw [if_neg Bool.false_ne_true]
      refine ih (by omega) fun ys r => k ys ?_
      rw [List.filter_cons_of_neg (by rw [hb]; exact Bool.false_ne_true)]
      exact r
end
section
variable {I : Mem → Prop} {p : Pat} {tb : DTS} {D : DEnds} {items : List Dat}
theorem for_inv (J : Nat → DEnv → Mem → Prop)
    (h : ∀ i d Γ M, items[i]? = some d → J i Γ M → I M ∧ ∃ Γ1, p.dg d Γ = some Γ1 ∧ ∀ N : DEnv → Mem → Prop, (∀ Γ' M', J (i + 1) Γ' M' → N Γ' M') → tb { D with nx := N, ct := N, bk := D.nx } Γ1 M)
    (k : ∀ Γ M, J items.length Γ M → I M ∧ D.nx Γ M) {Γ : DEnv} {M : Mem} (hj : J 0 Γ M) : dForGo I p tb D items Γ M := by
  have key : ∀ (r : List Dat) (i : Nat) (Γ : DEnv) (M : Mem), items.drop i = r → i ≤ items.length → J i Γ M → dForGo I p tb D r Γ M := by
    intro r
    induction r with
    | nil =>
      intro i Γ M hr hi hj
      have e := len_drop hr hi
      subst e
      exact k Γ M hj
    | cons d r ih =>
      intro i Γ M hr hi hj
      obtain ⟨g1, g2⟩ := get_drop hr
      obtain ⟨hI, Γ1, e1, q⟩ := h i d Γ M g1 hj
      exact ⟨hI, Γ1, e1, q (dForGo I p tb D r) fun Γ' M' hj' => ih (i + 1) Γ' M' g2 (by have := (List.getElem?_eq_some_iff.mp g1).1; omega) hj'⟩
  exact key items 0 Γ M rfl (Nat.zero_le _) hj
end
section
variable {c : DTT} {tb : DTS} {D : DEnds}
theorem wh_inv (J : Nat → DEnv → Mem → Prop)
    (h : ∀ n Γ M, J n Γ M → ∀ N : DEnv → Mem → Prop, (∀ m Γ' M', m < n → J m Γ' M' → N Γ' M') → c Γ M fun b M1 => if b = true then tb { D with nx := N, ct := N, bk := D.nx } Γ M1 else D.nx Γ M1)
    {n : Nat} {Γ : DEnv} {M : Mem} (hj : J n Γ M) : dWh c tb D Γ M := by
  have key : ∀ (f m : Nat) (Γ : DEnv) (M : Mem), m < f → J m Γ M → dWhGo c tb D f Γ M := by
    intro f
    induction f with
    | zero => intro m Γ M h0 _; omega
    | succ f ih => intro m Γ M hm hj; exact h m Γ M hj (dWhGo c tb D f) fun m' Γ' M' hm' hj' => ih m' Γ' M' (by omega) hj'
  exact ⟨n + 1, key (n + 1) n Γ M (Nat.lt_succ_self n) hj⟩
end
theorem keep_of {M : Mem} {d : Dat} {ds : List Dat} (h : vw M d = some ds) : keep d ds M := by
  cases d <;> first | exact trivial | exact h
theorem zipD_cons {x y : Dat} {xs ys : List Dat} : zipD (x :: xs) (y :: ys) = .tup [x, y] :: zipD xs ys := rfl
theorem Sub.trans {M M1 M2 : Mem} (a : Sub M M1) (b : Sub M1 M2) : Sub M M2 := fun x o h => b x o (a x o h)
theorem Sub.put {M : Mem} {a : Addr} {ds : Cell} (h : M a = none) : Sub M (M.put a ds) := fun b es hb => by
  rw [Mem.put_ne (fun q => by rw [q, h] at hb; cases hb)]; exact hb
theorem Sub.put2 {M M1 : Mem} {a : Addr} {ds : Cell} (s : Sub M M1) (h : M a = none) : Sub M (M1.put a ds) := fun b es hb => by
  rw [Mem.put_ne (fun q => by rw [q, h] at hb; cases hb)]; exact s b es hb
theorem Sub.del2 {M M1 : Mem} {a : Addr} (s : Sub M M1) (h : M a = none) : Sub M (M1.del a) := fun b es hb => by
  rw [Mem.del_ne (fun q => by rw [q, h] at hb; cases hb)]; exact s b es hb
theorem Sub.l {M M1 : Mem} (s : Sub M M1) {a : Addr} {ds : List Dat} (h : M.l a = some ds) : M1.l a = some ds := Mem.l_of (s _ _ (Mem.of_l h))
theorem Sub.vw {M M1 : Mem} (s : Sub M M1) {d : Dat} {ds : List Dat} (h : vw M d = some ds) : vw M1 d = some ds := by
  cases d <;> first | exact h | exact s.l h | cases h
theorem Sub.fresh {M M1 : Mem} (s : Sub M M1) {a : Addr} (h : M1 a = none) : M a = none := by
  cases q : M a with
  | none => rfl
  | some ds => rw [s a ds q] at h; cases h

/-! ### freezing -/
/-- what d stands for at M may be told as d' at M' -/
def Frz (d : Dat) (M : Mem) (d' : Dat) (M' : Mem) : Prop := ∀ (K : Kx) (G H : Hp) (v : V), DP K G v d → Ex G H → MemOk K G H M → ∃ G', Stp K G H M G' H M' ∧ DP K G' v d'
def Frzs (ds : List Dat) (M : Mem) (ds' : List Dat) (M' : Mem) : Prop := ∀ (K : Kx) (G H : Hp) (vs : List V), DPs K G vs ds → Ex G H → MemOk K G H M → ∃ G', Stp K G H M G' H M' ∧ DPs K G' vs ds'
theorem Frz.refl {d : Dat} {M : Mem} : Frz d M d M := fun K G H v r e m => ⟨G, Stp.refl e m, r⟩
theorem Frzs.refl {ds : List Dat} {M : Mem} : Frzs ds M ds M := fun K G H v r e m => ⟨G, Stp.refl e m, r⟩
theorem Frz.trans {d d1 d2 : Dat} {M M1 M2 : Mem} (a : Frz d M d1 M1) (b : Frz d1 M1 d2 M2) : Frz d M d2 M2 := fun K G H v r e m => by
  obtain ⟨G1, t1, r1⟩ := a K G H v r e m
  obtain ⟨G2, t2, r2⟩ := b K G1 H v r1 t1.ex' t1.mem
  exact ⟨G2, t1.trans t2, r2⟩
theorem Frz.loc {M : Mem} {a : Addr} {ds : List Dat} (h : M a = some (.lst ds)) : Frz (.loc a) M (.lst ds) (M.del a) := fun K G H v r e m => by
  cases r
  obtain ⟨g0, xs, hx, hr⟩ := m a _ h
  exact ⟨_, Stp.freeze e m h hx, .lst upd_same (hr.mono (Ex.new g0))⟩
theorem Frzs.cons {d d' : Dat} {ds ds' : List Dat} {M M1 M2 : Mem} (a : Frz d M d' M1) (b : Frzs ds M1 ds' M2) : Frzs (d :: ds) M (d' :: ds') M2 := fun K G H vs r e m => by
  cases r with
  | cons r1 r2 =>
    obtain ⟨G1, t1, q1⟩ := a K G H _ r1 e m
    obtain ⟨G2, t2, q2⟩ := b K G1 H _ (r2.mono t1.ex) t1.ex' t1.mem
    exact ⟨G2, t1.trans t2, .cons (q1.mono t2.ex) q2⟩
theorem Frzs.nil {M : Mem} : Frzs [] M [] M := Frzs.refl
theorem Frz.tup {ds ds' : List Dat} {M M1 : Mem} (a : Frzs ds M ds' M1) : Frz (.tup ds) M (.tup ds') M1 := fun K G H v r e m => by
  cases r with
  | tup ha hr =>
    obtain ⟨G1, t1, q1⟩ := a K G H _ hr e m
    exact ⟨G1, t1, .tup (t1.ex _ _ ha) q1⟩
theorem Frz.lst {ds ds' : List Dat} {M M1 : Mem} (a : Frzs ds M ds' M1) : Frz (.lst ds) M (.lst ds') M1 := fun K G H v r e m => by
  cases r with
  | lst ha hr =>
    obtain ⟨G1, t1, q1⟩ := a K G H _ hr e m
    exact ⟨G1, t1, .lst (t1.ex _ _ ha) q1⟩
/-- the promise, with what comes out frozen as far as one likes -/
def frzd (t : DFnX) : DFnX := fun ds M Φ Ψ => t ds M (fun d M1 => ∃ d' M2, Frz d M1 d' M2 ∧ Φ d' M2) Ψ
theorem spX_imp {K : Kx} {t t' : DFnX} (h : ∀ ds M Φ Ψ, t' ds M Φ Ψ → t ds M Φ Ψ) : ∀ vs H Q E, spX K t' vs H Q E → spX K t vs H Q E := fun vs H Q E ⟨G, M, ds, Φ, Ψ, e, m, r, q, kk, kx⟩ => ⟨G, M, ds, Φ, Ψ, e, m, r, h ds M Φ Ψ q, kk, kx⟩
theorem Def.imp {P : Program} {w : World} {K : Kx} {base : Heap} {x : Str} {st : Stmt} {k : Nat} {ps : List Str} {t t' : DFnX} (D : Def P w K base x st k ps t) (h : ∀ ds M Φ Ψ, t' ds M Φ Ψ → t ds M Φ Ψ) : Def P w K base x st k ps t' := by
  obtain ⟨f, fd, Fn, F, m, b⟩ := D.ex
  exact ⟨f, fd, Fn, F.imp (spX_imp h), m, b⟩
theorem Def.frz {P : Program} {w : World} {K : Kx} {base : Heap} {x : Str} {st : Stmt} {k : Nat} {ps : List Str} {t : DFnX} (D : Def P w K base x st k ps t) : Def P w K base x st k ps (frzd t) := by
  obtain ⟨f, fd, Fn, F, m, b⟩ := D.ex
  refine ⟨f, fd, Fn, F.imp fun vs H Q E h => ?_, m, b⟩
  obtain ⟨G, M, ds, Φ, Ψ, e, mm, r, q, kk, kx⟩ := h
  refine ⟨G, M, ds, _, Ψ, e, mm, r, q, fun v d G1 H1 M1 t1 rv ⟨d', M2, fz, q2⟩ => ?_, kx⟩
  obtain ⟨G2, t2, r2⟩ := fz K G1 H1 v rv t1.ex' t1.mem
  exact kk v d' G2 H1 M2 (t1.trans t2) r2 q2
end EX
/-! The data layer A: one step of a reading. -/
namespace EX
open PySem PySem.Spec PyProof.Rows L2
section
variable {Γ : DEnv} {M : Mem} {D : DEnds}
theorem it {c : Prop} [Decidable c] {P Q : Prop} (h : c) (p : P) : if c then P else Q := by rw [if_pos h]; exact p
theorem ie {c : Prop} [Decidable c] {P Q : Prop} (h : ¬ c) (q : Q) : if c then P else Q := by rw [if_neg h]; exact q
theorem w_v {i : Nat} {d : Dat} {Φ : Dat → Mem → Prop} (e : Γ.sl[i]? = some (some d)) (h : Φ d M) : dVar i Γ M Φ := by unfold dVar; rw [e]; exact h
theorem w_c {d : Dat} {Φ : Dat → Mem → Prop} (h : Φ d M) : dC d Γ M Φ := h
theorem w_op {r : DOp} {ta tb : DTE} {Φ : Dat → Mem → Prop} (h : ta Γ M fun x M1 => tb Γ M1 fun y M2 => r x y M2 Φ) : dOp r ta tb Γ M Φ := h
theorem w_un {r : DUn} {ta : DTE} {Φ : Dat → Mem → Prop} (h : ta Γ M fun x M1 => r x M1 Φ) : dUn r ta Γ M Φ := h
theorem w_test {t : DTE} {Φ : Bool → Mem → Prop} (h : t Γ M (onB Φ)) : dTest t Γ M Φ := h
theorem w_not {t : DTT} {Φ : Bool → Mem → Prop} (h : t Γ M fun c M1 => Φ (!c) M1) : dNot t Γ M Φ := h
theorem w_and {t u : DTT} {Φ : Bool → Mem → Prop} (h : t Γ M fun c M1 => if c = true then u Γ M1 Φ else Φ false M1) : dAnd t u Γ M Φ := h
theorem w_or {t u : DTT} {Φ : Bool → Mem → Prop} (h : t Γ M fun c M1 => if c = true then Φ true M1 else u Γ M1 Φ) : dOr t u Γ M Φ := h
theorem w_andV {ta tb : DTE} {Φ : Dat → Mem → Prop} (h : ta Γ M (onB fun c M1 => if c = true then tb Γ M1 Φ else Φ (.bl false) M1)) : dAndV ta tb Γ M Φ := h
theorem w_notV {ta : DTE} {Φ : Dat → Mem → Prop} (h : ta Γ M (onB fun c M1 => Φ (.bl (!c)) M1)) : dNotV ta Γ M Φ := h
theorem w_onB {b : Bool} {Φ : Bool → Mem → Prop} (h : Φ b M) : onB Φ (.bl b) M := h
theorem w_if {c : DTT} {ta tb : DTE} {Φ : Dat → Mem → Prop} (h : c Γ M fun b M1 => if b = true then ta Γ M1 Φ else tb Γ M1 Φ) : dIf c ta tb Γ M Φ := h
theorem w_nil {Φ : List Dat → Mem → Prop} (h : Φ [] M) : dNil Γ M Φ := h
theorem w_cons {ta : DTE} {tr : DTA} {Φ : List Dat → Mem → Prop} (h : ta Γ M fun x M1 => tr Γ M1 fun xs M2 => Φ (x :: xs) M2) : dCons ta tr Γ M Φ := h
theorem w_tup {t : DTA} {Φ : Dat → Mem → Prop} (h : t Γ M fun ds M1 => ds.length ≤ sizeLine ∧ Φ (.tup ds) M1) : dTup t Γ M Φ := h
theorem w_lst {t : DTA} {Φ : Dat → Mem → Prop} (h : t Γ M fun ds M1 => ds.length ≤ sizeLine ∧ Φ (.lst ds) M1) : dLst t Γ M Φ := h
theorem w_lstO {t : DTA} {Φ : Dat → Mem → Prop} (h : t Γ M fun ds M1 => ds.length ≤ sizeLine ∧ ∀ p, M1 p = none → Φ (.loc p) (M1.put p (.lst ds))) : dLstO t Γ M Φ := h
theorem w_cb {r : DFn} {t : DTA} {Φ : Dat → Mem → Prop} (h : t Γ M fun ds M1 => r ds M1 Φ) : dCB r t Γ M Φ := h
theorem w_noPart {Φ : Option Int → Mem → Prop} (h : Φ none M) : dNoPart Γ M Φ := h
theorem w_part {t : DTE} {Φ : Option Int → Mem → Prop} (h : t Γ M (onI Φ)) : dPart t Γ M Φ := h
theorem w_onI {i : Int} {Φ : Option Int → Mem → Prop} (h : Φ (some i) M) : onI Φ (.int i) M := h
theorem w_sl {r : Dat → Option Int → Option Int → Mem → (Dat → Mem → Prop) → Prop} {te : DTE} {tl th : DTO} {Φ : Dat → Mem → Prop} (h : te Γ M fun x M1 => tl Γ M1 fun l M2 => th Γ M2 fun u M3 => r x l u M3 Φ) : dSl r te tl th Γ M Φ := h
theorem w_lc {src : DTI} {p : Pat} {tt : DTT} {te : DTE} {vs : List Nat} {Φ : Dat → Mem → Prop} (h : src Γ M fun items I M1 => dLcGo I p tt te (dwipe (noEx Γ) vs) items [] M1 fun ys M2 => Φ (.lst ys) M2) : dLc src p tt te vs Γ M Φ := h
theorem w_lcO {src : DTI} {p : Pat} {tt : DTT} {te : DTE} {vs : List Nat} {Φ : Dat → Mem → Prop} (h : src Γ M fun items I M1 => dLcGo I p tt te (dwipe (noEx Γ) vs) items [] M1 fun ys M2 => ∀ a, M2 a = none → M1 a = none → Φ (.loc a) (M2.put a (.lst ys))) : dLcO src p tt te vs Γ M Φ := h
theorem w_diList {t : DTE} {Φ : List Dat → (Mem → Prop) → Mem → Prop} (h : t Γ M fun d M1 => ∃ ds, vw M1 d = some ds ∧ Φ ds (keep d ds) M1) : diList t Γ M Φ := h
theorem w_diZip {t : DTA} {Φ : List Dat → (Mem → Prop) → Mem → Prop} (h : t Γ M fun ds M1 => ∃ x y xs ys, ds = [x, y] ∧ vw M1 x = some xs ∧ vw M1 y = some ys ∧ Φ (zipD xs ys) (fun M => keep x xs M ∧ keep y ys M) M1) : diZip t Γ M Φ := h
theorem w_diEnum {t : DTA} {Φ : List Dat → (Mem → Prop) → Mem → Prop} (h : t Γ M fun ds M1 => ∃ x xs, ds = [x] ∧ vw M1 x = some xs ∧ Φ (enumD xs) (keep x xs) M1) : diEnum t Γ M Φ := h
theorem w_diRng1 {t : DTA} {Φ : List Dat → (Mem → Prop) → Mem → Prop} (h : t Γ M fun ds M1 => ∃ j : Int, ds = [.int j] ∧ -(2 ^ 62) ≤ j ∧ j < 2 ^ 62 ∧ Φ (rngD 0 j.toNat) (fun _ => True) M1) : diRng1 t Γ M Φ := h
theorem w_seq {t u : DTS} (h : t { D with nx := fun Γ' M' => u D Γ' M' } Γ M) : dSeq t u D Γ M := h
theorem w_drop {te : DTE} (h : te Γ M fun _ M1 => D.nx Γ M1) : dDrop te D Γ M := h
theorem w_ret {te : DTE} (h : te Γ M D.rt) : dRet te D Γ M := h
theorem w_ifS {c : DTT} {t u : DTS} (h : c Γ M fun b M1 => if b = true then t D Γ M1 else u D Γ M1) : dIfS c t u D Γ M := h
theorem w_asg {te : DTE} {p : Pat} (h : te Γ M fun d M1 => ∃ Γ1, p.dg d Γ = some Γ1 ∧ D.nx Γ1 M1) : dAsg te p D Γ M := h
theorem w_set {te : DTE} {i : Nat} (h : te Γ M fun d M1 => D.nx (Γ.set i (some d)) M1) : dSet te i D Γ M := h
theorem w_par {i j : Nat} {ta : DTA} (h : ta Γ M fun ds M1 => ∃ d d', ds = [d, d'] ∧ D.nx ((Γ.set i (some d)).set j (some d')) M1) : dPar i j ta D Γ M := h
theorem w_for {src : DTI} {p : Pat} {tb : DTS} (h : src Γ M fun items I M1 => dForGo I p tb D items Γ M1) : dFor src p tb D Γ M := h
theorem w_next (h : D.nx Γ M) : dNext D Γ M := h
theorem w_mt {r : Dat → List Dat → Mem → (Dat → Mem → Prop) → Prop} {to : DTE} {ta : DTA} {Φ : Dat → Mem → Prop} (h : to Γ M fun x M1 => (∃ a ds, x = .loc a ∧ M1.l a = some ds) ∧ ta Γ M1 fun ds M2 => r x ds M2 Φ) : dMt r to ta Γ M Φ := h
theorem w_gt {i j : Int} {Φ : Dat → Mem → Prop} (h : Φ (.bl (decide (j < i))) M) : oGt (.int i) (.int j) M Φ := h
theorem w_lt {i j : Int} {Φ : Dat → Mem → Prop} (h : Φ (.bl (decide (i < j))) M) : oLt (.int i) (.int j) M Φ := h
theorem w_le {i j : Int} {Φ : Dat → Mem → Prop} (h : Φ (.bl (decide (i ≤ j))) M) : oLe (.int i) (.int j) M Φ := h
theorem w_ge {i j : Int} {Φ : Dat → Mem → Prop} (h : Φ (.bl (decide (j ≤ i))) M) : oGe (.int i) (.int j) M Φ := h
theorem w_addI {i j : Int} {Φ : Dat → Mem → Prop} (h : Φ (.int (i + j)) M) : oAdd (.int i) (.int j) M Φ := h
theorem w_subI {i j : Int} {Φ : Dat → Mem → Prop} (h : Φ (.int (i - j)) M) : oSub (.int i) (.int j) M Φ := h
theorem w_neg {i : Int} {Φ : Dat → Mem → Prop} (h : Φ (.int (-i)) M) : oNeg (.int i) M Φ := h
theorem w_abs {i : Int} {Φ : Dat → Mem → Prop} (h : Φ (.int (i.natAbs : Int)) M) : oAbs [.int i] M Φ := h
theorem w_int {i : Int} {Φ : Dat → Mem → Prop} (h : Φ (.int i) M) : oInt [.int i] M Φ := h
theorem w_intB {b : Bool} {Φ : Dat → Mem → Prop} (h : Φ (.int (if b then 1 else 0)) M) : oInt [.bl b] M Φ := h
theorem w_isN {x : Dat} {Φ : Dat → Mem → Prop} (h : Φ (.bl (isNon x)) M) : oIs false x .non M Φ := ⟨rfl, h⟩
theorem w_notN {x : Dat} {Φ : Dat → Mem → Prop} (h : Φ (.bl (!isNon x)) M) : oIs true x .non M Φ := ⟨rfl, h⟩
theorem w_yes {Φ : Bool → Mem → Prop} (h : Φ true M) : dYes Γ M Φ := h
theorem w_itt {P Q : Prop} {d : Decidable (true = true)} (p : P) : @ite Prop (true = true) d P Q := by rw [if_pos rfl]; exact p
theorem w_iff {P Q : Prop} {d : Decidable (false = true)} (q : Q) : @ite Prop (false = true) d P Q := by rw [if_neg Bool.false_ne_true]; exact q
theorem w_lz {t : DTA} {Φ : Dat → Mem → Prop} (h : t Γ M fun ds M1 => ∃ x y xs ys, ds = [x, y] ∧ vw M1 x = some xs ∧ vw M1 y = some ys ∧ Φ (.lst (zipD xs ys)) M1) : dLZ t Γ M Φ := h
theorem w_callK {r : DFnX} {n : Nat} {ord : List Nat} {ta : DTA} {Φ : Dat → Mem → Prop} (h : ta Γ M fun ds M1 => ds.length = n ∧ r (perm ord ds) M1 Φ (fun _ _ _ _ => False)) : dCallK r n ord ta Γ M Φ := h
theorem w_call {r : DFnX} {t : DTA} {Φ : Dat → Mem → Prop} (h : t Γ M fun ds M1 => r ds M1 Φ (exAt Γ)) : dCall r t Γ M Φ := h
theorem w_call0 {r : DFnX} {Φ : Dat → Mem → Prop} (h : r [] M Φ (fun _ _ _ _ => False)) : dCall0 r Γ M Φ := h
theorem w_chain {r r' : DOp} {ta tb tc : DTE} {Φ : Dat → Mem → Prop} (h : ta Γ M fun x M1 => tb Γ M1 fun y M2 => r x y M2 (onB fun k M3 => if k = true then tc Γ M3 fun z M4 => r' y z M4 Φ else Φ (.bl false) M3)) : dChain r r' ta tb tc Γ M Φ := h
theorem w_setIx {to ti te : DTE} (h : te Γ M fun v M1 => to Γ M1 fun o M2 => ti Γ M2 fun i M3 => ∃ a k ds j, o = .loc a ∧ i = .int k ∧ M3.l a = some ds ∧ ixN ds.length k = some j ∧ D.nx Γ (M3.put a (.lst (ds.set j v)))) : dSetIx to ti te D Γ M := h
theorem w_diTup {t : DTE} {Φ : List Dat → (Mem → Prop) → Mem → Prop} (h : t Γ M (onT fun ds M1 => Φ ds (fun _ => True) M1)) : diTup t Γ M Φ := h
theorem w_onT {ds : List Dat} {Φ : List Dat → Mem → Prop} (h : Φ ds M) : onT Φ (.tup ds) M := h
theorem w_vF {i : Nat} {a : Addr} {ds : List Dat} {Φ : Dat → Mem → Prop} (e : Γ.sl[i]? = some (some (.loc a))) (hm : M a = some (.lst ds)) (h : Φ (.lst ds) (M.del a)) : dVarF i Γ M Φ := ⟨a, ds, e, hm, h⟩
end
end EX
/-! The widened data layer B: callees, instances: fields, methods, making. -/
namespace EX
open PySem PySem.Spec PyProof.Rows L2

/-! ### callees -/
/-- the def at f, called with positional arguments alone: what it promises of them -/
structure Cal (P : Program) (w : World) (K : Kx) (base : Heap) (k : Nat) (f : Addr) (sp : DFnX) : Prop where
  ex : ∃ (k' : Nat) (fd : FuncData) (ps : List Str) (ds : List Value) (dvs : List V) (dd : List Dat) (sp0 : DFnX), k' ≤ k ∧ FnOk P w K.K K.mg base (L2.CX P w) k' f fd ps (spX K sp0) ∧ Binds K.K fd ps ds ∧ Vals dvs ds ∧ (∀ G, DPs K G dvs dd) ∧
    ∀ as M Φ Ψ, sp as M Φ Ψ → sp0 (as ++ dd) M Φ Ψ
/-- .. with n positional arguments and keywords named ks: what it promises of the values in the call's order -/
structure KCal (P : Program) (w : World) (K : Kx) (base : Heap) (k : Nat) (f : Addr) (n : Nat) (ks : List Str) (sp : DFnX) : Prop where
  ex : ∃ (k' : Nat) (fd : FuncData) (ps : List Str) (g : List Value → List Value → List Value) (gV : List V → List V → List V) (sp0 : DFnX), k' ≤ k ∧ FnOk P w K.K K.mg base (L2.CX P w) k' f fd ps (spX K sp0) ∧ KBn K.K fd ps n ks g gV ∧
    ∀ G vs zs as bs, DPs K G vs as → DPs K G zs bs → as.length = n → bs.length = ks.length → ∃ cs, DPs K G (gV vs zs) cs ∧ ∀ M Φ Ψ, sp (as ++ bs) M Φ Ψ → sp0 cs M Φ Ψ
theorem spX.mono {K : Kx} {t : DFnX} {vs : List V} {H : Hp} {Q Q' : VK} {E E' : XK} (h : spX K t vs H Q E) (hQ : ∀ v H, Q v H → Q' v H) (hE : ∀ c d H, E c d H → E' c d H) : spX K t vs H Q' E' := by
  obtain ⟨G, M, ds, Φ, Ψ, e, m, rs, q, kk, kx⟩ := h
  exact ⟨G, M, ds, Φ, Ψ, e, m, rs, q, fun v d G' H' M' a b c => hQ _ _ (kk v d G' H' M' a b c), fun c ns fs C da G' H' M' a b d e => hE _ _ _ (kx c ns fs C da G' H' M' a b d e)⟩
section
variable {X : Cx} {W : WX} {k n : Nat} {f : Addr} {sp : DFnX} {ks : List Str}
theorem run_cal {pins : List (Addr × Obj)} {σ : L2.St} {H : Hp} {s : Shared} {Q : VK} {us : List Value} {vs : List V} (c : Cal X.prog X.w (kx X) X.base k f sp) (hr : Room k X.A) (tk : Takes X W) (I : Inv X pins σ H s) (r : Vals vs us) (h : spX (kx X) sp vs H Q (WE W σ)) :
    wpAny (model X.prog X.w) X.A (call (.ref f) us) (EP X pins σ Q) X.xe s := by
  obtain ⟨k', fd, ps, ds, dvs, dd, sp0, hk, F, hb, hd, hdd, himp⟩ := c.ex
  refine run_inSD (E := WE W) F (hr.mono hk) hb hd (passAt tk σ) I r ?_
  obtain ⟨G, M, as, Φ, Ψ, e, m, rs, q, kk, kx⟩ := h
  exact ⟨G, M, as ++ dd, Φ, Ψ, e, m, rs.app (hdd G), himp _ _ _ _ q, kk, kx⟩
theorem run_kcal {pins : List (Addr × Obj)} {σ : L2.St} {H : Hp} {s : Shared} {Q : VK} {us ws : List Value} {vs zs : List V} (c : KCal X.prog X.w (kx X) X.base k f n ks sp) (hr : Room k X.A) (tk : Takes X W) (I : Inv X pins σ H s) (r : Vals vs us) (rz : Vals zs ws)
    (h : ∃ G M as bs Φ Ψ, Ex G H ∧ MemOk (kx X) G H M ∧ DPs (kx X) G vs as ∧ DPs (kx X) G zs bs ∧ as.length = n ∧ bs.length = ks.length ∧ sp (as ++ bs) M Φ Ψ ∧ (∀ v d G' H' M', Stp (kx X) G H M G' H' M' → DP (kx X) G' v d → Φ d M' → Q v H') ∧
      ∀ c ns fs C da G' H' M', Stp (kx X) G H M G' H' M' → X.mg c = some (.ref C) → ExD (kx X) G' da ns fs → Ψ c ns fs M' → WE W σ (.ref C) da H') :
    wpAny (model X.prog X.w) X.A (call (.ref f) us (ks.zip ws)) (EP X pins σ Q) X.xe s := by
  obtain ⟨k', fd, ps, g, gV, sp0, hk, F, hb, himp⟩ := c.ex
  obtain ⟨G, M, as, bs, Φ, Ψ, e, m, ra, rb, la, lb, q, kk, kx'⟩ := h
  obtain ⟨cs, rc, q'⟩ := himp G vs zs as bs ra rb la lb
  have l1 : us.length = n := r.length.symm.trans (ra.len.trans la)
  have l2 : ws.length = ks.length := rz.length.symm.trans (rb.len.trans lb)
  have hsp : spX (kx X) sp0 (gV vs zs) H Q (WE W σ) := ⟨G, M, cs, Φ, Ψ, e, m, rc, q' M Φ Ψ q, kk, kx'⟩
  refine wpAny_call (codeAny_mono (F.run X.A X.stack s H _ (g us ws) _ Q (WE W σ) (hr.mono hk) I.env0 (hb.to s us ws I.kIn l1 l2) (hb.rel r rz) hsp) fun out s' z => ?_)
  cases out with
  | error er => exact passAt tk σ pins H s er s' I z
  | ok fl =>
    cases fl with
    | ret u => exact I.after z
    | next => exact z.elim
    | brk => exact z.elim
    | cont => exact z.elim
end

/-! ### a reading run -/
section
variable {X : Cx} {W : WX}
theorem runD {e : Expr} {t : DTE} (h : PE X e (LE (kx X) W t)) {pins : List (Addr × Obj)} {s : Shared} {σ : L2.St} {H G : Hp} {Γ : DEnv} {M : Mem} {R : Dat → Mem → Prop} (I : Inv X pins σ H s) (ex : Ex G H) (sl : Sl (kx X) W G H M σ Γ) (mo : MemOk (kx X) G H M) (q : t Γ M R) :
    wpAny (model X.prog X.w) X.A (eval e X.env) (fun u s1 => ∃ x d G1 H1 M1, Inv X pins σ H1 s1 ∧ RelV x u ∧ Stp (kx X) G H M G1 H1 M1 ∧ DP (kx X) G1 x d ∧ R d M1) X.xe s :=
  thn (h.run pins s σ H (fun x H1 => ∃ d G1 M1, Stp (kx X) G H M G1 H1 M1 ∧ DP (kx X) G1 x d ∧ R d M1) I ⟨Γ, G, M, R, ex, sl, mo, q, fun v d G' H' M' t r z => ⟨d, G', M', t, r, z⟩⟩) fun u s1 hu => by
    obtain ⟨x, H1, I1, rx, d, G1, M1, t1, r1, q1⟩ := hu
    exact ⟨x, d, G1, H1, M1, I1, rx, t1, r1, q1⟩
theorem runA {es : List Expr} {t : DTA} (h : PA X es (LA (kx X) W t)) (pos : Pos) {pins : List (Addr × Obj)} {s : Shared} {σ : L2.St} {H G : Hp} {Γ : DEnv} {M : Mem} {R : List Dat → Mem → Prop} (I : Inv X pins σ H s) (ex : Ex G H) (sl : Sl (kx X) W G H M σ Γ) (mo : MemOk (kx X) G H M) (q : t Γ M R) :
    wpAny (model X.prog X.w) X.A (spliced (backTo pos (starEach es X.env))) (fun us s1 => ∃ xs ds G1 H1 M1, Inv X pins σ H1 s1 ∧ Vals xs us ∧ Stp (kx X) G H M G1 H1 M1 ∧ DPs (kx X) G1 xs ds ∧ R ds M1) X.xe s :=
  thn (h.run pos pins s σ H (fun xs H1 => ∃ ds G1 M1, Stp (kx X) G H M G1 H1 M1 ∧ DPs (kx X) G1 xs ds ∧ R ds M1) I ⟨Γ, G, M, R, ex, sl, mo, q, fun v d G' H' M' t r z => ⟨d, G', M', t, r, z⟩⟩) fun u s1 hu => by
    obtain ⟨x, H1, I1, rx, d, G1, M1, t1, r1, q1⟩ := hu
    exact ⟨x, d, G1, H1, M1, I1, rx, t1, r1, q1⟩
/-- the keywords' values -/
theorem runK {kws : List Keyword} {t : DTA} (h : PK X kws (LA (kx X) W t)) (pos : Pos) {pins : List (Addr × Obj)} {s : Shared} {σ : L2.St} {H G : Hp} {Γ : DEnv} {M : Mem} {R : List Dat → Mem → Prop} (I : Inv X pins σ H s) (ex : Ex G H) (sl : Sl (kx X) W G H M σ Γ) (mo : MemOk (kx X) G H M) (q : t Γ M R) :
    wpAny (model X.prog X.w) X.A (evalAll ((backToKw pos (keywordEach kws X.env)).map (·.2))) (fun us s1 => ∃ xs ds G1 H1 M1, Inv X pins σ H1 s1 ∧ Vals xs us ∧ Stp (kx X) G H M G1 H1 M1 ∧ DPs (kx X) G1 xs ds ∧ R ds M1) X.xe s :=
  thn (h.run pos pins s σ H (fun xs H1 => ∃ ds G1 M1, Stp (kx X) G H M G1 H1 M1 ∧ DPs (kx X) G1 xs ds ∧ R ds M1) I ⟨Γ, G, M, R, ex, sl, mo, q, fun v d G' H' M' t r z => ⟨d, G', M', t, r, z⟩⟩) fun u s1 hu => by
    obtain ⟨x, H1, I1, rx, d, G1, M1, t1, r1, q1⟩ := hu
    exact ⟨x, d, G1, H1, M1, I1, rx, t1, r1, q1⟩
end
/-! ### instances -/
/-- an instance: its class, the names of its attributes, what they hold -/
def insAt (M : Mem) : Dat → Option (Str × List Str × List Dat)
  | .ins c ns ds => some (c, ns, ds)
  | .loc a => match M a with
    | some (.ins c ns ds) => some (c, ns, ds)
    | _ => none
  | _ => none
theorem ins_at {K : Kx} {G H : Hp} {M : Mem} {v : V} {d : Dat} {c : Str} {ns : List Str} {ds : List Dat} (e : Ex G H) (m : MemOk K G H M) (r : DP K G v d) (h : insAt M d = some (c, ns, ds)) :
    ∃ a C dx xs, v = .ref a ∧ K.mg c = some (.ref C) ∧ InsF K.K C ∧ H a = some (.ins C dx (ns.zip xs)) ∧ ns.length = xs.length ∧ DPs K G xs ds := by
  cases r with
  | ins h1 hf h2 h3 h4 => cases h; exact ⟨_, _, _, _, rfl, h1, hf, e _ _ h2, h3, h4⟩
  | loc a =>
    have h' : (match M a with
      | some (.ins c ns ds) => some (c, ns, ds)
      | _ => none) = some (c, ns, ds) := h
    split at h'
    · rename_i q
      cases h'
      obtain ⟨_, C, dx, xs, h1, hf, h2, h3, h4⟩ := m a _ q
      exact ⟨a, C, dx, xs, rfl, h1, hf, h2, h3, h4⟩
    · cases h'
  | _ => cases h
/-- the place of an attribute -/
def fldIx (f : Str) : List Str → Option Nat
  | [] => none
  | n :: r => if n = f then some 0 else (fldIx f r).map (· + 1)
theorem fld_look {α : Type} {f : Str} : ∀ {ns : List Str} {xs : List α} {i : Nat} {v : α}, fldIx f ns = some i → xs[i]? = some v → (ns.zip xs).lookup f = some v
  | [], _, _, _, h, _ => by cases h
  | n :: ns, [], i, v, _, h => by simp at h
  | n :: ns, x :: xs, i, v, h, hv => by
    unfold fldIx at h
    show List.lookup f ((n, x) :: ns.zip xs) = some v
    rw [List.lookup_cons]
    by_cases e : n = f
    · rw [if_pos e] at h
      cases h
      rw [e, beq_self_eq_true]
      simpa using hv
    · rw [if_neg e] at h
      have e' : (f == n) = false := beq_eq_false_iff_ne.mpr (Ne.symm e)
      rw [e']
      cases q : fldIx f ns with
      | none => rw [q] at h; cases h
      | some j =>
        rw [q] at h
        have hi : j + 1 = i := Option.some.inj h
        subst hi
        exact fld_look q (by simpa using hv)
theorem fld_none {α : Type} {f : Str} : ∀ {ns : List Str} {xs : List α}, fldIx f ns = none → (ns.zip xs).lookup f = none
  | [], _, _ => rfl
  | n :: ns, [], _ => rfl
  | n :: ns, x :: xs, h => by
    unfold fldIx at h
    show List.lookup f ((n, x) :: ns.zip xs) = none
    rw [List.lookup_cons]
    by_cases e : n = f
    · rw [if_pos e] at h; cases h
    · rw [if_neg e] at h
      have e' : (f == n) = false := beq_eq_false_iff_ne.mpr (Ne.symm e)
      rw [e']
      exact fld_none (by simpa using h)
def putN (f : Str) : List Str → List Str
  | [] => [f]
  | n :: ns => if n = f then n :: ns else n :: putN f ns
def putX {α : Type} (f : Str) (y : α) : List Str → List α → List α
  | [], _ => [y]
  | n :: ns, x :: xs => if n = f then y :: xs else x :: putX f y ns xs
  | _ :: _, [] => [y]
theorem putF_zip {f : Str} {y : V} : ∀ {ns : List Str} {xs : List V}, ns.length = xs.length → putF f y (ns.zip xs) = (putN f ns).zip (putX f y ns xs) ∧ (putN f ns).length = (putX f y ns xs).length
  | [], [], _ => ⟨rfl, rfl⟩
  | [], _ :: _, h => by cases h
  | _ :: _, [], h => by cases h
  | n :: ns, x :: xs, h => by
    have ih := putF_zip (f := f) (y := y) (ns := ns) (xs := xs) (Nat.succ.inj h)
    show (if n = f then (n, y) :: ns.zip xs else (n, x) :: putF f y (ns.zip xs)) = (if n = f then n :: ns else n :: putN f ns).zip (if n = f then y :: xs else x :: putX f y ns xs) ∧ (if n = f then n :: ns else n :: putN f ns).length = (if n = f then y :: xs else x :: putX f y ns xs).length
    by_cases e : n = f
    · rw [if_pos e, if_pos e, if_pos e]
      exact ⟨rfl, h⟩
    · rw [if_neg e, if_neg e, if_neg e, ih.1]
      exact ⟨rfl, congrArg (· + 1) ih.2⟩
theorem DPs.putX {K : Kx} {G : Hp} {f : Str} {v : V} {d : Dat} (h : DP K G v d) : ∀ {ns : List Str} {xs : List V} {ds : List Dat}, DPs K G xs ds → DPs K G (putX f v ns xs) (putX f d ns ds)
  | [], _, _, _ => .cons h .nil
  | n :: ns, _, _, .nil => .cons h .nil
  | n :: ns, _, _, .cons r1 r2 => by
    show DPs K G (if n = f then v :: _ else _ :: EX.putX f v ns _) (if n = f then d :: _ else _ :: EX.putX f d ns _)
    by_cases e : n = f
    · rw [if_pos e, if_pos e]; exact .cons h r2
    · rw [if_neg e, if_neg e]; exact .cons r1 (DPs.putX h r2)

/-- of a class by name: f is an attribute of its instances alone -/
structure FldOk (K : Kx) (c f : Str) : Prop where
  ex : ∃ C, K.mg c = some (.ref C) ∧ Cls K.K C ∧ NoAttr K.K C f
inductive Flds (K : Kx) (f : Str) : List Str → Prop
  | nil : Flds K f []
  | cons {c : Str} {cs : List Str} : FldOk K c f → Flds K f cs → Flds K f (c :: cs)
theorem Flds.at {K : Kx} {f c : Str} : ∀ {cs : List Str}, Flds K f cs → c ∈ cs → FldOk K c f
  | _, .cons h r, m => by
    rcases List.mem_cons.mp m with e | m
    · rw [e]; exact h
    · exact r.at m
section
variable {X : Cx} {W : WX} {pos : Pos} {o e : Expr} {to te : DTE} {f : Str} {cs : List Str}
/-- e.f -/
def dFld (cs : List Str) (f : Str) (to : DTE) : DTE := fun Γ M Φ => to Γ M fun d M1 => ∃ c ns ds i v, insAt M1 d = some (c, ns, ds) ∧ c ∈ cs ∧ fldIx f ns = some i ∧ ds[i]? = some v ∧ Φ v M1
theorem wk_fld {K : Kx} {W : WX} (T : Flds K f cs) : ∀ σ H Q, LE K W (dFld cs f to) σ H Q → tFld K.K (LE K W to) f σ H Q := fun σ H Q ⟨Γ, G, M, Φ, e, s, m, h, k⟩ =>
  ⟨Γ, G, M, _, e, s, m, h, fun x dx G1 H1 M1 t1 rx ⟨c, ns, ds, i, v, hi, hc, hf, hv, h1⟩ => by
    obtain ⟨C, hC, cl, na⟩ := (T.at hc).ex
    obtain ⟨a, C', dx, xs, rfl, hC', _, ha, hl, hr⟩ := ins_at t1.ex' t1.mem rx hi
    have eC : C' = C := Value.ref.inj (Option.some.inj (hC'.symm.trans hC))
    subst eC
    obtain ⟨u, hu, ru⟩ := hr.get hv
    exact ⟨a, C', dx, ns.zip xs, u, rfl, ha, cl, na, fld_look hf hu, k u v G1 H1 M1 t1 ru h1⟩⟩
theorem de_fld (T : Flds (kx X) f cs) (he : PE X e (LE (kx X) W te)) (hb : attributeBase e f X.env (eval e X.env) = eval e X.env := by rfl) : PE X (.Attribute e f pos) (LE (kx X) W (dFld cs f te)) := pe_wk (pe_fld he hb) (wk_fld (K := kx X) T)
/-- e.f = value -/
def dSetF (cs : List Str) (f : Str) (to te : DTE) : DTS := fun D Γ M => te Γ M fun v M1 => to Γ M1 fun o M2 => ∃ a c ns ds, o = .loc a ∧ M2 a = some (.ins c ns ds) ∧ c ∈ cs ∧ ns.length < 1000 ∧ D.nx Γ (M2.put a (.ins c (putN f ns) (putX f v ns ds)))
theorem Stp.putF {K : Kx} {G H : Hp} {M : Mem} {a : Addr} {c f : Str} {ns : List Str} {ds : List Dat} {v : V} {d : Dat} (e : Ex G H) (m : MemOk K G H M) (hm : M a = some (.ins c ns ds)) (r : DP K G v d) :
    ∃ C dx xs, K.mg c = some (.ref C) ∧ H a = some (.ins C dx (ns.zip xs)) ∧ ns.length = xs.length ∧ Stp K G H M G (upd H a (.ins C dx (L2.putF f v (ns.zip xs)))) (M.put a (.ins c (putN f ns) (EX.putX f d ns ds))) := by
  obtain ⟨g0, C, dx, xs, h1, hf, h2, h3, h4⟩ := m a _ hm
  have z := putF_zip (f := f) (y := v) h3
  exact ⟨C, dx, xs, h1, h2, h3, Stp.writeC e m hm ⟨C, dx, EX.putX f v ns xs, h1, hf, by rw [upd_same, z.1], z.2, h4.putX r⟩⟩
theorem ds_setF {pos' : Pos} (T : Flds (kx X) f cs) (ho : PE X o (LE (kx X) W to)) (hv : PE X e (LE (kx X) W te)) (hs : swapsWith e (some (.Attribute o f pos')) pos.line X.env = pure false := by rfl) :
    PS X (.Assign [.Attribute o f pos'] e pos) (LS (kx X) W (dSetF cs f to te)) := ps_wk (ps_fld ho hv hs) fun D σ H h => by
  obtain ⟨Γ, G, M, DD, e, s, m, h, k⟩ := h.get
  refine ⟨Γ, G, M, _, e, s, m, h, fun v d G1 H1 M1 t1 rv q => ⟨Γ, G1, M1, _, t1.ex', s.step t1, t1.mem, q, fun o d2 G2 H2 M2 t2 ro q => ?_⟩⟩
  obtain ⟨a, c, ns, ds, rfl, hm, hc, hz, q⟩ := q
  cases ro
  obtain ⟨C, hC, cl, na⟩ := (T.at hc).ex
  obtain ⟨C', dx, xs, h1, h2, h3, tw⟩ := Stp.putF (f := f) t2.ex' t2.mem hm (rv.mono t2.ex)
  have eC : C' = C := Value.ref.inj (Option.some.inj (h1.symm.trans hC))
  subst eC
  refine ⟨a, C', dx, ns.zip xs, rfl, h2, cl, na, by rw [List.length_zip]; omega, ?_⟩
  have t := (t1.trans t2).trans tw
  exact k.nx σ Γ G2 _ _ t (s.step t) q
end

/-! ### methods -/
/-- the class named c has the method m, a def that promises sp -/
structure MetOk (P : Program) (w : World) (K : Kx) (base : Heap) (k : Nat) (m c : Str) (sp : DFnX) : Prop where
  ex : ∃ C f, K.mg c = some (.ref C) ∧ Cls K.K C ∧ Meth K.K C m f ∧ Cal P w K base k f sp
inductive Mets (P : Program) (w : World) (K : Kx) (base : Heap) (k : Nat) (m : Str) : List (Str × DFnX) → Prop
  | nil : Mets P w K base k m []
  | cons {c : Str} {sp : DFnX} {r : List (Str × DFnX)} : MetOk P w K base k m c sp → Mets P w K base k m r → Mets P w K base k m ((c, sp) :: r)
theorem Mets.at {P : Program} {w : World} {K : Kx} {base : Heap} {k : Nat} {m c : Str} {sp : DFnX} : ∀ {r : List (Str × DFnX)}, Mets P w K base k m r → (c, sp) ∈ r → MetOk P w K base k m c sp
  | _, .cons h r, q => by
    rcases List.mem_cons.mp q with e | q
    · cases e; exact h
    · exact r.at q
section
variable {X : Cx} {W : WX} {k : Nat} {m : Str} {tab : List (Str × DFnX)} {o e : Expr} {es : List Expr} {to : DTE} {ta : DTA} {pos apos : Pos} {pl : Sem Bool}
/-- o.m(..) -/
def dMeth (tab : List (Str × DFnX)) (m : Str) (to : DTE) (ta : DTA) : DTE := fun Γ M Φ => to Γ M fun o M1 => ∃ c ns fs sp, insAt M1 o = some (c, ns, fs) ∧ (c, sp) ∈ tab ∧ fldIx m ns = none ∧ ta Γ M1 fun ds M2 => sp (o :: ds) M2 Φ (exAt Γ)
theorem de_meth (tk : Takes X W) (T : Mets X.prog X.w (kx X) X.base k m tab) (hr : Room k X.A) (ho : PE X o (LE (kx X) W to)) (ha : PA X (e :: es) (LA (kx X) W ta))
    (hst : starEach (e :: es) X.env = (false, eval e X.env) :: starEach es X.env := by rfl) (hpl : (backTo pos (starEach es X.env)).any (·.1) = false := by rfl)
    (ht : eval (.Call (.Attribute o m apos) (e :: es) [] pos) X.env = (do
      let ov ← eval o X.env
      standAt apos.atName
      let (f, first) ← holding [ov] (getMethod ov m pl)
      callWith pos f first (backTo pos (starEach (e :: es) X.env)) (backToKw pos (keywordEach [] X.env))) := by rfl) :
    PE X (.Call (.Attribute o m apos) (e :: es) [] pos) (LE (kx X) W (dMeth tab m to ta)) := by
  refine ⟨fun pins s σ H Q I ⟨Γ, G, M, Φ, ex, sl, mo, h, kk⟩ => ?_⟩
  refine PySem.W.methodCall_KW (pl := pl) (thn (runD ho I ex sl mo h) fun u s1 hu => ?_) ht
  obtain ⟨x, d, G1, H1, M1, I1, rx, t1, rd, c, ns, fs, sp, hi, htab, hn, h1⟩ := hu
  obtain ⟨C, f, hC, cl, mt, ca⟩ := (T.at htab).ex
  obtain ⟨a, C', dx, xs, rfl, hC', _, hH, hl, hr'⟩ := ins_at t1.ex' t1.mem rd hi
  have eC : C' = C := Value.ref.inj (Option.some.inj (hC'.symm.trans hC))
  subst eC
  obtain rfl : u = Value.ref a := rx
  refine getmeth_ok I1 hH cl mt (fld_none hn) ?_
  refine PySem.W.callWith_K (h₀ := X.base) (first := [.ref a]) I1.ok.mod.kin mt.kp (thn (runA ha pos I1 t1.ex' (sl.step t1) t1.mem h1) fun us s2 hv => ?_) hst hpl
  obtain ⟨ys, ds, G2, H2, M2, I2, rv, t2, ry, h2⟩ := hv
  exact ⟨I2.kIn, run_cal (W := W) (vs := .ref a :: ys) ca hr tk I2 (.cons (show RelV (.ref a) (.ref a) from rfl) rv) ⟨G2, M2, d :: ds, Φ, exAt Γ, t2.ex', t2.mem, .cons (rd.mono t2.ex) ry, h2, fun v d' G3 H3 M3 t3 r3 q => kk v d' G3 H3 M3 ((t1.trans t2).trans t3) r3 q, fun c' ns' fs' C3 da G3 H3 M3 t3 h3 h4 q => sl.raise ((t1.trans t2).trans t3) h3 h4 q⟩⟩
theorem de_meth0 (tk : Takes X W) (T : Mets X.prog X.w (kx X) X.base k m tab) (hr : Room k X.A) (ho : PE X o (LE (kx X) W to))
    (ht : eval (.Call (.Attribute o m apos) [] [] pos) X.env = (do
      let ov ← eval o X.env
      standAt apos.atName
      let (f, first) ← holding [ov] (getMethod ov m pl)
      callWith pos f first (backTo pos (starEach [] X.env)) (backToKw pos (keywordEach [] X.env))) := by rfl) :
    PE X (.Call (.Attribute o m apos) [] [] pos) (LE (kx X) W (dMeth tab m to dNil)) := by
  refine ⟨fun pins s σ H Q I ⟨Γ, G, M, Φ, ex, sl, mo, h, kk⟩ => ?_⟩
  refine PySem.W.methodCall_KW (pl := pl) (thn (runD ho I ex sl mo h) fun u s1 hu => ?_) ht
  obtain ⟨x, d, G1, H1, M1, I1, rx, t1, rd, c, ns, fs, sp, hi, htab, hn, h1⟩ := hu
  obtain ⟨C, f, hC, cl, mt, ca⟩ := (T.at htab).ex
  obtain ⟨a, C', dx, xs, rfl, hC', _, hH, hl, hr'⟩ := ins_at t1.ex' t1.mem rd hi
  have eC : C' = C := Value.ref.inj (Option.some.inj (hC'.symm.trans hC))
  subst eC
  obtain rfl : u = Value.ref a := rx
  refine getmeth_ok I1 hH cl mt (fld_none hn) ?_
  exact PySem.W.callWith_K0 (first := [.ref a]) I1.kIn mt.kp (run_cal (W := W) (vs := [.ref a]) ca hr tk I1 (.cons (show RelV (.ref a) (.ref a) from rfl) .nil) ⟨G1, M1, [d], Φ, exAt Γ, t1.ex', t1.mem, .cons rd .nil, h1, fun v d' G3 H3 M3 t3 r3 q => kk v d' G3 H3 M3 (t1.trans t3) r3 q, fun c' ns' fs' C3 da G3 H3 M3 t3 h3 h4 q => sl.raise (t1.trans t3) h3 h4 q⟩)
end
end EX
/-! The widened data layer C: keywords, making, properties, own operators. -/
namespace EX
open PySem PySem.Spec PyProof.Rows L2

section
variable {X : Cx} {W : WX} {k : Nat} {m c : Str} {o e : Expr} {es : List Expr} {to te : DTE} {ta tk' : DTA} {pos apos : Pos} {pl : Sem Bool} {kws : List Keyword} {ks : List Str} {n : Nat}
/-! ### o.m(.., k = v) -/
structure MetKOk (P : Program) (w : World) (K : Kx) (base : Heap) (k : Nat) (m c : Str) (n : Nat) (ks : List Str) (sp : DFnX) : Prop where
  ex : ∃ C f, K.mg c = some (.ref C) ∧ Cls K.K C ∧ Meth K.K C m f ∧ KCal P w K base k f (n + 1) ks sp
inductive MetKs (P : Program) (w : World) (K : Kx) (base : Heap) (k : Nat) (m : Str) (n : Nat) (ks : List Str) : List (Str × DFnX) → Prop
  | nil : MetKs P w K base k m n ks []
  | cons {c : Str} {sp : DFnX} {r : List (Str × DFnX)} : MetKOk P w K base k m c n ks sp → MetKs P w K base k m n ks r → MetKs P w K base k m n ks ((c, sp) :: r)
theorem MetKs.at {P : Program} {w : World} {K : Kx} {base : Heap} {k : Nat} {m c : Str} {n : Nat} {ks : List Str} {sp : DFnX} : ∀ {r : List (Str × DFnX)}, MetKs P w K base k m n ks r → (c, sp) ∈ r → MetKOk P w K base k m c n ks sp
  | _, .cons h r, q => by
    rcases List.mem_cons.mp q with e | q
    · cases e; exact h
    · exact r.at q
def dMethK (tab : List (Str × DFnX)) (m : Str) (n nk : Nat) (to : DTE) (ta tk : DTA) : DTE := fun Γ M Φ => to Γ M fun o M1 => ∃ c ns fs sp, insAt M1 o = some (c, ns, fs) ∧ (c, sp) ∈ tab ∧ fldIx m ns = none ∧
  ta Γ M1 fun ds M2 => tk Γ M2 fun bs M3 => ds.length = n ∧ bs.length = nk ∧ sp (o :: ds ++ bs) M3 Φ (exAt Γ)
variable {tab : List (Str × DFnX)}
theorem de_methK0 (tk : Takes X W) (T : MetKs X.prog X.w (kx X) X.base k m 0 ks tab) (hr : Room k X.A) (ho : PE X o (LE (kx X) W to)) (hkw : PK X kws (LA (kx X) W tk'))
    (hall : (backToKw pos (keywordEach kws X.env)).all (·.1.isSome) = true := by rfl) (hks : (backToKw pos (keywordEach kws X.env)).filterMap (·.1) = ks := by rfl)
    (hpl : ((backTo pos (starEach [] X.env)).any (·.1) || (backToKw pos (keywordEach kws X.env)).any (·.1.isNone)) = false := by rfl)
    (ht : eval (.Call (.Attribute o m apos) [] kws pos) X.env = (do
      let ov ← eval o X.env
      standAt apos.atName
      let (f, first) ← holding [ov] (getMethod ov m pl)
      callWith pos f first (backTo pos (starEach [] X.env)) (backToKw pos (keywordEach kws X.env))) := by rfl) :
    PE X (.Call (.Attribute o m apos) [] kws pos) (LE (kx X) W (dMethK tab m 0 ks.length to dNil tk')) := by
  refine ⟨fun pins s σ H Q I ⟨Γ, G, M, Φ, ex, sl, mo, h, kk⟩ => ?_⟩
  refine PySem.W.methodCall_KW (pl := pl) (thn (runD ho I ex sl mo h) fun u s1 hu => ?_) ht
  obtain ⟨x, d, G1, H1, M1, I1, rx, t1, rd, c, ns, fs, sp, hi, htab, hn, h1⟩ := hu
  obtain ⟨C, f, hC, cl, mt, ca⟩ := (T.at htab).ex
  obtain ⟨a, C', dx, xs, rfl, hC', _, hH, hl, hr'⟩ := ins_at t1.ex' t1.mem rd hi
  have eC : C' = C := Value.ref.inj (Option.some.inj (hC'.symm.trans hC))
  subst eC
  obtain rfl : u = Value.ref a := rx
  refine getmeth_ok I1 hH cl mt (fld_none hn) ?_
  refine PySem.W.callWith_KW0 (h₀ := X.base) (first := [.ref a]) I1.ok.mod.kin mt.kp hall (thn (runK hkw pos I1 t1.ex' (sl.step t1) t1.mem h1) fun us s2 hv => ?_) hpl
  obtain ⟨ys, bs, G2, H2, M2, I2, rv, t2, ry, l1, l2, h2⟩ := hv
  rw [hks]
  exact ⟨I2.kIn, run_kcal (W := W) (vs := [.ref a]) ca hr tk I2 (.cons (show RelV (.ref a) (.ref a) from rfl) .nil) rv ⟨G2, M2, [d], bs, Φ, exAt Γ, t2.ex', t2.mem, .cons (rd.mono t2.ex) .nil, ry, rfl, l2, h2, fun v d' G3 H3 M3 t3 r3 q => kk v d' G3 H3 M3 ((t1.trans t2).trans t3) r3 q,
    fun c' ns' fs' C3 da G3 H3 M3 t3 h3 h4 q => sl.raise ((t1.trans t2).trans t3) h3 h4 q⟩⟩
theorem de_methK (tk : Takes X W) (T : MetKs X.prog X.w (kx X) X.base k m n ks tab) (hr : Room k X.A) (ho : PE X o (LE (kx X) W to)) (ha : PA X (e :: es) (LA (kx X) W ta)) (hkw : PK X kws (LA (kx X) W tk'))
    (hall : (backToKw pos (keywordEach kws X.env)).all (·.1.isSome) = true := by rfl) (hks : (backToKw pos (keywordEach kws X.env)).filterMap (·.1) = ks := by rfl)
    (hst : starEach (e :: es) X.env = (false, eval e X.env) :: starEach es X.env := by rfl)
    (hpl : ((backTo pos (starEach (e :: es) X.env)).any (·.1) || (backToKw pos (keywordEach kws X.env)).any (·.1.isNone)) = false := by rfl)
    (ht : eval (.Call (.Attribute o m apos) (e :: es) kws pos) X.env = (do
      let ov ← eval o X.env
      standAt apos.atName
      let (f, first) ← holding [ov] (getMethod ov m pl)
      callWith pos f first (backTo pos (starEach (e :: es) X.env)) (backToKw pos (keywordEach kws X.env))) := by rfl) :
    PE X (.Call (.Attribute o m apos) (e :: es) kws pos) (LE (kx X) W (dMethK tab m n ks.length to ta tk')) := by
  refine ⟨fun pins s σ H Q I ⟨Γ, G, M, Φ, ex, sl, mo, h, kk⟩ => ?_⟩
  refine PySem.W.methodCall_KW (pl := pl) (thn (runD ho I ex sl mo h) fun u s1 hu => ?_) ht
  obtain ⟨x, d, G1, H1, M1, I1, rx, t1, rd, c, ns, fs, sp, hi, htab, hn, h1⟩ := hu
  obtain ⟨C, f, hC, cl, mt, ca⟩ := (T.at htab).ex
  obtain ⟨a, C', dx, xs, rfl, hC', _, hH, hl, hr'⟩ := ins_at t1.ex' t1.mem rd hi
  have eC : C' = C := Value.ref.inj (Option.some.inj (hC'.symm.trans hC))
  subst eC
  obtain rfl : u = Value.ref a := rx
  refine getmeth_ok I1 hH cl mt (fld_none hn) ?_
  refine PySem.W.callWith_KW (h₀ := X.base) (first := [.ref a]) I1.ok.mod.kin mt.kp hall (thn (runA ha pos I1 t1.ex' (sl.step t1) t1.mem h1) fun us s2 hv => ?_) hpl hst
  obtain ⟨ys, ds, G2, H2, M2, I2, rv, t2, ry, h2⟩ := hv
  refine thn (runK hkw pos I2 t2.ex' (sl.step (t1.trans t2)) t2.mem h2) fun ws s3 hw => ?_
  obtain ⟨zs, bs, G3, H3, M3, I3, rw', t3, rz, l1, l2, h3⟩ := hw
  rw [hks]
  exact ⟨I3.kIn, run_kcal (W := W) (vs := .ref a :: ys) ca hr tk I3 (.cons (show RelV (.ref a) (.ref a) from rfl) rv) rw' ⟨G3, M3, d :: ds, bs, Φ, exAt Γ, t3.ex', t3.mem, .cons (rd.mono (t2.ex.trans t3.ex)) (ry.mono t3.ex), rz, congrArg (· + 1) l1, l2, h3,
    fun v d' G4 H4 M4 t4 r4 q => kk v d' G4 H4 M4 (((t1.trans t2).trans t3).trans t4) r4 q, fun c' ns' fs' C3 da G4 H4 M4 t4 h3 h4 q => sl.raise (((t1.trans t2).trans t3).trans t4) h3 h4 q⟩⟩

/-! ### C(..) -/
/-- the class named c can be made; its __init__ promises sp -/
structure MakOk (P : Program) (w : World) (K : Kx) (base : Heap) (k : Nat) (c : Str) (sp : DFnX) : Prop where
  ex : ∃ C f, K.mg c = some (.ref C) ∧ InsF K.K C ∧ Mk K.K C f ∧ Cal P w K base k f sp
structure MakKOk (P : Program) (w : World) (K : Kx) (base : Heap) (k : Nat) (c : Str) (n : Nat) (ks : List Str) (sp : DFnX) : Prop where
  ex : ∃ C f, K.mg c = some (.ref C) ∧ InsF K.K C ∧ Mk K.K C f ∧ KCal P w K base k f (n + 1) ks sp
/-- what follows a new instance: it is one's own -/
abbrev DMade := Addr → Mem → (Dat → Mem → Prop) → Prop
def mkOwn : DMade := fun a M Φ => Φ (.loc a) M
/-- .. it never changes again -/
def mkFrz : DMade := fun a M Φ => ∃ c ns ds, M a = some (.ins c ns ds) ∧ Φ (.ins c ns ds) (M.del a)
def DMadeOk (K : Kx) (md : DMade) : Prop := ∀ G H M a Φ, Ex G H → MemOk K G H M → md a M Φ → ∃ d G' M', Stp K G H M G' H M' ∧ DP K G' (.ref a) d ∧ Φ d M'
theorem mkOwn_ok {K : Kx} : DMadeOk K mkOwn := fun G H M a Φ e m h => ⟨.loc a, G, M, Stp.refl e m, .loc a, h⟩
theorem mkFrz_ok {K : Kx} : DMadeOk K mkFrz := fun G H M a Φ e m ⟨c, ns, ds, hm, h⟩ => by
  obtain ⟨g0, C, dx, xs, h1, hf, h2, h3, h4⟩ := m a _ hm
  exact ⟨_, _, _, Stp.freezeC e m hm h2, .ins h1 hf upd_same h3 (h4.mono (Ex.new g0)), h⟩
def dMake (md : DMade) (c : Str) (sp : DFnX) (ta : DTA) : DTE := fun Γ M Φ => ta Γ M fun ds M1 => ∀ a, M1 a = none → sp (.loc a :: ds) (M1.put a (.ins c [] [])) (fun d M2 => d = .non ∧ md a M2 Φ) (fun c ns fs M2 => exAt Γ c ns fs (M2.del a))
def dMakeK (md : DMade) (c : Str) (n nk : Nat) (sp : DFnX) (ta tk : DTA) : DTE := fun Γ M Φ => ta Γ M fun ds M1 => tk Γ M1 fun bs M2 => ds.length = n ∧ bs.length = nk ∧
  ∀ a, M2 a = none → sp (.loc a :: ds ++ bs) (M2.put a (.ins c [] [])) (fun d M3 => d = .non ∧ md a M3 Φ) (fun c ns fs M3 => exAt Γ c ns fs (M3.del a))
theorem sub_del {M : Mem} {a : Addr} : Sub (M.del a) M := fun b c h => by
  by_cases e : b = a
  · rw [e, Mem.del_same] at h; cases h
  · rw [Mem.del_ne e] at h; exact h
/-- a new instance is laid -/
theorem stp_new {K : Kx} {G H : Hp} {M : Mem} {x dx C : Addr} {c : Str} (e : Ex G H) (m : MemOk K G H M) (hc : K.mg c = some (.ref C)) (hF : InsF K.K C) (hx : H x = none) (hd : H dx = none) (ne : dx ≠ x) :
    Stp K G H M (upd G dx (.own x)) (upd (upd H dx (.own x)) x (.ins C dx [])) (M.put x (.ins c [] [])) := by
  have t1 := Stp.alloc (o := .own x) e m hd
  have hx2 : upd H dx (.own x) x = none := by rw [upd_ne (Ne.symm ne)]; exact hx
  exact t1.trans (Stp.ownC t1.ex' t1.mem hx2 ⟨C, dx, [], hc, hF, upd_same, rfl, .nil⟩)
theorem run_make1 {C f : Addr} {pins : List (Addr × Obj)} {σ : L2.St} {H : Hp} {s : Shared} {Q : VK} {us : List Value} (kw : List (Str × Value)) (M : Mk X.K C f) (hrun : ∀ (A : Around) (x dx : Addr) (s' : Shared) (H' : Hp), H x = none → H dx = none → dx ≠ x → H' = upd (upd H dx (.own x)) x (.ins C dx []) → (Room (k + 1) X.A → Room k A) → Inv X pins σ H' s' → Env0 X.prog X.w X.K X.mg X.base A X.stack s' H' →
      codeAny (model X.prog X.w) A (.call (.ref f) ⟨.ref x :: us, kw⟩) (fun r s2 => match r with
        | .ok (.ret u) => EP X pins σ (fun v H2 => v = .non ∧ Q (.ref x) H2) u s2
        | .error e => X.xe e s2
        | _ => False) s') (hr : Room (k + 1) X.A) (I : Inv X pins σ H s) :
    wpAny (model X.prog X.w) X.A (call (.ref C) us kw) (EP X pins σ Q) X.xe s := by
  have I2 := Inv.made (C := C) I
  refine wpAny_call (make_map (f := f) I.kIn M.makes M.init (beq_iff_eq.mp M.fn) (codeAny_mono (hrun _ (s.heap.objs.size + 1) s.heap.objs.size _ _ (I.hok.fresh (Nat.le_succ _)) (I.hok.fresh (Nat.le_refl _)) (Nat.ne_of_lt (Nat.lt_succ_self _)) rfl (fun h => h.make C us kw) I2 (I2.env0.make C us kw)) fun r s' z => ?_))
  cases r with
  | error e => exact z
  | ok fl =>
    cases fl with
    | ret u =>
      obtain ⟨v, H', I3, rv, ev, q3⟩ := z
      subst ev
      exact ⟨rv, ⟨V.ref (s.heap.objs.size + 1), H', I3, rfl, q3⟩⟩
    | next => exact z.elim
    | brk => exact z.elim
    | cont => exact z.elim
/-- how a callee ends -/
abbrev Out (X : Cx) (pins : List (Addr × Obj)) (σ : L2.St) (Q : VK) : Result → Shared → Prop := fun r s2 => match r with
  | .ok (.ret u) => EP X pins σ Q u s2
  | .error e => X.xe e s2
  | _ => False
theorem code_cal {A : Around} {f : Addr} {sp : DFnX} {pins : List (Addr × Obj)} {σ : L2.St} {H : Hp} {s : Shared} {Q : VK} {us : List Value} {vs : List V} (cc : Cal X.prog X.w (kx X) X.base k f sp) (hr : Room k A) (tk : Takes X W) (env : Env0 X.prog X.w X.K X.mg X.base A X.stack s H) (I : Inv X pins σ H s) (r : Vals vs us)
    (h : spX (kx X) sp vs H Q (WE W σ)) : codeAny (model X.prog X.w) A (.call (.ref f) ⟨us, []⟩) (Out X pins σ Q) s := by
  obtain ⟨k', fd, ps, ds, dvs, dd, sp0, hk, F, hb, hd, hdd, himp⟩ := cc.ex
  have h' : spX (kx X) sp0 (vs ++ dvs) H Q (WE W σ) := by
    obtain ⟨G, M, as, Φ, Ψ, e, m, rs, q, kk, kx⟩ := h
    exact ⟨G, M, as ++ dd, Φ, Ψ, e, m, rs.app (hdd G), himp _ _ _ _ q, kk, kx⟩
  have r2 : Vals (vs ++ dvs) (us ++ ds) := r.append hd
  have hl : (us ++ ds).length = ps.length := by rw [← r2.length]; exact F.len _ _ _ _ h'
  refine codeAny_mono (F.run A X.stack s H ⟨us, []⟩ (us ++ ds) (vs ++ dvs) Q (WE W σ) (hr.mono hk) env (hb s us I.kIn hl) r2 h') fun out s' z => ?_
  cases out with
  | error er => exact passAt tk σ pins H s er s' I z
  | ok fl =>
    cases fl with
    | ret u => exact I.after z
    | next => exact z.elim
    | brk => exact z.elim
    | cont => exact z.elim
theorem code_kcal {A : Around} {f : Addr} {sp : DFnX} {pins : List (Addr × Obj)} {σ : L2.St} {H : Hp} {s : Shared} {Q : VK} {us ws : List Value} {vs zs : List V} (c : KCal X.prog X.w (kx X) X.base k f n ks sp) (hr : Room k A) (tk : Takes X W) (env : Env0 X.prog X.w X.K X.mg X.base A X.stack s H) (I : Inv X pins σ H s) (r : Vals vs us) (rz : Vals zs ws)
    (h : ∃ G M as bs Φ Ψ, Ex G H ∧ MemOk (kx X) G H M ∧ DPs (kx X) G vs as ∧ DPs (kx X) G zs bs ∧ as.length = n ∧ bs.length = ks.length ∧ sp (as ++ bs) M Φ Ψ ∧ (∀ v d G' H' M', Stp (kx X) G H M G' H' M' → DP (kx X) G' v d → Φ d M' → Q v H') ∧
      ∀ c ns fs C da G' H' M', Stp (kx X) G H M G' H' M' → X.mg c = some (.ref C) → ExD (kx X) G' da ns fs → Ψ c ns fs M' → WE W σ (.ref C) da H') :
    codeAny (model X.prog X.w) A (.call (.ref f) ⟨us, ks.zip ws⟩) (Out X pins σ Q) s := by
  obtain ⟨k', fd, ps, g, gV, sp0, hk, F, hb, himp⟩ := c.ex
  obtain ⟨G, M, as, bs, Φ, Ψ, e, m, ra, rb, la, lb, q, kk, kx'⟩ := h
  obtain ⟨cs, rc, q'⟩ := himp G vs zs as bs ra rb la lb
  have hsp : spX (kx X) sp0 (gV vs zs) H Q (WE W σ) := ⟨G, M, cs, Φ, Ψ, e, m, rc, q' M Φ Ψ q, kk, kx'⟩
  refine codeAny_mono (F.run A X.stack s H _ (g us ws) _ Q (WE W σ) (hr.mono hk) env (hb.to s us ws I.kIn (r.length.symm.trans (ra.len.trans la)) (rz.length.symm.trans (rb.len.trans lb))) (hb.rel r rz) hsp) fun out s' z => ?_
  cases out with
  | error er => exact passAt tk σ pins H s er s' I z
  | ok fl =>
    cases fl with
    | ret u => exact I.after z
    | next => exact z.elim
    | brk => exact z.elim
    | cont => exact z.elim
/-- what a making asks, as __init__'s promise -/
theorem make_spX {Γ : DEnv} {G G0 H H0 : Hp} {M M0 : Mem} {σ : L2.St} {Φ : Dat → Mem → Prop} {Q : VK} {md : DMade} {sp : DFnX} {x dx C : Addr} {ys : List V} {ds : List Dat} (hmd : DMadeOk (kx X) md) (t0 : Stp (kx X) G0 H0 M0 G H M) (sl : Sl (kx X) W G0 H0 M0 σ Γ) (hc : X.mg c = some (.ref C)) (hF : InsF X.K C)
    (hx : H x = none) (hd : H dx = none) (ne : dx ≠ x) (r : DPs (kx X) G ys ds) (q : sp (.loc x :: ds) (M.put x (.ins c [] [])) (fun d M2 => d = .non ∧ md x M2 Φ) (fun c ns fs M2 => exAt Γ c ns fs (M2.del x)))
    (kk : ∀ v d G' H' M', Stp (kx X) G0 H0 M0 G' H' M' → DP (kx X) G' v d → Φ d M' → Q v H') :
    spX (kx X) sp (.ref x :: ys) (upd (upd H dx (.own x)) x (.ins C dx [])) (fun v H2 => v = .non ∧ Q (.ref x) H2) (WE W σ) := by
  have tn := stp_new (C := C) t0.ex' t0.mem hc hF hx hd ne
  refine ⟨_, _, _, _, _, tn.ex', tn.mem, .cons (.loc x) (r.mono tn.ex), q, fun v d G3 H3 M3 t3 r3 z => ?_, fun c' ns' fs' C3 da G3 H3 M3 t3 h3 h4 z => ?_⟩
  · obtain ⟨rfl, z⟩ := z
    cases r3
    obtain ⟨d', G4, M4, t4, r4, z4⟩ := hmd G3 H3 M3 x Φ t3.ex' t3.mem z
    exact ⟨rfl, kk _ d' G4 H3 M4 (((t0.trans tn).trans t3).trans t4) r4 z4⟩
  · exact sl.raise (((t0.trans tn).trans t3).drop sub_del) h3 h4 z
variable {x : Str} {p : Pos} {md : DMade} {sp : DFnX}
theorem de_make (hmd : DMadeOk (kx X) md) (tk : Takes X W) (T : MakOk X.prog X.w (kx X) X.base k x sp) (hr : Room (k + 1) X.A) (hg : Gl X x) (ha : PA X (e :: es) (LA (kx X) W ta)) (hdb : (x == ("__debug__" : Str)) = false := by decide)
    (he : starEach (e :: es) X.env = (false, eval e X.env) :: starEach es X.env := by rfl) (hpl : (backTo pos (starEach es X.env)).any (·.1) = false := by rfl) : PE X (.Call (.Name x p) (e :: es) [] pos) (LE (kx X) W (dMake md x sp ta)) := by
  refine ⟨fun pins s σ H Q I ⟨Γ, G, M, Φ, ex, sl, mo, h, kk⟩ => ?_⟩
  obtain ⟨C, f, hC, hF, mk, ca⟩ := T.ex
  refine wpAny_Call_Name_kw (ld_glob I hg hC ?_ hdb)
  refine PySem.W.callWith_K (h₀ := X.base) I.ok.mod.kin mk.kp (thn (runA ha pos I ex sl mo h) fun us s1 hu => ?_) he hpl
  obtain ⟨ys, ds, G1, H1, M1, I1, rv, t1, ry, h1⟩ := hu
  refine ⟨I1.kIn, run_make1 (k := k) [] mk (fun A y dy s' H' n1 n2 n3 e1 room I2 env => ?_) hr I1⟩
  subst e1
  exact code_cal ca (room hr) tk env I2 (.cons (show RelV (.ref y) (.ref y) from rfl) rv) (make_spX hmd t1 sl hC hF n1 n2 n3 ry (h1 y (mem_none t1.mem n1)) kk)
theorem de_make0 (hmd : DMadeOk (kx X) md) (tk : Takes X W) (T : MakOk X.prog X.w (kx X) X.base k x sp) (hr : Room (k + 1) X.A) (hg : Gl X x) (hdb : (x == ("__debug__" : Str)) = false := by decide) : PE X (.Call (.Name x p) [] [] pos) (LE (kx X) W (dMake md x sp dNil)) := by
  refine ⟨fun pins s σ H Q I ⟨Γ, G, M, Φ, ex, sl, mo, h, kk⟩ => ?_⟩
  obtain ⟨C, f, hC, hF, mk, ca⟩ := T.ex
  refine wpAny_Call_Name_kw (ld_glob I hg hC ?_ hdb)
  refine PySem.W.callWith_K0 I.kIn mk.kp (run_make1 (k := k) [] mk (fun A y dy s' H' n1 n2 n3 e1 room I2 env => ?_) hr I)
  subst e1
  exact code_cal ca (room hr) tk env I2 (.cons (show RelV (.ref y) (.ref y) from rfl) .nil) (make_spX hmd (Stp.refl ex mo) sl hC hF n1 n2 n3 .nil (h y (mem_none mo n1)) kk)
theorem make_spK {Γ : DEnv} {G G0 H H0 : Hp} {M M0 : Mem} {σ : L2.St} {Φ : Dat → Mem → Prop} {Q : VK} {md : DMade} {sp : DFnX} {x dx C : Addr} {ys zs : List V} {ds bs : List Dat} (hmd : DMadeOk (kx X) md) (t0 : Stp (kx X) G0 H0 M0 G H M) (sl : Sl (kx X) W G0 H0 M0 σ Γ) (hc : X.mg c = some (.ref C)) (hF : InsF X.K C)
    (hx : H x = none) (hd : H dx = none) (ne : dx ≠ x) (r : DPs (kx X) G ys ds) (rz : DPs (kx X) G zs bs) (l1 : ds.length = n) (l2 : bs.length = ks.length) (q : sp (.loc x :: ds ++ bs) (M.put x (.ins c [] [])) (fun d M2 => d = .non ∧ md x M2 Φ) (fun c ns fs M2 => exAt Γ c ns fs (M2.del x)))
    (kk : ∀ v d G' H' M', Stp (kx X) G0 H0 M0 G' H' M' → DP (kx X) G' v d → Φ d M' → Q v H') :
    ∃ G' M' as bs' Φ' Ψ', Ex G' (upd (upd H dx (.own x)) x (.ins C dx [])) ∧ MemOk (kx X) G' (upd (upd H dx (.own x)) x (.ins C dx [])) M' ∧ DPs (kx X) G' (.ref x :: ys) as ∧ DPs (kx X) G' zs bs' ∧ as.length = n + 1 ∧ bs'.length = ks.length ∧ sp (as ++ bs') M' Φ' Ψ' ∧
      (∀ v d G'' H'' M'', Stp (kx X) G' (upd (upd H dx (.own x)) x (.ins C dx [])) M' G'' H'' M'' → DP (kx X) G'' v d → Φ' d M'' → v = .non ∧ Q (.ref x) H'') ∧
      ∀ c ns fs C' da G'' H'' M'', Stp (kx X) G' (upd (upd H dx (.own x)) x (.ins C dx [])) M' G'' H'' M'' → X.mg c = some (.ref C') → ExD (kx X) G'' da ns fs → Ψ' c ns fs M'' → WE W σ (.ref C') da H'' := by
  have tn := stp_new (C := C) t0.ex' t0.mem hc hF hx hd ne
  refine ⟨_, _, .loc x :: ds, bs, _, _, tn.ex', tn.mem, .cons (.loc x) (r.mono tn.ex), rz.mono tn.ex, congrArg (· + 1) l1, l2, q, fun v d G3 H3 M3 t3 r3 z => ?_, fun c' ns' fs' C3 da G3 H3 M3 t3 h3 h4 z => ?_⟩
  · obtain ⟨rfl, z⟩ := z
    cases r3
    obtain ⟨d', G4, M4, t4, r4, z4⟩ := hmd G3 H3 M3 x Φ t3.ex' t3.mem z
    exact ⟨rfl, kk _ d' G4 H3 M4 (((t0.trans tn).trans t3).trans t4) r4 z4⟩
  · exact sl.raise (((t0.trans tn).trans t3).drop sub_del) h3 h4 z
theorem de_makeK0 (hmd : DMadeOk (kx X) md) (tk : Takes X W) (T : MakKOk X.prog X.w (kx X) X.base k x 0 ks sp) (hr : Room (k + 1) X.A) (hg : Gl X x) (hkw : PK X kws (LA (kx X) W tk'))
    (hall : (backToKw pos (keywordEach kws X.env)).all (·.1.isSome) = true := by rfl) (hks : (backToKw pos (keywordEach kws X.env)).filterMap (·.1) = ks := by rfl) (hdb : (x == ("__debug__" : Str)) = false := by decide)
    (hpl : ((backTo pos (starEach [] X.env)).any (·.1) || (backToKw pos (keywordEach kws X.env)).any (·.1.isNone)) = false := by rfl) : PE X (.Call (.Name x p) [] kws pos) (LE (kx X) W (dMakeK md x 0 ks.length sp dNil tk')) := by
  refine ⟨fun pins s σ H Q I ⟨Γ, G, M, Φ, ex, sl, mo, h, kk⟩ => ?_⟩
  obtain ⟨C, f, hC, hF, mk, ca⟩ := T.ex
  refine wpAny_Call_Name_kw (ld_glob I hg hC ?_ hdb)
  refine PySem.W.callWith_KW0 (h₀ := X.base) I.ok.mod.kin mk.kp hall (thn (runK hkw pos I ex sl mo h) fun us s1 hu => ?_) hpl
  obtain ⟨zs, bs, G1, H1, M1, I1, rv, t1, ry, l1, l2, h1⟩ := hu
  rw [hks]
  refine ⟨I1.kIn, run_make1 (k := k) (ks.zip us) mk (fun A y dy s' H' n1 n2 n3 e1 room I2 env => ?_) hr I1⟩
  subst e1
  exact code_kcal ca (room hr) tk env I2 (.cons (show RelV (.ref y) (.ref y) from rfl) .nil) rv (make_spK hmd t1 sl hC hF n1 n2 n3 .nil ry rfl l2 (h1 y (mem_none t1.mem n1)) kk)
theorem de_makeK (hmd : DMadeOk (kx X) md) (tk : Takes X W) (T : MakKOk X.prog X.w (kx X) X.base k x n ks sp) (hr : Room (k + 1) X.A) (hg : Gl X x) (ha : PA X (e :: es) (LA (kx X) W ta)) (hkw : PK X kws (LA (kx X) W tk'))
    (hall : (backToKw pos (keywordEach kws X.env)).all (·.1.isSome) = true := by rfl) (hks : (backToKw pos (keywordEach kws X.env)).filterMap (·.1) = ks := by rfl) (hdb : (x == ("__debug__" : Str)) = false := by decide)
    (he : starEach (e :: es) X.env = (false, eval e X.env) :: starEach es X.env := by rfl) (hpl : ((backTo pos (starEach (e :: es) X.env)).any (·.1) || (backToKw pos (keywordEach kws X.env)).any (·.1.isNone)) = false := by rfl) :
    PE X (.Call (.Name x p) (e :: es) kws pos) (LE (kx X) W (dMakeK md x n ks.length sp ta tk')) := by
  refine ⟨fun pins s σ H Q I ⟨Γ, G, M, Φ, ex, sl, mo, h, kk⟩ => ?_⟩
  obtain ⟨C, f, hC, hF, mk, ca⟩ := T.ex
  refine wpAny_Call_Name_kw (ld_glob I hg hC ?_ hdb)
  refine PySem.W.callWith_KW (h₀ := X.base) I.ok.mod.kin mk.kp hall (thn (runA ha pos I ex sl mo h) fun us s1 hu => ?_) hpl he
  obtain ⟨ys, ds, G1, H1, M1, I1, rv, t1, ry, h1⟩ := hu
  refine thn (runK hkw pos I1 t1.ex' (sl.step t1) t1.mem h1) fun ws s2 hw => ?_
  obtain ⟨zs, bs, G2, H2, M2, I2', rw', t2, rz, l1, l2, h2⟩ := hw
  rw [hks]
  refine ⟨I2'.kIn, run_make1 (k := k) (ks.zip ws) mk (fun A y dy s' H' n1 n2 n3 e1 room I2 env => ?_) hr I2'⟩
  subst e1
  exact code_kcal ca (room hr) tk env I2 (.cons (show RelV (.ref y) (.ref y) from rfl) rv) rw' (make_spK hmd (t1.trans t2) sl hC hF n1 n2 n3 (ry.mono t2.ex) rz l1 l2 (h2 y (mem_none t2.mem n1)) kk)
end
end EX
/-! The widened data layer D: types of data, isinstance, own operators, truth. -/
namespace EX
open PySem PySem.Spec PyProof.Rows L2

/-! ### types of data -/
/-- a type: a built-in one by its name, or an own class by its name -/
inductive Ty where
  | bi (T : String) | own (c : Str)
  deriving DecidableEq
def tyOf (M : Mem) : Dat → Option Ty
  | .non => some (.bi "NoneType")
  | .bl _ => some (.bi "bool")
  | .int _ => some (.bi "int")
  | .str _ => some (.bi "str")
  | .lst _ => some (.bi "list")
  | .tup _ => some (.bi "tuple")
  | .dK _ _ => some (.bi "dict")
  | .dT _ _ => some (.bi "dict")
  | .ins c _ _ => some (.own c)
  | .loc a => match M a with
    | some (.lst _) => some (.bi "list")
    | some (.ins c _ _) => some (.own c)
    | some (.dK _ _) => some (.bi "dict")
    | some (.dT _ _) => some (.bi "dict")
    | some (.exn c _ _) => some (.own c)
    | none => none
  | _ => none
/-- a type's value -/
def TyV (K : Kx) : Ty → Value → Prop
  | .bi T, v => v = .type T
  | .own c, v => ∃ C, K.mg c = some (.ref C) ∧ v = .ref C
theorem TyV.uniq {K : Kx} {t : Ty} {v w : Value} (h : TyV K t v) (h' : TyV K t w) : v = w := by
  cases t with
  | bi T => exact h.trans h'.symm
  | own c =>
    obtain ⟨C, a, rfl⟩ := h
    obtain ⟨D, b, rfl⟩ := h'
    exact Option.some.inj (a.symm.trans b)
theorem exc_inst {h : Heap} {C a : Addr} {d : Option Addr} {oe : Obj} {vs : Array Value} (e : h.get? a = some oe) (z : Zc (.ref C) d oe) (hd : oe.data = .fields vs) (hdict : ∀ da, d = some da → ∃ o, h.get? da = some o) : ∃ od, PySem.W.InstAt h a oe C od := by
  obtain ⟨h1, h2⟩ := z
  have hn : PySem.W.notCls oe = true := by unfold PySem.W.notCls; rw [hd]
  cases d with
  | none => exact ⟨none, e, h1, hn, by rw [h2]; trivial⟩
  | some da =>
    obtain ⟨o, ho⟩ := hdict da rfl
    exact ⟨some o, e, h1, hn, by rw [h2]; exact ho⟩
section
variable {X : Cx} {pins : List (Addr × Obj)} {σ : L2.St} {H : Hp} {s : Shared}
theorem kit_at {G : Hp} {M : Mem} {v : V} {u : Value} {d : Dat} {t : Ty} (I : Inv X pins σ H s) (e : Ex G H) (m : MemOk (kx X) G H M) (r : DP (kx X) G v d) (ru : RelV v u) (h : tyOf M d = some t) :
    ∃ tv P, TyV (kx X) t tv ∧ PySem.W.KitX X.K u tv P ∧ P s.heap ∧ u ≠ .builtin "__main__.__loader__#opaque" := by
  have base : ∀ {x : V} {T : String}, RelV x u → L2.TyX X.K H x (.type T) → ∃ tv P, TyV (kx X) (.bi T) tv ∧ PySem.W.KitX X.K u tv P ∧ P s.heap ∧ u ≠ .builtin "__main__.__loader__#opaque" := fun rx ty => by
    obtain ⟨P, Z, p, n⟩ := kit_of I rx ty
    exact ⟨_, P, rfl, Z, p, n⟩
  have own : ∀ {a C dx : Addr} {fs : List (Str × V)} {c : Str}, u = .ref a → X.mg c = some (.ref C) → InsF X.K C → H a = some (.ins C dx fs) → ∃ tv P, TyV (kx X) (.own c) tv ∧ PySem.W.KitX X.K u tv P ∧ P s.heap ∧ u ≠ .builtin "__main__.__loader__#opaque" := fun {a C dx fs c} eu hc f ha => by
    obtain ⟨P, Z, p, n⟩ := kit_of I (x := .ref a) eu (.base (.ins ha f.cl f.ca f.cn f.ct f.co))
    exact ⟨_, P, ⟨C, hc, rfl⟩, Z, p, n⟩
  cases r with
  | non => cases h; exact base ru (.base .non)
  | bl b => cases h; exact base ru (.base (.bl b))
  | int i => cases h; exact base ru (.base (.int i))
  | str x => cases h; exact base ru (.base (.str x))
  | lst h1 _ => cases h; exact base ru (.base (.lst (e _ _ h1)))
  | tup h1 _ => cases h; exact base ru (.base (.tup (e _ _ h1)))
  | dK h1 _ _ => cases h; exact base ru (.base (.dK (e _ _ h1)))
  | dT h1 _ _ => cases h; exact base ru (.base (.dT (e _ _ h1)))
  | ins h1 hf h2 _ _ => cases h; exact own ru h1 hf (e _ _ h2)
  | loc a =>
    have h' : (match M a with
      | some (.lst _) => some (Ty.bi "list")
      | some (.ins c _ _) => some (.own c)
      | some (.dK _ _) => some (.bi "dict")
      | some (.dT _ _) => some (.bi "dict")
      | some (.exn c _ _) => some (.own c)
      | none => none) = some t := h
    cases q : M a with
    | none => rw [q] at h'; cases h'
    | some cl =>
      rw [q] at h'
      obtain ⟨_, z⟩ := m a cl q
      cases cl with
      | lst ds => cases h'; obtain ⟨xs, ha, _⟩ := z; exact base ru (.base (.lst ha))
      | dK ks ds => cases h'; obtain ⟨xs, ha, _⟩ := z; exact base ru (.base (.dK ha))
      | dT ks ds => cases h'; obtain ⟨xs, ha, _⟩ := z; exact base ru (.base (.dT ha))
      | ins c ns ds => cases h'; obtain ⟨C, dx, xs, hc, hf, ha, _⟩ := z; exact own ru hc hf ha
      | exn c ns ds =>
        cases h'
        obtain ⟨C, da, hc, hf, ha, hx⟩ := z
        obtain ⟨⟨oe, vs, he, hz, hd⟩, _⟩ := I.hok a _ ha
        obtain ⟨od, J⟩ := exc_inst he hz hd fun da' ed => by
          rcases hx with ⟨q0, _, _⟩ | ⟨da2, xs, q0, q1, _, _⟩
          · rw [ed] at q0; cases q0
          · rw [ed] at q0
            cases q0
            obtain ⟨_, ⟨od, _, _, z1, _⟩, _⟩ := I.hok da' _ (e _ _ q1)
            exact ⟨od, z1⟩
        cases (show u = Value.ref a from ru)
        exact ⟨_, _, ⟨C, hc, rfl⟩, PySem.W.kitx_exc hf.cs hf.ga hf.gt hf.sub hf.ca hf.cn hf.ct hf.co, J, fun z => nomatch z⟩
  | _ => cases h
end
/-! ### isinstance -/
/-- the answer of isinstance, type by type -/
structure IsiOk (K : Kx) (t c : Ty) (b : Bool) : Prop where
  ex : ∃ tv cv, TyV K t tv ∧ TyV K c cv ∧ PySem.W.kitOne K.K tv cv = some b
def clsD : Dat → Option Ty
  | .ty T => some (.bi T)
  | .cls c => some (.own c)
  | _ => none
theorem cls_at {K : Kx} {G : Hp} {v : V} {d : Dat} {t : Ty} (r : DP K G v d) (h : clsD d = some t) : ∃ cv, TyV K t cv ∧ ClsV v cv := by
  cases r with
  | ty T => cases h; exact ⟨_, rfl, .ty T⟩
  | cls hc => cases h; exact ⟨_, ⟨_, hc, rfl⟩, .own _⟩
  | _ => cases h
/-- isinstance(x, c), one class -/
def oIsiC (tab : List (Ty × Ty × Bool)) : DFn := fun xs M Φ => ∃ x y t c b, xs = [x, y] ∧ tyOf M x = some t ∧ clsD y = some c ∧ (t, c, b) ∈ tab ∧ Φ (.bl b) M
inductive IsiTab (K : Kx) : List (Ty × Ty × Bool) → Prop
  | nil : IsiTab K []
  | cons {t c : Ty} {b : Bool} {r : List (Ty × Ty × Bool)} : IsiOk K t c b → IsiTab K r → IsiTab K ((t, c, b) :: r)
theorem IsiTab.at {K : Kx} {t c : Ty} {b : Bool} : ∀ {r : List (Ty × Ty × Bool)}, IsiTab K r → (t, c, b) ∈ r → IsiOk K t c b
  | _, .cons h r, q => by
    rcases List.mem_cons.mp q with e | q
    · cases e; exact h
    · exact r.at q
theorem IsiTab.app {K : Kx} {r r' : List (Ty × Ty × Bool)} (h : IsiTab K r) (h' : IsiTab K r') : IsiTab K (r ++ r') := by
  induction h with
  | nil => exact h'
  | cons a _ ih => exact .cons a ih
section
variable {X : Cx} {W : WX}
theorem oc_isiC {tab : List (Ty × Ty × Bool)} (T : IsiTab (kx X) tab) : CallR X (.builtin "isinstance") (LC (kx X) (oIsiC tab)) := by
  intro pins s σ H xs us Q I r h
  obtain ⟨G, M, ds, Φ, e, m, rs, ⟨x, y, t, c, b, rfl, ht, hc, hm, q⟩, k⟩ := h
  cases rs with
  | cons r1 r2 =>
    cases r2 with
    | cons r2 r3 =>
      cases r3
      obtain ⟨u1, u2, rfl, q1, q2⟩ := vals2 r
      obtain ⟨tv, P, ev, Z, p, n⟩ := kit_at I e m r1 q1 ht
      obtain ⟨cv, ec, kc⟩ := cls_at r2 hc
      obtain ⟨tv', cv', ev', ec', kk⟩ := (T.at hm).ex
      cases ev.uniq ev'
      cases ec.uniq ec'
      have e2 := kc.eq q2
      subst e2
      exact PySem.W.kia_one Z I.kIn p kk n fun tk => ⟨.bl b, H, I.tok tk, rfl, k _ _ G H M (Stp.refl e m) (.bl b) q⟩
/-- an own class's name as a value -/
theorem de_cls {x : Str} {C : Addr} {pos : Pos} (hg : Gl X x) (hm : X.mg x = some (.ref C)) (hd : (x == ("__debug__" : Str)) = false := by decide) : PE X (.Name x pos) (LE (kx X) W (dC (.cls x))) :=
  pe_wk (pe_glob (v := .ref C) hg hm rfl hd) (wk_c fun _ => .cls hm)
/-- a module's constant -/
theorem de_glob {x : Str} {v : V} {u : Value} {d : Dat} {pos : Pos} (hg : Gl X x) (hm : X.mg x = some u) (r : RelV v u) (rd : ∀ G, DP (kx X) G v d) (hd : (x == ("__debug__" : Str)) = false := by decide) : PE X (.Name x pos) (LE (kx X) W (dC d)) :=
  pe_wk (pe_glob hg hm r hd) (wk_c rd)
end

/-! ### own operators: nothing leaves them -/
theorem cmpBack {X : Cx} {pins : List (Addr × Obj)} {σ : L2.St} {Q : VK} {u : Value} {s : Shared} (h : EP X pins σ Q u s) : PySem.W.CmpBack (EP X pins σ Q) u s := by
  obtain ⟨v, H, I, r, q⟩ := h
  cases u <;> first | exact ⟨v, H, I, r, q⟩ | (cases v <;> (first | (cases r; done) | (obtain ⟨_, z⟩ := r; cases z; done)))
abbrev noX : DXc := fun _ _ _ _ => False
/-- a callee that lets nothing out, run anywhere -/
theorem run_at {X : Cx} {k : Nat} {A : Around} {f : Addr} {sp : DFnX} {pins : List (Addr × Obj)} {σ : L2.St} {H G : Hp} {M : Mem} {s : Shared} {us : List Value} {vs : List V} {ds : List Dat} {Φ : Dat → Mem → Prop} {Q : VK} (cc : Cal X.prog X.w (kx X) X.base k f sp) (hr : Room k A) (env : Env0 X.prog X.w X.K X.mg X.base A X.stack s H) (I : Inv X pins σ H s) (r : Vals vs us)
    (e : Ex G H) (m : MemOk (kx X) G H M) (rd : DPs (kx X) G vs ds) (h : sp ds M Φ noX) (kk : ∀ v d G' H' M', Stp (kx X) G H M G' H' M' → DP (kx X) G' v d → Φ d M' → Q v H') : wpAny (model X.prog X.w) A (call (.ref f) us) (EP X pins σ Q) X.xe s := by
  refine wpAny_call (codeAny_mono (code_cal (W := W0) cc hr takesW0 env I r ⟨G, M, ds, Φ, noX, e, m, rd, h, kk, fun _ _ _ _ _ _ _ _ _ _ _ z => z.elim⟩) fun out s' z => ?_)
  cases out with
  | error er => exact z
  | ok fl =>
    cases fl with
    | ret u => exact z
    | next => exact z.elim
    | brk => exact z.elim
    | cont => exact z.elim
theorem ins_look {X : Cx} {pins : List (Addr × Obj)} {σ : L2.St} {H : Hp} {s : Shared} {a C dx : Addr} {fs : List (Str × V)} (I : Inv X pins σ H s) (ha : H a = some (.ins C dx fs)) : ∃ ox od, PySem.W.InstAt s.heap a ox C (some od) := by
  obtain ⟨mA, J, _⟩ := ins_get I.hok ha
  obtain ⟨od, J, _⟩ := J.look
  exact ⟨_, od, J⟩
/-- the class c has the operator with a right side of the type t -/
structure BinOk (P : Program) (w : World) (K : Kx) (base : Heap) (k : Nat) (op : Operator) (c : Str) (t : Ty) (sp : DFnX) : Prop where
  ex : ∃ C f, K.mg c = some (.ref C) ∧ PySem.W.findIn K.K (.ref C) (PySem.dunder op.info.2) = some (some (.ref f)) ∧ PySem.W.isFn K.K (.ref f) = true ∧ Cal P w K base k f sp ∧
    (t = .own c ∨ ∃ rc fo ro, t = .bi "int" ∧ PySem.W.findIn K.K (.ref C) (dunderR op.info.2) = some rc ∧ (rc = none ∨ ∃ g : Addr, rc = some (.ref g)) ∧ PySem.W.findIn K.K (.type "int") (PySem.dunder op.info.2) = some fo ∧ PySem.W.findIn K.K (.type "int") (dunderR op.info.2) = some ro ∧
      PySem.W.subIn K.K (.type "int") (.ref C) = some false)
abbrev OTab := List (Str × Ty × DFnX)
inductive BinTab (P : Program) (w : World) (K : Kx) (base : Heap) (k : Nat) (op : Operator) : OTab → Prop
  | nil : BinTab P w K base k op []
  | cons {c : Str} {t : Ty} {sp : DFnX} {r : OTab} : BinOk P w K base k op c t sp → BinTab P w K base k op r → BinTab P w K base k op ((c, t, sp) :: r)
theorem BinTab.at {P : Program} {w : World} {K : Kx} {base : Heap} {k : Nat} {op : Operator} {c : Str} {t : Ty} {sp : DFnX} : ∀ {r : OTab}, BinTab P w K base k op r → (c, t, sp) ∈ r → BinOk P w K base k op c t sp
  | _, .cons h r, q => by
    rcases List.mem_cons.mp q with e | q
    · cases e; exact h
    · exact r.at q
def oOwn (tab : OTab) (r : DOp) : DOp := fun x y M Φ => match insAt M x with
  | some (c, _, _) => ∃ t sp, tyOf M y = some t ∧ (c, t, sp) ∈ tab ∧ sp [x, y] M Φ noX
  | none => r x y M Φ
theorem ins_ty {M : Mem} {d : Dat} {c : Str} {ns : List Str} {ds : List Dat} (h : insAt M d = some (c, ns, ds)) : tyOf M d = some (.own c) := by
  cases d with
  | ins => cases h; rfl
  | loc a =>
    have h' : (match M a with
      | some (.ins c ns ds) => some (c, ns, ds)
      | _ => none) = some (c, ns, ds) := h
    split at h'
    · rename_i q
      cases h'
      show (match M a with
        | some (.lst _) => some (Ty.bi "list")
        | some (.ins c _ _) => some (.own c)
        | some (.dK _ _) => some (.bi "dict")
        | some (.dT _ _) => some (.bi "dict")
        | some (.exn c _ _) => some (.own c)
        | none => none) = _
      rw [q]
    · cases h'
  | _ => cases h
section
variable {X : Cx} {W : WX} {k : Nat}
theorem os_ownB {op : Operator} {r : DOp} {tab : OTab} (T : BinTab X.prog X.w (kx X) X.base k op tab) (hr : Room k X.A) (ho : OpR X (binaryOp op) (LOp (kx X) r)) : OpR X (binaryOp op) (LOp (kx X) (oOwn tab r)) := by
  intro pins s σ H x y v u Q I rx ry h
  obtain ⟨G, M, dx, dy, Φ, e, m, hx, hy, q, kk⟩ := h
  unfold oOwn at q
  split at q
  · rename_i c ns ds hi
    obtain ⟨t, sp, ht, hm, q⟩ := q
    obtain ⟨C, f, hC, hs, hf, ca, hT⟩ := (T.at hm).ex
    obtain ⟨a, C', dx', xs, rfl, hC', hF, ha, _, _⟩ := ins_at e m hx hi
    have eC : C' = C := Value.ref.inj (Option.some.inj (hC'.symm.trans hC))
    subst eC
    cases (show v = Value.ref a from rx)
    obtain ⟨ox, od, J⟩ := ins_look I ha
    obtain ⟨mm, hFr⟩ := I.fr
    obtain ⟨tv, P, ev, Z, p, _⟩ := kit_at I e m hy ry ht
    have run : wpAny (model X.prog X.w) X.A (call (.ref f) [.ref a, u]) (PySem.W.CmpBack (EP X pins σ Q)) X.xe s :=
      thn (run_at ca hr I.env0 I (.cons (show RelV (.ref a) (.ref a) from rfl) (.cons ry .nil)) e m (.cons hx (.cons hy .nil)) q kk) fun _ _ z => cmpBack z
    rcases hT with rfl | ⟨rc, fo, ro, rfl, h1, h2, h3, h4, h5⟩
    · obtain ⟨D, hD, rfl⟩ := ev
      have eD : D = C' := Value.ref.inj (Option.some.inj (hD.symm.trans hC))
      subst eD
      exact PySem.W.binop_K hFr I.ok.mod.kin J (Z.ty _ _ I.kIn p) hF.sf hs hf run
    · have tu : typeOf u = pure (.type "int") := by
        cases hy with
        | int i => obtain ⟨t, rfl⟩ := (show ∃ t, u = Value.int i t from ry); rfl
        | loc b =>
          have ht' : (match M b with
            | some (.lst _) => some (Ty.bi "list")
            | some (.ins c _ _) => some (.own c)
            | some (.dK _ _) => some (.bi "dict")
            | some (.dT _ _) => some (.bi "dict")
            | some (.exn c _ _) => some (.own c)
            | none => none) = some (.bi "int") := ht
          split at ht' <;> first | (cases ht'; done) | exact absurd (Ty.bi.inj (Option.some.inj ht')) (by decide)
        | _ => first | (cases ht; done) | exact absurd (Ty.bi.inj (Option.some.inj ht)) (by decide)
      exact PySem.W.ksp_binT hFr I.ok.mod.kin J tu hF.sf hs hf h1 h2 h3 h4 h5 run
  · exact ho pins s σ H x y v u Q I rx ry ⟨G, M, dx, dy, Φ, e, m, hx, hy, q, kk⟩
/-! ### unary minus -/
structure UnOk (P : Program) (w : World) (K : Kx) (base : Heap) (k : Nat) (m c : Str) (sp : DFnX) : Prop where
  ex : ∃ C f, K.mg c = some (.ref C) ∧ PySem.W.findIn K.K (.ref C) m = some (some (.ref f)) ∧ PySem.W.isFn K.K (.ref f) = true ∧ Cal P w K base k f sp
inductive UnTab (P : Program) (w : World) (K : Kx) (base : Heap) (k : Nat) (m : Str) : List (Str × DFnX) → Prop
  | nil : UnTab P w K base k m []
  | cons {c : Str} {sp : DFnX} {r : List (Str × DFnX)} : UnOk P w K base k m c sp → UnTab P w K base k m r → UnTab P w K base k m ((c, sp) :: r)
theorem UnTab.at {P : Program} {w : World} {K : Kx} {base : Heap} {k : Nat} {m c : Str} {sp : DFnX} : ∀ {r : List (Str × DFnX)}, UnTab P w K base k m r → (c, sp) ∈ r → UnOk P w K base k m c sp
  | _, .cons h r, q => by
    rcases List.mem_cons.mp q with e | q
    · cases e; exact h
    · exact r.at q
def oOwnU (tab : List (Str × DFnX)) (r : DUn) : DUn := fun x M Φ => match insAt M x with
  | some (c, _, _) => ∃ sp, (c, sp) ∈ tab ∧ sp [x] M Φ noX
  | none => r x M Φ
theorem os_ownNeg {r : DUn} {tab : List (Str × DFnX)} (T : UnTab X.prog X.w (kx X) X.base k "__neg__" tab) (hr : Room k X.A) (ho : UnR X (unaryOp .USub) (LUn (kx X) r)) : UnR X (unaryOp .USub) (LUn (kx X) (oOwnU tab r)) := by
  intro pins s σ H x v Q I rx h
  obtain ⟨G, M, dx, Φ, e, m, hx, q, kk⟩ := h
  unfold oOwnU at q
  split at q
  · rename_i c ns ds hi
    obtain ⟨sp, hm, q⟩ := q
    obtain ⟨C, f, hC, hs, hf, ca⟩ := (T.at hm).ex
    obtain ⟨a, C', dx', xs, rfl, hC', hF, ha, _, _⟩ := ins_at e m hx hi
    have eC : C' = C := Value.ref.inj (Option.some.inj (hC'.symm.trans hC))
    subst eC
    cases (show v = Value.ref a from rx)
    obtain ⟨ox, od, J⟩ := ins_look I ha
    obtain ⟨mm, hFr⟩ := I.fr
    exact PySem.W.ksp_neg hFr I.ok.mod.kin J hs hf (run_at ca hr I.env0 I (.cons (show RelV (.ref a) (.ref a) from rfl) .nil) e m (.cons hx .nil) q kk)
  · exact ho pins s σ H x v Q I rx ⟨G, M, dx, Φ, e, m, hx, q, kk⟩
/-! ### == and != -/
structure EqOk (P : Program) (w : World) (K : Kx) (base : Heap) (k : Nat) (c : Str) (t : Ty) (sp : DFnX) : Prop where
  ex : ∃ C f tv, K.mg c = some (.ref C) ∧ PySem.W.findIn K.K (.ref C) "__eq__" = some (some (.ref f)) ∧ PySem.W.isFn K.K (.ref f) = true ∧ PySem.W.findIn K.K (.ref C) "__ne__" = some (some (.builtin "object.__ne__")) ∧ Cal P w K base k f sp ∧ TyV K t tv ∧ PySem.W.notFirst K.K C tv = true
inductive EqTab (P : Program) (w : World) (K : Kx) (base : Heap) (k : Nat) : OTab → Prop
  | nil : EqTab P w K base k []
  | cons {c : Str} {t : Ty} {sp : DFnX} {r : OTab} : EqOk P w K base k c t sp → EqTab P w K base k r → EqTab P w K base k ((c, t, sp) :: r)
theorem EqTab.at {P : Program} {w : World} {K : Kx} {base : Heap} {k : Nat} {c : Str} {t : Ty} {sp : DFnX} : ∀ {r : OTab}, EqTab P w K base k r → (c, t, sp) ∈ r → EqOk P w K base k c t sp
  | _, .cons h r, q => by
    rcases List.mem_cons.mp q with e | q
    · cases e; exact h
    · exact r.at q
def oOwnE (neg : Bool) (tab : OTab) (r : DOp) : DOp := fun x y M Φ => match insAt M x with
  | some (c, _, _) => ∃ t sp, tyOf M y = some t ∧ (c, t, sp) ∈ tab ∧ sp [x, y] M (fun d M1 => ∃ b, d = .bl b ∧ Φ (.bl (if neg then !b else b)) M1) noX
  | none => r x y M Φ
theorem os_ownEq {r : DOp} {tab : OTab} (T : EqTab X.prog X.w (kx X) X.base k tab) (hr : Room k X.A) (ho : OpR X (compareOp .Eq) (LOp (kx X) r)) : OpR X (compareOp .Eq) (LOp (kx X) (oOwnE false tab r)) := by
  intro pins s σ H x y v u Q I rx ry h
  obtain ⟨G, M, dx, dy, Φ, e, m, hx, hy, q, kk⟩ := h
  unfold oOwnE at q
  split at q
  · rename_i c ns ds hi
    obtain ⟨t, sp, ht, hm, q⟩ := q
    obtain ⟨C, f, tv', hC, hs, hf, _, ca, ev', hn⟩ := (T.at hm).ex
    obtain ⟨a, C', dx', xs, rfl, hC', hF, ha, _, _⟩ := ins_at e m hx hi
    have eC : C' = C := Value.ref.inj (Option.some.inj (hC'.symm.trans hC))
    subst eC
    cases (show v = Value.ref a from rx)
    obtain ⟨ox, od, J⟩ := ins_look I ha
    obtain ⟨mm, hFr⟩ := I.fr
    obtain ⟨tv, P, ev, Z, p, _⟩ := kit_at I e m hy ry ht
    cases ev.uniq ev'
    show wpAny (model X.prog X.w) X.A (richCompare .Eq (.ref a) u) (EP X pins σ Q) X.xe s
    refine PySem.W.cmp_K (op := .Eq) hr.units0 hFr I.ok.mod.kin J (Z.ty _ _ I.kIn p) hn hs hf (thn (run_at ca hr I.env0 I (.cons (show RelV (.ref a) (.ref a) from rfl) (.cons ry .nil)) e m (.cons hx (.cons hy .nil)) q fun z d G' H' M' t' rz hz => ?_) fun _ _ z => cmpBack z)
    obtain ⟨b, rfl, hz⟩ := hz
    exact kk z _ G' H' M' t' rz (by rw [if_neg Bool.false_ne_true] at hz; exact hz)
  · exact ho pins s σ H x y v u Q I rx ry ⟨G, M, dx, dy, Φ, e, m, hx, hy, q, kk⟩
end
end EX
namespace PySem.W
open PySem PySem.Calls PyProof.Rows Builtin
section
variable {prog : Program} {w : World} {A : Around} {E : Value → Shared → Prop} {s : Shared} {K : Frag} {x C f : Addr} {ox : Obj} {od : Option Obj} {b : Value}
/-- object.__ne__ asks the own == -/
theorem ex_objNe {Q : Fin → Shared → Prop} (hu : A.units < cLine) (X : K.In s.heap) (I : InstAt s.heap x ox C od) (hs : findIn K (.ref C) "__eq__" = some (some (.ref f))) (hf : isFn K (.ref f) = true)
    (h : wpAny (model prog w) A (call (.ref f) [.ref x, b]) (fun v s' => ∃ r, v = .bool r ∧ Q (.done (.ret (.bool (!r)))) s') E s) :
    wpAny (model prog w) A (Builtin.«object.__ne__» ⟨[.ref x, b], []⟩) Q E s := by
  obtain ⟨hh, g, d, t, os⟩ := s
  unfold Builtin.«object.__ne__»
  repeat (first
    | with_reducible refine wpAny_cRoomFor hu ?_
    | (refine wpAny_bind (m := callSpecialIfBound? (.ref x) (Str.ofString "__eq__") [b]) (ifBound_K X I hs hf (wpAny_mono h (fun r s' hr => by
          obtain ⟨k, rfl, hq⟩ := hr
          repeat (first | exact hq | exact wpAny_pure hq | exact wpAny_truthy_bool hq | (refine wpAny_bind (m := truthy (.bool _)) (wpAny_truthy_bool ?_)) | wp_step)) fun _ _ e => e)))
    | wp_step)
theorem ex_ne {Q : Value → Shared → Prop} {tb : Value} (hu : A.units + 1 < cLine) (X : K.In s.heap) (I : InstAt s.heap x ox C od) (hb : Looks (model prog w) s.heap (typeOf b) tb) (hn : notFirst K C tb = true)
    (hs : findIn K (.ref C) "__eq__" = some (some (.ref f))) (hf : isFn K (.ref f) = true) (hne : findIn K (.ref C) "__ne__" = some (some (.builtin "object.__ne__"))) (ho : mroIn K C (.type "object") = some true)
    (h : wpAny (model prog w) A.in1 (call (.ref f) [.ref x, b]) (fun v s' => ∃ r, v = .bool r ∧ Q (.bool (!r)) s') E s) : wpAny (model prog w) A (richCompare .NotEq (.ref x) b) Q E s := by
  have sub : Looks (model prog w) s.heap (isInstance (.ref x) (.type "object")) true := I.type.andThen (looks_mroIn X ho)
  have one : wpAny (model prog w) A (tryCompare (.ref x) "__ne__" b) (fun r s' => ∃ v, r = some v ∧ Q v s') E s := by
    unfold tryCompare
    simp only [callSpecialIfBound?, bindSpecialIfBound?]
    refine wpAny_bind (wpAny_holding (wpAny_bind (wpAny_bind (wpAny_bind (I.type.here ((looks_findIn X hne).here ?_))))))
    refine wpAny_bind (wpAny_askSetting (wpAny_ite ?_))
    have fin : wpAny (model prog w) A (call (.builtin "object.__ne__") ([.ref x] ++ [b]) >>= fun v => pure (some v)) (fun r s1 => wpAny (model prog w) A (match r with
        | some .notImplemented | none => pure none
        | some v => pure (some v) : Sem (Option Value)) (fun r s' => ∃ v, r = some v ∧ Q v s') E s1) E s := by
      refine wpAny_bind (wpAny_call (codeAny_call_builtin PySem.F.cmp_object.ne.plain PySem.F.cmpEntry_ne ?_))
      refine check_slot PySem.F.cmpKind_ne PySem.F.cmpSplit_ne sub (PySem.F.cmpArgs_ne _ _) ?_
      refine ex_objNe (A := A.in1) (by show A.units + 1 < cLine; exact hu) X I hs hf (wpAny_mono h (fun v s' hv => ?_) fun _ _ e => e)
      obtain ⟨r, rfl, hq⟩ := hv
      first | exact ⟨r, rfl, wpAny_pure (wpAny_pure ⟨_, rfl, hq⟩)⟩ | exact ⟨r, rfl, wpAny_pure ⟨_, rfl, hq⟩⟩
    split
    · exact wpAny_bind (by rw [PySem.F.cmp_object.ne.bind]; exact wpAny_pure (wpAny_pure (by exact fin)))
    · exact wpAny_tryCatch (wpAny_bind (by rw [PySem.F.cmp_object.ne.bind]; exact wpAny_pure (wpAny_pure (by exact fin))))
  unfold richCompare
  simp only [oneThing_ref]
  refine wpAny_holding (wpAny_bind (wpAny_cRoomFor (Nat.lt_of_succ_lt hu) ?_))
  rw [cmpInfo_NotEq]
  dsimp only
  refine wpAny_bind (I.type.here (wpAny_bind (hb.here ?_)))
  split
  · rename_i q
    have e : subIn K tb (.ref C) = some false := by
      rcases Bool.or_eq_true_iff.mp hn with e | e
      · rw [beq_iff_eq.mp e] at q; simp at q
      · exact beq_iff_eq.mp e
    refine wpAny_bind ((looks_subIn X e).here ?_)
    simp only [Bool.false_eq_true, if_false]
    refine wpAny_bind (wpAny_mono one (fun r s' z => ?_) fun _ _ e => e)
    obtain ⟨v, rfl, hq⟩ := z
    exact wpAny_pure hq
  · refine wpAny_bind (wpAny_pure ?_)
    simp only [Bool.false_eq_true, if_false]
    refine wpAny_bind (wpAny_mono one (fun r s' z => ?_) fun _ _ e => e)
    obtain ⟨v, rfl, hq⟩ := z
    exact wpAny_pure hq
end
end PySem.W
namespace EX
open PySem PySem.Spec PyProof.Rows L2
section
variable {X : Cx} {W : WX} {k : Nat}
theorem os_ownNe {r : DOp} {tab : OTab} (T : EqTab X.prog X.w (kx X) X.base k tab) (hr : Room (k + 1) X.A) (ho : OpR X (compareOp .NotEq) (LOp (kx X) r)) : OpR X (compareOp .NotEq) (LOp (kx X) (oOwnE true tab r)) := by
  intro pins s σ H x y v u Q I rx ry h
  obtain ⟨G, M, dx, dy, Φ, e, m, hx, hy, q, kk⟩ := h
  unfold oOwnE at q
  split at q
  · rename_i c ns ds hi
    obtain ⟨t, sp, ht, hm, q⟩ := q
    obtain ⟨C, f, tv', hC, hs, hf, hne, ca, ev', hn⟩ := (T.at hm).ex
    obtain ⟨a, C', dx', xs, rfl, hC', hF, ha, _, _⟩ := ins_at e m hx hi
    have eC : C' = C := Value.ref.inj (Option.some.inj (hC'.symm.trans hC))
    subst eC
    cases (show v = Value.ref a from rx)
    obtain ⟨ox, od, J⟩ := ins_look I ha
    obtain ⟨tv, P, ev, Z, p, _⟩ := kit_at I e m hy ry ht
    cases ev.uniq ev'
    show wpAny (model X.prog X.w) X.A (richCompare .NotEq (.ref a) u) (EP X pins σ Q) X.xe s
    have hu : X.A.units + 1 < cLine := by have := hr.un; omega
    refine PySem.W.ex_ne hu I.kIn J (Z.ty _ _ I.kIn p) hn hs hf hne hF.co (thn (run_at (Q := fun v H' => ∃ b, v = .bl b ∧ Q (.bl (!b)) H') ca hr.in1 I.env0.in1 I (.cons (show RelV (.ref a) (.ref a) from rfl) (.cons ry .nil)) e m (.cons hx (.cons hy .nil)) q fun z d G' H' M' t' rz hz => ?_) fun w s' z => ?_)
    · obtain ⟨b, rfl, hz⟩ := hz
      cases rz
      rw [if_pos rfl] at hz
      exact ⟨b, rfl, kk (.bl (!b)) _ G' H' M' t' (.bl _) hz⟩
    · obtain ⟨v', H', I', r', b, rfl, hz⟩ := z
      cases r'
      exact ⟨b, rfl, .bl (!b), H', I', rfl, hz⟩
  · exact ho pins s σ H x y v u Q I rx ry ⟨G, M, dx, dy, Φ, e, m, hx, hy, q, kk⟩

/-! ### truth -/
/-- data whose truth is plain; an own __bool__ -/
def oTru (tab : List (Str × DFnX)) (x : Dat) (M : Mem) (Φ : Bool → Mem → Prop) : Prop := match insAt M x with
  | some (c, _, _) => ∃ sp, (c, sp) ∈ tab ∧ sp [x] M (fun d M1 => ∃ b, d = .bl b ∧ Φ b M1) noX
  | none => match x with
    | .non => Φ false M
    | .bl b => Φ b M
    | .int i => Φ (i != 0) M
    | .str y => y.length ≤ sizeLine ∧ Φ ((y.length : Int) != 0) M
    | .lst ds => Φ (!ds.isEmpty) M
    | .tup ds => Φ (!ds.isEmpty) M
    | .loc a => ∃ ds, M.l a = some ds ∧ Φ (!ds.isEmpty) M
    | _ => False
theorem empties {K : Kx} {G : Hp} {xs : List V} {ds : List Dat} (r : DPs K G xs ds) : (!xs.isEmpty) = !ds.isEmpty := by cases r <;> rfl
theorem os_tru {tab : List (Str × DFnX)} (T : UnTab X.prog X.w (kx X) X.base k "__bool__" tab) (hr : Room k X.A) : TruR X (fun x H Q => ∃ G M d Φ, Ex G H ∧ MemOk (kx X) G H M ∧ DP (kx X) G x d ∧ oTru tab d M Φ ∧ ∀ b G' H' M', Stp (kx X) G H M G' H' M' → Φ b M' → Q b H') := by
  intro pins s σ H x v Q I rx h
  obtain ⟨G, M, d, Φ, e, m, hx, q, kk⟩ := h
  unfold oTru at q
  split at q
  · rename_i c ns ds hi
    obtain ⟨sp, hm, q⟩ := q
    obtain ⟨C, f, hC, hs, hf, ca⟩ := (T.at hm).ex
    obtain ⟨a, C', dx', xs, rfl, hC', hF, ha, _, _⟩ := ins_at e m hx hi
    have eC : C' = C := Value.ref.inj (Option.some.inj (hC'.symm.trans hC))
    subst eC
    cases (show v = Value.ref a from rx)
    obtain ⟨ox, od, J⟩ := ins_look I ha
    obtain ⟨mm, hFr⟩ := I.fr
    refine PySem.W.truthy_K hFr I.ok.mod.kin J hs hf (thn (run_at (Q := fun v H' => ∃ b, v = .bl b ∧ Q b H') ca hr I.env0 I (.cons (show RelV (.ref a) (.ref a) from rfl) .nil) e m (.cons hx .nil) q fun z d G' H' M' t' rz hz => ?_) fun w s' z => ?_)
    · obtain ⟨b, rfl, hz⟩ := hz
      cases rz
      exact ⟨b, rfl, kk b G' H' M' t' hz⟩
    · obtain ⟨v', H', I', r', b, rfl, hz⟩ := z
      cases r'
      exact ⟨H', I', hz⟩
  · have go : ∀ b, TruV X.K x H b → Φ b M → wpAny (model X.prog X.w) X.A (truthy v) (TP X pins σ Q) X.xe s := fun b ht hp => tru_ok pins s σ H x v Q I rx ⟨b, ht, kk b G H M (Stp.refl e m) hp⟩
    cases hx with
    | non => exact go _ rfl q
    | bl b => exact go _ rfl q
    | int i => exact go _ rfl q
    | str y => exact go _ ⟨q.1, rfl⟩ q.2
    | lst h1 r => exact go _ (.inl ⟨_, DP.sql e h1, (empties r).symm⟩) q
    | tup h1 r => exact go _ (.inr (.inl ⟨_, DP.sqt e h1, (empties r).symm⟩)) q
    | loc a =>
      obtain ⟨ds, hl, q⟩ := q
      obtain ⟨_, xs, ha, r⟩ := m a _ (Mem.of_l hl)
      exact go _ (.inl ⟨xs, .inl (.inl ha), (empties r).symm⟩) q
    | _ => exact (show False from q).elim
def dTru (tab : List (Str × DFnX)) (t : DTE) : DTT := fun Γ M Φ => t Γ M fun d M1 => oTru tab d M1 Φ
/-- any expression as a test -/
theorem dt_tru {tab : List (Str × DFnX)} {e : Expr} {t : DTE} (T : UnTab X.prog X.w (kx X) X.base k "__bool__" tab) (hr : Room k X.A) (h : PE X e (LE (kx X) W t)) (he : ∀ whole, isTrue e X.env whole = (do let v ← whole; standAt e.pos; holding [v] (truthy v)) := by intro _; rfl) : PT X e (LT (kx X) W (dTru tab t)) := by
  refine ⟨fun pins s σ H Q I ⟨Γ, G, M, Φ, ex, sl, mo, q, kk⟩ => ?_⟩
  refine isTrue_plain (thn (runD h I ex sl mo q) fun v s1 ⟨x, d, G1, H1, M1, I1, r1, t1, rd, q1⟩ => ?_) (he _)
  exact os_tru T hr pins s1 σ H1 x v Q I1 r1 ⟨G1, M1, d, Φ, t1.ex', t1.mem, rd, q1, fun b G2 H2 M2 t2 z => kk b b G2 H2 M2 (t1.trans t2) rfl z⟩
end
end EX
/-! The widened data layer F: attributes as targets of a tuple; code that is not come to. -/
namespace EX
open PySem PySem.Spec PyProof.Rows L2
section
variable {X : Cx} {W : WX} {o e : Expr} {f : Str} {pos pos' : Pos}
def gFld (K : PySem.W.Frag) (ta : TE) (f : Str) : TG := fun v σ H Q => ta σ H fun x H1 => ∃ a C dx fs, x = .ref a ∧ H1 a = some (.ins C dx fs) ∧ Cls K C ∧ NoAttr K C f ∧ fs.length < 1000 ∧ Q σ (upd H1 a (.ins C dx (L2.putF f v fs)))
theorem pg_fld {ta : TE} (ha : PE X o ta) : PG X (.Attribute o f pos) (gFld X.K ta f) := by
  refine ⟨fun pins s σ H v u Q I r h => ?_⟩
  rw [assign_Attribute]
  refine wpAny_bind (wpAny_holding (thn (ha.run pins s σ H _ I h) fun ov s1 ⟨x, H1, I1, rx, a, C, dx, fs, ex, ea, c, n, l, q⟩ => ?_))
  subst ex
  obtain rfl : ov = Value.ref a := rx
  refine wpAny_bind (wpAny_standAt (wpAny_bind (wpAny_holding (setattr_ok I1 ea c n l r fun s3 I3 => ?_))))
  exact wpAny_release ⟨σ, _, I3, q⟩
/-- a.f, b.g = a pair -/
def dSetF2 (cs : List Str) (f : Str) (cs' : List Str) (f' : Str) (to to' te : DTE) : DTS := fun D Γ M => te Γ M fun v M1 => ∃ x y, v = .tup [x, y] ∧
  to Γ M1 fun o M2 => ∃ a c ns ds, o = .loc a ∧ M2 a = some (.ins c ns ds) ∧ c ∈ cs ∧ ns.length < 1000 ∧
  to' Γ (M2.put a (.ins c (putN f ns) (putX f x ns ds))) fun o' M3 => ∃ a' c' ns' ds', o' = .loc a' ∧ M3 a' = some (.ins c' ns' ds') ∧ c' ∈ cs' ∧ ns'.length < 1000 ∧ D.nx Γ (M3.put a' (.ins c' (putN f' ns') (putX f' y ns' ds')))
theorem ds_setF2 {o' : Expr} {f' : Str} {cs cs' : List Str} {to to' te : DTE} {p1 p2 p3 : Pos} {kk} (hc : X.calm = true) (T : Flds (kx X) f cs) (T' : Flds (kx X) f' cs') (ho : PE X o (LE (kx X) W to)) (ho' : PE X o' (LE (kx X) W to')) (hv : PE X e (LE (kx X) W te))
    (hn : (assignEach [.Attribute o f p1, .Attribute o' f' p2] X.env).length = 2 := by rfl) (hst : (assignEach [.Attribute o f p1, .Attribute o' f' p2] X.env).findIdx? (·.1) = none := by rfl)
    (h1 : (assignEach [.Attribute o f p1, .Attribute o' f' p2] X.env).map (·.2) = assign (.Attribute o f p1) X.env :: (assignEach [.Attribute o' f' p2] X.env).map (·.2) := by rfl)
    (h2 : (assignEach [.Attribute o' f' p2] X.env).map (·.2) = assign (.Attribute o' f' p2) X.env :: (assignEach [] X.env).map (·.2) := by rfl)
    (hs : swapsWithSole [.Tuple [.Attribute o f p1, .Attribute o' f' p2] kk p3] e pos.line X.env = pure false := by rfl) (hw : swappedStores [.Tuple [.Attribute o f p1, .Attribute o' f' p2] kk p3] e X.env = pure none := by rfl)
    (h3 : (assignEach [.Tuple [.Attribute o f p1, .Attribute o' f' p2] kk p3] X.env).map (·.2) = [assign (.Tuple [.Attribute o f p1, .Attribute o' f' p2] kk p3) X.env] := by rfl) :
    PS X (.Assign [.Tuple [.Attribute o f p1, .Attribute o' f' p2] kk p3] e pos) (LS (kx X) W (dSetF2 cs f cs' f' to to' te)) :=
  ps_wk (ps_asg hv (pg_tup (n := 2) hc (pgs_cons (pg_fld ho) (pgs_cons (pg_fld ho') pgs_nil h2) h1) hn hst) hs hw h3) fun D σ H h => by
  obtain ⟨Γ, G, M, DD, e, s, m, h, k⟩ := h.get
  refine ⟨Γ, G, M, _, e, s, m, h, fun v d G1 H1 M1 t1 rv q => ?_⟩
  obtain ⟨x, y, rfl, q⟩ := q
  cases rv
  rename_i a0 xs hg rr
  cases rr with
  | cons r1 rr =>
    cases rr with
    | cons r2 rr =>
      cases rr
      refine ⟨a0, _, rfl, DP.sqt t1.ex' hg, rfl, _, _, rfl, Γ, G1, M1, _, t1.ex', s.step t1, t1.mem, q, fun o1 d2 G2 H2 M2 t2 ro q => ?_⟩
      obtain ⟨a, c, ns, ds, rfl, hm, hc1, hz, q⟩ := q
      cases ro
      obtain ⟨C, hC, cl, na⟩ := (T.at hc1).ex
      obtain ⟨C', dx, xs, z1, z2, z3, tw⟩ := Stp.putF (f := f) t2.ex' t2.mem hm (r1.mono t2.ex)
      have eC : C' = C := Value.ref.inj (Option.some.inj (z1.symm.trans hC))
      subst eC
      have t := (t1.trans t2).trans tw
      refine ⟨a, C', dx, ns.zip xs, rfl, z2, cl, na, by rw [List.length_zip]; omega, _, _, rfl, Γ, G2, _, _, tw.ex', s.step t, tw.mem, q, fun o2 d3 G3 H3 M3 t3 ro q => ?_⟩
      obtain ⟨a', c', ns', ds', rfl, hm', hc2, hz', q⟩ := q
      cases ro
      obtain ⟨C2, hC2, cl2, na2⟩ := (T'.at hc2).ex
      obtain ⟨C3, dx3, xs3, w1, w2, w3, tw'⟩ := Stp.putF (f := f') t3.ex' t3.mem hm' ((r2.mono t2.ex).mono t3.ex)
      have eC : C3 = C2 := Value.ref.inj (Option.some.inj (w1.symm.trans hC2))
      subst eC
      have t' := (t.trans t3).trans tw'
      exact ⟨a', C3, dx3, ns'.zip xs3, rfl, w2, cl2, na2, by rw [List.length_zip]; omega, rfl, k.nx σ Γ G3 _ _ t' (s.step t') q⟩
/-- code that the proof does not come to -/
def dNever : DTS := fun _ _ _ => False
theorem ds_never {st : Stmt} : PS X st (LS (kx X) W dNever) := ps_wk ps_never fun D σ H h => by
  obtain ⟨Γ, G, M, DD, e, s, m, h, k⟩ := h.get
  exact h
end
end EX
/-! The widened data layer G: defs of classes, defaults. -/
namespace EX
open PySem PySem.Spec PyProof.Rows L2
/-- the j-th statement of a class's body -/
def inCls (st : Stmt) (j : Nat) : Stmt := (match st with | .ClassDef (body := b) .. => b | _ => []).getD j (.Pass ⟨0, 0, 0, 0⟩)
/-- a method as it stands in its class -/
structure MTop (K : Kx) (c m qual : Str) (st : Stmt) (dvs : List V) (C f : Addr) (fd : FuncData) : Prop where
  mg : K.mg c = some (.ref C)
  ins : InsF K.K C
  at_ : PySem.W.findIn K.K (.ref C) m = some (some (.ref f))
  fn : PySem.W.isFn K.K (.ref f) = true
  fd : FunD K.K m qual (defArgs st) (defBody st) (defScope st) dvs [] f fd
theorem MTop.meth {K : Kx} {c m qual : Str} {st : Stmt} {dvs : List V} {C f : Addr} {fd : FuncData} (t : MTop K c m qual st dvs C f fd) : Meth K.K C m f := ⟨t.at_, t.fn, t.fd.kp⟩
/-- the promise, the last arguments left to the defaults dd -/
def dfl (dd : List Dat) (sp : DFnX) : DFnX := fun as M Φ Ψ => sp (as ++ dd) M Φ Ψ
section
variable {P : Program} {w : World} {K : Kx} {base : Heap}
/-- the rule for a method (fn_x's text for one with defaults) -/
theorem fn_m {x qual : Str} {st : Stmt} {dvs : List V} {f : Addr} {fd : FuncData} {N ps : List Str} {k : Nat} {sp : DFnX} {t : DTS} (F : FunD K.K x qual (defArgs st) (defBody st) (defScope st) dvs [] f fd) (S : FnScope N ps (defScope st))
    (hb : ∀ (cdv : Value) (A : Around) (outer : List PySem.Env) (s : Shared) (H : Hp) (E : XK), Room k (A.deeper (envOfC qual (defScope st) s.heap.objs.size f cdv)) → PSs (cxD P w K base N qual st f cdv A outer s H E) (defBody st) (LS K (WD E) t))
    (h : ∀ ds M Φ Ψ, sp ds M Φ Ψ → ds.length = ps.length ∧ t (endsOf Φ) (startD N ds (exOf Ψ)) M) : FnOk P w K.K K.mg base (L2.CX P w) (k + 1) f fd ps (spX K sp) := by
  obtain ⟨oc, od, dV, kV, doc, pm, an, cdv, ct, osl, rfl, lk, hcd, _, _⟩ := F.ex
  refine fn_in lk hcd S (fun vs H Q E h0 => ?_) fun A outer s H vs Q E hr h0 => ⟨_, hb cdv A outer s H E hr, ?_⟩
  · obtain ⟨G, M, ds, Φ, Ψ, e, m, r, hs, kk, kx⟩ := h0
    rw [r.len]
    exact (h ds M Φ Ψ hs).1
  · obtain ⟨G, M, ds, Φ, Ψ, e, m, r, hs, kk, kx⟩ := h0
    refine LS.mk e ⟨sl_start r, fun c ns fs C da σ' sl' G' H' M' t' _ hc hd q => ?_⟩ m (h ds M Φ Ψ hs).2 ⟨fun σ' Γ' G' H' M' t s' q => ?_, fun v d G' H' M' t r q => ?_, fun _ _ _ _ _ _ _ q => q.elim, fun _ _ _ _ _ _ _ q => q.elim⟩
    · obtain ⟨M0, hs, q⟩ := q
      exact kx c ns fs C da G' H' M0 (t'.drop hs) hc hd q
    · obtain ⟨M0, hs, q⟩ := q
      exact kk .non .non G' H' M0 (t.drop hs) .non q
    · obtain ⟨M0, hs, q⟩ := q
      exact kk v d G' H' M0 (t.drop hs) r q
/-- no defaults -/
theorem cal0 {x qual : Str} {st : Stmt} {f : Addr} {fd : FuncData} {ps : List Str} {k : Nat} {sp : DFnX} (F : FunD K.K x qual (defArgs st) (defBody st) (defScope st) [] [] f fd)
    (hbd : ∀ us : List Value, us.length = ps.length → ∀ (kV doc pm : Value) (an : Option Addr) (cdv ct : Value), bindArgs (PySem.W.fnOf x qual (defArgs st) (defBody st) (defScope st) .none kV doc pm an cdv ct) ⟨us, []⟩ = pure (ps.zip us))
    (fn : FnOk P w K.K K.mg base (L2.CX P w) k f fd ps (spX K sp)) : Cal P w K base k f sp :=
  ⟨k, fd, ps, [], [], [], sp, Nat.le_refl _, fn, F.bindsN (fun kV doc pm an cdv ct us hl => hbd us hl kV doc pm an cdv ct), .nil, fun _ => .nil, fun as M Φ Ψ q => by rw [List.append_nil]; exact q⟩
/-- defaults, the ones behind the first j used -/
theorem calD {x qual : Str} {st : Stmt} {f : Addr} {fd : FuncData} {ps : List Str} {k : Nat} {sp : DFnX} {dvs : List V} {dd : List Dat} (n j : Nat) (F : FunD K.K x qual (defArgs st) (defBody st) (defScope st) dvs [] f fd) (hd : dvs ≠ []) (hn : n + (dvs.length - j) = ps.length)
    (hbd : ∀ us its : List Value, us.length = n → its.length = dvs.length → ∀ (T : Addr) (kV doc pm : Value) (an : Option Addr) (cdv ct : Value),
      ∃ k, bindArgs (PySem.W.fnOf x qual (defArgs st) (defBody st) (defScope st) (.ref T) kV doc pm an cdv ct) ⟨us, []⟩ = seqItems? (.ref T) >>= k ∧ k (some its.toArray) = pure (ps.zip (us ++ its.drop j)))
    (rd : ∀ G, DPs K G (dvs.drop j) dd) (fn : FnOk P w K.K K.mg base (L2.CX P w) k f fd ps (spX K sp)) : Cal P w K base k f (dfl dd sp) := by
  obtain ⟨ds, h1, h2⟩ := F.binds1 (ps := ps) n j hd hn fun T kV doc pm an cdv ct us its a b => hbd us its a b T kV doc pm an cdv ct
  exact ⟨k, fd, ps, ds, dvs.drop j, dd, sp, Nat.le_refl _, fn, h2, h1, rd, fun as M Φ Ψ q => q⟩
end
end EX
/-! The widened data layer H: enumerate(zip(a, b)). -/
namespace EX
open PySem
open Sem (wp)
section
variable {prog : Program} {w : World} {A : Around} {E : Value → Shared → Prop} {s : Shared}
theorem gone_look {M : Model} {B : Around} {T : Addr} {t : Shared} {Q : Option Obj → Shared → Prop} (g : t.heap.get? T = none) (k : Q none t) : wpAny M B (loadIfAlive T) Q E t := fun Γ p _ => by
  show Q (t.heap.get? T) t
  rw [g]; exact k
theorem gone_free {z TI TO T : Addr} {f : Bool} {Q : Bool → Shared → Prop} (hz : IsZipHeld s.heap z TI TO T f) (g : s.heap.get? T = none) (k : Q true s) : wpAny (model prog w) A (Builtin.SmallTypes.ownedTupleIsFree (.ref z)) Q E s := by
  unfold Builtin.SmallTypes.ownedTupleIsFree
  refine wpAny_bind (wpAny_field hz rfl (x := rawInt T) rfl ?_)
  show wpAny _ A (loadIfAlive (Int.toNat (T : Int)) >>= _) _ _ _
  rw [Int.toNat_natCast]
  exact wpAny_bind (gone_look g (by simp only [Option.isNone_none, if_true]; exact wpAny_pure k))
/-- the turn of a zip whose last tuple has gone -/
theorem zip_gone_item {z TI TO T p1 p2 a b : Addr} {f : Bool} {m n : Nat} {us vs : Array Value} {u v c d : Value} {Q : Value → Shared → Prop} (D : ZipApart z TI TO p1 p2 a b)
    (hz : IsZipHeld s.heap z TI TO T f) (gone : s.heap.get? T = none) (hI : IsPair s.heap TI (.ref p1) (.ref p2)) (hO : IsPair s.heap TO c d)
    (q1 : s.heap.IsListIter p1 a m) (q2 : s.heap.IsListIter p2 b n) (la : s.heap.IsList a us) (lb : s.heap.IsList b vs) (hu : us[m]? = some u) (hv : vs[n]? = some v)
    (k : ∀ h', IsZipHeld h' z TI TO s.heap.objs.size false → IsPair h' TO u v → h'.IsListIter p1 a (m + 1) → h'.IsListIter p2 b (n + 1) → IsPair h' s.heap.objs.size u v → h'.objs.size = s.heap.objs.size + 1 →
      (∀ x o, x ≠ z → x ≠ TO → x ≠ p1 → x ≠ p2 → s.heap.get? x = some o → h'.get? x = some o) → Q (.ref s.heap.objs.size) { s with heap := h' }) :
    wpAny (model prog w) A (Builtin.«zip.__next__» ⟨[.ref z], []⟩) (fun out s' => ∃ r, out = .done (.ret r) ∧ Q r s') E s := by
  show wpAny _ A (field (.ref z) 2 >>= _) _ _ _
  refine wpAny_bind (wpAny_field hz rfl (x := Value.bool false) rfl ?_)
  show wpAny _ A (field (.ref z) 3 >>= _) _ _ _
  refine wpAny_bind (wpAny_field hz rfl (x := Value.ref TI) rfl ?_)
  refine wpAny_bind (wpAny_seqItems hI rfl ?_)
  show wpAny _ A (Builtin.SmallTypes.ownedTupleIsFree (.ref z) >>= _) _ _ _
  refine wpAny_bind (gone_free hz gone ?_)
  simp only [if_true]
  refine wpAny_bind (wpAny_rule ?_)
  refine wpAny_bind (wpAny_field hz rfl (x := Value.ref TO) rfl ?_)
  refine wpAny_bind (wpAny_setField_rec hz (by simp) fun g1 z1 b1 => ?_)
  replace z1 : g1.get? z = some { cls := .type "zip", dict := none, data := .fields #[Value.ellipsis, .bool f, .bool false, .ref TI, .ref TO], slots := #[] } := z1
  refine wpAny_bind ?_
  simp only [List.zipIdx_cons, List.zipIdx_nil, List.forIn_cons, List.forIn_nil]
  refine wpAny_bind (wpAny_bind (wpAny_onRaise ?_))
  show wpAny _ A (Builtin.SmallTypes.nextOf (.ref p1) >>= _) _ _ _
  refine wpAny_bind (wpAny_nextOf_list_item (s := { s with heap := g1 }) (q1.extBut b1.extBut D.i1z) (la.extBut b1.extBut D.l1z) hu fun g2 r1 b2 => wpAny_pure ?_)
  have o2 : IsPair g2 TO c d := b2.extBut _ _ D.TOi1 (b1.extBut _ _ D.TOz hO)
  refine wpAny_bind (wpAny_seqItems o2 rfl ?_)
  refine wpAny_bind (wpAny_updateSeq_pair o2 fun g3 o3 b3 => ?_)
  replace o3 : IsPair g3 TO u d := o3
  refine wpAny_bind (wpAny_letGo (wpAny_pure ?_))
  refine wpAny_bind (wpAny_bind (wpAny_onRaise ?_))
  show wpAny _ A (Builtin.SmallTypes.nextOf (.ref p2) >>= _) _ _ _
  refine wpAny_bind (wpAny_nextOf_list_item (s := { s with heap := g3 }) (((q2.extBut b1.extBut D.i2z).extBut b2.extBut D.i12.symm).extBut b3.extBut D.TOi2.symm) (((lb.extBut b1.extBut D.l2z).extBut b2.extBut D.l2i1).extBut b3.extBut D.l2TO) hv fun g4 r2 b4 => wpAny_pure ?_)
  have o4 : IsPair g4 TO u d := b4.extBut _ _ D.TOi2 o3
  refine wpAny_bind (wpAny_seqItems o4 rfl ?_)
  refine wpAny_bind (wpAny_updateSeq_pair o4 fun g5 o5 b5 => ?_)
  replace o5 : IsPair g5 TO u v := o5
  refine wpAny_bind (wpAny_letGo (wpAny_pure (wpAny_pure ?_)))
  refine wpAny_bind (wpAny_seqItems o5 rfl ?_)
  refine wpAny_bind (wpAny_newTuple ?_)
  have sz : g5.objs.size = s.heap.objs.size := by rw [b5.1, b4.1, b3.1, b2.1, b1.1]
  have z5 := b5.extBut _ _ D.TOz.symm (b4.extBut _ _ D.i2z.symm (b3.extBut _ _ D.TOz.symm (b2.extBut _ _ D.i1z.symm z1)))
  have kp : ∀ x o, x ≠ z → x ≠ TO → x ≠ p1 → x ≠ p2 → s.heap.get? x = some o → g5.get? x = some o := fun x o n1 n2 n3 n4 e => b5.extBut _ _ n2 (b4.extBut _ _ n4 (b3.extBut _ _ n2 (b2.extBut _ _ n3 (b1.extBut _ _ n1 e))))
  have i1 : g5.IsListIter p1 a (m + 1) := ((r1.extBut b3.extBut D.TOi1.symm).extBut b4.extBut D.i12).extBut b5.extBut D.TOi1.symm
  have i2 : g5.IsListIter p2 b (n + 1) := r2.extBut b5.extBut D.TOi2.symm
  have zlt : z < g5.objs.size := Heap.lt_size z5
  show wpAny _ A (Builtin.SmallTypes.ownedTupleHandOut (.ref z) (.ref g5.objs.size) >>= _) _ _ _
  refine wpAny_bind ?_
  unfold Builtin.SmallTypes.ownedTupleHandOut
  have z6 : (g5.push { cls := .type "tuple", data := .seq #[u, v] }).get? z = _ := Heap.get?_push_of_some _ z5
  refine wpAny_bind (wpAny_setField_rec z6 (by simp) fun g7 z7 b7 => ?_)
  replace z7 : IsZipHeld g7 z TI TO g5.objs.size f := z7
  refine wpAny_setField_rec z7 (by simp) fun g8 z8 b8 => ?_
  replace z8 : IsZipHeld g8 z TI TO g5.objs.size false := z8
  have up : ∀ x o, x ≠ z → g5.get? x = some o → g8.get? x = some o := fun x o n1 e => b8.extBut _ _ n1 (b7.extBut _ _ n1 (Heap.get?_push_of_some _ e))
  have t8 : IsPair g8 g5.objs.size u v := b8.extBut _ _ (Nat.ne_of_gt zlt) (b7.extBut _ _ (Nat.ne_of_gt zlt) (Heap.get?_push_size _ rfl))
  have s8 : g8.objs.size = g5.objs.size + 1 := by rw [b8.1, b7.1, Heap.size_push]
  rw [sz] at z8 t8 s8
  refine wpAny_pure ⟨_, rfl, ?_⟩
  show Q (.ref g5.objs.size) _
  rw [sz]
  exact k g8 z8 (up _ _ D.TOz o5) (i1.at fun o e => up _ o D.i1z e) (i2.at fun o e => up _ o D.i2z e) t8 s8 fun x o n1 n2 n3 n4 e => up x o n1 (kp x o n1 n2 n3 n4 e)
theorem zip_gone_end {z TI TO T p1 p2 a b : Addr} {f : Bool} {m n : Nat} {us vs : Array Value} {c d : Value} {Q : Fin → Shared → Prop} (hh : A.handled = none) (D : ZipApart z TI TO p1 p2 a b)
    (hz : IsZipHeld s.heap z TI TO T f) (gone : s.heap.get? T = none) (hI : IsPair s.heap TI (.ref p1) (.ref p2)) (hO : IsPair s.heap TO c d)
    (q1 : s.heap.IsListIter p1 a m) (q2 : s.heap.IsListIter p2 b n) (la : s.heap.IsList a us) (lb : s.heap.IsList b vs) (hend : us[m]? = none ∨ vs[n]? = none)
    (k : ∀ h' e, (∀ x o, x ≠ z → x ≠ TO → x ≠ p1 → x ≠ p2 → s.heap.get? x = some o → h'.get? x = some o) → (∃ o, h'.get? e = some o ∧ o.cls = .type "StopIteration") → E (.ref e) { s with heap := h' }) :
    wpAny (model prog w) A (Builtin.«zip.__next__» ⟨[.ref z], []⟩) Q E s := by
  show wpAny _ A (field (.ref z) 2 >>= _) _ _ _
  refine wpAny_bind (wpAny_field hz rfl (x := Value.bool false) rfl ?_)
  show wpAny _ A (field (.ref z) 3 >>= _) _ _ _
  refine wpAny_bind (wpAny_field hz rfl (x := Value.ref TI) rfl ?_)
  refine wpAny_bind (wpAny_seqItems hI rfl ?_)
  show wpAny _ A (Builtin.SmallTypes.ownedTupleIsFree (.ref z) >>= _) _ _ _
  refine wpAny_bind (gone_free hz gone ?_)
  simp only [if_true]
  refine wpAny_bind (wpAny_rule ?_)
  refine wpAny_bind (wpAny_field hz rfl (x := Value.ref TO) rfl ?_)
  refine wpAny_bind (wpAny_setField_rec hz (by simp) fun g1 z1 b1 => ?_)
  replace z1 : g1.get? z = some { cls := .type "zip", dict := none, data := .fields #[Value.ellipsis, .bool f, .bool false, .ref TI, .ref TO], slots := #[] } := z1
  refine wpAny_bind ?_
  simp only [List.zipIdx_cons, List.zipIdx_nil, List.forIn_cons, List.forIn_nil]
  refine wpAny_bind (wpAny_bind (wpAny_onRaise ?_))
  show wpAny _ A (Builtin.SmallTypes.nextOf (.ref p1) >>= _) _ _ _
  cases hu : us[m]? with
  | none =>
    refine wpAny_bind (wpAny_nextOf_list_end (s := { s with heap := g1 }) hh (q1.extBut b1.extBut D.i1z) (la.extBut b1.extBut D.l1z) hu fun g2 e b2 he => ?_)
    obtain ⟨oe, ho, hc⟩ := he
    have z2 := b2 _ _ D.i1z.symm z1
    have ne : e ≠ z := fun x => by subst x; rw [z2] at ho; cases ho; simp at hc
    exact wpAny_setField_rec z2 (by simp) fun g3 _ b3 => k g3 e (fun x o n1 _ n3 _ q => b3.extBut _ _ n1 (b2 _ _ n3 (b1.extBut _ _ n1 q))) ⟨oe, b3.extBut _ _ ne ho, hc⟩
  | some u =>
    have hv : vs[n]? = none := by
      rcases hend with h | h
      · rw [hu] at h; cases h
      · exact h
    refine wpAny_bind (wpAny_nextOf_list_item (s := { s with heap := g1 }) (q1.extBut b1.extBut D.i1z) (la.extBut b1.extBut D.l1z) hu fun g2 r1 b2 => wpAny_pure ?_)
    have o2 : IsPair g2 TO c d := b2.extBut _ _ D.TOi1 (b1.extBut _ _ D.TOz hO)
    refine wpAny_bind (wpAny_seqItems o2 rfl ?_)
    refine wpAny_bind (wpAny_updateSeq_pair o2 fun g3 o3 b3 => ?_)
    refine wpAny_bind (wpAny_letGo (wpAny_pure ?_))
    refine wpAny_bind (wpAny_bind (wpAny_onRaise ?_))
    show wpAny _ A (Builtin.SmallTypes.nextOf (.ref p2) >>= _) _ _ _
    refine wpAny_bind (wpAny_nextOf_list_end (s := { s with heap := g3 }) hh (((q2.extBut b1.extBut D.i2z).extBut b2.extBut D.i12.symm).extBut b3.extBut D.TOi2.symm) (((lb.extBut b1.extBut D.l2z).extBut b2.extBut D.l2i1).extBut b3.extBut D.l2TO) hv fun g4 e b4 he => ?_)
    obtain ⟨oe, ho, hc⟩ := he
    have z4 := b4 _ _ D.i2z.symm (b3.extBut _ _ D.TOz.symm (b2.extBut _ _ D.i1z.symm z1))
    have ne : e ≠ z := fun x => by subst x; rw [z4] at ho; cases ho; simp at hc
    exact wpAny_setField_rec z4 (by simp) fun g5 _ b5 => k g5 e (fun x o n1 n2 n3 n4 q => b5.extBut _ _ n1 (b4 _ _ n4 (b3.extBut _ _ n2 (b2.extBut _ _ n3 (b1.extBut _ _ n1 q))))) ⟨oe, b5.extBut _ _ ne ho, hc⟩
/-- a zip between two turns -/
def ZipSt (h : Heap) (z TI TO : Addr) : Prop := IsZip h z TI TO .none ∨ ∃ T f, IsZipHeld h z TI TO T f
theorem ZipSt.obj {h : Heap} {z TI TO : Addr} (q : ZipSt h z TI TO) : ∃ fs, h.get? z = some { cls := .type "zip", dict := none, data := .fields fs, slots := #[] } := by
  rcases q with q | ⟨T, f, q⟩ <;> exact ⟨_, q⟩
/-- next of it, from within a builtin -/
theorem zip_any_item {z TI TO p1 p2 a b : Addr} {m n : Nat} {us vs : Array Value} {u v c d : Value} {Q : Value → Shared → Prop} (D : ZipApart z TI TO p1 p2 a b)
    (hz : ZipSt s.heap z TI TO) (hI : IsPair s.heap TI (.ref p1) (.ref p2)) (hO : IsPair s.heap TO c d)
    (q1 : s.heap.IsListIter p1 a m) (q2 : s.heap.IsListIter p2 b n) (la : s.heap.IsList a us) (lb : s.heap.IsList b vs) (hu : us[m]? = some u) (hv : vs[n]? = some v)
    (k : ∀ h', ZipSt h' z TI TO → (∃ c' d', IsPair h' TO c' d') → h'.IsListIter p1 a (m + 1) → h'.IsListIter p2 b (n + 1) → IsPair h' s.heap.objs.size u v → h'.objs.size = s.heap.objs.size + 1 →
      (∀ x o, x ≠ z → x ≠ TO → x ≠ p1 → x ≠ p2 → s.heap.get? x = some o → h'.get? x = some o) → Q (.ref s.heap.objs.size) { s with heap := h' }) :
    wpAny (model prog w) A (Builtin.SmallTypes.nextOf (.ref z)) Q E s := by
  obtain ⟨fs, ho⟩ := hz.obj
  have hT : s.TypeIs (.ref z) "zip" := ⟨_, ho, rfl⟩
  unfold Builtin.SmallTypes.nextOf
  refine wpAny_bind (wpAny_callSpecial?_slot (name := Str.ofString "__next__") hT F.slot_zip_next (wpAny_call_entry F.slot_zip_next hT F.entry_zip_next ?_ (F.args_zip_next_1 _)))
  rcases hz with hz | ⟨T, f, hz⟩
  · exact zip_next_item D hz hI hO q1 q2 la lb hu hv fun h' w1 w2 w3 w4 w5 w6 w7 => wpAny_pure (k h' (.inr ⟨_, _, w1⟩) ⟨_, _, w2⟩ w3 w4 w5 w6 w7)
  · cases g : s.heap.get? T with
    | none => exact zip_gone_item D hz g hI hO q1 q2 la lb hu hv fun h' w1 w2 w3 w4 w5 w6 w7 => wpAny_pure (k h' (.inr ⟨_, _, w1⟩) ⟨_, _, w2⟩ w3 w4 w5 w6 w7)
    | some oT => exact zip_next_item_held D hz g hI q1 q2 la lb hu hv fun h' w1 w2 w3 w4 w5 w6 => wpAny_pure (k h' (.inr ⟨_, _, w1⟩) ⟨_, _, w6 _ _ D.TOz D.TOi1 D.TOi2 hO⟩ w2 w3 w4 w5 fun x o n1 _ n3 n4 e => w6 x o n1 n3 n4 e)
theorem zip_any_end {z TI TO p1 p2 a b : Addr} {m n : Nat} {us vs : Array Value} {c d : Value} {Q : Value → Shared → Prop} (hh : A.handled = none) (D : ZipApart z TI TO p1 p2 a b)
    (hz : ZipSt s.heap z TI TO) (hI : IsPair s.heap TI (.ref p1) (.ref p2)) (hO : IsPair s.heap TO c d)
    (q1 : s.heap.IsListIter p1 a m) (q2 : s.heap.IsListIter p2 b n) (la : s.heap.IsList a us) (lb : s.heap.IsList b vs) (hend : us[m]? = none ∨ vs[n]? = none)
    (k : ∀ h' e, (∀ x o, x ≠ z → x ≠ TO → x ≠ p1 → x ≠ p2 → s.heap.get? x = some o → h'.get? x = some o) → (∃ o, h'.get? e = some o ∧ o.cls = .type "StopIteration") → E (.ref e) { s with heap := h' }) :
    wpAny (model prog w) A (Builtin.SmallTypes.nextOf (.ref z)) Q E s := by
  obtain ⟨fs, ho⟩ := hz.obj
  have hT : s.TypeIs (.ref z) "zip" := ⟨_, ho, rfl⟩
  unfold Builtin.SmallTypes.nextOf
  refine wpAny_bind (wpAny_callSpecial?_slot (name := Str.ofString "__next__") hT F.slot_zip_next (wpAny_call_entry F.slot_zip_next hT F.entry_zip_next ?_ (F.args_zip_next_1 _)))
  rcases hz with hz | ⟨T, f, hz⟩
  · exact zip_next_end hh D hz hI hO q1 q2 la lb hend k
  · cases g : s.heap.get? T with
    | none => exact zip_gone_end hh D hz g hI hO q1 q2 la lb hend k
    | some oT => exact zip_next_end_held hh D hz g hI q1 q2 la lb hend fun h' e w1 w2 => k h' e (fun x o n1 _ n3 n4 q => w1 x o n1 n3 n4 q) w2
/-- a turn of enumerate over whatever -/
theorem enum_turn {e it : Addr} {i : Nat} {old : Value} {Q : Value → Shared → Prop} (he : IsEnum s.heap e it ((i : Nat) : Int) old)
    (hn : wpAny (model prog w) A (Builtin.SmallTypes.nextOf (.ref it)) (fun x s1 => IsEnum s1.heap e it ((i : Nat) : Int) old ∧ ∀ h', IsEnumOut h' e it ((i : Int) + 1) x s1.heap.objs.size → h'.get? s1.heap.objs.size = some { cls := .type "tuple", data := .seq #[.int i s1.toks, x] } →
      h'.objs.size = s1.heap.objs.size + 1 → (∀ b o, b ≠ e → s1.heap.get? b = some o → h'.get? b = some o) → Q (.ref s1.heap.objs.size) { s1 with heap := h', toks := s1.toks + 1 }) E s) :
    wpAny (model prog w) A (Builtin.«enumerate.__next__» ⟨[.ref e], []⟩) (fun out s' => ∃ r, out = .done (.ret r) ∧ Q r s') E s := by
  show wpAny _ A (field (.ref e) 2 >>= _) _ _ _
  refine wpAny_bind (wpAny_field he rfl (x := Value.ref it) rfl ?_)
  refine wpAny_bind (wpAny_mono hn (fun x s1 z => ?_) fun _ _ z => z)
  obtain ⟨e1, k⟩ := z
  obtain ⟨hp, g, d, tk, os⟩ := s1
  show wpAny _ A (field (.ref e) 3 >>= _) _ _ _
  refine wpAny_bind (wpAny_field e1 rfl (x := rawInt i) rfl ?_)
  show wpAny _ A (field (.ref e) 4 >>= _) _ _ _
  refine wpAny_bind (wpAny_field e1 rfl (x := Value.none) rfl ?_)
  show wpAny _ A (mkInt i >>= _) _ _ _
  refine wpAny_bind (wpAny_mkInt ?_)
  show wpAny _ A (setField (.ref e) 3 (rawInt ((i : Int) + 1)) >>= _) _ _ _
  refine wpAny_bind (wpAny_setField_rec e1 (by simp) fun g2 e2 b2 => ?_)
  replace b2 : Heap.SameBut e hp g2 := b2
  replace e2 : IsEnum g2 e it ((i : Int) + 1) old := e2
  show wpAny _ A (setField (.ref e) 4 .none >>= _) _ _ ⟨g2, g, d, tk + 1, os⟩
  refine wpAny_bind (wpAny_setField_rec e2 (by simp) fun g3 e3 b3 => ?_)
  replace b3 : Heap.SameBut e g2 g3 := b3
  replace e3 : IsEnum g3 e it ((i : Int) + 1) old := e3
  show wpAny _ A (newTuple [.int i tk, x] >>= _) _ _ ⟨g3, g, d, tk + 1, os⟩
  refine wpAny_bind (wpAny_newTuple ?_)
  have sz : g3.objs.size = hp.objs.size := by rw [b3.1, b2.1]
  have lt : e < hp.objs.size := Heap.lt_size e1
  have e4 : IsEnum (g3.push { cls := .type "tuple", data := .seq #[.int i tk, x] }) e it ((i : Int) + 1) old := Heap.get?_push_of_some _ e3
  have t4 : (g3.push { cls := .type "tuple", data := .seq #[.int i tk, x] }).get? hp.objs.size = some { cls := .type "tuple", data := .seq #[.int i tk, x] } := by rw [← sz]; exact Heap.get?_push_size _ rfl
  have s4 : (g3.push { cls := .type "tuple", data := .seq #[.int i tk, x] }).objs.size = hp.objs.size + 1 := by rw [Heap.size_push, sz]
  have k4 : ∀ b o, b ≠ e → hp.get? b = some o → (g3.push { cls := .type "tuple", data := .seq #[.int i tk, x] }).get? b = some o := fun b o n q => Heap.get?_push_of_some _ (b3.extBut b o n (b2.extBut b o n q))
  show wpAny _ A (Builtin.SmallTypes.ownedTupleIsFree (.ref e) >>= _) _ _ ⟨g3.push { cls := .type "tuple", data := .seq #[.int i tk, x] }, g, d, tk + 1, os⟩
  rw [sz]
  generalize g3.push { cls := .type "tuple", data := .seq #[.int i tk, x] } = g4 at e4 t4 s4 k4
  refine wpAny_bind ?_
  unfold Builtin.SmallTypes.ownedTupleIsFree
  refine wpAny_bind (wpAny_field e4 rfl (x := Value.none) rfl (wpAny_pure ?_))
  simp only [if_true]
  refine wpAny_bind (wpAny_rule ?_)
  refine wpAny_bind (wpAny_field e4 rfl (x := old) rfl ?_)
  refine wpAny_bind (wpAny_setField_rec e4 (by simp) fun g5 e5 b5 => ?_)
  replace b5 : Heap.SameBut e g4 g5 := b5
  replace e5 : IsEnum g5 e it ((i : Int) + 1) x := e5
  show wpAny _ A (Builtin.SmallTypes.ownedTupleHandOut (.ref e) (.ref hp.objs.size) >>= _) _ _ ⟨g5, g, d, tk + 1, os⟩
  refine wpAny_bind ?_
  unfold Builtin.SmallTypes.ownedTupleHandOut
  refine wpAny_bind (wpAny_setField_rec e5 (by simp) fun g6 e6 b6 => ?_)
  replace b6 : Heap.SameBut e g5 g6 := b6
  replace e6 : IsEnumOut g6 e it ((i : Int) + 1) x hp.objs.size := e6
  refine wpAny_setField_rec e6 (by simp) fun g7 e7 b7 => ?_
  replace b7 : Heap.SameBut e g6 g7 := b7
  replace e7 : IsEnumOut g7 e it ((i : Int) + 1) x hp.objs.size := e7
  refine wpAny_bind (wpAny_letGo (wpAny_pure ⟨_, rfl, k g7 e7 ?_ ?_ ?_⟩))
  · exact b7.extBut _ _ (Nat.ne_of_gt lt) (b6.extBut _ _ (Nat.ne_of_gt lt) (b5.extBut _ _ (Nat.ne_of_gt lt) t4))
  · show g7.objs.size = hp.objs.size + 1
    rw [b7.1, b6.1, b5.1, s4]
  · exact fun b o n q => b7.extBut b o n (b6.extBut b o n (b5.extBut b o n (k4 b o n q)))
theorem ez_item {e z TI TO p1 p2 a b : Addr} {i m n : Nat} {old : Value} {us vs : Array Value} {u v c d : Value} {Q : Option Value → Shared → Prop} (D : ZipApart z TI TO p1 p2 a b) (De : e ≠ z ∧ e ≠ TO ∧ e ≠ p1 ∧ e ≠ p2)
    (he : IsEnum s.heap e z ((i : Nat) : Int) old) (hz : ZipSt s.heap z TI TO) (hI : IsPair s.heap TI (.ref p1) (.ref p2)) (hO : IsPair s.heap TO c d)
    (q1 : s.heap.IsListIter p1 a m) (q2 : s.heap.IsListIter p2 b n) (la : s.heap.IsList a us) (lb : s.heap.IsList b vs) (hu : us[m]? = some u) (hv : vs[n]? = some v)
    (k : ∀ h1, ZipSt h1 z TI TO → (∃ c' d', IsPair h1 TO c' d') → h1.IsListIter p1 a (m + 1) → h1.IsListIter p2 b (n + 1) → IsPair h1 s.heap.objs.size u v → h1.objs.size = s.heap.objs.size + 1 →
      (∀ x o, x ≠ z → x ≠ TO → x ≠ p1 → x ≠ p2 → s.heap.get? x = some o → h1.get? x = some o) →
      ∀ h2, IsEnumOut h2 e z ((i : Int) + 1) (.ref s.heap.objs.size) (s.heap.objs.size + 1) → h2.get? (s.heap.objs.size + 1) = some { cls := .type "tuple", data := .seq #[.int i s.toks, .ref s.heap.objs.size] } →
      (∀ b o, b ≠ e → h1.get? b = some o → h2.get? b = some o) → Q (some (.ref (s.heap.objs.size + 1))) { s with heap := h2, toks := s.toks + 1 }) :
    wpAny (model prog w) A (pyNext (.ref e)) Q E s := by
  have hT : s.TypeIs (.ref e) "enumerate" := ⟨_, he, rfl⟩
  unfold pyNext
  refine wpAny_bind (wpAny_attempt (wpAny_callSpecial?_slot (name := Str.ofString "__next__") hT F.slot_enumerate_next (wpAny_call_entry F.slot_enumerate_next hT F.entry_enumerate_next ?_ (F.args_enumerate_next_1 _))))
  refine enum_turn he (zip_any_item D hz hI hO q1 q2 la lb hu hv fun h1 w1 w2 w3 w4 w5 w6 w7 => ⟨w7 _ _ De.1 De.2.1 De.2.2.1 De.2.2.2 he, fun h2 x1 x2 x3 x4 => wpAny_pure ?_⟩)
  have sz : h1.objs.size = s.heap.objs.size + 1 := w6
  have x1' : IsEnumOut h2 e z ((i : Int) + 1) (.ref s.heap.objs.size) h1.objs.size := x1
  have x2' : h2.get? h1.objs.size = some { cls := .type "tuple", data := .seq #[.int i s.toks, .ref s.heap.objs.size] } := x2
  show Q (some (.ref h1.objs.size)) _
  rw [sz] at x1' x2' ⊢
  exact k h1 w1 w2 w3 w4 w5 w6 w7 h2 x1' x2' x4
theorem ez_end {e z TI TO p1 p2 a b : Addr} {i m n : Nat} {old : Value} {us vs : Array Value} {c d : Value} {Q : Option Value → Shared → Prop} (hh : A.handled = none) (D : ZipApart z TI TO p1 p2 a b)
    (he : IsEnum s.heap e z ((i : Nat) : Int) old) (hz : ZipSt s.heap z TI TO) (hI : IsPair s.heap TI (.ref p1) (.ref p2)) (hO : IsPair s.heap TO c d)
    (q1 : s.heap.IsListIter p1 a m) (q2 : s.heap.IsListIter p2 b n) (la : s.heap.IsList a us) (lb : s.heap.IsList b vs) (hend : us[m]? = none ∨ vs[n]? = none)
    (k : ∀ h', (∀ x o, x ≠ z → x ≠ TO → x ≠ p1 → x ≠ p2 → s.heap.get? x = some o → h'.get? x = some o) → Q none { s with heap := h' }) :
    wpAny (model prog w) A (pyNext (.ref e)) Q E s := by
  have hT : s.TypeIs (.ref e) "enumerate" := ⟨_, he, rfl⟩
  unfold pyNext
  refine wpAny_bind (wpAny_attempt (wpAny_callSpecial?_slot (name := Str.ofString "__next__") hT F.slot_enumerate_next (wpAny_call_entry F.slot_enumerate_next hT F.entry_enumerate_next ?_ (F.args_enumerate_next_1 _))))
  show wpAny _ _ (field (.ref e) 2 >>= _) _ _ _
  refine wpAny_bind (wpAny_field he rfl (x := Value.ref z) rfl ?_)
  refine wpAny_bind (zip_any_end hh D hz hI hO q1 q2 la lb hend fun h' x w1 w2 => ?_)
  obtain ⟨o, ho, hc⟩ := w2
  exact wpAny_bind (wpAny_isInstance (T := "StopIteration") (b := true) ⟨o, ho, hc⟩ isSubtype_stop (wpAny_pure (k _ w1)))
/-- enumerate of a zip, made -/
theorem enum_of_zip (z : Addr) (fs : Array Value) : Meets (Builtin.«enumerate.__new__» ⟨[.type "enumerate", .ref z], []⟩) (fun _ R s => s.heap.get? z = some { cls := .type "zip", dict := none, data := .fields fs, slots := #[] } ∧
    R (.ok (.ret (.ref s.heap.objs.size))) { s with heap := s.heap.push { cls := .type "enumerate", data := .fields #[.none, .bool false, .ref z, rawInt 0, .none, .none] } }) :=
  .of_wp fun prog w A R s h => by
    obtain ⟨hp, g, d, tk, os⟩ := s; obtain ⟨hz, h⟩ := h
    have sub := sub_enumerate
    have it : ∀ (B : Around) (E : Value → Shared → Prop) (Q : Value → Shared → Prop), Q (.ref z) ⟨hp, g, d, tk, os⟩ → wpAny (model prog w) B (pyIter (.ref z)) Q E ⟨hp, g, d, tk, os⟩ := fun B E Q q => by
      have hT : (⟨hp, g, d, tk, os⟩ : Shared).TypeIs (.ref z) "zip" := ⟨_, hz, rfl⟩
      refine wpAny_pyIter_slot hT F.slot_zip_iter (wpAny_call_entry F.slot_zip_iter hT F.entry_zip_iter ?_ (F.args_zip_iter_1 _))
      show wpAny _ _ (ret (.ref z)) _ _ _
      exact wpAny_pure ⟨_, rfl, "zip", _, hT, F.slot_zip_next.lookup, q⟩
    wp_walk using AutoSeq1.wpAny_loadPart' hz
    refine wpAny_stack_any fun st => wpAny_pure ?_
    split
    · rename_i c _ _ _ _ _
      cases (c == Value.type "enumerate")
      · wp_walk using AutoSeq1.wpAny_loadPart' hz, it
        exact ⟨_, rfl, h⟩
      · wp_walk using AutoSeq1.wpAny_loadPart' hz, it
        exact ⟨_, rfl, h⟩
    · wp_walk using AutoSeq1.wpAny_loadPart' hz, it
      exact ⟨_, rfl, h⟩
theorem call_enum_zip {z : Addr} {fs : Array Value} {Q : Value → Shared → Prop} (hz : s.heap.get? z = some { cls := .type "zip", dict := none, data := .fields fs, slots := #[] })
    (k : ∀ h', IsEnum h' s.heap.objs.size z 0 .none → (∀ b o, s.heap.get? b = some o → h'.get? b = some o) → Q (.ref s.heap.objs.size) { s with heap := h' }) :
    wpAny (model prog w) A (call (.type "enumerate") [.ref z]) Q E s := by
  refine callType_new F.called_enumerate (by decide) (F.typeCall_enumerate_1 _) (F.newCall_enumerate_1 _) (fun obj => F.args_object_init_2 obj _) F.entry_enumerate_new (enum_of_zip z fs) ⟨hz, ?_⟩
  have g : IsEnum (s.heap.push { cls := .type "enumerate", data := .fields #[.none, .bool false, .ref z, rawInt 0, .none, .none] }) s.heap.objs.size z 0 .none := Heap.get?_push_size _ rfl
  exact ⟨⟨_, g, rfl⟩, k _ g fun b o q => Heap.get?_push_of_some _ q⟩
end
end EX
/-! The widened data layer I: enumerate(zip(a, b)) walked. -/
namespace EX
open PySem PySem.Spec PyProof.Rows L2
/-- at each turn the next pair of the lists at a and b, numbered -/
def Itez (K : PySem.W.Frag) (a b : Addr) : It :=
  ⟨fun i H => ∃ (xs ys : List V) (x y : V), SqL K H a xs ∧ SqL K H b ys ∧ xs[i]? = some x ∧ ys[i]? = some y,
    fun i H v H' => ∃ P T x y, v = .ref T ∧ H P = none ∧ upd H P (.tup [x, y]) T = none ∧ H' = upd (upd H P (.tup [x, y])) T (.tup [.int (i : Nat), .ref P]) ∧ (∀ xs, SqL K H a xs → xs[i]? = some x) ∧ ∀ ys, SqL K H b ys → ys[i]? = some y,
    fun i H => ∃ xs ys : List V, SqL K H a xs ∧ SqL K H b ys ∧ (xs.length ≤ i ∨ ys.length ≤ i)⟩
theorem turn_ez {P : Program} {w : World} {K : PySem.W.Frag} {elts : List Expr} {kk : Nat} {tpos : Pos} {a b e z TI TO p1 p2 : Addr} (D : ZipApart z TI TO p1 p2 a b) (De : e ≠ z ∧ e ≠ TI ∧ e ≠ TO ∧ e ≠ p1 ∧ e ≠ p2) :
    Turn P w K (.Tuple elts kk tpos) (Itez K a b) [e, z, TI, TO, p1, p2] e (fun i h => (∃ old, IsEnum h e z ((i : Nat) : Int) old) ∧ ZipSt h z TI TO ∧ IsPair h TI (.ref p1) (.ref p2) ∧ (∃ c d, IsPair h TO c d) ∧ h.IsListIter p1 a i ∧ h.IsListIter p2 b i) where
  mem := by simp
  obj := fun i h st c hc => by
    obtain ⟨⟨old, he⟩, hz, hI, ⟨x, y, hO⟩, ⟨o1, e1, _, d1⟩, ⟨o2, e2, _, d2⟩⟩ := st
    obtain ⟨fs, hz⟩ := hz.obj
    have e' : c = e ∨ c = z ∨ c = TI ∨ c = TO ∨ c = p1 ∨ c = p2 := by simpa using hc
    rcases e' with q | q | q | q | q | q
    · rw [q]; exact ⟨_, he, fun v q => nomatch q⟩
    · rw [q]; exact ⟨_, hz, fun v q => nomatch q⟩
    · rw [q]; exact ⟨_, hI, fun v q => nomatch q⟩
    · rw [q]; exact ⟨_, hO, fun v q => nomatch q⟩
    · rw [q]; exact ⟨o1, e1, fun v q => by rw [d1] at q; cases q⟩
    · rw [q]; exact ⟨o2, e2, fun v q => by rw [d2] at q; cases q⟩
  keep := fun i h h' st k => by
    obtain ⟨⟨old, he⟩, hz, hI, ⟨x, y, hO⟩, h1, h2⟩ := st
    refine ⟨⟨old, k e (by simp) _ he⟩, ?_, k TI (by simp) _ hI, ⟨x, y, k TO (by simp) _ hO⟩, h1.at fun o q => k p1 (by simp) o q, h2.at fun o q => k p2 (by simp) o q⟩
    rcases hz with hz | ⟨T, f, hz⟩
    · exact .inl (k z (by simp) _ hz)
    · exact .inr ⟨T, f, k z (by simp) _ hz⟩
  item := by
    intro X hP hw hK hc i pins s σ H E I hf st hg
    subst hP hw hK
    obtain ⟨⟨old, he⟩, hz, hI, ⟨x0, y0, hO⟩, h1, h2⟩ := st
    obtain ⟨xs, ys, x, y, sx, sy, hx, hy⟩ := hg
    obtain ⟨its, rv, l1, _⟩ := I.list sx
    obtain ⟨its2, rv2, l2, _⟩ := I.list sy
    obtain ⟨u, hu, ru⟩ := rv.get hx
    obtain ⟨u2, hu2, ru2⟩ := rv2.get hy
    obtain ⟨fs, hzo⟩ := hz.obj
    have lts : ∀ c ∈ [e, z, TI, TO, p1, p2], c < s.heap.objs.size := fun c hc => by
      have e' : c = e ∨ c = z ∨ c = TI ∨ c = TO ∨ c = p1 ∨ c = p2 := by simpa using hc
      rcases e' with q | q | q | q | q | q
      · rw [q]; exact Heap.lt_size he
      · rw [q]; exact Heap.lt_size hzo
      · rw [q]; exact Heap.lt_size hI
      · rw [q]; exact Heap.lt_size hO
      · rw [q]; obtain ⟨_, e1, _⟩ := h1; exact Heap.lt_size e1
      · rw [q]; obtain ⟨_, e2, _⟩ := h2; exact Heap.lt_size e2
    refine ez_item D ⟨De.1, De.2.2.1, De.2.2.2.1, De.2.2.2.2⟩ he hz hI hO h1 h2 l1.isList l2.isList (u := u) (v := u2) (by simpa using hu) (by simpa using hu2) fun g1 w1 w2 w3 w4 w5 w6 w7 g2 x1 x2 x3 => ?_
    refine ⟨_, rfl, wpAny_letOwnedTupleGo_enum (s := { s with heap := g2, toks := s.toks + 1 }) x1 fun g3 y1 sb => ?_⟩
    have s1 : s.heap.objs.size < g1.objs.size := by rw [w6]; exact Nat.lt_succ_self _
    have new1 : ObjOk X.prog X.w (upd H s.heap.objs.size (.tup [x, y])) g1 s.heap.objs.size (.tup [x, y]) := ⟨by show 2 ≤ sizeLine; decide, [u, u2], .cons ru (.cons ru2 .nil), ⟨_, w5, rfl, _, rfl⟩⟩
    have I1 : Inv X pins σ (upd H s.heap.objs.size (.tup [x, y])) { s with heap := g1, toks := s.toks } :=
      I.turnedNew (ch := [e, z, TI, TO, p1, p2]) (fun c o hb q => w7 c o (fun q' => hb (by simp [q'])) (fun q' => hb (by simp [q'])) (fun q' => hb (by simp [q'])) (fun q' => hb (by simp [q'])) q) hf (Nat.le_refl _) new1
    have hf1 : ∀ c ∈ [e], FpOk X pins (upd H s.heap.objs.size (.tup [x, y])) c := fun c hc => by
      have q : c = e := by simpa using hc
      rw [q]
      obtain ⟨f0, f1, f2, f3, f4, f5⟩ := hf e (by simp)
      exact ⟨by rw [upd_ne (Nat.ne_of_lt (Heap.lt_size he))]; exact f0, f1, f2, f3, f4, f5⟩
    have hT : g3.get? (s.heap.objs.size + 1) = some { cls := .type "tuple", data := .seq #[.int i s.toks, .ref s.heap.objs.size] } := (sb.2 _ (Nat.ne_of_gt (Nat.lt_succ_of_lt (Heap.lt_size he)))).trans x2
    have new2 : ObjOk X.prog X.w (upd (upd H s.heap.objs.size (.tup [x, y])) (s.heap.objs.size + 1) (.tup [.int (i : Nat), .ref s.heap.objs.size])) g3 (s.heap.objs.size + 1) (.tup [.int (i : Nat), .ref s.heap.objs.size]) :=
      ⟨by show 2 ≤ sizeLine; decide, [.int i s.toks, .ref s.heap.objs.size], .cons ⟨_, rfl⟩ (.cons rfl .nil), ⟨_, hT, rfl, _, rfl⟩⟩
    have I2 : Inv X pins σ (upd (upd H s.heap.objs.size (.tup [x, y])) (s.heap.objs.size + 1) (.tup [.int (i : Nat), .ref s.heap.objs.size])) { s with heap := g3, toks := s.toks + 1 } :=
      I1.turnedNew (t' := s.toks + 1) (ch := [e]) (fun c o hb q => (sb.2 c (fun q' => hb (by simp [q']))).trans (x3 c o (fun q' => hb (by simp [q'])) q)) hf1 (Nat.le_of_eq w6) new2
    have fresh1 : H s.heap.objs.size = none := I.hok.fresh (Nat.le_refl _)
    have fresh2 : upd H s.heap.objs.size (.tup [x, y]) (s.heap.objs.size + 1) = none := by rw [upd_ne (Nat.ne_of_gt (Nat.lt_succ_self _))]; exact I.hok.fresh (Nat.le_succ _)
    have up : ∀ c o, c ≠ e → g1.get? c = some o → g3.get? c = some o := fun c o n q => (sb.2 c n).trans (x3 c o n q)
    refine ⟨.ref (s.heap.objs.size + 1), _, I2, rfl, ⟨_, _, x, y, rfl, fresh1, fresh2, rfl, fun l hl => by rw [I.list_inj hl sx]; exact hx, fun l hl => by rw [I.list_inj hl sy]; exact hy⟩, ⟨⟨.ref s.heap.objs.size, ?_⟩, ?_, ?_, ?_, ?_, ?_⟩, fun c hcm => ?_⟩
    · have e1 : ((i + 1 : Nat) : Int) = (i : Int) + 1 := by omega
      rw [e1]; exact y1
    · rcases w1 with q | ⟨T, f, q⟩
      · exact .inl (up _ _ (Ne.symm De.1) q)
      · exact .inr ⟨T, f, up _ _ (Ne.symm De.1) q⟩
    · exact up _ _ (Ne.symm De.2.1) (w7 _ _ D.TIz D.TITO D.TIi1 D.TIi2 hI)
    · obtain ⟨c', d', q⟩ := w2
      exact ⟨c', d', up _ _ (Ne.symm De.2.2.1) q⟩
    · exact w3.at fun o q => up _ o (Ne.symm De.2.2.2.1) q
    · exact w4.at fun o q => up _ o (Ne.symm De.2.2.2.2) q
    · have lt := lts c hcm
      rw [upd_ne (Nat.ne_of_lt (Nat.lt_succ_of_lt lt)), upd_ne (Nat.ne_of_lt lt)]
      exact (hf c hcm).1
  done := by
    intro X hP hw hK hc i pins s σ H E I hf st hg
    subst hP hw hK
    obtain ⟨⟨old, he⟩, hz, hI, ⟨x0, y0, hO⟩, h1, h2⟩ := st
    obtain ⟨xs, ys, sx, sy, hend⟩ := hg
    obtain ⟨its, rv, l1, _⟩ := I.list sx
    obtain ⟨its2, rv2, l2, _⟩ := I.list sy
    have n1 := rv.length
    have n2 := rv2.length
    have hn : its.toArray[i]? = none ∨ its2.toArray[i]? = none := by
      rcases hend with q | q
      · exact .inl (by simp; omega)
      · exact .inr (by simp; omega)
    exact ez_end (I.ok.hd hc) D he hz hI hO h1 h2 l1.isList l2.isList hn fun h' hk => ⟨rfl, I.turnedL (t' := s.toks) (ch := [e, z, TI, TO, p1, p2]) (fun c o hb q =>
      hk c o (fun q' => hb (by simp [q'])) (fun q' => hb (by simp [q'])) (fun q' => hb (by simp [q'])) (fun q' => hb (by simp [q'])) q) hf⟩
  self := fun A i s Q E st h => let ⟨⟨_, he⟩, _⟩ := st; wpAny_pyIter_enum he h
def iEnumZip (K : PySem.W.Frag) (ta : TA) : TI := fun σ H R => ta σ H fun vs H1 => ∃ a b xs ys, vs = [.ref a, .ref b] ∧ SqL K H1 a xs ∧ SqL K H1 b ys ∧ R (Itez K a b) H1
theorem pi_enumZip {X : Cx} {e e2 : Expr} {ta : TA} {p pp pos zpos tpos : Pos} {elts : List Expr} {kk : Nat} (hge : Gl X "enumerate") (hme : X.mg "enumerate" = none) (hgz : Gl X "zip") (hmz : X.mg "zip" = none) (ha : PA X [e, e2] ta)
    (hs : starEach [e, e2] X.env = (false, eval e X.env) :: starEach [e2] X.env := by rfl) (hpl : (backTo zpos (starEach [e2] X.env)).any (·.1) = false := by rfl)
    (ho : starEach [.Call (.Name "zip" pp) [e, e2] [] zpos] X.env = [(false, eval (.Call (.Name "zip" pp) [e, e2] [] zpos) X.env)] := by rfl) :
    PI X (.Tuple elts kk tpos) (.Call (.Name "enumerate" p) [.Call (.Name "zip" pp) [e, e2] [] zpos] [] pos) (iEnumZip X.K ta) := by
  refine ⟨fun pins s σ H R I h => ?_⟩
  refine Call_ (ld_blt I hge hme boot_enumerate (PyProof.Rows.callWith_type1 ?_ ho rfl))
  rw [ho]
  refine Calls.spliced_cons (Call_ (ld_blt I hgz hmz PyProof.Rows.boot_zip (PyProof.Rows.callWith_type1 (thn (ha.run zpos pins s σ H _ I h) fun us s1 ⟨vs, H1, I1, r1, q1⟩ => ?_) hs hpl)))
  obtain ⟨a, b, xs, ys, ex, sx, sy, q⟩ := q1
  subst ex
  cases r1 with
  | cons r rr =>
    cases rr with
    | cons r' rr =>
      cases rr
      cases r
      cases r'
      obtain ⟨its, rv, l1, _⟩ := I1.list sx
      obtain ⟨its2, rv2, l2, _⟩ := I1.list sy
      have la := l1.lt
      have lb := l2.lt
      refine call_zip_2 l1.isList l2.isList fun g1 hz hI hO h1 h2 hsz hk => Calls.spliced_nil ?_
      have lz : s1.heap.objs.size + 4 < g1.objs.size := by rw [hsz]; exact Nat.lt_succ_self _
      refine call_enum_zip (s := { s1 with heap := g1 }) hz fun g2 he hk2 => wpAny_pyIter_enum he ?_
      have I2 : Inv X pins σ H1 { s1 with heap := g2 } := I1.kept (t' := s1.toks) fun b o q => hk2 b o (hk b o q)
      have up : ∀ c o, g1.get? c = some o → g2.get? c = some o := hk2
      refine ⟨g1.objs.size, [g1.objs.size, s1.heap.objs.size + 4, s1.heap.objs.size + 2, s1.heap.objs.size + 3, s1.heap.objs.size, s1.heap.objs.size + 1], _, _, H1, rfl, I2, turn_ez (PySem.W.ktu_apart s1.heap.objs.size a b la lb) ⟨?_, ?_, ?_, ?_, ?_⟩, ⟨⟨_, he⟩, .inl (up _ _ hz), up _ _ hI, ⟨_, _, up _ _ hO⟩, h1.at fun o q => up _ o q, h2.at fun o q => up _ o q⟩, fun c hcm => ?_, q⟩
      · exact Nat.ne_of_gt lz
      · rw [hsz]; exact Nat.ne_of_gt (Nat.add_lt_add_left (by decide) _)
      · rw [hsz]; exact Nat.ne_of_gt (Nat.add_lt_add_left (by decide) _)
      · rw [hsz]; exact Nat.ne_of_gt (Nat.lt_add_of_pos_right (by decide))
      · rw [hsz]; exact Nat.ne_of_gt (Nat.add_lt_add_left (by decide) _)
      · have e' : c = g1.objs.size ∨ c = s1.heap.objs.size + 4 ∨ c = s1.heap.objs.size + 2 ∨ c = s1.heap.objs.size + 3 ∨ c = s1.heap.objs.size ∨ c = s1.heap.objs.size + 1 := by simpa using hcm
        have le : s1.heap.objs.size ≤ c := by
          rcases e' with z | z | z | z | z | z
          · rw [z, hsz]; exact Nat.le_add_right _ _
          · rw [z]; exact Nat.le_add_right _ _
          · rw [z]; exact Nat.le_add_right _ _
          · rw [z]; exact Nat.le_add_right _ _
          · rw [z]; exact Nat.le_refl _
          · rw [z]; exact Nat.le_add_right _ _
        exact I1.fpOk le (I1.hok.fresh le)
/-- .. over data -/
def ezD (xs ys : List Dat) : List Dat := (xs.zip ys).zipIdx.map fun p => .tup [.int (p.2 : Nat), .tup [p.1.1, p.1.2]]
theorem itez_ok {K : Kx} {G0 : Hp} {a b : Addr} {ds es : List Dat} {I : Mem → Prop} (h : ∀ G' H' M', Ex G0 G' → Ex G' H' → MemOk K G' H' M' → I M' → ∃ ys, SqL K.K H' a ys ∧ DPs K G' ys ds) (h' : ∀ G' H' M', Ex G0 G' → Ex G' H' → MemOk K G' H' M' → I M' → ∃ ys, SqL K.K H' b ys ∧ DPs K G' ys es) : ItOk K (Itez K.K a b) (ezD ds es) G0 I := fun G H M i e1 e2 m hI => by
  obtain ⟨xs, hs, r⟩ := h G H M e1 e2 m hI
  obtain ⟨ys, hs', r'⟩ := h' G H M e1 e2 m hI
  unfold ezD
  refine ⟨fun d hd => ?_, fun hl => ⟨xs, ys, hs, hs', by rw [List.length_map, List.length_zipIdx, List.length_zip] at hl; rw [r.len, r'.len]; omega⟩⟩
  rw [List.getElem?_map, List.getElem?_zipIdx] at hd
  cases q : (ds.zip es)[i]? with
  | none => rw [q] at hd; cases hd
  | some p =>
    rw [q] at hd
    have ed : Dat.tup [.int ((0 + i : Nat) : Int), .tup [p.1, p.2]] = d := Option.some.inj hd
    rw [Nat.zero_add] at ed
    subst ed
    obtain ⟨q1, q2⟩ := List.getElem?_zip_eq_some.mp q
    obtain ⟨v, hv, rv⟩ := r.get q1
    obtain ⟨u, hu, ru⟩ := r'.get q2
    refine ⟨⟨xs, ys, v, u, hs, hs', hv, hu⟩, fun x H' hy => ?_⟩
    obtain ⟨P, T, y, z, rfl, hP, hT, rfl, f, g⟩ := hy
    have ex : v = y := Option.some.inj (hv.symm.trans (f xs hs))
    have ex' : u = z := Option.some.inj (hu.symm.trans (g ys hs'))
    subst ex ex'
    have t1 := Stp.alloc (o := .tup [v, u]) e2 m hP
    have t2 := Stp.alloc (o := .tup [.int (i : Nat), .ref P]) t1.ex' t1.mem hT
    have n : P ≠ T := fun z => by rw [← z, upd_same] at hT; cases hT
    refine ⟨_, t1.trans t2, .tup upd_same (.cons (.int _) (.cons (.tup (xs := [v, u]) (by rw [upd_ne n, upd_same]) (.cons ((rv.mono t1.ex).mono t2.ex) (.cons ((ru.mono t1.ex).mono t2.ex) .nil))) .nil))⟩
def diEnumZip (t : DTA) : DTI := fun Γ M Φ => t Γ M fun ds M1 => ∃ x y xs ys, ds = [x, y] ∧ vw M1 x = some xs ∧ vw M1 y = some ys ∧ Φ (ezD xs ys) (fun M => keep x xs M ∧ keep y ys M) M1
theorem di_enumZip {X : Cx} {W : WX} {tr : DTA} {a b : Expr} {p pp pos zpos tpos : Pos} {elts : List Expr} {kk : Nat} (hge : Gl X "enumerate") (hme : X.mg "enumerate" = none) (hgz : Gl X "zip") (hmz : X.mg "zip" = none) (ha : PA X [a, b] (LA (kx X) W tr))
    (hs : starEach [a, b] X.env = (false, eval a X.env) :: starEach [b] X.env := by rfl) (hpl : (backTo zpos (starEach [b] X.env)).any (·.1) = false := by rfl)
    (ho : starEach [.Call (.Name "zip" pp) [a, b] [] zpos] X.env = [(false, eval (.Call (.Name "zip" pp) [a, b] [] zpos) X.env)] := by rfl) :
    PI X (.Tuple elts kk tpos) (.Call (.Name "enumerate" p) [.Call (.Name "zip" pp) [a, b] [] zpos] [] pos) (LI (kx X) W (diEnumZip tr)) := pi_wk (pi_enumZip hge hme hgz hmz ha hs hpl ho) fun σ H R ⟨Γ, G, M, Φ, e, s, m, h, k⟩ =>
  ⟨Γ, G, M, _, e, s, m, h, fun v d G1 H1 M1 t1 r h1 => by
    obtain ⟨x, y, ds, es, rfl, hv, hw, q⟩ := h1
    cases r with
    | cons r1 r2 =>
      cases r2 with
      | cons r2 r3 =>
        cases r3
        obtain ⟨a, xs, rfl, hs, _, st⟩ := vw_at t1.ex' t1.mem r1 hv
        obtain ⟨b, ys, rfl, hs', _, st'⟩ := vw_at t1.ex' t1.mem r2 hw
        exact ⟨a, b, xs, ys, rfl, hs, hs', k _ _ _ G1 H1 M1 t1 (itez_ok (fun G' H' M' a b c d => st G' H' M' a b c d.1) fun G' H' M' a b c d => st' G' H' M' a b c d.2) q⟩⟩
end EX
/-! The widened data layer J: freezing between statements; steps of the newer readings. -/
namespace EX
open PySem PySem.Spec PyProof.Rows L2
section
variable {K : Kx} {W : WX} {G H : Hp} {M : Mem} {σ : L2.St} {Γ : DEnv}
theorem SlO.re {sl : Slots} {i : Nat} {v : V} {d : Dat} (s : SlO K G σ sl) (hv : σ[i]? = some (some v)) (r : DP K G v d) : SlO K G σ (sl.set i (some d)) := by
  refine ⟨by rw [List.length_set]; exact s.1, fun j d' h => ?_⟩
  by_cases q : i = j
  · subst q
    rw [List.getElem?_set_self'] at h
    cases z : sl[i]? with
    | none => rw [z] at h; cases h
    | some o => rw [z] at h; cases h; exact ⟨v, hv, r⟩
  · rw [List.getElem?_set_ne q] at h
    exact s.2 j d' h
/-- what a cell holds may be told otherwise -/
theorem Stp.retell {a : Addr} {c c' : Cell} (e : Ex G H) (m : MemOk K G H M) (hm : M a = some c) (r : CellAt K G H a c') : Stp K G H M G H (M.put a c') := by
  obtain ⟨g0, ca⟩ := m a c hm
  cases q : H a with
  | none => exact absurd q ca.some
  | some o =>
    have z : upd H a o = H := by
      funext b
      by_cases n : b = a
      · rw [n, upd_same, q]
      · rw [upd_ne n]
    have t := Stp.writeC (o := o) (c := c') e m hm (by rw [z]; exact r)
    rw [z] at t
    exact t
end
section
variable {X : Cx} {W : WX} {st : Stmt} {t : DTS}
/-- ahead of the statement, the list of one's own in slot i is told as one that changes no more -/
def dFrzS (i : Nat) (t : DTS) : DTS := fun D Γ M => ∃ a ds, Γ.sl[i]? = some (some (.loc a)) ∧ M a = some (.lst ds) ∧ t D (Γ.set i (some (.lst ds))) (M.del a)
theorem ds_frzS (i : Nat) (h : PS X st (LS (kx X) W t)) : PS X st (LS (kx X) W (dFrzS i t)) := ps_wk h fun D σ H h => by
  obtain ⟨Γ, G, M, DD, e, s, m, ⟨a, ds, hi, hm, h⟩, k⟩ := h.get
  obtain ⟨g0, xs, hx, hr⟩ := m a _ hm
  have t1 := Stp.freeze e m hm hx
  obtain ⟨v, hv, rv⟩ := s.o.2 i _ hi
  cases rv
  have s1 := s.step t1
  exact LS.mk t1.ex' (s1.re (s1.o.re hv (.lst upd_same (hr.mono (Ex.new g0))))) t1.mem h (k.step t1)
/-- .. the list that is the attribute f of the instance in slot i -/
def dFrzF (i : Nat) (f : Str) (t : DTS) : DTS := fun D Γ M => ∃ a c ns ds j l xs, Γ.sl[i]? = some (some (.loc a)) ∧ M a = some (.ins c ns ds) ∧ fldIx f ns = some j ∧ ds[j]? = some (.loc l) ∧ M l = some (.lst xs) ∧ t D Γ ((M.del l).put a (.ins c ns (ds.set j (.lst xs))))
theorem DPs.at_ {K : Kx} {G : Hp} {v : V} {d : Dat} : ∀ {vs : List V} {ds : List Dat} {j : Nat}, DPs K G vs ds → vs[j]? = some v → DP K G v d → DPs K G vs (ds.set j d)
  | _, _, _, .nil, h, _ => by simp at h
  | _, _, 0, .cons a b, h, r => by
    have e : _ = v := Option.some.inj h
    subst e
    exact .cons r b
  | _, _, j + 1, .cons a b, h, r => .cons a (b.at_ (j := j) (by simpa using h) r)
theorem ds_frzF (i : Nat) (f : Str) (h : PS X st (LS (kx X) W t)) : PS X st (LS (kx X) W (dFrzF i f t)) := ps_wk h fun D σ H h => by
  obtain ⟨Γ, G, M, DD, e, s, m, ⟨a, c, ns, ds, j, l, xs, hi, hm, hj, hd, hl, h⟩, k⟩ := h.get
  obtain ⟨g0, ys, hx, hr⟩ := m l _ hl
  have t1 := Stp.freeze e m hl hx
  have n : a ≠ l := fun q => by rw [q, hl] at hm; cases hm
  have hm1 : M.del l a = some (.ins c ns ds) := by rw [Mem.del_ne n]; exact hm
  obtain ⟨g1, C, dx, vs, h1, h2, h3, h4, h5⟩ := t1.mem a _ hm1
  obtain ⟨v, hv, rv⟩ := h5.get hd
  cases rv
  have t2 := Stp.retell t1.ex' t1.mem hm1 (c' := .ins c ns (ds.set j (.lst xs))) ⟨C, dx, vs, h1, h2, h3, h4, h5.at_ hv (.lst upd_same (hr.mono (Ex.new g0)))⟩
  have t := t1.trans t2
  exact LS.mk t2.ex' (s.step t) t2.mem h (k.step t)
end
section
variable {Γ : DEnv} {M : Mem} {D : DEnds}
theorem w_frzS {i : Nat} {t : DTS} {a : Addr} {ds : List Dat} (hi : Γ.sl[i]? = some (some (.loc a))) (hm : M a = some (.lst ds)) (h : t D (Γ.set i (some (.lst ds))) (M.del a)) : dFrzS i t D Γ M := ⟨a, ds, hi, hm, h⟩
theorem w_diEnumZip {t : DTA} {Φ : List Dat → (Mem → Prop) → Mem → Prop} (h : t Γ M fun ds M1 => ∃ x y xs ys, ds = [x, y] ∧ vw M1 x = some xs ∧ vw M1 y = some ys ∧ Φ (ezD xs ys) (fun M => keep x xs M ∧ keep y ys M) M1) : diEnumZip t Γ M Φ := h
theorem w_fld {cs : List Str} {f : Str} {to : DTE} {Φ : Dat → Mem → Prop} (h : to Γ M fun d M1 => ∃ c ns ds i v, insAt M1 d = some (c, ns, ds) ∧ c ∈ cs ∧ fldIx f ns = some i ∧ ds[i]? = some v ∧ Φ v M1) : dFld cs f to Γ M Φ := h
theorem w_setF {cs : List Str} {f : Str} {to te : DTE} (h : te Γ M fun v M1 => to Γ M1 fun o M2 => ∃ a c ns ds, o = .loc a ∧ M2 a = some (.ins c ns ds) ∧ c ∈ cs ∧ ns.length < 1000 ∧ D.nx Γ (M2.put a (.ins c (putN f ns) (putX f v ns ds)))) : dSetF cs f to te D Γ M := h
theorem w_meth {tab : List (Str × DFnX)} {m : Str} {to : DTE} {ta : DTA} {Φ : Dat → Mem → Prop} (h : to Γ M fun o M1 => ∃ c ns fs sp, insAt M1 o = some (c, ns, fs) ∧ (c, sp) ∈ tab ∧ fldIx m ns = none ∧ ta Γ M1 fun ds M2 => sp (o :: ds) M2 Φ (exAt Γ)) : dMeth tab m to ta Γ M Φ := h
theorem w_make {md : DMade} {c : Str} {sp : DFnX} {ta : DTA} {Φ : Dat → Mem → Prop} (h : ta Γ M fun ds M1 => ∀ a, M1 a = none → sp (.loc a :: ds) (M1.put a (.ins c [] [])) (fun d M2 => d = .non ∧ md a M2 Φ) (fun c ns fs M2 => exAt Γ c ns fs (M2.del a))) : dMake md c sp ta Γ M Φ := h
theorem w_isiC {tab : List (Ty × Ty × Bool)} {x y : Dat} {t c : Ty} {b : Bool} {Φ : Dat → Mem → Prop} (h1 : tyOf M x = some t) (h2 : clsD y = some c) (h3 : (t, c, b) ∈ tab) (h : Φ (.bl b) M) : oIsiC tab [x, y] M Φ := ⟨x, y, t, c, b, rfl, h1, h2, h3, h⟩
theorem w_orV {ta tb : DTE} {Φ : Dat → Mem → Prop} (h : ta Γ M (onB fun c M1 => if c = true then Φ (.bl true) M1 else tb Γ M1 Φ)) : dOrV ta tb Γ M Φ := h
theorem w_setF2 {cs cs' : List Str} {f f' : Str} {to to' te : DTE} (h : te Γ M fun v M1 => ∃ x y, v = .tup [x, y] ∧
  to Γ M1 fun o M2 => ∃ a c ns ds, o = .loc a ∧ M2 a = some (.ins c ns ds) ∧ c ∈ cs ∧ ns.length < 1000 ∧
  to' Γ (M2.put a (.ins c (putN f ns) (putX f x ns ds))) fun o' M3 => ∃ a' c' ns' ds', o' = .loc a' ∧ M3 a' = some (.ins c' ns' ds') ∧ c' ∈ cs' ∧ ns'.length < 1000 ∧ D.nx Γ (M3.put a' (.ins c' (putN f' ns') (putX f' y ns' ds')))) : dSetF2 cs f cs' f' to to' te D Γ M := h
end
end EX
/-! The widened data layer K: small helps for readings. -/
namespace EX
open PySem PySem.Spec PyProof.Rows L2
/-- a row of numbers, frozen -/
def rowD (r : List Int) : Dat := .lst (r.map .int)
def natsD (r : List Nat) : List Dat := r.map fun k => .int (k : Nat)
def RowAt (M : Mem) (d : Dat) (r : List Int) : Prop := vw M d = some (r.map .int)
theorem RowAt.rd {M : Mem} {r : List Int} : RowAt M (rowD r) r := rfl
theorem RowAt.sub {M M1 : Mem} {d : Dat} {r : List Int} (h : RowAt M d r) (s : Sub M M1) : RowAt M1 d r := s.vw h
theorem vq_vw {M : Mem} {d : Dat} {ds : List Dat} (h : vw M d = some ds) : vq M d = some ds := by
  cases d <;> first | exact h | cases h
theorem atI_nat {α : Type} {xs : List α} {i : Nat} {x : α} (h : xs[i]? = some x) : atI xs (i : Int) = some x := by
  have hl : i < xs.length := (List.getElem?_eq_some_iff.mp h).1
  unfold atI ixN
  rw [if_pos (by omega), if_pos (by omega)]
  show xs[(i : Int).toNat]? = some x
  rw [Int.toNat_natCast]; exact h
theorem atI_last {α : Type} {xs : List α} {x : α} (h : xs[xs.length - 1]? = some x) : atI xs (-1) = some x := by
  have hl : xs.length - 1 < xs.length := (List.getElem?_eq_some_iff.mp h).1
  unfold atI ixN
  rw [if_neg (by omega), if_pos (by omega)]
  show xs[(((xs.length : Nat) : Int) + -1).toNat]? = some x
  rw [show (((xs.length : Nat) : Int) + -1).toNat = xs.length - 1 by omega]
  exact h
/-- an item -/
theorem ix_at {M : Mem} {d x : Dat} {ds : List Dat} {j : Nat} {Φ : Dat → Mem → Prop} (h : vq M d = some ds) (hj : ds[j]? = some x) (k : Φ x M) : oIx d (.int (j : Nat)) M Φ := ⟨_, _, _, h, rfl, atI_nat hj, k⟩
theorem ix_last {M : Mem} {d x : Dat} {ds : List Dat} {Φ : Dat → Mem → Prop} (h : vq M d = some ds) (hj : ds[ds.length - 1]? = some x) (k : Φ x M) : oIx d (.int (-1)) M Φ := ⟨_, _, _, h, rfl, atI_last hj, k⟩
theorem get_ints {r : List Int} {j : Nat} (h : j < r.length) : (r.map Dat.int)[j]? = some (.int (r.getD j 0)) := by
  rw [List.getElem?_map, List.getElem?_eq_getElem h, List.getD_eq_getElem?_getD, List.getElem?_eq_getElem h]
  rfl
/-- row[j] -/
theorem ix_row {M : Mem} {d : Dat} {r : List Int} {j : Nat} {Φ : Dat → Mem → Prop} (h : RowAt M d r) (hj : j < r.length) (k : Φ (.int (r.getD j 0)) M) : oIx d (.int (j : Nat)) M Φ := ix_at (vq_vw h) (get_ints hj) k
theorem ix_rowL {M : Mem} {d : Dat} {r : List Int} {Φ : Dat → Mem → Prop} (h : RowAt M d r) (hj : 0 < r.length) (k : Φ (.int (r.getD (r.length - 1) 0)) M) : oIx d (.int (-1)) M Φ := by
  refine ix_last (vq_vw h) ?_ k
  rw [List.length_map]
  exact get_ints (by omega)
theorem zipD_ints (r o : List Int) : zipD (r.map .int) (o.map .int) = (r.zip o).map fun p => .tup [.int p.1, .int p.2] := by
  unfold zipD
  rw [List.zip_map, List.map_map]
  rfl
theorem paired_map {α β γ : Type} {F : β → γ → Prop} {f : α → β} {g : α → γ} : ∀ (xs : List α), (∀ x ∈ xs, F (f x) (g x)) → Paired F (xs.map f) (xs.map g)
  | [], _ => .nil
  | x :: xs, h => .cons (h x List.mem_cons_self) (paired_map xs fun y hy => h y (List.mem_cons_of_mem _ hy))
theorem paired_self {α β : Type} {F : β → α → Prop} {f : α → β} : ∀ (xs : List α), (∀ x ∈ xs, F (f x) x) → Paired F (xs.map f) xs
  | [], _ => .nil
  | x :: xs, h => .cons (h x List.mem_cons_self) (paired_self xs fun y hy => h y (List.mem_cons_of_mem _ hy))
theorem paired_eq {α β : Type} {f : β → α} {ys : List α} {xs : List β} (h : Paired (fun y x => y = f x) ys xs) : ys = xs.map f := by
  induction h with
  | nil => rfl
  | cons e _ ih => rw [e, ih]; rfl
theorem filter_all {α : Type} (xs : List α) : xs.filter (fun _ => true) = xs := List.filter_eq_self.mpr fun _ _ => rfl
theorem line_of {n : Nat} (h : n ≤ 100000) : n ≤ sizeLine := by rw [sizeLine_eq]; omega
theorem oEq_ii {neg : Bool} {a b : Int} {M : Mem} {Φ : Dat → Mem → Prop} (h : Φ (.bl (if neg then !decide (a = b) else decide (a = b))) M) : oEq neg (.int a) (.int b) M Φ := oEq_enc (α := Int) (by decide) h
/-- a comparison of a list with [] -/
theorem oEq_nil {α : Type} [E : Enc α] {neg : Bool} {xs : List α} {x : Dat} {M : Mem} {Φ : Dat → Mem → Prop} (hx : toP M x = some (Enc.p xs)) (hd : E.dep ≤ 63) (h : Φ (.bl (if neg then !decide (xs = []) else decide (xs = []))) M) : oEq neg x (.lst []) M Φ := by
  refine oEq_of (α := List α) (a := xs) (b := []) hx (E := inferInstance) rfl ?_ ?_
  · show E.dep + 1 ≤ 64; omega
  · have e : ∀ D : Decidable (xs = []), @decide (xs = []) D = decide (xs = []) := fun D => by congr
    rw [e]
    exact h
theorem toP_row {M : Mem} {r : List Int} : toP M (.lst (r.map .int)) = some (Enc.p r) := Enc.tp (α := List Int) M r
/-- an empty list, of whatever -/
theorem oEq_empty {neg : Bool} {M : Mem} {Φ : Dat → Mem → Prop} (h : Φ (.bl (!neg)) M) : oEq neg (.lst []) (.lst []) M Φ := by
  refine oEq_nil (α := Int) (xs := []) (toP_row (r := [])) (by decide) ?_
  cases neg <;> exact h
theorem oEq_str {neg c : Bool} {a b : Str} {M : Mem} {Φ : Dat → Mem → Prop} (hc : PyData.eqv (.str a) (.str b) = c) (ha : SeqAt.shaped (.str a) = true) (hb : SeqAt.shaped (.str b) = true) (h : Φ (.bl (if neg then !c else c)) M) : oEq neg (.str a) (.str b) M Φ := ⟨.str a, .str b, rfl, rfl, ha, hb, by rw [hc]; exact h⟩
example {M : Mem} {Φ : Dat → Mem → Prop} (h : Φ (.bl false) M) : oEq false (.str "none") (.str "best") M Φ := oEq_str (c := false) (by decide +kernel) (by decide +kernel) (by decide +kernel) h
theorem rngD_nat (n : Nat) : rngD 0 ((n : Nat) : Int).toNat = (List.range n).map fun i => .int ((i : Nat) : Int) := by
  unfold rngD; simp
theorem mulS {i j : Int} (h : i.natAbs < 2 ^ 64 ∨ j.natAbs < 2 ^ 64) : IntMulOk i j := by
  rcases h with h | h
  · exact .of_left (PySem.intBits_le_iff.mpr h)
  · exact .of_right (PySem.intBits_le_iff.mpr h)
/-- factors of up to so many bits -/
theorem mulB {i j : Int} {p q : Nat} (h1 : i.natAbs ≤ 2 ^ p) (h2 : j.natAbs ≤ 2 ^ q) (h : p + q + 2 ≤ 134217728) : IntMulOk i j := by
  have h3 : i.natAbs < 2 ^ (p + 1) := by rw [Nat.pow_succ]; have := Nat.two_pow_pos p; omega
  have h4 : j.natAbs < 2 ^ (q + 1) := by rw [Nat.pow_succ]; have := Nat.two_pow_pos q; omega
  exact IntMulOk.of_le (intBits_le_iff.mpr h3) (intBits_le_iff.mpr h4) (by omega)
theorem two_sz : (2 : Nat) ≤ sizeLine := line_of (by decide)
theorem three_sz : (3 : Nat) ≤ sizeLine := line_of (by decide)
theorem one_sz : (1 : Nat) ≤ sizeLine := line_of (by decide)
/-! ### the law's pen -/
def PenAt (M : Mem) (p : Addr) (k : Nat) : Prop := ∃ (ns : List Int) (a g : Nat), M p = some (.lst [rowD ns, .int (a : Nat), .int (g : Nat)]) ∧ a + k ≤ 2 ^ 20
def Oth (p : Addr) (M M' : Mem) : Prop := ∀ b, b ≠ p → M' b = M b
theorem PenAt.weak {M : Mem} {p : Addr} {k l : Nat} (h : PenAt M p k) (hl : l ≤ k) : PenAt M p l := by
  obtain ⟨ns, a, g, e, z⟩ := h
  exact ⟨ns, a, g, e, by omega⟩
theorem PenAt.sub {M M1 : Mem} {p : Addr} {k : Nat} (h : PenAt M p k) (s : Sub M M1) : PenAt M1 p k := by
  obtain ⟨ns, a, g, e, z⟩ := h
  exact ⟨ns, a, g, s _ _ e, z⟩
theorem Oth.rfl' {M : Mem} {p : Addr} : Oth p M M := fun _ _ => rfl
theorem Oth.trans {M M1 M2 : Mem} {p : Addr} (a : Oth p M M1) (b : Oth p M1 M2) : Oth p M M2 := fun x h => (b x h).trans (a x h)
theorem Oth.put {M : Mem} {p : Addr} {c : Cell} : Oth p M (M.put p c) := fun b h => Mem.put_ne h
theorem l_of {M : Mem} {p : Addr} {ds : List Dat} (h : M p = some (.lst ds)) : M.l p = some ds := Mem.l_of h
theorem vq_loc {M : Mem} {p : Addr} {ds : List Dat} (h : M p = some (.lst ds)) : vq M (.loc p) = some ds := Mem.l_of h
theorem vw_loc {M : Mem} {p : Addr} {ds : List Dat} (h : M p = some (.lst ds)) : vw M (.loc p) = some ds := Mem.l_of h
theorem pen_ix {M : Mem} {p : Addr} {x y z : Dat} (h : M p = some (.lst [x, y, z])) {Φ : Dat → Mem → Prop} : (Φ x M → oIx (.loc p) (.int 0) M Φ) ∧ (Φ y M → oIx (.loc p) (.int 1) M Φ) ∧ (Φ z M → oIx (.loc p) (.int 2) M Φ) :=
  ⟨fun k => ix_at (j := 0) (vq_loc h) rfl k, fun k => ix_at (j := 1) (vq_loc h) rfl k, fun k => ix_at (j := 2) (vq_loc h) rfl k⟩
theorem fdiv_nat (g : Nat) {m : Int} (h : 1 ≤ m) : (g : Int).fdiv m = ((g / m.toNat : Nat) : Int) := by
  rw [Int.fdiv_eq_ediv_of_nonneg _ (by omega)]
  have : m = ((m.toNat : Nat) : Int) := by omega
  conv => lhs; rw [this]
  rfl
theorem fmod_rng (a : Int) {m : Int} (h : 1 ≤ m) : 0 ≤ a.fmod m ∧ a.fmod m < m := ⟨Int.fmod_nonneg_of_pos a (by omega), Int.fmod_lt_of_pos a (by omega)⟩
theorem cut_take {ds : List Dat} {k : Nat} : cutD ds none (some ((k : Nat) : Int)) = ds.take k := by
  unfold cutD
  rw [HT.sIx_none, HT.sIx_nat, List.drop_zero, Nat.sub_zero, List.take_eq_take_iff]
  omega
theorem cut_mid {ds : List Dat} {k l : Nat} (h : k + l ≤ ds.length) : cutD ds (some ((k : Nat) : Int)) (some (((k + l : Nat)) : Int)) = (ds.drop k).take l := by
  unfold cutD
  rw [HT.sIx_nat, HT.sIx_nat, Nat.min_eq_left (by omega), Nat.min_eq_left (by omega), show k + l - k = l by omega]
theorem keepS {M M1 : Mem} (s : Sub M M1) {d : Dat} {ds : List Dat} (h : vw M d = some ds) : keep d ds M1 := keep_of (s.vw h)
end EX
/-! sorted(set(xs)) of numbers, xs[::-1] -/
namespace EX
open PySem PySem.Spec PyProof.Rows L2
section
variable {P : Program} {w : World} {A : Around} {E : Value → Shared → Prop} {s : Shared}
abbrev nsO (w : World) : Obj := { cls := .type "set", dict := none, data := .set #[] 0 (.fresh 0 0 (!w.params.followText "set-order")) }
set_option maxHeartbeats 3200000 in
theorem set_of_ints {l : Addr} {vs : Array Value} (ns : List Int) {Q : Value → Shared → Prop} (nh : A.handled = none) (isl : s.heap.IsList l vs) (nis : IntsAre vs.toList ns) (few : ns.length + 1 < scanBound)
    (k : ∀ (J : Heap) (tk n : Nat), SetR w J s.heap.objs.size (fun j => decide (j ∈ ns)) n → n ≤ ns.length → (∀ b o, s.heap.get? b = some o → J.get? b = some o) → Q (.ref s.heap.objs.size) { s with heap := J, toks := tk }) :
    wpAny (model P w) A (call (.type "set") [.ref l]) Q E s := by
  have size : vs.size = ns.length := by
    have z := nis.length
    rwa [Array.length_toList] at z
  obtain ⟨_, _, m0⟩ := F.called_set.mro
  have m1 := F.called_set.made
  have m2 := F.called_set.sub
  refine wpAny_call (codeAny_of_tree ?_); show wpAny _ _ (callAny (.type "set") _) _ _ _
  refine wpAny_pure ⟨Code.quiet_builtin _ (by decide +kernel), ?_⟩
  refine codeAny_builtin F.entry_type_call ?_
  rw [Around.under_plain (weight_type_call_type "set" [.ref l] []) rfl]
  have m3 := F.called_set.notType
  have m4 := F.called_set.canCreate
  have m5 := F.typeCall_set_1 (.ref l)
  repeat (any_goals (first | assumption | wp_step))
  refine codeAny_mono (code_set_led1 (.ref l) (E := E) (Q₁ := fun v t => v = .ref s.heap.objs.size ∧ t = { s with heap := s.heap.push (nsO w) }) ⟨rfl, rfl⟩) fun r t ht => ?_
  match r, ht with
  | .error e, ht => exact ht
  | .ok (.ret v), ht =>
    obtain ⟨rfl, rfl⟩ := ht
    have at_ : (s.heap.push (nsO w)).get? s.heap.objs.size = some (nsO w) := Heap.get?_push_size _ rfl
    have ty : Shared.TypeIs { s with heap := s.heap.push (nsO w) } (.ref s.heap.objs.size) "set" := ⟨_, at_, rfl⟩
    have m6 := F.called_set.init.lookup
    have m7 := F.called_set.init.bind (.ref s.heap.objs.size)
    repeat (any_goals (first | assumption | wp_step))
    refine codeAny_mono (codeAny_call_builtin (R := wants (fun r u => r = .none ∧ ∃ J tk n, u = { s with heap := J, toks := tk } ∧ SetR w J s.heap.objs.size (fun j => decide (j ∈ ns)) n ∧ n ≤ ns.length ∧ (∀ b o, s.heap.get? b = some o → J.get? b = some o)) E) F.called_set.init.plain F.entry_set_init (check_set_init_1 ty ?_)) fun r u hu => ?_
    · obtain ⟨⟨oc, od, ob, osl⟩, ho, c1, z, c2⟩ := isl
      simp only at c1 c2
      subst c1 c2
      have ho' : (s.heap.push (nsO w)).get? l = some { cls := .type "list", dict := od, data := .seq vs z, slots := osl } := Heap.get?_push_of_some _ ho
      have q1 := F.sub_list_set
      have q2 := F.sub_list_frozenset
      have q3 : (Value.type "list" == .type "dict") = false := by decide
      have isl' : (s.heap.push (nsO w)).IsList l vs := ⟨_, ho', rfl, z, rfl⟩
      unfold Builtin.«set.__init__» noKeywords Builtin.Frozenset.updateFrom
      generalize ePI : pyIter = PI
      wp_walk
      subst ePI
      refine wpAny_pyIter_list isl' (wpAny_bind (wpAny_runValue ?_))
      have lt : l < s.heap.objs.size := Heap.lt_size ho
      have nh3 : A.in1.in1.in1.handled = none := by simp [nh]
      have ne1 : l ≠ (s.heap.push (nsO w)).objs.size := by rw [Heap.size_push]; exact Nat.ne_of_lt (Nat.lt_succ_of_lt lt)
      have off : s.heap.objs.size ∉ [(s.heap.push (nsO w)).objs.size, l] := by
        intro h
        rcases List.mem_cons.mp h with h | h
        · rw [Heap.size_push] at h
          exact absurd h (Nat.ne_of_lt (Nat.lt_succ_self _))
        · exact absurd (List.mem_singleton.mp h) (Nat.ne_of_gt lt)
      have vals : ∀ (i : Nat) (v : Value), vs[i]? = some v → ∃ k t, ns[i]? = some k ∧ v = .int k t := fun i v hv => by
        have hi : i < ns.length := size ▸ (Array.getElem?_eq_some_iff.mp hv).1
        obtain ⟨t, e⟩ := IntsAre.int_at nis i v (by rw [Array.getElem?_toList]; exact hv)
        exact ⟨ns[i], t, List.getElem?_eq_getElem hi, by rw [e, List.getD_eq_getElem?_getD, List.getElem?_eq_getElem hi]; rfl⟩
      refine set_update_ints ((Walks.list nh3 _ l ne1 vs).toS) s.heap.objs.size off ns size few vals (vs.size - 0) 0 _ (by omega) (Nat.zero_le _) ⟨⟨_, Heap.get?_push_size _ rfl, rfl, rfl⟩, isl'.push _⟩ ?c1 ?c2
      case c1 => exact ⟨0, Nat.le_refl 0, setR_new_at (Heap.get?_push_of_some _ at_)⟩
      case c2 =>
        rintro ⟨J, g, d, tk, os⟩ n hm hn hS
        obtain rfl : g = s.gens := hm.gens
        obtain rfl : d = s.drawn := hm.drawn
        obtain rfl : os = s.os := hm.os
        show wpAny _ _ _ _ _ _
        refine wpAny_pure ?_
        show wpAny _ _ (ret Value.none) _ _ _
        refine wpAny_pure ⟨rfl, J, tk, n, rfl, hS, size ▸ hn, fun b o e => ?_⟩
        have lb : b < s.heap.objs.size := Heap.lt_size e
        refine hm.heap b o ?_ (Heap.get?_push_of_some _ (Heap.get?_push_of_some _ e))
        intro h
        rcases List.mem_cons.mp h with h | h
        · exact absurd h (Nat.ne_of_lt lb)
        · have h := List.mem_singleton.mp h
          rw [Heap.size_push] at h
          exact absurd h (Nat.ne_of_lt (Nat.lt_succ_of_lt lb))
    · match r, hu with
      | .error e, hu => exact hu
      | .ok (.ret v), hu =>
        obtain ⟨rfl, J, tk, n, rfl, hS, hn, keep⟩ := hu
        repeat (any_goals (first | assumption | wp_step))
        exact k J tk n hS hn keep
end
section
variable {X : Cx} {W : WX} {a : Expr} {ta : DTE}
def tSS (K : PySem.W.Frag) (ta : TE) : TE := fun σ H Q => ta σ H fun x H1 => ∃ (l : Addr) (ns : List Int), x = V.ref l ∧ SqL K H1 l (ns.map V.int) ∧ ns.length < 64 ∧
  ∀ ms : List Int, ms.Pairwise (· < ·) → (∀ k, k ∈ ms ↔ k ∈ ns) → ∀ p, H1 p = none → Q (.ref p) (upd H1 p (.lst (ms.map V.int)))
theorem pe_ss {ta : TE} {p p2 q pos : Pos} (hc : X.calm = true) (hg : Gl X "sorted") (hm : X.mg "sorted" = none) (hg2 : Gl X "set") (hm2 : X.mg "set" = none) (ha : PE X a ta) (na : starEach [a] X.env = (false, eval a X.env) :: starEach [] X.env := by rfl) :
    PE X (.Call (.Name "sorted" p) [.Call (.Name "set" p2) [a] [] q] [] pos) (tSS X.K ta) := by
  refine ⟨fun pins s σ H Q I h => Call_ (ld_blt I hg hm PyProof.Rows.boot_sorted ?_)⟩
  refine PyProof.Rows.callWith_builtin1 (PyProof.Rows.args_cons (Call_ (ld_blt I hg2 hm2 PyProof.Rows.boot_set ?_)) rfl) rfl rfl
  refine PyProof.Rows.callWith_type1 (PyProof.Rows.args_cons (thn (ha.run pins s σ H _ I h) fun v t ⟨x, H1, I1, rx, q⟩ => PyProof.Rows.args_nil ?_) na) na rfl
  obtain ⟨l, ns, rfl, hq, few, q⟩ := q
  cases rx
  obtain ⟨its, r, pl, _⟩ := I1.list hq
  refine set_of_ints ns (I1.ok.hd hc) pl.isList (by simpa using r.ints) (by unfold scanBound; omega) fun J tk n hS hn keep => PyProof.Rows.args_nil ?_
  have I2 : Inv X pins σ H1 { t with heap := J, toks := tk } := I1.kept fun b o e => keep b o e
  have hS' : SetR X.w ({ t with heap := J, toks := tk } : Shared).heap t.heap.objs.size (fun j => decide (j ∈ ns)) n := hS
  generalize ({ t with heap := J, toks := tk } : Shared) = t1 at I2 hS' ⊢
  refine sorted_set hS' (I2.ok.hd hc) (by omega) fun s' p out c ms keep2 g o hp hg hi hs hm hl => ?_
  have len : (ms.map V.int).length ≤ sizeLine := by rw [List.length_map, hl, sizeLine_eq]; omega
  have new : H1 p = none := I2.hok.fresh hp
  have I3 : Inv X pins σ (upd H1 p (.lst (ms.map V.int))) { t1 with heap := s'.heap, gens := s'.gens, drawn := s'.drawn, toks := s'.toks } :=
    I2.call (ch := []) (Un.laid keep2 hp new) (I2.hok.laid keep2 hp ⟨len, out.toList, c, vals_of_ints hi, hg⟩) (by rw [g]; exact I2.bare) (fun _ z => nomatch z)
  have e : s' = { t1 with heap := s'.heap, gens := s'.gens, drawn := s'.drawn, toks := s'.toks } := by
    obtain ⟨_, _, _, _, _⟩ := s'
    obtain ⟨_, _, _, _, _⟩ := t1
    cases o
    rfl
  rw [e]
  exact ⟨.ref p, _, I3, rfl, q ms hs (fun k => (hm k).trans (by simp)) p new⟩
theorem intsD_inv : ∀ {xs : List V} {ns : List Int} {K : Kx} {G : Hp}, DPs K G xs (ns.map .int) → xs = ns.map V.int
  | _, [], _, _, .nil => rfl
  | _, n :: ns, _, _, .cons r t => by
    cases r
    rw [intsD_inv t]; rfl
theorem intsD {K : Kx} {G : Hp} : ∀ ns : List Int, DPs K G (ns.map V.int) (ns.map .int)
  | [] => .nil
  | n :: ns => .cons (.int n) (intsD ns)
/-- sorted(set(e)) -/
def dSS (te : DTE) : DTE := fun Γ M Φ => te Γ M fun d M1 => ∃ ns : List Int, vw M1 d = some (ns.map .int) ∧ ns.length < 64 ∧ ∀ ms : List Int, ms.Pairwise (· < ·) → (∀ k, k ∈ ms ↔ k ∈ ns) → Φ (.lst (ms.map .int)) M1
theorem de_ss {p p2 q pos : Pos} (hc : X.calm = true) (hg : Gl X "sorted") (hm : X.mg "sorted" = none) (hg2 : Gl X "set") (hm2 : X.mg "set" = none) (ha : PE X a (LE (kx X) W ta)) (na : starEach [a] X.env = (false, eval a X.env) :: starEach [] X.env := by rfl) :
    PE X (.Call (.Name "sorted" p) [.Call (.Name "set" p2) [a] [] q] [] pos) (LE (kx X) W (dSS ta)) := pe_wk (pe_ss hc hg hm hg2 hm2 ha na) fun σ H Q ⟨Γ, G, M, Φ, e, s, m, h, k⟩ =>
  ⟨Γ, G, M, _, e, s, m, h, fun v d G1 H1 M1 t1 r q => by
    obtain ⟨ns, hv, few, q⟩ := q
    obtain ⟨l, xs, rfl, hs, hr, _⟩ := vw_at t1.ex' t1.mem r hv
    rw [intsD_inv hr] at hs
    exact ⟨l, ns, rfl, hs, few, fun ms h1 h2 p hp => k _ (.lst (ms.map .int)) _ _ M1 (t1.trans (Stp.alloc t1.ex' t1.mem hp)) (.lst upd_same (intsD ms)) (q ms h1 h2)⟩⟩
/-- e[::-1] -/
def dRev (te : DTE) : DTE := fun Γ M Φ => te Γ M fun d M1 => ∃ ds, vw M1 d = some ds ∧ Φ (.lst ds.reverse) M1
theorem de_rev {k : Nat} {p1 p2 p3 pos : Pos} (ha : PE X a (LE (kx X) W ta)) : PE X (.Subscript a (.Slice none none (some (.UnaryOp .USub (.Constant (.int 1) k p1) p2)) p3) pos) (LE (kx X) W (dRev ta)) := pe_wk (pe_revL ha) fun σ H Q ⟨Γ, G, M, Φ, e, s, m, h, k⟩ =>
  ⟨Γ, G, M, _, e, s, m, h, fun v d G1 H1 M1 t1 r q => by
    obtain ⟨ds, hv, q⟩ := q
    obtain ⟨l, xs, rfl, hs, hr, _⟩ := vw_at t1.ex' t1.mem r hv
    exact ⟨l, xs, rfl, hs, fun p hp => k _ (.lst ds.reverse) _ _ M1 (t1.trans (Stp.alloc t1.ex' t1.mem hp)) (.lst upd_same ((DPs.rev hr).mono (Ex.new (t1.ex'.free hp)))) q⟩⟩
end
section
variable {Γ : DEnv} {M : Mem}
theorem w_ss {te : DTE} {Φ : Dat → Mem → Prop} (h : te Γ M fun d M1 => ∃ ns : List Int, vw M1 d = some (ns.map .int) ∧ ns.length < 64 ∧ ∀ ms : List Int, ms.Pairwise (· < ·) → (∀ k, k ∈ ms ↔ k ∈ ns) → Φ (.lst (ms.map .int)) M1) : dSS te Γ M Φ := h
theorem w_rev {te : DTE} {Φ : Dat → Mem → Prop} (h : te Γ M fun d M1 => ∃ ds, vw M1 d = some ds ∧ Φ (.lst ds.reverse) M1) : dRev te Γ M Φ := h
end
end EX
/-! The widened data layer M: own exceptions made as values and raised; own __init__s that say super().__init__(x); self.f = x. -/
namespace EX
open PySem PySem.Spec PyProof.Rows L2

/-- the __init__ of such a class, as it stands in the text and in the written part -/
structure SupInit (P : Program) (K : Kx) (C f : Addr) (x fld : Str) : Prop where
  ex : ∃ (qual : Str) (params : Arguments) (scope : Scope) (dV kV doc pm ct oc : Value) (an od : Option Addr) (osl : Array (Option Value)) (cc cda : Addr) (p0 p1 p2 p3 p4 p5 p6 p7 p8 p9 : Pos) (fd : FuncData) (body : List Stmt),
    body = [.Expr (.Call (.Attribute (.Call (.Name "super" p0) [] [] p1) "__init__" p2) [.Name x p3] [] p4) p5, .Assign [.Attribute (.Name "self" p6) fld p7] (.Name x p8) p9] ∧
    fd = PySem.W.ksFn "__init__" qual params body scope dV kV doc pm an (.ref cda) ct cc ∧ K.K.lookup f = some ⟨oc, od, .func fd, osl⟩ ∧ PySem.W.codeIn K.K (.ref cda) qual = true ∧
    (∃ ar, (params.posonlyargs ++ params.args).head? = some ar ∧ ar.arg = "self") ∧
    (∃ ccl cdd vs ccs file tf, K.K.lookup cda = some ⟨ccl, cdd, .fields vs, ccs⟩ ∧ vs[2]? = some (.str file tf) ∧ ((P.main.file : Str) == file) = true) ∧
    (∃ cl cld csl, K.K.lookup cc = some ⟨cl, cld, .cell (some (.ref C)), csl⟩) ∧
    (scope.kind = .function ∧ scope.isGenerator = false ∧ scope.isCoroutine = false ∧ (∀ y ∈ scope.names, y.2 ≠ .cell)) ∧
    (scope.names.lookup ("super" : Str) = some .globalImplicit ∧ scope.names.lookup ("__class__" : Str) = some .free ∧ scope.names.lookup ("self" : Str) = some .local ∧ scope.names.lookup x = some .local) ∧
    (∀ us : List Value, us.length = 2 → ∀ s, BindsTo s fd ⟨us, []⟩ ((["self", x] : List Str).zip us)) ∧
    (∀ (u v : Value) (s : Shared), BindsTo s fd ⟨[u], [(x, v)]⟩ [("self", u), (x, v)]) ∧
    (∀ env : PySem.Env, eval (.Call (.Attribute (.Call (.Name "super" p0) [] [] p1) "__init__" p2) [.Name x p3] [] p4) env = (do
      let ov ← attributeBase (.Call (.Name "super" p0) [] [] p1) "__init__" env (eval (.Call (.Name "super" p0) [] [] p1) env)
      standAt p2.atName
      let (f, first) ← holding [ov] (getMethod ov "__init__" (do return (← importBound (.Call (.Name "super" p0) [] [] p1) env).getD true))
      callWith p4 f first (backTo p4 (starEach [.Name x p3] env)) []))
  hx : x ≠ "self"
  hxd : (x == ("__debug__" : Str)) = false
  top : (P.main.scope.names.lookup ("super" : Str)).isSome = false
  sup : K.mg "super" = none
  opq : PySem.W.nsIn K.K cStatics "thirdparty.any" = some none
  ini : PySem.W.ks_superIn K.K C C "__init__" = some (some (.builtin "ValueError.__init__"))
  sub : PySem.W.subIn K.K (.ref C) (.type "ValueError") = some true
  slf : PySem.W.mroIn K.K C (.ref C) = some true
  oex : OexC K.K C
  nof : PySem.W.findIn K.K (.ref C) fld = some none
  iC : PySem.W.findIn K.K (.ref C) "__init__" = some (some (.ref f))
  tI : PySem.W.typeIn K.K (.ref f) = some (.type "function")
theorem super_init {K : PySem.W.Frag} {prog : Program} {w : World} {A : Around} {C a u : Addr} {v : Value} {hp : Heap} {g : Array GenState} {d : Drawn} {t : Nat} {os : OsState} {E : Value → Shared → Prop} {Q : Value → Shared → Prop} {t1 : Addr}
    (X : K.In hp) (T : OexC K C) (hu : hp.get? u = some (PySem.W.kxs_mw "ValueError.__init__" a)) (he : hp.get? a = some ({ cls := .ref C, dict := none, data := .fields #[.ref t1, .none, .none, .none, .bool false, .none] } : Obj))
    (hq : ∀ h' t2, (∀ b o, b ≠ a → hp.get? b = some o → h'.get? b = some o) → h'.get? a = some ({ cls := .ref C, dict := none, data := .fields #[.ref t2, .none, .none, .none, .bool false, .none] } : Obj) → Q .none ⟨h', g, d, t, os⟩) :
    wpAny (model prog w) A (call (.ref u) [v]) Q E ⟨hp, g, d, t, os⟩ := by
  obtain ⟨nm, q, N, bs, bm, sn, sub, ab, col, dd, k0, k1, k2, k3, k5, hC, hbm⟩ := T.cls
  refine wpAny_call (codeAny_of_tree ?_)
  show wpAny _ A.in1 (callAny (.ref u) ⟨[v], []⟩) _ _ _
  simp only [callAny]
  refine wpAny_bind (wpAny_load hu ?_)
  simp only [PySem.W.kxs_mw, show (Value.type "method-wrapper" == Value.type "method" || Value.type "method-wrapper" == Value.type "builtin_function_or_method" || Value.type "method-wrapper" == Value.type "method-wrapper") = true by decide, if_true]
  refine PySem.W.KFB.if_so (by decide) ?_
  refine wpAny_bind (PySem.W.check_bound_init PySem.F.excBase_ValueError.toExcCallFacts (X _ _ hC) he rfl ?_)
  refine wpAny_bind (wpAny_pure (wpAny_pure ?_))
  refine ⟨plainId_quiet PySem.F.excBase_ValueError.init.plain _, codeAny_builtin PySem.F.excBase_ValueError.initEntry ?_⟩
  exact PySem.W.exc_init_tree (cls := .ref C) (t0 := t1) (dv := none) (c2 := .none) (c3 := .none) (b4 := .bool false) he (by show 1 ≤ sizeLine; rw [sizeLine_eq]; omega) fun h' k e1 _ => hq h' _ k e1

/-- what such an __init__ leaves: all that was stands, but the exception has its dict now -/
def SupEnd (C a : Addr) (fld : Str) (v : Value) (hp : Heap) (s : Shared) : Result → Shared → Prop := fun r s' => r = .ok (.ret .none) ∧ ∃ h' d t1 tk, s' = { s with heap := h', toks := tk } ∧ (∀ b o, b ≠ a → hp.get? b = some o → h'.get? b = some o) ∧ hp.objs.size ≤ d ∧ d ≠ a ∧
  h'.get? a = some ({ cls := .ref C, dict := some d, data := .fields #[.ref t1, .none, .none, .none, .bool false, .none] } : Obj) ∧ h'.Ns1 d (fun y => if y = fld then some v else none)
section
variable {P : Program} {w : World} {K : Kx} {base : Heap}
theorem sup_code {C f a t0 : Addr} {x fld : Str} {v : Value} {A : Around} {s : Shared} {args : Args} (S : SupInit P K C f x fld) (md : Mod K.K K.mg base) (kb : ∀ b o, base.get? b = some o → s.heap.get? b = some o) (hd : A.depth < recursionLimit)
    (ha : s.heap.get? a = some ({ cls := .ref C, dict := none, data := .fields #[.ref t0, .none, .none, .none, .bool false, .none] } : Obj)) (hab : base.get? a = none) (hargs : args = ⟨[.ref a, v], []⟩ ∨ args = ⟨[.ref a], [(x, v)]⟩) :
    codeAny (model P w) A (.call (.ref f) args) (SupEnd C a fld v s.heap s) s := by
  obtain ⟨⟨qual, params, scope, dV, kV, doc, pm, ct, oc, an, od, osl, cc, cda, p0, p1, p2, p3, p4, p5, p6, p7, p8, p9, fd, body, ebody, efd, lk, hcd, ⟨ar, har, har2⟩, ⟨ccl, cdd, vs, ccs, file, tf, lc, hvs, hfile⟩, ⟨cl, cld, csl, lcc⟩, ⟨sk, sg, sc, sc2⟩, ⟨n1, n2, n3, n4⟩, hb1, hb2, hev⟩, hx, hxd, htop, hsup, hopq, hini, hsub, hslf, T, hnof, iC, tI⟩ := S
  subst ebody efd
  have hbind : BindsTo s (PySem.W.ksFn "__init__" qual params [.Expr (.Call (.Attribute (.Call (.Name "super" p0) [] [] p1) "__init__" p2) [.Name x p3] [] p4) p5, .Assign [.Attribute (.Name "self" p6) fld p7] (.Name x p8) p9] scope dV kV doc pm an (.ref cda) ct cc) args [("self", Value.ref a), (x, v)] := by
    rcases hargs with rfl | rfl
    · exact hb1 [.ref a, v] rfl s
    · exact hb2 (.ref a) v s
  have KX : K.K.In s.heap := md.kin.keeps kb
  have lim : s.heap.NoLimit := md.nolimit.keeps kb
  obtain ⟨mb, blt1, blt2⟩ := md.blt
  obtain ⟨nm, q, N, bs, bm, sn, sub, ab, col, dd, k0, k1, k2, k3, k5, hC, hbm⟩ := T.cls
  have hcl : PySem.W.clsIn K.K C = some { name := nm, bases := bs, mro := .ref C :: bm, ns := N, qualname := q, hasDict := true, slotNames := sn, subclasses := sub, abstract := ab, collection := col, hasDel := false } := by unfold PySem.W.clsIn; rw [hC] <;> rfl
  refine PySem.ks_codeAny_call_defAt hd (KX _ _ lk) rfl lim (PySem.W.codeRec_of KX hcd) rfl hbind sc2 (fun y hy => ?_) (fun h₁ hns hk₁ => ?_) sc sg sk
  · rcases List.mem_cons.mp hy with e | hy
    · rw [e]; exact n3
    · rcases List.mem_cons.mp hy with e | hy
      · rw [e]; exact n4
      · cases hy
  obtain ⟨hp, g, dr, t, os⟩ := s
  have KX1 : K.K.In h₁ := KX.keeps hk₁
  have kb1 : ∀ b o, base.get? b = some o → h₁.get? b = some o := fun b o e => hk₁ b o (kb b o e)
  have ha1 := hk₁ _ _ ha
  have lself : (([("self", Value.ref a), (x, v)] : List (Str × Value)).reverse.lookup ("self" : Str)) = some (Value.ref a) := by
    have e : (("self" : Str) == x) = false := beq_eq_false_iff_ne.mpr (Ne.symm hx)
    simp [List.lookup, e]
  have lx : (([("self", Value.ref a), (x, v)] : List (Str × Value)).reverse.lookup x) = some v := by simp [List.lookup]
  obtain ⟨L, hL⟩ : ∃ L, L = hp.objs.size := ⟨_, rfl⟩
  rw [← hL] at hns
  show _root_.PySem.wpAt (model P w) (A.deeper (PySem.W.ksEnv qual scope hp.objs.size f (.ref cda) cc)) (.func _ (PySem.W.ksEnv qual scope hp.objs.size f (.ref cda) cc)) (execs _ (PySem.W.ksEnv qual scope hp.objs.size f (.ref cda) cc)) _ _ _
  rw [← hL]
  refine PySem.ks_wpAt_execs_cons (PySem.ks_wpAt_Expr_any (PySem.ks_wpAt_MethodCall (PySem.ks_wpAt_super_base n1 n2 (by decide) rfl (KX1 _ _ lk) rfl har rfl (KX1 _ _ lc) rfl hvs hfile htop ?_) (hev _)) (by unfold interactive; rw [show (PySem.W.ksEnv qual scope L f (.ref cda) cc).scope.kind = _ from sk]; rfl) rfl)
  have hD1 := KX1 _ _ hC
  have n1' : (PySem.W.ksEnv qual scope L f (.ref cda) cc).kindOf "super" = some .globalImplicit := n1
  have n2' : (PySem.W.ksEnv qual scope L f (.ref cda) cc).kindOf "__class__" = some .free := n2
  have n3' : (PySem.W.ksEnv qual scope L f (.ref cda) cc).kindOf "self" = some .local := n3
  have n4' : (PySem.W.ksEnv qual scope L f (.ref cda) cc).kindOf x = some .local := n4
  have sk' : (PySem.W.ksEnv qual scope L f (.ref cda) cc).scope.kind = .function := sk
  refine PySem.W.ks_loadName_global sk' n1' (PySem.Calls.loadGlobal_builtin (md.glob.keeps kb1) hsup (blt1.keeps kb1) ((blt2 _ (by decide)).trans (by decide +kernel : bootBuiltins "super" = some (.type "super"))) ⟨rfl, ?_⟩)
  refine wpAny_loadName_free sk' n2' rfl ⟨_, KX1 _ _ lcc, rfl⟩ ?_
  rw [har2]
  refine wpAny_loadName_local sk' n3' hns lself ?_
  refine PySem.ks_wpAny_isType_cls hD1 rfl ⟨rfl, ?_⟩
  refine PySem.ks_wpAny_call_super hD1 rfl ha1 rfl (fun c e => by cases e) (PySem.W.looks_mroIn KX1 hslf) (fun h2 e2 k2 => ?_)
  have k02 : ∀ b o, hp.get? b = some o → h2.get? b = some o := fun b o e => k2 b o (hk₁ b o e)
  have KX2 : K.K.In h2 := KX1.keeps k2
  have ha2 := k2 _ _ ha1
  have hxC : a ≠ C := fun z => by rw [z] at ha1; rw [ha1] at hD1; cases hD1
  have I2 : PySem.W.InstAt h2 a _ C none := ⟨ha2, rfl, rfl, trivial⟩
  have hini' : PySem.W.alongIn K.K "__init__" (((Value.ref C :: bm).dropWhile (· != .ref C)).drop 1) = some (some (.builtin "ValueError.__init__")) := by
    unfold PySem.W.ks_superIn at hini
    rw [hcl] at hini
    exact hini
  refine PySem.W.kxs_getMethod PySem.W.kxs_ValueError e2 (PySem.W.looks_opaque KX2 hopq) (l₀ := Value.ref C :: bm) (fun A Q E s k q => wpAny_bind ((PySem.W.looks_clsIn KX2 hcl) A _ E s k (wpAny_pure q))) rfl KX2 hini' (I2.type.andThen (PySem.W.looks_subIn KX2 hsub)) hxC (by decide) ?_
  obtain ⟨u1, hu1⟩ : ∃ u1, u1 = h2.objs.size := ⟨_, rfl⟩
  rw [← hu1]
  have e3 : (h2.push (PySem.W.kxs_mw "ValueError.__init__" a)).get? u1 = some (PySem.W.kxs_mw "ValueError.__init__" a) := by rw [hu1]; exact Heap.get?_push_at rfl rfl
  have k3 : ∀ b o, h2.get? b = some o → (h2.push (PySem.W.kxs_mw "ValueError.__init__" a)).get? b = some o := fun b o e => Heap.get?_push_of_some _ e
  obtain ⟨h3, hh3⟩ : ∃ h3, h3 = h2.push (PySem.W.kxs_mw "ValueError.__init__" a) := ⟨_, rfl⟩
  rw [← hh3] at e3 k3 ⊢
  have nsk : ∀ {h h' : Heap} {m : Str → Option Value}, h.Ns L m → (∀ b o, h.get? b = some o → h'.get? b = some o) → h'.Ns L m := fun {h h' m} hn k => by
    obtain ⟨o, es, ep, ho, r⟩ := hn
    exact ⟨o, es, ep, k _ _ ho, r⟩
  have ns3 := nsk (nsk hns k2) k3
  have ha3 := k3 _ _ ha2
  refine PySem.W.kxs_callWith (u := u1) (i := "ValueError.__init__") (x := a) rfl (PySem.Calls.evalArgs_plain (Calls.spliced_cons (wpAny_Name (wpAny_loadName_local sk' n4' ns3 lx (Calls.spliced_nil ⟨e3, ?_⟩)) hxd)))
  refine super_init (KX2.keeps k3) T e3 ha3 fun h4 t2 k4 ha4 => ?_
  show _root_.PySem.wpAt _ _ _ (execs _ _) _ _ _
  have nea : ∀ {b : Addr} {o : Obj}, hp.get? b = some o → b ≠ a → h4.get? b = some o := fun {b o} e n => k4 b o n (k3 _ _ (k02 _ _ e))
  have hLa : L ≠ a := fun z => by
    have := Heap.lt_size ha
    rw [← z, hL] at this
    exact Nat.lt_irrefl _ this
  have ns4 : h4.Ns L (fun y => (([("self", Value.ref a), (x, v)] : List (Str × Value)).reverse.lookup y)) := by
    obtain ⟨o, es, ep, ho, r⟩ := ns3
    exact ⟨o, es, ep, k4 _ _ hLa ho, r⟩
  have KX4 : K.K.In h4 := fun b o e => by
    by_cases hb : b = a
    · rw [hb] at e
      have z := md.kin _ _ e
      rw [hab] at z
      cases z
    · exact nea (KX _ _ e) hb
  refine PySem.ks_wpAt_execs_cons (PySem.ks_wpAt_Assign_Attr (wpAt_of_wpAny (wpAny_Name (wpAny_loadName_local sk' n4' ns4 lx ?_) hxd)))
  refine wpAny_Name (wpAny_loadName_local sk' n3' ns4 lself ?_) (by decide)
  have I4 : PySem.W.InstAt h4 a _ C none := ⟨ha4, rfl, rfl, trivial⟩
  refine PySem.W.set_plain KX4 I4 T.sa ?_
  refine PySem.HandSPX.exc_osa KX4 ha4 hcl (show PySem.HandSPX.refsVE (.ref C :: bm) = true from hbm) rfl hnof (fun h5 tk' dx k5 dn dne hx5 hn5 => ?_)
  show _root_.PySem.wpAt _ _ _ (execs [] _) _ _ _
  refine wpAt_of_wpAny (wpAny_execs_nil ?_)
  refine ⟨rfl, h5, dx, t2, tk', rfl, fun b o hb e => k5 b o hb (nea e hb), ?_, dne, hx5, hn5⟩
  obtain ⟨o, es, ep, ho, _⟩ := ns4
  have z := Heap.lt_size ho
  show hp.objs.size ≤ dx
  rw [← hL]
  exact Nat.le_trans (Nat.le_of_lt z) dn
end
end EX
/-! The widened data layer N: an own exception made by a keyword; as a value. -/
namespace PySem
namespace HandSPX
section
variable {M : Model} {A : Around} {E : Value → Shared → Prop} {h : Heap} {g : Array GenState} {d : Drawn} {t : Nat} {os : OsState}
variable {nm q : Str} {C N : Addr} {bs bm bmB : List Value} {hdct : Bool} {sn : List Str} {sub : List Value} {ab : Bool} {col : Option Bool} {dd : Option Addr} {k0 k1 k2 k3 k5 : Option Value} {B newId initId : String}
theorem exn_check_new (F : ExcBaseFacts B newId initId bmB) (hT : ∀ X : String, bm.contains (.type X) = bmB.contains (.type X)) {x : Str} {v : Value} {Q : Unit → Shared → Prop}
    (hC : h.get? C = some (excClassObj nm q C N bs bm hdct sn sub ab col dd k0 k1 k2 k3 k5 newId)) (hq : Q () ⟨h, g, d, t, os⟩) : wpAny M A (checkBuiltinCall newId ⟨[.ref C], [(x, v)]⟩) Q E ⟨h, g, d, t, os⟩ := by
  have hcont : (Value.ref C :: bm).contains (.type B) = true := by rw [List.contains_cons, hT, F.hasB, Bool.or_true]
  have hstar := F.noStar
  simp only [checkBuiltinCall, F.newKind, F.newSplit, F.newRow]
  repeat (first | refine wpAny_loadPart_at hC ?_ | (refine wpAny_isSubtype_exc hC ?_; rw [hcont]) | refine wpAny_staticBase_exc hC ?_ | refine wpAny_madeBy_exc hC ?_ | simp only [bne_self_eq_false, Bool.false_eq_true, if_false] | wp_step)
  exact hq
end
section
variable {prog : Program} {w : World} {A : Around} {E : Value → Shared → Prop} {R : Result → Shared → Prop} {h : Heap} {g : Array GenState} {d : Drawn} {t : Nat} {os : OsState}
variable {nm q : Str} {C N : Addr} {bs bm bmB : List Value} {hdct : Bool} {sn : List Str} {sub : List Value} {ab : Bool} {col : Option Bool} {dd : Option Addr} {k0 k1 k2 k3 k5 : Option Value} {B newId initId : String}
theorem exn_new (F : ExcBaseFacts B newId initId bmB) (hT : ∀ X : String, bm.contains (.type X) = bmB.contains (.type X)) {x : Str} {v : Value}
    (hC : h.get? C = some (excClassObj nm q C N bs bm hdct sn sub ab col dd k0 k1 k2 k3 k5 newId))
    (hq : R (.ok (.ret (.ref (h.objs.size + 1)))) ⟨(h.push { cls := .type "tuple", data := .seq #[] }).push
      { cls := .ref C, data := .fields #[.ref h.objs.size, .none, .none, .none, .bool false, .none] }, g, d, t, os⟩) :
    codeAny (model prog w) A (.builtin newId ⟨[.ref C], [(x, v)]⟩) R ⟨h, g, d, t, os⟩ := by
  have hends := F.ends
  have hcB : (Value.ref C :: bm).contains (.type B) = true := by rw [List.contains_cons, hT, F.hasB, Bool.or_true]
  have hcA : (Value.ref C :: bm).contains (.type "AttributeError") = false := by rw [List.contains_cons, hT, F.noAttr]; rfl
  have hcN : (Value.ref C :: bm).contains (.type "NameError") = false := by rw [List.contains_cons, hT, F.noName]; rfl
  refine codeAny_builtinAt F.entry ?_
  unfold Builtin.«BaseException.__new__»
  refine wpAt_bind ?_
  show wpAt _ _ _ (stack >>= _) _ _ _
  refine wpAt_bind (wpAt_stack fun p below => wpAt_of_wpAny ?_)
  wp_walk
  refine wpAt_of_wpAny ?_
  rw [F.owner]
  repeat (first | with_reducible refine wpAny_madeHere_exc F.canon hC ?_ | with_reducible refine wpAny_loadPart_at hC ?_ | (with_reducible refine wpAny_isSubtype_exc hC ?_; first | rw [hcB] | rw [hcA] | rw [hcN]) | wp_step)
  show R _ _
  rw [Heap.size_push]
  exact hq
theorem exn_type_call (F : ExcBaseFacts B newId initId bmB) (hT : ∀ X : String, bm.contains (.type X) = bmB.contains (.type X)) {x : Str} {u : Value} {fI : Addr} {Q : Fin → Shared → Prop}
    (hC : h.get? C = some (excClassObj nm q C N bs bm hdct sn sub ab col dd k0 k1 k2 k3 k5 newId))
    (hi : W.Looks (model prog w) h (typeLookup (.ref C) "__init__") (some (.ref fI))) (hb : ∀ self, W.Looks (model prog w) h (bindSpecial (.ref fI) self) (.ref fI, [self]))
    (hq : codeAny (model prog w) A (.call (.ref fI) ⟨[.ref (h.objs.size + 1)], [(x, u)]⟩)
      (fun r s' => match r with | .ok (.ret v) => v = .none ∧ Q (.done (.ret (.ref (h.objs.size + 1)))) s' | .ok _ => False | .error e => E e s')
      ⟨(h.push (W.kdv_tup [])).push (excO C h.objs.size), g, d, t, os⟩) :
    wpAny (model prog w) A (Builtin.«type.__call__» ⟨[.ref C], [(x, u)]⟩) Q E ⟨h, g, d, t, os⟩ := by
  repeat (first | with_reducible refine wpAny_loadPart_at hC ?_ | with_reducible refine wpAny_madeBy_exc hC ?_ | wp_step)
  refine codeAny_call_builtin_code (Code.quiet_builtin _ F.quiet) (exn_check_new F hT hC ?_)
  refine exn_new F hT hC ?_
  show wpAny _ _ _ _ _ _
  have k : ∀ b o, h.get? b = some o → ((h.push (W.kdv_tup [])).push (excO C h.objs.size)).get? b = some o := fun b o e => Heap.get?_push_of_some _ (Heap.get?_push_of_some _ e)
  have hC₁ := k _ _ hC
  have hget : ((h.push (W.kdv_tup [])).push (excO C h.objs.size)).get? (h.objs.size + 1) = some (excO C h.objs.size) := by heap_get
  have hcC : (Value.ref C :: bm).contains (.ref C) = true := by simp
  have i1 := hi.keeps k
  have b1 := (hb (.ref (h.objs.size + 1))).keeps k
  unfold isInstance
  repeat (first | with_reducible refine wpAny_loadPart_at hget ?_ | (with_reducible refine wpAny_isSubtype_exc hC₁ ?_; rw [hcC]) | wp_step)
  show wpAny _ _ (typeLookup (.ref C) _) _ _ _
  refine i1.at ?_
  refine wpAny_holding (wpAny_bind (b1.at ?_))
  refine wpAny_bind (wpAny_call (codeAny_mono hq fun r s' z => ?_))
  rcases r with e | (v | _ | _ | _) <;> first | exact z | exact z.elim | skip
  obtain ⟨rfl, z⟩ := z
  first
    | exact wpAny_pure (wpAny_pure z)
    | (wp_walk; exact z)
theorem exn_call (F : ExcBaseFacts B newId initId bmB) (hT : ∀ X : String, bm.contains (.type X) = bmB.contains (.type X)) {x : Str} {u : Value} {fI : Addr}
    (hC : h.get? C = some (excClassObj nm q C N bs bm hdct sn sub ab col dd k0 k1 k2 k3 k5 newId))
    (hi : W.Looks (model prog w) h (typeLookup (.ref C) "__init__") (some (.ref fI))) (hb : ∀ self, W.Looks (model prog w) h (bindSpecial (.ref fI) self) (.ref fI, [self]))
    (hq : codeAny (model prog w) (A.under (.builtin "type.__call__" ⟨[.ref C], [(x, u)]⟩)) (.call (.ref fI) ⟨[.ref (h.objs.size + 1)], [(x, u)]⟩) (W.InitBack (h.objs.size + 1) R)
      ⟨(h.push (W.kdv_tup [])).push (excO C h.objs.size), g, d, t, os⟩) :
    codeAny (model prog w) A (.call (.ref C) ⟨[], [(x, u)]⟩) R ⟨h, g, d, t, os⟩ := by
  have f1 := tc_lookup
  have f2 := tc_bind (.ref C)
  have hTy : (⟨h, g, d, t, os⟩ : Shared).TypeIs (.ref C) "type" := ⟨_, hC, rfl⟩
  refine codeAny_of_tree ?_
  show wpAny _ _ (callAny (.ref C) _) _ _ _
  repeat (any_goals (first | assumption | with_reducible refine wpAny_loadPart_at hC ?_ | wp_step))
  refine ⟨rfl, ?_⟩
  refine codeAny_call_builtin_at (Code.quiet_builtin _ (by decide +kernel)) entry_typeCall (wpAny_check_type_call_sub hC (exn_type_call F hT hC hi hb ?_))
  refine codeAny_mono hq fun r s' z => ?_
  rcases r with e | (v | _ | _ | _) <;> exact z
end
end HandSPX
end PySem
/-! The widened data layer O: own exceptions over data: made as values, raised, their attributes; try .. except X as e. -/
namespace EX
open PySem PySem.Spec PyProof.Rows L2

abbrev veB : List Value := [.type "ValueError", .type "Exception", .type "BaseException", .type "object"]
/-- an own exception class over ValueError without own __init__ -/
structure ExcP (K : Kx) (c : Str) : Prop where
  ex : ∃ C, K.mg c = some (.ref C) ∧ ExcF K.K C ∧ PySem.W.excIn K.K C veB "ValueError.__new__" = true ∧ PySem.W.keepIn K.K (.ref C) = true ∧ PySem.W.typeIn K.K (.ref C) = some (.type "type")
/-- .. one whose __init__ takes x and keeps it at fld -/
structure ExcS (P : Program) (K : Kx) (c x fld : Str) : Prop where
  ex : ∃ C f, K.mg c = some (.ref C) ∧ ExcF K.K C ∧ SupInit P K C f x fld

theorem excH_own {C a x : Addr} {d : Option Addr} : excH C a d ≠ .own x := fun z => by
  have z' : HO.ext _ = HO.own x := z
  cases z'
theorem excH_ok {P : Program} {w : World} {H : Hp} {h : Heap} {a C : Addr} {d : Option Addr} {oe : Obj} {vs : Array Value} (e : h.get? a = some oe) (z : Zc (.ref C) d oe) (hd : oe.data = .fields vs) : ObjOk P w H h a (excH C a d) :=
  ⟨⟨oe, vs, e, z, hd⟩, ⟨oe, e⟩, fun _ _ ⟨o, v, q, r⟩ k => ⟨o, v, k o q, r⟩⟩
section
variable {X : Cx} {pins : List (Addr × Obj)} {σ : L2.St} {H : Hp} {s : Shared}
/-- two new objects, laid and tracked -/
theorem Inv.laid2 {h' : Heap} {a d : Addr} {o u : HO} {t' : Nat} (I : Inv X pins σ H s) (k : ∀ b v, s.heap.get? b = some v → h'.get? b = some v) (ha : s.heap.objs.size ≤ a) (hd : s.heap.objs.size ≤ d) (ne : d ≠ a)
    (nd : ∀ H, ObjOk X.prog X.w H h' d u) (na : ∀ H, ObjOk X.prog X.w H h' a o) : Inv X pins σ (upd (upd H d u) a o) { s with heap := h', toks := t' } := by
  have hna : H a = none := I.hok.fresh ha
  have hnd : H d = none := I.hok.fresh hd
  have la : ∀ {b : Addr} {v : Obj}, s.heap.get? b = some v → b ≠ a := fun {b v} e => Nat.ne_of_lt (Nat.lt_of_lt_of_le (Heap.lt_size e) ha)
  have ld : ∀ {b : Addr} {v : Obj}, s.heap.get? b = some v → b ≠ d := fun {b v} e => Nat.ne_of_lt (Nat.lt_of_lt_of_le (Heap.lt_size e) hd)
  refine I.un ⟨fun b v q _ _ _ => k b v q, fun b v q _ _ _ => ⟨v.slots, k b v q⟩, fun b v q n _ => by rw [upd_ne (la q), upd_ne (ld q)]; exact n, fun b v q _ => ⟨v, k b v q⟩, fun b xs q => ?_, fun b v xs q => ?_, fun b ps q => ?_⟩ ?_
  · rw [upd_ne (ne_of_none q hna), upd_ne (ne_of_none q hnd)]; exact q
  · rw [upd_ne (ne_of_none q hna), upd_ne (ne_of_none q hnd)]; exact q
  · exact ⟨#[], by rw [upd_ne (ne_of_none q hna), upd_ne (ne_of_none q hnd), q]; simp⟩
  · have h1 : HOk X.prog X.w (upd H d u) h' := I.hok.laidN k hnd (nd _)
    exact h1.laidN (fun _ _ e => e) (by rw [upd_ne (Ne.symm ne)]; exact hna) (na _)
/-- an object that nobody looked at is looked at from now on -/
theorem Inv.track {sI : Shared} {a : Addr} {o : HO} (J : Inv X pins σ H sI) (I : Inv X pins σ H s) (hn : sI.heap.get? a = none) (na : H a = none) (new : ObjOk X.prog X.w (upd H a o) s.heap a o) : Inv X pins σ (upd H a o) s := by
  have n0 : ∀ b v, X.s_0.heap.get? b = some v → b ∉ X.ex → b ≠ a := fun b v e hx z => by
    obtain ⟨o', q⟩ := J.base.there b v e hx
    rw [z, hn] at q; cases q
  obtain ⟨mJ, ⟨oJ, _, _, hoJ, _⟩, _⟩ := id J.loc
  have nl : X.env.locals ≠ a := fun z => by rw [z, hn] at hoJ; cases hoJ
  refine ⟨I.ok, I.os, I.bare, ⟨I.base.keep, I.base.slot, fun b v e n hx => by rw [upd_ne (n0 b v e hx)]; exact I.base.free b v e n hx, I.base.there, fun b xs q => ?_, fun b v xs q => ?_, fun b ps q => ?_⟩, I.loc, I.cell, by rw [upd_ne nl]; exact I.free, fun x c e => ?_, fun p hp => ?_, I.hok.laidN (fun _ _ e => e) na new, I.len⟩
  · have z := I.base.tups b xs q
    rw [upd_ne (ne_of_none z na)]; exact z
  · have z := I.base.frzs b v xs q
    rw [upd_ne (ne_of_none z na)]; exact z
  · obtain ⟨m, z⟩ := I.base.tbls b ps q
    exact ⟨m, by rw [upd_ne (ne_of_none z na)]; exact z⟩
  · have nc : c ≠ a := fun z => by
      obtain ⟨v, o', q, _⟩ := J.cell x c e
      rw [z, hn] at q; cases q
    rw [upd_ne nc]; exact I.freeC x c e
  · obtain ⟨q1, q2, q3, q4, q5⟩ := I.pin p hp
    have np : p.1 ≠ a := fun z => by
      have q := (J.pin p hp).1
      rw [z, hn] at q; cases q
    exact ⟨q1, by rw [upd_ne np]; exact q2, q3, q4, q5⟩
end
/-! ### C() -/
/-- C() as a value -/
def dExc0 (c : Str) : DTE := fun _ M Φ => ∀ a, M a = none → Φ (.loc a) (M.put a (.exn c [] []))
section
variable {X : Cx} {W : WX} {x : Str} {p pos : Pos}
theorem exd0 {K : Kx} {G : Hp} : ExD K G none [] [] := .inl ⟨rfl, rfl, rfl⟩
theorem de_exc0 (T : ExcP (kx X) x) (hg : Gl X x) (hdb : (x == ("__debug__" : Str)) = false := by decide) : PE X (.Call (.Name x p) [] [] pos) (LE (kx X) W (dExc0 x)) := by
  obtain ⟨C, hC, hF, q, kC, tC⟩ := T.ex
  refine ⟨fun pins s σ H Q I ⟨Γ, G, M, Φ, ex, sl, mo, h, kk⟩ => ?_⟩
  refine wpAny_Call_Name_kw (ld_glob I hg hC ?_ hdb)
  refine PySem.W.callWith_K0 I.kIn kC ?_
  show wpAny _ _ (call (.ref C) []) _ _ _
  obtain ⟨bm, N, nm, qn, bs, hdct, sn, sub, ab, col, dd, k0, k1, k2, k3, k5, mN, hCo, hN, hni, T'⟩ := exc_obj I.kIn q
  refine wpAny_call_exc_subT PySem.F.excBase_ValueError T' hCo hN hni (fun h' a hm => ?_) (by show 0 ≤ sizeLine; exact Nat.zero_le _)
  have hn : H a = none := I.hok.gone hm.new
  obtain ⟨t, ht, _, _⟩ := hm.there
  have t1 := Stp.ownC (o := excH C a none) (c := .exn x [] []) ex mo hn ⟨C, none, hC, hF, upd_same, exd0⟩
  exact ⟨.ref a, upd H a (excH C a none), I.laidN hm.keeps hm.new hn (excH_ok ht ⟨rfl, rfl⟩ rfl), rfl, kk _ _ _ _ _ t1 (.loc a) (h a (mem_none mo hn))⟩
theorem pmk_own0 {C : Addr} (q : PySem.W.excIn X.K C veB "ValueError.__new__" = true) (gC : X.mg x = some (.ref C)) (kC : PySem.W.keepIn X.K (.ref C) = true) (r : Raises X (.ref C)) (hg : Gl X x) (hdb : (x == ("__debug__" : Str)) = false := by decide) :
    PMk X (.Call (.Name x p) [] [] pos) (fun _ H Q => Q (.ref C) none H) := by
  intro pins s σ H Q I h
  refine wpAny_Call_Name_kw (ld_glob I hg gC ?_ hdb)
  refine PySem.W.callWith_K0 I.kIn kC ?_
  show wpAny _ _ (call (.ref C) []) _ _ _
  obtain ⟨bm, N, nm, qn, bs, hdct, sn, sub, ab, col, dd, k0, k1, k2, k3, k5, mN, hCo, hN, hni, T'⟩ := exc_obj I.kIn q
  refine wpAny_call_exc_subT PySem.F.excBase_ValueError T' hCo hN hni (fun h' e hm => ?_) (by show 0 ≤ sizeLine; exact Nat.zero_le _)
  exact mk_of I hm r h (I.hok.gone hm.new)
/-- raise C() -/
def dRaise0 (c : Str) : DTS := fun _ Γ M => exAt Γ c [] [] M
theorem ds_raise0 {pos' : Pos} (hc : X.calm = true) (tk : Takes X W) (T : ExcP (kx X) x) (hg : Gl X x) (hdb : (x == ("__debug__" : Str)) = false := by decide) : PS X (.Raise (some (.Call (.Name x p) [] [] pos)) none pos') (LS (kx X) W (dRaise0 x)) := by
  obtain ⟨C, hC, hF, q, kC, tC⟩ := T.ex
  refine ps_wk (ps_raise hc tk (pmk_own0 q hC kC (raises_own hF.sub tC) hg hdb)) fun D σ H h => ?_
  obtain ⟨Γ, G, M, DD, e, s, m, h, k⟩ := h.get
  exact s.raise (Stp.refl e m) hC exd0 h
end
/-! ### C(e), C(x = e), C's own __init__ keeping e -/
section
variable {X : Cx} {W : WX} {c x fld : Str} {e : Expr} {te : DTE} {p pos : Pos}
def dExcS (c fld : Str) (te : DTE) : DTE := fun Γ M Φ => te Γ M fun d M1 => ∀ a, M1 a = none → Φ (.loc a) (M1.put a (.exn c [fld] [d]))
theorem mk_sup {C f : Addr} {pins : List (Addr × Obj)} {σ : L2.St} {H : Hp} {s : Shared} {v : Value} {args : Args} {k : Nat} {E : Value → Shared → Prop} {Q : Value → Shared → Prop} (S : SupInit X.prog (kx X) C f x fld) (hr : Room (k + 1) X.A) (I : Inv X pins σ H s) (hargs : args = ⟨[v], []⟩ ∨ args = ⟨[], [(x, v)]⟩)
    (h : ∀ h' a d t1 tk, (∀ b o, s.heap.get? b = some o → h'.get? b = some o) → s.heap.objs.size ≤ a → s.heap.objs.size ≤ d → d ≠ a → h'.get? a = some ({ cls := .ref C, dict := some d, data := .fields #[.ref t1, .none, .none, .none, .bool false, .none] } : Obj) → h'.Ns1 d (fun y => if y = fld then some v else none) → Q (.ref a) { s with heap := h', toks := tk }) :
    wpAny (model X.prog X.w) X.A (call (.ref C) args.pos args.kw) Q E s := by
  obtain ⟨nm, q, N, bs, bm, sn, sub, ab, col, dd, k0, k1, k2, k3, k5, hC, hbm⟩ := S.oex.cls
  obtain ⟨hp, g, dr, t, os⟩ := s
  have bsz : hp.objs.size ≤ hp.objs.size + 1 := Nat.le_succ _
  have gen : ∀ (us : List Value) (kw : List (Str × Value)), ((us = [v] ∧ kw = []) ∨ (us = [] ∧ kw = [(x, v)])) → codeAny (model X.prog X.w) (X.A.under (.builtin "type.__call__" ⟨.ref C :: us, kw⟩)) (.call (.ref f) ⟨.ref (hp.objs.size + 1) :: us, kw⟩) (PySem.W.InitBack (hp.objs.size + 1) (fun r s' => ∃ u, r = .ok (.ret u) ∧ Q u s')) ⟨(hp.push (PySem.W.kdv_tup us)).push (PySem.HandSPX.excO C hp.objs.size), g, dr, t, os⟩ := by
    intro us kw huk
    have kk : ∀ b o, hp.get? b = some o → ((hp.push (PySem.W.kdv_tup us)).push (PySem.HandSPX.excO C hp.objs.size)).get? b = some o := fun b o e => Heap.get?_push_of_some _ (Heap.get?_push_of_some _ e)
    have hget : ((hp.push (PySem.W.kdv_tup us)).push (PySem.HandSPX.excO C hp.objs.size)).get? (hp.objs.size + 1) = some (PySem.HandSPX.excO C hp.objs.size) := by heap_get
    have hab : X.base.get? (hp.objs.size + 1) = none := by
      cases z : X.base.get? (hp.objs.size + 1) with
      | none => rfl
      | some o =>
        have y := Heap.lt_size (I.bk _ _ z)
        exact absurd y (Nat.not_lt.mpr (Nat.le_succ _))
    have hd : (X.A.under (.builtin "type.__call__" ⟨.ref C :: us, kw⟩)).depth < recursionLimit := (hr.make C us kw).depth
    refine codeAny_mono (sup_code (v := v) (t0 := hp.objs.size) (s := ⟨(hp.push (PySem.W.kdv_tup us)).push (PySem.HandSPX.excO C hp.objs.size), g, dr, t, os⟩) S I.mod (fun b o e => kk b o (I.bk b o e)) hd hget hab ?_) fun r s' z => ?_
    · rcases huk with ⟨rfl, rfl⟩ | ⟨rfl, rfl⟩
      · exact .inl rfl
      · exact .inr rfl
    · obtain ⟨rfl, h', d, t1, tk, rfl, k1, k2, k3, k4, k5⟩ := z
      refine ⟨rfl, _, rfl, h h' (hp.objs.size + 1) d t1 tk (fun b o e => k1 b o (fun z => ?_) (kk b o e)) bsz ?_ k3 k4 k5⟩
      · have y := Heap.lt_size e
        rw [z] at y
        exact absurd y (Nat.not_lt.mpr (Nat.le_succ _))
      · refine Nat.le_trans ?_ k2
        exact Nat.le_of_lt (Nat.lt_of_le_of_lt (Nat.le_succ _) (Heap.lt_size hget))
  have hT : ∀ Y : String, bm.contains (.type Y) = veB.contains (.type Y) := fun Y => PySem.HandSPX.refsVE_contains Y bm hbm
  have fin : ∀ {r : Result} {s' : Shared}, (∃ u, r = .ok (.ret u) ∧ Q u s') → wants Q E r s' := fun {r s'} ⟨u, e, q⟩ => by rw [e]; exact q
  rcases hargs with rfl | rfl
  · refine wpAny_call (codeAny_mono (PySem.HandSPX.call_own (rest := [v]) PySem.F.excBase_ValueError hT (I.kIn _ _ hC) (PySem.W.looks_findIn I.kIn S.iC) (fun self => PySem.W.bind_fn I.kIn self S.tI) (by show 1 ≤ sizeLine; rw [sizeLine_eq]; omega) (gen [v] [] (.inl ⟨rfl, rfl⟩))) fun r s' z => ?_)
    obtain ⟨u, rfl, z⟩ := z
    exact z
  · refine wpAny_call (codeAny_mono (PySem.HandSPX.exn_call (x := x) (u := v) PySem.F.excBase_ValueError hT (I.kIn _ _ hC) (PySem.W.looks_findIn I.kIn S.iC) (fun self => PySem.W.bind_fn I.kIn self S.tI) (gen [] [(x, v)] (.inr ⟨rfl, rfl⟩))) fun r s' z => ?_)
    obtain ⟨u, rfl, z⟩ := z
    exact z

theorem stp_exc {K : Kx} {G H : Hp} {M : Mem} {a d C : Addr} {v : V} {dv : Dat} (ex : Ex G H) (m : MemOk K G H M) (hd : H d = none) (ha : H a = none) (ne : d ≠ a) (hC : K.mg c = some (.ref C)) (hF : ExcF K.K C) (r : DP K G v dv) :
    Stp K G H M (upd G d (.xd [(fld, v)])) (upd (upd H d (.xd [(fld, v)])) a (excH C a (some d))) (M.put a (.exn c [fld] [dv])) := by
  have t1 := Stp.alloc (o := .xd [(fld, v)]) ex m hd
  exact t1.trans (Stp.ownC (o := excH C a (some d)) (c := .exn c [fld] [dv]) t1.ex' t1.mem (by rw [upd_ne (Ne.symm ne)]; exact ha) ⟨C, some d, hC, hF, upd_same, .inr ⟨d, [v], rfl, upd_same, rfl, .cons (r.mono t1.ex) .nil⟩⟩)
theorem xd_one {v : V} {u : Value} (r : RelV v u) (f : Str) : RelO (([(fld, v)] : List (Str × V)).lookup f) (if f = fld then some u else none) := by
  rw [lookup_put]
  by_cases e : f = fld
  · rw [if_pos e, if_pos e]; exact r
  · rw [if_neg e, if_neg e]; exact trivial
theorem de_excS {k : Nat} (T : ExcS X.prog (kx X) c x fld) (hr : Room (k + 1) X.A) (hg : Gl X c) (ha : PE X e (LE (kx X) W te)) (hdb : (c == ("__debug__" : Str)) = false := by decide)
    (he : starEach [e] X.env = (false, eval e X.env) :: starEach [] X.env := by rfl) : PE X (.Call (.Name c p) [e] [] pos) (LE (kx X) W (dExcS c fld te)) := by
  obtain ⟨C, f, hC, hF, S⟩ := T.ex
  refine ⟨fun pins s σ H Q I ⟨Γ, G, M, Φ, ex, sl, mo, h, kk⟩ => ?_⟩
  refine wpAny_Call_Name_kw (ld_glob I hg hC ?_ hdb)
  refine PySem.W.callWith_K (h₀ := X.base) I.ok.mod.kin S.oex.kC ?_ he (by rfl)
  rw [he]
  refine Calls.spliced_cons (thn (runD ha I ex sl mo h) fun u s1 hu => ?_)
  obtain ⟨v, d, G1, H1, M1, I1, rv, t1, rd, h1⟩ := hu
  refine Calls.spliced_nil ⟨I1.kIn, ?_⟩
  show wpAny _ _ (call (.ref C) [u]) _ _ _
  refine mk_sup (args := ⟨[u], []⟩) S hr I1 (.inl rfl) fun h' a dx t0 tk k1 k2 k3 k4 k5 k6 => ?_
  have J := Inv.laid2 (o := excH C a (some dx)) (u := .xd [(fld, v)]) (t' := tk) I1 k1 k2 k3 k4 (fun H => ⟨_, k6, fun f => xd_one rv f⟩) (fun H => excH_ok k5 ⟨rfl, rfl⟩ rfl)
  have hna := I1.hok.fresh k2
  have t2 := stp_exc (c := c) (fld := fld) t1.ex' t1.mem (I1.hok.fresh k3) hna k4 hC hF rd
  exact ⟨.ref a, _, J, rfl, kk _ _ _ _ _ (t1.trans t2) (.loc a) (h1 a (mem_none t1.mem hna))⟩
theorem de_excSK {k : Nat} {kpos : Pos} (T : ExcS X.prog (kx X) c x fld) (hr : Room (k + 1) X.A) (hg : Gl X c) (ha : PE X e (LE (kx X) W te)) (hdb : (c == ("__debug__" : Str)) = false := by decide) :
    PE X (.Call (.Name c p) [] [⟨some x, e, kpos⟩] pos) (LE (kx X) W (dExcS c fld te)) := by
  obtain ⟨C, f, hC, hF, S⟩ := T.ex
  refine ⟨fun pins s σ H Q I ⟨Γ, G, M, Φ, ex, sl, mo, h, kk⟩ => ?_⟩
  refine wpAny_Call_Name_kw (ld_glob I hg hC ?_ hdb)
  refine PySem.W.callWith_KW0 (h₀ := X.base) (first := []) I.ok.mod.kin S.oex.kC (by rfl) (thn (runK (R := fun ds M1 => match ds with
    | [d] => ∀ a, M1 a = none → Φ (.loc a) (M1.put a (.exn c [fld] [d]))
    | _ => False) (dk_cons ha dk_nil) pos I ex sl mo h) fun us s2 hv => ?_) (by rfl)
  obtain ⟨ys, bs, G2, H2, M2, I2, rv, t2, ry, h2⟩ := hv
  cases ry with
  | nil => exact h2.elim
  | @cons v ys d bs rd rr =>
    cases rr with
    | cons _ _ => exact h2.elim
    | nil =>
      cases rv with
      | @cons _ u _ us ru rn =>
      cases rn
      refine ⟨I2.kIn, ?_⟩
      show wpAny _ _ (call (.ref C) [] [(x, u)]) _ _ _
      refine mk_sup (args := ⟨[], [(x, u)]⟩) S hr I2 (.inr rfl) fun h' a dx t0 tk k1 k2 k3 k4 k5 k6 => ?_
      have J := Inv.laid2 (o := excH C a (some dx)) (u := .xd [(fld, v)]) (t' := tk) I2 k1 k2 k3 k4 (fun H => ⟨_, k6, fun f => xd_one ru f⟩) (fun H => excH_ok k5 ⟨rfl, rfl⟩ rfl)
      have hna := I2.hok.fresh k2
      have t3 := stp_exc (c := c) (fld := fld) t2.ex' t2.mem (I2.hok.fresh k3) hna k4 hC hF rd
      exact ⟨.ref a, _, J, rfl, kk _ _ _ _ _ (t2.trans t3) (.loc a) (h2 a (mem_none t2.mem hna))⟩
end
/-! ### e.f of an exception -/
structure FldEOk (K : Kx) (c f : Str) : Prop where
  ex : ∃ C, K.mg c = some (.ref C) ∧ PySem.W.hasDictIn K.K C = true ∧ PySem.W.findIn K.K (.ref C) f = some none
inductive FldEs (K : Kx) (f : Str) : List Str → Prop
  | nil : FldEs K f []
  | cons {c : Str} {cs : List Str} : FldEOk K c f → FldEs K f cs → FldEs K f (c :: cs)
theorem FldEs.at {K : Kx} {f c : Str} : ∀ {cs : List Str}, FldEs K f cs → c ∈ cs → FldEOk K c f
  | _, .cons h r, m => by
    rcases List.mem_cons.mp m with e | m
    · rw [e]; exact h
    · exact r.at m
section
variable {X : Cx} {W : WX} {pos : Pos} {e : Expr} {te : DTE} {f : Str} {cs : List Str}
def dFldE (cs : List Str) (f : Str) (te : DTE) : DTE := fun Γ M Φ => te Γ M fun d M1 => ∃ a c ns ds i v, d = .loc a ∧ M1 a = some (.exn c ns ds) ∧ c ∈ cs ∧ fldIx f ns = some i ∧ ds[i]? = some v ∧ Φ v M1
theorem de_fldE (T : FldEs (kx X) f cs) (he : PE X e (LE (kx X) W te)) (hb : attributeBase e f X.env (eval e X.env) = eval e X.env := by rfl) : PE X (.Attribute e f pos) (LE (kx X) W (dFldE cs f te)) := by
  refine ⟨fun pins s σ H Q I ⟨Γ, G, M, Φ, ex, sl, mo, h, kk⟩ => ?_⟩
  refine attr_of hb (thn (runD he I ex sl mo h) fun u s1 hu => ?_)
  obtain ⟨x, d, G1, H1, M1, I1, rx, t1, rd, a, c, ns, ds, i, v, rfl, hm, hc, hi, hv, q⟩ := hu
  cases rd
  obtain rfl : u = Value.ref a := rx
  obtain ⟨C, hC, hD, hno⟩ := (T.at hc).ex
  obtain ⟨_, C', da, hC', hF, hH, hX⟩ := t1.mem a _ hm
  have eC : C' = C := Value.ref.inj (Option.some.inj (hC'.symm.trans hC))
  subst eC
  obtain ⟨⟨oe, vs, ho, hz, hd⟩, _⟩ := I1.hok a _ hH
  rcases hX with ⟨_, rfl, _⟩ | ⟨dx, xs, rfl, g1, hl, rxs⟩
  · cases hi
  obtain ⟨y, hy, ry⟩ := rxs.get hv
  obtain ⟨mA, hns, hr⟩ := I1.hok dx _ (t1.ex' _ _ g1)
  obtain ⟨od, ho2, hl2⟩ := lookIn_ns hns
  obtain ⟨u, hu, ru⟩ := RelO.some_of (v := y) (o := mA f) (by rw [← fld_look hi hy]; exact hr f)
  have J : PySem.W.InstAt s1.heap a oe C' (some od) := ⟨ho, hz.1, by unfold PySem.W.notCls; rw [hd] <;> rfl, by rw [hz.2]; exact ho2⟩
  exact HandSPX.exc_get I1.kIn J hF.ga hF.gt hF.sub (PySem.W.findObj_own hD hno rfl (by rw [hl2, hu])) (handed_of ru) ⟨y, H1, I1.tok _, ru, kk y v G1 H1 M1 t1 ry q⟩
end
end EX
/-! The widened data layer P: try .. except X as e, the caught exception kept. -/
namespace EX
open PySem PySem.Spec PyProof.Rows L2
def excV (cls : Value) (a : Addr) (d : Option Addr) : HO := .ext fun h => ∃ (oe : Obj) (vs : Array Value), h.get? a = some oe ∧ Zc cls d oe ∧ oe.data = .fields vs
theorem excV_ok {P : Program} {w : World} {H : Hp} {h : Heap} {a : Addr} {cls : Value} {d : Option Addr} {oe : Obj} {vs : Array Value} (e : h.get? a = some oe) (z : Zc cls d oe) (hd : oe.data = .fields vs) : ObjOk P w H h a (excV cls a d) :=
  ⟨⟨oe, vs, e, z, hd⟩, ⟨oe, e⟩, fun _ _ ⟨o, v, q, r⟩ k => ⟨o, v, k o q, r⟩⟩
section
variable {X : Cx} {pins : List (Addr × Obj)} {σ : L2.St} {H : Hp} {s : Shared}
theorem Inv.suiteT {a : Addr} (I : Inv X pins σ H s) : Inv (X.suite a (X.pn ++ pins)) [] σ H s :=
  ⟨I.ok.suite _ _, I.os, I.bare, I.base, I.loc, I.cell, I.free, I.freeC, fun p hp => I.pin p (by rw [List.append_nil] at hp; exact hp), I.hok, I.len⟩
theorem Inv.unsuiteT {a : Addr} {pn' : List (Addr × Obj)} (I : Inv (X.suite a (X.pn ++ pins)) pn' σ H s) (ok : X.Ok) : Inv X pins σ H s :=
  ⟨ok, I.os, I.bare, I.base, I.loc, I.cell, I.free, I.freeC, fun p hp => I.pin p (List.mem_append_left _ hp), I.hok, I.len⟩
end
/-- what the clause 'except x as n' wishes of an exception of the body: slot i is n's, the exception is looked at -/
def wTr (K : PySem.W.Frag) (c : Value) (i : Nat) (ts : TS) (Wout : WX) (D : Ends) : WX := fun cls d σ H =>
  ∃ b, PySem.W.exmOne K cls c = some b ∧ (b = true → ∀ a, H a = none → ts { nx := fun σ' H' => D.nx (σ'.set i none) H', rt := D.rt, bk := fun σ' H' => D.bk (σ'.set i none) H', ct := fun σ' H' => D.ct (σ'.set i none) H' } (σ.set i (some (.ref a))) (upd H a (excV cls a d))) ∧
    (b = false → Wout cls d σ H)
section
variable {X : Cx} {x n : Str} {c : Value} {i : Nat} {body suite : List Stmt} {b₀ : Stmt} {np pos pos' : Pos} {tb : WX → TS} {ts : TS} {Wout : WX}
theorem ps_try_tr (hs : X.stack = X.env :: X.outer) (hf : X.env.frame = some X.env.locals) (hN : X.N.Nodup) (hi : X.N[i]? = some n) (hln : X.env.kindOf n = some .local) (hc : Names X x c) (tk : Takes X Wout)
    (hb : ∀ (W : WX) (pn : List (Addr × Obj)) (xe : Value → Shared → Prop), Takes (X.tr pn xe) W → PassesOwn (model X.prog X.w) X.A X.env xe → PSs (X.tr pn xe) body (tb W))
    (hsu : ∀ (a : Addr) (pn : List (Addr × Obj)), PSs (X.suite a pn) (b₀ :: suite) ts) :
    PS X (.Try body [.ExceptHandler (some (.Name x np)) (some n) (b₀ :: suite) pos'] [] [] pos) (fun D σ H => tb (wTr X.K c i ts Wout D) D σ H) := by
  refine ⟨fun pins s σ H D I h => ?_⟩
  have ok := I.ok
  have hfr : X.A.frames = some (X.env :: X.outer) := by rw [ok.frames, hs]
  have hloc : Loc X.env.scope n := .inl hln
  refine wpAny_Try_except ?_
  refine wpAny_mono ((hb (wTr X.K c i ts Wout D) (X.pn ++ pins) (fun e s₁ => wpAny (model X.prog X.w) X.A (noteFrame e X.env) (fun _ s₂ => wpAny (model X.prog X.w) X.A (setFlight e none) (fun _ s₃ =>
    wpAny (model X.prog X.w) X.A (handleBy e X.env [.ExceptHandler (some (.Name x np)) (some n) (b₀ :: suite) pos']) (SP X pins D) X.xe s₃) X.xe s₂) X.xe s₁) (fun u s' xx => ?_) PassesOwn.looking).run [] s σ H D (I.toTry _) h) (fun f s1 hsp => ?_) (fun e s1 he => he)
  · obtain ⟨a, B, sI, pins', σ', H', cls, d, rfl, J', nb, up, sky, na, os, ag, b, hb1, hyes, hno⟩ := xx
    have J : Inv X pins σ' H' sI := J'.ofTry ok
    have sky' : Sky B (X.env :: X.outer) a (Zc cls d) X.env.locals s'.heap := by rw [← hs]; exact sky
    show wpAny (model X.prog X.w) X.A (noteFrame (.ref a) X.env) _ _ _
    refine Sky.land Zc.steady hfr hf sky' fun h3 fl3 up3 => ?_
    have J3 : Inv X pins σ' H' { s' with heap := h3 } := J.landed nb fl3.1 (up.trans up3) os ag
    obtain ⟨oe3, vs3, he3, hz3, hd3⟩ := fl3.there
    have notFr : ∀ {h : Heap} {o : Obj} {vs : Array Value}, h.FunFrames B (X.env :: X.outer) → h.get? a = some o → o.data = .fields vs → a ∉ frs (X.env :: X.outer) := fun {h o vs} ff e dd hm => by
      obtain ⟨_, o', e', hnf⟩ := ff.mem hm
      rw [e] at e'; cases e'
      exact hnf _ dd
    have nfr := notFr fl3.2.2.1 he3 hd3
    have nI : sI.heap.get? a = none := by
      cases z : sI.heap.get? a with
      | none => rfl
      | some o =>
        have y := nb a o z (by rw [hs]; exact nfr)
        rw [fl3.2.1] at y
        cases y
    have S3 : Inv (X.suite a (X.pn ++ pins)) [] σ' H' { s' with heap := h3 } := EX.Inv.suiteT J3
    refine wpAny_handleBy_cons (codeAny_handlers_test ?_) (by intro q; cases q)
    have LT : PySem.W.Looks (model X.prog X.w) h3 (typeOf (.ref a)) cls := fun A Q E s k q => wpAny_typeOf_ref (k _ _ he3) (by rw [hz3.1]; exact q)
    have LM := PySem.W.exm_one (M := model X.prog X.w) (J3.kIn) LT hb1
    have test : ∀ {Q : Value → Shared → Prop} {E : Value → Shared → Prop}, Q c { s' with heap := h3 } → wpAny (model X.prog X.w) (X.A.mark (some (.ref a))) (eval (.Name x np) X.env) Q E { s' with heap := h3 } := fun {Q E} q => by
      obtain ⟨hg, hdbg, hm | ⟨hm, hv, hnn⟩⟩ := hc
      · exact ld_glob (X := X.suite a (X.pn ++ pins)) S3 hg hm q hdbg
      · exact ld_blt (X := X.suite a (X.pn ++ pins)) S3 hg hm hv q hnn hdbg
    refine test (LM.here ?_)
    cases b with
    | true =>
      refine codeAny_handlers_suite_as ?_
      refine HandSPX.lands_againZ fl3 fun h4 fl4 up4 => ?_
      have J4 : Inv X pins σ' H' { s' with heap := h4 } := J.landed nb fl4.1 ((up.trans up3).trans up4) os ag
      obtain ⟨oe4, vs4, he4, hz4, hd4⟩ := fl4.there
      have T4 : Inv X pins σ' (upd H' a (excV cls a d)) { s' with heap := h4 } := Inv.track J J4 nI na (excV_ok he4 hz4 hd4)
      have S4 : Inv (X.suite a (X.pn ++ pins)) [] σ' (upd H' a (excV cls a d)) { s' with heap := h4 } := EX.Inv.suiteT T4
      refine store_ok (X := X.suite a (X.pn ++ pins)) (v := .ref a) S4 hN hi hloc rfl (fun s5 S5 => ?_) (.inr hln)
      refine wpAny_mono ((hsu a (X.pn ++ pins)).run [] s5 _ _ _ S5 (hyes rfl a na)) (fun f s6 hsp => ?_) (fun _ _ z => False.elim z)
      have end_ : ∀ {σ6 : L2.St} {H6 : Hp} {Q : Shared → Prop}, Inv (X.suite a (X.pn ++ pins)) [] σ6 H6 s6 → (∀ s7, Inv X pins (σ6.set i none) H6 s7 → Q s7) →
          wpAny (model X.prog X.w) X.A (do bindName X.env n .none; unbindBehindTheSuite X.env n pos') (fun _ s7 => Q s7) X.xe s6 := fun {σ6 H6 Q} S6 hq => gone_ok (EX.Inv.unsuiteT S6 ok) hN hi hln hq
      cases f with
      | next =>
        obtain ⟨σ6, H6, S6, q6⟩ := hsp
        exact end_ S6 fun s7 J7 => ⟨_, _, J7, q6⟩
      | brk =>
        obtain ⟨σ6, H6, S6, q6⟩ := hsp
        exact end_ S6 fun s7 J7 => ⟨_, _, J7, q6⟩
      | cont =>
        obtain ⟨σ6, H6, S6, q6⟩ := hsp
        exact end_ S6 fun s7 J7 => ⟨_, _, J7, q6⟩
      | ret u =>
        obtain ⟨v6, σ6, H6, S6, r6, q6⟩ := hsp
        exact end_ S6 fun s7 J7 => ⟨_, _, _, J7, r6, q6⟩
    | false =>
      show wpAny _ X.A (handleBy (.ref a) X.env []) _ _ _
      refine wpAny_handleBy_nil ?_
      obtain ⟨k1, k2, k3, oe, vs, T, oT, ts', he, hz, hd, h1, hr⟩ := id fl3
      unfold PySem.passOn
      refine wpAny_bind (wpAny_field he hd h1 ?_)
      rw [if_neg (show ¬ ((Value.ref T == Value.none) = true) from by simp)]
      have fin : wpAny (model X.prog X.w) X.A (setFlight (.ref a) X.env.frame) (fun _ s4 => wpAny (model X.prog X.w) X.A (throw (.ref a) : Sem Flow) (SP X pins D) X.xe s4) X.xe { s' with heap := h3 } := by
        rw [hf]
        refine HandSPX.setFlight_upZ fl3 fun h4 hh4 up4 => wpAny_throw (tk _ _ ?_)
        exact ⟨a, B, sI, pins, σ', H', cls, d, rfl, J, nb, (up.trans up3).trans up4, .inr (.inr (by rw [hs]; exact hh4)), na, os, ag, hno rfl⟩
      first
        | exact wpAny_bind (wpAny_pure (wpAny_bind fin))
        | exact wpAny_bind fin
  · cases f with
    | next =>
      obtain ⟨σ', H', J', q⟩ := hsp
      exact wpAny_execs_nil ⟨σ', H', J'.ofTry ok, q⟩
    | brk =>
      obtain ⟨σ', H', J', q⟩ := hsp
      exact ⟨σ', H', J'.ofTry ok, q⟩
    | cont =>
      obtain ⟨σ', H', J', q⟩ := hsp
      exact ⟨σ', H', J'.ofTry ok, q⟩
    | ret u =>
      obtain ⟨v, σ', H', J', r, q⟩ := hsp
      exact ⟨v, σ', H', J'.ofTry ok, r, q⟩
end
/-! ### over data -/
/-- whether 'except t' takes an exception of the class c -/
structure ExmOk (K : Kx) (t c : Str) (b : Bool) : Prop where
  ex : ∃ T C, K.mg t = some (.ref T) ∧ K.mg c = some (.ref C) ∧ PySem.W.exmOne K.K (.ref C) (.ref T) = some b ∧ ExcF K.K C
inductive ExmTab (K : Kx) (t : Str) : List (Str × Bool) → Prop
  | nil : ExmTab K t []
  | cons {c : Str} {b : Bool} {r : List (Str × Bool)} : ExmOk K t c b → ExmTab K t r → ExmTab K t ((c, b) :: r)
theorem ExmTab.at {K : Kx} {t c : Str} {b : Bool} : ∀ {r : List (Str × Bool)}, ExmTab K t r → (c, b) ∈ r → ExmOk K t c b
  | _, .cons h r, q => by
    rcases List.mem_cons.mp q with e | q
    · cases e; exact h
    · exact r.at q
def dEndsTr (i : Nat) (Γ : DEnv) (D : DEnds) : DEnds := { nx := fun Γ' M => D.nx ⟨Γ'.sl.set i none, Γ.ex⟩ M, rt := D.rt, bk := fun Γ' M => D.bk ⟨Γ'.sl.set i none, Γ.ex⟩ M, ct := fun Γ' M => D.ct ⟨Γ'.sl.set i none, Γ.ex⟩ M }
/-- what is wanted of an exception of the body -/
def exTr (tab : List (Str × Bool)) (i : Nat) (ts : DTS) (D : DEnds) (Γ : DEnv) : Str → List Str → List Dat → Slots → Mem → Prop := fun c ns fs sl M =>
  ∃ b, (c, b) ∈ tab ∧ (b = true → ∀ a, M a = none → ts (dEndsTr i Γ D) ⟨sl.set i (some (.loc a)), fun _ _ _ _ _ => False⟩ (M.put a (.exn c ns fs))) ∧ (b = false → Γ.ex c ns fs sl M)
def dTryAs (tab : List (Str × Bool)) (i : Nat) (tb ts : DTS) : DTS := fun D Γ M =>
  tb { nx := fun Γ' M' => D.nx ⟨Γ'.sl, Γ.ex⟩ M', rt := D.rt, bk := fun Γ' M' => D.bk ⟨Γ'.sl, Γ.ex⟩ M', ct := fun Γ' M' => D.ct ⟨Γ'.sl, Γ.ex⟩ M' } ⟨Γ.sl, exTr tab i ts D Γ⟩ M
section
variable {X : Cx} {W : WX} {x n : Str} {i : Nat} {body suite : List Stmt} {b₀ : Stmt} {np pos pos' : Pos} {tb ts : DTS} {tab : List (Str × Bool)} {T : Addr}
theorem ds_tryAs (hs : X.stack = X.env :: X.outer) (hf : X.env.frame = some X.env.locals) (hN : X.N.Nodup) (hi : X.N[i]? = some n) (hln : X.env.kindOf n = some .local) (hg : Gl X x) (hT : X.mg x = some (.ref T)) (hdb : (x == ("__debug__" : Str)) = false) (tk : Takes X W) (E : ExmTab (kx X) x tab)
    (hb : ∀ (W : WX) (pn : List (Addr × Obj)) (xe : Value → Shared → Prop), Takes (X.tr pn xe) W → PassesOwn (model X.prog X.w) X.A X.env xe → PSs (X.tr pn xe) body (LS (kx X) W tb))
    (hsu : ∀ (a : Addr) (pn : List (Addr × Obj)), PSs (X.suite a pn) (b₀ :: suite) (LS (kx X) W0 ts)) :
    PS X (.Try body [.ExceptHandler (some (.Name x np)) (some n) (b₀ :: suite) pos'] [] [] pos) (LS (kx X) W (dTryAs tab i tb ts)) := ps_wk (ps_try_tr (tb := fun W => LS (kx X) W tb) hs hf hN hi hln ⟨hg, hdb, .inl hT⟩ tk hb hsu) fun D σ H h => by
  obtain ⟨Γ, G, M, DD, e, s, m, h, k⟩ := h.get
  have re : ∀ {σ' : L2.St} {Γ' : DEnv} {G' H' : Hp} {M' : Mem} {W' : WX}, Stp (kx X) G H M G' H' M' → Sl (kx X) W' G' H' M' σ' Γ' → Sl (kx X) W G' H' M' σ' ⟨Γ'.sl, Γ.ex⟩ := fun t s' => ⟨s'.o, (s.step t).x⟩
  refine LS.mk (DD := { nx := fun Γ' M' => DD.nx ⟨Γ'.sl, Γ.ex⟩ M', rt := DD.rt, bk := fun Γ' M' => DD.bk ⟨Γ'.sl, Γ.ex⟩ M', ct := fun Γ' M' => DD.ct ⟨Γ'.sl, Γ.ex⟩ M' }) e (Γ := ⟨Γ.sl, exTr tab i ts DD Γ⟩) ⟨s.o, fun c ns fs C da σ' sl' G' H' M' t hσ hc hd hx => ?_⟩ m h
    ⟨fun σ' Γ' G' H' M' t s' q => k.nx _ _ _ _ _ t (re t s') q, k.rt, fun σ' Γ' G' H' M' t s' q => k.bk _ _ _ _ _ t (re t s') q, fun σ' Γ' G' H' M' t s' q => k.ct _ _ _ _ _ t (re t s') q⟩
  obtain ⟨b, hm, h1, h2⟩ := hx
  obtain ⟨T', C', hT', hC', hb', hF⟩ := (E.at hm).ex
  have eT : T' = T := Value.ref.inj (Option.some.inj (hT'.symm.trans hT))
  have eC : C' = C := Value.ref.inj (Option.some.inj (hC'.symm.trans hc))
  subst eT eC
  refine ⟨b, hb', fun hb a na => ?_, fun hb => s.x c ns fs C' da σ' sl' G' H' M' t hσ hc hd (h2 hb)⟩
  have t2 : Stp (kx X) G' H' M' G' (upd H' a (excV (.ref C') a da)) (M'.put a (.exn c ns fs)) := Stp.ownC t.ex' t.mem na ⟨C', da, hc, hF, upd_same, hd⟩
  have no : ∀ {σ6 : L2.St} {Γ6 : DEnv} {G6 H6 : Hp} {M6 : Mem}, Stp (kx X) G H M G6 H6 M6 → Sl (kx X) W0 G6 H6 M6 σ6 Γ6 → Sl (kx X) W G6 H6 M6 (σ6.set i none) ⟨Γ6.sl.set i none, Γ.ex⟩ := fun t s' => ⟨s'.o.none i, (s.step t).x⟩
  exact LS.mk (DD := dEndsTr i Γ DD) t2.ex' (Γ := ⟨sl'.set i (some (.loc a)), fun _ _ _ _ _ => False⟩) ⟨(hσ.mono t2.ex).set (.loc a) i, fun _ _ _ _ _ _ _ _ _ _ _ _ _ _ z => z.elim⟩ t2.mem (h1 hb a (mem_none t.mem na))
    ⟨fun σ6 Γ6 G6 H6 M6 t6 s6 q => k.nx _ _ _ _ _ ((t.trans t2).trans t6) (no ((t.trans t2).trans t6) s6) q, fun v d G6 H6 M6 t6 r q => k.rt v d G6 H6 M6 ((t.trans t2).trans t6) r q, fun σ6 Γ6 G6 H6 M6 t6 s6 q => k.bk _ _ _ _ _ ((t.trans t2).trans t6) (no ((t.trans t2).trans t6) s6) q, fun σ6 Γ6 G6 H6 M6 t6 s6 q => k.ct _ _ _ _ _ ((t.trans t2).trans t6) (no ((t.trans t2).trans t6) s6) q⟩
end
end EX
/-! The widened data layer Q: repr, str, bool, f-strings over data. -/
namespace EX
open PySem PySem.Spec PyProof.Rows L2

/-! ### data that never changes, as the library's data -/
def keyP : Key → PyData
  | .inl i => .int i
  | .inr x => .str x
mutual
def rdP : Dat → Option PyData
  | .non => some .none
  | .bl b => some (.bool b)
  | .int i => some (.int i)
  | .str x => some (.str x)
  | .lst ds => (rdPs ds).map .list
  | .tup ds => (rdPs ds).map .tuple
  | .dK ks ds => (rdPs ds).map fun ps => .dict ((ks.map keyP).zip ps)
  | _ => none
def rdPs : List Dat → Option (List PyData)
  | [] => some []
  | d :: ds => (rdP d).bind fun p => (rdPs ds).map (p :: ·)
end
theorem rdPs_len : ∀ {ds : List Dat} {ps : List PyData}, rdPs ds = some ps → ds.length = ps.length
  | [], _, h => by cases h; rfl
  | d :: ds, _, h => by
    have h' : (rdP d).bind (fun p => (rdPs ds).map (p :: ·)) = some _ := h
    cases q : rdP d with
    | none => rw [q] at h'; cases h'
    | some p =>
      rw [q] at h'
      cases q2 : rdPs ds with
      | none => rw [q2] at h'; cases h'
      | some ps =>
        rw [q2] at h'
        cases h'
        exact congrArg (· + 1) (rdPs_len q2)
section
variable {X : Cx} {pins : List (Addr × Obj)} {σ : L2.St} {G H : Hp} {M : Mem} {s : Shared}
theorem Inv.noSys (I : Inv X pins σ H s) (sr : X.base.NoSeer) {a : Addr} (h : H a ≠ none) : a ≠ sysModules := fun e => by
  obtain ⟨mm, ⟨o, es, ep, ho, _⟩, _⟩ := sr.mods
  exact h (by rw [e]; exact (I.bs _ _ ho).2)
theorem keys_read {h : Heap} {P : Program} {w : World} : ∀ {ks : List Key} {vs : List V} {us : List (Key × Value)} {es : List DictEntry}, KV (ks.zip vs) us → Pairs (mixKind P w) es us → ks.length = vs.length → ReadsAll h (es.map (·.key)) (ks.map keyP) [] ∧ Vals vs (es.map (·.val))
  | [], [], _, es, kv, pr, _ => by
    cases kv
    cases pr
    exact ⟨.nil, .nil⟩
  | [], _ :: _, _, _, _, _, h => by cases h
  | _ :: _, [], _, _, _, _, h => by cases h
  | k :: ks, v :: vs, _, es, kv, pr, hl => by
    cases kv with
    | cons r1 r2 =>
      cases pr with
      | cons p1 p2 p3 =>
        rename_i q qs e es
        obtain ⟨i1, i2⟩ := keys_read (h := h) r2 p3 (Nat.succ.inj hl)
        obtain ⟨e1, e2⟩ := r1
        refine ⟨?_, .cons (show RelV v e.val by rw [p2]; exact e2) i2⟩
        have z : Reads h e.key (keyP k) [] := by
          have e1' : k = q.1 := e1
          rw [e1']
          rcases keyIs_shape p1 with ⟨i, t, a, b⟩ | ⟨x, t, a, b⟩
          · rw [a, b]; exact .int i t
          · rw [a, b]; exact .str x t
        exact .cons z i1
mutual
theorem DP.rd (I : Inv X pins σ H s) (sr : X.base.NoSeer) (e : Ex G H) : ∀ {v : V} {d : Dat} {p : PyData} {u : Value}, DP (kx X) G v d → rdP d = some p → RelV v u → ∃ as, Reads s.heap u p as ∧ sysModules ∉ as
  | _, _, _, _, .non, h, r => by cases h; cases r; exact ⟨_, .none, by simp⟩
  | _, _, _, _, .bl b, h, r => by cases h; cases r; exact ⟨_, .bool b, by simp⟩
  | _, _, _, _, .int i, h, r => by cases h; obtain ⟨t, rfl⟩ := r; exact ⟨_, .int i t, by simp⟩
  | _, _, _, _, .str x, h, r => by cases h; obtain ⟨t, rfl⟩ := r; exact ⟨_, .str x t, by simp⟩
  | _, _, p, u, @DP.lst _ _ a xs ds ha hr, h, r => by
    have h' : (rdPs ds).map PyData.list = some p := h
    cases q : rdPs ds with
    | none => rw [q] at h'; cases h'
    | some ps =>
      rw [q] at h'
      cases h'
      cases r
      have hH := e _ _ ha
      obtain ⟨_, its, n, rv, ho⟩ := I.hok a _ hH
      obtain ⟨as, z, zn⟩ := DPs.rd I sr e hr q rv
      exact ⟨a :: as, .list ho rfl rfl z, fun m => (List.mem_cons.mp m).elim (fun y => Inv.noSys I sr (a := a) (by rw [hH]; intro w; cases w) y.symm) zn⟩
  | _, _, p, u, @DP.tup _ _ a xs ds ha hr, h, r => by
    have h' : (rdPs ds).map PyData.tuple = some p := h
    cases q : rdPs ds with
    | none => rw [q] at h'; cases h'
    | some ps =>
      rw [q] at h'
      cases h'
      cases r
      obtain ⟨_, its, rv, o, ho, hc, n, hd⟩ := I.hok a _ (e _ _ ha)
      obtain ⟨as, z, zn⟩ := DPs.rd I sr e hr q rv
      exact ⟨as, .tuple ho hc hd z, zn⟩
  | _, _, p, u, @DP.dK _ _ a ks xs ds ha hl hr, h, r => by
    have h' : (rdPs ds).map (fun ps => PyData.dict ((ks.map keyP).zip ps)) = some p := h
    cases q : rdPs ds with
    | none => rw [q] at h'; cases h'
    | some ps =>
      rw [q] at h'
      cases h'
      cases r
      have hH := e _ _ ha
      obtain ⟨_, ns, vs, kv, o, es, ep, ho, hx, hd, _, pr, _⟩ := I.hok a _ hH
      obtain ⟨k1, k2⟩ := keys_read (h := s.heap) kv pr hl
      obtain ⟨bs, z, zn⟩ := DPs.rd I sr e hr q k2
      have l1 : ks.length = ps.length := by rw [hl, hr.len]; exact rdPs_len q
      have f1 : ((ks.map keyP).zip ps).map (·.1) = ks.map keyP := List.map_fst_zip (by rw [List.length_map]; omega)
      have f2 : ((ks.map keyP).zip ps).map (·.2) = ps := List.map_snd_zip (by rw [List.length_map]; omega)
      refine ⟨a :: [] ++ bs, .dict ho hx.1 hd (by rw [f1]; exact k1) (by rw [f2]; exact z), fun m => ?_⟩
      rcases List.mem_append.mp m with m | m
      · rcases List.mem_cons.mp m with y | y
        · exact Inv.noSys I sr (a := a) (by rw [hH]; intro w; cases w) y.symm
        · cases y
      · exact zn m
  | _, _, _, _, .loc _, h, _ => by cases h
  | _, _, _, _, .scr _, h, _ => by cases h
  | _, _, _, _, .ty _, h, _ => by cases h
  | _, _, _, _, .cls _, h, _ => by cases h
  | _, _, _, _, .ins _ _ _ _ _, h, _ => by cases h
  | _, _, _, _, .dT _ _ _, h, _ => by cases h
theorem DPs.rd (I : Inv X pins σ H s) (sr : X.base.NoSeer) (e : Ex G H) : ∀ {vs : List V} {ds : List Dat} {ps : List PyData} {us : List Value}, DPs (kx X) G vs ds → rdPs ds = some ps → Vals vs us → ∃ as, ReadsAll s.heap us ps as ∧ sysModules ∉ as
  | _, _, _, _, .nil, h, r => by cases h; cases r; exact ⟨_, .nil, by simp⟩
  | _, _, ps, us, @DPs.cons _ _ v vs d ds h1 h2, h, r => by
    have h' : (rdP d).bind (fun p => (rdPs ds).map (p :: ·)) = some ps := h
    cases q : rdP d with
    | none => rw [q] at h'; cases h'
    | some p =>
      rw [q] at h'
      have h3 : (rdPs ds).map (p :: ·) = some ps := h'
      cases q2 : rdPs ds with
      | none => rw [q2] at h3; cases h3
      | some qs =>
        rw [q2] at h3
        cases h3
        cases r with
        | cons r1 r2 =>
          obtain ⟨as, z1, n1⟩ := DP.rd I sr e h1 q r1
          obtain ⟨bs, z2, n2⟩ := DPs.rd I sr e h2 q2 r2
          exact ⟨as ++ bs, .cons z1 z2, fun m => (List.mem_append.mp m).elim n1 n2⟩
end
end
/-! ### repr of such data -/
def oRepr0 : DFn := fun xs M Φ => ∃ x p, xs = [x] ∧ rdP x = some p ∧ p.showable = true ∧ p.shown.length ≤ sizeLine ∧ p.depth ≤ 60 ∧ Φ (.str p.shown) M
section
variable {X : Cx} {W : WX} {k : Nat}
theorem oc_repr0 (hr : EX.Room k X.A) (sr : X.base.NoSeer) : CallR X (.builtin "repr") (LC (kx X) oRepr0) := by
  intro pins s σ H xs us Q I r h
  obtain ⟨G, M, ds, Φ, e, m, rd, ⟨x, p, rfl, hp, hs, hz, hd, q⟩, kk⟩ := h
  cases rd with
  | cons r1 r2 =>
  cases r2
  obtain ⟨u, rfl, ru⟩ := vals1 r
  have fin : ∀ {h' : Heap} {t tk : Nat}, (∀ b o, s.heap.get? b = some o → h'.get? b = some o) → EP X pins σ Q (.str p.shown t) { s with heap := h', toks := tk } := fun k => ⟨.str p.shown, H, I.kept k, ⟨_, rfl⟩, kk _ _ G H M (Stp.refl e m) (.str _) q⟩
  obtain ⟨as, z, zn⟩ := DP.rd I sr e r1 hp ru
  cases z with
  | none => exact PySem.P.repr_of_none (by simpa only [PyData.shown] using fin (fun _ _ e => e))
  | bool b => exact PySem.P.repr_of_bool (by simpa only [PyData.shown] using fin (fun _ _ e => e))
  | int i t => exact PySem.P.repr_of_int (by simpa [PyData.showable] using hs) (by simpa only [PyData.shown] using fin (fun _ _ e => e))
  | str x t => exact PySem.P.repr_of_str (by simpa only [PyData.shown] using fin (fun _ _ e => e)) (by simpa only [PyData.shown] using hz)
  | list h1 h2 h3 h4 => exact repr_of_reads' (h₀ := s.heap) (.list h1 h2 h3 h4) hs (fun _ => zn) hr.gu (by have := hr.un; omega) (fun _ _ e => e) (fun h' u tk hk => fin hk) hz
  | tuple h1 h2 h3 h4 => exact repr_of_reads' (h₀ := s.heap) (.tuple h1 h2 h3 h4) hs (fun _ => zn) hr.gu (by have := hr.un; omega) (fun _ _ e => e) (fun h' u tk hk => fin hk) hz
  | dict h1 h2 h3 h4 h5 => exact repr_of_reads' (h₀ := s.heap) (.dict h1 h2 h3 h4 h5) hs (fun _ => zn) hr.gu (by have := hr.un; omega) (fun _ _ e => e) (fun h' u tk hk => fin hk) hz
end
end EX
/-! The widened data layer R: repr, str, bool by own methods; repr of a list of own instances. -/
namespace PySem.W
open PySem PySem.Calls PyProof.Rows Builtin
section
variable {prog : Program} {w : World} {A : Around} {E : Value → Shared → Prop} {s : Shared} {K : Frag} {x C f : Addr} {ox : Obj} {od : Option Obj}
theorem exr_boundBy {M : Model} {last : Value → List Value → Sem Value} {name : Str} {Q : Option Value → Shared → Prop} (X : K.In s.heap) (I : InstAt s.heap x ox C od) (hs : findIn K (.ref C) name = some (some (.ref f))) (hf : isFn K (.ref f) = true)
    (h : wpAny M A (last (.ref f) [.ref x]) (fun v => Q (some v)) E s) : wpAny M A (callSpecialIfBoundBy? last (.ref x) name) Q E s := by
  simp only [callSpecialIfBoundBy?, bindSpecialIfBound?]
  refine wpAny_holding (wpAny_bind (wpAny_bind (wpAny_bind (I.type.here ((looks_findIn X hs).here ?_)))))
  refine wpAny_bind (wpAny_askSetting (wpAny_ite ?_))
  have fin : wpAny M A (last (.ref f) [.ref x] >>= fun v => pure (some v)) Q E s := wpAny_bind (wpAny_mono h (fun v s' h' => wpAny_pure h') fun _ _ h' => h')
  split
  · exact wpAny_bind ((bind_fn X _ (beq_iff_eq.mp hf)).here (wpAny_pure (by exact fin)))
  · exact wpAny_tryCatch (wpAny_bind ((bind_fn X _ (beq_iff_eq.mp hf)).here (wpAny_pure (by exact fin))))
/-- an own __repr__ from within a list's -/
theorem exr_under {b : Nat} {Q : Value → Shared → Prop} (hu : A.units < cLine) (X : K.In s.heap) (I : InstAt s.heap x ox C od) (hs : findIn K (.ref C) "__repr__" = some (some (.ref f))) (hf : isFn K (.ref f) = true)
    (h : wpAny (model prog w) A (call (.ref f) [.ref x]) (StrBack Q) E s) : wpAny (model prog w) A (pyReprObjUnder b (.ref x)) Q E s := by
  unfold pyReprObjUnder pyReprObjBy
  refine wpAny_bind (wpAny_cRoomFor hu ?_)
  refine wpAny_bind (wpAny_bind (I.type.here ((looks_findIn X hs).here ?_)))
  show wpAny _ _ (if (some (Value.ref f)).isNone = true then _ else _) _ _ _
  rw [if_neg (by simp)]
  refine wpAny_bind (m := callSpecialIfBoundBy? _ (.ref x) (Str.ofString "__repr__")) (exr_boundBy X I hs hf ?_)
  show wpAny _ _ (call (.ref f) ([.ref x] ++ [])) _ _ _
  refine wpAny_mono h (fun v s' h' => ?_) fun _ _ h' => h'
  cases v <;> first | exact h'.elim | exact wpAny_bind (wpAny_isInstance (T := "str") (b := true) (typeIs_str _ _ _) isSubtype_str_str (wpAny_pure h'))
/-- bool(x) by an own __bool__ -/
theorem exr_bool {Q : Value → Shared → Prop} (X : K.In s.heap) (I : InstAt s.heap x ox C od) (hs : findIn K (.ref C) "__bool__" = some (some (.ref f))) (hf : isFn K (.ref f) = true)
    (h : wpAny (model prog w) A.in1.in1 (call (.ref f) [.ref x]) (BoolBack fun b => Q (.bool b)) E s) : wpAny (model prog w) A (call (.type "bool") [.ref x]) Q E s := by
  refine callType_newIn (S := fun A' R s' => A' = A.in1 ∧ s' = s ∧ R = (wants (fun obj s₁ => s₁.TypeIs obj "bool" ∧ Q obj s₁) E)) PySem.F.called_bool PySem.F.newNe_bool (PySem.F.typeCall_bool_1 _) (PySem.F.newCall_bool_1 _) (fun obj => PySem.F.args_object_init_2 obj _) PySem.F.entry_bool_new ?_ ⟨rfl, rfl, rfl⟩
  rintro A' R s' ⟨rfl, rfl, rfl⟩
  have f1 := PySem.F.conv_sub_bool
  have tr : ∀ {Q' : Bool → Shared → Prop}, (∀ b s1, Q (.bool b) s1 → Q' b s1) → wpAny (model prog w) A.in1.in1 (truthy (.ref x)) Q' (fun e s1 => wants (fun obj s₁ => s₁.TypeIs obj "bool" ∧ Q obj s₁) E (.error e) s1) s' := fun {Q'} hq => by
    unfold truthy
    refine wpAny_bind (m := callSpecial? (.ref x) (Str.ofString "__bool__")) (special_fn X I hs (beq_iff_eq.mp hf) (wpAny_mono h (fun r s' hr => ?_) fun _ _ y => y))
    cases r <;> first | exact hr.elim | skip
    first | exact wpAny_pure (hq _ _ hr) | exact hq _ _ hr
  repeat (any_goals (first | assumption | (with_reducible refine tr (fun b s1 hb => ?_)) | wp_step))
  first | exact ⟨_, rfl, rfl, hb⟩ | exact ⟨rfl, hb⟩ | (wp_walk; exact ⟨rfl, hb⟩)
end
end PySem.W
/-! The widened data layer T: repr, str, bool by own methods over data. -/
namespace EX
open PySem PySem.Spec PyProof.Rows L2
section
variable {X : Cx} {W : WX} {k : Nat} {tab : List (Str × DFnX)}
theorem strBack {X : Cx} {pins : List (Addr × Obj)} {σ : L2.St} {H : Hp} {s : Shared} {Q : VK} {u : Value} {s' : Shared} (z : EP X pins σ (fun v H' => ∃ t : Str, v = .str t ∧ Q (.str t) H') u s') : PySem.W.StrBack (EP X pins σ Q) u s' := by
  obtain ⟨v', H', I', r', t, rfl, hz⟩ := z
  obtain ⟨tk, rfl⟩ := r'
  exact ⟨.str t, H', I', ⟨tk, rfl⟩, hz⟩
/-- by an own method that tells a text; otherwise as r says -/
def oOwnS (tab : List (Str × DFnX)) (r : DFn) : DFn := fun xs M Φ => ∃ x, xs = [x] ∧ match insAt M x with
  | some (c, _, _) => ∃ sp, (c, sp) ∈ tab ∧ sp [x] M (fun d M1 => ∃ t : Str, d = .str t ∧ Φ (.str t) M1) noX
  | none => r [x] M Φ
theorem own_text {m : Str} {pins : List (Addr × Obj)} {σ : L2.St} {G H : Hp} {M : Mem} {s : Shared} {Q : VK} {v : V} {u : Value} {x : Dat} {c : Str} {ns : List Str} {fs : List Dat} {sp : DFnX} {Φ : Dat → Mem → Prop} {A : Around} (T : UnTab X.prog X.w (kx X) X.base k m tab) (I : Inv X pins σ H s) (e : Ex G H) (mo : MemOk (kx X) G H M) (rx : DP (kx X) G v x) (ru : RelV v u)
    (hi : insAt M x = some (c, ns, fs)) (hm : (c, sp) ∈ tab) (hs : sp [x] M (fun d M1 => ∃ t : Str, d = .str t ∧ Φ (.str t) M1) noX) (kk : ∀ v d G' H' M', Stp (kx X) G H M G' H' M' → DP (kx X) G' v d → Φ d M' → Q v H') (hr : EX.Room k A) (env : Env0 X.prog X.w X.K X.mg X.base A X.stack s H) :
    ∃ a C f ox od, u = .ref a ∧ PySem.W.InstAt s.heap a ox C (some od) ∧ PySem.W.findIn X.K (.ref C) m = some (some (.ref f)) ∧ PySem.W.isFn X.K (.ref f) = true ∧ InsF X.K C ∧ wpAny (model X.prog X.w) A (call (.ref f) [.ref a]) (PySem.W.StrBack (EP X pins σ Q)) X.xe s := by
  obtain ⟨C, f, hC, hs', hf, ca⟩ := (T.at hm).ex
  obtain ⟨a, C', dx', xs, rfl, hC', hF, ha, _, _⟩ := ins_at e mo rx hi
  have eC : C' = C := Value.ref.inj (Option.some.inj (hC'.symm.trans hC))
  subst eC
  cases (show u = Value.ref a from ru)
  obtain ⟨ox, od, J⟩ := ins_look I ha
  refine ⟨a, C', f, ox, od, rfl, J, hs', hf, hF, ?_⟩
  refine wpAny_mono (run_at (Q := fun v H' => ∃ t : Str, v = .str t ∧ Q (.str t) H') ca hr env I (.cons (show RelV (.ref a) (.ref a) from rfl) .nil) e mo (.cons rx .nil) hs fun z d G' H' M' t' rz hz => ?_) (fun w s' z => strBack (H := H) (s := s) z) fun _ _ z => z
  obtain ⟨t, rfl, hz⟩ := hz
  cases rz
  exact ⟨t, rfl, kk (.str t) _ G' H' M' t' (.str t) hz⟩
theorem oc_reprI {r : DFn} (T : UnTab X.prog X.w (kx X) X.base k "__repr__" tab) (hr : EX.Room (k + 1) X.A) (ho : CallR X (.builtin "repr") (LC (kx X) r)) : CallR X (.builtin "repr") (LC (kx X) (oOwnS tab r)) := by
  intro pins s σ H xs us Q I rx h
  obtain ⟨G, M, ds, Φ, e, m, rd, ⟨x, rfl, q⟩, kk⟩ := h
  split at q
  · rename_i c ns fs hi
    obtain ⟨sp, hm, q⟩ := q
    cases rd with
    | cons r1 r2 =>
    cases r2
    cases rx with
    | cons ru rn =>
    cases rn
    obtain ⟨a, C, f, ox, od, rfl, J, h1, h2, _, run⟩ := own_text T I e m r1 ru hi hm q kk hr.in1 I.env0.in1
    obtain ⟨mm, hFr⟩ := I.fr
    exact PySem.W.repr_K (by have := hr.un; show X.A.units + 1 < cLine; omega) hFr I.ok.mod.kin J h1 h2 run
  · exact ho pins s σ H xs us Q I rx ⟨G, M, _, Φ, e, m, rd, q, kk⟩
/-- str(x) -/
def oStr0 : DFn := fun xs M Φ => (∃ i : Int, xs = [.int i] ∧ i.natAbs.log2 < 1920 ∧ Φ (.str (toString i)) M) ∨ ∃ y : Str, xs = [.str y] ∧ Φ (.str y) M
theorem oc_str0 : CallR X (.type "str") (LC (kx X) oStr0) := by
  intro pins s σ H xs us Q I rx h
  obtain ⟨G, M, ds, Φ, e, m, rd, q, kk⟩ := h
  rcases q with ⟨i, rfl, hz, q⟩ | ⟨y, rfl, q⟩
  · cases rd with
    | cons r1 r2 =>
    cases r2; cases r1
    exact call_str_int pins s σ H _ us Q I rx ⟨i, rfl, hz, kk _ _ G H M (Stp.refl e m) (.str _) q⟩
  · cases rd with
    | cons r1 r2 =>
    cases r2; cases r1
    exact SkE.call_str_str pins s σ H _ us Q I rx ⟨y, rfl, kk _ _ G H M (Stp.refl e m) (.str _) q⟩
theorem Env0.in2 {A : Around} {s : Shared} {H : Hp} (e : Env0 X.prog X.w X.K X.mg X.base A X.stack s H) : Env0 X.prog X.w X.K X.mg X.base A.in1.in1 X.stack s H := e.in1.in1
theorem oc_strI {r : DFn} (T : UnTab X.prog X.w (kx X) X.base k "__str__" tab) (hr : EX.Room (k + 2) X.A) (ho : CallR X (.type "str") (LC (kx X) r)) : CallR X (.type "str") (LC (kx X) (oOwnS tab r)) := by
  intro pins s σ H xs us Q I rx h
  obtain ⟨G, M, ds, Φ, e, m, rd, ⟨x, rfl, q⟩, kk⟩ := h
  split at q
  · rename_i c ns fs hi
    obtain ⟨sp, hm, q⟩ := q
    cases rd with
    | cons r1 r2 =>
    cases r2
    cases rx with
    | cons ru rn =>
    cases rn
    obtain ⟨a, C, f, ox, od, rfl, J, h1, h2, _, run⟩ := own_text T I e m r1 ru hi hm q kk hr.in1.in1 (Env0.in2 I.env0)
    exact PySem.W.kso_call (by have := hr.un; show X.A.units + 1 + 1 < cLine; omega) I.kIn J h1 h2 run
  · exact ho pins s σ H xs us Q I rx ⟨G, M, _, Φ, e, m, rd, q, kk⟩
/-- bool(x) -/
def oBool0 : DFn := fun xs M Φ => (∃ i : Int, xs = [.int i] ∧ Φ (.bl (i != 0)) M) ∨ ∃ b : Bool, xs = [.bl b] ∧ Φ (.bl b) M
theorem oc_bool0 : CallR X (.type "bool") (LC (kx X) oBool0) := by
  intro pins s σ H xs us Q I rx h
  obtain ⟨G, M, ds, Φ, e, m, rd, q, kk⟩ := h
  rcases q with ⟨i, rfl, q⟩ | ⟨b, rfl, q⟩
  · cases rd with
    | cons r1 r2 =>
    cases r2; cases r1
    obtain ⟨u, rfl, t, rfl⟩ := vals1 rx
    exact PySem.call_bool_int ⟨.bl (i != 0), H, I, rfl, kk _ _ G H M (Stp.refl e m) (.bl _) q⟩
  · cases rd with
    | cons r1 r2 =>
    cases r2; cases r1
    obtain ⟨u, rfl, ru⟩ := vals1 rx
    cases ru
    exact PySem.call_bool_bool ⟨.bl b, H, I, rfl, kk _ _ G H M (Stp.refl e m) (.bl _) q⟩
def oBoolI (tab : List (Str × DFnX)) (r : DFn) : DFn := fun xs M Φ => ∃ x, xs = [x] ∧ match insAt M x with
  | some (c, _, _) => ∃ sp, (c, sp) ∈ tab ∧ sp [x] M (fun d M1 => ∃ b : Bool, d = .bl b ∧ Φ (.bl b) M1) noX
  | none => r [x] M Φ
theorem oc_boolI {r : DFn} (T : UnTab X.prog X.w (kx X) X.base k "__bool__" tab) (hr : EX.Room (k + 2) X.A) (ho : CallR X (.type "bool") (LC (kx X) r)) : CallR X (.type "bool") (LC (kx X) (oBoolI tab r)) := by
  intro pins s σ H xs us Q I rx h
  obtain ⟨G, M, ds, Φ, e, m, rd, ⟨x, rfl, q⟩, kk⟩ := h
  split at q
  · rename_i c ns fs hi
    obtain ⟨sp, hm, q⟩ := q
    cases rd with
    | cons r1 r2 =>
    cases r2
    obtain ⟨u, rfl, ru⟩ := vals1 rx
    obtain ⟨C, f, hC, hs', hf, ca⟩ := (T.at hm).ex
    obtain ⟨a, C', dx', xs, rfl, hC', hF, ha, _, _⟩ := ins_at e m r1 hi
    have eC : C' = C := Value.ref.inj (Option.some.inj (hC'.symm.trans hC))
    subst eC
    cases (show u = Value.ref a from ru)
    obtain ⟨ox, od, J⟩ := ins_look I ha
    refine PySem.W.exr_bool I.kIn J hs' hf ?_
    refine wpAny_mono (run_at (Q := fun v H' => ∃ b : Bool, v = .bl b ∧ Q (.bl b) H') ca hr.in1.in1 (Env0.in2 I.env0) I (.cons (show RelV (.ref a) (.ref a) from rfl) .nil) e m (.cons r1 .nil) q fun z d G' H' M' t' rz hz => ?_) (fun w s' z => ?_) fun _ _ z => z
    · obtain ⟨b, rfl, hz⟩ := hz
      cases rz
      exact ⟨b, rfl, kk (.bl b) _ G' H' M' t' (.bl b) hz⟩
    · obtain ⟨v', H', I', r', b, rfl, hz⟩ := z
      cases r'
      exact ⟨.bl b, H', I', rfl, hz⟩
  · exact ho pins s σ H xs us Q I rx ⟨G, M, _, Φ, e, m, rd, q, kk⟩

/-! ### f-strings -/
/-- {e}: a text or an int -/
def dFmt (te : DTE) : DTE := fun Γ M Φ => te Γ M fun d M1 => match d with
  | .str y => y.length ≤ sizeLine ∧ Φ (.str y) M1
  | .int i => i.natAbs.log2 < 1920 ∧ Φ (.str (toString i)) M1
  | _ => False
theorem de_fmt {e : Expr} {te : DTE} {pos : Pos} (he : PE X e (LE (kx X) W te)) : PE X (.FormattedValue e (-1) none pos) (LE (kx X) W (dFmt te)) := pe_wk (pe_fmt he) fun σ H Q ⟨Γ, G, M, Φ, e, s, m, h, k⟩ =>
  ⟨Γ, G, M, _, e, s, m, h, fun v d G1 H1 M1 t1 r h1 => by
    cases d with
    | str y => cases r; exact .inl ⟨y, rfl, h1.1, k _ _ G1 H1 M1 t1 (.str _) h1.2⟩
    | int i => cases r; exact .inr ⟨i, rfl, h1.1, k _ _ G1 H1 M1 t1 (.str _) h1.2⟩
    | _ => exact (show False from h1).elim⟩
/-- the parts' judgements -/
inductive DJ (X : Cx) (W : WX) : List Expr → List DTE → Prop where
  | nil : DJ X W [] []
  | cons {e : Expr} {t : DTE} {es : List Expr} {ts : List DTE} (h : PE X e (LE (kx X) W t)) (r : DJ X W es ts) : DJ X W (e :: es) (t :: ts)
theorem DJ.pj {es : List Expr} {ts : List DTE} : DJ X W es ts → PJ X es (ts.map fun t => LE (kx X) W t)
  | .nil => .nil
  | .cons h r => .cons h r.pj
def dJs : List DTE → Str → DEnv → Mem → (Str → Mem → Prop) → Prop
  | [], acc, _, M, Φ => Φ acc M
  | t :: ts, acc, Γ, M, Φ => t Γ M fun d M1 => ∃ y : Str, d = .str y ∧ (acc ++ y).length ≤ sizeLine ∧ dJs ts (acc ++ y) Γ M1 Φ
def dJoined (ts : List DTE) : DTE := fun Γ M Φ => dJs ts Str.empty Γ M fun out M1 => Φ (.str out) M1
theorem wk_js {K : Kx} {σ : L2.St} {Q : Str → Hp → Prop} : ∀ (ts : List DTE) (acc : Str) (Γ : DEnv) (G H : Hp) (M : Mem) (Φ : Str → Mem → Prop), Ex G H → Sl K W G H M σ Γ → MemOk K G H M → dJs ts acc Γ M Φ → (∀ out G' H' M', Stp K G H M G' H' M' → Φ out M' → Q out H') → tJs (ts.map fun t => LE K W t) acc σ H Q
  | [], acc, Γ, G, H, M, Φ, e, s, m, h, k => k acc G H M (Stp.refl e m) h
  | t :: ts, acc, Γ, G, H, M, Φ, e, s, m, h, k => ⟨Γ, G, M, _, e, s, m, h, fun v d G1 H1 M1 t1 r ⟨y, ed, hz, h1⟩ => by
      subst ed
      cases r
      exact ⟨y, rfl, hz, wk_js ts (acc ++ y) Γ G1 H1 M1 Φ t1.ex' (s.step t1) t1.mem h1 fun out G' H' M' t' q => k out G' H' M' (t1.trans t') q⟩⟩
theorem de_joined {v1 v2 : Expr} {rest : List Expr} {ts : List DTE} {pos : Pos} (h : DJ X W (v1 :: v2 :: rest) ts) : PE X (.JoinedStr (v1 :: v2 :: rest) pos) (LE (kx X) W (dJoined ts)) := pe_wk (pe_joined h.pj) fun σ H Q ⟨Γ, G, M, Φ, e, s, m, h, k⟩ =>
  wk_js ts Str.empty Γ G H M _ e s m h fun out G' H' M' t' q => k (.str out) (.str out) G' H' M' t' (.str out) q
theorem de_joined1 {e : Expr} {te : DTE} {pos : Pos} (he : PE X e (LE (kx X) W te)) : PE X (.JoinedStr [e] pos) (LE (kx X) W te) := pe_joined1 he
end
end EX
/-! The widened data layer U: repr of a list of own instances. -/
namespace EX
open PySem PySem.Spec PyProof.Rows L2
section
variable {k : Nat} {A : Around} {args : Args}
theorem under_loop_depth : (A.under (.builtin "list.__repr__.loop" args)).depth ≤ A.depth + 1 := by
  first
    | exact Nat.le_refl _
    | (show A.depth + _ ≤ A.depth + 1; decide)
    | simp [Around.under, Code.weight, Code.isCreation, Code.isGuard, Code.isCaller, Code.frames, Code.isFrame, guardIds]
theorem under_loop_hd : (A.under (.builtin "list.__repr__.loop" args)).handled = A.handled := by
  first | rfl | simp [Around.under]
theorem under_loop_frames : (A.under (.builtin "list.__repr__.loop" args)).frames = A.frames := by
  first | rfl | (cases h : A.frames <;> simp [Around.under, Code.envs, Code.isFrame, pushEnvs, h])
theorem roomB_loop (r : L2.Room (k + 1) A) : L2.Room k (A.under (.builtin "list.__repr__.loop" args)) :=
  ⟨under_loop_hd.trans r.hd, by have := r.dp; have h := under_loop_depth (A := A) (args := args); omega, by have := r.un; rw [units_under_list_loop]; omega⟩
end
/-- a method that may be called anywhere: what it promises -/
structure CalB (P : Program) (w : World) (K : Kx) (base : Heap) (k : Nat) (f : Addr) (sp : DFnX) : Prop where
  ex : ∃ fd, L2.FnOk P w K.K K.mg base (L2.CX P w) k f fd ["self"] (spX K sp) ∧ Binds K.K fd ["self"] []
structure ShowB (P : Program) (w : World) (K : Kx) (base : Heap) (k : Nat) (c : Str) (sp : DFnX) : Prop where
  ex : ∃ C f, K.mg c = some (.ref C) ∧ PySem.W.findIn K.K (.ref C) "__repr__" = some (some (.ref f)) ∧ PySem.W.isFn K.K (.ref f) = true ∧ CalB P w K base k f sp
inductive ShowTab (P : Program) (w : World) (K : Kx) (base : Heap) (k : Nat) : List (Str × DFnX) → Prop
  | nil : ShowTab P w K base k []
  | cons {c : Str} {sp : DFnX} {r : List (Str × DFnX)} : ShowB P w K base k c sp → ShowTab P w K base k r → ShowTab P w K base k ((c, sp) :: r)
theorem ShowTab.at {P : Program} {w : World} {K : Kx} {base : Heap} {k : Nat} {c : Str} {sp : DFnX} : ∀ {r : List (Str × DFnX)}, ShowTab P w K base k r → (c, sp) ∈ r → ShowB P w K base k c sp
  | _, .cons h r, q => by
    rcases List.mem_cons.mp q with e | q
    · cases e; exact h
    · exact r.at q
/-- each is an instance whose own method tells the text, and changes nothing -/
def Shows (tab : List (Str × DFnX)) (M : Mem) (d : Dat) (t : Str) : Prop := ∃ c ns fs sp, insAt M d = some (c, ns, fs) ∧ (c, sp) ∈ tab ∧ ∀ Ψ : Dat → Mem → Prop, Ψ (.str t) M → sp [d] M Ψ noX
section
variable {X : Cx} {k : Nat} {tab : List (Str × DFnX)}
theorem show_one {pins : List (Addr × Obj)} {σ : L2.St} {G H : Hp} {M : Mem} {s : Shared} {v : V} {u : Value} {x : Dat} {t : Str} {A : Around} {b : Nat} {R : Str → Shared → Prop} (T : ShowTab X.prog X.w (kx X) X.base k tab) (I : Inv X pins σ H s) (e : Ex G H) (mo : MemOk (kx X) G H M) (rx : DP (kx X) G v x) (ru : RelV v u)
    (hs : Shows tab M x t) (hr : L2.Room k A) (env : Env0 X.prog X.w X.K X.mg X.base A X.stack s H) (hb : b ≤ sizeLine) (q : ∀ G' H' s', Inv X pins σ H' s' → Stp (kx X) G H M G' H' M → R t s') : wpAny (model X.prog X.w) A (pyReprUnder b u) R X.xe s := by
  obtain ⟨c, ns, fs, sp, hi, hm, hsp⟩ := hs
  obtain ⟨C, f, hC, hs', hf, ca⟩ := (T.at hm).ex
  obtain ⟨fd, F, hbd⟩ := ca.ex
  obtain ⟨a, C', dx', xs, rfl, hC', hF, ha, _, _⟩ := ins_at e mo rx hi
  have eC : C' = C := Value.ref.inj (Option.some.inj (hC'.symm.trans hC))
  subst eC
  cases (show u = Value.ref a from ru)
  obtain ⟨ox, od, J⟩ := ins_look I ha
  refine wpAny_pyReprUnder_ref hb (PySem.W.exr_under hr.units0 I.kIn J hs' hf ?_)
  have prom : spX (kx X) sp [.ref a] H (fun v H' => v = .str t ∧ ∃ G', Stp (kx X) G H M G' H' M) (fun _ _ _ => False) :=
    ⟨G, M, [x], fun d M' => d = .str t ∧ M' = M, noX, e, mo, .cons rx .nil, hsp _ ⟨rfl, rfl⟩, fun v d G' H' M' st rd q => by
      obtain ⟨rfl, rfl⟩ := q
      cases rd
      exact ⟨rfl, G', st⟩, fun _ _ _ _ _ _ _ _ _ _ _ z => z.elim⟩
  refine wpAny_call (codeAny_mono (F.run A X.stack s H ⟨[.ref a], []⟩ [.ref a] [.ref a] _ _ hr env (by have := hbd s [.ref a] I.kIn rfl; simpa using this) (.cons rfl .nil) prom) fun out s' z => ?_)
  match out, z with
  | .error er, z =>
    exact passL (X := X) pins σ H s er s' I z
  | .ok (.ret u), z =>
    obtain ⟨v', H', I', r', ⟨rfl, G', st⟩⟩ := I.after (Q := fun v H' => v = .str t ∧ ∃ G', Stp (kx X) G H M G' H' M) z
    obtain ⟨tk, rfl⟩ := r'
    exact ⟨_, _, rfl, q G' H' s' I' st⟩

theorem paired_get {α β : Type} {F : α → β → Prop} : ∀ {xs : List α} {ys : List β} {i : Nat} {x : α}, Paired F xs ys → xs[i]? = some x → ∃ y, ys[i]? = some y ∧ F x y
  | _, _, _, _, .nil, e => by simp at e
  | _, _, 0, _, .cons h _, e => by simp at e; subst e; exact ⟨_, rfl, h⟩
  | _, _, i + 1, x, .cons _ r, e => by
    obtain ⟨y, a, b⟩ := paired_get (i := i) (x := x) r (by simpa using e)
    exact ⟨y, by simpa using a, b⟩
/-- a list that grows and that nobody else knows -/
def lstX (P : Addr) (acc : Array Value) : HO := .ext fun h => ∃ c : Nat, h.get? P = some { cls := .type "list", dict := none, data := .seq acc c, slots := #[] }
theorem lstX_ok {Pr : Program} {w : World} {H : Hp} {h : Heap} {P : Addr} {acc : Array Value} {c : Nat} (e : h.get? P = some { cls := .type "list", dict := none, data := .seq acc c, slots := #[] }) : ObjOk Pr w H h P (lstX P acc) :=
  ⟨⟨c, e⟩, ⟨_, e⟩, fun _ _ ⟨c, q⟩ k => ⟨c, k _ q⟩⟩
theorem lstX_at {Pr : Program} {w : World} {H : Hp} {h : Heap} {P : Addr} {acc : Array Value} (x : HOk Pr w H h) (e : H P = some (lstX P acc)) : ∃ c : Nat, h.get? P = some { cls := .type "list", dict := none, data := .seq acc c, slots := #[] } := (x P _ e).1
theorem Stp.side {K : Kx} {G H G' H' : Hp} {M M' : Mem} {P : Addr} {o : HO} (t : Stp K G H M G' H' M') (hP : H P = none) (gP : G' P = none) (mP : M' P = none) : Stp K G H M G' (upd H' P o) M' where
  ex := t.ex
  ex' := fun a u h => by rw [upd_ne (fun z => by rw [z, gP] at h; cases h)]; exact t.ex' a u h
  mem := t.mem.mono Ex.rfl' (fun a h => by
    cases q : M' a with
    | none => exact absurd q h
    | some c => exact (t.mem a c q).1) fun a o h q => by rw [upd_ne (fun z => h (by rw [z]; exact mP))]; exact q
  fr := fun a u n h => by rw [upd_ne (fun z => by rw [z, hP] at h; cases h)]; exact t.fr a u n h
  ng := t.ng
  nm := t.nm
theorem envAt {pins : List (Addr × Obj)} {σ : L2.St} {H : Hp} {s : Shared} {A : Around} (I : Inv X pins σ H s) (hf : A.frames = some X.stack) : Env0 X.prog X.w X.K X.mg X.base A X.stack s H := ⟨hf, I.env0.mod, I.env0.bs, I.env0.bsz, I.env0.funs, I.env0.frf, I.env0.hok, I.env0.bare⟩
theorem loop_own {pins : List (Addr × Obj)} {σ : L2.St} {a P : Addr} {M : Mem} {dl : Dat} {ds : List Dat} {ts : List Str} {A : Around} {R : Result → Shared → Prop} {G0 H0 : Hp} (T : ShowTab X.prog X.w (kx X) X.base k tab) (hr : L2.Room (k + 1) A) (hf : A.frames = some X.stack) (hv : vw M dl = some ds) (hs : Paired (Shows tab M) ds ts) (hz : (listText ts).length ≤ sizeLine)
    (fin : ∀ G' H' s' u, Inv X pins σ H' s' → Stp (kx X) G0 H0 M G' H' M → R (.ok (.ret (.str (listText ts) u))) s') (err : ∀ e s', X.xe e s' → R (.error e) s') (p0 : H0 P = none) :
    ∀ (j i : Nat) (G H : Hp) (s : Shared) (acc : Array Value) (done : List (Str × Tok)), ds.length - i = j → i ≤ ds.length → Inv X pins σ H s → Stp (kx X) G0 H0 M G H M → H P = some (lstX P acc) → G P = none → M P = none → DP (kx X) G (.ref a) dl → acc.toList = strValues done → done.map (·.1) = ts.take i →
    codeAny (model X.prog X.w) A (.builtin "list.__repr__.loop" ⟨[.ref a, rawInt i, .ref P, rawInt ((piled (ts.take i) : Nat) : Int)], []⟩) R s := by
  have hL := textFrom_len ts 0 "["
  have hX : (listText ts).length = (textFrom 0 "[" ts).length + 1 := by
    show (textFrom 0 "[" ts ++ "]").length = _
    rw [strLen_append]; rfl
  have hlen : ds.length = ts.length := Paired.length hs
  have hsz1 : ts.length ≤ sizeLine := by
    have h1 := hL.1
    rw [if_neg (Nat.lt_irrefl 0)] at h1
    omega
  have hsz2 : ∀ t ∈ ts, t.length ≤ sizeLine := fun t ht => by
    have h2 := hL.2.1 t ht
    omega
  have hp3 := piled_le_listText ts
  intro j
  induction j with
  | zero =>
    intro i G H s acc done hj hi I st hP gP mP hd hacc hdone
    have hin : i = ds.length := by omega
    obtain ⟨a', xs, ea, sq, rx, _⟩ := vw_at st.ex' st.mem hd hv
    cases ea
    obtain ⟨its, rv, ⟨o, n, ho, hc, _, hda⟩, _⟩ := I.list sq
    have hil : its.length = ds.length := by rw [← rv.length]; exact rx.len
    obtain ⟨c, hPo⟩ := lstX_at I.hok hP
    refine codeAny_builtin F.entry_list_repr_loop ?_
    show wpAny _ _ (Builtin.«list.__repr__.loop» ⟨[.ref a, .int i 0, .ref P, .int ((piled (ts.take i) : Nat) : Int) 0], []⟩) _ _ s
    rw [repr_loop_tree]
    refine wpAny_bind (wpAny_listItems ho hda ?_)
    have hnone : its.toArray[(i : Int).toNat]? = none := by simp [hin, hil]
    simp only [hnone]
    unfold reprEnd
    refine wpAny_bind (wpAny_listItems hPo rfl ?_)
    rw [hacc, repr_fold]
    refine wpAny_bind (wpAny_pure ?_)
    have hall : done.map (·.1) = ts := by rw [hdone, hin, hlen, List.take_length]
    rw [hall]
    refine wpAny_bind (wpAny_mkStr (wpAny_pure ?_) hz)
    exact fin G H _ _ (I.tok _) st
  | succ j ih =>
    intro i G H s acc done hj hi I st hP gP mP hd hacc hdone
    have hlt : i < ds.length := by omega
    obtain ⟨a', xs, ea, sq, rx, _⟩ := vw_at st.ex' st.mem hd hv
    cases ea
    obtain ⟨its, rv, ⟨o, n, ho, hc, _, hda⟩, _⟩ := I.list sq
    obtain ⟨v, hxv, rdv⟩ := rx.get (i := i) (d := ds[i]) (by simp [hlt])
    obtain ⟨u, hiu, ruv⟩ := rv.get hxv
    obtain ⟨t, ht, hsh⟩ := paired_get (i := i) (x := ds[i]) hs (by simp [hlt])
    have hp1 := piled_take_succ ht
    have hp2 := piled_take_le ts (i + 1)
    refine codeAny_builtin F.entry_list_repr_loop ?_
    show wpAny _ _ (Builtin.«list.__repr__.loop» ⟨[.ref a, .int i 0, .ref P, .int ((piled (ts.take i) : Nat) : Int) 0], []⟩) _ _ s
    rw [repr_loop_tree]
    refine wpAny_bind (wpAny_listItems ho hda ?_)
    have hsome : its.toArray[(i : Int).toNat]? = some u := by simpa using hiu
    simp only [hsome]
    rw [Int.toNat_natCast]
    refine wpAny_bind (wpAny_holding (wpAny_mono (show_one (R := fun tx s1 => tx = t ∧ ∃ G' H', Inv X pins σ H' s1 ∧ Stp (kx X) G H M G' H' M) T I st.ex' st.mem rdv ruv hsh (roomB_loop hr) (envAt I (under_loop_frames.trans hf)) (by omega) fun G' H' s' I' st' => ⟨rfl, G', H', I', st'⟩) (fun tx s1 hz1 => ?_) fun e s1 z => err e s1 z))
    obtain ⟨rfl, G1, H1, I1, st1⟩ := hz1
    have hP1 : H1 P = some (lstX P acc) := st1.fr P _ mP hP
    have gP1 : G1 P = none := by
      cases z : G1 P with
      | none => rfl
      | some o =>
        rcases st1.ng P (by rw [z]; intro w; cases w) gP with q | q
        · rw [hP] at q; cases q
        · exact absurd mP q
    refine wpAny_bind (wpAny_mkStr ?_ (hsz2 tx (List.mem_of_getElem? ht)))
    refine wpAny_bind ?_
    show wpAny _ _ (updateSeq P _) _ _ _
    have hasz : acc.size ≤ sizeLine := by
      have e1 : acc.toList.length = acc.size := by simp
      have e2 : (strValues done).length = done.length := by simp [strValues]
      have e3 : done.length = (ts.take i).length := by rw [← hdone, List.length_map]
      have e4 : (ts.take i).length ≤ ts.length := by rw [List.length_take]; omega
      rw [hacc] at e1; omega
    obtain ⟨c, hPo⟩ := lstX_at I1.hok hP1
    refine wpAny_updateSeq hPo rfl (wpAny_pure ⟨F.quiet_list_repr_loop _, ?_⟩) hasz
    have e1 : ((i : Int) + 1) = ((i + 1 : Nat) : Int) := by omega
    have e2 : piled (ts.take i) + (tx.length + 2) = piled (ts.take (i + 1)) := by omega
    rw [e1, e2]
    refine ih (i + 1) G1 (upd H1 P (lstX P (acc.push (.str tx s1.toks)))) _ (acc.push (.str tx s1.toks)) (done ++ [(tx, s1.toks)]) (by omega) hlt ?_ ((st.trans st1).side p0 gP1 mP) upd_same gP1 mP (hd.mono st1.ex) (by simp [hacc, strValues]) (by simp [List.take_add_one, ht, hdone])
    exact I1.write (by rw [hP1]; exact True.intro) (.inl rfl) (fun b o hb ho => (Heap.get?_update_other _ _ (Ne.symm hb)).trans ho) ⟨_, Heap.get?_update_self _ hPo rfl⟩ (lstX_ok (Heap.get?_update_self _ hPo rfl))
end
end EX
/-! The widened data layer V: repr of a list of own instances as a call. -/
namespace EX
open PySem PySem.Spec PyProof.Rows L2
/-- repr of a list of own instances, otherwise as r says -/
def oReprL (tab : List (Str × DFnX)) (r : DFn) : DFn := fun xs M Φ => (∃ x ds ts, xs = [x] ∧ vw M x = some ds ∧ ds ≠ [] ∧ Paired (Shows tab M) ds ts ∧ (listText ts).length ≤ sizeLine ∧ Φ (.str (listText ts)) M) ∨ r xs M Φ
section
variable {X : Cx} {W : WX} {k : Nat} {tab : List (Str × DFnX)}
theorem oc_reprL {r : DFn} (T : ShowTab X.prog X.w (kx X) X.base k tab) (hr : EX.Room (k + 2) X.A) (ho : CallR X (.builtin "repr") (LC (kx X) r)) : CallR X (.builtin "repr") (LC (kx X) (oReprL tab r)) := by
  intro pins s σ H xs us Q I rx h
  obtain ⟨G, M, ds, Φ, e, m, rd, q, kk⟩ := h
  rcases q with ⟨x, dl, ts, rfl, hv, hne, hs, hz, q⟩ | q
  · cases rd with
    | cons r1 r2 =>
    cases r2
    cases rx with
    | cons ru rn =>
    cases rn
    obtain ⟨a, vs, rfl, sq, rvs, _⟩ := vw_at e m r1 hv
    cases (show _ = Value.ref a from ru)
    obtain ⟨its, rv, ⟨o, n, hho, hc, _, hda⟩, _⟩ := I.list sq
    have hil : its.length = dl.length := by rw [← rv.length]; exact rvs.len
    cases its with
    | nil => exact absurd (List.length_eq_zero_iff.mp hil.symm) hne
    | cons y l =>
    refine PySem.call_repr_slot (by have := hr.un; show X.A.units + 1 < cLine; omega) ⟨o, hho, hc⟩ F.slot_list_repr.toG ?_
    refine wpAny_call (codeAny_call_builtin F.slot_list_repr.plain F.entry_list_repr (F.slot_list_repr.check _ _ _ _ _ _ _ _ ⟨o, hho, hc⟩ (F.args_list_repr_1 _) ?_))
    refine wpAny_list_repr_head (A := X.A.in1.in1) (g := []) hr.gu (fun v rest kw hm => nomatch hm) hho hda ?_
    refine wpAny_bind (m := newList []) (wpAny_newObj_type ?_)
    refine wpAny_pure ⟨F.quiet_list_repr_loop _, ?_⟩
    have hP : H s.heap.objs.size = none := I.hok.fresh (Nat.le_refl _)
    have mP : M s.heap.objs.size = none := mem_none m hP
    have gP : G s.heap.objs.size = none := by
      cases z : G s.heap.objs.size with
      | none => rfl
      | some o => have := e _ _ z; rw [hP] at this; cases this
    have I1 : Inv X pins σ (upd H s.heap.objs.size (lstX s.heap.objs.size #[])) { s with heap := s.heap.push { cls := .type "list", dict := none, data := .seq #[] 0, slots := #[] } } := I.laidN (t' := s.toks) (fun b o e => Heap.get?_push_of_some _ e) (Heap.get?_none_of_le (Nat.le_refl _)) hP (lstX_ok (Heap.get?_push_size _ rfl))
    exact loop_own (P := s.heap.objs.size) (G0 := G) (H0 := H) T hr.r.in1 I.env0.1 hv hs hz
      (fun G' H' s' u I' st => ⟨_, _, rfl, ⟨.str (listText ts), H', I', ⟨_, rfl⟩, kk _ _ G' H' M st (.str _) q⟩⟩) (fun e s' z => z) hP _ 0 G _ _ #[] [] rfl (Nat.zero_le _) I1 ((Stp.refl e m).side hP gP mP) upd_same gP mP r1 rfl rfl
  · exact ho pins s σ H xs us Q I rx ⟨G, M, _, Φ, e, m, rd, q, kk⟩
end
end EX
/-! The widened data layer W: tuples joined, cut and zipped; list.count of truths; small dicts; `not` of any value. -/
namespace EX
open PySem PySem.Spec PyProof.Rows L2
section
variable {X : Cx} {W : WX}
/-! ### t + u, t[lo:hi] of tuples -/
def oAddT (r : DOp) : DOp := fun x y M Φ => (∃ a b, x = .tup a ∧ y = .tup b ∧ a.length + b.length ≤ sizeLine ∧ Φ (.tup (a ++ b)) M) ∨ r x y M Φ
theorem os_addT {r : DOp} (ho : OpR X (binaryOp .Add) (LOp (kx X) r)) : OpR X (binaryOp .Add) (LOp (kx X) (oAddT r)) := by
  intro pins s σ H x y v u Q I rx ry h
  obtain ⟨G, M, dx, dy, Φ, e, m, hx, hy, q, k⟩ := h
  rcases q with ⟨a, b, rfl, rfl, hz, q⟩ | q
  · cases hx with
    | @tup p xs _ ha hr =>
    cases hy with
    | @tup p2 ys _ hb hr' =>
    refine op_catA pins s σ H _ _ v u Q I rx ry ⟨p, p2, xs, ys, rfl, rfl, DP.sqt e ha, DP.sqt e hb, by rw [hr.len, hr'.len]; exact hz, fun h0 => ?_, fun _ h1 => ?_, fun _ _ p hp => ?_⟩
    · subst h0
      cases hr
      exact k _ (.tup b) G H M (Stp.refl e m) (.tup hb hr') q
    · subst h1
      cases hr'
      rw [List.append_nil] at q
      exact k _ (.tup a) G H M (Stp.refl e m) (.tup ha hr) q
    · exact k _ (.tup (a ++ b)) _ _ M (Stp.alloc e m hp) (.tup upd_same ((hr.app hr').mono (Ex.new (e.free hp)))) q
  · exact ho pins s σ H x y v u Q I rx ry ⟨G, M, dx, dy, Φ, e, m, hx, hy, q, k⟩
theorem cutD_whole {ds : List Dat} {lo hi : Option Int} (h : HT.sIx ds.length 0 lo = 0 ∧ HT.sIx ds.length ds.length hi = ds.length) : cutD ds lo hi = ds := by
  unfold cutD
  rw [h.1, h.2, List.drop_zero, Nat.sub_zero, List.take_length]
def oSlT (x : Dat) (lo hi : Option Int) (M : Mem) (Φ : Dat → Mem → Prop) : Prop := ∃ ds, x = .tup ds ∧ Φ (.tup (cutD ds lo hi)) M
theorem os_slT : SlR X (LSl (kx X) oSlT) := by
  intro pins s σ H x v vl vu lo hi sl Q I rx hs pl pu h
  obtain ⟨G, M, dx, Φ, e, m, hx, ⟨ds, rfl, q⟩, k⟩ := h
  cases hx with
  | @tup p xs _ ha hr =>
  refine sl_tupA pins s σ H _ v vl vu lo hi sl Q I rx hs pl pu ⟨p, xs, rfl, DP.sqt e ha, fun hw => ?_, fun _ p hp => ?_⟩
  · rw [hr.len] at hw
    rw [cutD_whole hw] at q
    exact k _ (.tup ds) G H M (Stp.refl e m) (.tup ha hr) q
  · exact k _ (.tup (cutD ds lo hi)) _ _ M (Stp.alloc e m hp) (.tup upd_same ((cutD_dps hr).mono (Ex.new (e.free hp)))) q
/-! ### zip of two tuples -/
theorem itzT_ok {K : Kx} {G0 : Hp} {a b : Addr} {xs ys : List V} {ds es : List Dat} {I : Mem → Prop} (h : G0 a = some (.tup xs)) (r0 : DPs K G0 xs ds) (h' : G0 b = some (.tup ys)) (r1 : DPs K G0 ys es) : ItOk K (RZ.ItzT K.K a b) (zipD ds es) G0 I := fun G H M i e1 e2 m hI => by
  have hs : SqT K.K H a xs := DP.sqt (e1.trans e2) h
  have hs' : SqT K.K H b ys := DP.sqt (e1.trans e2) h'
  have r := r0.mono e1
  have r' := r1.mono e1
  unfold zipD
  refine ⟨fun d hd => ?_, fun hl => ⟨xs, ys, hs, hs', by rw [List.length_map, List.length_zip] at hl; rw [r.len, r'.len]; omega⟩⟩
  rw [List.getElem?_map] at hd
  cases q : (ds.zip es)[i]? with
  | none => rw [q] at hd; cases hd
  | some p =>
    rw [q] at hd
    have ed : Dat.tup [p.1, p.2] = d := Option.some.inj hd
    subst ed
    obtain ⟨q1, q2⟩ := List.getElem?_zip_eq_some.mp q
    obtain ⟨v, hv, rv⟩ := r.get q1
    obtain ⟨u, hu, ru⟩ := r'.get q2
    refine ⟨⟨xs, ys, v, u, hs, hs', hv, hu⟩, fun x H' hy => ?_⟩
    obtain ⟨T, y, z, rfl, hT, rfl, f, g⟩ := hy
    have ex : v = y := Option.some.inj (hv.symm.trans (f xs hs))
    have ex' : u = z := Option.some.inj (hu.symm.trans (g ys hs'))
    subst ex ex'
    exact ⟨_, Stp.alloc e2 m hT, .tup upd_same (.cons (rv.mono (Ex.new (e2.free hT))) (.cons (ru.mono (Ex.new (e2.free hT))) .nil))⟩
def diZipT (t : DTA) : DTI := fun Γ M Φ => t Γ M fun ds M1 => ∃ xs ys, ds = [.tup xs, .tup ys] ∧ Φ (zipD xs ys) (fun _ => True) M1
theorem di_zipT {tr : DTA} {a b : Expr} {p pos tpos : Pos} {elts : List Expr} {kk : Nat} (hg : Gl X "zip") (hm : X.mg "zip" = none) (ha : PA X [a, b] (LA (kx X) W tr)) (hs : starEach [a, b] X.env = (false, eval a X.env) :: starEach [b] X.env := by rfl) (hpl : (backTo pos (starEach [b] X.env)).any (·.1) = false := by rfl) :
    PI X (.Tuple elts kk tpos) (.Call (.Name "zip" p) [a, b] [] pos) (LI (kx X) W (diZipT tr)) := pi_wk (RZ.pi_zipA hg hm ha hs hpl) fun σ H R ⟨Γ, G, M, Φ, e, s, m, h, k⟩ =>
  ⟨Γ, G, M, _, e, s, m, h, fun v d G1 H1 M1 t1 r h1 => by
    obtain ⟨ds, es, rfl, q⟩ := h1
    cases r with
    | cons r1 r2 =>
      cases r2 with
      | cons r2 r3 =>
        cases r3
        cases r1 with
        | @tup a xs _ ha hr =>
        cases r2 with
        | @tup b ys _ hb hr' =>
        exact ⟨a, b, xs, ys, rfl, .inr ⟨DP.sqt t1.ex' ha, DP.sqt t1.ex' hb, k _ _ _ G1 H1 M1 t1 (itzT_ok ha hr hb hr') q⟩⟩⟩
/-! ### [truths].count(truth) -/
def btk (k : Bool) (v : Value) : Bool := match v with
  | .bool n => n == k
  | _ => false
theorem btk_vals {k : Bool} {A : Around} {s : Shared} : ∀ {bs : List Bool} {us : List Value}, Vals (bs.map V.bl) us → (∀ y ∈ us, SeqAt.EqAt A s y (.bool k) (btk k y)) ∧ us.countP (btk k) = bs.count k
  | [], _, r => by cases r; exact ⟨fun y hy => by simp at hy, rfl⟩
  | b :: bs, _, r => by
    rw [List.map_cons] at r
    cases r with
    | @cons _ u _ us h t =>
    obtain ⟨h1, h2⟩ := btk_vals (k := k) (A := A) (s := s) t
    cases (show u = Value.bool b from h)
    refine ⟨fun y hy => ?_, ?_⟩
    · rcases List.mem_cons.mp hy with e | e
      · rw [e]; exact SeqAt.EqAt.bool_bool b k
      · exact h1 y e
    · rw [List.countP_cons, List.count_cons, h2] <;> rfl
def rCntB (K : PySem.W.Frag) : V → List V → Hp → VK → Prop := fun x xs H Q => ∃ (p : Addr) (ns : List Bool) (k : Bool), x = .ref p ∧ xs = [.bl k] ∧ SqL K H p (ns.map V.bl) ∧ Q (.int (ns.count k : Nat)) H
theorem mt_countB : MtR X "list.count" (rCntB X.K) := by
  intro pins s σ H x xs v us Q I rx rxs h
  obtain ⟨p, ns, k, rfl, rfl, hs, q⟩ := h
  cases rx
  obtain ⟨u, rfl, ru⟩ := rxs.one
  cases (show u = Value.bool k from ru)
  obtain ⟨its, rv, ⟨⟨cls, dd, data, sl⟩, n, ho, hc, hdn, hd⟩, hlen⟩ := I.list hs
  simp only at hc hd
  subst hc hd
  obtain ⟨h1, ec⟩ := btk_vals (k := k) (A := X.A.in1.in1) (s := s) rv
  obtain ⟨h1', _⟩ := btk_vals (k := k) (A := X.A.in1) (s := s) rv
  refine call_meets PySem.F.slot_list_count ⟨_, ho, rfl⟩ PySem.F.entry_list_count (PySem.F.args_list_count_2 _ _)
    (SeqAt.list_countAt p its.toArray n dd sl (.bool k) (btk k)) ⟨ho, fun y hy => by first | exact h1 y (by simpa using hy) | exact h1' y (by simpa using hy), ?_⟩
  refine ⟨.int (ns.count k : Nat), H, I.tok _, ⟨s.toks, ?_⟩, q⟩
  show Value.int ((its.toArray.toList.countP (btk k) : Nat) : Int) s.toks = Value.int ((ns.count k : Nat) : Int) s.toks
  rw [show its.toArray.toList = its from rfl, ec]
theorem DPs.bools {K : Kx} {G : Hp} : ∀ {bs : List Bool} {xs : List V}, DPs K G xs (bs.map .bl) → xs = bs.map V.bl
  | [], _, r => by cases r; rfl
  | b :: bs, _, r => by
    rw [List.map_cons] at r
    cases r with
    | cons h t =>
    cases h
    rw [DPs.bools t]; rfl
def oCount : Dat → List Dat → Mem → (Dat → Mem → Prop) → Prop := fun x ds M Φ => ∃ (a : Addr) (bs : List Bool) (k : Bool), x = .loc a ∧ ds = [.bl k] ∧ M.l a = some (bs.map .bl) ∧ Φ (.int (bs.count k : Nat)) M
theorem wk_count {K : Kx} : ∀ x vs H Q, LMt K oCount x vs H Q → rCntB K.K x vs H Q := fun x vs H Q h => by
  obtain ⟨G, M, dx, ds, Φ, e, m, rx, rs, ⟨a, bs, k, rfl, rfl, hm, q⟩, kk⟩ := h
  cases rx
  cases rs with
  | cons r1 r2 =>
  cases r2; cases r1
  obtain ⟨g0, xs, ha, hr⟩ := m a (.lst _) (Mem.of_l hm)
  exact ⟨a, bs, k, rfl, rfl, by rw [← DPs.bools hr]; exact .inl (.inl ha), kk _ _ G _ _ (Stp.refl e m) (.int _) q⟩
/-! ### {}, {"a": e} -/
def dDict0 : DTE := fun _ M Φ => Φ (.dK [] []) M
theorem de_dict0 {pos : Pos} : PE X (.Dict [] [] pos) (LE (kx X) W dDict0) := pe_wk pe_dnewK fun σ H Q ⟨Γ, G, M, Φ, e, s, m, h, k⟩ p hp =>
  k _ (.dK [] []) _ _ M (Stp.alloc e m hp) (.dK (ks := []) (xs := []) upd_same rfl .nil) h
/-- what was open is sealed -/
theorem Stp.seal {K : Kx} {G H G' H' : Hp} {M M' : Mem} {P : Addr} {o : HO} (t : Stp K G H M G' H' M') (hP : H P = none) (gP : G' P = none) (mP : M' P = none) : Stp K G H M (upd G' P o) (upd H' P o) M' where
  ex := t.ex.trans (Ex.new gP)
  ex' := fun a u h => by
    by_cases z : a = P
    · rw [z, upd_same] at h ⊢; exact h
    · rw [upd_ne z] at h ⊢; exact t.ex' a u h
  mem := t.mem.mono (Ex.new gP) (fun a h => by
    have na : a ≠ P := fun z => h (by rw [z]; exact mP)
    rw [upd_ne na]
    cases q : M' a with
    | none => exact absurd q h
    | some c => exact (t.mem a c q).1) fun a o h q => by rw [upd_ne (fun z => h (by rw [z]; exact mP))]; exact q
  fr := fun a u n h => by rw [upd_ne (fun z => by rw [z, hP] at h; cases h)]; exact t.fr a u n h
  ng := fun a h n => by
    by_cases z : a = P
    · rw [z]; exact .inl hP
    · rw [upd_ne z] at h; exact t.ng a h n
  nm := t.nm
def dDict1 (k : Str) (te : DTE) : DTE := fun Γ M Φ => te Γ M fun d M1 => Φ (.dK [.inr k] [d]) M1
theorem de_dict1 {pos cpos : Pos} {x : Str} {e : Expr} {te : DTE} {j} (he : PE X e (LE (kx X) W te)) : PE X (.Dict [some (.Constant (.str x) j cpos)] [e] pos) (LE (kx X) W (dDict1 x te)) :=
  pe_wk (pe_disp (pps_cons (pe_str (x := x)) he pps_nil) (by rfl) (by rfl) (by simp) (by simp)) fun σ H Q ⟨Γ, G, M, Φ, ex, sl, m, h, k⟩ p hp => by
    have mp : M p = none := mem_none m hp
    have gp : G p = none := ex.free hp
    have t0 : Stp (kx X) G H M G (upd H p (.dK [])) M := (Stp.refl ex m).side hp gp mp
    refine ⟨Γ, G, M, _, t0.ex', sl.step t0, t0.mem, h, fun v d G1 H1 M1 t1 rd q => ?_⟩
    have m1 : M1 p = none := by
      cases z : M1 p with
      | none => rfl
      | some c => exact (t1.nm p (by rw [z]; intro w; cases w)).elim (fun y => absurd mp y) fun y => by rw [upd_same] at y; cases y
    have h1 : H1 p = some (.dK []) := t1.fr p _ mp upd_same
    have g1 : G1 p = none := by
      cases z : G1 p with
      | none => rfl
      | some o => exact (t1.ng p (by rw [z]; intro w; cases w) gp).elim (fun y => by rw [upd_same] at y; cases y) fun y => absurd mp y
    refine ⟨h1, [(.inr x, v)], rfl, by simp, ?_⟩
    refine k _ (.dK [.inr x] [d]) (upd G1 p (.dK [(.inr x, v)])) _ M1 ((t0.trans t1).seal hp g1 m1) (.dK (ks := [.inr x]) (xs := [v]) upd_same rfl (.cons (rd.mono (Ex.new g1)) .nil)) q
/-! ### `not e`, any e with a truth -/
def dNotT (tab : List (Str × DFnX)) (t : DTE) : DTE := fun Γ M Φ => t Γ M fun d M1 => oTru tab d M1 fun b M2 => Φ (.bl (!b)) M2
theorem de_notT {k : Nat} {tab : List (Str × DFnX)} {e : Expr} {t : DTE} {pos : Pos} (T : UnTab X.prog X.w (kx X) X.base k "__bool__" tab) (hr : Room k X.A) (h : PE X e (LE (kx X) W t)) : PE X (.UnaryOp .Not e pos) (LE (kx X) W (dNotT tab t)) := by
  refine ⟨fun pins s σ H Q I ⟨Γ, G, M, Φ, ex, sl, mo, q, kk⟩ => ?_⟩
  refine UnaryOp_ (thn (runD h I ex sl mo q) fun v s1 ⟨x, d, G1, H1, M1, I1, r1, t1, rd, q1⟩ => ?_)
  refine not_of (thn (os_tru T hr pins s1 σ H1 x v (fun b H' => Q (.bl (!b)) H') I1 r1 ⟨G1, M1, d, fun b M2 => Φ (.bl (!b)) M2, t1.ex', t1.mem, rd, q1, fun b G2 H2 M2 t2 z => kk _ _ G2 H2 M2 (t1.trans t2) (.bl _) z⟩) fun b s2 z => ?_)
  obtain ⟨H2, I2, z⟩ := z
  exact ⟨.bl (!b), H2, I2, rfl, z⟩
end
end EX
/-! The widened data layer X: methods by keyword, a, b, c = x, y, z; methods that may be called anywhere; steps. -/
namespace EX
open PySem PySem.Spec PyProof.Rows L2
section
variable {P : Program} {w : World} {K : Kx} {base : Heap}
/-! ### keywords: the call's order turned to the parameters' -/
def permS (ord : List Nat) (sp : DFnX) : DFnX := fun as M Φ Ψ => sp (perm ord as) M Φ Ψ
theorem kcalP {x qual : Str} {st : Stmt} {f : Addr} {fd : FuncData} {ps ks : List Str} {k n : Nat} {sp : DFnX} (ord : List Nat) (F : FunD K.K x qual (defArgs st) (defBody st) (defScope st) [] [] f fd)
    (hbd : ∀ us ws : List Value, us.length = n → ws.length = ks.length → ∀ (kV doc pm : Value) (an : Option Addr) (cdv ct : Value), bindArgs (PySem.W.fnOf x qual (defArgs st) (defBody st) (defScope st) .none kV doc pm an cdv ct) ⟨us, ks.zip ws⟩ = pure (ps.zip (perm ord (us ++ ws))))
    (fn : EX.FnOk P w K.K K.mg base (L2.CX P w) k f fd ps (spX K sp)) : KCal P w K base k f n ks (permS ord sp) := by
  obtain ⟨oc, od, dV, kV, doc, pm, an, cdv, ct, osl, rfl, lk, hcd, hD, hK⟩ := F.ex
  rcases hD with ⟨_, rfl⟩ | ⟨e, _⟩
  · exact ⟨k, _, ps, fun us ws => perm ord (us ++ ws), fun vs zs => perm ord (vs ++ zs), sp, Nat.le_refl _, fn, ⟨fun s us ws X l1 l2 => .of_eq (hbd us ws l1 l2 kV doc pm an cdv ct), fun r1 r2 => vals_perm (r1.append r2) ord⟩,
      fun G vs zs as bs r1 r2 l1 l2 => ⟨perm ord (as ++ bs), dps_perm (r1.app r2) ord, fun M Φ Ψ q => q⟩⟩
  · exact absurd rfl e
theorem kcalD {x qual : Str} {st : Stmt} {f : Addr} {fd : FuncData} {ps ks : List Str} {k n : Nat} {sp : DFnX} {dvs : List V} (ord : List Nat) (hd : dvs ≠ []) (F : FunD K.K x qual (defArgs st) (defBody st) (defScope st) dvs [] f fd)
    (hbd : ∀ us ws its : List Value, us.length = n → ws.length = ks.length → its.length = dvs.length → ∀ (T : Addr) (kV doc pm : Value) (an : Option Addr) (cdv ct : Value),
      ∃ k, bindArgs (PySem.W.fnOf x qual (defArgs st) (defBody st) (defScope st) (.ref T) kV doc pm an cdv ct) ⟨us, ks.zip ws⟩ = seqItems? (.ref T) >>= k ∧ k (some its.toArray) = pure (ps.zip (perm ord (us ++ ws))))
    (fn : EX.FnOk P w K.K K.mg base (L2.CX P w) k f fd ps (spX K sp)) : KCal P w K base k f n ks (permS ord sp) := by
  obtain ⟨its, kb⟩ := F.kbindsD (ps := ps) n ks (fun us _ ws => perm ord (us ++ ws)) hd (fun r1 _ r2 => vals_perm (r1.append r2) ord) fun T kV doc pm an cdv ct us its ws l1 l2 l3 => hbd us ws its l1 l3 l2 T kV doc pm an cdv ct
  exact ⟨k, _, ps, _, _, sp, Nat.le_refl _, fn, kb, fun G vs zs as bs r1 r2 l1 l2 => ⟨perm ord (as ++ bs), dps_perm (r1.app r2) ord, fun M Φ Ψ q => q⟩⟩
/-! ### methods that may be called anywhere -/
theorem FnOk.of2 {CX : CXT} {mg : Str → Option Value} {KK : PySem.W.Frag} {k : Nat} {f : Addr} {fd : FuncData} {ps : List Str} {sp : Sp} (F : L2.FnOk P w KK mg base CX k f fd ps sp) : EX.FnOk P w KK mg base CX k f fd ps sp :=
  ⟨F.len, fun A outer s H args us vs Q E hr => F.run A outer s H args us vs Q E hr.r⟩
theorem fn_mB {x qual : Str} {st : Stmt} {dvs : List V} {f : Addr} {fd : FuncData} {N ps : List Str} {k : Nat} {sp : DFnX} {t : DTS} (F : FunD K.K x qual (defArgs st) (defBody st) (defScope st) dvs [] f fd) (S : FnScope N ps (defScope st))
    (hb : ∀ (cdv : Value) (A : Around) (outer : List PySem.Env) (s : Shared) (H : Hp) (E : XK), L2.Room k (A.deeper (envOfC qual (defScope st) s.heap.objs.size f cdv)) → PSs (cxD P w K base N qual st f cdv A outer s H E) (defBody st) (LS K (WD E) t))
    (h : ∀ ds M Φ Ψ, sp ds M Φ Ψ → ds.length = ps.length ∧ t (endsOf Φ) (startD N ds (exOf Ψ)) M) : L2.FnOk P w K.K K.mg base (L2.CX P w) (k + 1) f fd ps (spX K sp) := by
  obtain ⟨oc, od, dV, kV, doc, pm, an, cdv, ct, osl, rfl, lk, hcd, _, _⟩ := F.ex
  refine fn_of lk hcd S (fun vs H Q E h0 => ?_) fun A outer s H vs Q E hr h0 => ⟨_, hb cdv A outer s H E hr, ?_⟩
  · obtain ⟨G, M, ds, Φ, Ψ, e, m, r, hs, kk, kx⟩ := h0
    rw [r.len]
    exact (h ds M Φ Ψ hs).1
  · obtain ⟨G, M, ds, Φ, Ψ, e, m, r, hs, kk, kx⟩ := h0
    refine LS.mk e ⟨sl_start r, fun c ns fs C da σ' sl' G' H' M' t' _ hc hd q => ?_⟩ m (h ds M Φ Ψ hs).2 ⟨fun σ' Γ' G' H' M' t s' q => ?_, fun v d G' H' M' t r q => ?_, fun _ _ _ _ _ _ _ q => q.elim, fun _ _ _ _ _ _ _ q => q.elim⟩
    · obtain ⟨M0, hs, q⟩ := q
      exact kx c ns fs C da G' H' M0 (t'.drop hs) hc hd q
    · obtain ⟨M0, hs, q⟩ := q
      exact kk .non .non G' H' M0 (t.drop hs) .non q
    · obtain ⟨M0, hs, q⟩ := q
      exact kk v d G' H' M0 (t.drop hs) r q
theorem calB {x qual : Str} {st : Stmt} {f : Addr} {fd : FuncData} {k : Nat} {sp : DFnX} (F : FunD K.K x qual (defArgs st) (defBody st) (defScope st) [] [] f fd)
    (hbd : ∀ us : List Value, us.length = (["self"] : List Str).length → ∀ (kV doc pm : Value) (an : Option Addr) (cdv ct : Value), bindArgs (PySem.W.fnOf x qual (defArgs st) (defBody st) (defScope st) .none kV doc pm an cdv ct) ⟨us, []⟩ = pure ((["self"] : List Str).zip us))
    (fn : L2.FnOk P w K.K K.mg base (L2.CX P w) k f fd ["self"] (spX K sp)) : CalB P w K base k f sp :=
  ⟨fd, fn, F.bindsN (fun kV doc pm an cdv ct us hl => hbd us hl kV doc pm an cdv ct)⟩
end
section
variable {X : Cx} {W : WX}
/-! ### a, b, c = x, y, z -/
def tPar3 (i j l : Nat) (ta : TA) : TS := fun D σ H => ta σ H fun vs H1 => ∃ v w u, vs = [v, w, u] ∧ D.nx (((σ.set i (some v)).set j (some w)).set l (some u)) H1
theorem ps_par3 {i j l : Nat} {x y z : Str} {a b c : Expr} {ta : TA} {px py pz pt pos : Pos} {kt k2 pt2} (hc : X.calm = true) (hN : X.N.Nodup) (hi : X.N[i]? = some x) (hj : X.N[j]? = some y) (hl : X.N[l]? = some z) (hij : i ≠ j) (hil : i ≠ l) (hjl : j ≠ l)
    (hx : X.env.scope.names.lookup x = some .local) (hy : X.env.scope.names.lookup y = some .local) (hz : X.env.scope.names.lookup z = some .local) (ha : PA X [a, b, c] ta)
    (hw : swappedStores [.Tuple [.Name x px, .Name y py, .Name z pz] kt pt] (.Tuple [a, b, c] k2 pt2) X.env = pure (some [x, y, z]))
    (hs : swapsWithSole [.Tuple [.Name x px, .Name y py, .Name z pz] kt pt] (.Tuple [a, b, c] k2 pt2) pos.line X.env = pure false := by rfl) :
    PS X (.Assign [.Tuple [.Name x px, .Name y py, .Name z pz] kt pt] (.Tuple [a, b, c] k2 pt2) pos) (tPar3 i j l ta) := by
  refine ⟨fun pins s σ H D I h => ?_⟩
  rw [exec_Assign_arm]
  refine wpAny_bind (wpAny_standAt ?_)
  rw [hs]
  refine wpAny_bind (wpAny_pure ?_)
  rw [if_neg (by decide)]
  refine wpAny_bind (Tuple_ (thn (ha.run _ pins s σ H _ I h) fun us s1 ⟨vs, H1, I1, r1, q1⟩ => ?_))
  obtain ⟨v, w, r, e1, q1⟩ := q1
  subst e1
  cases r1 with
  | @cons _ u1 _ _ rv r1 =>
  cases r1 with
  | @cons _ u2 _ _ rw' r1 =>
  cases r1 with
  | @cons _ u3 _ _ ru r1 =>
  cases r1
  refine wpAny_newObj_type ?_ (by show 3 ≤ sizeLine; decide)
  have I2 : Inv X pins σ H1 { s1 with heap := s1.heap.push { cls := .type "tuple", data := .seq [u1, u2, u3].toArray } } := I1.kept (t' := s1.toks) fun b o e => Heap.get?_push_of_some _ e
  rw [hw]
  refine wpAny_bind (wpAny_pure ?_)
  show wpAny (model X.prog X.w) X.A (do rule "assign.swapped-stores"; let items ← unpackItems (.ref s1.heap.objs.size) 3 none; assignInOrder [fun v => bindName X.env z v, fun v => bindName X.env y v, fun v => bindName X.env x v] items.reverse; pure Flow.next) _ _ _
  refine wpAny_bind (wpAny_rule (wpAny_bind (unpackItems_tuple (items := #[u1, u2, u3]) (I.ok.hd hc) (IsTup.new s1.heap _) fun h' hx' => ?_)))
  have I3 := I2.kept (h' := h') (t' := s1.toks) fun b o e => hx' b o (Nat.ne_of_lt (Heap.lt_size e)) e
  show wpAny _ _ (assignInOrder [fun v => bindName X.env z v, fun v => bindName X.env y v, fun v => bindName X.env x v] [u3, u2, u1] >>= fun _ => pure Flow.next) _ _ _
  refine wpAny_bind (assignInOrder_cons (wpAny_bindName (store_ok I3 hN hl (.inl hz) ru (fun s2 I4 => ?_) (.inr hz))))
  refine assignInOrder_cons (wpAny_bindName (store_ok I4 hN hj (.inl hy) rw' (fun s3 I5 => ?_) (.inr hy)))
  refine assignInOrder_cons (wpAny_bindName (store_ok I5 hN hi (.inl hx) rv (fun s4 I6 => assignInOrder_nil (wpAny_pure ?_)) (.inr hx)))
  rw [List.set_comm _ _ (Ne.symm hjl), List.set_comm _ _ (Ne.symm hil), List.set_comm _ _ (Ne.symm hij)] at I6
  exact ⟨_, H1, I6, q1⟩
def dPar3 (i j l : Nat) (ta : DTA) : DTS := fun D Γ M => ta Γ M fun ds M1 => ∃ d d' d'', ds = [d, d', d''] ∧ D.nx (((Γ.set i (some d)).set j (some d')).set l (some d'')) M1
theorem ds_par3 {i j l : Nat} {x y z : Str} {a b c : Expr} {ta : DTA} {px py pz pt pos : Pos} {kt k2 pt2} (hc : X.calm = true) (hN : X.N.Nodup) (hi : X.N[i]? = some x) (hj : X.N[j]? = some y) (hl : X.N[l]? = some z) (hij : i ≠ j) (hil : i ≠ l) (hjl : j ≠ l)
    (hx : X.env.scope.names.lookup x = some .local) (hy : X.env.scope.names.lookup y = some .local) (hz : X.env.scope.names.lookup z = some .local) (ha : PA X [a, b, c] (LA (kx X) W ta))
    (hw : swappedStores [.Tuple [.Name x px, .Name y py, .Name z pz] kt pt] (.Tuple [a, b, c] k2 pt2) X.env = pure (some [x, y, z]))
    (hs : swapsWithSole [.Tuple [.Name x px, .Name y py, .Name z pz] kt pt] (.Tuple [a, b, c] k2 pt2) pos.line X.env = pure false := by rfl) :
    PS X (.Assign [.Tuple [.Name x px, .Name y py, .Name z pz] kt pt] (.Tuple [a, b, c] k2 pt2) pos) (LS (kx X) W (dPar3 i j l ta)) := ps_wk (ps_par3 hc hN hi hj hl hij hil hjl hx hy hz ha hw hs) fun D σ H h => by
  obtain ⟨Γ, G, M, DD, e, s, m, h, k⟩ := h.get
  refine ⟨Γ, G, M, _, e, s, m, h, fun v d G' H' M' t r q => ?_⟩
  obtain ⟨d1, d2, d3, rfl, q⟩ := q
  cases r with
  | cons r1 r2 =>
    cases r2 with
    | cons r2 r3 =>
      cases r3 with
      | cons r3 r4 =>
      cases r4
      exact ⟨_, _, _, rfl, k.nx _ _ G' H' M' t ((((s.step t).set r1 i).set r2 j).set r3 l) q⟩
end
/-! ### steps -/
section
variable {Γ : DEnv} {M : Mem} {D : DEnds}
theorem w_dict0 {Φ : Dat → Mem → Prop} (h : Φ (.dK [] []) M) : dDict0 Γ M Φ := h
theorem w_dict1 {x : Str} {te : DTE} {Φ : Dat → Mem → Prop} (h : te Γ M fun d M1 => Φ (.dK [.inr x] [d]) M1) : dDict1 x te Γ M Φ := h
theorem w_exc0 {c : Str} {Φ : Dat → Mem → Prop} (h : ∀ a, M a = none → Φ (.loc a) (M.put a (.exn c [] []))) : dExc0 c Γ M Φ := h
theorem w_excS {c fld : Str} {te : DTE} {Φ : Dat → Mem → Prop} (h : te Γ M fun d M1 => ∀ a, M1 a = none → Φ (.loc a) (M1.put a (.exn c [fld] [d]))) : dExcS c fld te Γ M Φ := h
theorem w_raise0 {c : Str} (h : exAt Γ c [] [] M) : dRaise0 c D Γ M := h
theorem w_fldE {cs : List Str} {f : Str} {te : DTE} {Φ : Dat → Mem → Prop} (h : te Γ M fun d M1 => ∃ a c ns ds i v, d = .loc a ∧ M1 a = some (.exn c ns ds) ∧ c ∈ cs ∧ fldIx f ns = some i ∧ ds[i]? = some v ∧ Φ v M1) : dFldE cs f te Γ M Φ := h
theorem w_tru {tab : List (Str × DFnX)} {t : DTE} {Φ : Bool → Mem → Prop} (h : t Γ M fun d M1 => oTru tab d M1 Φ) : dTru tab t Γ M Φ := h
theorem w_notT {tab : List (Str × DFnX)} {t : DTE} {Φ : Dat → Mem → Prop} (h : t Γ M fun d M1 => oTru tab d M1 fun b M2 => Φ (.bl (!b)) M2) : dNotT tab t Γ M Φ := h
def onF (Φ : Dat → Mem → Prop) : Dat → Mem → Prop := fun d M1 => match d with
  | .str y => y.length ≤ sizeLine ∧ Φ (.str y) M1
  | .int i => i.natAbs.log2 < 1920 ∧ Φ (.str (toString i)) M1
  | _ => False
theorem w_fmt {te : DTE} {Φ : Dat → Mem → Prop} (h : te Γ M (onF Φ)) : dFmt te Γ M Φ := h
theorem w_onFS {y : Str} {Φ : Dat → Mem → Prop} (hz : y.length ≤ sizeLine) (h : Φ (.str y) M) : onF Φ (.str y) M := ⟨hz, h⟩
theorem w_onFI {i : Int} {Φ : Dat → Mem → Prop} (hz : i.natAbs.log2 < 1920) (h : Φ (.str (toString i)) M) : onF Φ (.int i) M := ⟨hz, h⟩
theorem mem_at {α : Type} {l : List α} {x : α} (j : Nat) (h : l[j]? = some x) : x ∈ l := List.mem_of_getElem? h
theorem w_joined {ts : List DTE} {Φ : Dat → Mem → Prop} (h : dJs ts Str.empty Γ M fun out M1 => Φ (.str out) M1) : dJoined ts Γ M Φ := h
theorem w_js0 {acc : Str} {Φ : Str → Mem → Prop} (h : Φ acc M) : dJs [] acc Γ M Φ := h
theorem w_js {t : DTE} {ts : List DTE} {acc : Str} {Φ : Str → Mem → Prop} (h : t Γ M fun d M1 => ∃ y : Str, d = .str y ∧ (acc ++ y).length ≤ sizeLine ∧ dJs ts (acc ++ y) Γ M1 Φ) : dJs (t :: ts) acc Γ M Φ := h
theorem w_zipT {t : DTA} {Φ : List Dat → (Mem → Prop) → Mem → Prop} (h : t Γ M fun ds M1 => ∃ xs ys, ds = [.tup xs, .tup ys] ∧ Φ (zipD xs ys) (fun _ => True) M1) : diZipT t Γ M Φ := h
theorem w_par3 {i j l : Nat} {ta : DTA} (h : ta Γ M fun ds M1 => ∃ d d' d'', ds = [d, d', d''] ∧ D.nx (((Γ.set i (some d)).set j (some d')).set l (some d'')) M1) : dPar3 i j l ta D Γ M := h
theorem w_methK {tab : List (Str × DFnX)} {m : Str} {n nk : Nat} {to : DTE} {ta tk : DTA} {Φ : Dat → Mem → Prop} (h : to Γ M fun o M1 => ∃ c ns fs sp, insAt M1 o = some (c, ns, fs) ∧ (c, sp) ∈ tab ∧ fldIx m ns = none ∧
  ta Γ M1 fun ds M2 => tk Γ M2 fun bs M3 => ds.length = n ∧ bs.length = nk ∧ sp (o :: ds ++ bs) M3 Φ (exAt Γ)) : dMethK tab m n nk to ta tk Γ M Φ := h
theorem w_makeK {md : DMade} {c : Str} {n nk : Nat} {sp : DFnX} {ta tk : DTA} {Φ : Dat → Mem → Prop} (h : ta Γ M fun ds M1 => tk Γ M1 fun bs M2 => ds.length = n ∧ bs.length = nk ∧
  ∀ a, M2 a = none → sp (.loc a :: ds ++ bs) (M2.put a (.ins c [] [])) (fun d M3 => d = .non ∧ md a M3 Φ) (fun c ns fs M3 => exAt Γ c ns fs (M3.del a))) : dMakeK md c n nk sp ta tk Γ M Φ := h
theorem w_tryAs {tab : List (Str × Bool)} {i : Nat} {tb ts : DTS} (h : tb { nx := fun Γ' M' => D.nx ⟨Γ'.sl, Γ.ex⟩ M', rt := D.rt, bk := fun Γ' M' => D.bk ⟨Γ'.sl, Γ.ex⟩ M', ct := fun Γ' M' => D.ct ⟨Γ'.sl, Γ.ex⟩ M' } ⟨Γ.sl, exTr tab i ts D Γ⟩ M) : dTryAs tab i tb ts D Γ M := h
theorem w_repr {x : Dat} {p : PyData} {Φ : Dat → Mem → Prop} (h1 : rdP x = some p) (h2 : p.showable = true) (h3 : p.shown.length ≤ sizeLine) (h4 : p.depth ≤ 60) (h : Φ (.str p.shown) M) : oRepr0 [x] M Φ := ⟨x, p, rfl, h1, h2, h3, h4, h⟩
theorem w_bool0 {b : Bool} {Φ : Dat → Mem → Prop} (h : Φ (.bl b) M) : oBool0 [.bl b] M Φ := .inr ⟨b, rfl, h⟩
theorem w_strS {y : Str} {Φ : Dat → Mem → Prop} (h : Φ (.str y) M) : oStr0 [.str y] M Φ := .inr ⟨y, rfl, h⟩
theorem w_strI {i : Int} {Φ : Dat → Mem → Prop} (hz : i.natAbs.log2 < 1920) (h : Φ (.str (toString i)) M) : oStr0 [.int i] M Φ := .inl ⟨i, rfl, hz, h⟩
theorem w_reprL0 {tab : List (Str × DFnX)} {r : DFn} {xs : List Dat} {Φ : Dat → Mem → Prop} (h : r xs M Φ) : oReprL tab r xs M Φ := .inr h
theorem w_ownI {tab : List (Str × DFnX)} {r : DFn} {c : Str} {ns : List Str} {fs : List Dat} {sp : DFnX} {Φ : Dat → Mem → Prop} (hm : (c, sp) ∈ tab) (h : sp [.ins c ns fs] M (fun d M1 => ∃ t : Str, d = .str t ∧ Φ (.str t) M1) noX) : oOwnS tab r [.ins c ns fs] M Φ := ⟨_, rfl, _, hm, h⟩
theorem w_boolI {tab : List (Str × DFnX)} {r : DFn} {c : Str} {ns : List Str} {fs : List Dat} {sp : DFnX} {Φ : Dat → Mem → Prop} (hm : (c, sp) ∈ tab) (h : sp [.ins c ns fs] M (fun d M1 => ∃ b : Bool, d = .bl b ∧ Φ (.bl b) M1) noX) : oBoolI tab r [.ins c ns fs] M Φ := ⟨_, rfl, _, hm, h⟩
theorem w_own {tab : OTab} {r : DOp} {c : Str} {ns : List Str} {fs : List Dat} {y : Dat} {t : Ty} {sp : DFnX} {Φ : Dat → Mem → Prop} (ht : tyOf M y = some t) (hm : (c, t, sp) ∈ tab) (h : sp [.ins c ns fs, y] M Φ noX) : oOwn tab r (.ins c ns fs) y M Φ := ⟨t, sp, ht, hm, h⟩
theorem w_ownE {neg : Bool} {tab : OTab} {r : DOp} {c : Str} {ns : List Str} {fs : List Dat} {y : Dat} {t : Ty} {sp : DFnX} {Φ : Dat → Mem → Prop} (ht : tyOf M y = some t) (hm : (c, t, sp) ∈ tab) (h : sp [.ins c ns fs, y] M (fun d M1 => ∃ b, d = .bl b ∧ Φ (.bl (if neg then !b else b)) M1) noX) : oOwnE neg tab r (.ins c ns fs) y M Φ := ⟨t, sp, ht, hm, h⟩
theorem w_ownU {tab : List (Str × DFnX)} {r : DUn} {c : Str} {ns : List Str} {fs : List Dat} {sp : DFnX} {Φ : Dat → Mem → Prop} (hm : (c, sp) ∈ tab) (h : sp [.ins c ns fs] M Φ noX) : oOwnU tab r (.ins c ns fs) M Φ := ⟨sp, hm, h⟩
theorem w_truI {tab : List (Str × DFnX)} {c : Str} {ns : List Str} {fs : List Dat} {sp : DFnX} {Φ : Bool → Mem → Prop} (hm : (c, sp) ∈ tab) (h : sp [.ins c ns fs] M (fun d M1 => ∃ b, d = .bl b ∧ Φ b M1) noX) : oTru tab (.ins c ns fs) M Φ := ⟨sp, hm, h⟩
theorem w_addT {r : DOp} {a b : List Dat} {Φ : Dat → Mem → Prop} (hz : a.length + b.length ≤ sizeLine) (h : Φ (.tup (a ++ b)) M) : oAddT r (.tup a) (.tup b) M Φ := .inl ⟨a, b, rfl, rfl, hz, h⟩
theorem w_slT {ds : List Dat} {lo hi : Option Int} {Φ : Dat → Mem → Prop} (h : Φ (.tup (cutD ds lo hi)) M) : oSlT (.tup ds) lo hi M Φ := ⟨ds, rfl, h⟩
end
end EX
/-! The widened data layer Y: == and != of any two texts. -/
namespace EX
open PySem PySem.Spec PyProof.Rows L2
def oEqS (neg : Bool) (r : DOp) : DOp := fun x y M Φ => (∃ a b : Str, x = .str a ∧ y = .str b ∧ Φ (.bl (if neg then !decide (a = b) else decide (a = b))) M) ∨ r x y M Φ
section
variable {X : Cx}
theorem dec_strV {a b : Str} : decide (V.str a = V.str b) = decide (a = b) := by
  rw [Bool.eq_iff_iff]
  simp
theorem os_eqS {r : DOp} (ho : OpR X (compareOp .Eq) (LOp (kx X) r)) : OpR X (compareOp .Eq) (LOp (kx X) (oEqS false r)) := by
  intro pins s σ H x y v u Q I rx ry h
  obtain ⟨G, M, dx, dy, Φ, e, m, hx, hy, q, k⟩ := h
  rcases q with ⟨a, b, rfl, rfl, q⟩ | q
  · cases hx; cases hy
    exact op_eq pins s σ H _ _ v u Q I rx ry ⟨rfl, by rw [dec_strV]; exact k _ _ G H M (Stp.refl e m) (.bl _) q⟩
  · exact ho pins s σ H x y v u Q I rx ry ⟨G, M, dx, dy, Φ, e, m, hx, hy, q, k⟩
theorem os_neS {r : DOp} (ho : OpR X (compareOp .NotEq) (LOp (kx X) r)) : OpR X (compareOp .NotEq) (LOp (kx X) (oEqS true r)) := by
  intro pins s σ H x y v u Q I rx ry h
  obtain ⟨G, M, dx, dy, Φ, e, m, hx, hy, q, k⟩ := h
  rcases q with ⟨a, b, rfl, rfl, q⟩ | q
  · cases hx; cases hy
    exact op_ne pins s σ H _ _ v u Q I rx ry ⟨rfl, by rw [dec_strV]; exact k _ _ G H M (Stp.refl e m) (.bl _) q⟩
  · exact ho pins s σ H x y v u Q I rx ry ⟨G, M, dx, dy, Φ, e, m, hx, hy, q, k⟩
end
theorem oEq_ss {neg : Bool} {r : DOp} {a b : Str} {M : Mem} {Φ : Dat → Mem → Prop} (h : Φ (.bl (if neg then !decide (a = b) else decide (a = b))) M) : oEqS neg r (.str a) (.str b) M Φ := .inl ⟨a, b, rfl, rfl, h⟩
/-- a text compared with itself -/
theorem oNe_self {r : DOp} {a b : Str} {M : Mem} {Φ : Dat → Mem → Prop} (e : a = b) (h : Φ (.bl false) M) : oEqS true r (.str a) (.str b) M Φ := oEq_ss (by rw [if_pos rfl, decide_eq_true e]; exact h)
end EX
/-! The widened data layer Z: what the written part must show of own exceptions. -/
namespace EX
open PySem PySem.Spec PyProof.Rows L2
/-- all that is asked of an own exception class -/
def excChk (K : PySem.W.Frag) (C : Addr) : Bool :=
  (PySem.W.clsIn K C).isSome && (PySem.W.findIn K (.ref C) "__getattribute__" == some (some (.builtin "BaseException.__getattribute__"))) && (PySem.W.findIn K (.ref C) "__getattr__" == some none) && (PySem.W.subIn K (.ref C) (.type "BaseException") == some true) &&
  (PySem.W.findIn K (.ref C) "__class__" == some (some (.builtin "object.__class__"))) && (PySem.W.specialIn K (.builtin "object.__class__") "__get__" == some (some (.builtin "getset_descriptor.__get__"))) && (PySem.W.takesIn K (.builtin "object.__class__") == some true) &&
  (PySem.W.mroIn K C (.type "object") == some true) && PySem.W.hasDictIn K C
theorem excF_of {K : PySem.W.Frag} {C : Addr} (h : excChk K C = true) : ExcF K C := by
  unfold excChk at h
  simp only [Bool.and_eq_true, beq_iff_eq] at h
  obtain ⟨⟨⟨⟨⟨⟨⟨⟨h1, h2⟩, h3⟩, h4⟩, h5⟩, h6⟩, h7⟩, h8⟩, h9⟩ := h
  exact ⟨h1, h2, h3, h4, h5, h6, h7, h8, h9⟩
/-- .. of one without own __init__ -/
def excChkP (K : PySem.W.Frag) (C : Addr) : Bool := PySem.W.excIn K C veB "ValueError.__new__" && PySem.W.keepIn K (.ref C) && (PySem.W.typeIn K (.ref C) == some (.type "type"))
theorem excP_of {K : Kx} {c : Str} {C : Addr} (n : K.mg c = some (.ref C)) (h : excChk K.K C = true) (h' : excChkP K.K C = true) : ExcP K c := by
  unfold excChkP at h'
  simp only [Bool.and_eq_true, beq_iff_eq] at h'
  obtain ⟨⟨h1, h2⟩, h3⟩ := h'
  exact ⟨C, n, excF_of h, h1, h2, h3⟩
/-- 'except t' over the classes -/
def exmChk (K : PySem.W.Frag) (T C : Addr) (b : Bool) : Bool := PySem.W.exmOne K (.ref C) (.ref T) == some b
theorem exm_of {K : Kx} {t c : Str} {T C : Addr} {b : Bool} (n : K.mg t = some (.ref T)) (n' : K.mg c = some (.ref C)) (h : excChk K.K C = true) (h' : exmChk K.K T C b = true) : ExmOk K t c b := ⟨T, C, n, n', beq_iff_eq.mp h', excF_of h⟩
/-- isinstance, pair by pair -/
def pairChk (K : PySem.W.Frag) (cs : List (Str × Addr)) : Bool := cs.all fun p => cs.all fun q => PySem.W.kitOne K (.ref p.2) (.ref q.2) == some (p.1 == q.1)
def baseChk (K : PySem.W.Frag) (cs : List (Str × Addr)) (T : Addr) : Bool := cs.all fun p => (PySem.W.kitOne K (.ref p.2) (.ref T) == some true) && (PySem.W.kitOne K (.ref p.2) (.type "ValueError") == some true)
theorem isiTab_of {K : Kx} : ∀ {r : List (Ty × Ty × Bool)}, (∀ p ∈ r, IsiOk K p.1 p.2.1 p.2.2) → IsiTab K r
  | [], _ => .nil
  | p :: r, h => .cons (h p List.mem_cons_self) (isiTab_of fun q hq => h q (List.mem_cons_of_mem _ hq))
theorem pair_of {K : Kx} {cs : List (Str × Addr)} (n : ∀ p ∈ cs, K.mg p.1 = some (.ref p.2)) (h : pairChk K.K cs = true) : IsiTab K ((cs.map (·.1)).flatMap fun c => (cs.map (·.1)).map fun d => (Ty.own c, Ty.own d, c == d)) := by
  refine isiTab_of fun e he => ?_
  obtain ⟨c, hc, he⟩ := List.mem_flatMap.mp he
  obtain ⟨d, hd, rfl⟩ := List.mem_map.mp he
  obtain ⟨p, hp, rfl⟩ := List.mem_map.mp hc
  obtain ⟨q, hq, rfl⟩ := List.mem_map.mp hd
  have h1 := List.all_eq_true.mp (List.all_eq_true.mp h p hp) q hq
  exact ⟨_, _, ⟨_, n p hp, rfl⟩, ⟨_, n q hq, rfl⟩, beq_iff_eq.mp h1⟩
theorem base_of {K : Kx} {cs : List (Str × Addr)} {t : Str} {T : Addr} (n : ∀ p ∈ cs, K.mg p.1 = some (.ref p.2)) (nt : K.mg t = some (.ref T)) (h : baseChk K.K cs T = true) : IsiTab K ((cs.map (·.1)).flatMap fun c => [(Ty.own c, Ty.own t, true), (Ty.own c, Ty.bi "ValueError", true)]) := by
  refine isiTab_of fun e he => ?_
  obtain ⟨c, hc, he⟩ := List.mem_flatMap.mp he
  obtain ⟨p, hp, rfl⟩ := List.mem_map.mp hc
  have h1 := List.all_eq_true.mp h p hp
  obtain ⟨h1, h2⟩ := Bool.and_eq_true_iff.mp h1
  rcases List.mem_cons.mp he with rfl | he
  · exact ⟨_, _, ⟨_, n p hp, rfl⟩, ⟨_, nt, rfl⟩, beq_iff_eq.mp h1⟩
  · rw [List.mem_singleton.mp he]
    exact ⟨_, _, ⟨_, n p hp, rfl⟩, rfl, beq_iff_eq.mp h2⟩
/-! ### __init__(self, x): super().__init__(x); self.fld = x -/
structure SupTxt (st : Stmt) (x fld : Str) : Prop where
  b : ∃ p0 p1 p2 p3 p4 p5 p6 p7 p8 p9 : Pos, defBody st = [.Expr (.Call (.Attribute (.Call (.Name "super" p0) [] [] p1) "__init__" p2) [.Name x p3] [] p4) p5, .Assign [.Attribute (.Name "self" p6) fld p7] (.Name x p8) p9] ∧
    ∀ env : PySem.Env, eval (.Call (.Attribute (.Call (.Name "super" p0) [] [] p1) "__init__" p2) [.Name x p3] [] p4) env = (do
      let ov ← attributeBase (.Call (.Name "super" p0) [] [] p1) "__init__" env (eval (.Call (.Name "super" p0) [] [] p1) env)
      standAt p2.atName
      let (f, first) ← holding [ov] (getMethod ov "__init__" (do return (← importBound (.Call (.Name "super" p0) [] [] p1) env).getD true))
      callWith p4 f first (backTo p4 (starEach [.Name x p3] env)) [])
  s : ∃ ar, ((defArgs st).posonlyargs ++ (defArgs st).args).head? = some ar ∧ ar.arg = "self"
  k : (defScope st).kind = .function ∧ (defScope st).isGenerator = false ∧ (defScope st).isCoroutine = false ∧ (∀ y ∈ (defScope st).names, y.2 ≠ .cell)
  n : (defScope st).names.lookup ("super" : Str) = some .globalImplicit ∧ (defScope st).names.lookup ("__class__" : Str) = some .free ∧ (defScope st).names.lookup ("self" : Str) = some .local ∧ (defScope st).names.lookup x = some .local
  p : ∀ (qual : Str) (kV doc pm : Value) (an : Option Addr) (cd ct : Value) (cc : Addr) (us : List Value), us.length = 2 → bindArgs (PySem.W.ksFn "__init__" qual (defArgs st) (defBody st) (defScope st) .none kV doc pm an cd ct cc) ⟨us, []⟩ = pure ((["self", x] : List Str).zip us)
  w : ∀ (qual : Str) (kV doc pm : Value) (an : Option Addr) (cd ct : Value) (cc : Addr) (u v : Value), bindArgs (PySem.W.ksFn "__init__" qual (defArgs st) (defBody st) (defScope st) .none kV doc pm an cd ct cc) ⟨[u], [(x, v)]⟩ = pure [(("self" : Str), u), (x, v)]
  hx : x ≠ "self"
  hxd : (x == ("__debug__" : Str)) = false
/-- .. and what the written part and the program must show -/
structure SupFk (P : Program) (K : PySem.W.Frag) (C : Addr) (st : Stmt) (x fld : Str) : Prop where
  ex : ∃ f, ∀ mg : Str → Option Value, mg "super" = none → SupTxt st x fld → SupInit P ⟨K, mg⟩ C f x fld
theorem supFk {P : Program} {K : PySem.W.Frag} {C f cda cc : Addr} {x fld qual file : Str} {st : Stmt} {oc kV doc pm ct cl ccl : Value} {od an cld cdd : Option Addr} {osl csl ccs : Array (Option Value)} {vs : Array Value} {tf : Tok} {nm q : Str} {N : Addr} {bs bm : List Value}
    {sn sub : _} {ab col dd k0 k1 k2 k3 k5 : _}
    (iC : PySem.W.findIn K (.ref C) "__init__" = some (some (.ref f))) (lk : K.lookup f = some ⟨oc, od, .func (PySem.W.ksFn "__init__" qual (defArgs st) (defBody st) (defScope st) .none kV doc pm an (.ref cda) ct cc), osl⟩) (hcd : PySem.W.codeIn K (.ref cda) qual = true)
    (lcda : K.lookup cda = some ⟨ccl, cdd, .fields vs, ccs⟩) (hv : vs[2]? = some (.str file tf)) (hf : ((P.main.file : Str) == file) = true) (lcc : K.lookup cc = some ⟨cl, cld, .cell (some (.ref C)), csl⟩) (top : (P.main.scope.names.lookup ("super" : Str)).isSome = false)
    (opq : PySem.W.nsIn K cStatics "thirdparty.any" = some none) (ini : PySem.W.ks_superIn K C C "__init__" = some (some (.builtin "ValueError.__init__"))) (sb : PySem.W.subIn K (.ref C) (.type "ValueError") = some true) (slf : PySem.W.mroIn K C (.ref C) = some true)
    (oc1 : K.lookup C = some (excClassObj nm q C N bs bm true sn sub ab col dd k0 k1 k2 k3 k5 "ValueError.__new__")) (oc2 : PySem.HandSPX.refsVE bm = true) (oc3 : PySem.W.findIn K (.ref C) "__setattr__" = some (some (.builtin "object.__setattr__")))
    (oc4 : PySem.W.subIn K (.ref C) (.type "BaseException") = some true) (oc5 : PySem.W.typeIn K (.ref C) = some (.type "type")) (oc6 : PySem.W.keepIn K (.ref C) = true) (nof : PySem.W.findIn K (.ref C) fld = some none) (tI : PySem.W.typeIn K (.ref f) = some (.type "function")) : SupFk P K C st x fld := by
  refine ⟨f, fun mg hs T => ⟨?_, T.hx, T.hxd, top, hs, opq, ini, sb, slf, ⟨⟨nm, q, N, bs, bm, sn, sub, ab, col, dd, k0, k1, k2, k3, k5, oc1, oc2⟩, oc3, oc4, oc5, oc6⟩, nof, iC, tI⟩⟩
  obtain ⟨p0, p1, p2, p3, p4, p5, p6, p7, p8, p9, hb, he⟩ := T.b
  exact ⟨qual, defArgs st, defScope st, .none, kV, doc, pm, ct, oc, an, od, osl, cc, cda, p0, p1, p2, p3, p4, p5, p6, p7, p8, p9, _, _, hb, rfl, lk, hcd, T.s, ⟨ccl, cdd, vs, ccs, file, tf, lcda, hv, hf⟩, ⟨cl, cld, csl, lcc⟩, T.k, T.n,
    fun us hl s => .of_eq (T.p qual kV doc pm an (.ref cda) ct cc us hl), fun u v s => .of_eq (T.w qual kV doc pm an (.ref cda) ct cc u v), he⟩
theorem excS_of {P : Program} {K : Kx} {c x fld : Str} {C : Addr} {st : Stmt} (n : K.mg c = some (.ref C)) (h : excChk K.K C = true) (s : SupFk P K.K C st x fld) (T : SupTxt st x fld) (hs : K.mg "super" = none) : ExcS P K c x fld := by
  obtain ⟨f, h2⟩ := s.ex
  exact ⟨C, f, n, excF_of h, h2 K.mg hs T⟩
theorem fldE_of {K : Kx} {c f : Str} {C : Addr} (n : K.mg c = some (.ref C)) (h : excChk K.K C = true) (hn : PySem.W.findIn K.K (.ref C) f = some none) : FldEOk K c f := ⟨C, n, (excF_of h).hd, hn⟩
end EX
/-! Plain mathematics: fractions in lowest terms. -/
namespace Spx
theorem fdiv_of {a b q : Int} (hb : b ≠ 0) (e : a = b * q) : a.fdiv b = q := by rw [e]; exact Int.mul_fdiv_cancel_left q hb
def gcdS (t b : Int) : Int := if b < 0 then 0 - (Int.gcd t b : Int) else (Int.gcd t b : Int)
def low (t b : Int) : Int × Int := (t.fdiv (gcdS t b), b.fdiv (gcdS t b))
theorem gcdS_ne {t b : Int} (h : b ≠ 0) : gcdS t b ≠ 0 := by
  have : Int.gcd t b ≠ 0 := fun z => h (Int.gcd_eq_zero_iff.mp z).2
  unfold gcdS
  split <;> omega
theorem low_spec {t b : Int} (h : b ≠ 0) : 0 < (low t b).2 ∧ Int.gcd (low t b).1 (low t b).2 = 1 ∧ (low t b).1 * b = t * (low t b).2 := by
  have g0 : 0 < Int.gcd t b := Nat.pos_of_ne_zero fun z => h (Int.gcd_eq_zero_iff.mp z).2
  obtain ⟨t', ht⟩ := Int.gcd_dvd_left t b
  obtain ⟨b', hb⟩ := Int.gcd_dvd_right t b
  have co : Int.gcd t' b' = 1 := by
    have z : Int.gcd ((Int.gcd t b : Int) * t') ((Int.gcd t b : Int) * b') = (Int.gcd t b : Int).natAbs * Int.gcd t' b' := Int.gcd_mul_left _ _ _
    rw [← ht, ← hb] at z
    have z2 : Int.gcd t b * 1 = Int.gcd t b * Int.gcd t' b' := by rw [Nat.mul_one]; simpa using z
    exact (Nat.eq_of_mul_eq_mul_left g0 z2).symm
  generalize hg : (Int.gcd t b : Int) = g at ht hb
  have gp : 0 < g := by rw [← hg]; omega
  have b0 : b' ≠ 0 := fun z => h (by rw [hb, z, Int.mul_zero])
  have key : low t b = if b < 0 then (-t', -b') else (t', b') := by
    unfold low gcdS
    rw [hg]
    split
    · have e1 : t.fdiv (0 - g) = -t' := fdiv_of (by omega) (by rw [ht]; grind)
      have e2 : b.fdiv (0 - g) = -b' := fdiv_of (by omega) (by rw [hb]; grind)
      rw [e1, e2]
    · rw [fdiv_of (b := g) (by omega) ht, fdiv_of (b := g) (by omega) hb]
  rw [key]
  by_cases q : b < 0
  · rw [if_pos q]
    have : b' < 0 := by
      refine Int.lt_of_not_ge fun z => ?_
      have := Int.mul_nonneg (Int.le_of_lt gp) z
      omega
    refine ⟨by show 0 < -b'; omega, by show Int.gcd (-t') (-b') = 1; rw [Int.gcd_neg, Int.neg_gcd]; exact co, ?_⟩
    show -t' * b = t * -b'
    rw [ht, hb]; grind
  · rw [if_neg q]
    have : 0 < b' := by
      refine Int.lt_of_not_ge fun z => ?_
      have := Int.mul_nonpos_of_nonneg_of_nonpos (Int.le_of_lt gp) z
      omega
    refine ⟨this, co, ?_⟩
    show t' * b = t * b'
    rw [ht, hb]; grind
theorem low_pos {t b : Int} (h : b ≠ 0) : 0 < (low t b).2 := (low_spec h).1
theorem low_val {t b : Int} (h : b ≠ 0) : (low t b).1 * b = t * (low t b).2 := (low_spec h).2.2
theorem cop_dvd {u v q : Int} (co : Int.gcd u v = 1) (d : v ∣ u * q) : v ∣ q := by
  have d1 : v.natAbs ∣ u.natAbs * q.natAbs := by rw [← Int.natAbs_mul]; exact Int.natAbs_dvd_natAbs.mpr d
  have c : Nat.Coprime v.natAbs u.natAbs := by
    have z : Nat.gcd u.natAbs v.natAbs = 1 := co
    rw [Nat.gcd_comm] at z
    exact z
  exact Int.natAbs_dvd_natAbs.mp (c.dvd_of_dvd_mul_left d1)
theorem low_uniq {t b p q : Int} (h : b ≠ 0) (hq : 0 < q) (co : Int.gcd p q = 1) (e : p * b = t * q) : low t b = (p, q) := by
  obtain ⟨h1, h2, h3⟩ := low_spec (t := t) h
  generalize low t b = z at h1 h2 h3
  obtain ⟨u, v⟩ := z
  have h3' : u * b = t * v := h3
  have h1' : 0 < v := h1
  have x : u * q = p * v := by
    have : (u * q) * b = (p * v) * b := by grind
    exact Int.eq_of_mul_eq_mul_right h this
  have d1 : v ∣ q := by
    have : v ∣ u * q := ⟨p, by grind⟩
    exact cop_dvd h2 this
  have d2 : q ∣ v := by
    have : q ∣ p * v := ⟨u, by grind⟩
    exact cop_dvd co this
  have ev : v = q := Int.dvd_antisymm (by omega) (by omega) d1 d2
  subst ev
  have eu : u = p := Int.eq_of_mul_eq_mul_right (by omega : v ≠ 0) x
  rw [eu]
theorem low_same {t b u d : Int} (hb : b ≠ 0) (hd : d ≠ 0) (e : t * d = u * b) : low t b = low u d := by
  obtain ⟨h1, h2, h3⟩ := low_spec (t := u) hd
  have z : low t b = ((low u d).1, (low u d).2) := low_uniq hb h1 h2 (by
    have : ((low u d).1 * b) * d = (t * (low u d).2) * d := by grind
    exact Int.eq_of_mul_eq_mul_right hd this)
  rw [z]
theorem low_low {t b : Int} (h : b ≠ 0) : low (low t b).1 (low t b).2 = low t b := low_same (by have := low_pos (t := t) h; omega) h (low_val h)
theorem low_zero {s : Int} (h : s ≠ 0) : low 0 s = (0, 1) := low_uniq h (by decide) (by decide) (by omega)
theorem low_one (t : Int) : low t 1 = (t, 1) := low_uniq (by decide) (by decide) (Int.gcd_one) rfl
theorem natAbs_fdiv_le {a g : Int} (h : ∃ q, a = g * q) (g0 : g ≠ 0) : (a.fdiv g).natAbs ≤ a.natAbs := by
  obtain ⟨q, e⟩ := h
  rw [fdiv_of g0 e, e, Int.natAbs_mul]
  exact Nat.le_mul_of_pos_left _ (by omega)
theorem gcdS_dvd (t b : Int) : (∃ q, t = gcdS t b * q) ∧ ∃ q, b = gcdS t b * q := by
  obtain ⟨t', ht⟩ := Int.gcd_dvd_left t b
  obtain ⟨b', hb⟩ := Int.gcd_dvd_right t b
  unfold gcdS
  split
  · exact ⟨⟨-t', by grind⟩, ⟨-b', by grind⟩⟩
  · exact ⟨⟨t', ht⟩, ⟨b', hb⟩⟩
theorem low_le {t b : Int} (h : b ≠ 0) : (low t b).1.natAbs ≤ t.natAbs ∧ (low t b).2.natAbs ≤ b.natAbs :=
  ⟨natAbs_fdiv_le (gcdS_dvd t b).1 (gcdS_ne h), natAbs_fdiv_le (gcdS_dvd t b).2 (gcdS_ne h)⟩
def addL (x y : Int × Int) : Int × Int := low (x.1 * y.2 + y.1 * x.2) (x.2 * y.2)
def mulL (x y : Int × Int) : Int × Int := low (x.1 * y.1) (x.2 * y.2)
theorem add_low {a b s : Int} (h : s ≠ 0) : addL (low a s) (low b s) = low (a + b) s := by
  have p1 := low_pos (t := a) h
  have p2 := low_pos (t := b) h
  have v1 := low_val (t := a) h
  have v2 := low_val (t := b) h
  exact low_same (Int.mul_ne_zero (by omega) (by omega)) h (by grind)
theorem mul_low {k a s : Int} (h : s ≠ 0) : mulL (k, 1) (low a s) = low (k * a) s := by
  have p1 := low_pos (t := a) h
  have v1 := low_val (t := a) h
  exact low_same (by show 1 * (low a s).2 ≠ 0; omega) h (by show k * (low a s).1 * s = k * a * (1 * (low a s).2); grind)
theorem low_lt {a s w : Int} (h : 0 < s) : (low a s).1 * 1 < w * (low a s).2 ↔ a < w * s := by
  have p1 := low_pos (t := a) (b := s) (by omega)
  have v1 := low_val (t := a) (b := s) (by omega)
  rw [Int.mul_one]
  constructor
  · intro z
    have := Int.mul_lt_mul_of_pos_right z h
    have : a * (low a s).2 < (w * s) * (low a s).2 := by grind
    exact Int.lt_of_mul_lt_mul_right this (Int.le_of_lt p1)
  · intro z
    have := Int.mul_lt_mul_of_pos_right z p1
    have : (low a s).1 * s < (w * (low a s).2) * s := by grind
    exact Int.lt_of_mul_lt_mul_right this (Int.le_of_lt h)
theorem low_neg {a s : Int} (h : 0 < s) : (low a s).1 < 0 ↔ a < 0 := by
  have z := low_lt (a := a) (w := 0) h
  rw [Int.mul_one, Int.zero_mul, Int.zero_mul] at z
  exact z
theorem low_inj {a b s : Int} (h : s ≠ 0) (e : low a s = low b s) : a = b := by
  have v1 := low_val (t := a) h
  have v2 := low_val (t := b) h
  rw [e] at v1
  have p := low_pos (t := b) h
  exact Int.eq_of_mul_eq_mul_right (by omega : (low b s).2 ≠ 0) (by rw [← v1, ← v2])
theorem low_scale {a s : Int} (h : s ≠ 0) : low a 1 = low (a * s) s := low_same (by decide) h (by rw [Int.mul_one])
theorem low_lowest {x : Int × Int} (h1 : 0 < x.2) (h2 : Int.gcd x.1 x.2 = 1) : low x.1 x.2 = x := low_uniq (by omega) h1 h2 rfl
end Spx
namespace K00
open PySem PySem.Spec PyProof.Rows L2 EX Spx

/-! ### data -/
def ratD (x : Int × Int) : Dat := .ins "Ratio" ["top", "bottom"] [.int x.1, .int x.2]
def turD (x : Int × Int) : Dat := .ins "Turn" ["top", "bottom"] [.int x.1, .int x.2]
def prD (x : Int × Int) : Dat := .tup [.int x.1, .int x.2]
abbrev tupI (ns : List Int) : Dat := .tup (ns.map .int)
def Sm (x : Int) : Prop := x.natAbs ≤ 2 ^ 1000000
theorem Sm.mul {x y : Int} (h1 : Sm x) (h2 : Sm y) : IntMulOk x y := mulB h1 h2 (by decide)
/-- a number with a text -/
def St (x : Int) : Prop := x.natAbs.log2 < 1920
def isI : Dat → Bool
  | .int _ => true
  | _ => false
/-- a value of one of the kinds that are asked for -/
def OddV : Dat → Prop
  | .non => True
  | .bl _ => True
  | .int _ => True
  | .str _ => True
  | .lst _ => True
  | .tup _ => True
  | .dK _ _ => True
  | .ins c _ _ => c = "Ratio" ∨ c = "Turn"
  | _ => False
def goodP : Dat → Dat → Bool
  | .int _, .int j => j != 0
  | _, _ => false
def canon (ns : List Int) : Int × List Int := match ns.filter (· != 0) with
  | x :: _ => if 0 < x then (1, ns) else (-1, ns.map fun n => 0 - n)
  | [] => (0, ns)
def subL (a b : List Int) : List Int := (a.zip b).map fun p => p.2 - p.1
def strR (x : Int × Int) : Str := if x.2 = 1 then (toString x.1 : Str) else ((toString x.1 : Str) ++ "/") ++ (toString x.2 : Str)
def reprR (x : Int × Int) : Str := (((("Ratio(" : Str) ++ (toString x.1 : Str)) ++ ", ") ++ (toString x.2 : Str)) ++ ")"
/-! ### the classes of errors -/
def excs : List Str := ["InvalidRatio", "InvalidArray", "InvalidReading", "InvalidSum", "InvalidTimes", "InvalidTable", "NoSuchSetting", "Free", "InvalidLimit", "UnknownName", "NothingToUndo", "UnknownCommand", "NoStation", "NoReading", "NoFit", "TooMany", "Full", "InvalidText"]
def tabE : List (Ty × Ty × Bool) := (excs.flatMap fun c => excs.map fun d => (Ty.own c, Ty.own d, c == d)) ++ ((excs ++ [("TurnsError" : Str)]).flatMap fun c => [(Ty.own c, Ty.own "TurnsError", true), (Ty.own c, Ty.bi "ValueError", true)])

/-! ### what the program's defs promise -/
def p_is_integer : DFnX := fun ds M Φ _ => ∃ d, ds = [d] ∧ OddV d ∧ Φ (.bl (isI d)) M
def p_lowest : DFnX := fun ds M Φ _ => ∃ t b : Int, ds = [.int t, .int b] ∧ b ≠ 0 ∧ Φ (prD (low t b)) M
def p_need_parts : DFnX := fun ds M Φ Ψ => ∃ t b, ds = [t, b] ∧ OddV t ∧ OddV b ∧ (goodP t b = true → Φ .non M) ∧ (goodP t b = false → Ψ "InvalidRatio" [] [] M)
def p_Ratio_init : DFnX := fun ds M Φ Ψ => ∃ (a : Addr) (t b : Dat), ds = [.loc a, t, b] ∧ OddV t ∧ OddV b ∧ M a = some (.ins "Ratio" [] []) ∧ (∀ i j : Int, t = .int i → b = .int j → j ≠ 0 → Φ .non (M.put a (.ins "Ratio" ["top", "bottom"] [.int (low i j).1, .int (low i j).2]))) ∧ (goodP t b = false → Ψ "InvalidRatio" [] [] M)
def p_Turn_init : DFnX := fun ds M Φ _ => ∃ (a : Addr) (i j : Int), ds = [.loc a, .int i, .int j] ∧ j ≠ 0 ∧ M a = some (.ins "Turn" [] []) ∧ Φ .non (M.put a (.ins "Turn" ["top", "bottom"] [.int ((low i j).1.fmod (low i j).2), .int (low i j).2]))
def p_Ratio_add : DFnX := fun ds M Φ _ => ∃ x y : Int × Int, ds = [ratD x, ratD y] ∧ x.2 ≠ 0 ∧ y.2 ≠ 0 ∧ (Sm x.1 ∧ Sm x.2 ∧ Sm y.1 ∧ Sm y.2) ∧ Φ (ratD (addL x y)) M
def subF (x y : Int × Int) : Int × Int := low (x.1 * y.2 - y.1 * x.2) (x.2 * y.2)
def p_Ratio_sub : DFnX := fun ds M Φ _ => ∃ x y : Int × Int, ds = [ratD x, ratD y] ∧ x.2 ≠ 0 ∧ y.2 ≠ 0 ∧ (Sm x.1 ∧ Sm x.2 ∧ Sm y.1 ∧ Sm y.2) ∧ Φ (ratD (subF x y)) M
def p_Ratio_mul : DFnX := fun ds M Φ _ => ∃ x : Int × Int, x.2 ≠ 0 ∧ Sm x.1 ∧ Sm x.2 ∧ ((∃ k : Int, ds = [ratD x, .int k] ∧ Sm k ∧ Φ (ratD (low (x.1 * k) x.2)) M) ∨ ∃ y : Int × Int, ds = [ratD x, ratD y] ∧ y.2 ≠ 0 ∧ Sm y.1 ∧ Sm y.2 ∧ Φ (ratD (mulL x y)) M)
def p_Ratio_neg : DFnX := fun ds M Φ _ => ∃ x : Int × Int, ds = [ratD x] ∧ x.2 ≠ 0 ∧ Φ (ratD (low (0 - x.1) x.2)) M
/-- a value of another kind -/
def NotR : Dat → Prop
  | .non => True
  | .bl _ => True
  | .int _ => True
  | .str _ => True
  | .lst _ => True
  | .tup _ => True
  | .ins c _ _ => c = "Turn"
  | _ => False
def p_Ratio_eq : DFnX := fun ds M Φ _ => ∃ (x : Int × Int) (d : Dat), ds = [ratD x, d] ∧ ((∃ y : Int × Int, d = ratD y ∧ Φ (.bl (decide (x = y))) M) ∨ NotR d ∧ Φ (.bl false) M)
def p_Ratio_bool : DFnX := fun ds M Φ _ => ∃ x : Int × Int, ds = [ratD x] ∧ Φ (.bl (!decide (x.1 = 0))) M
def p_Ratio_under : DFnX := fun ds M Φ _ => ∃ x y : Int × Int, ds = [ratD x, ratD y] ∧ (Sm x.1 ∧ Sm x.2 ∧ Sm y.1 ∧ Sm y.2) ∧ Φ (.bl (decide (x.1 * y.2 < y.1 * x.2))) M
def overF (x y : Int × Int) : Int × Int := low (x.1 * y.2) (x.2 * y.1)
def p_Ratio_over : DFnX := fun ds M Φ Ψ => ∃ x y : Int × Int, ds = [ratD x, ratD y] ∧ x.2 ≠ 0 ∧ (Sm x.1 ∧ Sm x.2 ∧ Sm y.1 ∧ Sm y.2) ∧ (y.1 ≠ 0 → Φ (ratD (overF x y)) M) ∧ (y.1 = 0 → Ψ "InvalidRatio" [] [] M)
def p_Ratio_str : DFnX := fun ds M Φ _ => ∃ x : Int × Int, ds = [ratD x] ∧ St x.1 ∧ St x.2 ∧ Φ (.str (strR x)) M
def p_Ratio_repr : DFnX := fun ds M Φ _ => ∃ x : Int × Int, ds = [ratD x] ∧ St x.1 ∧ St x.2 ∧ Φ (.str (reprR x)) M
def p_canonical : DFnX := fun ds M Φ _ => ∃ ns : List Int, ds = [tupI ns] ∧ ns.length ≤ 3 ∧ (∃ x ∈ ns, x ≠ 0) ∧ Φ (.tup [.int (canon ns).1, tupI (canon ns).2]) M
def p_step_between : DFnX := fun ds M Φ _ => ∃ a b : List Int, ds = [tupI a, tupI b] ∧ a.length ≤ 3 ∧ b.length = a.length ∧ Φ (tupI (subL a b)) M
end K00
namespace K00
open PySem PySem.Spec PyProof.Rows L2 EX
def topS (i : Nat) : Stmt := PySem.Challenge.pw_hiddentones_k00_errors_steps_ratios.main.body.getD i (.Pass ⟨0, 0, 0, 0⟩)
abbrev s_is_integer : Stmt := topS 23
abbrev N_is_integer : List Str := ["value"]
theorem sc_is_integer : FnScope N_is_integer ["value"] (defScope s_is_integer) := ⟨rfl, rfl, rfl, by decide +kernel, rfl, by decide +kernel, by decide +kernel⟩
def t_is_integer : DTS := dRet (dAndV (dCB (oIsiC [(.bi "NoneType", .bi "int", false), (.bi "bool", .bi "int", true), (.bi "int", .bi "int", true), (.bi "str", .bi "int", false), (.bi "list", .bi "int", false), (.bi "tuple", .bi "int", false), (.bi "dict", .bi "int", false), (.own "Ratio", .bi "int", false), (.own "Turn", .bi "int", false)]) (dCons (dVar 0) (dCons (dC (.ty "int")) (dNil)))) (dNotV (dCB (oIsiC [(.bi "NoneType", .bi "bool", false), (.bi "bool", .bi "bool", true), (.bi "int", .bi "bool", false), (.bi "str", .bi "bool", false), (.bi "list", .bi "bool", false), (.bi "tuple", .bi "bool", false), (.bi "dict", .bi "bool", false), (.own "Ratio", .bi "bool", false), (.own "Turn", .bi "bool", false)]) (dCons (dVar 0) (dCons (dC (.ty "bool")) (dNil))))))
abbrev s_lowest : Stmt := topS 24
abbrev N_lowest : List Str := ["top", "bottom", "one", "other"]
theorem sc_lowest : FnScope N_lowest ["top", "bottom"] (defScope s_lowest) := ⟨rfl, rfl, rfl, by decide +kernel, rfl, by decide +kernel, by decide +kernel⟩
def t_lowest : DTS := dSeq (dPar 2 3 (dCons (dCB oAbs (dCons (dVar 0) (dNil))) (dCons (dCB oAbs (dCons (dVar 1) (dNil))) (dNil)))) (dSeq (dWh (dTest (dOp (oEq true) (dVar 3) (dC (.int 0)))) (dPar 2 3 (dCons (dVar 3) (dCons (dOp oMod (dVar 2) (dVar 3)) (dNil))))) (dSeq (dIfS (dTest (dOp oLt (dVar 1) (dC (.int 0)))) (dSet (dOp oSub (dC (.int 0)) (dVar 2)) 2) (dNext)) (dRet (dTup (dCons (dOp oFdiv (dVar 0) (dVar 2)) (dCons (dOp oFdiv (dVar 1) (dVar 2)) (dNil)))))))
abbrev s_need_parts : Stmt := topS 25
abbrev N_need_parts : List Str := ["top", "bottom"]
theorem sc_need_parts : FnScope N_need_parts ["top", "bottom"] (defScope s_need_parts) := ⟨rfl, rfl, rfl, by decide +kernel, rfl, by decide +kernel, by decide +kernel⟩
def t_need_parts : DTS := dIfS (dOr (dNot (dTest (dCall p_is_integer (dCons (dVar 0) (dNil))))) (dOr (dNot (dTest (dCall p_is_integer (dCons (dVar 1) (dNil))))) (dTest (dOp (oEq false) (dVar 1) (dC (.int 0)))))) (dRaise0 "InvalidRatio") (dNext)
abbrev s_Ratio_init : Stmt := inCls (topS 28) 0
abbrev N_Ratio_init : List Str := ["self", "top", "bottom"]
theorem sc_Ratio_init : FnScope N_Ratio_init ["self", "top", "bottom"] (defScope s_Ratio_init) := ⟨rfl, rfl, rfl, by decide +kernel, rfl, by decide +kernel, by decide +kernel⟩
def t_Ratio_init : DTS := dSeq (dDrop (dCall p_need_parts (dCons (dVar 1) (dCons (dVar 2) (dNil))))) (dSetF2 ["Ratio", "Turn"] "top" ["Ratio", "Turn"] "bottom" (dVar 0) (dVar 0) (dCall p_lowest (dCons (dVar 1) (dCons (dVar 2) (dNil)))))
abbrev s_Ratio_add : Stmt := inCls (topS 28) 2
abbrev N_Ratio_add : List Str := ["self", "other"]
theorem sc_Ratio_add : FnScope N_Ratio_add ["self", "other"] (defScope s_Ratio_add) := ⟨rfl, rfl, rfl, by decide +kernel, rfl, by decide +kernel, by decide +kernel⟩
def t_Ratio_add : DTS := dRet (dMake mkFrz "Ratio" p_Ratio_init (dCons (dOp oAdd (dOp oMul (dFld ["Ratio", "Turn"] "top" (dVar 0)) (dFld ["Ratio", "Turn"] "bottom" (dVar 1))) (dOp oMul (dFld ["Ratio", "Turn"] "top" (dVar 1)) (dFld ["Ratio", "Turn"] "bottom" (dVar 0)))) (dCons (dOp oMul (dFld ["Ratio", "Turn"] "bottom" (dVar 0)) (dFld ["Ratio", "Turn"] "bottom" (dVar 1))) (dNil))))
abbrev s_Ratio_sub : Stmt := inCls (topS 28) 3
abbrev N_Ratio_sub : List Str := ["self", "other"]
theorem sc_Ratio_sub : FnScope N_Ratio_sub ["self", "other"] (defScope s_Ratio_sub) := ⟨rfl, rfl, rfl, by decide +kernel, rfl, by decide +kernel, by decide +kernel⟩
def t_Ratio_sub : DTS := dRet (dMake mkFrz "Ratio" p_Ratio_init (dCons (dOp oSub (dOp oMul (dFld ["Ratio", "Turn"] "top" (dVar 0)) (dFld ["Ratio", "Turn"] "bottom" (dVar 1))) (dOp oMul (dFld ["Ratio", "Turn"] "top" (dVar 1)) (dFld ["Ratio", "Turn"] "bottom" (dVar 0)))) (dCons (dOp oMul (dFld ["Ratio", "Turn"] "bottom" (dVar 0)) (dFld ["Ratio", "Turn"] "bottom" (dVar 1))) (dNil))))
abbrev s_Ratio_mul : Stmt := inCls (topS 28) 4
abbrev N_Ratio_mul : List Str := ["self", "other"]
theorem sc_Ratio_mul : FnScope N_Ratio_mul ["self", "other"] (defScope s_Ratio_mul) := ⟨rfl, rfl, rfl, by decide +kernel, rfl, by decide +kernel, by decide +kernel⟩
def t_Ratio_mul : DTS := dSeq (dIfS (dTest (dCB (oIsiC [(.bi "int", .bi "int", true), (.own "Ratio", .bi "int", false)]) (dCons (dVar 1) (dCons (dC (.ty "int")) (dNil))))) (dRet (dMake mkFrz "Ratio" p_Ratio_init (dCons (dOp oMul (dFld ["Ratio", "Turn"] "top" (dVar 0)) (dVar 1)) (dCons (dFld ["Ratio", "Turn"] "bottom" (dVar 0)) (dNil))))) (dNext)) (dRet (dMake mkFrz "Ratio" p_Ratio_init (dCons (dOp oMul (dFld ["Ratio", "Turn"] "top" (dVar 0)) (dFld ["Ratio", "Turn"] "top" (dVar 1))) (dCons (dOp oMul (dFld ["Ratio", "Turn"] "bottom" (dVar 0)) (dFld ["Ratio", "Turn"] "bottom" (dVar 1))) (dNil)))))
abbrev s_Ratio_neg : Stmt := inCls (topS 28) 5
abbrev N_Ratio_neg : List Str := ["self"]
theorem sc_Ratio_neg : FnScope N_Ratio_neg ["self"] (defScope s_Ratio_neg) := ⟨rfl, rfl, rfl, by decide +kernel, rfl, by decide +kernel, by decide +kernel⟩
def t_Ratio_neg : DTS := dRet (dMake mkFrz "Ratio" p_Ratio_init (dCons (dOp oSub (dC (.int 0)) (dFld ["Ratio", "Turn"] "top" (dVar 0))) (dCons (dFld ["Ratio", "Turn"] "bottom" (dVar 0)) (dNil))))
abbrev s_Ratio_eq : Stmt := inCls (topS 28) 6
abbrev N_Ratio_eq : List Str := ["self", "other"]
theorem sc_Ratio_eq : FnScope N_Ratio_eq ["self", "other"] (defScope s_Ratio_eq) := ⟨rfl, rfl, rfl, by decide +kernel, rfl, by decide +kernel, by decide +kernel⟩
def t_Ratio_eq : DTS := dRet (dAndV (dCB (oIsiC [(.bi "NoneType", .own "Ratio", false), (.bi "bool", .own "Ratio", false), (.bi "int", .own "Ratio", false), (.bi "str", .own "Ratio", false), (.bi "list", .own "Ratio", false), (.bi "tuple", .own "Ratio", false), (.own "Turn", .own "Ratio", false), (.own "Ratio", .own "Ratio", true)]) (dCons (dVar 1) (dCons (dC (.cls "Ratio")) (dNil)))) (dAndV (dOp (oEq false) (dFld ["Ratio", "Turn"] "top" (dVar 0)) (dFld ["Ratio", "Turn"] "top" (dVar 1))) (dOp (oEq false) (dFld ["Ratio", "Turn"] "bottom" (dVar 0)) (dFld ["Ratio", "Turn"] "bottom" (dVar 1)))))
abbrev s_Ratio_bool : Stmt := inCls (topS 28) 7
abbrev N_Ratio_bool : List Str := ["self"]
theorem sc_Ratio_bool : FnScope N_Ratio_bool ["self"] (defScope s_Ratio_bool) := ⟨rfl, rfl, rfl, by decide +kernel, rfl, by decide +kernel, by decide +kernel⟩
def t_Ratio_bool : DTS := dRet (dCB oBool0 (dCons (dOp (oEq true) (dFld ["Ratio", "Turn"] "top" (dVar 0)) (dC (.int 0))) (dNil)))
abbrev s_Ratio_under : Stmt := inCls (topS 28) 8
abbrev N_Ratio_under : List Str := ["self", "other"]
theorem sc_Ratio_under : FnScope N_Ratio_under ["self", "other"] (defScope s_Ratio_under) := ⟨rfl, rfl, rfl, by decide +kernel, rfl, by decide +kernel, by decide +kernel⟩
def t_Ratio_under : DTS := dRet (dOp oLt (dOp oMul (dFld ["Ratio", "Turn"] "top" (dVar 0)) (dFld ["Ratio", "Turn"] "bottom" (dVar 1))) (dOp oMul (dFld ["Ratio", "Turn"] "top" (dVar 1)) (dFld ["Ratio", "Turn"] "bottom" (dVar 0))))
abbrev s_Ratio_over : Stmt := inCls (topS 28) 9
abbrev N_Ratio_over : List Str := ["self", "other"]
theorem sc_Ratio_over : FnScope N_Ratio_over ["self", "other"] (defScope s_Ratio_over) := ⟨rfl, rfl, rfl, by decide +kernel, rfl, by decide +kernel, by decide +kernel⟩
def t_Ratio_over : DTS := dRet (dMake mkFrz "Ratio" p_Ratio_init (dCons (dOp oMul (dFld ["Ratio", "Turn"] "top" (dVar 0)) (dFld ["Ratio", "Turn"] "bottom" (dVar 1))) (dCons (dOp oMul (dFld ["Ratio", "Turn"] "bottom" (dVar 0)) (dFld ["Ratio", "Turn"] "top" (dVar 1))) (dNil))))
abbrev s_Ratio_str : Stmt := inCls (topS 28) 10
abbrev N_Ratio_str : List Str := ["self"]
theorem sc_Ratio_str : FnScope N_Ratio_str ["self"] (defScope s_Ratio_str) := ⟨rfl, rfl, rfl, by decide +kernel, rfl, by decide +kernel, by decide +kernel⟩
def t_Ratio_str : DTS := dSeq (dIfS (dTest (dOp (oEq false) (dFld ["Ratio", "Turn"] "bottom" (dVar 0)) (dC (.int 1)))) (dRet (dFmt (dFld ["Ratio", "Turn"] "top" (dVar 0)))) (dNext)) (dRet (dJoined [dFmt (dFld ["Ratio", "Turn"] "top" (dVar 0)), dC (.str "/"), dFmt (dFld ["Ratio", "Turn"] "bottom" (dVar 0))]))
abbrev s_Ratio_repr : Stmt := inCls (topS 28) 11
abbrev N_Ratio_repr : List Str := ["self"]
theorem sc_Ratio_repr : FnScope N_Ratio_repr ["self"] (defScope s_Ratio_repr) := ⟨rfl, rfl, rfl, by decide +kernel, rfl, by decide +kernel, by decide +kernel⟩
def t_Ratio_repr : DTS := dRet (dJoined [dC (.str "Ratio("), dFmt (dFld ["Ratio", "Turn"] "top" (dVar 0)), dC (.str ", "), dFmt (dFld ["Ratio", "Turn"] "bottom" (dVar 0)), dC (.str ")")])
abbrev s_canonical : Stmt := topS 30
abbrev N_canonical : List Str := ["step", "first", "number"]
theorem sc_canonical : FnScope N_canonical ["step"] (defScope s_canonical) := ⟨rfl, rfl, rfl, by decide +kernel, rfl, by decide +kernel, by decide +kernel⟩
def t_canonical : DTS := dSeq (dSet (dOp oIx (dLc (diTup (dVar 0)) (.nm 2) (dTest (dOp (oEq true) (dVar 2) (dC (.int 0)))) (dVar 2) [2]) (dC (.int 0))) 1) (dSeq (dIfS (dTest (dOp oGt (dVar 1) (dC (.int 0)))) (dRet (dTup (dCons (dC (.int 1)) (dCons (dVar 0) (dNil))))) (dNext)) (dRet (dTup (dCons (dUn oNeg (dC (.int 1))) (dCons (dCB oTuple (dCons (dLc (diTup (dVar 0)) (.nm 2) (dYes) (dOp oSub (dC (.int 0)) (dVar 2)) [2]) (dNil))) (dNil))))))
abbrev s_step_between : Stmt := topS 31
abbrev N_step_between : List Str := ["place", "other", "here", "there"]
theorem sc_step_between : FnScope N_step_between ["place", "other"] (defScope s_step_between) := ⟨rfl, rfl, rfl, by decide +kernel, rfl, by decide +kernel, by decide +kernel⟩
def t_step_between : DTS := dRet (dCB oTuple (dCons (dLc (diZipT (dCons (dVar 0) (dCons (dVar 1) (dNil)))) (.tu [.nm 2, .nm 3]) (dYes) (dOp oSub (dVar 3) (dVar 2)) [2, 3]) (dNil)))
abbrev s_Turn_init : Stmt := inCls (topS 34) 0
abbrev N_Turn_init : List Str := ["self", "top", "bottom", "one", "other"]
theorem sc_Turn_init : FnScope N_Turn_init ["self", "top", "bottom"] (defScope s_Turn_init) := ⟨rfl, rfl, rfl, by decide +kernel, rfl, by decide +kernel, by decide +kernel⟩
def t_Turn_init : DTS := dSeq (dDrop (dCall p_need_parts (dCons (dVar 1) (dCons (dVar 2) (dNil))))) (dSeq (dAsg (dCall p_lowest (dCons (dVar 1) (dCons (dVar 2) (dNil)))) (.tu [.nm 3, .nm 4])) (dSetF2 ["Ratio", "Turn"] "top" ["Ratio", "Turn"] "bottom" (dVar 0) (dVar 0) (dTup (dCons (dOp oMod (dVar 3) (dVar 4)) (dCons (dVar 4) (dNil))))))
end K00
namespace K00
open PySem PySem.Spec PyProof.Rows L2 EX Spx
/-! ### what the law's defs promise -/
/-- plain data with a short text -/
def Pl (d : Dat) : Prop := ∃ p, rdP d = some p ∧ p.showable = true ∧ p.shown.length ≤ 100 ∧ p.depth ≤ 10
def ExAt (M : Mem) (a : Addr) (c : Str) : Prop := ∃ ns ds, M a = some (.exn c ns ds)
def plainN : List Str := ["InvalidRatio", "InvalidArray", "InvalidReading", "InvalidSum", "InvalidTimes", "InvalidTable", "NoSuchSetting", "Free", "InvalidLimit", "UnknownName", "NothingToUndo", "UnknownCommand"]
structure FAt (M : Mem) (a0 a1 a2 a3 a4 a5 : Addr) (one row count : Dat) : Prop where
  e0 : M a0 = some (.exn "NoStation" ["name"] [one])
  e1 : M a1 = some (.exn "NoReading" ["number"] [one])
  e2 : M a2 = some (.exn "NoFit" ["times"] [row])
  e3 : M a3 = some (.exn "TooMany" ["many"] [count])
  e4 : M a4 = some (.exn "Full" ["most"] [count])
  e5 : M a5 = some (.exn "InvalidText" ["line"] [count])
def locsD (as : List Addr) : Dat := .lst (as.map .loc)
/-- numbers that are drawn -/
def Sx (x : Int) : Prop := x.natAbs ≤ 10 ^ 40
def Bd (x : Int) : Prop := x.natAbs ≤ 1001
def p__law_pen : DFnX := fun ds M Φ _ => ∃ ns, ds = [.scr ns] ∧ ∀ p M', M p = none → Oth p M M' → PenAt M' p (2 ^ 20) → Φ (.loc p) M'
def p__law_draw : DFnX := fun ds M Φ _ => ∃ (p : Addr) (many : Int) (k : Nat), ds = [.loc p, .int many] ∧ 1 ≤ many ∧ PenAt M p (k + 1) ∧ ∀ v M', 0 ≤ v → v < many → Oth p M M' → PenAt M' p k → Φ (.int v) M'
def p__law_value : DFnX := fun ds M Φ _ => ∃ (p : Addr) (k : Nat), ds = [.loc p] ∧ PenAt M p (k + 1) ∧ ∀ d M', Pl d → Oth p M M' → PenAt M' p k → Φ d M'
def p__law_classes : DFnX := fun ds M Φ _ => ∃ (a : Addr) (c : Str), ds = [.loc a] ∧ c ∈ excs ∧ ExAt M a c ∧ Φ (.lst (excs.map fun d => .bl (c == d))) M
def p__law_plain : DFnX := fun ds M Φ _ => ds = [] ∧ ∀ (as : List Addr) M', Paired (ExAt M') as plainN → Sub M M' → Φ (locsD as) M'
def p__law_by_place : DFnX := fun ds M Φ _ => ∃ one row count, ds = [one, row, count] ∧ ∀ a0 a1 a2 a3 a4 a5 M', FAt M' a0 a1 a2 a3 a4 a5 one row count → Sub M M' → Φ (locsD [a0, a1, a2, a3, a4, a5]) M'
def p__law_by_name : DFnX := p__law_by_place
def p__law_fields : DFnX := fun ds M Φ _ => ∃ a0 a1 a2 a3 a4 a5 one row count, ds = [locsD [a0, a1, a2, a3, a4, a5]] ∧ FAt M a0 a1 a2 a3 a4 a5 one row count ∧ Φ (.lst [one, one, row, count, count, count]) M
def p__law_apart : DFnX := fun ds M Φ _ => ∃ as : List Addr, ds = [locsD as] ∧ Paired (ExAt M) as excs ∧ Φ (.bl true) M
def p_law : DFnX := fun ds _ Φ _ => ∃ ns, ds = [.scr ns] ∧ ∀ M, Φ (.bl true) M
def p__law_ask_one : DFnX := p_law
def p__law_place : DFnX := fun ds M Φ _ => ∃ (p : Addr) (d k : Nat), ds = [.loc p, .int (d : Nat)] ∧ 1 ≤ d ∧ d ≤ 3 ∧ PenAt M p (k + 10) ∧ ∀ (ns : List Int) M', ns.length = d → (∀ x ∈ ns, x.natAbs ≤ 1000) → Oth p M M' → PenAt M' p k → Φ (tupI ns) M'
def p__law_pair : DFnX := fun ds M Φ _ => ∃ (p : Addr) (k : Nat), ds = [.loc p] ∧ PenAt M p (k + 30) ∧ ∀ (a b : List Int) M', b.length = a.length → a.length ≤ 3 → a ≠ b → Oth p M M' → PenAt M' p k → Φ (.tup [tupI a, tupI b]) M'
def p__law_turned : DFnX := p_canonical
def p__law_between : DFnX := p_step_between
def p__law_is_step : DFnX := fun ds M Φ _ => ∃ a b : List Int, ds = [tupI a, tupI b] ∧ a.length ≤ 3 ∧ b.length ≤ 3 ∧ Φ (.bl (decide (a = b))) M
def p__law_right : DFnX := fun ds M Φ _ => ∃ a b : List Int, ds = [tupI a, tupI b] ∧ b.length = a.length ∧ a.length ≤ 3 ∧ a ≠ b ∧ Φ (.bl true) M
def p__law_ask_two : DFnX := p_law
def p__law_int : DFnX := fun ds M Φ _ => ∃ (p : Addr) (g : Int) (k : Nat), ds = [.loc p, .int g] ∧ 1 ≤ g ∧ g ≤ 5 ∧ PenAt M p (k + 10) ∧ ∀ v M', Sx v → Oth p M M' → PenAt M' p k → Φ (.int v) M'
def p__law_divisor : DFnX := fun ds M Φ _ => ∃ a b : Int, ds = [.int a, .int b] ∧ Φ (.int (Int.gcd a b : Nat)) M
def p__law_refused : DFnX := fun ds M Φ _ => ∃ t b, ds = [t, b] ∧ OddV t ∧ OddV b ∧ goodP t b = false ∧ ∀ M', Sub M M' → Φ (.bl true) M'
def p__law_is_whole : DFnX := fun ds M Φ _ => ∃ i : Int, ds = [.int i] ∧ Φ (.bl true) M
def p__law_made_right : DFnX := fun ds M Φ _ => ∃ u l : Int, ds = [.int u, .int l] ∧ l ≠ 0 ∧ u.natAbs ≤ 10 ^ 100 ∧ l.natAbs ≤ 10 ^ 100 ∧ Φ (.bl true) M
def p__law_equal_right : DFnX := fun ds M Φ _ => ∃ (p : Addr) (u l : Int) (k : Nat), ds = [.loc p, .int u, .int l] ∧ l ≠ 0 ∧ Sx u ∧ Sx l ∧ PenAt M p (k + 30) ∧ ∀ M', Oth p M M' → PenAt M' p k → Φ (.bl true) M'
def p__law_ask_three : DFnX := p_law
def p__law_divisor_four : DFnX := p__law_divisor
/-- a fraction in lowest terms, of a size -/
structure Rat' (s : Nat) (x : Int × Int) : Prop where
  p : 0 < x.2
  c : Int.gcd x.1 x.2 = 1
  s1 : x.1.natAbs ≤ 10 ^ s
  s2 : x.2.natAbs ≤ 10 ^ s
def p__law_is : DFnX := fun ds M Φ _ => ∃ (x : Int × Int) (t b : Int), ds = [ratD x, .int t, .int b] ∧ 0 < x.2 ∧ Int.gcd x.1 x.2 = 1 ∧ (Sm x.1 ∧ Sm x.2 ∧ Sm t ∧ Sm b) ∧ Φ (.bl (decide (x.1 * b = t * x.2))) M
def p__law_refused_four : DFnX := fun ds M Φ _ => ∃ x : Int × Int, ds = [ratD x] ∧ x.2 ≠ 0 ∧ Sm x.1 ∧ Sm x.2 ∧ ∀ M', Sub M M' → Φ (.bl true) M'
def p__law_two_right : DFnX := fun ds M Φ _ => ∃ x y : Int × Int, ds = [ratD x, ratD y] ∧ Rat' 100 x ∧ Rat' 100 y ∧ ∀ M', Sub M M' → Φ (.bl true) M'
def p__law_three_right : DFnX := fun ds M Φ _ => ∃ (x y z : Int × Int) (o : Int), ds = [ratD x, ratD y, ratD z, .int o] ∧ Rat' 100 x ∧ Rat' 100 y ∧ Rat' 100 z ∧ Sx o ∧ Φ (.bl true) M
def p__law_ask_four : DFnX := p_law
end K00
namespace K00
open PySem PySem.Spec PyProof.Rows L2 EX
abbrev s__law_pen : Stmt := topS 36
abbrev N__law_pen : List Str := ["script"]
theorem sc__law_pen : FnScope N__law_pen ["script"] (defScope s__law_pen) := ⟨rfl, rfl, rfl, by decide +kernel, rfl, by decide +kernel, by decide +kernel⟩
def t__law_pen : DTS := dRet (dLstO (dCons (dCB oList (dCons (dSl oSl (dVar 0) (dNoPart) (dPart (dC (.int 63)))) (dNil))) (dCons (dC (.int 0)) (dCons (dC (.int 0)) (dNil)))))
abbrev s__law_draw : Stmt := topS 37
abbrev N__law_draw : List Str := ["pen", "bound", "at", "cell", "mixed", "digit", "great"]
theorem sc__law_draw : FnScope N__law_draw ["pen", "bound"] (defScope s__law_draw) := ⟨rfl, rfl, rfl, by decide +kernel, rfl, by decide +kernel, by decide +kernel⟩
def t__law_draw : DTS := dSeq (dIfS (dTest (dOp oGt (dOp oIx (dVar 0) (dC (.int 2))) (dC (.int 0)))) (dSeq (dSet (dOp oMod (dCB oInt (dCons (dOp oIx (dVar 0) (dC (.int 2))) (dNil))) (dVar 1)) 5) (dSeq (dSetIx (dVar 0) (dC (.int 2)) (dOp oFdiv (dCB oInt (dCons (dOp oIx (dVar 0) (dC (.int 2))) (dNil))) (dVar 1))) (dRet (dVar 5)))) (dNext)) (dSeq (dSet (dOp oIx (dVar 0) (dC (.int 1))) 2) (dSeq (dSetIx (dVar 0) (dC (.int 1)) (dOp oAdd (dVar 2) (dC (.int 1)))) (dSeq (dSet (dOp oAdd (dOp oMul (dC (.int 7121)) (dVar 2)) (dC (.int 31))) 3) (dSeq (dIfS (dTest (dOp (oEq true) (dOp oIx (dVar 0) (dC (.int 0))) (dLst (dNil)))) (dSet (dOp oIx (dOp oIx (dVar 0) (dC (.int 0))) (dOp oMod (dCB oInt (dCons (dVar 2) (dNil))) (dCB oLen (dCons (dOp oIx (dVar 0) (dC (.int 0))) (dNil))))) 3) (dNext)) (dSeq (dIfS (dAnd (dTest (dOp oLt (dVar 2) (dCB oLen (dCons (dOp oIx (dVar 0) (dC (.int 0))) (dNil))))) (dTest (dOp oGe (dCB oAbs (dCons (dVar 3) (dNil))) (dOp oPow (dC (.int 10)) (dC (.int 18)))))) (dSeq (dSet (dOp oAdd (dOp oMul (dC (.int 2)) (dOp oSub (dCB oAbs (dCons (dVar 3) (dNil))) (dOp oPow (dC (.int 10)) (dC (.int 18))))) (dCB oInt (dCons (dOp oLt (dVar 3) (dC (.int 0))) (dNil)))) 6) (dSeq (dSetIx (dVar 0) (dC (.int 2)) (dOp oFdiv (dVar 6) (dVar 1))) (dRet (dOp oMod (dCB oInt (dCons (dVar 6) (dNil))) (dVar 1))))) (dNext)) (dSeq (dSet (dOp oMod (dCB oInt (dCons (dOp oPow (dOp oAdd (dOp oAdd (dOp oAdd (dOp oMod (dCB oInt (dCons (dVar 3) (dNil))) (dC (.int 2147483549))) (dOp oMul (dOp oMul (dC (.int 30011)) (dVar 2)) (dVar 2))) (dOp oMul (dC (.int 20011)) (dVar 2))) (dC (.int 7))) (dC (.int 3))) (dNil))) (dC (.int 2147483647))) 4) (dSeq (dSet (dOp oMod (dCB oInt (dCons (dOp oPow (dOp oAdd (dOp oAdd (dOp oMul (dVar 4) (dOp oAdd (dOp oMul (dC (.int 2)) (dVar 2)) (dC (.int 15)))) (dOp oMul (dC (.int 50021)) (dVar 2))) (dC (.int 3))) (dC (.int 5))) (dNil))) (dC (.int 2147483563))) 4) (dRet (dOp oMod (dCB oInt (dCons (dOp oFdiv (dVar 4) (dC (.int 32))) (dNil))) (dVar 1))))))))))
abbrev s__law_value : Stmt := topS 38
abbrev N__law_value : List Str := ["pen", "some"]
theorem sc__law_value : FnScope N__law_value ["pen"] (defScope s__law_value) := ⟨rfl, rfl, rfl, by decide +kernel, rfl, by decide +kernel, by decide +kernel⟩
def t__law_value : DTS := dSeq (dSet (dLst (dCons (dC .non) (dCons (dC (.bl true)) (dCons (dC (.bl false)) (dCons (dC (.int 0)) (dCons (dC (.int 1)) (dCons (dUn oNeg (dC (.int 1))) (dCons (dOp oPow (dC (.int 10)) (dC (.int 59))) (dCons (dC (.str "")) (dCons (dC (.str "a")) (dCons (dC (.str "1")) (dCons (dC (.str "1/2")) (dCons (dTup (dNil)) (dCons (dTup (dCons (dC (.int 1)) (dCons (dC (.int 2)) (dNil)))) (dCons (dLst (dNil)) (dCons (dLst (dCons (dC (.int 1)) (dNil))) (dCons (dDict0) (dNil)))))))))))))))))) 1) (dSeq (dSet (dOp oAdd (dVar 1) (dLst (dCons (dDict1 "a" (dC (.int 1))) (dCons (dC (.str "a\nb")) (dCons (dTup (dCons (dC (.str "a")) (dNil))) (dCons (dLst (dCons (dLst (dCons (dC .non) (dNil))) (dNil))) (dNil))))))) 1) (dRet (dOp oIx (dVar 1) (dCall p__law_draw (dCons (dVar 0) (dCons (dCB oLen (dCons (dVar 1) (dNil))) (dNil)))))))
abbrev s__law_classes : Stmt := topS 39
abbrev N__law_classes : List Str := ["error", "found"]
theorem sc__law_classes : FnScope N__law_classes ["error"] (defScope s__law_classes) := ⟨rfl, rfl, rfl, by decide +kernel, rfl, by decide +kernel, by decide +kernel⟩
def t__law_classes : DTS := dSeq (dSet (dLst (dCons (dCB (oIsiC tabE) (dCons (dVar 0) (dCons (dC (.cls "InvalidRatio")) (dNil)))) (dCons (dCB (oIsiC tabE) (dCons (dVar 0) (dCons (dC (.cls "InvalidArray")) (dNil)))) (dCons (dCB (oIsiC tabE) (dCons (dVar 0) (dCons (dC (.cls "InvalidReading")) (dNil)))) (dNil))))) 1) (dSeq (dSet (dOp oAdd (dVar 1) (dLst (dCons (dCB (oIsiC tabE) (dCons (dVar 0) (dCons (dC (.cls "InvalidSum")) (dNil)))) (dCons (dCB (oIsiC tabE) (dCons (dVar 0) (dCons (dC (.cls "InvalidTimes")) (dNil)))) (dCons (dCB (oIsiC tabE) (dCons (dVar 0) (dCons (dC (.cls "InvalidTable")) (dNil)))) (dNil)))))) 1) (dSeq (dSet (dOp oAdd (dVar 1) (dLst (dCons (dCB (oIsiC tabE) (dCons (dVar 0) (dCons (dC (.cls "NoSuchSetting")) (dNil)))) (dCons (dCB (oIsiC tabE) (dCons (dVar 0) (dCons (dC (.cls "Free")) (dNil)))) (dCons (dCB (oIsiC tabE) (dCons (dVar 0) (dCons (dC (.cls "InvalidLimit")) (dNil)))) (dNil)))))) 1) (dSeq (dSet (dOp oAdd (dVar 1) (dLst (dCons (dCB (oIsiC tabE) (dCons (dVar 0) (dCons (dC (.cls "UnknownName")) (dNil)))) (dCons (dCB (oIsiC tabE) (dCons (dVar 0) (dCons (dC (.cls "NothingToUndo")) (dNil)))) (dNil))))) 1) (dSeq (dSet (dOp oAdd (dVar 1) (dLst (dCons (dCB (oIsiC tabE) (dCons (dVar 0) (dCons (dC (.cls "UnknownCommand")) (dNil)))) (dCons (dCB (oIsiC tabE) (dCons (dVar 0) (dCons (dC (.cls "NoStation")) (dNil)))) (dCons (dCB (oIsiC tabE) (dCons (dVar 0) (dCons (dC (.cls "NoReading")) (dNil)))) (dNil)))))) 1) (dSeq (dSet (dOp oAdd (dVar 1) (dLst (dCons (dCB (oIsiC tabE) (dCons (dVar 0) (dCons (dC (.cls "NoFit")) (dNil)))) (dCons (dCB (oIsiC tabE) (dCons (dVar 0) (dCons (dC (.cls "TooMany")) (dNil)))) (dCons (dCB (oIsiC tabE) (dCons (dVar 0) (dCons (dC (.cls "Full")) (dNil)))) (dNil)))))) 1) (dRet (dOp oAdd (dVar 1) (dLst (dCons (dCB (oIsiC tabE) (dCons (dVar 0) (dCons (dC (.cls "InvalidText")) (dNil)))) (dNil))))))))))
abbrev s__law_plain : Stmt := topS 40
abbrev N__law_plain : List Str := ["found"]
theorem sc__law_plain : FnScope N__law_plain [] (defScope s__law_plain) := ⟨rfl, rfl, rfl, by decide +kernel, rfl, by decide +kernel, by decide +kernel⟩
def t__law_plain : DTS := dSeq (dSet (dLst (dCons (dExc0 "InvalidRatio") (dCons (dExc0 "InvalidArray") (dCons (dExc0 "InvalidReading") (dCons (dExc0 "InvalidSum") (dCons (dExc0 "InvalidTimes") (dCons (dExc0 "InvalidTable") (dNil)))))))) 0) (dRet (dOp oAdd (dVar 0) (dLst (dCons (dExc0 "NoSuchSetting") (dCons (dExc0 "Free") (dCons (dExc0 "InvalidLimit") (dCons (dExc0 "UnknownName") (dCons (dExc0 "NothingToUndo") (dCons (dExc0 "UnknownCommand") (dNil))))))))))
abbrev s__law_by_place : Stmt := topS 41
abbrev N__law_by_place : List Str := ["one", "row", "count"]
theorem sc__law_by_place : FnScope N__law_by_place ["one", "row", "count"] (defScope s__law_by_place) := ⟨rfl, rfl, rfl, by decide +kernel, rfl, by decide +kernel, by decide +kernel⟩
def t__law_by_place : DTS := dRet (dLst (dCons (dExcS "NoStation" "name" (dVar 0)) (dCons (dExcS "NoReading" "number" (dVar 0)) (dCons (dExcS "NoFit" "times" (dVar 1)) (dCons (dExcS "TooMany" "many" (dVar 2)) (dCons (dExcS "Full" "most" (dVar 2)) (dCons (dExcS "InvalidText" "line" (dVar 2)) (dNil))))))))
abbrev s__law_by_name : Stmt := topS 42
abbrev N__law_by_name : List Str := ["one", "row", "count", "found"]
theorem sc__law_by_name : FnScope N__law_by_name ["one", "row", "count"] (defScope s__law_by_name) := ⟨rfl, rfl, rfl, by decide +kernel, rfl, by decide +kernel, by decide +kernel⟩
def t__law_by_name : DTS := dSeq (dSet (dLst (dCons (dExcS "NoStation" "name" (dVar 0)) (dCons (dExcS "NoReading" "number" (dVar 0)) (dCons (dExcS "NoFit" "times" (dVar 1)) (dCons (dExcS "TooMany" "many" (dVar 2)) (dNil)))))) 3) (dRet (dOp oAdd (dVar 3) (dLst (dCons (dExcS "Full" "most" (dVar 2)) (dCons (dExcS "InvalidText" "line" (dVar 2)) (dNil))))))
abbrev s__law_fields : Stmt := topS 43
abbrev N__law_fields : List Str := ["some"]
theorem sc__law_fields : FnScope N__law_fields ["some"] (defScope s__law_fields) := ⟨rfl, rfl, rfl, by decide +kernel, rfl, by decide +kernel, by decide +kernel⟩
def t__law_fields : DTS := dRet (dLst (dCons (dFldE ["NoStation"] "name" (dOp oIx (dVar 0) (dC (.int 0)))) (dCons (dFldE ["NoReading"] "number" (dOp oIx (dVar 0) (dC (.int 1)))) (dCons (dFldE ["NoFit"] "times" (dOp oIx (dVar 0) (dC (.int 2)))) (dCons (dFldE ["TooMany"] "many" (dOp oIx (dVar 0) (dC (.int 3)))) (dCons (dFldE ["Full"] "most" (dOp oIx (dVar 0) (dC (.int 4)))) (dCons (dFldE ["InvalidText"] "line" (dOp oIx (dVar 0) (dC (.int 5)))) (dNil))))))))
abbrev s__law_apart : Stmt := topS 44
abbrev N__law_apart : List Str := ["some", "at", "error", "k"]
theorem sc__law_apart : FnScope N__law_apart ["some"] (defScope s__law_apart) := ⟨rfl, rfl, rfl, by decide +kernel, rfl, by decide +kernel, by decide +kernel⟩
def t__law_apart : DTS := dSeq (dFor (diEnum (dCons (dVar 0) (dNil))) (.tu [.nm 1, .nm 2]) (dSeq (dIfS (dOr (dNot (dTest (dCB (oIsiC tabE) (dCons (dVar 2) (dCons (dC (.cls "TurnsError")) (dNil)))))) (dNot (dTest (dCB (oIsiC tabE) (dCons (dVar 2) (dCons (dC (.ty "ValueError")) (dNil))))))) (dRet (dC (.bl false))) (dNext)) (dIfS (dTest (dOp (oEq true) (dCall p__law_classes (dCons (dVar 2) (dNil))) (dLc (diRng1 (dCons (dC (.int 18)) (dNil))) (.nm 3) (dYes) (dOp (oEq false) (dVar 3) (dVar 1)) [3]))) (dRet (dC (.bl false))) (dNext)))) (dRet (dC (.bl true)))
abbrev s__law_ask_one : Stmt := topS 45
abbrev N__law_ask_one : List Str := ["script", "pen", "turn", "one", "row", "count", "some", "k"]
theorem sc__law_ask_one : FnScope N__law_ask_one ["script"] (defScope s__law_ask_one) := ⟨rfl, rfl, rfl, by decide +kernel, rfl, by decide +kernel, by decide +kernel⟩
def t__law_ask_one : DTS := dSeq (dSet (dCall p__law_pen (dCons (dVar 0) (dNil))) 1) (dSeq (dFor (diRng1 (dCons (dC (.int 10)) (dNil))) (.nm 2) (dSeq (dSet (dCall p__law_value (dCons (dVar 1) (dNil))) 3) (dSeq (dSet (dLc (diRng1 (dCons (dCall p__law_draw (dCons (dVar 1) (dCons (dC (.int 6)) (dNil)))) (dNil))) (.nm 7) (dYes) (dOp oSub (dCall p__law_draw (dCons (dVar 1) (dCons (dC (.int 9)) (dNil)))) (dC (.int 4))) [7]) 4) (dSeq (dSet (dOp oIx (dLst (dCons (dC (.int 0)) (dCons (dC (.int 1)) (dCons (dC (.int 7)) (dCons (dC (.int 40)) (dCons (dOp oPow (dC (.int 10)) (dC (.int 6))) (dCons (dOp oPow (dC (.int 10)) (dC (.int 59))) (dNil)))))))) (dCall p__law_draw (dCons (dVar 1) (dCons (dC (.int 6)) (dNil))))) 5) (dFor (diTup (dTup (dCons (dCall p__law_by_place (dCons (dVar 3) (dCons (dVar 4) (dCons (dVar 5) (dNil))))) (dCons (dCall p__law_by_name (dCons (dVar 3) (dCons (dVar 4) (dCons (dVar 5) (dNil))))) (dNil))))) (.nm 6) (dSeq (dIfS (dTest (dOp (oEqS true (oEq true)) (dCB oRepr0 (dCons (dCall p__law_fields (dCons (dVar 6) (dNil))) (dNil))) (dCB oRepr0 (dCons (dLst (dCons (dVar 3) (dCons (dVar 3) (dCons (dVar 4) (dCons (dVar 5) (dCons (dVar 5) (dCons (dVar 5) (dNil)))))))) (dNil))))) (dRet (dC (.bl false))) (dNext)) (dIfS (dNot (dTest (dCall p__law_apart (dCons (dOp oAdd (dCall0 p__law_plain) (dVar 6)) (dNil))))) (dRet (dC (.bl false))) (dNext)))))))) (dRet (dCB (oIsiC tabE) (dCons (dExc0 "TurnsError") (dCons (dC (.ty "ValueError")) (dNil))))))
abbrev s__law_place : Stmt := topS 46
abbrev N__law_place : List Str := ["pen", "d", "wide", "k"]
theorem sc__law_place : FnScope N__law_place ["pen", "d"] (defScope s__law_place) := ⟨rfl, rfl, rfl, by decide +kernel, rfl, by decide +kernel, by decide +kernel⟩
def t__law_place : DTS := dSeq (dSet (dOp oIx (dLst (dCons (dC (.int 1)) (dCons (dC (.int 2)) (dCons (dC (.int 1000)) (dNil))))) (dCall p__law_draw (dCons (dVar 0) (dCons (dC (.int 3)) (dNil))))) 2) (dRet (dCB oTuple (dCons (dLc (diRng1 (dCons (dVar 1) (dNil))) (.nm 3) (dYes) (dOp oIx (dLst (dCons (dC (.int 0)) (dCons (dVar 2) (dCons (dOp oSub (dC (.int 0)) (dVar 2)) (dCons (dOp oSub (dCall p__law_draw (dCons (dVar 0) (dCons (dOp oAdd (dOp oMul (dC (.int 2)) (dVar 2)) (dC (.int 1))) (dNil)))) (dVar 2)) (dNil)))))) (dCall p__law_draw (dCons (dVar 0) (dCons (dC (.int 4)) (dNil))))) [3]) (dNil))))
abbrev s__law_pair : Stmt := topS 47
abbrev N__law_pair : List Str := ["pen", "d", "here", "there"]
theorem sc__law_pair : FnScope N__law_pair ["pen"] (defScope s__law_pair) := ⟨rfl, rfl, rfl, by decide +kernel, rfl, by decide +kernel, by decide +kernel⟩
def t__law_pair : DTS := dSeq (dSet (dOp oAdd (dC (.int 1)) (dCall p__law_draw (dCons (dVar 0) (dCons (dC (.int 3)) (dNil))))) 1) (dSeq (dSet (dCall p__law_place (dCons (dVar 0) (dCons (dVar 1) (dNil)))) 2) (dSeq (dSet (dCall p__law_place (dCons (dVar 0) (dCons (dVar 1) (dNil)))) 3) (dSeq (dIfS (dTest (dOp (oEq false) (dCall p__law_draw (dCons (dVar 0) (dCons (dC (.int 4)) (dNil)))) (dC (.int 0)))) (dSet (dOp (oAddT oAdd) (dSl oSlT (dVar 2) (dNoPart) (dPart (dUn oNeg (dC (.int 1))))) (dSl oSlT (dVar 3) (dPart (dUn oNeg (dC (.int 1)))) (dNoPart))) 3) (dNext)) (dSeq (dIfS (dTest (dOp (oEq false) (dVar 2) (dVar 3))) (dSet (dOp (oAddT oAdd) (dSl oSlT (dVar 2) (dNoPart) (dPart (dUn oNeg (dC (.int 1))))) (dTup (dCons (dOp oIx (dLst (dCons (dOp oAdd (dOp oIx (dVar 2) (dUn oNeg (dC (.int 1)))) (dC (.int 1))) (dCons (dUn oNeg (dC (.int 1000))) (dNil)))) (dCB oInt (dCons (dOp (oEq false) (dOp oIx (dVar 2) (dUn oNeg (dC (.int 1)))) (dC (.int 1000))) (dNil)))) (dNil)))) 3) (dNext)) (dRet (dTup (dCons (dVar 2) (dCons (dVar 3) (dNil)))))))))
abbrev s__law_turned : Stmt := topS 48
abbrev N__law_turned : List Str := ["leap", "first", "number"]
theorem sc__law_turned : FnScope N__law_turned ["leap"] (defScope s__law_turned) := ⟨rfl, rfl, rfl, by decide +kernel, rfl, by decide +kernel, by decide +kernel⟩
def t__law_turned : DTS := dSeq (dSet (dOp oIx (dLc (diTup (dVar 0)) (.nm 2) (dTest (dOp (oEq true) (dVar 2) (dC (.int 0)))) (dVar 2) [2]) (dC (.int 0))) 1) (dSeq (dIfS (dTest (dOp oGt (dVar 1) (dC (.int 0)))) (dRet (dTup (dCons (dC (.int 1)) (dCons (dVar 0) (dNil))))) (dNext)) (dRet (dTup (dCons (dUn oNeg (dC (.int 1))) (dCons (dCB oTuple (dCons (dLc (diTup (dVar 0)) (.nm 2) (dYes) (dOp oSub (dC (.int 0)) (dVar 2)) [2]) (dNil))) (dNil))))))
abbrev s__law_between : Stmt := topS 49
abbrev N__law_between : List Str := ["here", "there", "k"]
theorem sc__law_between : FnScope N__law_between ["here", "there"] (defScope s__law_between) := ⟨rfl, rfl, rfl, by decide +kernel, rfl, by decide +kernel, by decide +kernel⟩
def t__law_between : DTS := dRet (dCB oTuple (dCons (dLc (diRng1 (dCons (dCB oLen (dCons (dVar 0) (dNil))) (dNil))) (.nm 2) (dYes) (dOp oSub (dOp oIx (dVar 1) (dVar 2)) (dOp oIx (dVar 0) (dVar 2))) [2]) (dNil)))
abbrev s__law_is_step : Stmt := topS 50
abbrev N__law_is_step : List Str := ["told", "due", "number"]
theorem sc__law_is_step : FnScope N__law_is_step ["told", "due"] (defScope s__law_is_step) := ⟨rfl, rfl, rfl, by decide +kernel, rfl, by decide +kernel, by decide +kernel⟩
def t__law_is_step : DTS := dSeq (dIfS (dOr (dNot (dTest (dCB oIsi (dCons (dVar 0) (dCons (dC (.ty "tuple")) (dNil)))))) (dTest (dOp (oEq true) (dVar 0) (dVar 1)))) (dRet (dC (.bl false))) (dNext)) (dRet (dOp (oEq false) (dLc (diTup (dVar 0)) (.nm 2) (dOr (dNot (dTest (dCB oIsi (dCons (dVar 2) (dCons (dC (.ty "int")) (dNil)))))) (dTest (dCB oIsi (dCons (dVar 2) (dCons (dC (.ty "bool")) (dNil)))))) (dVar 2) [2]) (dLst (dNil))))
abbrev s__law_right : Stmt := topS 51
abbrev N__law_right : List Str := ["here", "there", "due", "back", "told", "sign", "first", "number"]
theorem sc__law_right : FnScope N__law_right ["here", "there"] (defScope s__law_right) := ⟨rfl, rfl, rfl, by decide +kernel, rfl, by decide +kernel, by decide +kernel⟩
def t__law_right : DTS := dSeq (dSet (dCall p__law_between (dCons (dVar 0) (dCons (dVar 1) (dNil)))) 2) (dSeq (dIfS (dNot (dTest (dCall p__law_is_step (dCons (dCall p_step_between (dCons (dVar 0) (dCons (dVar 1) (dNil)))) (dCons (dVar 2) (dNil)))))) (dRet (dC (.bl false))) (dNext)) (dSeq (dSet (dCallK p_step_between 2 [1, 0] (dCons (dVar 0) (dCons (dVar 1) (dNil)))) 3) (dSeq (dIfS (dNot (dTest (dCall p__law_is_step (dCons (dVar 3) (dCons (dCB oTuple (dCons (dLc (diTup (dVar 2)) (.nm 7) (dYes) (dOp oSub (dC (.int 0)) (dVar 7)) [7]) (dNil))) (dNil)))))) (dRet (dC (.bl false))) (dNext)) (dSeq (dAsg (dCall p__law_turned (dCons (dVar 2) (dNil))) (.tu [.nm 5, .nm 6])) (dSeq (dSet (dCall p_canonical (dCons (dVar 2) (dNil))) 4) (dSeq (dIfS (dOr (dNot (dTest (dCB oIsi (dCons (dVar 4) (dCons (dC (.ty "tuple")) (dNil)))))) (dOr (dTest (dOp (oEq true) (dCB oLen (dCons (dVar 4) (dNil))) (dC (.int 2)))) (dOr (dTest (dOp (oEqS true (oEq true)) (dCB oRepr0 (dCons (dOp oIx (dVar 4) (dC (.int 0))) (dNil))) (dCB oRepr0 (dCons (dVar 5) (dNil))))) (dNot (dTest (dCall p__law_is_step (dCons (dOp oIx (dVar 4) (dC (.int 1))) (dCons (dVar 6) (dNil))))))))) (dRet (dC (.bl false))) (dNext)) (dRet (dAndV (dOp (oEq false) (dCallK p_canonical 1 [0] (dCons (dVar 3) (dNil))) (dTup (dCons (dOp oSub (dC (.int 0)) (dVar 5)) (dCons (dVar 6) (dNil))))) (dOp (oEq false) (dCall p_canonical (dCons (dVar 6) (dNil))) (dTup (dCons (dC (.int 1)) (dCons (dVar 6) (dNil)))))))))))))
abbrev s__law_ask_two : Stmt := topS 52
abbrev N__law_ask_two : List Str := ["script", "pen", "turn", "here", "there"]
theorem sc__law_ask_two : FnScope N__law_ask_two ["script"] (defScope s__law_ask_two) := ⟨rfl, rfl, rfl, by decide +kernel, rfl, by decide +kernel, by decide +kernel⟩
def t__law_ask_two : DTS := dSeq (dSet (dCall p__law_pen (dCons (dVar 0) (dNil))) 1) (dSeq (dFor (diRng1 (dCons (dC (.int 8)) (dNil))) (.nm 2) (dSeq (dAsg (dCall p__law_pair (dCons (dVar 1) (dNil))) (.tu [.nm 3, .nm 4])) (dIfS (dNot (dTest (dCall p__law_right (dCons (dVar 3) (dCons (dVar 4) (dNil)))))) (dRet (dC (.bl false))) (dNext)))) (dRet (dC (.bl true))))
abbrev s__law_int : Stmt := topS 53
abbrev N__law_int : List Str := ["pen", "groups", "way", "found", "k"]
theorem sc__law_int : FnScope N__law_int ["pen", "groups"] (defScope s__law_int) := ⟨rfl, rfl, rfl, by decide +kernel, rfl, by decide +kernel, by decide +kernel⟩
def t__law_int : DTS := dSeq (dSet (dCall p__law_draw (dCons (dVar 0) (dCons (dC (.int 4)) (dNil)))) 2) (dSeq (dIfS (dTest (dOp (oEq false) (dVar 2) (dC (.int 0)))) (dRet (dOp oSub (dCall p__law_draw (dCons (dVar 0) (dCons (dC (.int 25)) (dNil)))) (dC (.int 12)))) (dNext)) (dSeq (dIfS (dTest (dOp (oEq false) (dVar 2) (dC (.int 1)))) (dRet (dOp oIx (dLst (dCons (dC (.int 0)) (dCons (dC (.int 1)) (dCons (dUn oNeg (dC (.int 1))) (dCons (dOp oPow (dC (.int 2)) (dC (.int 64))) (dCons (dUn oNeg (dOp oPow (dC (.int 2)) (dC (.int 31)))) (dCons (dC (.int 360360)) (dCons (dOp oPow (dC (.int 10)) (dC (.int 18))) (dCons (dUn oNeg (dOp oSub (dOp oPow (dC (.int 10)) (dC (.int 12))) (dC (.int 1)))) (dNil)))))))))) (dCall p__law_draw (dCons (dVar 0) (dCons (dC (.int 8)) (dNil)))))) (dNext)) (dSeq (dSet (dC (.int 0)) 3) (dSeq (dFor (diRng1 (dCons (dOp oAdd (dC (.int 1)) (dCall p__law_draw (dCons (dVar 0) (dCons (dVar 1) (dNil))))) (dNil))) (.nm 4) (dSet (dOp oAdd (dOp oMul (dC (.int 1000000)) (dVar 3)) (dCall p__law_draw (dCons (dVar 0) (dCons (dC (.int 1000000)) (dNil))))) 3)) (dRet (dOp oMul (dVar 3) (dOp oSub (dC (.int 1)) (dOp oMul (dC (.int 2)) (dCall p__law_draw (dCons (dVar 0) (dCons (dC (.int 2)) (dNil))))))))))))
abbrev s__law_divisor : Stmt := topS 54
abbrev N__law_divisor : List Str := ["one", "other"]
theorem sc__law_divisor : FnScope N__law_divisor ["one", "other"] (defScope s__law_divisor) := ⟨rfl, rfl, rfl, by decide +kernel, rfl, by decide +kernel, by decide +kernel⟩
def t__law_divisor : DTS := dSeq (dPar 0 1 (dCons (dCB oAbs (dCons (dVar 0) (dNil))) (dCons (dCB oAbs (dCons (dVar 1) (dNil))) (dNil)))) (dSeq (dWh (dTest (dOp (oEq true) (dVar 1) (dC (.int 0)))) (dPar 0 1 (dCons (dVar 1) (dCons (dOp oMod (dCB oInt (dCons (dVar 0) (dNil))) (dVar 1)) (dNil))))) (dRet (dVar 0)))
abbrev s__law_refused : Stmt := topS 55
abbrev N__law_refused : List Str := ["upper", "lower", "caught", "error"]
theorem sc__law_refused : FnScope N__law_refused ["upper", "lower"] (defScope s__law_refused) := ⟨rfl, rfl, rfl, by decide +kernel, rfl, by decide +kernel, by decide +kernel⟩
def t__law_refused : DTS := dSeq (dSet (dC .non) 2) (dSeq (dTryAs [("InvalidRatio", true)] 3 (dDrop (dMake mkFrz "Ratio" p_Ratio_init (dCons (dVar 0) (dCons (dVar 1) (dNil))))) (dSet (dVar 3) 2)) (dRet (dCB (oIsiC [(.own "InvalidRatio", .own "InvalidRatio", true)]) (dCons (dVar 2) (dCons (dC (.cls "InvalidRatio")) (dNil))))))
abbrev s__law_is_whole : Stmt := topS 56
abbrev N__law_is_whole : List Str := ["value"]
theorem sc__law_is_whole : FnScope N__law_is_whole ["value"] (defScope s__law_is_whole) := ⟨rfl, rfl, rfl, by decide +kernel, rfl, by decide +kernel, by decide +kernel⟩
def t__law_is_whole : DTS := dRet (dAndV (dCB oIsi (dCons (dVar 0) (dCons (dC (.ty "int")) (dNil)))) (dNotV (dCB oIsi (dCons (dVar 0) (dCons (dC (.ty "bool")) (dNil))))))
abbrev s__law_made_right : Stmt := topS 57
abbrev N__law_made_right : List Str := ["upper", "lower", "found", "due", "named"]
theorem sc__law_made_right : FnScope N__law_made_right ["upper", "lower"] (defScope s__law_made_right) := ⟨rfl, rfl, rfl, by decide +kernel, rfl, by decide +kernel, by decide +kernel⟩
def t__law_made_right : DTS := dSeq (dSet (dMake mkFrz "Ratio" p_Ratio_init (dCons (dVar 0) (dCons (dVar 1) (dNil)))) 2) (dSeq (dIfS (dOr (dNot (dTest (dCall p__law_is_whole (dCons (dFld ["Ratio", "Turn"] "top" (dVar 2)) (dNil))))) (dOr (dNot (dTest (dCall p__law_is_whole (dCons (dFld ["Ratio", "Turn"] "bottom" (dVar 2)) (dNil))))) (dTest (dOp oLt (dFld ["Ratio", "Turn"] "bottom" (dVar 2)) (dC (.int 1)))))) (dRet (dC (.bl false))) (dNext)) (dSeq (dIfS (dOr (dTest (dOp (oEq true) (dOp oMul (dFld ["Ratio", "Turn"] "top" (dVar 2)) (dVar 1)) (dOp oMul (dVar 0) (dFld ["Ratio", "Turn"] "bottom" (dVar 2))))) (dTest (dOp (oEq true) (dCall p__law_divisor (dCons (dFld ["Ratio", "Turn"] "top" (dVar 2)) (dCons (dFld ["Ratio", "Turn"] "bottom" (dVar 2)) (dNil)))) (dC (.int 1))))) (dRet (dC (.bl false))) (dNext)) (dSeq (dSet (dCB oStr0 (dCons (dFld ["Ratio", "Turn"] "top" (dVar 2)) (dNil))) 3) (dSeq (dIfS (dTest (dOp (oEq true) (dFld ["Ratio", "Turn"] "bottom" (dVar 2)) (dC (.int 1)))) (dSet (dOp oAdd (dOp oAdd (dVar 3) (dC (.str "/"))) (dCB oStr0 (dCons (dFld ["Ratio", "Turn"] "bottom" (dVar 2)) (dNil)))) 3) (dNext)) (dSeq (dIfS (dOr (dTest (dOp (oEqS true (oEq true)) (dCB (oOwnS [("Ratio", p_Ratio_str)] oStr0) (dCons (dVar 2) (dNil))) (dVar 3))) (dTest (dOp (oEqS true (oEq true)) (dCB (oOwnS [("Ratio", p_Ratio_repr)] oRepr0) (dCons (dVar 2) (dNil))) (dOp oAdd (dOp oAdd (dOp oAdd (dOp oAdd (dC (.str "Ratio(")) (dCB oStr0 (dCons (dFld ["Ratio", "Turn"] "top" (dVar 2)) (dNil)))) (dC (.str ", "))) (dCB oStr0 (dCons (dFld ["Ratio", "Turn"] "bottom" (dVar 2)) (dNil)))) (dC (.str ")")))))) (dRet (dC (.bl false))) (dNext)) (dSeq (dSet (dMakeK mkFrz "Ratio" 0 2 (permS [0, 2, 1] p_Ratio_init) dNil (dCons (dVar 1) (dCons (dVar 0) (dNil)))) 4) (dRet (dAndV (dOp (oEq false) (dCB (oBoolI [("Ratio", p_Ratio_bool)] oBool0) (dCons (dVar 2) (dNil))) (dOp (oEq true) (dVar 0) (dC (.int 0)))) (dAndV (dOp (oEqS false (oEq false)) (dCB (oOwnS [("Ratio", p_Ratio_repr)] oRepr0) (dCons (dVar 4) (dNil))) (dCB (oOwnS [("Ratio", p_Ratio_repr)] oRepr0) (dCons (dVar 2) (dNil)))) (dOp (oEqS false (oEq false)) (dCB (oOwnS [("Ratio", p_Ratio_repr)] oRepr0) (dCons (dMake mkFrz "Ratio" (dfl [.int 1] p_Ratio_init) (dCons (dVar 0) (dNil))) (dNil))) (dCB (oOwnS [("Ratio", p_Ratio_repr)] oRepr0) (dCons (dMake mkFrz "Ratio" p_Ratio_init (dCons (dVar 0) (dCons (dC (.int 1)) (dNil)))) (dNil)))))))))))))
abbrev s__law_equal_right : Stmt := topS 58
abbrev N__law_equal_right : List Str := ["pen", "upper", "lower", "found", "often", "due", "other", "mates", "other_upper", "other_lower", "mate"]
theorem sc__law_equal_right : FnScope N__law_equal_right ["pen", "upper", "lower"] (defScope s__law_equal_right) := ⟨rfl, rfl, rfl, by decide +kernel, rfl, by decide +kernel, by decide +kernel⟩
def t__law_equal_right : DTS := dSeq (dSet (dMake mkFrz "Ratio" p_Ratio_init (dCons (dVar 1) (dCons (dVar 2) (dNil)))) 3) (dSeq (dSet (dOp oIx (dLst (dCons (dC (.int 1)) (dCons (dUn oNeg (dC (.int 1))) (dCons (dC (.int 2)) (dCons (dC (.int 6)) (dCons (dUn oNeg (dC (.int 35))) (dCons (dOp oPow (dC (.int 10)) (dC (.int 6))) (dNil)))))))) (dCall p__law_draw (dCons (dVar 0) (dCons (dC (.int 6)) (dNil))))) 4) (dSeq (dPar 8 9 (dCons (dCall p__law_int (dCons (dVar 0) (dCons (dC (.int 5)) (dNil)))) (dCons (dCall p__law_int (dCons (dVar 0) (dCons (dC (.int 5)) (dNil)))) (dNil)))) (dSeq (dIfS (dOr (dTest (dOp (oEq false) (dVar 9) (dC (.int 0)))) (dTest (dOp (oEq false) (dCall p__law_draw (dCons (dVar 0) (dCons (dC (.int 2)) (dNil)))) (dC (.int 0))))) (dPar 8 9 (dCons (dOp oAdd (dVar 1) (dCall p__law_draw (dCons (dVar 0) (dCons (dC (.int 2)) (dNil))))) (dCons (dVar 2) (dNil)))) (dNext)) (dSeq (dSet (dOp (oEq false) (dOp oMul (dVar 1) (dVar 9)) (dOp oMul (dVar 8) (dVar 2))) 5) (dSeq (dSet (dMake mkFrz "Ratio" p_Ratio_init (dCons (dVar 8) (dCons (dVar 9) (dNil)))) 6) (dSeq (dIfS (dOr (dNot (dTest (dOp (oOwnE false [("Ratio", .own "Ratio", p_Ratio_eq)] (oEq false)) (dVar 3) (dMake mkFrz "Ratio" p_Ratio_init (dCons (dOp oMul (dVar 1) (dVar 4)) (dCons (dOp oMul (dVar 2) (dVar 4)) (dNil))))))) (dTest (dOp (oOwnE true [("Ratio", .own "Ratio", p_Ratio_eq)] (oEq true)) (dVar 3) (dMake mkFrz "Ratio" p_Ratio_init (dCons (dVar 1) (dCons (dVar 2) (dNil))))))) (dRet (dC (.bl false))) (dNext)) (dSeq (dIfS (dTest (dOp (oEqS true (oEq true)) (dCB oRepr0 (dCons (dLst (dCons (dOp (oOwnE false [("Ratio", .own "Ratio", p_Ratio_eq)] (oEq false)) (dVar 3) (dVar 6)) (dCons (dOp (oOwnE false [("Ratio", .own "Ratio", p_Ratio_eq)] (oEq false)) (dVar 6) (dVar 3)) (dCons (dOp (oOwnE true [("Ratio", .own "Ratio", p_Ratio_eq)] (oEq true)) (dVar 3) (dVar 6)) (dNil))))) (dNil))) (dCB oRepr0 (dCons (dLst (dCons (dVar 5) (dCons (dVar 5) (dCons (dNotV (dVar 5)) (dNil))))) (dNil))))) (dRet (dC (.bl false))) (dNext)) (dSeq (dSet (dLst (dCons (dC .non) (dCons (dC (.bl true)) (dCons (dVar 1) (dCons (dCB (oOwnS [("Ratio", p_Ratio_str)] oStr0) (dCons (dVar 3) (dNil))) (dCons (dTup (dCons (dFld ["Ratio", "Turn"] "top" (dVar 3)) (dCons (dFld ["Ratio", "Turn"] "bottom" (dVar 3)) (dNil)))) (dCons (dLst (dCons (dVar 3) (dNil))) (dCons (dMake mkFrz "Turn" p_Turn_init (dCons (dVar 1) (dCons (dVar 2) (dNil)))) (dCons (dFld ["Ratio", "Turn"] "top" (dVar 3)) (dNil)))))))))) 7) (dRet (dOp (oEq false) (dLc (diList (dVar 7)) (.nm 10) (dOr (dTest (dOp (oOwnE false [("Ratio", .bi "NoneType", p_Ratio_eq), ("Ratio", .bi "bool", p_Ratio_eq), ("Ratio", .bi "int", p_Ratio_eq), ("Ratio", .bi "str", p_Ratio_eq), ("Ratio", .bi "list", p_Ratio_eq), ("Ratio", .bi "tuple", p_Ratio_eq), ("Ratio", .own "Turn", p_Ratio_eq), ("Ratio", .own "Ratio", p_Ratio_eq)] (oEq false)) (dVar 3) (dVar 10))) (dNot (dTest (dOp (oOwnE true [("Ratio", .bi "NoneType", p_Ratio_eq), ("Ratio", .bi "bool", p_Ratio_eq), ("Ratio", .bi "int", p_Ratio_eq), ("Ratio", .bi "str", p_Ratio_eq), ("Ratio", .bi "list", p_Ratio_eq), ("Ratio", .bi "tuple", p_Ratio_eq), ("Ratio", .own "Turn", p_Ratio_eq), ("Ratio", .own "Ratio", p_Ratio_eq)] (oEq true)) (dVar 3) (dVar 10))))) (dVar 10) [10]) (dLst (dNil))))))))))))
abbrev s__law_ask_three : Stmt := topS 59
abbrev N__law_ask_three : List Str := ["script", "pen", "turn", "odd", "upper", "lower", "common"]
theorem sc__law_ask_three : FnScope N__law_ask_three ["script"] (defScope s__law_ask_three) := ⟨rfl, rfl, rfl, by decide +kernel, rfl, by decide +kernel, by decide +kernel⟩
def t__law_ask_three : DTS := dSeq (dSet (dCall p__law_pen (dCons (dVar 0) (dNil))) 1) (dSeq (dFor (diRng1 (dCons (dC (.int 8)) (dNil))) (.nm 2) (dSeq (dPar3 4 5 6 (dCons (dCall p__law_int (dCons (dVar 1) (dCons (dC (.int 5)) (dNil)))) (dCons (dCall p__law_int (dCons (dVar 1) (dCons (dC (.int 5)) (dNil)))) (dCons (dOp oIx (dLst (dCons (dC (.int 1)) (dCons (dC (.int 6)) (dCons (dC (.int 77)) (dCons (dOp oPow (dC (.int 10)) (dC (.int 24))) (dNil)))))) (dCall p__law_draw (dCons (dVar 1) (dCons (dC (.int 4)) (dNil))))) (dNil))))) (dSeq (dIfS (dTest (dOp (oEq false) (dVar 5) (dC (.int 0)))) (dSeq (dIfS (dOr (dNot (dTest (dCall p__law_refused (dCons (dVar 4) (dCons (dVar 5) (dNil)))))) (dNot (dTest (dCall p__law_refused (dCons (dC (.int 0)) (dCons (dC (.int 0)) (dNil))))))) (dRet (dC (.bl false))) (dNext)) (dSet (dOp oAdd (dC (.int 1)) (dCall p__law_draw (dCons (dVar 1) (dCons (dC (.int 12)) (dNil))))) 5)) (dNext)) (dSeq (dIfS (dOr (dNot (dTest (dCall p__law_made_right (dCons (dOp oMul (dVar 4) (dVar 6)) (dCons (dOp oMul (dVar 5) (dVar 6)) (dNil)))))) (dNot (dTest (dCall p__law_made_right (dCons (dVar 4) (dCons (dOp oSub (dC (.int 0)) (dVar 5)) (dNil))))))) (dRet (dC (.bl false))) (dNext)) (dSeq (dIfS (dNot (dTest (dCall p__law_equal_right (dCons (dVar 1) (dCons (dVar 4) (dCons (dVar 5) (dNil))))))) (dRet (dC (.bl false))) (dNext)) (dSeq (dSet (dOp oIx (dLst (dCons (dC .non) (dCons (dC (.bl true)) (dCons (dC (.bl false)) (dCons (dC (.str "1")) (dCons (dC (.str "")) (dCons (dTup (dCons (dC (.int 1)) (dNil))) (dCons (dLst (dCons (dC (.int 1)) (dNil))) (dCons (dDict0) (dCons (dC (.str "1/2")) (dCons (dMake mkFrz "Ratio" (dfl [.int 1] p_Ratio_init) (dCons (dC (.int 1)) (dNil))) (dCons (dMake mkFrz "Turn" p_Turn_init (dCons (dC (.int 1)) (dCons (dC (.int 2)) (dNil)))) (dNil))))))))))))) (dCall p__law_draw (dCons (dVar 1) (dCons (dC (.int 11)) (dNil))))) 3) (dIfS (dOr (dNot (dTest (dCall p__law_refused (dCons (dVar 3) (dCons (dVar 5) (dNil)))))) (dOr (dNot (dTest (dCall p__law_refused (dCons (dVar 4) (dCons (dVar 3) (dNil)))))) (dNot (dTest (dCall p__law_refused (dCons (dVar 3) (dCons (dC (.int 0)) (dNil)))))))) (dRet (dC (.bl false))) (dNext)))))))) (dRet (dC (.bl true))))
abbrev s__law_divisor_four : Stmt := topS 60
abbrev N__law_divisor_four : List Str := ["one", "mate"]
theorem sc__law_divisor_four : FnScope N__law_divisor_four ["one", "mate"] (defScope s__law_divisor_four) := ⟨rfl, rfl, rfl, by decide +kernel, rfl, by decide +kernel, by decide +kernel⟩
def t__law_divisor_four : DTS := dSeq (dPar 0 1 (dCons (dCB oAbs (dCons (dVar 0) (dNil))) (dCons (dCB oAbs (dCons (dVar 1) (dNil))) (dNil)))) (dSeq (dWh (dTest (dOp (oEq true) (dVar 1) (dC (.int 0)))) (dPar 0 1 (dCons (dVar 1) (dCons (dOp oMod (dCB oInt (dCons (dVar 0) (dNil))) (dVar 1)) (dNil))))) (dRet (dVar 0)))
abbrev s__law_is : Stmt := topS 61
abbrev N__law_is : List Str := ["found", "top", "bottom"]
theorem sc__law_is : FnScope N__law_is ["found", "top", "bottom"] (defScope s__law_is) := ⟨rfl, rfl, rfl, by decide +kernel, rfl, by decide +kernel, by decide +kernel⟩
def t__law_is : DTS := dSeq (dIfS (dOr (dNot (dTest (dCB (oIsiC [(.own "Ratio", .own "Ratio", true)]) (dCons (dVar 0) (dCons (dC (.cls "Ratio")) (dNil)))))) (dOr (dTest (dOp oLt (dFld ["Ratio", "Turn"] "bottom" (dVar 0)) (dC (.int 1)))) (dTest (dOp (oEq true) (dCall p__law_divisor_four (dCons (dFld ["Ratio", "Turn"] "top" (dVar 0)) (dCons (dFld ["Ratio", "Turn"] "bottom" (dVar 0)) (dNil)))) (dC (.int 1)))))) (dRet (dC (.bl false))) (dNext)) (dRet (dOp (oEq false) (dOp oMul (dFld ["Ratio", "Turn"] "top" (dVar 0)) (dVar 2)) (dOp oMul (dVar 1) (dFld ["Ratio", "Turn"] "bottom" (dVar 0)))))
abbrev s__law_refused_four : Stmt := topS 62
abbrev N__law_refused_four : List Str := ["one", "caught", "error"]
theorem sc__law_refused_four : FnScope N__law_refused_four ["one"] (defScope s__law_refused_four) := ⟨rfl, rfl, rfl, by decide +kernel, rfl, by decide +kernel, by decide +kernel⟩
def t__law_refused_four : DTS := dSeq (dSet (dC .non) 1) (dSeq (dTryAs [("InvalidRatio", true)] 2 (dDrop (dMeth [("Ratio", p_Ratio_over)] "over" (dVar 0) (dCons (dMake mkFrz "Ratio" (dfl [.int 1] p_Ratio_init) (dCons (dC (.int 0)) (dNil))) (dNil)))) (dSet (dVar 2) 1)) (dRet (dCB (oIsiC [(.own "InvalidRatio", .own "InvalidRatio", true)]) (dCons (dVar 1) (dCons (dC (.cls "InvalidRatio")) (dNil))))))
abbrev s__law_two_right : Stmt := topS 63
abbrev N__law_two_right : List Str := ["one", "two", "a", "b", "c", "d"]
theorem sc__law_two_right : FnScope N__law_two_right ["one", "two"] (defScope s__law_two_right) := ⟨rfl, rfl, rfl, by decide +kernel, rfl, by decide +kernel, by decide +kernel⟩
def t__law_two_right : DTS := dSeq (dAsg (dTup (dCons (dFld ["Ratio", "Turn"] "top" (dVar 0)) (dCons (dFld ["Ratio", "Turn"] "bottom" (dVar 0)) (dCons (dFld ["Ratio", "Turn"] "top" (dVar 1)) (dCons (dFld ["Ratio", "Turn"] "bottom" (dVar 1)) (dNil)))))) (.tu [.nm 2, .nm 3, .nm 4, .nm 5])) (dSeq (dIfS (dOr (dNot (dTest (dCall p__law_is (dCons (dOp (oOwn [("Ratio", .own "Ratio", p_Ratio_add)] oAdd) (dVar 0) (dVar 1)) (dCons (dOp oAdd (dOp oMul (dVar 2) (dVar 5)) (dOp oMul (dVar 4) (dVar 3))) (dCons (dOp oMul (dVar 3) (dVar 5)) (dNil))))))) (dNot (dTest (dCall p__law_is (dCons (dOp (oOwn [("Ratio", .own "Ratio", p_Ratio_sub)] oSub) (dVar 0) (dVar 1)) (dCons (dOp oSub (dOp oMul (dVar 2) (dVar 5)) (dOp oMul (dVar 4) (dVar 3))) (dCons (dOp oMul (dVar 3) (dVar 5)) (dNil)))))))) (dRet (dC (.bl false))) (dNext)) (dSeq (dIfS (dOr (dNot (dTest (dCall p__law_is (dCons (dOp (oOwn [("Ratio", .own "Ratio", p_Ratio_mul)] oMul) (dVar 0) (dVar 1)) (dCons (dOp oMul (dVar 2) (dVar 4)) (dCons (dOp oMul (dVar 3) (dVar 5)) (dNil))))))) (dNot (dTest (dCall p__law_is (dCons (dUn (oOwnU [("Ratio", p_Ratio_neg)] oNeg) (dVar 0)) (dCons (dOp oSub (dC (.int 0)) (dVar 2)) (dCons (dVar 3) (dNil)))))))) (dRet (dC (.bl false))) (dNext)) (dSeq (dIfS (dOr (dTest (dOp (oEqS true (oEq true)) (dCB oRepr0 (dCons (dMeth [("Ratio", p_Ratio_under)] "under" (dVar 0) (dCons (dVar 1) (dNil))) (dNil))) (dCB oRepr0 (dCons (dOp oLt (dOp oMul (dVar 2) (dVar 5)) (dOp oMul (dVar 4) (dVar 3))) (dNil))))) (dTest (dOp (oEqS true (oEq true)) (dCB oRepr0 (dCons (dMethK [("Ratio", permS [0, 1] p_Ratio_under)] "under" 0 1 (dVar 0) dNil (dCons (dVar 1) (dNil))) (dNil))) (dCB oRepr0 (dCons (dOp oLt (dOp oMul (dVar 2) (dVar 5)) (dOp oMul (dVar 4) (dVar 3))) (dNil)))))) (dRet (dC (.bl false))) (dNext)) (dSeq (dIfS (dTest (dOp (oEq true) (dMt oCount (dLstO (dCons (dMeth [("Ratio", p_Ratio_under)] "under" (dVar 0) (dCons (dVar 1) (dNil))) (dCons (dMeth [("Ratio", p_Ratio_under)] "under" (dVar 1) (dCons (dVar 0) (dNil))) (dCons (dOp (oOwnE false [("Ratio", .own "Ratio", p_Ratio_eq)] (oEq false)) (dVar 0) (dVar 1)) (dNil))))) (dCons (dC (.bl true)) (dNil))) (dC (.int 1)))) (dRet (dC (.bl false))) (dNext)) (dSeq (dIfS (dTest (dOp (oEq false) (dVar 4) (dC (.int 0)))) (dRet (dAndV (dCall p__law_refused_four (dCons (dVar 0) (dNil))) (dNotT [("Ratio", p_Ratio_bool)] (dVar 1)))) (dNext)) (dSeq (dIfS (dOr (dNot (dTest (dCall p__law_is (dCons (dMeth [("Ratio", p_Ratio_over)] "over" (dVar 0) (dCons (dVar 1) (dNil))) (dCons (dOp oMul (dVar 2) (dVar 5)) (dCons (dOp oMul (dVar 3) (dVar 4)) (dNil))))))) (dNot (dTest (dCall p__law_is (dCons (dMethK [("Ratio", permS [0, 1] p_Ratio_over)] "over" 0 1 (dVar 0) dNil (dCons (dVar 1) (dNil))) (dCons (dOp oMul (dVar 2) (dVar 5)) (dCons (dOp oMul (dVar 3) (dVar 4)) (dNil)))))))) (dRet (dC (.bl false))) (dNext)) (dRet (dAndV (dOp (oOwnE false [("Ratio", .own "Ratio", p_Ratio_eq)] (oEq false)) (dMeth [("Ratio", p_Ratio_over)] "over" (dOp (oOwn [("Ratio", .own "Ratio", p_Ratio_mul)] oMul) (dVar 0) (dVar 1)) (dCons (dVar 1) (dNil))) (dVar 0)) (dOp (oOwnE false [("Ratio", .own "Ratio", p_Ratio_eq)] (oEq false)) (dOp (oOwn [("Ratio", .own "Ratio", p_Ratio_mul)] oMul) (dMeth [("Ratio", p_Ratio_over)] "over" (dVar 0) (dCons (dVar 1) (dNil))) (dVar 1)) (dVar 0))))))))))
abbrev s__law_three_right : Stmt := topS 64
abbrev N__law_three_right : List Str := ["one", "two", "three", "often"]
theorem sc__law_three_right : FnScope N__law_three_right ["one", "two", "three", "often"] (defScope s__law_three_right) := ⟨rfl, rfl, rfl, by decide +kernel, rfl, by decide +kernel, by decide +kernel⟩
def t__law_three_right : DTS := dSeq (dIfS (dOr (dNot (dTest (dOp (oOwnE false [("Ratio", .own "Ratio", p_Ratio_eq)] (oEq false)) (dOp (oOwn [("Ratio", .own "Ratio", p_Ratio_add)] oAdd) (dOp (oOwn [("Ratio", .own "Ratio", p_Ratio_add)] oAdd) (dVar 0) (dVar 1)) (dVar 2)) (dOp (oOwn [("Ratio", .own "Ratio", p_Ratio_add)] oAdd) (dVar 0) (dOp (oOwn [("Ratio", .own "Ratio", p_Ratio_add)] oAdd) (dVar 1) (dVar 2)))))) (dNot (dTest (dOp (oOwnE false [("Ratio", .own "Ratio", p_Ratio_eq)] (oEq false)) (dOp (oOwn [("Ratio", .own "Ratio", p_Ratio_mul)] oMul) (dVar 0) (dOp (oOwn [("Ratio", .own "Ratio", p_Ratio_add)] oAdd) (dVar 1) (dVar 2))) (dOp (oOwn [("Ratio", .own "Ratio", p_Ratio_add)] oAdd) (dOp (oOwn [("Ratio", .own "Ratio", p_Ratio_mul)] oMul) (dVar 0) (dVar 1)) (dOp (oOwn [("Ratio", .own "Ratio", p_Ratio_mul)] oMul) (dVar 0) (dVar 2))))))) (dRet (dC (.bl false))) (dNext)) (dSeq (dIfS (dOr (dNot (dTest (dOp (oOwnE false [("Ratio", .own "Ratio", p_Ratio_eq)] (oEq false)) (dOp (oOwn [("Ratio", .own "Ratio", p_Ratio_sub)] oSub) (dOp (oOwn [("Ratio", .own "Ratio", p_Ratio_add)] oAdd) (dVar 0) (dVar 1)) (dVar 1)) (dVar 0)))) (dOr (dTest (dCB (oBoolI [("Ratio", p_Ratio_bool)] oBool0) (dCons (dOp (oOwn [("Ratio", .own "Ratio", p_Ratio_add)] oAdd) (dVar 0) (dUn (oOwnU [("Ratio", p_Ratio_neg)] oNeg) (dVar 0))) (dNil)))) (dNot (dTest (dOp (oOwnE false [("Ratio", .own "Ratio", p_Ratio_eq)] (oEq false)) (dOp (oOwn [("Ratio", .own "Ratio", p_Ratio_sub)] oSub) (dVar 0) (dVar 1)) (dUn (oOwnU [("Ratio", p_Ratio_neg)] oNeg) (dOp (oOwn [("Ratio", .own "Ratio", p_Ratio_sub)] oSub) (dVar 1) (dVar 0)))))))) (dRet (dC (.bl false))) (dNext)) (dSeq (dIfS (dOr (dNot (dTest (dCall p__law_is (dCons (dOp (oOwn [("Ratio", .bi "int", p_Ratio_mul)] oMul) (dVar 0) (dVar 3)) (dCons (dOp oMul (dFld ["Ratio", "Turn"] "top" (dVar 0)) (dVar 3)) (dCons (dFld ["Ratio", "Turn"] "bottom" (dVar 0)) (dNil))))))) (dNot (dTest (dOp (oOwnE false [("Ratio", .own "Ratio", p_Ratio_eq)] (oEq false)) (dOp (oOwn [("Ratio", .bi "int", p_Ratio_mul)] oMul) (dVar 0) (dVar 3)) (dOp (oOwn [("Ratio", .own "Ratio", p_Ratio_mul)] oMul) (dVar 0) (dMake mkFrz "Ratio" (dfl [.int 1] p_Ratio_init) (dCons (dVar 3) (dNil)))))))) (dRet (dC (.bl false))) (dNext)) (dRet (dOp (oEq false) (dMeth [("Ratio", p_Ratio_under)] "under" (dVar 0) (dCons (dVar 1) (dNil))) (dMeth [("Ratio", p_Ratio_under)] "under" (dOp (oOwn [("Ratio", .own "Ratio", p_Ratio_add)] oAdd) (dVar 0) (dVar 2)) (dCons (dOp (oOwn [("Ratio", .own "Ratio", p_Ratio_add)] oAdd) (dVar 1) (dVar 2)) (dNil)))))))
abbrev s__law_ask_four : Stmt := topS 65
abbrev N__law_ask_four : List Str := ["script", "pen", "turn", "some", "k", "way", "kept", "one", "bottom", "two"]
theorem sc__law_ask_four : FnScope N__law_ask_four ["script"] (defScope s__law_ask_four) := ⟨rfl, rfl, rfl, by decide +kernel, rfl, by decide +kernel, by decide +kernel⟩
def t__law_ask_four : DTS := dSeq (dSet (dCall p__law_pen (dCons (dVar 0) (dNil))) 1) (dSeq (dFor (diRng1 (dCons (dC (.int 8)) (dNil))) (.nm 2) (dSeq (dSet (dLstO (dNil)) 3) (dSeq (dFor (diRng1 (dCons (dC (.int 3)) (dNil))) (.nm 4) (dSeq (dSet (dCall p__law_int (dCons (dVar 1) (dCons (dC (.int 2)) (dNil)))) 8) (dSeq (dIfS (dTest (dOp (oEq false) (dVar 8) (dC (.int 0)))) (dSet (dC (.int 1)) 8) (dNext)) (dDrop (dMt oAppend (dVar 3) (dCons (dMake mkFrz "Ratio" p_Ratio_init (dCons (dCall p__law_int (dCons (dVar 1) (dCons (dC (.int 2)) (dNil)))) (dCons (dVar 8) (dNil)))) (dNil))))))) (dSeq (dSet (dCall p__law_draw (dCons (dVar 1) (dCons (dC (.int 5)) (dNil)))) 5) (dSeq (dIfS (dTest (dOp oLt (dVar 5) (dC (.int 3)))) (dSetIx (dVar 3) (dC (.int 1)) (dOp oIx (dLst (dCons (dOp oIx (dVar 3) (dC (.int 0))) (dCons (dUn (oOwnU [("Ratio", p_Ratio_neg)] oNeg) (dOp oIx (dVar 3) (dC (.int 0)))) (dCons (dMake mkFrz "Ratio" (dfl [.int 1] p_Ratio_init) (dCons (dC (.int 0)) (dNil))) (dNil))))) (dVar 5))) (dNext)) (dSeq (dSet (dCB (oReprL [("Ratio", p_Ratio_repr)] oRepr0) (dCons (dVar 3) (dNil))) 6) (dSeq (dFor (diList (dVar 3)) (.nm 7) (dFor (diList (dVar 3)) (.nm 9) (dIfS (dNot (dTest (dCall p__law_two_right (dCons (dVar 7) (dCons (dVar 9) (dNil)))))) (dRet (dC (.bl false))) (dNext)))) (dIfS (dOr (dNot (dTest (dCall p__law_three_right (dCons (dOp oIx (dVar 3) (dC (.int 0))) (dCons (dOp oIx (dVar 3) (dC (.int 1))) (dCons (dOp oIx (dVar 3) (dC (.int 2))) (dCons (dCall p__law_int (dCons (dVar 1) (dCons (dC (.int 1)) (dNil)))) (dNil)))))))) (dTest (dOp (oEqS true (oEq true)) (dCB (oReprL [("Ratio", p_Ratio_repr)] oRepr0) (dCons (dVar 3) (dNil))) (dVar 6)))) (dRet (dC (.bl false))) (dNext))))))))) (dRet (dC (.bl true))))
abbrev s_law : Stmt := topS 66
abbrev N_law : List Str := ["script"]
theorem sc_law : FnScope N_law ["script"] (defScope s_law) := ⟨rfl, rfl, rfl, by decide +kernel, rfl, by decide +kernel, by decide +kernel⟩
def t_law : DTS := dRet (dAndV (dCall p__law_ask_one (dCons (dVar 0) (dNil))) (dAndV (dCall p__law_ask_two (dCons (dVar 0) (dNil))) (dAndV (dCall p__law_ask_three (dCons (dVar 0) (dNil))) (dCall p__law_ask_four (dCons (dVar 0) (dNil))))))
end K00
namespace K00
open PySem PySem.Spec PyProof.Rows L2 EX
/-! ### is_integer -/
theorem b_is_integer {P : Program} {w : World} {K : Kx} {base : Heap} (B : Bi K.mg) (SE : Seer P base) (I_Turn_int : IsiOk K (.own "Turn") (.bi "int") false) (I_Ratio_int : IsiOk K (.own "Ratio") (.bi "int") false) (I_dict_int : IsiOk K (.bi "dict") (.bi "int") false) (I_tuple_int : IsiOk K (.bi "tuple") (.bi "int") false) (I_list_int : IsiOk K (.bi "list") (.bi "int") false) (I_str_int : IsiOk K (.bi "str") (.bi "int") false) (I_int_int : IsiOk K (.bi "int") (.bi "int") true) (I_bool_int : IsiOk K (.bi "bool") (.bi "int") true) (I_NoneType_int : IsiOk K (.bi "NoneType") (.bi "int") false) (I_Turn_bool : IsiOk K (.own "Turn") (.bi "bool") false) (I_Ratio_bool : IsiOk K (.own "Ratio") (.bi "bool") false) (I_dict_bool : IsiOk K (.bi "dict") (.bi "bool") false) (I_tuple_bool : IsiOk K (.bi "tuple") (.bi "bool") false) (I_list_bool : IsiOk K (.bi "list") (.bi "bool") false) (I_str_bool : IsiOk K (.bi "str") (.bi "bool") false) (I_int_bool : IsiOk K (.bi "int") (.bi "bool") false) (I_bool_bool : IsiOk K (.bi "bool") (.bi "bool") true) (I_NoneType_bool : IsiOk K (.bi "NoneType") (.bi "bool") false) (f : Addr) (cdv : Value) (A : Around) (outer : List PySem.Env) (s : Shared) (H : Hp) (E : XK) (hr : EX.Room 1 (A.deeper (envOfC "is_integer" (defScope s_is_integer) s.heap.objs.size f cdv))) : PSs (cxD P w K base N_is_integer "is_integer" s_is_integer f cdv A outer s H E) (defBody s_is_integer) (LS K (WD E) t_is_integer) := by
  have hu := hr.units
  exact dss_one (ds_ret (de_and (de_callB (oc_isiC (tab := [(.bi "NoneType", .bi "int", false), (.bi "bool", .bi "int", true), (.bi "int", .bi "int", true), (.bi "str", .bi "int", false), (.bi "list", .bi "int", false), (.bi "tuple", .bi "int", false), (.bi "dict", .bi "int", false), (.own "Ratio", .bi "int", false), (.own "Turn", .bi "int", false)]) (.cons I_NoneType_int (.cons I_bool_int (.cons I_int_int (.cons I_str_int (.cons I_list_int (.cons I_tuple_int (.cons I_dict_int (.cons I_Ratio_int (.cons I_Turn_int .nil)))))))))) (by rfl) B.isinstance PyProof.Rows.boot_isinstance (da_cons (dv 0) (da_cons (de_ty (by rfl) B.int PyProof.Rows.boot_int) (da_nil)))) (de_one (de_not (de_callB (oc_isiC (tab := [(.bi "NoneType", .bi "bool", false), (.bi "bool", .bi "bool", true), (.bi "int", .bi "bool", false), (.bi "str", .bi "bool", false), (.bi "list", .bi "bool", false), (.bi "tuple", .bi "bool", false), (.bi "dict", .bi "bool", false), (.own "Ratio", .bi "bool", false), (.own "Turn", .bi "bool", false)]) (.cons I_NoneType_bool (.cons I_bool_bool (.cons I_int_bool (.cons I_str_bool (.cons I_list_bool (.cons I_tuple_bool (.cons I_dict_bool (.cons I_Ratio_bool (.cons I_Turn_bool .nil)))))))))) (by rfl) B.isinstance PyProof.Rows.boot_isinstance (da_cons (dv 0) (da_cons (de_ty (by rfl) B.bool (by decide +kernel)) (da_nil))))))))

/-! ### lowest -/
theorem b_lowest {P : Program} {w : World} {K : Kx} {base : Heap} (B : Bi K.mg) (SE : Seer P base)  (f : Addr) (cdv : Value) (A : Around) (outer : List PySem.Env) (s : Shared) (H : Hp) (E : XK) (hr : EX.Room 41 (A.deeper (envOfC "lowest" (defScope s_lowest) s.heap.objs.size f cdv))) : PSs (cxD P w K base N_lowest "lowest" s_lowest f cdv A outer s H E) (defBody s_lowest) (LS K (WD E) t_lowest) := by
  have hu := hr.units
  have hpy := SE.py (N := N_lowest) (mg := K.mg) (H := H) (E := E) (K := K.K) (w := w) (outer := outer) sc_lowest hr (by decide)
  exact dss_cons (ds_par (i := 2) (j := 3) rfl sc_lowest.nd rfl rfl (by decide) rfl rfl (da_cons (de_callB oc_abs (by rfl) B.abs PyProof.Rows.boot_abs (da_cons (dv 0) (da_nil))) (da_cons (de_callB oc_abs (by rfl) B.abs PyProof.Rows.boot_abs (da_cons (dv 1) (da_nil))) (da_nil))) rfl)
      (dss_cons (ds_while (passes_of rfl) (dt_cmp (os_ne hu) (dv 3) (de_int) (nomark _)) (dss_one (ds_par (i := 2) (j := 3) rfl sc_lowest.nd rfl rfl (by decide) rfl rfl (da_cons (dv 3) (da_cons (de_op os_mod (dv 2) (dv 3)) (da_nil))) rfl)))
      (dss_cons (ds_if (dt_cmp os_lt (dv 1) (de_int) (nomark _)) (dss_one (ds_set (i := 2) sc_lowest.nd rfl (by first | exact Or.inl rfl | exact Or.inr rfl) (de_op os_sub (de_int) (dv 2)))) (dss_nil))
      (dss_one (ds_ret (de_tup (da_cons (de_op (os_fdiv hpy) (dv 0) (dv 2)) (da_cons (de_op (os_fdiv hpy) (dv 1) (dv 2)) (da_nil))))))))

/-! ### need_parts -/
theorem b_need_parts {P : Program} {w : World} {K : Kx} {base : Heap} (B : Bi K.mg) (SE : Seer P base) (Dis_integer : Def P w K base "is_integer" s_is_integer 2 ["value"] p_is_integer) (X_InvalidRatio : ExcP K "InvalidRatio") (f : Addr) (cdv : Value) (A : Around) (outer : List PySem.Env) (s : Shared) (H : Hp) (E : XK) (hr : EX.Room 2 (A.deeper (envOfC "need_parts" (defScope s_need_parts) s.heap.objs.size f cdv))) : PSs (cxD P w K base N_need_parts "need_parts" s_need_parts f cdv A outer s H E) (defBody s_need_parts) (LS K (WD E) t_need_parts) := by
  have hu := hr.units
  exact dss_one (ds_if ((dw_or (dt_not (dt_val (de_callD (takes_of rfl rfl rfl rfl) Dis_integer (hr.mono (by decide)) (by rfl) (da_cons (dv 0) (da_nil))))) (dw_or (dt_not (dt_val (de_callD (takes_of rfl rfl rfl rfl) Dis_integer (hr.mono (by decide)) (by rfl) (da_cons (dv 1) (da_nil))))) (dw_or1 (dt_cmp (os_eq hu) (dv 1) (de_int) (nomark _))))).pt) (dss_one (ds_raise0 rfl (takes_of rfl rfl rfl rfl) X_InvalidRatio (by rfl))) (dss_nil))

/-! ### Ratio.__init__ -/
theorem b_Ratio_init {P : Program} {w : World} {K : Kx} {base : Heap} (B : Bi K.mg) (SE : Seer P base) (Dlowest : Def P w K base "lowest" s_lowest 42 ["top", "bottom"] p_lowest) (Dneed_parts : Def P w K base "need_parts" s_need_parts 3 ["top", "bottom"] p_need_parts) (F_Turn_top : FldOk K "Turn" "top") (F_Ratio_top : FldOk K "Ratio" "top") (F_Turn_bottom : FldOk K "Turn" "bottom") (F_Ratio_bottom : FldOk K "Ratio" "bottom") (f : Addr) (cdv : Value) (A : Around) (outer : List PySem.Env) (s : Shared) (H : Hp) (E : XK) (hr : EX.Room 42 (A.deeper (envOfC "Ratio.__init__" (defScope s_Ratio_init) s.heap.objs.size f cdv))) : PSs (cxD P w K base N_Ratio_init "Ratio.__init__" s_Ratio_init f cdv A outer s H E) (defBody s_Ratio_init) (LS K (WD E) t_Ratio_init) := by
  have hu := hr.units
  exact dss_cons (ds_expr (de_callD (takes_of rfl rfl rfl rfl) Dneed_parts (hr.mono (by decide)) (by rfl) (da_cons (dv 1) (da_cons (dv 2) (da_nil)))))
      (dss_one (ds_setF2 rfl (.cons F_Ratio_top (.cons F_Turn_top .nil)) (.cons F_Ratio_bottom (.cons F_Turn_bottom .nil)) (dv 0) (dv 0) (de_callD (takes_of rfl rfl rfl rfl) Dlowest (hr.mono (by decide)) (by rfl) (da_cons (dv 1) (da_cons (dv 2) (da_nil))))))

/-! ### Ratio.__add__ -/
theorem b_Ratio_add {P : Program} {w : World} {K : Kx} {base : Heap} (B : Bi K.mg) (SE : Seer P base) (F_Ratio_top : FldOk K "Ratio" "top") (F_Turn_top : FldOk K "Turn" "top") (F_Ratio_bottom : FldOk K "Ratio" "bottom") (F_Turn_bottom : FldOk K "Turn" "bottom") (K_Ratio_2 : MakOk P w K base 43 "Ratio" p_Ratio_init) (f : Addr) (cdv : Value) (A : Around) (outer : List PySem.Env) (s : Shared) (H : Hp) (E : XK) (hr : EX.Room 44 (A.deeper (envOfC "Ratio.__add__" (defScope s_Ratio_add) s.heap.objs.size f cdv))) : PSs (cxD P w K base N_Ratio_add "Ratio.__add__" s_Ratio_add f cdv A outer s H E) (defBody s_Ratio_add) (LS K (WD E) t_Ratio_add) := by
  have hu := hr.units
  exact dss_one (ds_ret (de_make (k := 43) (md := mkFrz) mkFrz_ok (takes_of rfl rfl rfl rfl) K_Ratio_2 (hr.mono (by decide)) (by rfl) (da_cons (de_op os_add (de_op os_mul (de_fld (.cons F_Ratio_top (.cons F_Turn_top .nil)) (dv 0)) (de_fld (.cons F_Ratio_bottom (.cons F_Turn_bottom .nil)) (dv 1))) (de_op os_mul (de_fld (.cons F_Ratio_top (.cons F_Turn_top .nil)) (dv 1)) (de_fld (.cons F_Ratio_bottom (.cons F_Turn_bottom .nil)) (dv 0)))) (da_cons (de_op os_mul (de_fld (.cons F_Ratio_bottom (.cons F_Turn_bottom .nil)) (dv 0)) (de_fld (.cons F_Ratio_bottom (.cons F_Turn_bottom .nil)) (dv 1))) (da_nil)))))

/-! ### Ratio.__sub__ -/
theorem b_Ratio_sub {P : Program} {w : World} {K : Kx} {base : Heap} (B : Bi K.mg) (SE : Seer P base) (F_Ratio_top : FldOk K "Ratio" "top") (F_Turn_top : FldOk K "Turn" "top") (F_Ratio_bottom : FldOk K "Ratio" "bottom") (F_Turn_bottom : FldOk K "Turn" "bottom") (K_Ratio_2 : MakOk P w K base 43 "Ratio" p_Ratio_init) (f : Addr) (cdv : Value) (A : Around) (outer : List PySem.Env) (s : Shared) (H : Hp) (E : XK) (hr : EX.Room 44 (A.deeper (envOfC "Ratio.__sub__" (defScope s_Ratio_sub) s.heap.objs.size f cdv))) : PSs (cxD P w K base N_Ratio_sub "Ratio.__sub__" s_Ratio_sub f cdv A outer s H E) (defBody s_Ratio_sub) (LS K (WD E) t_Ratio_sub) := by
  have hu := hr.units
  exact dss_one (ds_ret (de_make (k := 43) (md := mkFrz) mkFrz_ok (takes_of rfl rfl rfl rfl) K_Ratio_2 (hr.mono (by decide)) (by rfl) (da_cons (de_op os_sub (de_op os_mul (de_fld (.cons F_Ratio_top (.cons F_Turn_top .nil)) (dv 0)) (de_fld (.cons F_Ratio_bottom (.cons F_Turn_bottom .nil)) (dv 1))) (de_op os_mul (de_fld (.cons F_Ratio_top (.cons F_Turn_top .nil)) (dv 1)) (de_fld (.cons F_Ratio_bottom (.cons F_Turn_bottom .nil)) (dv 0)))) (da_cons (de_op os_mul (de_fld (.cons F_Ratio_bottom (.cons F_Turn_bottom .nil)) (dv 0)) (de_fld (.cons F_Ratio_bottom (.cons F_Turn_bottom .nil)) (dv 1))) (da_nil)))))

/-! ### Ratio.__mul__ -/
theorem b_Ratio_mul {P : Program} {w : World} {K : Kx} {base : Heap} (B : Bi K.mg) (SE : Seer P base) (I_Ratio_int : IsiOk K (.own "Ratio") (.bi "int") false) (I_int_int : IsiOk K (.bi "int") (.bi "int") true) (F_Ratio_top : FldOk K "Ratio" "top") (F_Turn_top : FldOk K "Turn" "top") (F_Ratio_bottom : FldOk K "Ratio" "bottom") (F_Turn_bottom : FldOk K "Turn" "bottom") (K_Ratio_2 : MakOk P w K base 43 "Ratio" p_Ratio_init) (f : Addr) (cdv : Value) (A : Around) (outer : List PySem.Env) (s : Shared) (H : Hp) (E : XK) (hr : EX.Room 44 (A.deeper (envOfC "Ratio.__mul__" (defScope s_Ratio_mul) s.heap.objs.size f cdv))) : PSs (cxD P w K base N_Ratio_mul "Ratio.__mul__" s_Ratio_mul f cdv A outer s H E) (defBody s_Ratio_mul) (LS K (WD E) t_Ratio_mul) := by
  have hu := hr.units
  exact dss_cons (ds_if (dt_val (de_callB (oc_isiC (tab := [(.bi "int", .bi "int", true), (.own "Ratio", .bi "int", false)]) (.cons I_int_int (.cons I_Ratio_int .nil))) (by rfl) B.isinstance PyProof.Rows.boot_isinstance (da_cons (dv 1) (da_cons (de_ty (by rfl) B.int PyProof.Rows.boot_int) (da_nil))))) (dss_one (ds_ret (de_make (k := 43) (md := mkFrz) mkFrz_ok (takes_of rfl rfl rfl rfl) K_Ratio_2 (hr.mono (by decide)) (by rfl) (da_cons (de_op os_mul (de_fld (.cons F_Ratio_top (.cons F_Turn_top .nil)) (dv 0)) (dv 1)) (da_cons (de_fld (.cons F_Ratio_bottom (.cons F_Turn_bottom .nil)) (dv 0)) (da_nil)))))) (dss_nil))
      (dss_one (ds_ret (de_make (k := 43) (md := mkFrz) mkFrz_ok (takes_of rfl rfl rfl rfl) K_Ratio_2 (hr.mono (by decide)) (by rfl) (da_cons (de_op os_mul (de_fld (.cons F_Ratio_top (.cons F_Turn_top .nil)) (dv 0)) (de_fld (.cons F_Ratio_top (.cons F_Turn_top .nil)) (dv 1))) (da_cons (de_op os_mul (de_fld (.cons F_Ratio_bottom (.cons F_Turn_bottom .nil)) (dv 0)) (de_fld (.cons F_Ratio_bottom (.cons F_Turn_bottom .nil)) (dv 1))) (da_nil))))))

/-! ### Ratio.__neg__ -/
theorem b_Ratio_neg {P : Program} {w : World} {K : Kx} {base : Heap} (B : Bi K.mg) (SE : Seer P base) (F_Ratio_top : FldOk K "Ratio" "top") (F_Turn_top : FldOk K "Turn" "top") (F_Ratio_bottom : FldOk K "Ratio" "bottom") (F_Turn_bottom : FldOk K "Turn" "bottom") (K_Ratio_2 : MakOk P w K base 43 "Ratio" p_Ratio_init) (f : Addr) (cdv : Value) (A : Around) (outer : List PySem.Env) (s : Shared) (H : Hp) (E : XK) (hr : EX.Room 44 (A.deeper (envOfC "Ratio.__neg__" (defScope s_Ratio_neg) s.heap.objs.size f cdv))) : PSs (cxD P w K base N_Ratio_neg "Ratio.__neg__" s_Ratio_neg f cdv A outer s H E) (defBody s_Ratio_neg) (LS K (WD E) t_Ratio_neg) := by
  have hu := hr.units
  exact dss_one (ds_ret (de_make (k := 43) (md := mkFrz) mkFrz_ok (takes_of rfl rfl rfl rfl) K_Ratio_2 (hr.mono (by decide)) (by rfl) (da_cons (de_op os_sub (de_int) (de_fld (.cons F_Ratio_top (.cons F_Turn_top .nil)) (dv 0))) (da_cons (de_fld (.cons F_Ratio_bottom (.cons F_Turn_bottom .nil)) (dv 0)) (da_nil)))))

/-! ### Ratio.__eq__ -/
theorem b_Ratio_eq {P : Program} {w : World} {K : Kx} {base : Heap} (B : Bi K.mg) (SE : Seer P base) {C_Ratio : Addr} (mg_Ratio : K.mg "Ratio" = some (.ref C_Ratio)) (I_Ratio_Ratio : IsiOk K (.own "Ratio") (.own "Ratio") true) (I_Turn_Ratio : IsiOk K (.own "Turn") (.own "Ratio") false) (I_tuple_Ratio : IsiOk K (.bi "tuple") (.own "Ratio") false) (I_list_Ratio : IsiOk K (.bi "list") (.own "Ratio") false) (I_str_Ratio : IsiOk K (.bi "str") (.own "Ratio") false) (I_int_Ratio : IsiOk K (.bi "int") (.own "Ratio") false) (I_bool_Ratio : IsiOk K (.bi "bool") (.own "Ratio") false) (I_NoneType_Ratio : IsiOk K (.bi "NoneType") (.own "Ratio") false) (F_Ratio_top : FldOk K "Ratio" "top") (F_Turn_top : FldOk K "Turn" "top") (F_Ratio_bottom : FldOk K "Ratio" "bottom") (F_Turn_bottom : FldOk K "Turn" "bottom") (f : Addr) (cdv : Value) (A : Around) (outer : List PySem.Env) (s : Shared) (H : Hp) (E : XK) (hr : EX.Room 1 (A.deeper (envOfC "Ratio.__eq__" (defScope s_Ratio_eq) s.heap.objs.size f cdv))) : PSs (cxD P w K base N_Ratio_eq "Ratio.__eq__" s_Ratio_eq f cdv A outer s H E) (defBody s_Ratio_eq) (LS K (WD E) t_Ratio_eq) := by
  have hu := hr.units
  exact dss_one (ds_ret (de_and (de_callB (oc_isiC (tab := [(.bi "NoneType", .own "Ratio", false), (.bi "bool", .own "Ratio", false), (.bi "int", .own "Ratio", false), (.bi "str", .own "Ratio", false), (.bi "list", .own "Ratio", false), (.bi "tuple", .own "Ratio", false), (.own "Turn", .own "Ratio", false), (.own "Ratio", .own "Ratio", true)]) (.cons I_NoneType_Ratio (.cons I_bool_Ratio (.cons I_int_Ratio (.cons I_str_Ratio (.cons I_list_Ratio (.cons I_tuple_Ratio (.cons I_Turn_Ratio (.cons I_Ratio_Ratio .nil))))))))) (by rfl) B.isinstance PyProof.Rows.boot_isinstance (da_cons (dv 1) (da_cons (de_cls (by rfl) mg_Ratio) (da_nil)))) (de_and (de_cmp (os_eq hu) (de_fld (.cons F_Ratio_top (.cons F_Turn_top .nil)) (dv 0)) (de_fld (.cons F_Ratio_top (.cons F_Turn_top .nil)) (dv 1)) (nomark _)) (de_one (de_cmp (os_eq hu) (de_fld (.cons F_Ratio_bottom (.cons F_Turn_bottom .nil)) (dv 0)) (de_fld (.cons F_Ratio_bottom (.cons F_Turn_bottom .nil)) (dv 1)) (nomark _))))))

/-! ### Ratio.__bool__ -/
theorem b_Ratio_bool {P : Program} {w : World} {K : Kx} {base : Heap} (B : Bi K.mg) (SE : Seer P base) (F_Ratio_top : FldOk K "Ratio" "top") (F_Turn_top : FldOk K "Turn" "top") (f : Addr) (cdv : Value) (A : Around) (outer : List PySem.Env) (s : Shared) (H : Hp) (E : XK) (hr : EX.Room 1 (A.deeper (envOfC "Ratio.__bool__" (defScope s_Ratio_bool) s.heap.objs.size f cdv))) : PSs (cxD P w K base N_Ratio_bool "Ratio.__bool__" s_Ratio_bool f cdv A outer s H E) (defBody s_Ratio_bool) (LS K (WD E) t_Ratio_bool) := by
  have hu := hr.units
  exact dss_one (ds_ret (de_callTy oc_bool0 (by rfl) B.bool (by decide +kernel) (da_cons (de_cmp (os_ne hu) (de_fld (.cons F_Ratio_top (.cons F_Turn_top .nil)) (dv 0)) (de_int) (nomark _)) (da_nil))))

/-! ### Ratio.under -/
theorem b_Ratio_under {P : Program} {w : World} {K : Kx} {base : Heap} (B : Bi K.mg) (SE : Seer P base) (F_Ratio_top : FldOk K "Ratio" "top") (F_Turn_top : FldOk K "Turn" "top") (F_Ratio_bottom : FldOk K "Ratio" "bottom") (F_Turn_bottom : FldOk K "Turn" "bottom") (f : Addr) (cdv : Value) (A : Around) (outer : List PySem.Env) (s : Shared) (H : Hp) (E : XK) (hr : EX.Room 1 (A.deeper (envOfC "Ratio.under" (defScope s_Ratio_under) s.heap.objs.size f cdv))) : PSs (cxD P w K base N_Ratio_under "Ratio.under" s_Ratio_under f cdv A outer s H E) (defBody s_Ratio_under) (LS K (WD E) t_Ratio_under) := by
  have hu := hr.units
  exact dss_one (ds_ret (de_cmp os_lt (de_op os_mul (de_fld (.cons F_Ratio_top (.cons F_Turn_top .nil)) (dv 0)) (de_fld (.cons F_Ratio_bottom (.cons F_Turn_bottom .nil)) (dv 1))) (de_op os_mul (de_fld (.cons F_Ratio_top (.cons F_Turn_top .nil)) (dv 1)) (de_fld (.cons F_Ratio_bottom (.cons F_Turn_bottom .nil)) (dv 0))) (nomark _)))

/-! ### Ratio.over -/
theorem b_Ratio_over {P : Program} {w : World} {K : Kx} {base : Heap} (B : Bi K.mg) (SE : Seer P base) (F_Ratio_top : FldOk K "Ratio" "top") (F_Turn_top : FldOk K "Turn" "top") (F_Ratio_bottom : FldOk K "Ratio" "bottom") (F_Turn_bottom : FldOk K "Turn" "bottom") (K_Ratio_2 : MakOk P w K base 43 "Ratio" p_Ratio_init) (f : Addr) (cdv : Value) (A : Around) (outer : List PySem.Env) (s : Shared) (H : Hp) (E : XK) (hr : EX.Room 44 (A.deeper (envOfC "Ratio.over" (defScope s_Ratio_over) s.heap.objs.size f cdv))) : PSs (cxD P w K base N_Ratio_over "Ratio.over" s_Ratio_over f cdv A outer s H E) (defBody s_Ratio_over) (LS K (WD E) t_Ratio_over) := by
  have hu := hr.units
  exact dss_one (ds_ret (de_make (k := 43) (md := mkFrz) mkFrz_ok (takes_of rfl rfl rfl rfl) K_Ratio_2 (hr.mono (by decide)) (by rfl) (da_cons (de_op os_mul (de_fld (.cons F_Ratio_top (.cons F_Turn_top .nil)) (dv 0)) (de_fld (.cons F_Ratio_bottom (.cons F_Turn_bottom .nil)) (dv 1))) (da_cons (de_op os_mul (de_fld (.cons F_Ratio_bottom (.cons F_Turn_bottom .nil)) (dv 0)) (de_fld (.cons F_Ratio_top (.cons F_Turn_top .nil)) (dv 1))) (da_nil)))))

/-! ### Ratio.__str__ -/
theorem b_Ratio_str {P : Program} {w : World} {K : Kx} {base : Heap} (B : Bi K.mg) (SE : Seer P base) (F_Ratio_bottom : FldOk K "Ratio" "bottom") (F_Turn_bottom : FldOk K "Turn" "bottom") (F_Ratio_top : FldOk K "Ratio" "top") (F_Turn_top : FldOk K "Turn" "top") (f : Addr) (cdv : Value) (A : Around) (outer : List PySem.Env) (s : Shared) (H : Hp) (E : XK) (hr : EX.Room 1 (A.deeper (envOfC "Ratio.__str__" (defScope s_Ratio_str) s.heap.objs.size f cdv))) : PSs (cxD P w K base N_Ratio_str "Ratio.__str__" s_Ratio_str f cdv A outer s H E) (defBody s_Ratio_str) (LS K (WD E) t_Ratio_str) := by
  have hu := hr.units
  exact dss_cons (ds_if (dt_cmp (os_eq hu) (de_fld (.cons F_Ratio_bottom (.cons F_Turn_bottom .nil)) (dv 0)) (de_int) (nomark _)) (dss_one (ds_ret (de_joined1 (de_fmt (de_fld (.cons F_Ratio_top (.cons F_Turn_top .nil)) (dv 0)))))) (dss_nil))
      (dss_one (ds_ret (de_joined (.cons (de_fmt (de_fld (.cons F_Ratio_top (.cons F_Turn_top .nil)) (dv 0))) (.cons (de_str) (.cons (de_fmt (de_fld (.cons F_Ratio_bottom (.cons F_Turn_bottom .nil)) (dv 0))) .nil))))))

/-! ### Ratio.__repr__ -/
theorem b_Ratio_repr {P : Program} {w : World} {K : Kx} {base : Heap} (B : Bi K.mg) (SE : Seer P base) (F_Ratio_top : FldOk K "Ratio" "top") (F_Turn_top : FldOk K "Turn" "top") (F_Ratio_bottom : FldOk K "Ratio" "bottom") (F_Turn_bottom : FldOk K "Turn" "bottom") (f : Addr) (cdv : Value) (A : Around) (outer : List PySem.Env) (s : Shared) (H : Hp) (E : XK) (hr : L2.Room 1 (A.deeper (envOfC "Ratio.__repr__" (defScope s_Ratio_repr) s.heap.objs.size f cdv))) : PSs (cxD P w K base N_Ratio_repr "Ratio.__repr__" s_Ratio_repr f cdv A outer s H E) (defBody s_Ratio_repr) (LS K (WD E) t_Ratio_repr) := by
  have hu := hr.units
  exact dss_one (ds_ret (de_joined (.cons (de_str) (.cons (de_fmt (de_fld (.cons F_Ratio_top (.cons F_Turn_top .nil)) (dv 0))) (.cons (de_str) (.cons (de_fmt (de_fld (.cons F_Ratio_bottom (.cons F_Turn_bottom .nil)) (dv 0))) (.cons (de_str) .nil)))))))

/-! ### canonical -/
theorem b_canonical {P : Program} {w : World} {K : Kx} {base : Heap} (B : Bi K.mg) (SE : Seer P base)  (f : Addr) (cdv : Value) (A : Around) (outer : List PySem.Env) (s : Shared) (H : Hp) (E : XK) (hr : EX.Room 1 (A.deeper (envOfC "canonical" (defScope s_canonical) s.heap.objs.size f cdv))) : PSs (cxD P w K base N_canonical "canonical" s_canonical f cdv A outer s H E) (defBody s_canonical) (LS K (WD E) t_canonical) := by
  have hu := hr.units
  exact dss_cons (ds_set (i := 1) sc_canonical.nd rfl (by first | exact Or.inl rfl | exact Or.inr rfl) (de_ix os_ix (de_lc (own := [("number", 2)]) (p := .nm 2) rfl sc_canonical.nd (di_tup (dv 0)) (blkOk_by (N := N_canonical) (sc := defScope s_canonical) (by decide +kernel)) (by decide) (fun _ _ _ _ _ => pgn 2 sc_canonical.nd) (fun _ _ _ _ _ => dts_one (dt_cmp (os_ne hu) (dv 2) (de_int) (nomark _))) (fun _ _ _ _ _ => dv 2)) (de_int) (fun _ _ => rfl)))
      (dss_cons (ds_if (dt_cmp os_gt (dv 1) (de_int) (nomark _)) (dss_one (ds_ret (de_tup (da_cons (de_int) (da_cons (dv 0) (da_nil)))))) (dss_nil))
      (dss_one (ds_ret (de_tup (da_cons (de_un os_neg (de_int)) (da_cons (de_callTy oc_tuple (by rfl) B.tuple PyProof.Rows.boot_tuple (da_cons (de_lc (own := [("number", 2)]) (p := .nm 2) rfl sc_canonical.nd (di_tup (dv 0)) (blkOk_by (N := N_canonical) (sc := defScope s_canonical) (by decide +kernel)) (by decide) (fun _ _ _ _ _ => pgn 2 sc_canonical.nd) (fun _ _ _ _ _ => dts_nil) (fun _ _ _ _ _ => de_op os_sub (de_int) (dv 2))) (da_nil))) (da_nil)))))))

/-! ### step_between -/
theorem b_step_between {P : Program} {w : World} {K : Kx} {base : Heap} (B : Bi K.mg) (SE : Seer P base)  (f : Addr) (cdv : Value) (A : Around) (outer : List PySem.Env) (s : Shared) (H : Hp) (E : XK) (hr : EX.Room 1 (A.deeper (envOfC "step_between" (defScope s_step_between) s.heap.objs.size f cdv))) : PSs (cxD P w K base N_step_between "step_between" s_step_between f cdv A outer s H E) (defBody s_step_between) (LS K (WD E) t_step_between) := by
  have hu := hr.units
  exact dss_one (ds_ret (de_callTy oc_tuple (by rfl) B.tuple PyProof.Rows.boot_tuple (da_cons (de_lc (own := [("here", 2), ("there", 3)]) (p := .tu [.nm 2, .nm 3]) rfl sc_step_between.nd (di_zipT (by rfl) B.zip (da_cons (dv 0) (da_cons (dv 1) (da_nil)))) (blkOk_by (N := N_step_between) (sc := defScope s_step_between) (by decide +kernel)) (by decide) (fun _ _ _ _ _ => pg_tup rfl (pgs_cons (pgn 2 sc_step_between.nd) (pgs_cons (pgn 3 sc_step_between.nd) (pgs_nil)))) (fun _ _ _ _ _ => dts_nil) (fun _ _ _ _ _ => de_op os_sub (dv 3) (dv 2))) (da_nil))))

/-! ### Turn.__init__ -/
theorem b_Turn_init {P : Program} {w : World} {K : Kx} {base : Heap} (B : Bi K.mg) (SE : Seer P base) (Dlowest : Def P w K base "lowest" s_lowest 42 ["top", "bottom"] p_lowest) (Dneed_parts : Def P w K base "need_parts" s_need_parts 3 ["top", "bottom"] p_need_parts) (F_Turn_top : FldOk K "Turn" "top") (F_Ratio_top : FldOk K "Ratio" "top") (F_Turn_bottom : FldOk K "Turn" "bottom") (F_Ratio_bottom : FldOk K "Ratio" "bottom") (f : Addr) (cdv : Value) (A : Around) (outer : List PySem.Env) (s : Shared) (H : Hp) (E : XK) (hr : EX.Room 42 (A.deeper (envOfC "Turn.__init__" (defScope s_Turn_init) s.heap.objs.size f cdv))) : PSs (cxD P w K base N_Turn_init "Turn.__init__" s_Turn_init f cdv A outer s H E) (defBody s_Turn_init) (LS K (WD E) t_Turn_init) := by
  have hu := hr.units
  exact dss_cons (ds_expr (de_callD (takes_of rfl rfl rfl rfl) Dneed_parts (hr.mono (by decide)) (by rfl) (da_cons (dv 1) (da_cons (dv 2) (da_nil)))))
      (dss_cons (ds_asg (p := .tu [.nm 3, .nm 4]) (de_callD (takes_of rfl rfl rfl rfl) Dlowest (hr.mono (by decide)) (by rfl) (da_cons (dv 1) (da_cons (dv 2) (da_nil)))) (pg_tup rfl (pgs_cons (pgn 3 sc_Turn_init.nd) (pgs_cons (pgn 4 sc_Turn_init.nd) (pgs_nil)))))
      (dss_one (ds_setF2 rfl (.cons F_Ratio_top (.cons F_Turn_top .nil)) (.cons F_Ratio_bottom (.cons F_Turn_bottom .nil)) (dv 0) (dv 0) (de_tup (da_cons (de_op os_mod (dv 3) (dv 4)) (da_cons (dv 4) (da_nil)))))))

/-! ### _law_pen -/
theorem b__law_pen {P : Program} {w : World} {K : Kx} {base : Heap} (B : Bi K.mg) (SE : Seer P base)  (f : Addr) (cdv : Value) (A : Around) (outer : List PySem.Env) (s : Shared) (H : Hp) (E : XK) (hr : EX.Room 1 (A.deeper (envOfC "_law_pen" (defScope s__law_pen) s.heap.objs.size f cdv))) : PSs (cxD P w K base N__law_pen "_law_pen" s__law_pen f cdv A outer s H E) (defBody s__law_pen) (LS K (WD E) t__law_pen) := by
  have hu := hr.units
  exact dss_one (ds_ret (de_lstO (da_cons (de_callTy oc_list (by rfl) B.list PyProof.Rows.boot_list (da_cons (de_slice os_sl (dv 0) (do_none) (do_some (de_int))) (da_nil))) (da_cons (de_int) (da_cons (de_int) (da_nil))))))

/-! ### _law_draw -/
theorem b__law_draw {P : Program} {w : World} {K : Kx} {base : Heap} (B : Bi K.mg) (SE : Seer P base)  (f : Addr) (cdv : Value) (A : Around) (outer : List PySem.Env) (s : Shared) (H : Hp) (E : XK) (hr : EX.Room 41 (A.deeper (envOfC "_law_draw" (defScope s__law_draw) s.heap.objs.size f cdv))) : PSs (cxD P w K base N__law_draw "_law_draw" s__law_draw f cdv A outer s H E) (defBody s__law_draw) (LS K (WD E) t__law_draw) := by
  have hu := hr.units
  have hpy := SE.py (N := N__law_draw) (mg := K.mg) (H := H) (E := E) (K := K.K) (w := w) (outer := outer) sc__law_draw hr (by decide)
  exact dss_cons (ds_if (dt_cmp os_gt (de_ix os_ix (dv 0) (de_int) (fun _ _ => rfl)) (de_int) (nomark _)) (dss_cons (ds_set (i := 5) sc__law_draw.nd rfl (by first | exact Or.inl rfl | exact Or.inr rfl) (de_op os_mod (de_callTy oc_int (by rfl) B.int PyProof.Rows.boot_int (da_cons (de_ix os_ix (dv 0) (de_int) (fun _ _ => rfl)) (da_nil))) (dv 1)))
      (dss_cons (ds_setIx (de_op (os_fdiv hpy) (de_callTy oc_int (by rfl) B.int PyProof.Rows.boot_int (da_cons (de_ix os_ix (dv 0) (de_int) (fun _ _ => rfl)) (da_nil))) (dv 1)) (dv 0) (de_int) (fun ho hi => pg_sub ho hi set_list))
      (dss_one (ds_ret (dv 5))))) (dss_nil))
      (dss_cons (ds_set (i := 2) sc__law_draw.nd rfl (by first | exact Or.inl rfl | exact Or.inr rfl) (de_ix os_ix (dv 0) (de_int) (fun _ _ => rfl)))
      (dss_cons (ds_setIx (de_op os_add (dv 2) (de_int)) (dv 0) (de_int) (fun ho hi => pg_sub ho hi set_list))
      (dss_cons (ds_set (i := 3) sc__law_draw.nd rfl (by first | exact Or.inl rfl | exact Or.inr rfl) (de_op os_add (de_op os_mul (de_int) (dv 2)) (de_int)))
      (dss_cons (ds_if (dt_cmp (os_ne hu) (de_ix os_ix (dv 0) (de_int) (fun _ _ => rfl)) (de_lst (da_nil)) (nomark _)) (dss_one (ds_set (i := 3) sc__law_draw.nd rfl (by first | exact Or.inl rfl | exact Or.inr rfl) (de_ix os_ix (de_ix os_ix (dv 0) (de_int) (fun _ _ => rfl)) (de_op os_mod (de_callTy oc_int (by rfl) B.int PyProof.Rows.boot_int (da_cons (dv 2) (da_nil))) (de_callB oc_len (by rfl) B.len PySem.boot_len (da_cons (de_ix os_ix (dv 0) (de_int) (fun _ _ => rfl)) (da_nil)))) (fun _ _ => rfl)))) (dss_nil))
      (dss_cons (ds_if ((dw_and (dt_cmp os_lt (dv 2) (de_callB oc_len (by rfl) B.len PySem.boot_len (da_cons (de_ix os_ix (dv 0) (de_int) (fun _ _ => rfl)) (da_nil))) (nomark _)) (dw_and1 (dt_cmp os_ge (de_callB oc_abs (by rfl) B.abs PyProof.Rows.boot_abs (da_cons (dv 3) (da_nil))) (de_op os_pow (de_int) (de_int)) (nomark _)))).pt) (dss_cons (ds_set (i := 6) sc__law_draw.nd rfl (by first | exact Or.inl rfl | exact Or.inr rfl) (de_op os_add (de_op os_mul (de_int) (de_op os_sub (de_callB oc_abs (by rfl) B.abs PyProof.Rows.boot_abs (da_cons (dv 3) (da_nil))) (de_op os_pow (de_int) (de_int)))) (de_callTy oc_int (by rfl) B.int PyProof.Rows.boot_int (da_cons (de_cmp os_lt (dv 3) (de_int) (nomark _)) (da_nil)))))
      (dss_cons (ds_setIx (de_op (os_fdiv hpy) (dv 6) (dv 1)) (dv 0) (de_int) (fun ho hi => pg_sub ho hi set_list))
      (dss_one (ds_ret (de_op os_mod (de_callTy oc_int (by rfl) B.int PyProof.Rows.boot_int (da_cons (dv 6) (da_nil))) (dv 1)))))) (dss_nil))
      (dss_cons (ds_set (i := 4) sc__law_draw.nd rfl (by first | exact Or.inl rfl | exact Or.inr rfl) (de_op os_mod (de_callTy oc_int (by rfl) B.int PyProof.Rows.boot_int (da_cons (de_op os_pow (de_op os_add (de_op os_add (de_op os_add (de_op os_mod (de_callTy oc_int (by rfl) B.int PyProof.Rows.boot_int (da_cons (dv 3) (da_nil))) (de_int)) (de_op os_mul (de_op os_mul (de_int) (dv 2)) (dv 2))) (de_op os_mul (de_int) (dv 2))) (de_int)) (de_int)) (da_nil))) (de_int)))
      (dss_cons (ds_set (i := 4) sc__law_draw.nd rfl (by first | exact Or.inl rfl | exact Or.inr rfl) (de_op os_mod (de_callTy oc_int (by rfl) B.int PyProof.Rows.boot_int (da_cons (de_op os_pow (de_op os_add (de_op os_add (de_op os_mul (dv 4) (de_op os_add (de_op os_mul (de_int) (dv 2)) (de_int))) (de_op os_mul (de_int) (dv 2))) (de_int)) (de_int)) (da_nil))) (de_int)))
      (dss_one (ds_ret (de_op os_mod (de_callTy oc_int (by rfl) B.int PyProof.Rows.boot_int (da_cons (de_op (os_fdiv hpy) (dv 4) (de_int)) (da_nil))) (dv 1)))))))))))

/-! ### _law_value -/
theorem b__law_value {P : Program} {w : World} {K : Kx} {base : Heap} (B : Bi K.mg) (SE : Seer P base) (D_law_draw : Def P w K base "_law_draw" s__law_draw 42 ["pen", "bound"] p__law_draw) (f : Addr) (cdv : Value) (A : Around) (outer : List PySem.Env) (s : Shared) (H : Hp) (E : XK) (hr : EX.Room 42 (A.deeper (envOfC "_law_value" (defScope s__law_value) s.heap.objs.size f cdv))) : PSs (cxD P w K base N__law_value "_law_value" s__law_value f cdv A outer s H E) (defBody s__law_value) (LS K (WD E) t__law_value) := by
  have hu := hr.units
  exact dss_cons (ds_set (i := 1) sc__law_value.nd rfl (by first | exact Or.inl rfl | exact Or.inr rfl) (de_lst (da_cons (de_non) (da_cons (de_bl) (da_cons (de_bl) (da_cons (de_int) (da_cons (de_int) (da_cons (de_un os_neg (de_int)) (da_cons (de_op os_pow (de_int) (de_int)) (da_cons (de_str) (da_cons (de_str) (da_cons (de_str) (da_cons (de_str) (da_cons (de_tup (da_nil)) (da_cons (de_tup (da_cons (de_int) (da_cons (de_int) (da_nil)))) (da_cons (de_lst (da_nil)) (da_cons (de_lst (da_cons (de_int) (da_nil))) (da_cons (de_dict0) (da_nil)))))))))))))))))))
      (dss_cons (ds_set (i := 1) sc__law_value.nd rfl (by first | exact Or.inl rfl | exact Or.inr rfl) (de_op os_add (dv 1) (de_lst (da_cons (de_dict1 (de_int)) (da_cons (de_str) (da_cons (de_tup (da_cons (de_str) (da_nil))) (da_cons (de_lst (da_cons (de_lst (da_cons (de_non) (da_nil))) (da_nil))) (da_nil))))))))
      (dss_one (ds_ret (de_ix os_ix (dv 1) (de_callD (takes_of rfl rfl rfl rfl) D_law_draw (hr.mono (by decide)) (by rfl) (da_cons (dv 0) (da_cons (de_callB oc_len (by rfl) B.len PySem.boot_len (da_cons (dv 1) (da_nil))) (da_nil)))) (fun _ _ => rfl)))))

/-! ### _law_classes -/
theorem b__law_classes {P : Program} {w : World} {K : Kx} {base : Heap} (B : Bi K.mg) (SE : Seer P base) {C_InvalidRatio : Addr} (mg_InvalidRatio : K.mg "InvalidRatio" = some (.ref C_InvalidRatio)) (IE : IsiTab K tabE) {C_InvalidArray : Addr} (mg_InvalidArray : K.mg "InvalidArray" = some (.ref C_InvalidArray)) {C_InvalidReading : Addr} (mg_InvalidReading : K.mg "InvalidReading" = some (.ref C_InvalidReading)) {C_InvalidSum : Addr} (mg_InvalidSum : K.mg "InvalidSum" = some (.ref C_InvalidSum)) {C_InvalidTimes : Addr} (mg_InvalidTimes : K.mg "InvalidTimes" = some (.ref C_InvalidTimes)) {C_InvalidTable : Addr} (mg_InvalidTable : K.mg "InvalidTable" = some (.ref C_InvalidTable)) {C_NoSuchSetting : Addr} (mg_NoSuchSetting : K.mg "NoSuchSetting" = some (.ref C_NoSuchSetting)) {C_Free : Addr} (mg_Free : K.mg "Free" = some (.ref C_Free)) {C_InvalidLimit : Addr} (mg_InvalidLimit : K.mg "InvalidLimit" = some (.ref C_InvalidLimit)) {C_UnknownName : Addr} (mg_UnknownName : K.mg "UnknownName" = some (.ref C_UnknownName)) {C_NothingToUndo : Addr} (mg_NothingToUndo : K.mg "NothingToUndo" = some (.ref C_NothingToUndo)) {C_UnknownCommand : Addr} (mg_UnknownCommand : K.mg "UnknownCommand" = some (.ref C_UnknownCommand)) {C_NoStation : Addr} (mg_NoStation : K.mg "NoStation" = some (.ref C_NoStation)) {C_NoReading : Addr} (mg_NoReading : K.mg "NoReading" = some (.ref C_NoReading)) {C_NoFit : Addr} (mg_NoFit : K.mg "NoFit" = some (.ref C_NoFit)) {C_TooMany : Addr} (mg_TooMany : K.mg "TooMany" = some (.ref C_TooMany)) {C_Full : Addr} (mg_Full : K.mg "Full" = some (.ref C_Full)) {C_InvalidText : Addr} (mg_InvalidText : K.mg "InvalidText" = some (.ref C_InvalidText)) (f : Addr) (cdv : Value) (A : Around) (outer : List PySem.Env) (s : Shared) (H : Hp) (E : XK) (hr : EX.Room 1 (A.deeper (envOfC "_law_classes" (defScope s__law_classes) s.heap.objs.size f cdv))) : PSs (cxD P w K base N__law_classes "_law_classes" s__law_classes f cdv A outer s H E) (defBody s__law_classes) (LS K (WD E) t__law_classes) := by
  have hu := hr.units
  exact dss_cons (ds_set (i := 1) sc__law_classes.nd rfl (by first | exact Or.inl rfl | exact Or.inr rfl) (de_lst (da_cons (de_callB (oc_isiC (tab := tabE) IE) (by rfl) B.isinstance PyProof.Rows.boot_isinstance (da_cons (dv 0) (da_cons (de_cls (by rfl) mg_InvalidRatio) (da_nil)))) (da_cons (de_callB (oc_isiC (tab := tabE) IE) (by rfl) B.isinstance PyProof.Rows.boot_isinstance (da_cons (dv 0) (da_cons (de_cls (by rfl) mg_InvalidArray) (da_nil)))) (da_cons (de_callB (oc_isiC (tab := tabE) IE) (by rfl) B.isinstance PyProof.Rows.boot_isinstance (da_cons (dv 0) (da_cons (de_cls (by rfl) mg_InvalidReading) (da_nil)))) (da_nil))))))
      (dss_cons (ds_set (i := 1) sc__law_classes.nd rfl (by first | exact Or.inl rfl | exact Or.inr rfl) (de_op os_add (dv 1) (de_lst (da_cons (de_callB (oc_isiC (tab := tabE) IE) (by rfl) B.isinstance PyProof.Rows.boot_isinstance (da_cons (dv 0) (da_cons (de_cls (by rfl) mg_InvalidSum) (da_nil)))) (da_cons (de_callB (oc_isiC (tab := tabE) IE) (by rfl) B.isinstance PyProof.Rows.boot_isinstance (da_cons (dv 0) (da_cons (de_cls (by rfl) mg_InvalidTimes) (da_nil)))) (da_cons (de_callB (oc_isiC (tab := tabE) IE) (by rfl) B.isinstance PyProof.Rows.boot_isinstance (da_cons (dv 0) (da_cons (de_cls (by rfl) mg_InvalidTable) (da_nil)))) (da_nil)))))))
      (dss_cons (ds_set (i := 1) sc__law_classes.nd rfl (by first | exact Or.inl rfl | exact Or.inr rfl) (de_op os_add (dv 1) (de_lst (da_cons (de_callB (oc_isiC (tab := tabE) IE) (by rfl) B.isinstance PyProof.Rows.boot_isinstance (da_cons (dv 0) (da_cons (de_cls (by rfl) mg_NoSuchSetting) (da_nil)))) (da_cons (de_callB (oc_isiC (tab := tabE) IE) (by rfl) B.isinstance PyProof.Rows.boot_isinstance (da_cons (dv 0) (da_cons (de_cls (by rfl) mg_Free) (da_nil)))) (da_cons (de_callB (oc_isiC (tab := tabE) IE) (by rfl) B.isinstance PyProof.Rows.boot_isinstance (da_cons (dv 0) (da_cons (de_cls (by rfl) mg_InvalidLimit) (da_nil)))) (da_nil)))))))
      (dss_cons (ds_set (i := 1) sc__law_classes.nd rfl (by first | exact Or.inl rfl | exact Or.inr rfl) (de_op os_add (dv 1) (de_lst (da_cons (de_callB (oc_isiC (tab := tabE) IE) (by rfl) B.isinstance PyProof.Rows.boot_isinstance (da_cons (dv 0) (da_cons (de_cls (by rfl) mg_UnknownName) (da_nil)))) (da_cons (de_callB (oc_isiC (tab := tabE) IE) (by rfl) B.isinstance PyProof.Rows.boot_isinstance (da_cons (dv 0) (da_cons (de_cls (by rfl) mg_NothingToUndo) (da_nil)))) (da_nil))))))
      (dss_cons (ds_set (i := 1) sc__law_classes.nd rfl (by first | exact Or.inl rfl | exact Or.inr rfl) (de_op os_add (dv 1) (de_lst (da_cons (de_callB (oc_isiC (tab := tabE) IE) (by rfl) B.isinstance PyProof.Rows.boot_isinstance (da_cons (dv 0) (da_cons (de_cls (by rfl) mg_UnknownCommand) (da_nil)))) (da_cons (de_callB (oc_isiC (tab := tabE) IE) (by rfl) B.isinstance PyProof.Rows.boot_isinstance (da_cons (dv 0) (da_cons (de_cls (by rfl) mg_NoStation) (da_nil)))) (da_cons (de_callB (oc_isiC (tab := tabE) IE) (by rfl) B.isinstance PyProof.Rows.boot_isinstance (da_cons (dv 0) (da_cons (de_cls (by rfl) mg_NoReading) (da_nil)))) (da_nil)))))))
      (dss_cons (ds_set (i := 1) sc__law_classes.nd rfl (by first | exact Or.inl rfl | exact Or.inr rfl) (de_op os_add (dv 1) (de_lst (da_cons (de_callB (oc_isiC (tab := tabE) IE) (by rfl) B.isinstance PyProof.Rows.boot_isinstance (da_cons (dv 0) (da_cons (de_cls (by rfl) mg_NoFit) (da_nil)))) (da_cons (de_callB (oc_isiC (tab := tabE) IE) (by rfl) B.isinstance PyProof.Rows.boot_isinstance (da_cons (dv 0) (da_cons (de_cls (by rfl) mg_TooMany) (da_nil)))) (da_cons (de_callB (oc_isiC (tab := tabE) IE) (by rfl) B.isinstance PyProof.Rows.boot_isinstance (da_cons (dv 0) (da_cons (de_cls (by rfl) mg_Full) (da_nil)))) (da_nil)))))))
      (dss_one (ds_ret (de_op os_add (dv 1) (de_lst (da_cons (de_callB (oc_isiC (tab := tabE) IE) (by rfl) B.isinstance PyProof.Rows.boot_isinstance (da_cons (dv 0) (da_cons (de_cls (by rfl) mg_InvalidText) (da_nil)))) (da_nil)))))))))))

/-! ### _law_plain -/
theorem b__law_plain {P : Program} {w : World} {K : Kx} {base : Heap} (B : Bi K.mg) (SE : Seer P base) (X_InvalidRatio : ExcP K "InvalidRatio") (X_InvalidArray : ExcP K "InvalidArray") (X_InvalidReading : ExcP K "InvalidReading") (X_InvalidSum : ExcP K "InvalidSum") (X_InvalidTimes : ExcP K "InvalidTimes") (X_InvalidTable : ExcP K "InvalidTable") (X_NoSuchSetting : ExcP K "NoSuchSetting") (X_Free : ExcP K "Free") (X_InvalidLimit : ExcP K "InvalidLimit") (X_UnknownName : ExcP K "UnknownName") (X_NothingToUndo : ExcP K "NothingToUndo") (X_UnknownCommand : ExcP K "UnknownCommand") (f : Addr) (cdv : Value) (A : Around) (outer : List PySem.Env) (s : Shared) (H : Hp) (E : XK) (hr : EX.Room 1 (A.deeper (envOfC "_law_plain" (defScope s__law_plain) s.heap.objs.size f cdv))) : PSs (cxD P w K base N__law_plain "_law_plain" s__law_plain f cdv A outer s H E) (defBody s__law_plain) (LS K (WD E) t__law_plain) := by
  have hu := hr.units
  exact dss_cons (ds_set (i := 0) sc__law_plain.nd rfl (by first | exact Or.inl rfl | exact Or.inr rfl) (de_lst (da_cons (de_exc0 X_InvalidRatio (by rfl)) (da_cons (de_exc0 X_InvalidArray (by rfl)) (da_cons (de_exc0 X_InvalidReading (by rfl)) (da_cons (de_exc0 X_InvalidSum (by rfl)) (da_cons (de_exc0 X_InvalidTimes (by rfl)) (da_cons (de_exc0 X_InvalidTable (by rfl)) (da_nil)))))))))
      (dss_one (ds_ret (de_op os_add (dv 0) (de_lst (da_cons (de_exc0 X_NoSuchSetting (by rfl)) (da_cons (de_exc0 X_Free (by rfl)) (da_cons (de_exc0 X_InvalidLimit (by rfl)) (da_cons (de_exc0 X_UnknownName (by rfl)) (da_cons (de_exc0 X_NothingToUndo (by rfl)) (da_cons (de_exc0 X_UnknownCommand (by rfl)) (da_nil)))))))))))

/-! ### _law_by_place -/
theorem b__law_by_place {P : Program} {w : World} {K : Kx} {base : Heap} (B : Bi K.mg) (SE : Seer P base) (XS_NoStation : ExcS P K "NoStation" "name" "name") (XS_NoReading : ExcS P K "NoReading" "number" "number") (XS_NoFit : ExcS P K "NoFit" "times" "times") (XS_TooMany : ExcS P K "TooMany" "many" "many") (XS_Full : ExcS P K "Full" "most" "most") (XS_InvalidText : ExcS P K "InvalidText" "line" "line") (f : Addr) (cdv : Value) (A : Around) (outer : List PySem.Env) (s : Shared) (H : Hp) (E : XK) (hr : EX.Room 2 (A.deeper (envOfC "_law_by_place" (defScope s__law_by_place) s.heap.objs.size f cdv))) : PSs (cxD P w K base N__law_by_place "_law_by_place" s__law_by_place f cdv A outer s H E) (defBody s__law_by_place) (LS K (WD E) t__law_by_place) := by
  have hu := hr.units
  exact dss_one (ds_ret (de_lst (da_cons (de_excS (k := 0) XS_NoStation (hr.mono (by decide)) (by rfl) (dv 0)) (da_cons (de_excS (k := 0) XS_NoReading (hr.mono (by decide)) (by rfl) (dv 0)) (da_cons (de_excS (k := 0) XS_NoFit (hr.mono (by decide)) (by rfl) (dv 1)) (da_cons (de_excS (k := 0) XS_TooMany (hr.mono (by decide)) (by rfl) (dv 2)) (da_cons (de_excS (k := 0) XS_Full (hr.mono (by decide)) (by rfl) (dv 2)) (da_cons (de_excS (k := 0) XS_InvalidText (hr.mono (by decide)) (by rfl) (dv 2)) (da_nil)))))))))

/-! ### _law_by_name -/
theorem b__law_by_name {P : Program} {w : World} {K : Kx} {base : Heap} (B : Bi K.mg) (SE : Seer P base) (XS_NoStation : ExcS P K "NoStation" "name" "name") (XS_NoReading : ExcS P K "NoReading" "number" "number") (XS_NoFit : ExcS P K "NoFit" "times" "times") (XS_TooMany : ExcS P K "TooMany" "many" "many") (XS_Full : ExcS P K "Full" "most" "most") (XS_InvalidText : ExcS P K "InvalidText" "line" "line") (f : Addr) (cdv : Value) (A : Around) (outer : List PySem.Env) (s : Shared) (H : Hp) (E : XK) (hr : EX.Room 2 (A.deeper (envOfC "_law_by_name" (defScope s__law_by_name) s.heap.objs.size f cdv))) : PSs (cxD P w K base N__law_by_name "_law_by_name" s__law_by_name f cdv A outer s H E) (defBody s__law_by_name) (LS K (WD E) t__law_by_name) := by
  have hu := hr.units
  exact dss_cons (ds_set (i := 3) sc__law_by_name.nd rfl (by first | exact Or.inl rfl | exact Or.inr rfl) (de_lst (da_cons (de_excSK (k := 0) XS_NoStation (hr.mono (by decide)) (by rfl) (dv 0)) (da_cons (de_excSK (k := 0) XS_NoReading (hr.mono (by decide)) (by rfl) (dv 0)) (da_cons (de_excSK (k := 0) XS_NoFit (hr.mono (by decide)) (by rfl) (dv 1)) (da_cons (de_excSK (k := 0) XS_TooMany (hr.mono (by decide)) (by rfl) (dv 2)) (da_nil)))))))
      (dss_one (ds_ret (de_op os_add (dv 3) (de_lst (da_cons (de_excSK (k := 0) XS_Full (hr.mono (by decide)) (by rfl) (dv 2)) (da_cons (de_excSK (k := 0) XS_InvalidText (hr.mono (by decide)) (by rfl) (dv 2)) (da_nil)))))))

/-! ### _law_fields -/
theorem b__law_fields {P : Program} {w : World} {K : Kx} {base : Heap} (B : Bi K.mg) (SE : Seer P base) (XF_NoStation_name : FldEOk K "NoStation" "name") (XF_NoReading_number : FldEOk K "NoReading" "number") (XF_NoFit_times : FldEOk K "NoFit" "times") (XF_TooMany_many : FldEOk K "TooMany" "many") (XF_Full_most : FldEOk K "Full" "most") (XF_InvalidText_line : FldEOk K "InvalidText" "line") (f : Addr) (cdv : Value) (A : Around) (outer : List PySem.Env) (s : Shared) (H : Hp) (E : XK) (hr : EX.Room 1 (A.deeper (envOfC "_law_fields" (defScope s__law_fields) s.heap.objs.size f cdv))) : PSs (cxD P w K base N__law_fields "_law_fields" s__law_fields f cdv A outer s H E) (defBody s__law_fields) (LS K (WD E) t__law_fields) := by
  have hu := hr.units
  exact dss_one (ds_ret (de_lst (da_cons (de_fldE (.cons XF_NoStation_name .nil) (de_ix os_ix (dv 0) (de_int) (fun _ _ => rfl))) (da_cons (de_fldE (.cons XF_NoReading_number .nil) (de_ix os_ix (dv 0) (de_int) (fun _ _ => rfl))) (da_cons (de_fldE (.cons XF_NoFit_times .nil) (de_ix os_ix (dv 0) (de_int) (fun _ _ => rfl))) (da_cons (de_fldE (.cons XF_TooMany_many .nil) (de_ix os_ix (dv 0) (de_int) (fun _ _ => rfl))) (da_cons (de_fldE (.cons XF_Full_most .nil) (de_ix os_ix (dv 0) (de_int) (fun _ _ => rfl))) (da_cons (de_fldE (.cons XF_InvalidText_line .nil) (de_ix os_ix (dv 0) (de_int) (fun _ _ => rfl))) (da_nil)))))))))

/-! ### _law_apart -/
theorem b__law_apart {P : Program} {w : World} {K : Kx} {base : Heap} (B : Bi K.mg) (SE : Seer P base) (D_law_classes : Def P w K base "_law_classes" s__law_classes 2 ["error"] p__law_classes) {C_TurnsError : Addr} (mg_TurnsError : K.mg "TurnsError" = some (.ref C_TurnsError)) (IE : IsiTab K tabE) (Z_ValueError : K.mg "ValueError" = none) (f : Addr) (cdv : Value) (A : Around) (outer : List PySem.Env) (s : Shared) (H : Hp) (E : XK) (hr : EX.Room 2 (A.deeper (envOfC "_law_apart" (defScope s__law_apart) s.heap.objs.size f cdv))) : PSs (cxD P w K base N__law_apart "_law_apart" s__law_apart f cdv A outer s H E) (defBody s__law_apart) (LS K (WD E) t__law_apart) := by
  have hu := hr.units
  exact dss_cons (ds_for (p := .tu [.nm 1, .nm 2]) (passes_of rfl) rfl (di_enum (by rfl) B.enumerate (da_cons (dv 0) (da_nil))) (pg_tup rfl (pgs_cons (pgn 1 sc__law_apart.nd) (pgs_cons (pgn 2 sc__law_apart.nd) (pgs_nil)))) (dss_cons (ds_if ((dw_or (dt_not (dt_val (de_callB (oc_isiC (tab := tabE) IE) (by rfl) B.isinstance PyProof.Rows.boot_isinstance (da_cons (dv 2) (da_cons (de_cls (by rfl) mg_TurnsError) (da_nil)))))) (dw_or1 (dt_not (dt_val (de_callB (oc_isiC (tab := tabE) IE) (by rfl) B.isinstance PyProof.Rows.boot_isinstance (da_cons (dv 2) (da_cons (de_ty (by rfl) Z_ValueError (by decide +kernel)) (da_nil)))))))).pt) (dss_one (ds_ret (de_bl))) (dss_nil))
      (dss_one (ds_if (dt_cmp (os_ne hu) (de_callD (takes_of rfl rfl rfl rfl) D_law_classes (hr.mono (by decide)) (by rfl) (da_cons (dv 2) (da_nil))) (de_lc (own := [("k", 3)]) (p := .nm 3) rfl sc__law_apart.nd (di_rng1 (by rfl) B.range (da_cons (de_int) (da_nil))) (blkOk_by (N := N__law_apart) (sc := defScope s__law_apart) (by decide +kernel)) (by decide) (fun _ _ _ _ _ => pgn 3 sc__law_apart.nd) (fun _ _ _ _ _ => dts_nil) (fun _ _ _ _ _ => de_cmp (os_eq hu) (dv 3) (dv 1) (nomark _))) (nomark _)) (dss_one (ds_ret (de_bl))) (dss_nil)))))
      (dss_one (ds_ret (de_bl)))

/-! ### _law_ask_one -/
theorem b__law_ask_one {P : Program} {w : World} {K : Kx} {base : Heap} (B : Bi K.mg) (SE : Seer P base) (D_law_apart : Def P w K base "_law_apart" s__law_apart 3 ["some"] p__law_apart) (D_law_by_name : Def P w K base "_law_by_name" s__law_by_name 3 ["one", "row", "count"] p__law_by_name) (D_law_by_place : Def P w K base "_law_by_place" s__law_by_place 3 ["one", "row", "count"] p__law_by_place) (D_law_draw : Def P w K base "_law_draw" s__law_draw 42 ["pen", "bound"] p__law_draw) (D_law_fields : Def P w K base "_law_fields" s__law_fields 2 ["some"] p__law_fields) (D_law_pen : Def P w K base "_law_pen" s__law_pen 2 ["script"] p__law_pen) (D_law_plain : Def P w K base "_law_plain" s__law_plain 2 [] p__law_plain) (D_law_value : Def P w K base "_law_value" s__law_value 43 ["pen"] p__law_value) (X_TurnsError : ExcP K "TurnsError") (Z_ValueError : K.mg "ValueError" = none) (IE : IsiTab K tabE) (f : Addr) (cdv : Value) (A : Around) (outer : List PySem.Env) (s : Shared) (H : Hp) (E : XK) (hr : EX.Room 43 (A.deeper (envOfC "_law_ask_one" (defScope s__law_ask_one) s.heap.objs.size f cdv))) : PSs (cxD P w K base N__law_ask_one "_law_ask_one" s__law_ask_one f cdv A outer s H E) (defBody s__law_ask_one) (LS K (WD E) t__law_ask_one) := by
  have hu := hr.units
  exact dss_cons (ds_set (i := 1) sc__law_ask_one.nd rfl (by first | exact Or.inl rfl | exact Or.inr rfl) (de_callD (takes_of rfl rfl rfl rfl) D_law_pen (hr.mono (by decide)) (by rfl) (da_cons (dv 0) (da_nil))))
      (dss_cons (ds_for (p := .nm 2) (passes_of rfl) rfl (di_rng1 (by rfl) B.range (da_cons (de_int) (da_nil))) (pgn 2 sc__law_ask_one.nd) (dss_cons (ds_set (i := 3) sc__law_ask_one.nd rfl (by first | exact Or.inl rfl | exact Or.inr rfl) (de_callD (takes_of rfl rfl rfl rfl) D_law_value (hr.mono (by decide)) (by rfl) (da_cons (dv 1) (da_nil))))
      (dss_cons (ds_setLc (i := 4) (own := [("k", 7)]) (p := .nm 7) rfl sc__law_ask_one.nd rfl rfl (sw_true rfl rfl rfl (by decide +kernel)) (di_rng1 (by rfl) B.range (da_cons (de_callD (takes_of rfl rfl rfl rfl) D_law_draw (hr.mono (by decide)) (by rfl) (da_cons (dv 1) (da_cons (de_int) (da_nil)))) (da_nil))) (blkOk_by (N := N__law_ask_one) (sc := defScope s__law_ask_one) (by decide +kernel)) (by decide) (fun _ _ _ _ _ => pgn 7 sc__law_ask_one.nd) (fun _ _ _ _ _ => dts_nil) (fun _ _ _ _ _ => de_op os_sub (de_callD takesW0 D_law_draw (hr.mono (by decide)) (by rfl) (da_cons (dv 1) (da_cons (de_int) (da_nil)))) (de_int)))
      (dss_cons (ds_set (i := 5) sc__law_ask_one.nd rfl (by first | exact Or.inl rfl | exact Or.inr rfl) (de_ix os_ix (de_lst (da_cons (de_int) (da_cons (de_int) (da_cons (de_int) (da_cons (de_int) (da_cons (de_op os_pow (de_int) (de_int)) (da_cons (de_op os_pow (de_int) (de_int)) (da_nil)))))))) (de_callD (takes_of rfl rfl rfl rfl) D_law_draw (hr.mono (by decide)) (by rfl) (da_cons (dv 1) (da_cons (de_int) (da_nil)))) (fun _ _ => rfl)))
      (dss_one (ds_for (p := .nm 6) (passes_of rfl) rfl (di_tup (de_tup (da_cons (de_callD (takes_of rfl rfl rfl rfl) D_law_by_place (hr.mono (by decide)) (by rfl) (da_cons (dv 3) (da_cons (dv 4) (da_cons (dv 5) (da_nil))))) (da_cons (de_callD (takes_of rfl rfl rfl rfl) D_law_by_name (hr.mono (by decide)) (by rfl) (da_cons (dv 3) (da_cons (dv 4) (da_cons (dv 5) (da_nil))))) (da_nil))))) (pgn 6 sc__law_ask_one.nd) (dss_cons (ds_if (dt_cmp (os_neS (os_ne hu)) (de_callB (oc_repr0 (k := 0) (hr.mono (by decide)) SE.ns) (by rfl) B.repr (by decide +kernel) (da_cons (de_callD (takes_of rfl rfl rfl rfl) D_law_fields (hr.mono (by decide)) (by rfl) (da_cons (dv 6) (da_nil))) (da_nil))) (de_callB (oc_repr0 (k := 0) (hr.mono (by decide)) SE.ns) (by rfl) B.repr (by decide +kernel) (da_cons (de_lst (da_cons (dv 3) (da_cons (dv 3) (da_cons (dv 4) (da_cons (dv 5) (da_cons (dv 5) (da_cons (dv 5) (da_nil)))))))) (da_nil))) (nomark _)) (dss_one (ds_ret (de_bl))) (dss_nil))
      (dss_one (ds_if (dt_not (dt_val (de_callD (takes_of rfl rfl rfl rfl) D_law_apart (hr.mono (by decide)) (by rfl) (da_cons (de_op os_add (de_callD0 D_law_plain (hr.mono (by decide)) (by rfl)) (dv 6)) (da_nil))))) (dss_one (ds_ret (de_bl))) (dss_nil))))))))))
      (dss_one (ds_ret (de_callB (oc_isiC (tab := tabE) IE) (by rfl) B.isinstance PyProof.Rows.boot_isinstance (da_cons (de_exc0 X_TurnsError (by rfl)) (da_cons (de_ty (by rfl) Z_ValueError (by decide +kernel)) (da_nil)))))))

/-! ### _law_place -/
theorem b__law_place {P : Program} {w : World} {K : Kx} {base : Heap} (B : Bi K.mg) (SE : Seer P base) (D_law_draw : Def P w K base "_law_draw" s__law_draw 42 ["pen", "bound"] p__law_draw) (f : Addr) (cdv : Value) (A : Around) (outer : List PySem.Env) (s : Shared) (H : Hp) (E : XK) (hr : EX.Room 42 (A.deeper (envOfC "_law_place" (defScope s__law_place) s.heap.objs.size f cdv))) : PSs (cxD P w K base N__law_place "_law_place" s__law_place f cdv A outer s H E) (defBody s__law_place) (LS K (WD E) t__law_place) := by
  have hu := hr.units
  exact dss_cons (ds_set (i := 2) sc__law_place.nd rfl (by first | exact Or.inl rfl | exact Or.inr rfl) (de_ix os_ix (de_lst (da_cons (de_int) (da_cons (de_int) (da_cons (de_int) (da_nil))))) (de_callD (takes_of rfl rfl rfl rfl) D_law_draw (hr.mono (by decide)) (by rfl) (da_cons (dv 0) (da_cons (de_int) (da_nil)))) (fun _ _ => rfl)))
      (dss_one (ds_ret (de_callTy oc_tuple (by rfl) B.tuple PyProof.Rows.boot_tuple (da_cons (de_lc (own := [("k", 3)]) (p := .nm 3) rfl sc__law_place.nd (di_rng1 (by rfl) B.range (da_cons (dv 1) (da_nil))) (blkOk_by (N := N__law_place) (sc := defScope s__law_place) (by decide +kernel)) (by decide) (fun _ _ _ _ _ => pgn 3 sc__law_place.nd) (fun _ _ _ _ _ => dts_nil) (fun _ _ _ _ _ => de_ix os_ix (de_lst (da_cons (de_int) (da_cons (dv 2) (da_cons (de_op os_sub (de_int) (dv 2)) (da_cons (de_op os_sub (de_callD takesW0 D_law_draw (hr.mono (by decide)) (by rfl) (da_cons (dv 0) (da_cons (de_op os_add (de_op os_mul (de_int) (dv 2)) (de_int)) (da_nil)))) (dv 2)) (da_nil)))))) (de_callD takesW0 D_law_draw (hr.mono (by decide)) (by rfl) (da_cons (dv 0) (da_cons (de_int) (da_nil)))) (fun _ _ => rfl))) (da_nil)))))

/-! ### _law_pair -/
theorem b__law_pair {P : Program} {w : World} {K : Kx} {base : Heap} (B : Bi K.mg) (SE : Seer P base) (D_law_draw : Def P w K base "_law_draw" s__law_draw 42 ["pen", "bound"] p__law_draw) (D_law_place : Def P w K base "_law_place" s__law_place 43 ["pen", "d"] p__law_place) (f : Addr) (cdv : Value) (A : Around) (outer : List PySem.Env) (s : Shared) (H : Hp) (E : XK) (hr : EX.Room 43 (A.deeper (envOfC "_law_pair" (defScope s__law_pair) s.heap.objs.size f cdv))) : PSs (cxD P w K base N__law_pair "_law_pair" s__law_pair f cdv A outer s H E) (defBody s__law_pair) (LS K (WD E) t__law_pair) := by
  have hu := hr.units
  exact dss_cons (ds_set (i := 1) sc__law_pair.nd rfl (by first | exact Or.inl rfl | exact Or.inr rfl) (de_op os_add (de_int) (de_callD (takes_of rfl rfl rfl rfl) D_law_draw (hr.mono (by decide)) (by rfl) (da_cons (dv 0) (da_cons (de_int) (da_nil))))))
      (dss_cons (ds_set (i := 2) sc__law_pair.nd rfl (by first | exact Or.inl rfl | exact Or.inr rfl) (de_callD (takes_of rfl rfl rfl rfl) D_law_place (hr.mono (by decide)) (by rfl) (da_cons (dv 0) (da_cons (dv 1) (da_nil)))))
      (dss_cons (ds_set (i := 3) sc__law_pair.nd rfl (by first | exact Or.inl rfl | exact Or.inr rfl) (de_callD (takes_of rfl rfl rfl rfl) D_law_place (hr.mono (by decide)) (by rfl) (da_cons (dv 0) (da_cons (dv 1) (da_nil)))))
      (dss_cons (ds_if (dt_cmp (os_eq hu) (de_callD (takes_of rfl rfl rfl rfl) D_law_draw (hr.mono (by decide)) (by rfl) (da_cons (dv 0) (da_cons (de_int) (da_nil)))) (de_int) (nomark _)) (dss_one (ds_set (i := 3) sc__law_pair.nd rfl (by first | exact Or.inl rfl | exact Or.inr rfl) (de_op (os_addT os_add) (de_slice os_slT (dv 2) (do_none) (do_some (de_un os_neg (de_int)))) (de_slice os_slT (dv 3) (do_some (de_un os_neg (de_int))) (do_none))))) (dss_nil))
      (dss_cons (ds_if (dt_cmp (os_eq hu) (dv 2) (dv 3) (nomark _)) (dss_one (ds_set (i := 3) sc__law_pair.nd rfl (by first | exact Or.inl rfl | exact Or.inr rfl) (de_op (os_addT os_add) (de_slice os_slT (dv 2) (do_none) (do_some (de_un os_neg (de_int)))) (de_tup (da_cons (de_ix os_ix (de_lst (da_cons (de_op os_add (de_ix os_ix (dv 2) (de_un os_neg (de_int)) (fun _ _ => rfl)) (de_int)) (da_cons (de_un os_neg (de_int)) (da_nil)))) (de_callTy oc_int (by rfl) B.int PyProof.Rows.boot_int (da_cons (de_cmp (os_eq hu) (de_ix os_ix (dv 2) (de_un os_neg (de_int)) (fun _ _ => rfl)) (de_int) (nomark _)) (da_nil))) (fun _ _ => rfl)) (da_nil)))))) (dss_nil))
      (dss_one (ds_ret (de_tup (da_cons (dv 2) (da_cons (dv 3) (da_nil))))))))))

/-! ### _law_turned -/
theorem b__law_turned {P : Program} {w : World} {K : Kx} {base : Heap} (B : Bi K.mg) (SE : Seer P base)  (f : Addr) (cdv : Value) (A : Around) (outer : List PySem.Env) (s : Shared) (H : Hp) (E : XK) (hr : EX.Room 1 (A.deeper (envOfC "_law_turned" (defScope s__law_turned) s.heap.objs.size f cdv))) : PSs (cxD P w K base N__law_turned "_law_turned" s__law_turned f cdv A outer s H E) (defBody s__law_turned) (LS K (WD E) t__law_turned) := by
  have hu := hr.units
  exact dss_cons (ds_set (i := 1) sc__law_turned.nd rfl (by first | exact Or.inl rfl | exact Or.inr rfl) (de_ix os_ix (de_lc (own := [("number", 2)]) (p := .nm 2) rfl sc__law_turned.nd (di_tup (dv 0)) (blkOk_by (N := N__law_turned) (sc := defScope s__law_turned) (by decide +kernel)) (by decide) (fun _ _ _ _ _ => pgn 2 sc__law_turned.nd) (fun _ _ _ _ _ => dts_one (dt_cmp (os_ne hu) (dv 2) (de_int) (nomark _))) (fun _ _ _ _ _ => dv 2)) (de_int) (fun _ _ => rfl)))
      (dss_cons (ds_if (dt_cmp os_gt (dv 1) (de_int) (nomark _)) (dss_one (ds_ret (de_tup (da_cons (de_int) (da_cons (dv 0) (da_nil)))))) (dss_nil))
      (dss_one (ds_ret (de_tup (da_cons (de_un os_neg (de_int)) (da_cons (de_callTy oc_tuple (by rfl) B.tuple PyProof.Rows.boot_tuple (da_cons (de_lc (own := [("number", 2)]) (p := .nm 2) rfl sc__law_turned.nd (di_tup (dv 0)) (blkOk_by (N := N__law_turned) (sc := defScope s__law_turned) (by decide +kernel)) (by decide) (fun _ _ _ _ _ => pgn 2 sc__law_turned.nd) (fun _ _ _ _ _ => dts_nil) (fun _ _ _ _ _ => de_op os_sub (de_int) (dv 2))) (da_nil))) (da_nil)))))))

/-! ### _law_between -/
theorem b__law_between {P : Program} {w : World} {K : Kx} {base : Heap} (B : Bi K.mg) (SE : Seer P base)  (f : Addr) (cdv : Value) (A : Around) (outer : List PySem.Env) (s : Shared) (H : Hp) (E : XK) (hr : EX.Room 1 (A.deeper (envOfC "_law_between" (defScope s__law_between) s.heap.objs.size f cdv))) : PSs (cxD P w K base N__law_between "_law_between" s__law_between f cdv A outer s H E) (defBody s__law_between) (LS K (WD E) t__law_between) := by
  have hu := hr.units
  exact dss_one (ds_ret (de_callTy oc_tuple (by rfl) B.tuple PyProof.Rows.boot_tuple (da_cons (de_lc (own := [("k", 2)]) (p := .nm 2) rfl sc__law_between.nd (di_rng1 (by rfl) B.range (da_cons (de_callB oc_len (by rfl) B.len PySem.boot_len (da_cons (dv 0) (da_nil))) (da_nil))) (blkOk_by (N := N__law_between) (sc := defScope s__law_between) (by decide +kernel)) (by decide) (fun _ _ _ _ _ => pgn 2 sc__law_between.nd) (fun _ _ _ _ _ => dts_nil) (fun _ _ _ _ _ => de_op os_sub (de_ix os_ix (dv 1) (dv 2) (fun _ _ => rfl)) (de_ix os_ix (dv 0) (dv 2) (fun _ _ => rfl)))) (da_nil))))

/-! ### _law_is_step -/
theorem b__law_is_step {P : Program} {w : World} {K : Kx} {base : Heap} (B : Bi K.mg) (SE : Seer P base)  (f : Addr) (cdv : Value) (A : Around) (outer : List PySem.Env) (s : Shared) (H : Hp) (E : XK) (hr : EX.Room 1 (A.deeper (envOfC "_law_is_step" (defScope s__law_is_step) s.heap.objs.size f cdv))) : PSs (cxD P w K base N__law_is_step "_law_is_step" s__law_is_step f cdv A outer s H E) (defBody s__law_is_step) (LS K (WD E) t__law_is_step) := by
  have hu := hr.units
  exact dss_cons (ds_if ((dw_or (dt_not (dt_val (de_callB oc_isi (by rfl) B.isinstance PyProof.Rows.boot_isinstance (da_cons (dv 0) (da_cons (de_ty (by rfl) B.tuple PyProof.Rows.boot_tuple) (da_nil)))))) (dw_or1 (dt_cmp (os_ne hu) (dv 0) (dv 1) (nomark _)))).pt) (dss_one (ds_ret (de_bl))) (dss_nil))
      (dss_one (ds_ret (de_cmp (os_eq hu) (de_lc (own := [("number", 2)]) (p := .nm 2) rfl sc__law_is_step.nd (di_tup (dv 0)) (blkOk_by (N := N__law_is_step) (sc := defScope s__law_is_step) (by decide +kernel)) (by decide) (fun _ _ _ _ _ => pgn 2 sc__law_is_step.nd) (fun _ _ _ _ _ => dts_one ((dw_or (dt_not (dt_val (de_callB oc_isi (by rfl) B.isinstance PyProof.Rows.boot_isinstance (da_cons (dv 2) (da_cons (de_ty (by rfl) B.int PyProof.Rows.boot_int) (da_nil)))))) (dw_or1 (dt_val (de_callB oc_isi (by rfl) B.isinstance PyProof.Rows.boot_isinstance (da_cons (dv 2) (da_cons (de_ty (by rfl) B.bool (by decide +kernel)) (da_nil))))))).pt)) (fun _ _ _ _ _ => dv 2)) (de_lst (da_nil)) (nomark _))))

/-! ### _law_right -/
theorem b__law_right {P : Program} {w : World} {K : Kx} {base : Heap} (B : Bi K.mg) (SE : Seer P base) (D_law_between : Def P w K base "_law_between" s__law_between 2 ["here", "there"] p__law_between) (D_law_is_step : Def P w K base "_law_is_step" s__law_is_step 2 ["told", "due"] p__law_is_step) (D_law_turned : Def P w K base "_law_turned" s__law_turned 2 ["leap"] p__law_turned) (Dcanonical : Def P w K base "canonical" s_canonical 2 ["step"] p_canonical) (Dstep_between : Def P w K base "step_between" s_step_between 2 ["place", "other"] p_step_between) (f : Addr) (cdv : Value) (A : Around) (outer : List PySem.Env) (s : Shared) (H : Hp) (E : XK) (hr : EX.Room 2 (A.deeper (envOfC "_law_right" (defScope s__law_right) s.heap.objs.size f cdv))) : PSs (cxD P w K base N__law_right "_law_right" s__law_right f cdv A outer s H E) (defBody s__law_right) (LS K (WD E) t__law_right) := by
  have hu := hr.units
  exact dss_cons (ds_set (i := 2) sc__law_right.nd rfl (by first | exact Or.inl rfl | exact Or.inr rfl) (de_callD (takes_of rfl rfl rfl rfl) D_law_between (hr.mono (by decide)) (by rfl) (da_cons (dv 0) (da_cons (dv 1) (da_nil)))))
      (dss_cons (ds_if (dt_not (dt_val (de_callD (takes_of rfl rfl rfl rfl) D_law_is_step (hr.mono (by decide)) (by rfl) (da_cons (de_callD (takes_of rfl rfl rfl rfl) Dstep_between (hr.mono (by decide)) (by rfl) (da_cons (dv 0) (da_cons (dv 1) (da_nil)))) (da_cons (dv 2) (da_nil)))))) (dss_one (ds_ret (de_bl))) (dss_nil))
      (dss_cons (ds_set (i := 3) sc__law_right.nd rfl (by first | exact Or.inl rfl | exact Or.inr rfl) (de_callDK (ks := ["other", "place"]) (ord := [1, 0]) Dstep_between (hr.mono (by decide)) (by rfl) (fun ws hl => match ws, hl with | [_, _], _ => fun _ _ _ _ _ _ => rfl) (dk_cons (dv 0) (dk_cons (dv 1) (dk_nil)))))
      (dss_cons (ds_if (dt_not (dt_val (de_callD (takes_of rfl rfl rfl rfl) D_law_is_step (hr.mono (by decide)) (by rfl) (da_cons (dv 3) (da_cons (de_callTy oc_tuple (by rfl) B.tuple PyProof.Rows.boot_tuple (da_cons (de_lc (own := [("number", 7)]) (p := .nm 7) rfl sc__law_right.nd (di_tup (dv 2)) (blkOk_by (N := N__law_right) (sc := defScope s__law_right) (by decide +kernel)) (by decide) (fun _ _ _ _ _ => pgn 7 sc__law_right.nd) (fun _ _ _ _ _ => dts_nil) (fun _ _ _ _ _ => de_op os_sub (de_int) (dv 7))) (da_nil))) (da_nil)))))) (dss_one (ds_ret (de_bl))) (dss_nil))
      (dss_cons (ds_asg (p := .tu [.nm 5, .nm 6]) (de_callD (takes_of rfl rfl rfl rfl) D_law_turned (hr.mono (by decide)) (by rfl) (da_cons (dv 2) (da_nil))) (pg_tup rfl (pgs_cons (pgn 5 sc__law_right.nd) (pgs_cons (pgn 6 sc__law_right.nd) (pgs_nil)))))
      (dss_cons (ds_set (i := 4) sc__law_right.nd rfl (by first | exact Or.inl rfl | exact Or.inr rfl) (de_callD (takes_of rfl rfl rfl rfl) Dcanonical (hr.mono (by decide)) (by rfl) (da_cons (dv 2) (da_nil))))
      (dss_cons (ds_if ((dw_or (dt_not (dt_val (de_callB oc_isi (by rfl) B.isinstance PyProof.Rows.boot_isinstance (da_cons (dv 4) (da_cons (de_ty (by rfl) B.tuple PyProof.Rows.boot_tuple) (da_nil)))))) (dw_or (dt_cmp (os_ne hu) (de_callB oc_len (by rfl) B.len PySem.boot_len (da_cons (dv 4) (da_nil))) (de_int) (nomark _)) (dw_or (dt_cmp (os_neS (os_ne hu)) (de_callB (oc_repr0 (k := 0) (hr.mono (by decide)) SE.ns) (by rfl) B.repr (by decide +kernel) (da_cons (de_ix os_ix (dv 4) (de_int) (fun _ _ => rfl)) (da_nil))) (de_callB (oc_repr0 (k := 0) (hr.mono (by decide)) SE.ns) (by rfl) B.repr (by decide +kernel) (da_cons (dv 5) (da_nil))) (nomark _)) (dw_or1 (dt_not (dt_val (de_callD (takes_of rfl rfl rfl rfl) D_law_is_step (hr.mono (by decide)) (by rfl) (da_cons (de_ix os_ix (dv 4) (de_int) (fun _ _ => rfl)) (da_cons (dv 6) (da_nil)))))))))).pt) (dss_one (ds_ret (de_bl))) (dss_nil))
      (dss_one (ds_ret (de_and (de_cmp (os_eq hu) (de_callDK (ks := ["step"]) (ord := [0]) Dcanonical (hr.mono (by decide)) (by rfl) (fun ws hl => match ws, hl with | [_], _ => fun _ _ _ _ _ _ => rfl) (dk_cons (dv 3) (dk_nil))) (de_tup (da_cons (de_op os_sub (de_int) (dv 5)) (da_cons (dv 6) (da_nil)))) (nomark _)) (de_one (de_cmp (os_eq hu) (de_callD (takes_of rfl rfl rfl rfl) Dcanonical (hr.mono (by decide)) (by rfl) (da_cons (dv 6) (da_nil))) (de_tup (da_cons (de_int) (da_cons (dv 6) (da_nil)))) (nomark _))))))))))))

/-! ### _law_ask_two -/
theorem b__law_ask_two {P : Program} {w : World} {K : Kx} {base : Heap} (B : Bi K.mg) (SE : Seer P base) (D_law_pair : Def P w K base "_law_pair" s__law_pair 44 ["pen"] p__law_pair) (D_law_pen : Def P w K base "_law_pen" s__law_pen 2 ["script"] p__law_pen) (D_law_right : Def P w K base "_law_right" s__law_right 3 ["here", "there"] p__law_right) (f : Addr) (cdv : Value) (A : Around) (outer : List PySem.Env) (s : Shared) (H : Hp) (E : XK) (hr : EX.Room 44 (A.deeper (envOfC "_law_ask_two" (defScope s__law_ask_two) s.heap.objs.size f cdv))) : PSs (cxD P w K base N__law_ask_two "_law_ask_two" s__law_ask_two f cdv A outer s H E) (defBody s__law_ask_two) (LS K (WD E) t__law_ask_two) := by
  have hu := hr.units
  exact dss_cons (ds_set (i := 1) sc__law_ask_two.nd rfl (by first | exact Or.inl rfl | exact Or.inr rfl) (de_callD (takes_of rfl rfl rfl rfl) D_law_pen (hr.mono (by decide)) (by rfl) (da_cons (dv 0) (da_nil))))
      (dss_cons (ds_for (p := .nm 2) (passes_of rfl) rfl (di_rng1 (by rfl) B.range (da_cons (de_int) (da_nil))) (pgn 2 sc__law_ask_two.nd) (dss_cons (ds_asg (p := .tu [.nm 3, .nm 4]) (de_callD (takes_of rfl rfl rfl rfl) D_law_pair (hr.mono (by decide)) (by rfl) (da_cons (dv 1) (da_nil))) (pg_tup rfl (pgs_cons (pgn 3 sc__law_ask_two.nd) (pgs_cons (pgn 4 sc__law_ask_two.nd) (pgs_nil)))))
      (dss_one (ds_if (dt_not (dt_val (de_callD (takes_of rfl rfl rfl rfl) D_law_right (hr.mono (by decide)) (by rfl) (da_cons (dv 3) (da_cons (dv 4) (da_nil)))))) (dss_one (ds_ret (de_bl))) (dss_nil)))))
      (dss_one (ds_ret (de_bl))))

/-! ### _law_int -/
theorem b__law_int {P : Program} {w : World} {K : Kx} {base : Heap} (B : Bi K.mg) (SE : Seer P base) (D_law_draw : Def P w K base "_law_draw" s__law_draw 42 ["pen", "bound"] p__law_draw) (f : Addr) (cdv : Value) (A : Around) (outer : List PySem.Env) (s : Shared) (H : Hp) (E : XK) (hr : EX.Room 42 (A.deeper (envOfC "_law_int" (defScope s__law_int) s.heap.objs.size f cdv))) : PSs (cxD P w K base N__law_int "_law_int" s__law_int f cdv A outer s H E) (defBody s__law_int) (LS K (WD E) t__law_int) := by
  have hu := hr.units
  exact dss_cons (ds_set (i := 2) sc__law_int.nd rfl (by first | exact Or.inl rfl | exact Or.inr rfl) (de_callD (takes_of rfl rfl rfl rfl) D_law_draw (hr.mono (by decide)) (by rfl) (da_cons (dv 0) (da_cons (de_int) (da_nil)))))
      (dss_cons (ds_if (dt_cmp (os_eq hu) (dv 2) (de_int) (nomark _)) (dss_one (ds_ret (de_op os_sub (de_callD (takes_of rfl rfl rfl rfl) D_law_draw (hr.mono (by decide)) (by rfl) (da_cons (dv 0) (da_cons (de_int) (da_nil)))) (de_int)))) (dss_nil))
      (dss_cons (ds_if (dt_cmp (os_eq hu) (dv 2) (de_int) (nomark _)) (dss_one (ds_ret (de_ix os_ix (de_lst (da_cons (de_int) (da_cons (de_int) (da_cons (de_un os_neg (de_int)) (da_cons (de_op os_pow (de_int) (de_int)) (da_cons (de_un os_neg (de_op os_pow (de_int) (de_int))) (da_cons (de_int) (da_cons (de_op os_pow (de_int) (de_int)) (da_cons (de_un os_neg (de_op os_sub (de_op os_pow (de_int) (de_int)) (de_int))) (da_nil)))))))))) (de_callD (takes_of rfl rfl rfl rfl) D_law_draw (hr.mono (by decide)) (by rfl) (da_cons (dv 0) (da_cons (de_int) (da_nil)))) (fun _ _ => rfl)))) (dss_nil))
      (dss_cons (ds_set (i := 3) sc__law_int.nd rfl (by first | exact Or.inl rfl | exact Or.inr rfl) (de_int))
      (dss_cons (ds_for (p := .nm 4) (passes_of rfl) rfl (di_rng1 (by rfl) B.range (da_cons (de_op os_add (de_int) (de_callD (takes_of rfl rfl rfl rfl) D_law_draw (hr.mono (by decide)) (by rfl) (da_cons (dv 0) (da_cons (dv 1) (da_nil))))) (da_nil))) (pgn 4 sc__law_int.nd) (dss_one (ds_set (i := 3) sc__law_int.nd rfl (by first | exact Or.inl rfl | exact Or.inr rfl) (de_op os_add (de_op os_mul (de_int) (dv 3)) (de_callD (takes_of rfl rfl rfl rfl) D_law_draw (hr.mono (by decide)) (by rfl) (da_cons (dv 0) (da_cons (de_int) (da_nil))))))))
      (dss_one (ds_ret (de_op os_mul (dv 3) (de_op os_sub (de_int) (de_op os_mul (de_int) (de_callD (takes_of rfl rfl rfl rfl) D_law_draw (hr.mono (by decide)) (by rfl) (da_cons (dv 0) (da_cons (de_int) (da_nil)))))))))))))

/-! ### _law_divisor -/
theorem b__law_divisor {P : Program} {w : World} {K : Kx} {base : Heap} (B : Bi K.mg) (SE : Seer P base)  (f : Addr) (cdv : Value) (A : Around) (outer : List PySem.Env) (s : Shared) (H : Hp) (E : XK) (hr : EX.Room 1 (A.deeper (envOfC "_law_divisor" (defScope s__law_divisor) s.heap.objs.size f cdv))) : PSs (cxD P w K base N__law_divisor "_law_divisor" s__law_divisor f cdv A outer s H E) (defBody s__law_divisor) (LS K (WD E) t__law_divisor) := by
  have hu := hr.units
  exact dss_cons (ds_par (i := 0) (j := 1) rfl sc__law_divisor.nd rfl rfl (by decide) rfl rfl (da_cons (de_callB oc_abs (by rfl) B.abs PyProof.Rows.boot_abs (da_cons (dv 0) (da_nil))) (da_cons (de_callB oc_abs (by rfl) B.abs PyProof.Rows.boot_abs (da_cons (dv 1) (da_nil))) (da_nil))) rfl)
      (dss_cons (ds_while (passes_of rfl) (dt_cmp (os_ne hu) (dv 1) (de_int) (nomark _)) (dss_one (ds_par (i := 0) (j := 1) rfl sc__law_divisor.nd rfl rfl (by decide) rfl rfl (da_cons (dv 1) (da_cons (de_op os_mod (de_callTy oc_int (by rfl) B.int PyProof.Rows.boot_int (da_cons (dv 0) (da_nil))) (dv 1)) (da_nil))) rfl)))
      (dss_one (ds_ret (dv 0))))

/-! ### _law_refused -/
theorem b__law_refused {P : Program} {w : World} {K : Kx} {base : Heap} (B : Bi K.mg) (SE : Seer P base) {C_TurnsError : Addr} (mg_TurnsError : K.mg "TurnsError" = some (.ref C_TurnsError)) (XM_TurnsError_InvalidRatio : ExmOk K "TurnsError" "InvalidRatio" true) (K_Ratio_2 : MakOk P w K base 43 "Ratio" p_Ratio_init) {C_InvalidRatio : Addr} (mg_InvalidRatio : K.mg "InvalidRatio" = some (.ref C_InvalidRatio)) (I_InvalidRatio_InvalidRatio : IsiOk K (.own "InvalidRatio") (.own "InvalidRatio") true) (f : Addr) (cdv : Value) (A : Around) (outer : List PySem.Env) (s : Shared) (H : Hp) (E : XK) (hr : EX.Room 44 (A.deeper (envOfC "_law_refused" (defScope s__law_refused) s.heap.objs.size f cdv))) : PSs (cxD P w K base N__law_refused "_law_refused" s__law_refused f cdv A outer s H E) (defBody s__law_refused) (LS K (WD E) t__law_refused) := by
  have hu := hr.units
  exact dss_cons (ds_set (i := 2) sc__law_refused.nd rfl (by first | exact Or.inl rfl | exact Or.inr rfl) (de_non))
      (dss_cons (ds_tryAs rfl rfl sc__law_refused.nd rfl rfl (by rfl) mg_TurnsError (by decide) (takes_of rfl rfl rfl rfl) (.cons XM_TurnsError_InvalidRatio .nil) (fun W pn xe htk hps => dss_one (ds_expr (de_make (k := 43) (md := mkFrz) mkFrz_ok htk K_Ratio_2 (hr.mono (by decide)) (by rfl) (da_cons (dv 0) (da_cons (dv 1) (da_nil)))))) (fun a pn => dss_one (ds_set (i := 2) sc__law_refused.nd rfl (by first | exact Or.inl rfl | exact Or.inr rfl) (dv 3))))
      (dss_one (ds_ret (de_callB (oc_isiC (tab := [(.own "InvalidRatio", .own "InvalidRatio", true)]) (.cons I_InvalidRatio_InvalidRatio .nil)) (by rfl) B.isinstance PyProof.Rows.boot_isinstance (da_cons (dv 2) (da_cons (de_cls (by rfl) mg_InvalidRatio) (da_nil)))))))

/-! ### _law_is_whole -/
theorem b__law_is_whole {P : Program} {w : World} {K : Kx} {base : Heap} (B : Bi K.mg) (SE : Seer P base)  (f : Addr) (cdv : Value) (A : Around) (outer : List PySem.Env) (s : Shared) (H : Hp) (E : XK) (hr : EX.Room 1 (A.deeper (envOfC "_law_is_whole" (defScope s__law_is_whole) s.heap.objs.size f cdv))) : PSs (cxD P w K base N__law_is_whole "_law_is_whole" s__law_is_whole f cdv A outer s H E) (defBody s__law_is_whole) (LS K (WD E) t__law_is_whole) := by
  have hu := hr.units
  exact dss_one (ds_ret (de_and (de_callB oc_isi (by rfl) B.isinstance PyProof.Rows.boot_isinstance (da_cons (dv 0) (da_cons (de_ty (by rfl) B.int PyProof.Rows.boot_int) (da_nil)))) (de_one (de_not (de_callB oc_isi (by rfl) B.isinstance PyProof.Rows.boot_isinstance (da_cons (dv 0) (da_cons (de_ty (by rfl) B.bool (by decide +kernel)) (da_nil))))))))

/-! ### _law_made_right -/
theorem b__law_made_right {P : Program} {w : World} {K : Kx} {base : Heap} (B : Bi K.mg) (SE : Seer P base) (D_law_divisor : Def P w K base "_law_divisor" s__law_divisor 2 ["one", "other"] p__law_divisor) (D_law_is_whole : Def P w K base "_law_is_whole" s__law_is_whole 2 ["value"] p__law_is_whole) (K_Ratio_2 : MakOk P w K base 43 "Ratio" p_Ratio_init) (F_Ratio_top : FldOk K "Ratio" "top") (F_Turn_top : FldOk K "Turn" "top") (F_Ratio_bottom : FldOk K "Ratio" "bottom") (F_Turn_bottom : FldOk K "Turn" "bottom") (U_Ratio___str__ : UnOk P w K base 2 "__str__" "Ratio" p_Ratio_str) (U_Ratio___repr__ : UnOk P w K base 2 "__repr__" "Ratio" p_Ratio_repr) (KK_Ratio : MakKOk P w K base 43 "Ratio" 0 ["bottom", "top"] (permS [0, 2, 1] p_Ratio_init)) (U_Ratio___bool__ : UnOk P w K base 2 "__bool__" "Ratio" p_Ratio_bool) (K_Ratio_1 : MakOk P w K base 43 "Ratio" (dfl [.int 1] p_Ratio_init)) (f : Addr) (cdv : Value) (A : Around) (outer : List PySem.Env) (s : Shared) (H : Hp) (E : XK) (hr : EX.Room 44 (A.deeper (envOfC "_law_made_right" (defScope s__law_made_right) s.heap.objs.size f cdv))) : PSs (cxD P w K base N__law_made_right "_law_made_right" s__law_made_right f cdv A outer s H E) (defBody s__law_made_right) (LS K (WD E) t__law_made_right) := by
  have hu := hr.units
  exact dss_cons (ds_set (i := 2) sc__law_made_right.nd rfl (by first | exact Or.inl rfl | exact Or.inr rfl) (de_make (k := 43) (md := mkFrz) mkFrz_ok (takes_of rfl rfl rfl rfl) K_Ratio_2 (hr.mono (by decide)) (by rfl) (da_cons (dv 0) (da_cons (dv 1) (da_nil)))))
      (dss_cons (ds_if ((dw_or (dt_not (dt_val (de_callD (takes_of rfl rfl rfl rfl) D_law_is_whole (hr.mono (by decide)) (by rfl) (da_cons (de_fld (.cons F_Ratio_top (.cons F_Turn_top .nil)) (dv 2)) (da_nil))))) (dw_or (dt_not (dt_val (de_callD (takes_of rfl rfl rfl rfl) D_law_is_whole (hr.mono (by decide)) (by rfl) (da_cons (de_fld (.cons F_Ratio_bottom (.cons F_Turn_bottom .nil)) (dv 2)) (da_nil))))) (dw_or1 (dt_cmp os_lt (de_fld (.cons F_Ratio_bottom (.cons F_Turn_bottom .nil)) (dv 2)) (de_int) (nomark _))))).pt) (dss_one (ds_ret (de_bl))) (dss_nil))
      (dss_cons (ds_if ((dw_or (dt_cmp (os_ne hu) (de_op os_mul (de_fld (.cons F_Ratio_top (.cons F_Turn_top .nil)) (dv 2)) (dv 1)) (de_op os_mul (dv 0) (de_fld (.cons F_Ratio_bottom (.cons F_Turn_bottom .nil)) (dv 2))) (nomark _)) (dw_or1 (dt_cmp (os_ne hu) (de_callD (takes_of rfl rfl rfl rfl) D_law_divisor (hr.mono (by decide)) (by rfl) (da_cons (de_fld (.cons F_Ratio_top (.cons F_Turn_top .nil)) (dv 2)) (da_cons (de_fld (.cons F_Ratio_bottom (.cons F_Turn_bottom .nil)) (dv 2)) (da_nil)))) (de_int) (nomark _)))).pt) (dss_one (ds_ret (de_bl))) (dss_nil))
      (dss_cons (ds_set (i := 3) sc__law_made_right.nd rfl (by first | exact Or.inl rfl | exact Or.inr rfl) (de_callTy oc_str0 (by rfl) B.str (by decide +kernel) (da_cons (de_fld (.cons F_Ratio_top (.cons F_Turn_top .nil)) (dv 2)) (da_nil))))
      (dss_cons (ds_if (dt_cmp (os_ne hu) (de_fld (.cons F_Ratio_bottom (.cons F_Turn_bottom .nil)) (dv 2)) (de_int) (nomark _)) (dss_one (ds_set (i := 3) sc__law_made_right.nd rfl (by first | exact Or.inl rfl | exact Or.inr rfl) (de_op os_add (de_op os_add (dv 3) (de_str)) (de_callTy oc_str0 (by rfl) B.str (by decide +kernel) (da_cons (de_fld (.cons F_Ratio_bottom (.cons F_Turn_bottom .nil)) (dv 2)) (da_nil)))))) (dss_nil))
      (dss_cons (ds_if ((dw_or (dt_cmp (os_neS (os_ne hu)) (de_callTy (oc_strI (k := 2) (tab := [("Ratio", p_Ratio_str)]) (.cons U_Ratio___str__ .nil) (hr.mono (by decide)) oc_str0) (by rfl) B.str (by decide +kernel) (da_cons (dv 2) (da_nil))) (dv 3) (nomark _)) (dw_or1 (dt_cmp (os_neS (os_ne hu)) (de_callB (oc_reprI (k := 2) (tab := [("Ratio", p_Ratio_repr)]) (.cons U_Ratio___repr__ .nil) (hr.mono (by decide)) (oc_repr0 (k := 0) (hr.mono (by decide)) SE.ns)) (by rfl) B.repr (by decide +kernel) (da_cons (dv 2) (da_nil))) (de_op os_add (de_op os_add (de_op os_add (de_op os_add (de_str) (de_callTy oc_str0 (by rfl) B.str (by decide +kernel) (da_cons (de_fld (.cons F_Ratio_top (.cons F_Turn_top .nil)) (dv 2)) (da_nil)))) (de_str)) (de_callTy oc_str0 (by rfl) B.str (by decide +kernel) (da_cons (de_fld (.cons F_Ratio_bottom (.cons F_Turn_bottom .nil)) (dv 2)) (da_nil)))) (de_str)) (nomark _)))).pt) (dss_one (ds_ret (de_bl))) (dss_nil))
      (dss_cons (ds_set (i := 4) sc__law_made_right.nd rfl (by first | exact Or.inl rfl | exact Or.inr rfl) (de_makeK0 (k := 43) (md := mkFrz) (ks := ["bottom", "top"]) mkFrz_ok (takes_of rfl rfl rfl rfl) KK_Ratio (hr.mono (by decide)) (by rfl) (dk_cons (dv 1) (dk_cons (dv 0) (dk_nil)))))
      (dss_one (ds_ret (de_and (de_cmp (os_eq hu) (de_callTy (oc_boolI (k := 2) (tab := [("Ratio", p_Ratio_bool)]) (.cons U_Ratio___bool__ .nil) (hr.mono (by decide)) oc_bool0) (by rfl) B.bool (by decide +kernel) (da_cons (dv 2) (da_nil))) (de_cmp (os_ne hu) (dv 0) (de_int) (nomark _)) (nomark _)) (de_and (de_cmp (os_eqS (os_eq hu)) (de_callB (oc_reprI (k := 2) (tab := [("Ratio", p_Ratio_repr)]) (.cons U_Ratio___repr__ .nil) (hr.mono (by decide)) (oc_repr0 (k := 0) (hr.mono (by decide)) SE.ns)) (by rfl) B.repr (by decide +kernel) (da_cons (dv 4) (da_nil))) (de_callB (oc_reprI (k := 2) (tab := [("Ratio", p_Ratio_repr)]) (.cons U_Ratio___repr__ .nil) (hr.mono (by decide)) (oc_repr0 (k := 0) (hr.mono (by decide)) SE.ns)) (by rfl) B.repr (by decide +kernel) (da_cons (dv 2) (da_nil))) (nomark _)) (de_one (de_cmp (os_eqS (os_eq hu)) (de_callB (oc_reprI (k := 2) (tab := [("Ratio", p_Ratio_repr)]) (.cons U_Ratio___repr__ .nil) (hr.mono (by decide)) (oc_repr0 (k := 0) (hr.mono (by decide)) SE.ns)) (by rfl) B.repr (by decide +kernel) (da_cons (de_make (k := 43) (md := mkFrz) mkFrz_ok (takes_of rfl rfl rfl rfl) K_Ratio_1 (hr.mono (by decide)) (by rfl) (da_cons (dv 0) (da_nil))) (da_nil))) (de_callB (oc_reprI (k := 2) (tab := [("Ratio", p_Ratio_repr)]) (.cons U_Ratio___repr__ .nil) (hr.mono (by decide)) (oc_repr0 (k := 0) (hr.mono (by decide)) SE.ns)) (by rfl) B.repr (by decide +kernel) (da_cons (de_make (k := 43) (md := mkFrz) mkFrz_ok (takes_of rfl rfl rfl rfl) K_Ratio_2 (hr.mono (by decide)) (by rfl) (da_cons (dv 0) (da_cons (de_int) (da_nil)))) (da_nil))) (nomark _)))))))))))))

/-! ### _law_equal_right -/
theorem b__law_equal_right {P : Program} {w : World} {K : Kx} {base : Heap} (B : Bi K.mg) (SE : Seer P base) (D_law_draw : Def P w K base "_law_draw" s__law_draw 42 ["pen", "bound"] p__law_draw) (D_law_int : Def P w K base "_law_int" s__law_int 43 ["pen", "groups"] p__law_int) (K_Ratio_2 : MakOk P w K base 43 "Ratio" p_Ratio_init) (E_Ratio_Ratio : EqOk P w K base 2 "Ratio" (.own "Ratio") p_Ratio_eq) (U_Ratio___str__ : UnOk P w K base 2 "__str__" "Ratio" p_Ratio_str) (F_Ratio_top : FldOk K "Ratio" "top") (F_Turn_top : FldOk K "Turn" "top") (F_Ratio_bottom : FldOk K "Ratio" "bottom") (F_Turn_bottom : FldOk K "Turn" "bottom") (K_Turn_2 : MakOk P w K base 43 "Turn" p_Turn_init) (E_Ratio_Turn : EqOk P w K base 2 "Ratio" (.own "Turn") p_Ratio_eq) (E_Ratio_tuple : EqOk P w K base 2 "Ratio" (.bi "tuple") p_Ratio_eq) (E_Ratio_list : EqOk P w K base 2 "Ratio" (.bi "list") p_Ratio_eq) (E_Ratio_str : EqOk P w K base 2 "Ratio" (.bi "str") p_Ratio_eq) (E_Ratio_int : EqOk P w K base 2 "Ratio" (.bi "int") p_Ratio_eq) (E_Ratio_bool : EqOk P w K base 2 "Ratio" (.bi "bool") p_Ratio_eq) (E_Ratio_NoneType : EqOk P w K base 2 "Ratio" (.bi "NoneType") p_Ratio_eq) (f : Addr) (cdv : Value) (A : Around) (outer : List PySem.Env) (s : Shared) (H : Hp) (E : XK) (hr : EX.Room 44 (A.deeper (envOfC "_law_equal_right" (defScope s__law_equal_right) s.heap.objs.size f cdv))) : PSs (cxD P w K base N__law_equal_right "_law_equal_right" s__law_equal_right f cdv A outer s H E) (defBody s__law_equal_right) (LS K (WD E) t__law_equal_right) := by
  have hu := hr.units
  exact dss_cons (ds_set (i := 3) sc__law_equal_right.nd rfl (by first | exact Or.inl rfl | exact Or.inr rfl) (de_make (k := 43) (md := mkFrz) mkFrz_ok (takes_of rfl rfl rfl rfl) K_Ratio_2 (hr.mono (by decide)) (by rfl) (da_cons (dv 1) (da_cons (dv 2) (da_nil)))))
      (dss_cons (ds_set (i := 4) sc__law_equal_right.nd rfl (by first | exact Or.inl rfl | exact Or.inr rfl) (de_ix os_ix (de_lst (da_cons (de_int) (da_cons (de_un os_neg (de_int)) (da_cons (de_int) (da_cons (de_int) (da_cons (de_un os_neg (de_int)) (da_cons (de_op os_pow (de_int) (de_int)) (da_nil)))))))) (de_callD (takes_of rfl rfl rfl rfl) D_law_draw (hr.mono (by decide)) (by rfl) (da_cons (dv 0) (da_cons (de_int) (da_nil)))) (fun _ _ => rfl)))
      (dss_cons (ds_par (i := 8) (j := 9) rfl sc__law_equal_right.nd rfl rfl (by decide) rfl rfl (da_cons (de_callD (takes_of rfl rfl rfl rfl) D_law_int (hr.mono (by decide)) (by rfl) (da_cons (dv 0) (da_cons (de_int) (da_nil)))) (da_cons (de_callD (takes_of rfl rfl rfl rfl) D_law_int (hr.mono (by decide)) (by rfl) (da_cons (dv 0) (da_cons (de_int) (da_nil)))) (da_nil))) rfl)
      (dss_cons (ds_if ((dw_or (dt_cmp (os_eq hu) (dv 9) (de_int) (nomark _)) (dw_or1 (dt_cmp (os_eq hu) (de_callD (takes_of rfl rfl rfl rfl) D_law_draw (hr.mono (by decide)) (by rfl) (da_cons (dv 0) (da_cons (de_int) (da_nil)))) (de_int) (nomark _)))).pt) (dss_one (ds_par (i := 8) (j := 9) rfl sc__law_equal_right.nd rfl rfl (by decide) rfl rfl (da_cons (de_op os_add (dv 1) (de_callD (takes_of rfl rfl rfl rfl) D_law_draw (hr.mono (by decide)) (by rfl) (da_cons (dv 0) (da_cons (de_int) (da_nil))))) (da_cons (dv 2) (da_nil))) rfl)) (dss_nil))
      (dss_cons (ds_set (i := 5) sc__law_equal_right.nd rfl (by first | exact Or.inl rfl | exact Or.inr rfl) (de_cmp (os_eq hu) (de_op os_mul (dv 1) (dv 9)) (de_op os_mul (dv 8) (dv 2)) (nomark _)))
      (dss_cons (ds_set (i := 6) sc__law_equal_right.nd rfl (by first | exact Or.inl rfl | exact Or.inr rfl) (de_make (k := 43) (md := mkFrz) mkFrz_ok (takes_of rfl rfl rfl rfl) K_Ratio_2 (hr.mono (by decide)) (by rfl) (da_cons (dv 8) (da_cons (dv 9) (da_nil)))))
      (dss_cons (ds_if ((dw_or (dt_not (dt_cmp (os_ownEq (k := 2) (tab := [("Ratio", .own "Ratio", p_Ratio_eq)]) (.cons E_Ratio_Ratio .nil) (hr.mono (by decide)) (os_eq hu)) (dv 3) (de_make (k := 43) (md := mkFrz) mkFrz_ok (takes_of rfl rfl rfl rfl) K_Ratio_2 (hr.mono (by decide)) (by rfl) (da_cons (de_op os_mul (dv 1) (dv 4)) (da_cons (de_op os_mul (dv 2) (dv 4)) (da_nil)))) (nomark _))) (dw_or1 (dt_cmp (os_ownNe (k := 2) (tab := [("Ratio", .own "Ratio", p_Ratio_eq)]) (.cons E_Ratio_Ratio .nil) (hr.mono (by decide)) (os_ne hu)) (dv 3) (de_make (k := 43) (md := mkFrz) mkFrz_ok (takes_of rfl rfl rfl rfl) K_Ratio_2 (hr.mono (by decide)) (by rfl) (da_cons (dv 1) (da_cons (dv 2) (da_nil)))) (nomark _)))).pt) (dss_one (ds_ret (de_bl))) (dss_nil))
      (dss_cons (ds_if (dt_cmp (os_neS (os_ne hu)) (de_callB (oc_repr0 (k := 0) (hr.mono (by decide)) SE.ns) (by rfl) B.repr (by decide +kernel) (da_cons (de_lst (da_cons (de_cmp (os_ownEq (k := 2) (tab := [("Ratio", .own "Ratio", p_Ratio_eq)]) (.cons E_Ratio_Ratio .nil) (hr.mono (by decide)) (os_eq hu)) (dv 3) (dv 6) (nomark _)) (da_cons (de_cmp (os_ownEq (k := 2) (tab := [("Ratio", .own "Ratio", p_Ratio_eq)]) (.cons E_Ratio_Ratio .nil) (hr.mono (by decide)) (os_eq hu)) (dv 6) (dv 3) (nomark _)) (da_cons (de_cmp (os_ownNe (k := 2) (tab := [("Ratio", .own "Ratio", p_Ratio_eq)]) (.cons E_Ratio_Ratio .nil) (hr.mono (by decide)) (os_ne hu)) (dv 3) (dv 6) (nomark _)) (da_nil))))) (da_nil))) (de_callB (oc_repr0 (k := 0) (hr.mono (by decide)) SE.ns) (by rfl) B.repr (by decide +kernel) (da_cons (de_lst (da_cons (dv 5) (da_cons (dv 5) (da_cons (de_not (dv 5)) (da_nil))))) (da_nil))) (nomark _)) (dss_one (ds_ret (de_bl))) (dss_nil))
      (dss_cons (ds_set (i := 7) sc__law_equal_right.nd rfl (by first | exact Or.inl rfl | exact Or.inr rfl) (de_lst (da_cons (de_non) (da_cons (de_bl) (da_cons (dv 1) (da_cons (de_callTy (oc_strI (k := 2) (tab := [("Ratio", p_Ratio_str)]) (.cons U_Ratio___str__ .nil) (hr.mono (by decide)) oc_str0) (by rfl) B.str (by decide +kernel) (da_cons (dv 3) (da_nil))) (da_cons (de_tup (da_cons (de_fld (.cons F_Ratio_top (.cons F_Turn_top .nil)) (dv 3)) (da_cons (de_fld (.cons F_Ratio_bottom (.cons F_Turn_bottom .nil)) (dv 3)) (da_nil)))) (da_cons (de_lst (da_cons (dv 3) (da_nil))) (da_cons (de_make (k := 43) (md := mkFrz) mkFrz_ok (takes_of rfl rfl rfl rfl) K_Turn_2 (hr.mono (by decide)) (by rfl) (da_cons (dv 1) (da_cons (dv 2) (da_nil)))) (da_cons (de_fld (.cons F_Ratio_top (.cons F_Turn_top .nil)) (dv 3)) (da_nil)))))))))))
      (dss_one (ds_ret (de_cmp (os_eq hu) (de_lc (own := [("mate", 10)]) (p := .nm 10) rfl sc__law_equal_right.nd (di_list (dv 7)) (blkOk_by (N := N__law_equal_right) (sc := defScope s__law_equal_right) (by decide +kernel)) (by decide) (fun _ _ _ _ _ => pgn 10 sc__law_equal_right.nd) (fun _ _ _ _ _ => dts_one ((dw_or (dt_cmp (os_ownEq (k := 2) (tab := [("Ratio", .bi "NoneType", p_Ratio_eq), ("Ratio", .bi "bool", p_Ratio_eq), ("Ratio", .bi "int", p_Ratio_eq), ("Ratio", .bi "str", p_Ratio_eq), ("Ratio", .bi "list", p_Ratio_eq), ("Ratio", .bi "tuple", p_Ratio_eq), ("Ratio", .own "Turn", p_Ratio_eq), ("Ratio", .own "Ratio", p_Ratio_eq)]) (.cons E_Ratio_NoneType (.cons E_Ratio_bool (.cons E_Ratio_int (.cons E_Ratio_str (.cons E_Ratio_list (.cons E_Ratio_tuple (.cons E_Ratio_Turn (.cons E_Ratio_Ratio .nil)))))))) (hr.mono (by decide)) (os_eq hu)) (dv 3) (dv 10) (nomark _)) (dw_or1 (dt_not (dt_cmp (os_ownNe (k := 2) (tab := [("Ratio", .bi "NoneType", p_Ratio_eq), ("Ratio", .bi "bool", p_Ratio_eq), ("Ratio", .bi "int", p_Ratio_eq), ("Ratio", .bi "str", p_Ratio_eq), ("Ratio", .bi "list", p_Ratio_eq), ("Ratio", .bi "tuple", p_Ratio_eq), ("Ratio", .own "Turn", p_Ratio_eq), ("Ratio", .own "Ratio", p_Ratio_eq)]) (.cons E_Ratio_NoneType (.cons E_Ratio_bool (.cons E_Ratio_int (.cons E_Ratio_str (.cons E_Ratio_list (.cons E_Ratio_tuple (.cons E_Ratio_Turn (.cons E_Ratio_Ratio .nil)))))))) (hr.mono (by decide)) (os_ne hu)) (dv 3) (dv 10) (nomark _))))).pt)) (fun _ _ _ _ _ => dv 10)) (de_lst (da_nil)) (nomark _))))))))))))

/-! ### _law_ask_three -/
theorem b__law_ask_three {P : Program} {w : World} {K : Kx} {base : Heap} (B : Bi K.mg) (SE : Seer P base) (D_law_draw : Def P w K base "_law_draw" s__law_draw 42 ["pen", "bound"] p__law_draw) (D_law_equal_right : Def P w K base "_law_equal_right" s__law_equal_right 45 ["pen", "upper", "lower"] p__law_equal_right) (D_law_int : Def P w K base "_law_int" s__law_int 43 ["pen", "groups"] p__law_int) (D_law_made_right : Def P w K base "_law_made_right" s__law_made_right 45 ["upper", "lower"] p__law_made_right) (D_law_pen : Def P w K base "_law_pen" s__law_pen 2 ["script"] p__law_pen) (D_law_refused : Def P w K base "_law_refused" s__law_refused 45 ["upper", "lower"] p__law_refused) (K_Ratio_1 : MakOk P w K base 43 "Ratio" (dfl [.int 1] p_Ratio_init)) (K_Turn_2 : MakOk P w K base 43 "Turn" p_Turn_init) (f : Addr) (cdv : Value) (A : Around) (outer : List PySem.Env) (s : Shared) (H : Hp) (E : XK) (hr : EX.Room 45 (A.deeper (envOfC "_law_ask_three" (defScope s__law_ask_three) s.heap.objs.size f cdv))) : PSs (cxD P w K base N__law_ask_three "_law_ask_three" s__law_ask_three f cdv A outer s H E) (defBody s__law_ask_three) (LS K (WD E) t__law_ask_three) := by
  have hu := hr.units
  exact dss_cons (ds_set (i := 1) sc__law_ask_three.nd rfl (by first | exact Or.inl rfl | exact Or.inr rfl) (de_callD (takes_of rfl rfl rfl rfl) D_law_pen (hr.mono (by decide)) (by rfl) (da_cons (dv 0) (da_nil))))
      (dss_cons (ds_for (p := .nm 2) (passes_of rfl) rfl (di_rng1 (by rfl) B.range (da_cons (de_int) (da_nil))) (pgn 2 sc__law_ask_three.nd) (dss_cons (ds_par3 (i := 4) (j := 5) (l := 6) rfl sc__law_ask_three.nd rfl rfl rfl (by decide) (by decide) (by decide) rfl rfl rfl (da_cons (de_callD (takes_of rfl rfl rfl rfl) D_law_int (hr.mono (by decide)) (by rfl) (da_cons (dv 1) (da_cons (de_int) (da_nil)))) (da_cons (de_callD (takes_of rfl rfl rfl rfl) D_law_int (hr.mono (by decide)) (by rfl) (da_cons (dv 1) (da_cons (de_int) (da_nil)))) (da_cons (de_ix os_ix (de_lst (da_cons (de_int) (da_cons (de_int) (da_cons (de_int) (da_cons (de_op os_pow (de_int) (de_int)) (da_nil)))))) (de_callD (takes_of rfl rfl rfl rfl) D_law_draw (hr.mono (by decide)) (by rfl) (da_cons (dv 1) (da_cons (de_int) (da_nil)))) (fun _ _ => rfl)) (da_nil)))) rfl)
      (dss_cons (ds_if (dt_cmp (os_eq hu) (dv 5) (de_int) (nomark _)) (dss_cons (ds_if ((dw_or (dt_not (dt_val (de_callD (takes_of rfl rfl rfl rfl) D_law_refused (hr.mono (by decide)) (by rfl) (da_cons (dv 4) (da_cons (dv 5) (da_nil)))))) (dw_or1 (dt_not (dt_val (de_callD (takes_of rfl rfl rfl rfl) D_law_refused (hr.mono (by decide)) (by rfl) (da_cons (de_int) (da_cons (de_int) (da_nil)))))))).pt) (dss_one (ds_ret (de_bl))) (dss_nil))
      (dss_one (ds_set (i := 5) sc__law_ask_three.nd rfl (by first | exact Or.inl rfl | exact Or.inr rfl) (de_op os_add (de_int) (de_callD (takes_of rfl rfl rfl rfl) D_law_draw (hr.mono (by decide)) (by rfl) (da_cons (dv 1) (da_cons (de_int) (da_nil)))))))) (dss_nil))
      (dss_cons (ds_if ((dw_or (dt_not (dt_val (de_callD (takes_of rfl rfl rfl rfl) D_law_made_right (hr.mono (by decide)) (by rfl) (da_cons (de_op os_mul (dv 4) (dv 6)) (da_cons (de_op os_mul (dv 5) (dv 6)) (da_nil)))))) (dw_or1 (dt_not (dt_val (de_callD (takes_of rfl rfl rfl rfl) D_law_made_right (hr.mono (by decide)) (by rfl) (da_cons (dv 4) (da_cons (de_op os_sub (de_int) (dv 5)) (da_nil)))))))).pt) (dss_one (ds_ret (de_bl))) (dss_nil))
      (dss_cons (ds_if (dt_not (dt_val (de_callD (takes_of rfl rfl rfl rfl) D_law_equal_right (hr.mono (by decide)) (by rfl) (da_cons (dv 1) (da_cons (dv 4) (da_cons (dv 5) (da_nil))))))) (dss_one (ds_ret (de_bl))) (dss_nil))
      (dss_cons (ds_set (i := 3) sc__law_ask_three.nd rfl (by first | exact Or.inl rfl | exact Or.inr rfl) (de_ix os_ix (de_lst (da_cons (de_non) (da_cons (de_bl) (da_cons (de_bl) (da_cons (de_str) (da_cons (de_str) (da_cons (de_tup (da_cons (de_int) (da_nil))) (da_cons (de_lst (da_cons (de_int) (da_nil))) (da_cons (de_dict0) (da_cons (de_str) (da_cons (de_make (k := 43) (md := mkFrz) mkFrz_ok (takes_of rfl rfl rfl rfl) K_Ratio_1 (hr.mono (by decide)) (by rfl) (da_cons (de_int) (da_nil))) (da_cons (de_make (k := 43) (md := mkFrz) mkFrz_ok (takes_of rfl rfl rfl rfl) K_Turn_2 (hr.mono (by decide)) (by rfl) (da_cons (de_int) (da_cons (de_int) (da_nil)))) (da_nil))))))))))))) (de_callD (takes_of rfl rfl rfl rfl) D_law_draw (hr.mono (by decide)) (by rfl) (da_cons (dv 1) (da_cons (de_int) (da_nil)))) (fun _ _ => rfl)))
      (dss_one (ds_if ((dw_or (dt_not (dt_val (de_callD (takes_of rfl rfl rfl rfl) D_law_refused (hr.mono (by decide)) (by rfl) (da_cons (dv 3) (da_cons (dv 5) (da_nil)))))) (dw_or (dt_not (dt_val (de_callD (takes_of rfl rfl rfl rfl) D_law_refused (hr.mono (by decide)) (by rfl) (da_cons (dv 4) (da_cons (dv 3) (da_nil)))))) (dw_or1 (dt_not (dt_val (de_callD (takes_of rfl rfl rfl rfl) D_law_refused (hr.mono (by decide)) (by rfl) (da_cons (dv 3) (da_cons (de_int) (da_nil))))))))).pt) (dss_one (ds_ret (de_bl))) (dss_nil)))))))))
      (dss_one (ds_ret (de_bl))))

/-! ### _law_divisor_four -/
theorem b__law_divisor_four {P : Program} {w : World} {K : Kx} {base : Heap} (B : Bi K.mg) (SE : Seer P base)  (f : Addr) (cdv : Value) (A : Around) (outer : List PySem.Env) (s : Shared) (H : Hp) (E : XK) (hr : EX.Room 1 (A.deeper (envOfC "_law_divisor_four" (defScope s__law_divisor_four) s.heap.objs.size f cdv))) : PSs (cxD P w K base N__law_divisor_four "_law_divisor_four" s__law_divisor_four f cdv A outer s H E) (defBody s__law_divisor_four) (LS K (WD E) t__law_divisor_four) := by
  have hu := hr.units
  exact dss_cons (ds_par (i := 0) (j := 1) rfl sc__law_divisor_four.nd rfl rfl (by decide) rfl rfl (da_cons (de_callB oc_abs (by rfl) B.abs PyProof.Rows.boot_abs (da_cons (dv 0) (da_nil))) (da_cons (de_callB oc_abs (by rfl) B.abs PyProof.Rows.boot_abs (da_cons (dv 1) (da_nil))) (da_nil))) rfl)
      (dss_cons (ds_while (passes_of rfl) (dt_cmp (os_ne hu) (dv 1) (de_int) (nomark _)) (dss_one (ds_par (i := 0) (j := 1) rfl sc__law_divisor_four.nd rfl rfl (by decide) rfl rfl (da_cons (dv 1) (da_cons (de_op os_mod (de_callTy oc_int (by rfl) B.int PyProof.Rows.boot_int (da_cons (dv 0) (da_nil))) (dv 1)) (da_nil))) rfl)))
      (dss_one (ds_ret (dv 0))))

/-! ### _law_is -/
theorem b__law_is {P : Program} {w : World} {K : Kx} {base : Heap} (B : Bi K.mg) (SE : Seer P base) (D_law_divisor_four : Def P w K base "_law_divisor_four" s__law_divisor_four 2 ["one", "mate"] p__law_divisor_four) {C_Ratio : Addr} (mg_Ratio : K.mg "Ratio" = some (.ref C_Ratio)) (I_Ratio_Ratio : IsiOk K (.own "Ratio") (.own "Ratio") true) (F_Ratio_bottom : FldOk K "Ratio" "bottom") (F_Turn_bottom : FldOk K "Turn" "bottom") (F_Ratio_top : FldOk K "Ratio" "top") (F_Turn_top : FldOk K "Turn" "top") (f : Addr) (cdv : Value) (A : Around) (outer : List PySem.Env) (s : Shared) (H : Hp) (E : XK) (hr : EX.Room 2 (A.deeper (envOfC "_law_is" (defScope s__law_is) s.heap.objs.size f cdv))) : PSs (cxD P w K base N__law_is "_law_is" s__law_is f cdv A outer s H E) (defBody s__law_is) (LS K (WD E) t__law_is) := by
  have hu := hr.units
  exact dss_cons (ds_if ((dw_or (dt_not (dt_val (de_callB (oc_isiC (tab := [(.own "Ratio", .own "Ratio", true)]) (.cons I_Ratio_Ratio .nil)) (by rfl) B.isinstance PyProof.Rows.boot_isinstance (da_cons (dv 0) (da_cons (de_cls (by rfl) mg_Ratio) (da_nil)))))) (dw_or (dt_cmp os_lt (de_fld (.cons F_Ratio_bottom (.cons F_Turn_bottom .nil)) (dv 0)) (de_int) (nomark _)) (dw_or1 (dt_cmp (os_ne hu) (de_callD (takes_of rfl rfl rfl rfl) D_law_divisor_four (hr.mono (by decide)) (by rfl) (da_cons (de_fld (.cons F_Ratio_top (.cons F_Turn_top .nil)) (dv 0)) (da_cons (de_fld (.cons F_Ratio_bottom (.cons F_Turn_bottom .nil)) (dv 0)) (da_nil)))) (de_int) (nomark _))))).pt) (dss_one (ds_ret (de_bl))) (dss_nil))
      (dss_one (ds_ret (de_cmp (os_eq hu) (de_op os_mul (de_fld (.cons F_Ratio_top (.cons F_Turn_top .nil)) (dv 0)) (dv 2)) (de_op os_mul (dv 1) (de_fld (.cons F_Ratio_bottom (.cons F_Turn_bottom .nil)) (dv 0))) (nomark _))))

/-! ### _law_refused_four -/
theorem b__law_refused_four {P : Program} {w : World} {K : Kx} {base : Heap} (B : Bi K.mg) (SE : Seer P base) {C_TurnsError : Addr} (mg_TurnsError : K.mg "TurnsError" = some (.ref C_TurnsError)) (XM_TurnsError_InvalidRatio : ExmOk K "TurnsError" "InvalidRatio" true) (K_Ratio_1 : MakOk P w K base 43 "Ratio" (dfl [.int 1] p_Ratio_init)) (M_Ratio_over : MetOk P w K base 45 "over" "Ratio" p_Ratio_over) {C_InvalidRatio : Addr} (mg_InvalidRatio : K.mg "InvalidRatio" = some (.ref C_InvalidRatio)) (I_InvalidRatio_InvalidRatio : IsiOk K (.own "InvalidRatio") (.own "InvalidRatio") true) (f : Addr) (cdv : Value) (A : Around) (outer : List PySem.Env) (s : Shared) (H : Hp) (E : XK) (hr : EX.Room 45 (A.deeper (envOfC "_law_refused_four" (defScope s__law_refused_four) s.heap.objs.size f cdv))) : PSs (cxD P w K base N__law_refused_four "_law_refused_four" s__law_refused_four f cdv A outer s H E) (defBody s__law_refused_four) (LS K (WD E) t__law_refused_four) := by
  have hu := hr.units
  exact dss_cons (ds_set (i := 1) sc__law_refused_four.nd rfl (by first | exact Or.inl rfl | exact Or.inr rfl) (de_non))
      (dss_cons (ds_tryAs rfl rfl sc__law_refused_four.nd rfl rfl (by rfl) mg_TurnsError (by decide) (takes_of rfl rfl rfl rfl) (.cons XM_TurnsError_InvalidRatio .nil) (fun W pn xe htk hps => dss_one (ds_expr (de_meth (k := 45) (tab := [("Ratio", p_Ratio_over)]) htk (.cons M_Ratio_over .nil) (hr.mono (by decide)) (dv 0) (da_cons (de_make (k := 43) (md := mkFrz) mkFrz_ok htk K_Ratio_1 (hr.mono (by decide)) (by rfl) (da_cons (de_int) (da_nil))) (da_nil))))) (fun a pn => dss_one (ds_set (i := 1) sc__law_refused_four.nd rfl (by first | exact Or.inl rfl | exact Or.inr rfl) (dv 2))))
      (dss_one (ds_ret (de_callB (oc_isiC (tab := [(.own "InvalidRatio", .own "InvalidRatio", true)]) (.cons I_InvalidRatio_InvalidRatio .nil)) (by rfl) B.isinstance PyProof.Rows.boot_isinstance (da_cons (dv 1) (da_cons (de_cls (by rfl) mg_InvalidRatio) (da_nil)))))))

/-! ### _law_two_right -/
theorem b__law_two_right {P : Program} {w : World} {K : Kx} {base : Heap} (B : Bi K.mg) (SE : Seer P base) (D_law_is : Def P w K base "_law_is" s__law_is 3 ["found", "top", "bottom"] p__law_is) (D_law_refused_four : Def P w K base "_law_refused_four" s__law_refused_four 46 ["one"] p__law_refused_four) (F_Ratio_top : FldOk K "Ratio" "top") (F_Turn_top : FldOk K "Turn" "top") (F_Ratio_bottom : FldOk K "Ratio" "bottom") (F_Turn_bottom : FldOk K "Turn" "bottom") (O_Ratio_Add_Ratio : BinOk P w K base 45 .Add "Ratio" (.own "Ratio") p_Ratio_add) (O_Ratio_Sub_Ratio : BinOk P w K base 45 .Sub "Ratio" (.own "Ratio") p_Ratio_sub) (O_Ratio_Mult_Ratio : BinOk P w K base 45 .Mult "Ratio" (.own "Ratio") p_Ratio_mul) (U_Ratio___neg__ : UnOk P w K base 45 "__neg__" "Ratio" p_Ratio_neg) (M_Ratio_under : MetOk P w K base 2 "under" "Ratio" p_Ratio_under) (MK_Ratio_under : MetKOk P w K base 2 "under" "Ratio" 0 ["other"] (permS [0, 1] p_Ratio_under)) (E_Ratio_Ratio : EqOk P w K base 2 "Ratio" (.own "Ratio") p_Ratio_eq) (U_Ratio___bool__ : UnOk P w K base 2 "__bool__" "Ratio" p_Ratio_bool) (M_Ratio_over : MetOk P w K base 45 "over" "Ratio" p_Ratio_over) (MK_Ratio_over : MetKOk P w K base 45 "over" "Ratio" 0 ["other"] (permS [0, 1] p_Ratio_over)) (f : Addr) (cdv : Value) (A : Around) (outer : List PySem.Env) (s : Shared) (H : Hp) (E : XK) (hr : EX.Room 46 (A.deeper (envOfC "_law_two_right" (defScope s__law_two_right) s.heap.objs.size f cdv))) : PSs (cxD P w K base N__law_two_right "_law_two_right" s__law_two_right f cdv A outer s H E) (defBody s__law_two_right) (LS K (WD E) t__law_two_right) := by
  have hu := hr.units
  exact dss_cons (ds_asg (p := .tu [.nm 2, .nm 3, .nm 4, .nm 5]) (de_tup (da_cons (de_fld (.cons F_Ratio_top (.cons F_Turn_top .nil)) (dv 0)) (da_cons (de_fld (.cons F_Ratio_bottom (.cons F_Turn_bottom .nil)) (dv 0)) (da_cons (de_fld (.cons F_Ratio_top (.cons F_Turn_top .nil)) (dv 1)) (da_cons (de_fld (.cons F_Ratio_bottom (.cons F_Turn_bottom .nil)) (dv 1)) (da_nil)))))) (pg_tup rfl (pgs_cons (pgn 2 sc__law_two_right.nd) (pgs_cons (pgn 3 sc__law_two_right.nd) (pgs_cons (pgn 4 sc__law_two_right.nd) (pgs_cons (pgn 5 sc__law_two_right.nd) (pgs_nil)))))))
      (dss_cons (ds_if ((dw_or (dt_not (dt_val (de_callD (takes_of rfl rfl rfl rfl) D_law_is (hr.mono (by decide)) (by rfl) (da_cons (de_op (os_ownB (k := 45) (tab := [("Ratio", .own "Ratio", p_Ratio_add)]) (.cons O_Ratio_Add_Ratio .nil) (hr.mono (by decide)) os_add) (dv 0) (dv 1)) (da_cons (de_op os_add (de_op os_mul (dv 2) (dv 5)) (de_op os_mul (dv 4) (dv 3))) (da_cons (de_op os_mul (dv 3) (dv 5)) (da_nil))))))) (dw_or1 (dt_not (dt_val (de_callD (takes_of rfl rfl rfl rfl) D_law_is (hr.mono (by decide)) (by rfl) (da_cons (de_op (os_ownB (k := 45) (tab := [("Ratio", .own "Ratio", p_Ratio_sub)]) (.cons O_Ratio_Sub_Ratio .nil) (hr.mono (by decide)) os_sub) (dv 0) (dv 1)) (da_cons (de_op os_sub (de_op os_mul (dv 2) (dv 5)) (de_op os_mul (dv 4) (dv 3))) (da_cons (de_op os_mul (dv 3) (dv 5)) (da_nil))))))))).pt) (dss_one (ds_ret (de_bl))) (dss_nil))
      (dss_cons (ds_if ((dw_or (dt_not (dt_val (de_callD (takes_of rfl rfl rfl rfl) D_law_is (hr.mono (by decide)) (by rfl) (da_cons (de_op (os_ownB (k := 45) (tab := [("Ratio", .own "Ratio", p_Ratio_mul)]) (.cons O_Ratio_Mult_Ratio .nil) (hr.mono (by decide)) os_mul) (dv 0) (dv 1)) (da_cons (de_op os_mul (dv 2) (dv 4)) (da_cons (de_op os_mul (dv 3) (dv 5)) (da_nil))))))) (dw_or1 (dt_not (dt_val (de_callD (takes_of rfl rfl rfl rfl) D_law_is (hr.mono (by decide)) (by rfl) (da_cons (de_un (os_ownNeg (k := 45) (tab := [("Ratio", p_Ratio_neg)]) (.cons U_Ratio___neg__ .nil) (hr.mono (by decide)) os_neg) (dv 0)) (da_cons (de_op os_sub (de_int) (dv 2)) (da_cons (dv 3) (da_nil))))))))).pt) (dss_one (ds_ret (de_bl))) (dss_nil))
      (dss_cons (ds_if ((dw_or (dt_cmp (os_neS (os_ne hu)) (de_callB (oc_repr0 (k := 0) (hr.mono (by decide)) SE.ns) (by rfl) B.repr (by decide +kernel) (da_cons (de_meth (k := 2) (tab := [("Ratio", p_Ratio_under)]) (takes_of rfl rfl rfl rfl) (.cons M_Ratio_under .nil) (hr.mono (by decide)) (dv 0) (da_cons (dv 1) (da_nil))) (da_nil))) (de_callB (oc_repr0 (k := 0) (hr.mono (by decide)) SE.ns) (by rfl) B.repr (by decide +kernel) (da_cons (de_cmp os_lt (de_op os_mul (dv 2) (dv 5)) (de_op os_mul (dv 4) (dv 3)) (nomark _)) (da_nil))) (nomark _)) (dw_or1 (dt_cmp (os_neS (os_ne hu)) (de_callB (oc_repr0 (k := 0) (hr.mono (by decide)) SE.ns) (by rfl) B.repr (by decide +kernel) (da_cons (de_methK0 (k := 2) (ks := ["other"]) (tab := [("Ratio", permS [0, 1] p_Ratio_under)]) (takes_of rfl rfl rfl rfl) (.cons MK_Ratio_under .nil) (hr.mono (by decide)) (dv 0) (dk_cons (dv 1) (dk_nil))) (da_nil))) (de_callB (oc_repr0 (k := 0) (hr.mono (by decide)) SE.ns) (by rfl) B.repr (by decide +kernel) (da_cons (de_cmp os_lt (de_op os_mul (dv 2) (dv 5)) (de_op os_mul (dv 4) (dv 3)) (nomark _)) (da_nil))) (nomark _)))).pt) (dss_one (ds_ret (de_bl))) (dss_nil))
      (dss_cons (ds_if (dt_cmp (os_ne hu) (dm_list (pe_bm PySem.F.plainAttrs_list PySem.F.slot_list_count PySem.F.type_list_count mt_countB (de_lstO (da_cons (de_meth (k := 2) (tab := [("Ratio", p_Ratio_under)]) (takes_of rfl rfl rfl rfl) (.cons M_Ratio_under .nil) (hr.mono (by decide)) (dv 0) (da_cons (dv 1) (da_nil))) (da_cons (de_meth (k := 2) (tab := [("Ratio", p_Ratio_under)]) (takes_of rfl rfl rfl rfl) (.cons M_Ratio_under .nil) (hr.mono (by decide)) (dv 1) (da_cons (dv 0) (da_nil))) (da_cons (de_cmp (os_ownEq (k := 2) (tab := [("Ratio", .own "Ratio", p_Ratio_eq)]) (.cons E_Ratio_Ratio .nil) (hr.mono (by decide)) (os_eq hu)) (dv 0) (dv 1) (nomark _)) (da_nil))))) (da_cons (de_bl) (da_nil))) wk_count) (de_int) (nomark _)) (dss_one (ds_ret (de_bl))) (dss_nil))
      (dss_cons (ds_if (dt_cmp (os_eq hu) (dv 4) (de_int) (nomark _)) (dss_one (ds_ret (de_and (de_callD (takes_of rfl rfl rfl rfl) D_law_refused_four (hr.mono (by decide)) (by rfl) (da_cons (dv 0) (da_nil))) (de_one (de_notT (k := 2) (tab := [("Ratio", p_Ratio_bool)]) (.cons U_Ratio___bool__ .nil) (hr.mono (by decide)) (dv 1)))))) (dss_nil))
      (dss_cons (ds_if ((dw_or (dt_not (dt_val (de_callD (takes_of rfl rfl rfl rfl) D_law_is (hr.mono (by decide)) (by rfl) (da_cons (de_meth (k := 45) (tab := [("Ratio", p_Ratio_over)]) (takes_of rfl rfl rfl rfl) (.cons M_Ratio_over .nil) (hr.mono (by decide)) (dv 0) (da_cons (dv 1) (da_nil))) (da_cons (de_op os_mul (dv 2) (dv 5)) (da_cons (de_op os_mul (dv 3) (dv 4)) (da_nil))))))) (dw_or1 (dt_not (dt_val (de_callD (takes_of rfl rfl rfl rfl) D_law_is (hr.mono (by decide)) (by rfl) (da_cons (de_methK0 (k := 45) (ks := ["other"]) (tab := [("Ratio", permS [0, 1] p_Ratio_over)]) (takes_of rfl rfl rfl rfl) (.cons MK_Ratio_over .nil) (hr.mono (by decide)) (dv 0) (dk_cons (dv 1) (dk_nil))) (da_cons (de_op os_mul (dv 2) (dv 5)) (da_cons (de_op os_mul (dv 3) (dv 4)) (da_nil))))))))).pt) (dss_one (ds_ret (de_bl))) (dss_nil))
      (dss_one (ds_ret (de_and (de_cmp (os_ownEq (k := 2) (tab := [("Ratio", .own "Ratio", p_Ratio_eq)]) (.cons E_Ratio_Ratio .nil) (hr.mono (by decide)) (os_eq hu)) (de_meth (k := 45) (tab := [("Ratio", p_Ratio_over)]) (takes_of rfl rfl rfl rfl) (.cons M_Ratio_over .nil) (hr.mono (by decide)) (de_op (os_ownB (k := 45) (tab := [("Ratio", .own "Ratio", p_Ratio_mul)]) (.cons O_Ratio_Mult_Ratio .nil) (hr.mono (by decide)) os_mul) (dv 0) (dv 1)) (da_cons (dv 1) (da_nil))) (dv 0) (nomark _)) (de_one (de_cmp (os_ownEq (k := 2) (tab := [("Ratio", .own "Ratio", p_Ratio_eq)]) (.cons E_Ratio_Ratio .nil) (hr.mono (by decide)) (os_eq hu)) (de_op (os_ownB (k := 45) (tab := [("Ratio", .own "Ratio", p_Ratio_mul)]) (.cons O_Ratio_Mult_Ratio .nil) (hr.mono (by decide)) os_mul) (de_meth (k := 45) (tab := [("Ratio", p_Ratio_over)]) (takes_of rfl rfl rfl rfl) (.cons M_Ratio_over .nil) (hr.mono (by decide)) (dv 0) (da_cons (dv 1) (da_nil))) (dv 1)) (dv 0) (nomark _))))))))))))

/-! ### _law_three_right -/
theorem b__law_three_right {P : Program} {w : World} {K : Kx} {base : Heap} (B : Bi K.mg) (SE : Seer P base) (D_law_is : Def P w K base "_law_is" s__law_is 3 ["found", "top", "bottom"] p__law_is) (E_Ratio_Ratio : EqOk P w K base 2 "Ratio" (.own "Ratio") p_Ratio_eq) (O_Ratio_Add_Ratio : BinOk P w K base 45 .Add "Ratio" (.own "Ratio") p_Ratio_add) (O_Ratio_Mult_Ratio : BinOk P w K base 45 .Mult "Ratio" (.own "Ratio") p_Ratio_mul) (O_Ratio_Sub_Ratio : BinOk P w K base 45 .Sub "Ratio" (.own "Ratio") p_Ratio_sub) (U_Ratio___neg__ : UnOk P w K base 45 "__neg__" "Ratio" p_Ratio_neg) (U_Ratio___bool__ : UnOk P w K base 2 "__bool__" "Ratio" p_Ratio_bool) (O_Ratio_Mult_int : BinOk P w K base 45 .Mult "Ratio" (.bi "int") p_Ratio_mul) (F_Ratio_top : FldOk K "Ratio" "top") (F_Turn_top : FldOk K "Turn" "top") (F_Ratio_bottom : FldOk K "Ratio" "bottom") (F_Turn_bottom : FldOk K "Turn" "bottom") (K_Ratio_1 : MakOk P w K base 43 "Ratio" (dfl [.int 1] p_Ratio_init)) (M_Ratio_under : MetOk P w K base 2 "under" "Ratio" p_Ratio_under) (f : Addr) (cdv : Value) (A : Around) (outer : List PySem.Env) (s : Shared) (H : Hp) (E : XK) (hr : EX.Room 45 (A.deeper (envOfC "_law_three_right" (defScope s__law_three_right) s.heap.objs.size f cdv))) : PSs (cxD P w K base N__law_three_right "_law_three_right" s__law_three_right f cdv A outer s H E) (defBody s__law_three_right) (LS K (WD E) t__law_three_right) := by
  have hu := hr.units
  exact dss_cons (ds_if ((dw_or (dt_not (dt_cmp (os_ownEq (k := 2) (tab := [("Ratio", .own "Ratio", p_Ratio_eq)]) (.cons E_Ratio_Ratio .nil) (hr.mono (by decide)) (os_eq hu)) (de_op (os_ownB (k := 45) (tab := [("Ratio", .own "Ratio", p_Ratio_add)]) (.cons O_Ratio_Add_Ratio .nil) (hr.mono (by decide)) os_add) (de_op (os_ownB (k := 45) (tab := [("Ratio", .own "Ratio", p_Ratio_add)]) (.cons O_Ratio_Add_Ratio .nil) (hr.mono (by decide)) os_add) (dv 0) (dv 1)) (dv 2)) (de_op (os_ownB (k := 45) (tab := [("Ratio", .own "Ratio", p_Ratio_add)]) (.cons O_Ratio_Add_Ratio .nil) (hr.mono (by decide)) os_add) (dv 0) (de_op (os_ownB (k := 45) (tab := [("Ratio", .own "Ratio", p_Ratio_add)]) (.cons O_Ratio_Add_Ratio .nil) (hr.mono (by decide)) os_add) (dv 1) (dv 2))) (nomark _))) (dw_or1 (dt_not (dt_cmp (os_ownEq (k := 2) (tab := [("Ratio", .own "Ratio", p_Ratio_eq)]) (.cons E_Ratio_Ratio .nil) (hr.mono (by decide)) (os_eq hu)) (de_op (os_ownB (k := 45) (tab := [("Ratio", .own "Ratio", p_Ratio_mul)]) (.cons O_Ratio_Mult_Ratio .nil) (hr.mono (by decide)) os_mul) (dv 0) (de_op (os_ownB (k := 45) (tab := [("Ratio", .own "Ratio", p_Ratio_add)]) (.cons O_Ratio_Add_Ratio .nil) (hr.mono (by decide)) os_add) (dv 1) (dv 2))) (de_op (os_ownB (k := 45) (tab := [("Ratio", .own "Ratio", p_Ratio_add)]) (.cons O_Ratio_Add_Ratio .nil) (hr.mono (by decide)) os_add) (de_op (os_ownB (k := 45) (tab := [("Ratio", .own "Ratio", p_Ratio_mul)]) (.cons O_Ratio_Mult_Ratio .nil) (hr.mono (by decide)) os_mul) (dv 0) (dv 1)) (de_op (os_ownB (k := 45) (tab := [("Ratio", .own "Ratio", p_Ratio_mul)]) (.cons O_Ratio_Mult_Ratio .nil) (hr.mono (by decide)) os_mul) (dv 0) (dv 2))) (nomark _))))).pt) (dss_one (ds_ret (de_bl))) (dss_nil))
      (dss_cons (ds_if ((dw_or (dt_not (dt_cmp (os_ownEq (k := 2) (tab := [("Ratio", .own "Ratio", p_Ratio_eq)]) (.cons E_Ratio_Ratio .nil) (hr.mono (by decide)) (os_eq hu)) (de_op (os_ownB (k := 45) (tab := [("Ratio", .own "Ratio", p_Ratio_sub)]) (.cons O_Ratio_Sub_Ratio .nil) (hr.mono (by decide)) os_sub) (de_op (os_ownB (k := 45) (tab := [("Ratio", .own "Ratio", p_Ratio_add)]) (.cons O_Ratio_Add_Ratio .nil) (hr.mono (by decide)) os_add) (dv 0) (dv 1)) (dv 1)) (dv 0) (nomark _))) (dw_or (dt_val (de_callTy (oc_boolI (k := 2) (tab := [("Ratio", p_Ratio_bool)]) (.cons U_Ratio___bool__ .nil) (hr.mono (by decide)) oc_bool0) (by rfl) B.bool (by decide +kernel) (da_cons (de_op (os_ownB (k := 45) (tab := [("Ratio", .own "Ratio", p_Ratio_add)]) (.cons O_Ratio_Add_Ratio .nil) (hr.mono (by decide)) os_add) (dv 0) (de_un (os_ownNeg (k := 45) (tab := [("Ratio", p_Ratio_neg)]) (.cons U_Ratio___neg__ .nil) (hr.mono (by decide)) os_neg) (dv 0))) (da_nil)))) (dw_or1 (dt_not (dt_cmp (os_ownEq (k := 2) (tab := [("Ratio", .own "Ratio", p_Ratio_eq)]) (.cons E_Ratio_Ratio .nil) (hr.mono (by decide)) (os_eq hu)) (de_op (os_ownB (k := 45) (tab := [("Ratio", .own "Ratio", p_Ratio_sub)]) (.cons O_Ratio_Sub_Ratio .nil) (hr.mono (by decide)) os_sub) (dv 0) (dv 1)) (de_un (os_ownNeg (k := 45) (tab := [("Ratio", p_Ratio_neg)]) (.cons U_Ratio___neg__ .nil) (hr.mono (by decide)) os_neg) (de_op (os_ownB (k := 45) (tab := [("Ratio", .own "Ratio", p_Ratio_sub)]) (.cons O_Ratio_Sub_Ratio .nil) (hr.mono (by decide)) os_sub) (dv 1) (dv 0))) (nomark _)))))).pt) (dss_one (ds_ret (de_bl))) (dss_nil))
      (dss_cons (ds_if ((dw_or (dt_not (dt_val (de_callD (takes_of rfl rfl rfl rfl) D_law_is (hr.mono (by decide)) (by rfl) (da_cons (de_op (os_ownB (k := 45) (tab := [("Ratio", .bi "int", p_Ratio_mul)]) (.cons O_Ratio_Mult_int .nil) (hr.mono (by decide)) os_mul) (dv 0) (dv 3)) (da_cons (de_op os_mul (de_fld (.cons F_Ratio_top (.cons F_Turn_top .nil)) (dv 0)) (dv 3)) (da_cons (de_fld (.cons F_Ratio_bottom (.cons F_Turn_bottom .nil)) (dv 0)) (da_nil))))))) (dw_or1 (dt_not (dt_cmp (os_ownEq (k := 2) (tab := [("Ratio", .own "Ratio", p_Ratio_eq)]) (.cons E_Ratio_Ratio .nil) (hr.mono (by decide)) (os_eq hu)) (de_op (os_ownB (k := 45) (tab := [("Ratio", .bi "int", p_Ratio_mul)]) (.cons O_Ratio_Mult_int .nil) (hr.mono (by decide)) os_mul) (dv 0) (dv 3)) (de_op (os_ownB (k := 45) (tab := [("Ratio", .own "Ratio", p_Ratio_mul)]) (.cons O_Ratio_Mult_Ratio .nil) (hr.mono (by decide)) os_mul) (dv 0) (de_make (k := 43) (md := mkFrz) mkFrz_ok (takes_of rfl rfl rfl rfl) K_Ratio_1 (hr.mono (by decide)) (by rfl) (da_cons (dv 3) (da_nil)))) (nomark _))))).pt) (dss_one (ds_ret (de_bl))) (dss_nil))
      (dss_one (ds_ret (de_cmp (os_eq hu) (de_meth (k := 2) (tab := [("Ratio", p_Ratio_under)]) (takes_of rfl rfl rfl rfl) (.cons M_Ratio_under .nil) (hr.mono (by decide)) (dv 0) (da_cons (dv 1) (da_nil))) (de_meth (k := 2) (tab := [("Ratio", p_Ratio_under)]) (takes_of rfl rfl rfl rfl) (.cons M_Ratio_under .nil) (hr.mono (by decide)) (de_op (os_ownB (k := 45) (tab := [("Ratio", .own "Ratio", p_Ratio_add)]) (.cons O_Ratio_Add_Ratio .nil) (hr.mono (by decide)) os_add) (dv 0) (dv 2)) (da_cons (de_op (os_ownB (k := 45) (tab := [("Ratio", .own "Ratio", p_Ratio_add)]) (.cons O_Ratio_Add_Ratio .nil) (hr.mono (by decide)) os_add) (dv 1) (dv 2)) (da_nil))) (nomark _))))))

/-! ### _law_ask_four -/
theorem b__law_ask_four {P : Program} {w : World} {K : Kx} {base : Heap} (B : Bi K.mg) (SE : Seer P base) (D_law_draw : Def P w K base "_law_draw" s__law_draw 42 ["pen", "bound"] p__law_draw) (D_law_int : Def P w K base "_law_int" s__law_int 43 ["pen", "groups"] p__law_int) (D_law_pen : Def P w K base "_law_pen" s__law_pen 2 ["script"] p__law_pen) (D_law_three_right : Def P w K base "_law_three_right" s__law_three_right 46 ["one", "two", "three", "often"] p__law_three_right) (D_law_two_right : Def P w K base "_law_two_right" s__law_two_right 47 ["one", "two"] p__law_two_right) (K_Ratio_2 : MakOk P w K base 43 "Ratio" p_Ratio_init) (U_Ratio___neg__ : UnOk P w K base 45 "__neg__" "Ratio" p_Ratio_neg) (K_Ratio_1 : MakOk P w K base 43 "Ratio" (dfl [.int 1] p_Ratio_init)) (SB_Ratio : ShowB P w K base 2 "Ratio" p_Ratio_repr) (f : Addr) (cdv : Value) (A : Around) (outer : List PySem.Env) (s : Shared) (H : Hp) (E : XK) (hr : EX.Room 47 (A.deeper (envOfC "_law_ask_four" (defScope s__law_ask_four) s.heap.objs.size f cdv))) : PSs (cxD P w K base N__law_ask_four "_law_ask_four" s__law_ask_four f cdv A outer s H E) (defBody s__law_ask_four) (LS K (WD E) t__law_ask_four) := by
  have hu := hr.units
  exact dss_cons (ds_set (i := 1) sc__law_ask_four.nd rfl (by first | exact Or.inl rfl | exact Or.inr rfl) (de_callD (takes_of rfl rfl rfl rfl) D_law_pen (hr.mono (by decide)) (by rfl) (da_cons (dv 0) (da_nil))))
      (dss_cons (ds_for (p := .nm 2) (passes_of rfl) rfl (di_rng1 (by rfl) B.range (da_cons (de_int) (da_nil))) (pgn 2 sc__law_ask_four.nd) (dss_cons (ds_set (i := 3) sc__law_ask_four.nd rfl (by first | exact Or.inl rfl | exact Or.inr rfl) (de_lstO (da_nil)))
      (dss_cons (ds_for (p := .nm 4) (passes_of rfl) rfl (di_rng1 (by rfl) B.range (da_cons (de_int) (da_nil))) (pgn 4 sc__law_ask_four.nd) (dss_cons (ds_set (i := 8) sc__law_ask_four.nd rfl (by first | exact Or.inl rfl | exact Or.inr rfl) (de_callD (takes_of rfl rfl rfl rfl) D_law_int (hr.mono (by decide)) (by rfl) (da_cons (dv 1) (da_cons (de_int) (da_nil)))))
      (dss_cons (ds_if (dt_cmp (os_eq hu) (dv 8) (de_int) (nomark _)) (dss_one (ds_set (i := 8) sc__law_ask_four.nd rfl (by first | exact Or.inl rfl | exact Or.inr rfl) (de_int))) (dss_nil))
      (dss_one (ds_expr (dm_list (pe_bm PySem.F.plainAttrs_list PySem.F.slot_list_append PySem.F.type_list_append mt_append (dv 3) (da_cons (de_make (k := 43) (md := mkFrz) mkFrz_ok (takes_of rfl rfl rfl rfl) K_Ratio_2 (hr.mono (by decide)) (by rfl) (da_cons (de_callD (takes_of rfl rfl rfl rfl) D_law_int (hr.mono (by decide)) (by rfl) (da_cons (dv 1) (da_cons (de_int) (da_nil)))) (da_cons (dv 8) (da_nil)))) (da_nil))) wk_append))))))
      (dss_cons (ds_set (i := 5) sc__law_ask_four.nd rfl (by first | exact Or.inl rfl | exact Or.inr rfl) (de_callD (takes_of rfl rfl rfl rfl) D_law_draw (hr.mono (by decide)) (by rfl) (da_cons (dv 1) (da_cons (de_int) (da_nil)))))
      (dss_cons (ds_if (dt_cmp os_lt (dv 5) (de_int) (nomark _)) (dss_one (ds_setIx (de_ix os_ix (de_lst (da_cons (de_ix os_ix (dv 3) (de_int) (fun _ _ => rfl)) (da_cons (de_un (os_ownNeg (k := 45) (tab := [("Ratio", p_Ratio_neg)]) (.cons U_Ratio___neg__ .nil) (hr.mono (by decide)) os_neg) (de_ix os_ix (dv 3) (de_int) (fun _ _ => rfl))) (da_cons (de_make (k := 43) (md := mkFrz) mkFrz_ok (takes_of rfl rfl rfl rfl) K_Ratio_1 (hr.mono (by decide)) (by rfl) (da_cons (de_int) (da_nil))) (da_nil))))) (dv 5) (fun _ _ => rfl)) (dv 3) (de_int) (fun ho hi => pg_sub ho hi set_list))) (dss_nil))
      (dss_cons (ds_set (i := 6) sc__law_ask_four.nd rfl (by first | exact Or.inl rfl | exact Or.inr rfl) (de_callB (oc_reprL (k := 2) (tab := [("Ratio", p_Ratio_repr)]) (.cons SB_Ratio .nil) (hr.mono (by decide)) (oc_repr0 (k := 0) (hr.mono (by decide)) SE.ns)) (by rfl) B.repr (by decide +kernel) (da_cons (dv 3) (da_nil))))
      (dss_cons (ds_for (p := .nm 7) (passes_of rfl) rfl (di_list (dv 3)) (pgn 7 sc__law_ask_four.nd) (dss_one (ds_for (p := .nm 9) (passes_of rfl) rfl (di_list (dv 3)) (pgn 9 sc__law_ask_four.nd) (dss_one (ds_if (dt_not (dt_val (de_callD (takes_of rfl rfl rfl rfl) D_law_two_right (hr.mono (by decide)) (by rfl) (da_cons (dv 7) (da_cons (dv 9) (da_nil)))))) (dss_one (ds_ret (de_bl))) (dss_nil))))))
      (dss_one (ds_if ((dw_or (dt_not (dt_val (de_callD (takes_of rfl rfl rfl rfl) D_law_three_right (hr.mono (by decide)) (by rfl) (da_cons (de_ix os_ix (dv 3) (de_int) (fun _ _ => rfl)) (da_cons (de_ix os_ix (dv 3) (de_int) (fun _ _ => rfl)) (da_cons (de_ix os_ix (dv 3) (de_int) (fun _ _ => rfl)) (da_cons (de_callD (takes_of rfl rfl rfl rfl) D_law_int (hr.mono (by decide)) (by rfl) (da_cons (dv 1) (da_cons (de_int) (da_nil)))) (da_nil)))))))) (dw_or1 (dt_cmp (os_neS (os_ne hu)) (de_callB (oc_reprL (k := 2) (tab := [("Ratio", p_Ratio_repr)]) (.cons SB_Ratio .nil) (hr.mono (by decide)) (oc_repr0 (k := 0) (hr.mono (by decide)) SE.ns)) (by rfl) B.repr (by decide +kernel) (da_cons (dv 3) (da_nil))) (dv 6) (nomark _)))).pt) (dss_one (ds_ret (de_bl))) (dss_nil))))))))))
      (dss_one (ds_ret (de_bl))))

/-! ### law -/
theorem b_law {P : Program} {w : World} {K : Kx} {base : Heap} (B : Bi K.mg) (SE : Seer P base) (D_law_ask_four : Def P w K base "_law_ask_four" s__law_ask_four 48 ["script"] p__law_ask_four) (D_law_ask_one : Def P w K base "_law_ask_one" s__law_ask_one 44 ["script"] p__law_ask_one) (D_law_ask_three : Def P w K base "_law_ask_three" s__law_ask_three 46 ["script"] p__law_ask_three) (D_law_ask_two : Def P w K base "_law_ask_two" s__law_ask_two 45 ["script"] p__law_ask_two) (f : Addr) (cdv : Value) (A : Around) (outer : List PySem.Env) (s : Shared) (H : Hp) (E : XK) (hr : EX.Room 48 (A.deeper (envOfC "law" (defScope s_law) s.heap.objs.size f cdv))) : PSs (cxD P w K base N_law "law" s_law f cdv A outer s H E) (defBody s_law) (LS K (WD E) t_law) := by
  have hu := hr.units
  exact dss_one (ds_ret (de_and (de_callD (takes_of rfl rfl rfl rfl) D_law_ask_one (hr.mono (by decide)) (by rfl) (da_cons (dv 0) (da_nil))) (de_and (de_callD (takes_of rfl rfl rfl rfl) D_law_ask_two (hr.mono (by decide)) (by rfl) (da_cons (dv 0) (da_nil))) (de_and (de_callD (takes_of rfl rfl rfl rfl) D_law_ask_three (hr.mono (by decide)) (by rfl) (da_cons (dv 0) (da_nil))) (de_one (de_callD (takes_of rfl rfl rfl rfl) D_law_ask_four (hr.mono (by decide)) (by rfl) (da_cons (dv 0) (da_nil))))))))


end K00
namespace K00
open PySem PySem.Spec PyProof.Rows L2 EX Spx
local macro_rules | `(tactic| walk_at "ks") => `(tactic| (with_reducible (repeat (first | (apply w_v; (next => with_unfolding_all rfl)) | refine w_seq ?_ | refine w_ret ?_ | refine w_set ?_ | refine w_asg ?_ | refine w_par ?_ | refine w_drop ?_ | refine w_ifS ?_ | refine w_for ?_ | refine w_test ?_ | refine w_op ?_ | refine w_un ?_ | refine w_c ?_ | refine w_cb ?_ | refine w_cons ?_ | refine w_nil ?_ | refine w_tup ?_ | refine w_lst ?_ | refine w_lstO ?_ | refine w_not ?_ | refine w_and ?_ | refine w_or ?_ | refine w_andV ?_ | refine w_orV ?_ | refine w_notV ?_ | refine w_if ?_ | refine w_onB ?_ | refine w_noPart ?_ | refine w_part ?_ | refine w_onI ?_ | refine w_sl ?_ | refine w_lc ?_ | refine w_lcO ?_ | refine w_diList ?_ | refine w_diZip ?_ | refine w_diEnum ?_ | refine w_diRng1 ?_ | refine w_mt ?_ | refine w_gt ?_ | refine w_lt ?_ | refine w_le ?_ | refine w_ge ?_ | refine w_addI ?_ | refine w_subI ?_ | refine w_neg ?_ | refine w_abs ?_ | refine w_int ?_ | refine w_intB ?_ | refine w_isN ?_ | refine w_notN ?_ | refine w_yes ?_ | refine w_itt ?_ | refine w_iff ?_ | refine w_lz ?_ | refine w_callK ?_ | refine w_call ?_ | refine w_call0 ?_ | refine w_chain ?_ | refine w_setIx ?_ | refine w_diTup ?_ | refine w_onT ?_ | refine w_next ?_ | refine w_diEnumZip ?_ | refine w_fld ?_ | refine w_setF ?_ | refine w_setF2 ?_ | refine w_meth ?_ | refine w_make ?_ | refine w_ss ?_ | refine w_rev ?_ | refine w_dict0 ?_ | refine w_dict1 ?_ | refine w_exc0 ?_ | refine w_excS ?_ | refine w_raise0 ?_ | refine w_fldE ?_ | refine w_tru ?_ | refine w_notT ?_ | refine w_fmt ?_ | refine w_joined ?_ | refine w_js0 ?_ | refine w_js ?_ | refine w_zipT ?_ | refine w_par3 ?_ | refine w_methK ?_ | refine w_makeK ?_ | refine w_tryAs ?_ | refine w_bool0 ?_ | refine w_strS ?_ | refine w_slT ?_))))
section
variable {M : Mem} {P : Dat → Prop} {Φ : Dat → Mem → Prop}
theorem f_at {cs : List Str} {d v : Dat} {c f : Str} {ns : List Str} {ds : List Dat} {i : Nat} (h : insAt M d = some (c, ns, ds)) (hc : c ∈ cs) (hf : fldIx f ns = some i) (hv : ds[i]? = some v) (k : P v) : ∃ c ns ds i v, insAt M d = some (c, ns, ds) ∧ c ∈ cs ∧ fldIx f ns = some i ∧ ds[i]? = some v ∧ P v := ⟨c, ns, ds, i, v, h, hc, hf, hv, k⟩
theorem f_top {x : Int × Int} (k : P (.int x.1)) : ∃ c ns ds i v, insAt M (ratD x) = some (c, ns, ds) ∧ c ∈ (["Ratio", "Turn"] : List Str) ∧ fldIx "top" ns = some i ∧ ds[i]? = some v ∧ P v := f_at (i := 0) rfl List.mem_cons_self rfl rfl k
theorem f_bot {x : Int × Int} (k : P (.int x.2)) : ∃ c ns ds i v, insAt M (ratD x) = some (c, ns, ds) ∧ c ∈ (["Ratio", "Turn"] : List Str) ∧ fldIx "bottom" ns = some i ∧ ds[i]? = some v ∧ P v := f_at (i := 1) rfl List.mem_cons_self rfl rfl k
theorem isi_int {i : Int} {T : String} {b : Bool} (e : kitB "int" T = some b) (h : Φ (.bl b) M) : oIsi [.int i, .ty T] M Φ := ⟨.int i, T, rfl, "int", b, rfl, e, h⟩
theorem goodP_int {i j : Int} (h : j ≠ 0) : goodP (.int i) (.int j) = true := by
  show (j != 0) = true
  simpa using h
theorem mk_rat {a : Addr} {i j : Int} {Ψ : DXc} (hj : j ≠ 0) (ha : M a = none) (k : Φ (ratD (low i j)) M) : p_Ratio_init [.loc a, .int i, .int j] (M.put a (.ins "Ratio" [] [])) (fun d M2 => d = .non ∧ mkFrz a M2 Φ) Ψ := by
  refine ⟨a, .int i, .int j, rfl, trivial, trivial, Mem.put_same, fun i' j' e1 e2 _ => ⟨rfl, ?_⟩, fun z => by rw [goodP_int hj] at z; cases z⟩
  cases e1; cases e2
  rw [Mem.put_put]
  refine ⟨_, _, _, Mem.put_same, ?_⟩
  rw [Mem.put_del ha]
  exact k
end
theorem r_is_integer : ∀ ds M Φ Ψ, p_is_integer ds M Φ Ψ → ds.length = 1 ∧ t_is_integer (endsOf Φ) (startD N_is_integer ds (exOf Ψ)) M := by
  rintro ds M Φ Ψ ⟨d, rfl, hd, k⟩
  refine ⟨rfl, ?_⟩
  have key : ∀ (t : Ty) (b1 b2 : Bool) (j : Nat), tyOf M d = some t → ([(.bi "NoneType", .bi "int", false), (.bi "bool", .bi "int", true), (.bi "int", .bi "int", true), (.bi "str", .bi "int", false), (.bi "list", .bi "int", false), (.bi "tuple", .bi "int", false), (.bi "dict", .bi "int", false), (.own "Ratio", .bi "int", false), (.own "Turn", .bi "int", false)] : List (Ty × Ty × Bool))[j]? = some (t, .bi "int", b1) →
      ([(.bi "NoneType", .bi "bool", false), (.bi "bool", .bi "bool", true), (.bi "int", .bi "bool", false), (.bi "str", .bi "bool", false), (.bi "list", .bi "bool", false), (.bi "tuple", .bi "bool", false), (.bi "dict", .bi "bool", false), (.own "Ratio", .bi "bool", false), (.own "Turn", .bi "bool", false)] : List (Ty × Ty × Bool))[j]? = some (t, .bi "bool", b2) → isI d = (b1 && !b2) →
      t_is_integer (endsOf Φ) (startD N_is_integer [d] (exOf Ψ)) M := by
    intro t b1 b2 j h1 h2 h3 h4
    unfold t_is_integer
    walk_at "ks"
    refine w_isiC h1 rfl (mem_at j h2) ?_
    walk_at "ks"
    cases b1 with
    | false =>
      walk_at "ks"
      rw [h4] at k
      exact ⟨_, Sub.rfl', k⟩
    | true =>
      walk_at "ks"
      refine w_isiC h1 rfl (mem_at j h3) ?_
      walk_at "ks"
      rw [h4] at k
      exact ⟨_, Sub.rfl', k⟩
  cases d with
  | non => exact key _ _ _ 0 rfl rfl rfl rfl
  | bl b => exact key _ _ _ 1 rfl rfl rfl rfl
  | int i => exact key _ _ _ 2 rfl rfl rfl rfl
  | str x => exact key _ _ _ 3 rfl rfl rfl rfl
  | lst x => exact key _ _ _ 4 rfl rfl rfl rfl
  | tup x => exact key _ _ _ 5 rfl rfl rfl rfl
  | dK x y => exact key _ _ _ 6 rfl rfl rfl rfl
  | ins c ns ds =>
    rcases hd with rfl | rfl
    · exact key _ _ _ 7 rfl rfl rfl rfl
    · exact key _ _ _ 8 rfl rfl rfl rfl
  | _ => exact hd.elim
theorem r_lowest : ∀ ds M Φ Ψ, p_lowest ds M Φ Ψ → ds.length = 2 ∧ t_lowest (endsOf Φ) (startD N_lowest ds (exOf Ψ)) M := by
  rintro ds M Φ Ψ ⟨t, b, rfl, hb, k⟩
  refine ⟨rfl, ?_⟩
  unfold t_lowest
  walk_at "ks"
  refine ⟨_, _, rfl, ?_⟩
  walk_at "ks"
  refine wh_inv (fun n Γ M' => M' = M ∧ ∃ u : Nat, Γ = ⟨[some (.int t), some (.int b), some (.int (u : Nat)), some (.int (n : Nat))], exOf Ψ⟩ ∧ Nat.gcd u n = Int.gcd t b) ?_ (n := b.natAbs) ⟨rfl, t.natAbs, rfl, rfl⟩
  rintro n Γ M' ⟨rfl, u, rfl, hg⟩ N hN
  walk_at "ks"
  refine oEq_ii ?_
  rw [if_pos rfl]
  walk_at "ks"
  cases n with
  | zero =>
    rw [Nat.gcd_zero_right] at hg
    refine ie (by simp) ?_
    walk_at "ks"
    have g0 := gcdS_ne (t := t) hb
    unfold low at k
    by_cases q : b < 0
    · refine it (decide_eq_true q) ?_
      walk_at "ks"
      have e : (0 : Int) - (u : Nat) = gcdS t b := by unfold gcdS; rw [if_pos q, hg]
      rw [e]
      refine ⟨g0, ?_⟩
      walk_at "ks"
      refine ⟨g0, ?_⟩
      walk_at "ks"
      exact ⟨two_sz, _, Sub.rfl', k⟩
    · refine ie (by simpa using q) ?_
      walk_at "ks"
      have e : ((u : Nat) : Int) = gcdS t b := by unfold gcdS; rw [if_neg q, hg]
      rw [e]
      refine ⟨g0, ?_⟩
      walk_at "ks"
      refine ⟨g0, ?_⟩
      walk_at "ks"
      exact ⟨two_sz, _, Sub.rfl', k⟩
  | succ n =>
    have e : (!decide (((n + 1 : Nat) : Int) = 0)) = true := by simp; omega
    refine it e ?_
    walk_at "ks"
    refine ⟨by omega, ?_⟩
    walk_at "ks"
    refine ⟨_, _, rfl, ?_⟩
    refine hN (u % (n + 1)) _ _ (Nat.mod_lt _ (Nat.succ_pos _)) ⟨rfl, n + 1, ?_, ?_⟩
    · have e2 : (u : Int).fmod ((n + 1 : Nat) : Int) = ((u % (n + 1) : Nat) : Int) := by
        rw [Int.fmod_eq_emod_of_nonneg _ (by omega)]; rfl
      rw [e2]; rfl
    · rw [← hg, Nat.gcd_comm u (n + 1), Nat.gcd_rec (n + 1) u]; exact Nat.gcd_comm _ _
theorem r_need_parts : ∀ ds M Φ Ψ, p_need_parts ds M Φ Ψ → ds.length = 2 ∧ t_need_parts (endsOf Φ) (startD N_need_parts ds (exOf Ψ)) M := by
  rintro ds M Φ Ψ ⟨t, b, rfl, ht, hb, k, kx⟩
  refine ⟨rfl, ?_⟩
  unfold t_need_parts
  walk_at "ks"
  refine ⟨t, rfl, ht, ?_⟩
  walk_at "ks"
  cases e1 : isI t with
  | false =>
    refine it rfl ?_
    walk_at "ks"
    refine ⟨_, Sub.rfl', kx ?_⟩
    cases t <;> first | rfl | exact Bool.noConfusion e1
  | true =>
    refine ie (by decide) ?_
    refine ⟨b, rfl, hb, ?_⟩
    walk_at "ks"
    cases e2 : isI b with
    | false =>
      refine it rfl ?_
      walk_at "ks"
      refine ⟨_, Sub.rfl', kx ?_⟩
      cases t <;> cases b <;> first | rfl | exact Bool.noConfusion e1 | exact Bool.noConfusion e2
    | true =>
      refine ie (by decide) ?_
      cases t with
      | int i =>
        cases b with
        | int j =>
          walk_at "ks"
          refine oEq_ii ?_
          rw [if_neg Bool.false_ne_true]
          walk_at "ks"
          by_cases q : j = 0
          · refine it (decide_eq_true q) ?_
            walk_at "ks"
            refine ⟨_, Sub.rfl', kx ?_⟩
            rw [q]; rfl
          · refine ie (by simpa using q) ?_
            walk_at "ks"
            exact ⟨_, Sub.rfl', k (goodP_int q)⟩
        | _ => cases e2
      | _ => cases e1
theorem r_Ratio_init : ∀ ds M Φ Ψ, p_Ratio_init ds M Φ Ψ → ds.length = 3 ∧ t_Ratio_init (endsOf Φ) (startD N_Ratio_init ds (exOf Ψ)) M := by
  rintro ds M Φ Ψ ⟨a, t, b, rfl, ht, hb, hm, k, kx⟩
  refine ⟨rfl, ?_⟩
  unfold t_Ratio_init
  walk_at "ks"
  refine ⟨t, b, rfl, ht, hb, fun g => ?_, fun g => ⟨_, Sub.rfl', kx g⟩⟩
  cases t with
  | int i =>
    cases b with
    | int j =>
      have hj : j ≠ 0 := by
        intro z
        rw [z] at g
        cases g
      walk_at "ks"
      refine ⟨i, j, rfl, hj, ?_⟩
      refine ⟨_, _, rfl, ?_⟩
      walk_at "ks"
      refine ⟨a, _, _, _, rfl, hm, List.mem_cons_self, by decide, ?_⟩
      walk_at "ks"
      refine ⟨a, _, _, _, rfl, Mem.put_same, List.mem_cons_self, by decide, ?_⟩
      refine ⟨_, Sub.rfl', ?_⟩
      rw [Mem.put_put]
      exact k i j rfl rfl hj
    | _ => cases g
  | _ => cases g
theorem r_Turn_init : ∀ ds M Φ Ψ, p_Turn_init ds M Φ Ψ → ds.length = 3 ∧ t_Turn_init (endsOf Φ) (startD N_Turn_init ds (exOf Ψ)) M := by
  rintro ds M Φ Ψ ⟨a, i, j, rfl, hj, hm, k⟩
  refine ⟨rfl, ?_⟩
  unfold t_Turn_init
  walk_at "ks"
  refine ⟨.int i, .int j, rfl, trivial, trivial, fun g => ?_, fun g => by rw [goodP_int hj] at g; cases g⟩
  walk_at "ks"
  refine ⟨i, j, rfl, hj, ?_⟩
  refine ⟨_, rfl, ?_⟩
  walk_at "ks"
  have hp := low_pos (t := i) hj
  refine ⟨by omega, ?_⟩
  walk_at "ks"
  refine ⟨two_sz, _, _, rfl, ?_⟩
  walk_at "ks"
  refine ⟨a, _, _, _, rfl, hm, List.mem_cons_of_mem _ List.mem_cons_self, by decide, ?_⟩
  walk_at "ks"
  refine ⟨a, _, _, _, rfl, Mem.put_same, List.mem_cons_of_mem _ List.mem_cons_self, by decide, ?_⟩
  refine ⟨_, Sub.rfl', ?_⟩
  rw [Mem.put_put]
  exact k
theorem r_Ratio_add : ∀ ds M Φ Ψ, p_Ratio_add ds M Φ Ψ → ds.length = 2 ∧ t_Ratio_add (endsOf Φ) (startD N_Ratio_add ds (exOf Ψ)) M := by
  rintro ds M Φ Ψ ⟨x, y, rfl, hx, hy, ⟨s1, s2, s3, s4⟩, k⟩
  refine ⟨rfl, ?_⟩
  unfold t_Ratio_add
  walk_at "ks"
  refine f_top ?_
  walk_at "ks"
  refine f_bot ?_
  refine ⟨s1.mul s4, ?_⟩
  walk_at "ks"
  refine f_top ?_
  walk_at "ks"
  refine f_bot ?_
  refine ⟨s3.mul s2, ?_⟩
  walk_at "ks"
  refine f_bot ?_
  walk_at "ks"
  refine f_bot ?_
  refine ⟨s2.mul s4, ?_⟩
  walk_at "ks"
  exact fun a ha => mk_rat (Int.mul_ne_zero hx hy) ha ⟨M, Sub.rfl', k⟩
theorem r_Ratio_sub : ∀ ds M Φ Ψ, p_Ratio_sub ds M Φ Ψ → ds.length = 2 ∧ t_Ratio_sub (endsOf Φ) (startD N_Ratio_sub ds (exOf Ψ)) M := by
  rintro ds M Φ Ψ ⟨x, y, rfl, hx, hy, ⟨s1, s2, s3, s4⟩, k⟩
  refine ⟨rfl, ?_⟩
  unfold t_Ratio_sub
  walk_at "ks"
  refine f_top ?_
  walk_at "ks"
  refine f_bot ?_
  refine ⟨s1.mul s4, ?_⟩
  walk_at "ks"
  refine f_top ?_
  walk_at "ks"
  refine f_bot ?_
  refine ⟨s3.mul s2, ?_⟩
  walk_at "ks"
  refine f_bot ?_
  walk_at "ks"
  refine f_bot ?_
  refine ⟨s2.mul s4, ?_⟩
  walk_at "ks"
  exact fun a ha => mk_rat (Int.mul_ne_zero hx hy) ha ⟨M, Sub.rfl', k⟩
theorem r_Ratio_mul : ∀ ds M Φ Ψ, p_Ratio_mul ds M Φ Ψ → ds.length = 2 ∧ t_Ratio_mul (endsOf Φ) (startD N_Ratio_mul ds (exOf Ψ)) M := by
  rintro ds M Φ Ψ ⟨x, hx, s1, s2, h⟩
  rcases h with ⟨n, rfl, hn, k⟩ | ⟨y, rfl, hy, s3, s4, k⟩
  · refine ⟨rfl, ?_⟩
    unfold t_Ratio_mul
    walk_at "ks"
    refine w_isiC (t := .bi "int") (c := .bi "int") (b := true) rfl rfl (mem_at 0 rfl) ?_
    walk_at "ks"
    refine f_top ?_
    walk_at "ks"
    refine ⟨s1.mul hn, ?_⟩
    walk_at "ks"
    refine f_bot ?_
    walk_at "ks"
    exact fun a ha => mk_rat hx ha ⟨M, Sub.rfl', k⟩
  · refine ⟨rfl, ?_⟩
    unfold t_Ratio_mul
    walk_at "ks"
    refine w_isiC (t := .own "Ratio") (c := .bi "int") (b := false) rfl rfl (mem_at 1 rfl) ?_
    walk_at "ks"
    refine f_top ?_
    walk_at "ks"
    refine f_top ?_
    refine ⟨s1.mul s3, ?_⟩
    walk_at "ks"
    refine f_bot ?_
    walk_at "ks"
    refine f_bot ?_
    refine ⟨s2.mul s4, ?_⟩
    walk_at "ks"
    exact fun a ha => mk_rat (Int.mul_ne_zero hx hy) ha ⟨M, Sub.rfl', k⟩
theorem r_Ratio_neg : ∀ ds M Φ Ψ, p_Ratio_neg ds M Φ Ψ → ds.length = 1 ∧ t_Ratio_neg (endsOf Φ) (startD N_Ratio_neg ds (exOf Ψ)) M := by
  rintro ds M Φ Ψ ⟨x, rfl, hx, k⟩
  refine ⟨rfl, ?_⟩
  unfold t_Ratio_neg
  walk_at "ks"
  refine f_top ?_
  walk_at "ks"
  refine f_bot ?_
  walk_at "ks"
  exact fun a ha => mk_rat hx ha ⟨M, Sub.rfl', k⟩
theorem r_Ratio_eq : ∀ ds M Φ Ψ, p_Ratio_eq ds M Φ Ψ → ds.length = 2 ∧ t_Ratio_eq (endsOf Φ) (startD N_Ratio_eq ds (exOf Ψ)) M := by
  rintro ds M Φ Ψ ⟨x, d, rfl, h⟩
  refine ⟨rfl, ?_⟩
  rcases h with ⟨y, rfl, k⟩ | ⟨hd, k⟩
  · unfold t_Ratio_eq
    walk_at "ks"
    refine w_isiC (t := .own "Ratio") (c := .own "Ratio") (b := true) rfl rfl (mem_at 7 rfl) ?_
    walk_at "ks"
    refine f_top ?_
    walk_at "ks"
    refine f_top ?_
    refine oEq_ii ?_
    rw [if_neg Bool.false_ne_true]
    walk_at "ks"
    by_cases q : x.1 = y.1
    · rw [decide_eq_true q]
      walk_at "ks"
      refine f_bot ?_
      walk_at "ks"
      refine f_bot ?_
      refine oEq_ii ?_
      rw [if_neg Bool.false_ne_true]
      refine ⟨_, Sub.rfl', ?_⟩
      have e : decide (x.2 = y.2) = decide (x = y) := by
        by_cases q2 : x.2 = y.2
        · rw [decide_eq_true q2, decide_eq_true (Prod.ext q q2)]
        · rw [decide_eq_false q2, decide_eq_false fun z => q2 (by rw [z])]
      rw [e]
      exact k
    · rw [decide_eq_false q]
      walk_at "ks"
      have e : false = decide (x = y) := (decide_eq_false fun z => q (by rw [z])).symm
      rw [e]
      exact ⟨_, Sub.rfl', k⟩
  · have key : ∀ (t : Ty) (j : Nat), tyOf M d = some t → ([(.bi "NoneType", .own "Ratio", false), (.bi "bool", .own "Ratio", false), (.bi "int", .own "Ratio", false), (.bi "str", .own "Ratio", false), (.bi "list", .own "Ratio", false), (.bi "tuple", .own "Ratio", false), (.own "Turn", .own "Ratio", false), (.own "Ratio", .own "Ratio", true)] : List (Ty × Ty × Bool))[j]? = some (t, .own "Ratio", false) →
      t_Ratio_eq (endsOf Φ) (startD N_Ratio_eq [ratD x, d] (exOf Ψ)) M := by
      intro t j h1 h2
      unfold t_Ratio_eq
      walk_at "ks"
      refine w_isiC h1 rfl (mem_at j h2) ?_
      walk_at "ks"
      exact ⟨_, Sub.rfl', k⟩
    cases d with
    | non => exact key _ 0 rfl rfl
    | bl b => exact key _ 1 rfl rfl
    | int i => exact key _ 2 rfl rfl
    | str x => exact key _ 3 rfl rfl
    | lst x => exact key _ 4 rfl rfl
    | tup x => exact key _ 5 rfl rfl
    | ins c ns ds =>
      cases (show c = "Turn" from hd)
      exact key _ 6 rfl rfl
    | _ => exact hd.elim
theorem r_Ratio_bool : ∀ ds M Φ Ψ, p_Ratio_bool ds M Φ Ψ → ds.length = 1 ∧ t_Ratio_bool (endsOf Φ) (startD N_Ratio_bool ds (exOf Ψ)) M := by
  rintro ds M Φ Ψ ⟨x, rfl, k⟩
  refine ⟨rfl, ?_⟩
  unfold t_Ratio_bool
  walk_at "ks"
  refine f_top ?_
  walk_at "ks"
  refine oEq_ii ?_
  rw [if_pos rfl]
  walk_at "ks"
  exact ⟨_, Sub.rfl', k⟩
theorem r_Ratio_under : ∀ ds M Φ Ψ, p_Ratio_under ds M Φ Ψ → ds.length = 2 ∧ t_Ratio_under (endsOf Φ) (startD N_Ratio_under ds (exOf Ψ)) M := by
  rintro ds M Φ Ψ ⟨x, y, rfl, ⟨s1, s2, s3, s4⟩, k⟩
  refine ⟨rfl, ?_⟩
  unfold t_Ratio_under
  walk_at "ks"
  refine f_top ?_
  walk_at "ks"
  refine f_bot ?_
  refine ⟨s1.mul s4, ?_⟩
  walk_at "ks"
  refine f_top ?_
  walk_at "ks"
  refine f_bot ?_
  refine ⟨s3.mul s2, ?_⟩
  walk_at "ks"
  exact ⟨_, Sub.rfl', k⟩
theorem r_Ratio_over : ∀ ds M Φ Ψ, p_Ratio_over ds M Φ Ψ → ds.length = 2 ∧ t_Ratio_over (endsOf Φ) (startD N_Ratio_over ds (exOf Ψ)) M := by
  rintro ds M Φ Ψ ⟨x, y, rfl, hx, ⟨s1, s2, s3, s4⟩, k, kx⟩
  refine ⟨rfl, ?_⟩
  unfold t_Ratio_over
  walk_at "ks"
  refine f_top ?_
  walk_at "ks"
  refine f_bot ?_
  refine ⟨s1.mul s4, ?_⟩
  walk_at "ks"
  refine f_bot ?_
  walk_at "ks"
  refine f_top ?_
  refine ⟨s2.mul s3, ?_⟩
  walk_at "ks"
  intro a ha
  by_cases q : y.1 = 0
  · refine ⟨a, _, _, rfl, trivial, trivial, Mem.put_same, fun i j _ e2 hj => ?_, fun _ => ⟨_, Sub.rfl', ?_⟩⟩
    · have : j = x.2 * y.1 := by injection e2 with e2; exact e2.symm
      rw [q, Int.mul_zero] at this
      exact absurd this hj
    · rw [Mem.put_del ha]
      exact kx q
  · exact mk_rat (Int.mul_ne_zero hx q) ha ⟨M, Sub.rfl', k q⟩
end K00
namespace K00
open PySem PySem.Spec PyProof.Rows L2 EX Spx
local macro_rules | `(tactic| walk_at "ks") => `(tactic| (with_reducible (repeat (first | (apply w_v; (next => with_unfolding_all rfl)) | refine w_seq ?_ | refine w_ret ?_ | refine w_set ?_ | refine w_asg ?_ | refine w_par ?_ | refine w_drop ?_ | refine w_ifS ?_ | refine w_for ?_ | refine w_test ?_ | refine w_op ?_ | refine w_un ?_ | refine w_c ?_ | refine w_cb ?_ | refine w_cons ?_ | refine w_nil ?_ | refine w_tup ?_ | refine w_lst ?_ | refine w_lstO ?_ | refine w_not ?_ | refine w_and ?_ | refine w_or ?_ | refine w_andV ?_ | refine w_orV ?_ | refine w_notV ?_ | refine w_if ?_ | refine w_onB ?_ | refine w_noPart ?_ | refine w_part ?_ | refine w_onI ?_ | refine w_sl ?_ | refine w_lc ?_ | refine w_lcO ?_ | refine w_diList ?_ | refine w_diZip ?_ | refine w_diEnum ?_ | refine w_diRng1 ?_ | refine w_mt ?_ | refine w_gt ?_ | refine w_lt ?_ | refine w_le ?_ | refine w_ge ?_ | refine w_addI ?_ | refine w_subI ?_ | refine w_neg ?_ | refine w_abs ?_ | refine w_int ?_ | refine w_intB ?_ | refine w_isN ?_ | refine w_notN ?_ | refine w_yes ?_ | refine w_itt ?_ | refine w_iff ?_ | refine w_lz ?_ | refine w_callK ?_ | refine w_call ?_ | refine w_call0 ?_ | refine w_chain ?_ | refine w_setIx ?_ | refine w_diTup ?_ | refine w_onT ?_ | refine w_next ?_ | refine w_diEnumZip ?_ | refine w_fld ?_ | refine w_setF ?_ | refine w_setF2 ?_ | refine w_meth ?_ | refine w_make ?_ | refine w_ss ?_ | refine w_rev ?_ | refine w_dict0 ?_ | refine w_dict1 ?_ | refine w_exc0 ?_ | refine w_excS ?_ | refine w_raise0 ?_ | refine w_fldE ?_ | refine w_tru ?_ | refine w_notT ?_ | refine w_fmt ?_ | refine w_joined ?_ | refine w_js0 ?_ | refine w_js ?_ | refine w_zipT ?_ | refine w_par3 ?_ | refine w_methK ?_ | refine w_makeK ?_ | refine w_tryAs ?_ | refine w_bool0 ?_ | refine w_strS ?_ | refine w_slT ?_))))
/-! ### texts -/
theorem num_len {i : Int} (h : St i) : (toString i : Str).length ≤ 1921 := PyProof.Rows.int_text_len_1921 h
theorem sz_of {n : Nat} (h : n ≤ 10000) : n ≤ sizeLine := Nat.le_trans h (by rw [sizeLine_eq]; decide)
theorem r_Ratio_str : ∀ ds M Φ Ψ, p_Ratio_str ds M Φ Ψ → ds.length = 1 ∧ t_Ratio_str (endsOf Φ) (startD N_Ratio_str ds (exOf Ψ)) M := by
  rintro ds M Φ Ψ ⟨x, rfl, s1, s2, k⟩
  have l1 := num_len s1
  have l2 := num_len s2
  refine ⟨rfl, ?_⟩
  unfold t_Ratio_str
  walk_at "ks"
  refine f_bot ?_
  walk_at "ks"
  refine oEq_ii ?_
  rw [if_neg Bool.false_ne_true]
  walk_at "ks"
  unfold strR at k
  by_cases q : x.2 = 1
  · refine it (decide_eq_true q) ?_
    walk_at "ks"
    refine f_top ?_
    refine w_onFI s1 ?_
    rw [if_pos q] at k
    exact ⟨_, Sub.rfl', k⟩
  · refine ie (by simpa using q) ?_
    rw [if_neg q] at k
    walk_at "ks"
    refine f_top ?_
    refine w_onFI s1 ?_
    refine ⟨_, rfl, ?_⟩
    rw [Str.empty_append]
    refine ⟨sz_of (by omega), ?_⟩
    walk_at "ks"
    refine ⟨_, rfl, sz_of ?_, ?_⟩
    · rw [strLen_append]
      have : (Str.ofString "/").length = 1 := rfl
      omega
    walk_at "ks"
    refine f_bot ?_
    refine w_onFI s2 ?_
    refine ⟨_, rfl, sz_of ?_, ?_⟩
    · rw [strLen_append, strLen_append]
      have : (Str.ofString "/").length = 1 := rfl
      omega
    walk_at "ks"
    exact ⟨_, Sub.rfl', k⟩
theorem r_Ratio_repr : ∀ ds M Φ Ψ, p_Ratio_repr ds M Φ Ψ → ds.length = 1 ∧ t_Ratio_repr (endsOf Φ) (startD N_Ratio_repr ds (exOf Ψ)) M := by
  rintro ds M Φ Ψ ⟨x, rfl, s1, s2, k⟩
  have l1 := num_len s1
  have l2 := num_len s2
  have c1 : (Str.ofString "Ratio(").length = 6 := rfl
  have c2 : (Str.ofString ", ").length = 2 := rfl
  have c3 : (Str.ofString ")").length = 1 := rfl
  refine ⟨rfl, ?_⟩
  unfold t_Ratio_repr
  unfold reprR at k
  walk_at "ks"
  refine ⟨_, rfl, ?_⟩
  rw [Str.empty_append]
  refine ⟨sz_of (by omega), ?_⟩
  walk_at "ks"
  refine f_top ?_
  refine w_onFI s1 ?_
  refine ⟨_, rfl, sz_of (by rw [strLen_append]; omega), ?_⟩
  walk_at "ks"
  refine ⟨_, rfl, sz_of (by rw [strLen_append, strLen_append]; omega), ?_⟩
  walk_at "ks"
  refine f_bot ?_
  refine w_onFI s2 ?_
  refine ⟨_, rfl, sz_of (by rw [strLen_append, strLen_append, strLen_append]; omega), ?_⟩
  walk_at "ks"
  refine ⟨_, rfl, sz_of (by rw [strLen_append, strLen_append, strLen_append, strLen_append]; omega), ?_⟩
  walk_at "ks"
  exact ⟨_, Sub.rfl', k⟩
end K00
namespace K00
open PySem PySem.Spec PyProof.Rows L2 EX Spx
local macro_rules | `(tactic| walk_at "ks") => `(tactic| (with_reducible (repeat (first | (apply w_v; (next => with_unfolding_all rfl)) | refine w_seq ?_ | refine w_ret ?_ | refine w_set ?_ | refine w_asg ?_ | refine w_par ?_ | refine w_drop ?_ | refine w_ifS ?_ | refine w_for ?_ | refine w_test ?_ | refine w_op ?_ | refine w_un ?_ | refine w_c ?_ | refine w_cb ?_ | refine w_cons ?_ | refine w_nil ?_ | refine w_tup ?_ | refine w_lst ?_ | refine w_lstO ?_ | refine w_not ?_ | refine w_and ?_ | refine w_or ?_ | refine w_andV ?_ | refine w_orV ?_ | refine w_notV ?_ | refine w_if ?_ | refine w_onB ?_ | refine w_noPart ?_ | refine w_part ?_ | refine w_onI ?_ | refine w_sl ?_ | refine w_lc ?_ | refine w_lcO ?_ | refine w_diList ?_ | refine w_diZip ?_ | refine w_diEnum ?_ | refine w_diRng1 ?_ | refine w_mt ?_ | refine w_gt ?_ | refine w_lt ?_ | refine w_le ?_ | refine w_ge ?_ | refine w_addI ?_ | refine w_subI ?_ | refine w_neg ?_ | refine w_abs ?_ | refine w_int ?_ | refine w_intB ?_ | refine w_isN ?_ | refine w_notN ?_ | refine w_yes ?_ | refine w_itt ?_ | refine w_iff ?_ | refine w_lz ?_ | refine w_callK ?_ | refine w_call ?_ | refine w_call0 ?_ | refine w_chain ?_ | refine w_setIx ?_ | refine w_diTup ?_ | refine w_onT ?_ | refine w_next ?_ | refine w_diEnumZip ?_ | refine w_fld ?_ | refine w_setF ?_ | refine w_setF2 ?_ | refine w_meth ?_ | refine w_make ?_ | refine w_ss ?_ | refine w_rev ?_ | refine w_dict0 ?_ | refine w_dict1 ?_ | refine w_exc0 ?_ | refine w_excS ?_ | refine w_raise0 ?_ | refine w_fldE ?_ | refine w_tru ?_ | refine w_notT ?_ | refine w_fmt ?_ | refine w_joined ?_ | refine w_js0 ?_ | refine w_js ?_ | refine w_zipT ?_ | refine w_par3 ?_ | refine w_methK ?_ | refine w_makeK ?_ | refine w_tryAs ?_ | refine w_bool0 ?_ | refine w_strS ?_ | refine w_slT ?_))))
theorem dn {p : Prop} [Decidable p] (h : ¬ p) : ¬ (decide p = true) := by simpa using h
theorem r__law_pen : ∀ ds M Φ Ψ, p__law_pen ds M Φ Ψ → ds.length = 1 ∧ t__law_pen (endsOf Φ) (startD N__law_pen ds (exOf Ψ)) M := by
  rintro ds M Φ Ψ ⟨ns, rfl, k⟩
  refine ⟨rfl, ?_⟩
  unfold t__law_pen
  walk_at "ks"
  refine ⟨_, rfl, ?_⟩
  walk_at "ks"
  refine ⟨_, _, rfl, rfl, ?_⟩
  walk_at "ks"
  refine ⟨three_sz, fun p hp => ⟨_, Sub.rfl', k p _ hp Oth.put ⟨ns.take 63, 0, 0, ?_, by omega⟩⟩⟩
  rw [Mem.put_same]
  have e := cut_take (ds := ns.map Dat.int) (k := 63)
  have e2 : ((63 : Nat) : Int) = 63 := rfl
  rw [e2] at e
  rw [e, ← List.map_take]
  rfl
theorem r__law_draw : ∀ ds M Φ Ψ, p__law_draw ds M Φ Ψ → ds.length = 2 ∧ t__law_draw (endsOf Φ) (startD N__law_draw ds (exOf Ψ)) M := by
  rintro ds M Φ Ψ ⟨p, many, kk, rfl, h1, ⟨ns, a, g, hp, hk⟩, k⟩
  refine ⟨rfl, ?_⟩
  unfold t__law_draw
  have m0 : many ≠ 0 := by omega
  walk_at "ks"
  refine (pen_ix hp).2.2 ?_
  walk_at "ks"
  by_cases c : 0 < g
  · refine it (by simp; omega) ?_
    walk_at "ks"
    refine (pen_ix hp).2.2 ?_
    walk_at "ks"
    refine ⟨m0, ?_⟩
    walk_at "ks"
    refine (pen_ix hp).2.2 ?_
    walk_at "ks"
    refine ⟨m0, ?_⟩
    walk_at "ks"
    refine ⟨p, 2, _, 2, rfl, rfl, l_of hp, rfl, ?_⟩
    walk_at "ks"
    have hm := fmod_rng (g : Int) h1
    refine ⟨_, Sub.rfl', k _ _ hm.1 hm.2 Oth.put ⟨ns, a, g / many.toNat, ?_, by omega⟩⟩
    rw [Mem.put_same, fdiv_nat g h1]; rfl
  · refine ie (by simp; omega) ?_
    walk_at "ks"
    refine (pen_ix hp).2.1 ?_
    walk_at "ks"
    refine ⟨p, 1, _, 1, rfl, rfl, l_of hp, rfl, ?_⟩
    have hp2 : (M.put p (.lst [rowD ns, .int ((a : Int) + 1), .int (g : Nat)])) p = some (.lst [rowD ns, .int ((a : Int) + 1), .int (g : Nat)]) := Mem.put_same
    have o2 : Oth p M (M.put p (.lst [rowD ns, .int ((a : Int) + 1), .int (g : Nat)])) := Oth.put
    show (_ : Mem → Prop) (M.put p (.lst [rowD ns, .int ((a : Int) + 1), .int (g : Nat)]))
    generalize M.put p (.lst [rowD ns, .int ((a : Int) + 1), .int (g : Nat)]) = M2 at hp2 o2
    have pn : PenAt M2 p kk := ⟨ns, a + 1, g, by rw [hp2]; rfl, by omega⟩
    walk_at "ks"
    refine ⟨mulS (.inl (by decide)), ?_⟩
    walk_at "ks"
    refine (pen_ix hp2).1 ?_
    walk_at "ks"
    refine ⟨Nat.zero_le _, ?_⟩
    refine oEq_nil (xs := ns) toP_row (by decide) ?_
    walk_at "ks"
    have rest : ∀ (cell : Int) (w4 w5 w6 : Option Dat), (dSeq (dIfS (dAnd (dTest (dOp oLt (dVar 2) (dCB oLen (dCons (dOp oIx (dVar 0) (dC (.int 0))) (dNil))))) (dTest (dOp oGe (dCB oAbs (dCons (dVar 3) (dNil))) (dOp oPow (dC (.int 10)) (dC (.int 18)))))) (dSeq (dSet (dOp oAdd (dOp oMul (dC (.int 2)) (dOp oSub (dCB oAbs (dCons (dVar 3) (dNil))) (dOp oPow (dC (.int 10)) (dC (.int 18))))) (dCB oInt (dCons (dOp oLt (dVar 3) (dC (.int 0))) (dNil)))) 6) (dSeq (dSetIx (dVar 0) (dC (.int 2)) (dOp oFdiv (dVar 6) (dVar 1))) (dRet (dOp oMod (dCB oInt (dCons (dVar 6) (dNil))) (dVar 1))))) (dNext)) (dSeq (dSet (dOp oMod (dCB oInt (dCons (dOp oPow (dOp oAdd (dOp oAdd (dOp oAdd (dOp oMod (dCB oInt (dCons (dVar 3) (dNil))) (dC (.int 2147483549))) (dOp oMul (dOp oMul (dC (.int 30011)) (dVar 2)) (dVar 2))) (dOp oMul (dC (.int 20011)) (dVar 2))) (dC (.int 7))) (dC (.int 3))) (dNil))) (dC (.int 2147483647))) 4) (dSeq (dSet (dOp oMod (dCB oInt (dCons (dOp oPow (dOp oAdd (dOp oAdd (dOp oMul (dVar 4) (dOp oAdd (dOp oMul (dC (.int 2)) (dVar 2)) (dC (.int 15)))) (dOp oMul (dC (.int 50021)) (dVar 2))) (dC (.int 3))) (dC (.int 5))) (dNil))) (dC (.int 2147483563))) 4) (dRet (dOp oMod (dCB oInt (dCons (dOp oFdiv (dVar 4) (dC (.int 32))) (dNil))) (dVar 1)))))) (endsOf Φ) ⟨[some (.loc p), some (.int many), some (.int (a : Nat)), some (.int cell), w4, w5, w6], exOf Ψ⟩ M2 := by
      intro cell w4 w5 w6
      walk_at "ks"
      refine (pen_ix hp2).1 ?_
      walk_at "ks"
      refine ⟨_, _, rfl, rfl, ?_⟩
      walk_at "ks"
      have fin : (dSeq (dSet (dOp oMod (dCB oInt (dCons (dOp oPow (dOp oAdd (dOp oAdd (dOp oAdd (dOp oMod (dCB oInt (dCons (dVar 3) (dNil))) (dC (.int 2147483549))) (dOp oMul (dOp oMul (dC (.int 30011)) (dVar 2)) (dVar 2))) (dOp oMul (dC (.int 20011)) (dVar 2))) (dC (.int 7))) (dC (.int 3))) (dNil))) (dC (.int 2147483647))) 4) (dSeq (dSet (dOp oMod (dCB oInt (dCons (dOp oPow (dOp oAdd (dOp oAdd (dOp oMul (dVar 4) (dOp oAdd (dOp oMul (dC (.int 2)) (dVar 2)) (dC (.int 15)))) (dOp oMul (dC (.int 50021)) (dVar 2))) (dC (.int 3))) (dC (.int 5))) (dNil))) (dC (.int 2147483563))) 4) (dRet (dOp oMod (dCB oInt (dCons (dOp oFdiv (dVar 4) (dC (.int 32))) (dNil))) (dVar 1))))) (endsOf Φ) ⟨[some (.loc p), some (.int many), some (.int (a : Nat)), some (.int cell), w4, w5, w6], exOf Ψ⟩ M2 := by
        walk_at "ks"
        refine ⟨by decide, ?_⟩
        have r1 := fmod_rng cell (show (1 : Int) ≤ 2147483549 by decide)
        walk_at "ks"
        refine ⟨mulS (.inl (by decide)), ?_⟩
        walk_at "ks"
        refine ⟨mulS (.inr (by omega)), ?_⟩
        walk_at "ks"
        refine ⟨mulS (.inl (by decide)), ?_⟩
        walk_at "ks"
        have b2 : 0 ≤ 30011 * (a : Int) * (a : Int) ∧ 30011 * (a : Int) * (a : Int) ≤ 30011 * 1048576 * 1048576 := by
          refine ⟨Int.mul_nonneg (by omega) (by omega), ?_⟩
          exact Int.mul_le_mul (by omega) (by omega) (by omega) (by omega)
        refine ⟨⟨by decide, by decide, by omega⟩, ?_⟩
        walk_at "ks"
        refine ⟨by decide, ?_⟩
        have r2 := fmod_rng ((cell.fmod 2147483549 + 30011 * (a : Int) * (a : Int) + 20011 * (a : Int) + 7) ^ (3 : Int).toNat) (show (1 : Int) ≤ 2147483647 by decide)
        generalize ((cell.fmod 2147483549 + 30011 * (a : Int) * (a : Int) + 20011 * (a : Int) + 7) ^ (3 : Int).toNat).fmod 2147483647 = m1 at r2
        walk_at "ks"
        refine ⟨mulS (.inl (by decide)), ?_⟩
        walk_at "ks"
        refine ⟨mulS (.inl (by omega)), ?_⟩
        walk_at "ks"
        refine ⟨mulS (.inl (by decide)), ?_⟩
        walk_at "ks"
        have b1 : 0 ≤ m1 * (2 * (a : Int) + 15) ∧ m1 * (2 * (a : Int) + 15) ≤ 2147483647 * (2 * 1048576 + 15) := by
          refine ⟨Int.mul_nonneg r2.1 (by omega), ?_⟩
          exact Int.mul_le_mul (by omega) (by omega) (by omega) (by omega)
        refine ⟨⟨by decide, by decide, by omega⟩, ?_⟩
        walk_at "ks"
        refine ⟨by decide, ?_⟩
        walk_at "ks"
        refine ⟨by decide, ?_⟩
        walk_at "ks"
        refine ⟨m0, ?_⟩
        have hm := fmod_rng ((((m1 * (2 * (a : Int) + 15) + 50021 * (a : Int) + 3) ^ (5 : Int).toNat).fmod 2147483563).fdiv 32) h1
        exact ⟨_, Sub.rfl', k _ _ hm.1 hm.2 o2 pn⟩
      by_cases c1 : (a : Int) < (((ns.map Dat.int).length : Nat) : Int)
      · refine it (decide_eq_true c1) ?_
        walk_at "ks"
        refine ⟨⟨by decide, by decide, by decide⟩, ?_⟩
        walk_at "ks"
        by_cases c2 : (10 : Int) ^ (18 : Int).toNat ≤ (cell.natAbs : Int)
        · refine it (decide_eq_true c2) ?_
          walk_at "ks"
          refine ⟨⟨by decide, by decide, by decide⟩, ?_⟩
          walk_at "ks"
          refine ⟨mulS (.inl (by decide)), ?_⟩
          walk_at "ks"
          refine ⟨m0, ?_⟩
          walk_at "ks"
          refine ⟨p, 2, _, 2, rfl, rfl, l_of hp2, rfl, ?_⟩
          walk_at "ks"
          refine ⟨m0, ?_⟩
          have hg : ∃ gg : Nat, 2 * ((cell.natAbs : Int) - (10 : Int) ^ (18 : Int).toNat) + (if decide (cell < 0) = true then 1 else 0) = (gg : Int) := ⟨(2 * ((cell.natAbs : Int) - (10 : Int) ^ (18 : Int).toNat) + (if decide (cell < 0) = true then 1 else 0)).toNat, by
            have z : (0 : Int) ≤ if decide (cell < 0) = true then 1 else 0 := by split <;> decide
            omega⟩
          obtain ⟨gg, hgg⟩ := hg
          rw [hgg]
          have hm := fmod_rng (gg : Int) h1
          refine ⟨_, Sub.rfl', k _ _ hm.1 hm.2 (o2.trans Oth.put) ⟨ns, a + 1, gg / many.toNat, ?_, by omega⟩⟩
          rw [Mem.put_same, fdiv_nat gg h1]; rfl
        · refine ie (dn c2) ?_
          walk_at "ks"
          exact fin
      · refine ie (dn c1) ?_
        walk_at "ks"
        exact fin
    by_cases cn : ns = []
    · refine ie (by simp [cn]) ?_
      walk_at "ks"
      exact rest _ _ _ _
    · refine it (by simp [cn]) ?_
      walk_at "ks"
      refine (pen_ix hp2).1 ?_
      walk_at "ks"
      refine (pen_ix hp2).1 ?_
      walk_at "ks"
      refine ⟨_, _, rfl, rfl, ?_⟩
      have l0 : 0 < ns.length := List.length_pos_iff.mpr cn
      rw [List.length_map]
      refine ⟨by omega, ?_⟩
      have em : (a : Int).fmod ((ns.length : Nat) : Int) = ((a % ns.length : Nat) : Int) := by
        rw [Int.fmod_eq_emod_of_nonneg _ (by omega)]; rfl
      rw [em]
      refine ix_row (r := ns) RowAt.rd (Nat.mod_lt _ l0) ?_
      exact rest _ _ _ _
end K00
namespace K00
open PySem PySem.Spec PyProof.Rows L2 EX Spx
local macro_rules | `(tactic| walk_at "ks") => `(tactic| (with_reducible (repeat (first | (apply w_v; (next => with_unfolding_all rfl)) | refine w_seq ?_ | refine w_ret ?_ | refine w_set ?_ | refine w_asg ?_ | refine w_par ?_ | refine w_drop ?_ | refine w_ifS ?_ | refine w_for ?_ | refine w_test ?_ | refine w_op ?_ | refine w_un ?_ | refine w_c ?_ | refine w_cb ?_ | refine w_cons ?_ | refine w_nil ?_ | refine w_tup ?_ | refine w_lst ?_ | refine w_lstO ?_ | refine w_not ?_ | refine w_and ?_ | refine w_or ?_ | refine w_andV ?_ | refine w_orV ?_ | refine w_notV ?_ | refine w_if ?_ | refine w_onB ?_ | refine w_noPart ?_ | refine w_part ?_ | refine w_onI ?_ | refine w_sl ?_ | refine w_lc ?_ | refine w_lcO ?_ | refine w_diList ?_ | refine w_diZip ?_ | refine w_diEnum ?_ | refine w_diRng1 ?_ | refine w_mt ?_ | refine w_gt ?_ | refine w_lt ?_ | refine w_le ?_ | refine w_ge ?_ | refine w_addI ?_ | refine w_subI ?_ | refine w_neg ?_ | refine w_abs ?_ | refine w_int ?_ | refine w_intB ?_ | refine w_isN ?_ | refine w_notN ?_ | refine w_yes ?_ | refine w_itt ?_ | refine w_iff ?_ | refine w_lz ?_ | refine w_callK ?_ | refine w_call ?_ | refine w_call0 ?_ | refine w_chain ?_ | refine w_setIx ?_ | refine w_diTup ?_ | refine w_onT ?_ | refine w_next ?_ | refine w_diEnumZip ?_ | refine w_fld ?_ | refine w_setF ?_ | refine w_setF2 ?_ | refine w_meth ?_ | refine w_make ?_ | refine w_ss ?_ | refine w_rev ?_ | refine w_dict0 ?_ | refine w_dict1 ?_ | refine w_exc0 ?_ | refine w_excS ?_ | refine w_raise0 ?_ | refine w_fldE ?_ | refine w_tru ?_ | refine w_notT ?_ | refine w_fmt ?_ | refine w_joined ?_ | refine w_js0 ?_ | refine w_js ?_ | refine w_zipT ?_ | refine w_par3 ?_ | refine w_methK ?_ | refine w_makeK ?_ | refine w_tryAs ?_ | refine w_bool0 ?_ | refine w_strS ?_ | refine w_slT ?_))))
section
variable {M : Mem} {Φ : Dat → Mem → Prop}
theorem add_ll {a b : List Dat} (hz : a.length + b.length ≤ 10000) (k : Φ (.lst (a ++ b)) M) : oAdd (.lst a) (.lst b) M Φ := ⟨a, b, rfl, rfl, sz_of hz, k⟩
theorem add_ss {a b : Str} (hz : a.length + b.length ≤ 10000) (k : Φ (.str (a ++ b)) M) : oAdd (.str a) (.str b) M Φ := ⟨sz_of hz, k⟩
theorem ix_any {d : Dat} {ds : List Dat} {v : Int} (hd : vq M d = some ds) (h0 : 0 ≤ v) (h1 : v < ((ds.length : Nat) : Int)) (k : ∀ d ∈ ds, Φ d M) : oIx d (.int v) M Φ := by
  obtain ⟨j, rfl⟩ := Int.eq_ofNat_of_zero_le h0
  have hj : j < ds.length := by omega
  exact ix_at hd (List.getElem?_eq_getElem hj) (k _ (List.getElem_mem hj))
theorem isiE {a : Addr} {c d : Str} (ha : ExAt M a c) (hc : c ∈ excs) (hd : d ∈ excs) (k : Φ (.bl (c == d)) M) : oIsiC tabE [.loc a, .cls d] M Φ := by
  obtain ⟨ns, ds, e⟩ := ha
  refine w_isiC (t := .own c) (c := .own d) ?_ rfl ?_ k
  · show (match M a with
      | some (.lst _) => some (Ty.bi "list")
      | some (.ins c _ _) => some (.own c)
      | some (.dK _ _) => some (.bi "dict")
      | some (.dT _ _) => some (.bi "dict")
      | some (.exn c _ _) => some (.own c)
      | none => none) = _
    rw [e]
  · exact List.mem_append_left _ (List.mem_flatMap.mpr ⟨c, hc, List.mem_map.mpr ⟨d, hd, rfl⟩⟩)
theorem isiT {a : Addr} {c : Str} (ha : ExAt M a c) (hc : c ∈ excs ∨ c = "TurnsError") (k : Φ (.bl true) M) : oIsiC tabE [.loc a, .cls "TurnsError"] M Φ ∧ oIsiC tabE [.loc a, .ty "ValueError"] M Φ := by
  obtain ⟨ns, ds, e⟩ := ha
  have ht : tyOf M (.loc a) = some (.own c) := by
    show (match M a with
      | some (.lst _) => some (Ty.bi "list")
      | some (.ins c _ _) => some (.own c)
      | some (.dK _ _) => some (.bi "dict")
      | some (.dT _ _) => some (.bi "dict")
      | some (.exn c _ _) => some (.own c)
      | none => none) = _
    rw [e]
  have hm : c ∈ excs ++ [("TurnsError" : Str)] := by
    rcases hc with h | rfl
    · exact List.mem_append_left _ h
    · exact List.mem_append_right _ List.mem_cons_self
  exact ⟨w_isiC ht rfl (List.mem_append_right _ (List.mem_flatMap.mpr ⟨c, hm, List.mem_cons_self⟩)) k, w_isiC ht rfl (List.mem_append_right _ (List.mem_flatMap.mpr ⟨c, hm, List.mem_cons_of_mem _ List.mem_cons_self⟩)) k⟩
theorem ExAt.sub {M M1 : Mem} {a : Addr} {c : Str} (h : ExAt M a c) (s : Sub M M1) : ExAt M1 a c := by
  obtain ⟨ns, ds, e⟩ := h
  exact ⟨ns, ds, s _ _ e⟩
theorem paired_imp {α β : Type} {F G : α → β → Prop} (h : ∀ a b, F a b → G a b) : ∀ {xs : List α} {ys : List β}, Paired F xs ys → Paired G xs ys
  | _, _, .nil => .nil
  | _, _, .cons a r => .cons (h _ _ a) (paired_imp h r)
theorem paired_app {α β : Type} {F : α → β → Prop} : ∀ {xs : List α} {ys : List β} {xs' : List α} {ys' : List β}, Paired F xs ys → Paired F xs' ys' → Paired F (xs ++ xs') (ys ++ ys')
  | _, _, _, _, .nil, r => r
  | _, _, _, _, .cons a q, r => .cons a (paired_app q r)
theorem ex_step {M0 M : Mem} {as : List Addr} {cs : List Str} {a : Addr} {c : Str} {ns : List Str} {ds : List Dat} (h : M a = none) (z : Paired (ExAt M) as cs ∧ Sub M0 M) : Paired (ExAt (M.put a (.exn c ns ds))) (as ++ [a]) (cs ++ [c]) ∧ Sub M0 (M.put a (.exn c ns ds)) := by
  have s : Sub M (M.put a (.exn c ns ds)) := Sub.put h
  exact ⟨paired_app (paired_imp (fun _ _ q => q.sub s) z.1) (.cons ⟨ns, ds, Mem.put_same⟩ .nil), z.2.trans s⟩
end
theorem r__law_classes : ∀ ds M Φ Ψ, p__law_classes ds M Φ Ψ → ds.length = 1 ∧ t__law_classes (endsOf Φ) (startD N__law_classes ds (exOf Ψ)) M := by
  rintro ds M Φ Ψ ⟨a, c, rfl, hc, ha, k⟩
  refine ⟨rfl, ?_⟩
  unfold t__law_classes
  walk_at "ks"
  refine isiE ha hc (by decide) ?_
  walk_at "ks"
  refine isiE ha hc (by decide) ?_
  walk_at "ks"
  refine isiE ha hc (by decide) ?_
  walk_at "ks"
  refine ⟨line_of (by simp), ?_⟩
  walk_at "ks"
  refine isiE ha hc (by decide) ?_
  walk_at "ks"
  refine isiE ha hc (by decide) ?_
  walk_at "ks"
  refine isiE ha hc (by decide) ?_
  walk_at "ks"
  refine ⟨line_of (by simp), ?_⟩
  refine add_ll (by simp) ?_
  walk_at "ks"
  refine isiE ha hc (by decide) ?_
  walk_at "ks"
  refine isiE ha hc (by decide) ?_
  walk_at "ks"
  refine isiE ha hc (by decide) ?_
  walk_at "ks"
  refine ⟨line_of (by simp), ?_⟩
  refine add_ll (by simp) ?_
  walk_at "ks"
  refine isiE ha hc (by decide) ?_
  walk_at "ks"
  refine isiE ha hc (by decide) ?_
  walk_at "ks"
  refine ⟨line_of (by simp), ?_⟩
  refine add_ll (by simp) ?_
  walk_at "ks"
  refine isiE ha hc (by decide) ?_
  walk_at "ks"
  refine isiE ha hc (by decide) ?_
  walk_at "ks"
  refine isiE ha hc (by decide) ?_
  walk_at "ks"
  refine ⟨line_of (by simp), ?_⟩
  refine add_ll (by simp) ?_
  walk_at "ks"
  refine isiE ha hc (by decide) ?_
  walk_at "ks"
  refine isiE ha hc (by decide) ?_
  walk_at "ks"
  refine isiE ha hc (by decide) ?_
  walk_at "ks"
  refine ⟨line_of (by simp), ?_⟩
  refine add_ll (by simp) ?_
  walk_at "ks"
  refine isiE ha hc (by decide) ?_
  walk_at "ks"
  refine ⟨line_of (by simp), ?_⟩
  refine add_ll (by simp) ?_
  walk_at "ks"
  exact ⟨_, Sub.rfl', k⟩
theorem r__law_plain : ∀ ds M Φ Ψ, p__law_plain ds M Φ Ψ → ds.length = 0 ∧ t__law_plain (endsOf Φ) (startD N__law_plain ds (exOf Ψ)) M := by
  rintro ds M Φ Ψ ⟨rfl, k⟩
  refine ⟨rfl, ?_⟩
  unfold t__law_plain
  have z0 : Paired (ExAt M) [] [] ∧ Sub M M := ⟨.nil, Sub.rfl'⟩
  walk_at "ks"
  intro a0 h0
  have z1 := ex_step (c := "InvalidRatio") (ns := []) (ds := []) h0 z0
  walk_at "ks"
  intro a1 h1
  have z2 := ex_step (c := "InvalidArray") (ns := []) (ds := []) h1 z1
  walk_at "ks"
  intro a2 h2
  have z3 := ex_step (c := "InvalidReading") (ns := []) (ds := []) h2 z2
  walk_at "ks"
  intro a3 h3
  have z4 := ex_step (c := "InvalidSum") (ns := []) (ds := []) h3 z3
  walk_at "ks"
  intro a4 h4
  have z5 := ex_step (c := "InvalidTimes") (ns := []) (ds := []) h4 z4
  walk_at "ks"
  intro a5 h5
  have z6 := ex_step (c := "InvalidTable") (ns := []) (ds := []) h5 z5
  walk_at "ks"
  refine ⟨line_of (by simp), ?_⟩
  walk_at "ks"
  intro a6 h6
  have z7 := ex_step (c := "NoSuchSetting") (ns := []) (ds := []) h6 z6
  walk_at "ks"
  intro a7 h7
  have z8 := ex_step (c := "Free") (ns := []) (ds := []) h7 z7
  walk_at "ks"
  intro a8 h8
  have z9 := ex_step (c := "InvalidLimit") (ns := []) (ds := []) h8 z8
  walk_at "ks"
  intro a9 h9
  have z10 := ex_step (c := "UnknownName") (ns := []) (ds := []) h9 z9
  walk_at "ks"
  intro a10 h10
  have z11 := ex_step (c := "NothingToUndo") (ns := []) (ds := []) h10 z10
  walk_at "ks"
  intro a11 h11
  have z12 := ex_step (c := "UnknownCommand") (ns := []) (ds := []) h11 z11
  walk_at "ks"
  refine ⟨line_of (by simp), ?_⟩
  refine add_ll (by simp) ?_
  exact ⟨_, Sub.rfl', k [a0, a1, a2, a3, a4, a5, a6, a7, a8, a9, a10, a11] _ z12.1 z12.2⟩
theorem r__law_by_place : ∀ ds M Φ Ψ, p__law_by_place ds M Φ Ψ → ds.length = 3 ∧ t__law_by_place (endsOf Φ) (startD N__law_by_place ds (exOf Ψ)) M := by
  rintro ds M Φ Ψ ⟨one, row, count, rfl, k⟩
  refine ⟨rfl, ?_⟩
  unfold t__law_by_place
  walk_at "ks"
  intro a0 h0
  have s0 := Sub.put (ds := .exn "NoStation" ["name"] [one]) h0
  have e0 : (Mem.put M a0 (.exn "NoStation" ["name"] [one])) a0 = some (.exn "NoStation" ["name"] [one]) := Mem.put_same
  generalize Mem.put M a0 (.exn "NoStation" ["name"] [one]) = M0 at s0 e0
  walk_at "ks"
  intro a1 h1
  have s1 := Sub.put (ds := .exn "NoReading" ["number"] [one]) h1
  have e1 : (Mem.put M0 a1 (.exn "NoReading" ["number"] [one])) a1 = some (.exn "NoReading" ["number"] [one]) := Mem.put_same
  generalize Mem.put M0 a1 (.exn "NoReading" ["number"] [one]) = M1 at s1 e1
  walk_at "ks"
  intro a2 h2
  have s2 := Sub.put (ds := .exn "NoFit" ["times"] [row]) h2
  have e2 : (Mem.put M1 a2 (.exn "NoFit" ["times"] [row])) a2 = some (.exn "NoFit" ["times"] [row]) := Mem.put_same
  generalize Mem.put M1 a2 (.exn "NoFit" ["times"] [row]) = M2 at s2 e2
  walk_at "ks"
  intro a3 h3
  have s3 := Sub.put (ds := .exn "TooMany" ["many"] [count]) h3
  have e3 : (Mem.put M2 a3 (.exn "TooMany" ["many"] [count])) a3 = some (.exn "TooMany" ["many"] [count]) := Mem.put_same
  generalize Mem.put M2 a3 (.exn "TooMany" ["many"] [count]) = M3 at s3 e3
  walk_at "ks"
  intro a4 h4
  have s4 := Sub.put (ds := .exn "Full" ["most"] [count]) h4
  have e4 : (Mem.put M3 a4 (.exn "Full" ["most"] [count])) a4 = some (.exn "Full" ["most"] [count]) := Mem.put_same
  generalize Mem.put M3 a4 (.exn "Full" ["most"] [count]) = M4 at s4 e4
  walk_at "ks"
  intro a5 h5
  have s5 := Sub.put (ds := .exn "InvalidText" ["line"] [count]) h5
  have e5 : (Mem.put M4 a5 (.exn "InvalidText" ["line"] [count])) a5 = some (.exn "InvalidText" ["line"] [count]) := Mem.put_same
  generalize Mem.put M4 a5 (.exn "InvalidText" ["line"] [count]) = M5 at s5 e5
  walk_at "ks"
  refine ⟨line_of (by simp), ?_⟩
  exact ⟨_, Sub.rfl', k a0 a1 a2 a3 a4 a5 _ ⟨(s1.trans (s2.trans (s3.trans (s4.trans (s5.trans (Sub.rfl')))))) _ _ e0, (s2.trans (s3.trans (s4.trans (s5.trans (Sub.rfl'))))) _ _ e1, (s3.trans (s4.trans (s5.trans (Sub.rfl')))) _ _ e2, (s4.trans (s5.trans (Sub.rfl'))) _ _ e3, (s5.trans (Sub.rfl')) _ _ e4, (Sub.rfl') _ _ e5⟩ (s0.trans (s1.trans (s2.trans (s3.trans (s4.trans (s5.trans (Sub.rfl')))))))⟩
theorem r__law_by_name : ∀ ds M Φ Ψ, p__law_by_name ds M Φ Ψ → ds.length = 3 ∧ t__law_by_name (endsOf Φ) (startD N__law_by_name ds (exOf Ψ)) M := by
  rintro ds M Φ Ψ ⟨one, row, count, rfl, k⟩
  refine ⟨rfl, ?_⟩
  unfold t__law_by_name
  walk_at "ks"
  intro a0 h0
  have s0 := Sub.put (ds := .exn "NoStation" ["name"] [one]) h0
  have e0 : (Mem.put M a0 (.exn "NoStation" ["name"] [one])) a0 = some (.exn "NoStation" ["name"] [one]) := Mem.put_same
  generalize Mem.put M a0 (.exn "NoStation" ["name"] [one]) = M0 at s0 e0
  walk_at "ks"
  intro a1 h1
  have s1 := Sub.put (ds := .exn "NoReading" ["number"] [one]) h1
  have e1 : (Mem.put M0 a1 (.exn "NoReading" ["number"] [one])) a1 = some (.exn "NoReading" ["number"] [one]) := Mem.put_same
  generalize Mem.put M0 a1 (.exn "NoReading" ["number"] [one]) = M1 at s1 e1
  walk_at "ks"
  intro a2 h2
  have s2 := Sub.put (ds := .exn "NoFit" ["times"] [row]) h2
  have e2 : (Mem.put M1 a2 (.exn "NoFit" ["times"] [row])) a2 = some (.exn "NoFit" ["times"] [row]) := Mem.put_same
  generalize Mem.put M1 a2 (.exn "NoFit" ["times"] [row]) = M2 at s2 e2
  walk_at "ks"
  intro a3 h3
  have s3 := Sub.put (ds := .exn "TooMany" ["many"] [count]) h3
  have e3 : (Mem.put M2 a3 (.exn "TooMany" ["many"] [count])) a3 = some (.exn "TooMany" ["many"] [count]) := Mem.put_same
  generalize Mem.put M2 a3 (.exn "TooMany" ["many"] [count]) = M3 at s3 e3
  walk_at "ks"
  refine ⟨line_of (by simp), ?_⟩
  walk_at "ks"
  intro a4 h4
  have s4 := Sub.put (ds := .exn "Full" ["most"] [count]) h4
  have e4 : (Mem.put M3 a4 (.exn "Full" ["most"] [count])) a4 = some (.exn "Full" ["most"] [count]) := Mem.put_same
  generalize Mem.put M3 a4 (.exn "Full" ["most"] [count]) = M4 at s4 e4
  walk_at "ks"
  intro a5 h5
  have s5 := Sub.put (ds := .exn "InvalidText" ["line"] [count]) h5
  have e5 : (Mem.put M4 a5 (.exn "InvalidText" ["line"] [count])) a5 = some (.exn "InvalidText" ["line"] [count]) := Mem.put_same
  generalize Mem.put M4 a5 (.exn "InvalidText" ["line"] [count]) = M5 at s5 e5
  walk_at "ks"
  refine ⟨line_of (by simp), ?_⟩
  refine add_ll (by simp) ?_
  exact ⟨_, Sub.rfl', k a0 a1 a2 a3 a4 a5 _ ⟨(s1.trans (s2.trans (s3.trans (s4.trans (s5.trans (Sub.rfl')))))) _ _ e0, (s2.trans (s3.trans (s4.trans (s5.trans (Sub.rfl'))))) _ _ e1, (s3.trans (s4.trans (s5.trans (Sub.rfl')))) _ _ e2, (s4.trans (s5.trans (Sub.rfl'))) _ _ e3, (s5.trans (Sub.rfl')) _ _ e4, (Sub.rfl') _ _ e5⟩ (s0.trans (s1.trans (s2.trans (s3.trans (s4.trans (s5.trans (Sub.rfl')))))))⟩
theorem r__law_fields : ∀ ds M Φ Ψ, p__law_fields ds M Φ Ψ → ds.length = 1 ∧ t__law_fields (endsOf Φ) (startD N__law_fields ds (exOf Ψ)) M := by
  rintro ds M Φ Ψ ⟨a0, a1, a2, a3, a4, a5, one, row, count, rfl, F, k⟩
  refine ⟨rfl, ?_⟩
  unfold t__law_fields
  walk_at "ks"
  refine ix_at (j := 0) rfl rfl ?_
  refine ⟨_, _, _, _, 0, _, rfl, F.e0, List.mem_cons_self, rfl, rfl, ?_⟩
  walk_at "ks"
  refine ix_at (j := 1) rfl rfl ?_
  refine ⟨_, _, _, _, 0, _, rfl, F.e1, List.mem_cons_self, rfl, rfl, ?_⟩
  walk_at "ks"
  refine ix_at (j := 2) rfl rfl ?_
  refine ⟨_, _, _, _, 0, _, rfl, F.e2, List.mem_cons_self, rfl, rfl, ?_⟩
  walk_at "ks"
  refine ix_at (j := 3) rfl rfl ?_
  refine ⟨_, _, _, _, 0, _, rfl, F.e3, List.mem_cons_self, rfl, rfl, ?_⟩
  walk_at "ks"
  refine ix_at (j := 4) rfl rfl ?_
  refine ⟨_, _, _, _, 0, _, rfl, F.e4, List.mem_cons_self, rfl, rfl, ?_⟩
  walk_at "ks"
  refine ix_at (j := 5) rfl rfl ?_
  refine ⟨_, _, _, _, 0, _, rfl, F.e5, List.mem_cons_self, rfl, rfl, ?_⟩
  walk_at "ks"
  refine ⟨line_of (by simp), ?_⟩
  exact ⟨_, Sub.rfl', k⟩
end K00
namespace K00
open PySem PySem.Spec PyProof.Rows L2 EX Spx
local macro_rules | `(tactic| walk_at "ks") => `(tactic| (with_reducible (repeat (first | (apply w_v; (next => with_unfolding_all rfl)) | refine w_seq ?_ | refine w_ret ?_ | refine w_set ?_ | refine w_asg ?_ | refine w_par ?_ | refine w_drop ?_ | refine w_ifS ?_ | refine w_for ?_ | refine w_test ?_ | refine w_op ?_ | refine w_un ?_ | refine w_c ?_ | refine w_cb ?_ | refine w_cons ?_ | refine w_nil ?_ | refine w_tup ?_ | refine w_lst ?_ | refine w_lstO ?_ | refine w_not ?_ | refine w_and ?_ | refine w_or ?_ | refine w_andV ?_ | refine w_orV ?_ | refine w_notV ?_ | refine w_if ?_ | refine w_onB ?_ | refine w_noPart ?_ | refine w_part ?_ | refine w_onI ?_ | refine w_sl ?_ | refine w_lc ?_ | refine w_lcO ?_ | refine w_diList ?_ | refine w_diZip ?_ | refine w_diEnum ?_ | refine w_diRng1 ?_ | refine w_mt ?_ | refine w_gt ?_ | refine w_lt ?_ | refine w_le ?_ | refine w_ge ?_ | refine w_addI ?_ | refine w_subI ?_ | refine w_neg ?_ | refine w_abs ?_ | refine w_int ?_ | refine w_intB ?_ | refine w_isN ?_ | refine w_notN ?_ | refine w_yes ?_ | refine w_itt ?_ | refine w_iff ?_ | refine w_lz ?_ | refine w_callK ?_ | refine w_call ?_ | refine w_call0 ?_ | refine w_chain ?_ | refine w_setIx ?_ | refine w_diTup ?_ | refine w_onT ?_ | refine w_next ?_ | refine w_diEnumZip ?_ | refine w_fld ?_ | refine w_setF ?_ | refine w_setF2 ?_ | refine w_meth ?_ | refine w_make ?_ | refine w_ss ?_ | refine w_rev ?_ | refine w_dict0 ?_ | refine w_dict1 ?_ | refine w_exc0 ?_ | refine w_excS ?_ | refine w_raise0 ?_ | refine w_fldE ?_ | refine w_tru ?_ | refine w_notT ?_ | refine w_fmt ?_ | refine w_joined ?_ | refine w_js0 ?_ | refine w_js ?_ | refine w_zipT ?_ | refine w_par3 ?_ | refine w_methK ?_ | refine w_makeK ?_ | refine w_tryAs ?_ | refine w_bool0 ?_ | refine w_strS ?_ | refine w_slT ?_))))
/-! ### plain data with texts -/
theorem shown_list (ps : List PyData) : (PyData.list ps).shown = listText (PyData.shownAll ps) := by simp only [PyData.shown]
theorem pl_int {i : Int} (h : i.natAbs ≤ 10 ^ 59) : Pl (.int i) := by
  have h2 : i.natAbs < 10 ^ 60 := Nat.lt_of_le_of_lt h (by decide)
  refine ⟨.int i, rfl, ?_, ?_, Nat.zero_le _⟩
  · show decide (i.natAbs.log2 < 1920) = true
    refine decide_eq_true ?_
    by_cases z : i.natAbs = 0
    · rw [z]; decide
    · exact (Nat.log2_lt z).mpr (Nat.lt_trans h2 (by decide +kernel))
  · rw [PyData.shown_int]
    have := int_text_length_le10 (a := i) (k := 60) (by decide) h2
    show (Str.ofString (toString i)).length ≤ 100
    rw [show (Str.ofString (toString i)).length = (toString i).length from PySem.ofString_length _]
    omega
theorem pl_repr {one row : Dat} {c : Int} (h1 : Pl one) (h2 : Pl row) (hc : c.natAbs ≤ 10 ^ 59) : ∃ t : Str, ∀ (M : Mem) (Φ : Dat → Mem → Prop), (Φ (.str t) M → oRepr0 [.lst [one, one, row, .int c, .int c, .int c]] M Φ) := by
  obtain ⟨p, e1, s1, l1, d1⟩ := h1
  obtain ⟨q, e2, s2, l2, d2⟩ := h2
  obtain ⟨r, e3, s3, l3, d3⟩ := pl_int hc
  refine ⟨_, fun M Φ h => ⟨_, .list [p, p, q, r, r, r], rfl, ?_, ?_, ?_, ?_, h⟩⟩
  · show (rdPs _).map PyData.list = _
    have : rdPs [one, one, row, .int c, .int c, .int c] = some [p, p, q, r, r, r] := by
      simp only [rdPs, e1, e2, e3, Option.bind_some, Option.map_some]
    rw [this]; rfl
  · show PyData.showableAll [p, p, q, r, r, r] = true
    simp only [PyData.showableAll, s1, s2, s3, Bool.and_self]
  · rw [shown_list]
    have := listText_len_le (PyData.shownAll [p, p, q, r, r, r])
    simp only [PyData.shownAll, List.map_cons, List.map_nil, List.sum_cons, List.sum_nil, List.length_cons, List.length_nil] at this
    refine sz_of ?_
    simp only [PyData.shownAll]
    omega
  · show PyData.depthAll [p, p, q, r, r, r] + 1 ≤ 60
    simp only [PyData.depthAll]
    omega
theorem pl_row {ns : List Int} (hl : ns.length ≤ 5) (hb : ∀ x ∈ ns, x.natAbs ≤ 9) : Pl (.lst (ns.map .int)) := by
  have e : rdPs (ns.map Dat.int) = some (ns.map PyData.int) := by
    clear hl hb
    induction ns with
    | nil => rfl
    | cons x ns ih =>
      show (rdP (Dat.int x)).bind (fun p => (rdPs (ns.map Dat.int)).map (p :: ·)) = _
      rw [ih]; rfl
  have hs : PyData.showableAll (ns.map PyData.int) = true := by
    clear hl e
    induction ns with
    | nil => rfl
    | cons x ns ih =>
      have h1 := hb x List.mem_cons_self
      show (PyData.showable (.int x) && PyData.showableAll (ns.map PyData.int)) = true
      rw [ih fun y hy => hb y (List.mem_cons_of_mem _ hy), Bool.and_true]
      show decide (x.natAbs.log2 < 1920) = true
      refine decide_eq_true ?_
      by_cases z : x.natAbs = 0
      · rw [z]; decide
      · exact (Nat.log2_lt z).mpr (Nat.lt_of_le_of_lt h1 (by decide +kernel))
  have hd : PyData.depthAll (ns.map PyData.int) = 0 := by
    clear hl hb e hs
    induction ns with
    | nil => rfl
    | cons x ns ih =>
      show max (PyData.depth (.int x)) (PyData.depthAll (ns.map PyData.int)) = 0
      rw [ih]; rfl
  refine ⟨.list (ns.map .int), by show (rdPs _).map PyData.list = _; rw [e]; rfl, hs, ?_, by show PyData.depthAll _ + 1 ≤ 10; rw [hd]; decide⟩
  rw [shown_list, PyData.shownAll_ints]
  have h := listText_len_le (ns.map fun n => ((toString n : String) : Str))
  have h2 : ((ns.map fun n => ((toString n : String) : Str)).map (·.length)).sum ≤ 3 * ns.length := by
    clear h hl e hs hd
    induction ns with
    | nil => exact Nat.le_refl _
    | cons x ns ih =>
      have h3 := ih fun y hy => hb y (List.mem_cons_of_mem _ hy)
      have h4 := int_text_length_le10 (a := x) (k := 1) (by decide) (Nat.lt_of_le_of_lt (hb x List.mem_cons_self) (by decide))
      have h5 : (Str.ofString (toString x)).length = (toString x).length := PySem.ofString_length _
      simp only [List.map_cons, List.sum_cons, List.length_cons] at h3 ⊢
      omega
  rw [List.length_map] at h
  omega
theorem pl_vals : ∀ d ∈ ([.non, .bl true, .bl false, .int 0, .int 1, .int (-1), .int (10 ^ (59 : Int).toNat), .str "", .str "a", .str "1", .str "1/2", .tup [], .tup [.int 1, .int 2], .lst [], .lst [.int 1], .dK [] []] ++ [.dK [.inr "a"] [.int 1], .str "a\nb", .tup [.str "a"], .lst [.lst [.non]]] : List Dat), Pl d := by
  intro d hd
  simp only [List.cons_append, List.nil_append, List.mem_cons, List.not_mem_nil, or_false] at hd
  rcases hd with rfl | rfl | rfl | rfl | rfl | rfl | rfl | rfl | rfl | rfl | rfl | rfl | rfl | rfl | rfl | rfl | rfl | rfl | rfl | rfl
  all_goals first
    | exact pl_int (by decide)
    | exact ⟨_, rfl, by decide +kernel, by decide +kernel, by decide +kernel⟩
theorem r__law_value : ∀ ds M Φ Ψ, p__law_value ds M Φ Ψ → ds.length = 1 ∧ t__law_value (endsOf Φ) (startD N__law_value ds (exOf Ψ)) M := by
  rintro ds M Φ Ψ ⟨p, kk, rfl, hp, k⟩
  refine ⟨rfl, ?_⟩
  unfold t__law_value
  walk_at "ks"
  refine ⟨⟨by decide, by decide, by decide⟩, ?_⟩
  walk_at "ks"
  refine ⟨line_of (by simp), ?_⟩
  walk_at "ks"
  refine ⟨line_of (by simp), ?_⟩
  walk_at "ks"
  refine ⟨line_of (by simp), ?_⟩
  walk_at "ks"
  refine ⟨line_of (by simp), ?_⟩
  walk_at "ks"
  refine ⟨line_of (by simp), ?_⟩
  walk_at "ks"
  refine ⟨line_of (by simp), ?_⟩
  walk_at "ks"
  refine ⟨line_of (by simp), ?_⟩
  walk_at "ks"
  refine ⟨line_of (by simp), ?_⟩
  walk_at "ks"
  refine ⟨line_of (by simp), ?_⟩
  refine add_ll (by simp) ?_
  walk_at "ks"
  refine ⟨_, _, rfl, rfl, ?_⟩
  refine ⟨p, _, kk, rfl, by decide, hp, fun v M' h0 h1 o pn => ?_⟩
  refine ix_any rfl h0 h1 fun d hd => ?_
  exact ⟨_, Sub.rfl', k d M' (pl_vals d hd) o pn⟩
end K00
namespace K00
open PySem PySem.Spec PyProof.Rows L2 EX Spx
local macro_rules | `(tactic| walk_at "ks") => `(tactic| (with_reducible (repeat (first | (apply w_v; (next => with_unfolding_all rfl)) | refine w_seq ?_ | refine w_ret ?_ | refine w_set ?_ | refine w_asg ?_ | refine w_par ?_ | refine w_drop ?_ | refine w_ifS ?_ | refine w_for ?_ | refine w_test ?_ | refine w_op ?_ | refine w_un ?_ | refine w_c ?_ | refine w_cb ?_ | refine w_cons ?_ | refine w_nil ?_ | refine w_tup ?_ | refine w_lst ?_ | refine w_lstO ?_ | refine w_not ?_ | refine w_and ?_ | refine w_or ?_ | refine w_andV ?_ | refine w_orV ?_ | refine w_notV ?_ | refine w_if ?_ | refine w_onB ?_ | refine w_noPart ?_ | refine w_part ?_ | refine w_onI ?_ | refine w_sl ?_ | refine w_lc ?_ | refine w_lcO ?_ | refine w_diList ?_ | refine w_diZip ?_ | refine w_diEnum ?_ | refine w_diRng1 ?_ | refine w_mt ?_ | refine w_gt ?_ | refine w_lt ?_ | refine w_le ?_ | refine w_ge ?_ | refine w_addI ?_ | refine w_subI ?_ | refine w_neg ?_ | refine w_abs ?_ | refine w_int ?_ | refine w_intB ?_ | refine w_isN ?_ | refine w_notN ?_ | refine w_yes ?_ | refine w_itt ?_ | refine w_iff ?_ | refine w_lz ?_ | refine w_callK ?_ | refine w_call ?_ | refine w_call0 ?_ | refine w_chain ?_ | refine w_setIx ?_ | refine w_diTup ?_ | refine w_onT ?_ | refine w_next ?_ | refine w_diEnumZip ?_ | refine w_fld ?_ | refine w_setF ?_ | refine w_setF2 ?_ | refine w_meth ?_ | refine w_make ?_ | refine w_ss ?_ | refine w_rev ?_ | refine w_dict0 ?_ | refine w_dict1 ?_ | refine w_exc0 ?_ | refine w_excS ?_ | refine w_raise0 ?_ | refine w_fldE ?_ | refine w_tru ?_ | refine w_notT ?_ | refine w_fmt ?_ | refine w_joined ?_ | refine w_js0 ?_ | refine w_js ?_ | refine w_zipT ?_ | refine w_par3 ?_ | refine w_methK ?_ | refine w_makeK ?_ | refine w_tryAs ?_ | refine w_bool0 ?_ | refine w_strS ?_ | refine w_slT ?_))))
theorem lc_map {α β : Type} {p : Pat} {te : DTE} {Γw : DEnv} {M : Mem} {I : Mem → Prop} {Φ : List Dat → Mem → Prop} {xs : List α} (g : α → Dat) (e : β → Dat) (f : α → β) (hI : I M) (hl : xs.length ≤ 1000)
    (h : ∀ x ∈ xs, ∃ Γ1, p.dg (g x) Γw = some Γ1 ∧ ∀ Ψ : Dat → Mem → Prop, Ψ (e (f x)) M → te Γ1 M Ψ) (k : Φ ((xs.map f).map e) M) : dLcGo I p dYes te Γw (xs.map g) [] M Φ := by
  have big := line_of (n := 5000) (by decide)
  refine lc_rel (fun d v => d = e v) (fun _ => true) f xs hI (paired_self _ fun x hx => ?_) (by rw [List.length_map]; show 0 + _ ≤ _; omega) fun ys ry => ?_
  · obtain ⟨Γ1, e, q⟩ := h x hx
    exact ⟨Γ1, e, fun Ψ z => z, fun _ => ⟨_, rfl, q⟩⟩
  · rw [EX.filter_all] at ry
    rw [List.nil_append, paired_eq ry]
    exact k
theorem zipD_map {α β : Type} {f : α → Dat} {g : β → Dat} {xs : List α} {ys : List β} : zipD (xs.map f) (ys.map g) = (xs.zip ys).map fun q => .tup [f q.1, g q.2] := by
  unfold zipD
  rw [List.zip_map, List.map_map]
  rfl
/-- a comprehension that draws, over anything -/
theorem lc_draw {p : Addr} {V : Dat → Prop} {te : DTE} {Γw : DEnv} {I : Mem → Prop} {i c : Nat} {items : List Dat} {Φ : List Dat → Mem → Prop} (hI : ∀ M, I M) (hte : ∀ (j : Nat) (d : Dat) (M : Mem) (k : Nat) (Ψ : Dat → Mem → Prop), items[j]? = some d → PenAt M p (k + c) → (∀ v M', V v → Oth p M M' → PenAt M' p k → Ψ v M') → te (Γw.set i (some d)) M Ψ)
    {n k : Nat} {M : Mem} (hl : items.length = n) (hn : n ≤ 1000) (hp : PenAt M p (k + c * n)) (fin : ∀ (vs : List Dat) (M' : Mem), vs.length = n → (∀ v ∈ vs, V v) → Oth p M M' → PenAt M' p k → Φ vs M') : dLcGo I (.nm i) dYes te Γw items [] M Φ := by
  have big := line_of (n := 5000) (by decide)
  refine lc_inv (fun j acc M' => j ≤ n ∧ acc.length = j ∧ (∀ v ∈ acc, V v) ∧ Oth p M M' ∧ PenAt M' p (k + c * (n - j))) ?_ ?_ ⟨Nat.zero_le _, rfl, fun v hv => (by cases hv), Oth.rfl', (by rw [Nat.sub_zero]; exact hp)⟩
  · rintro j d acc M' hd ⟨hj, hl2, hv, ho, hq⟩
    have hj' : j < n := by
      have := (List.getElem?_eq_some_iff.mp hd).1
      omega
    refine ⟨hI _, _, rfl, fun Ψ hΨ => ?_⟩
    walk_at "ks"
    have e : k + c * (n - j) = (k + c * (n - (j + 1))) + c := by
      rw [show n - j = (n - (j + 1)) + 1 by omega, Nat.mul_succ]; omega
    rw [e] at hq
    refine hte j d M' _ _ hd hq fun v M2 vv o2 q2 => ⟨by omega, hΨ _ _ ⟨by omega, by rw [List.length_append, hl2]; rfl, fun x hx => ?_, ho.trans o2, q2⟩⟩
    rcases List.mem_append.mp hx with h | h
    · exact hv x h
    · rw [List.mem_singleton.mp h]; exact vv
  · rintro acc M' ⟨hj, hl2, hv, ho, hq⟩
    rw [hl] at hl2 hq
    rw [Nat.sub_self, Nat.mul_zero] at hq
    exact ⟨hI _, fin acc M' hl2 hv ho hq⟩
theorem pull {α : Type} {f : α → Dat} {P : α → Prop} : ∀ {vs : List Dat}, (∀ v ∈ vs, ∃ x, v = f x ∧ P x) → ∃ xs : List α, vs = xs.map f ∧ xs.length = vs.length ∧ ∀ x ∈ xs, P x
  | [], _ => ⟨[], rfl, rfl, fun x hx => (by cases hx)⟩
  | v :: vs, h => by
    obtain ⟨x, e, hx⟩ := h v List.mem_cons_self
    obtain ⟨xs, e2, l, hxs⟩ := pull fun w hw => h w (List.mem_cons_of_mem _ hw)
    refine ⟨x :: xs, by rw [e, e2]; rfl, by rw [List.length_cons, List.length_cons, l], fun y hy => ?_⟩
    rcases List.mem_cons.mp hy with z | z
    · rw [z]; exact hx
    · exact hxs y z

theorem enum_get {as : List Addr} {i : Nat} {d : Dat} (h : (enumD (as.map Dat.loc))[i]? = some d) : ∃ a, as[i]? = some a ∧ d = .tup [.int (i : Nat), .loc a] := by
  unfold enumD at h
  rw [List.getElem?_map, List.getElem?_zipIdx, List.getElem?_map] at h
  cases q : as[i]? with
  | none => rw [q] at h; cases h
  | some a =>
    rw [q] at h
    have e : Dat.tup [.int ((0 + i : Nat) : Int), .loc a] = d := Option.some.inj h
    rw [Nat.zero_add] at e
    exact ⟨a, rfl, e.symm⟩
theorem apart_key : ∀ i : Fin 18, excs.map (fun d => excs.getD i.1 "" == d) = (List.range 18).map (fun (j : Nat) => decide ((j : Int) = ((i.1 : Nat) : Int))) := by decide +kernel
theorem r__law_apart : ∀ ds M Φ Ψ, p__law_apart ds M Φ Ψ → ds.length = 1 ∧ t__law_apart (endsOf Φ) (startD N__law_apart ds (exOf Ψ)) M := by
  rintro ds M Φ Ψ ⟨as, rfl, P, k⟩
  refine ⟨rfl, ?_⟩
  unfold t__law_apart
  walk_at "ks"
  refine ⟨_, _, rfl, rfl, ?_⟩
  refine for_inv (fun i Γ M' => M' = M ∧ ∃ w1 w2 w3, Γ = ⟨[some (locsD as), w1, w2, w3], exOf Ψ⟩) ?_ ?_ ⟨rfl, _, _, _, rfl⟩
  · rintro i d Γ M' hd ⟨rfl, w1, w2, w3, rfl⟩
    obtain ⟨a, ha, rfl⟩ := enum_get hd
    obtain ⟨c, hc, ex⟩ := EX.paired_get P ha
    have mem : c ∈ excs := List.mem_of_getElem? hc
    refine ⟨trivial, _, rfl, fun N hN => ?_⟩
    walk_at "ks"
    refine (isiT ex (.inl mem) ?_).1
    walk_at "ks"
    refine ie (by decide) ?_
    refine (isiT ex (.inl mem) ?_).2
    walk_at "ks"
    refine ie (by decide) ?_
    walk_at "ks"
    refine ⟨a, c, rfl, mem, ex, ?_⟩
    walk_at "ks"
    refine ⟨18, rfl, by decide, by decide, ?_⟩
    show dLcGo _ _ _ _ _ (rngD 0 (((18 : Nat) : Int)).toNat) _ _ _
    rw [rngD_nat]
    refine lc_map (fun j : Nat => .int (j : Nat)) Dat.bl (fun j : Nat => decide (((j : Nat) : Int) = ((i : Nat) : Int))) trivial (by decide) (fun j _ => ⟨_, rfl, fun Θ h => ?_⟩) ?_
    · walk_at "ks"
      refine oEq_ii ?_
      rw [if_neg Bool.false_ne_true]
      exact h
    · have hi : i < 18 := (List.getElem?_eq_some_iff.mp hc).1
      have ec : excs.getD i "" = c := by rw [List.getD_eq_getElem?_getD, hc]; rfl
      have key := apart_key ⟨i, hi⟩
      rw [show excs.getD (⟨i, hi⟩ : Fin 18).1 "" = c from ec] at key
      refine oEq_of (α := List Bool) (a := excs.map fun d => c == d) (b := (List.range 18).map fun (j : Nat) => decide (((j : Nat) : Int) = ((i : Nat) : Int))) ?_ (Enc.tp (α := List Bool) M' _) (by decide) ?_
      · exact Enc.tp (α := List Bool) M' (excs.map fun d => c == d)
      · rw [if_pos rfl, decide_eq_true key]
        walk_at "ks"
        refine ie (by decide) ?_
        walk_at "ks"
        exact hN _ _ ⟨rfl, _, _, _, rfl⟩
  · rintro Γ M' ⟨rfl, w1, w2, w3, rfl⟩
    refine ⟨trivial, ?_⟩
    walk_at "ks"
    exact ⟨_, Sub.rfl', k⟩
theorem r__law_ask_one : ∀ ds M Φ Ψ, p__law_ask_one ds M Φ Ψ → ds.length = 1 ∧ t__law_ask_one (endsOf Φ) (startD N__law_ask_one ds (exOf Ψ)) M := by
  rintro ds M Φ Ψ ⟨ns, rfl, k⟩
  refine ⟨rfl, ?_⟩
  unfold t__law_ask_one
  walk_at "ks"
  refine ⟨ns, rfl, fun p M1 hp0 o1 pn => ?_⟩
  walk_at "ks"
  refine ⟨10, rfl, by decide, by decide, ?_⟩
  show dForGo _ _ _ _ (rngD 0 (((10 : Nat) : Int)).toNat) _ _
  rw [rngD_nat]
  refine for_inv (fun i Γ M' => PenAt M' p (10 * (10 - i)) ∧ ∃ w2 w3 w4 w5 w6 w7, Γ = ⟨[some (.scr ns), some (.loc p), w2, w3, w4, w5, w6, w7], exOf Ψ⟩) ?_ ?_ ⟨pn.weak (by decide), _, _, _, _, _, _, rfl⟩
  · rintro i d Γ M' hd ⟨hq, w2, w3, w4, w5, w6, w7, rfl⟩
    have hi : i < 10 := by
      have := (List.getElem?_eq_some_iff.mp hd).1
      simpa using this
    rw [List.getElem?_map, List.getElem?_range hi] at hd
    cases hd
    refine ⟨trivial, _, rfl, fun N hN => ?_⟩
    have e : 10 * (10 - i) = 10 * (10 - (i + 1)) + 8 + 1 + 1 := by omega
    rw [e] at hq
    walk_at "ks"
    refine ⟨p, _, rfl, hq, fun one M2 pl1 o2 q2 => ?_⟩
    walk_at "ks"
    refine ⟨p, 6, _, rfl, by decide, q2, fun v M3 v0 v1 o3 q3 => ?_⟩
    obtain ⟨n, rfl⟩ := Int.eq_ofNat_of_zero_le v0
    have hn : n < 6 := by omega
    refine ⟨_, rfl, by omega, by omega, ?_⟩
    show dLcGo _ _ _ _ _ (rngD 0 ((n : Nat) : Int).toNat) _ _ _
    rw [rngD_nat]
    refine lc_draw (p := p) (V := fun v => ∃ x : Int, v = .int x ∧ x.natAbs ≤ 9) (c := 1) (n := n) (k := 10 * (10 - (i + 1)) + 3) (fun _ => trivial) (fun j d M k Θ _ hp hΘ => ?_) (by simp) (by omega) (q3.weak (by omega)) fun vs M4 hl hv o4 q4 => ?_
    · walk_at "ks"
      refine ⟨p, 9, k, rfl, by decide, hp, fun v M5 v0 v1 o5 q5 => ?_⟩
      walk_at "ks"
      exact hΘ _ _ ⟨_, rfl, by omega⟩ o5 q5
    obtain ⟨row, rfl, hrl, hrb⟩ := pull hv
    have plr := pl_row (ns := row) (by omega) hrb
    walk_at "ks"
    refine ⟨⟨by decide, by decide, by decide⟩, ?_⟩
    walk_at "ks"
    refine ⟨⟨by decide, by decide, by decide⟩, ?_⟩
    walk_at "ks"
    refine ⟨line_of (by simp), ?_⟩
    refine ⟨p, 6, _, rfl, by decide, q4, fun v M5 v0 v1 o5 q5 => ?_⟩
    refine ix_any rfl v0 v1 fun d hd => ?_
    have hcnt : ∃ c : Int, d = .int c ∧ c.natAbs ≤ 10 ^ 59 := by
      simp only [List.mem_cons, List.not_mem_nil, or_false] at hd
      rcases hd with rfl | rfl | rfl | rfl | rfl | rfl <;> exact ⟨_, rfl, by decide⟩
    obtain ⟨c, rfl, hc⟩ := hcnt
    obtain ⟨t, ht⟩ := pl_repr pl1 plr hc
    walk_at "ks"
    refine ⟨one, .lst (row.map .int), .int c, rfl, fun a0 a1 a2 a3 a4 a5 M6 F1 s1 => ?_⟩
    walk_at "ks"
    refine ⟨one, .lst (row.map .int), .int c, rfl, fun b0 b1 b2 b3 b4 b5 M7 F2 s2 => ?_⟩
    walk_at "ks"
    refine ⟨line_of (by simp), ?_⟩
    walk_at "ks"
    have F1' : FAt M7 a0 a1 a2 a3 a4 a5 one (.lst (row.map .int)) (.int c) := ⟨s2 _ _ F1.e0, s2 _ _ F1.e1, s2 _ _ F1.e2, s2 _ _ F1.e3, s2 _ _ F1.e4, s2 _ _ F1.e5⟩
    have body : ∀ (M' : Mem) (w6 w7 : Option Dat) (N : DEnv → Mem → Prop) (D : DEnds) (x0 x1 x2 x3 x4 x5 : Addr), FAt M' x0 x1 x2 x3 x4 x5 one (.lst (row.map .int)) (.int c) →
        (∀ Γ' M'', Γ' = ⟨[some (.scr ns), some (.loc p), some (.int (i : Nat)), some one, some (.lst (row.map .int)), some (.int c), some (locsD [x0, x1, x2, x3, x4, x5]), w7], exOf Ψ⟩ → Sub M' M'' → D.nx Γ' M'') →
        (dSeq (dIfS (dTest (dOp (oEqS true (oEq true)) (dCB oRepr0 (dCons (dCall p__law_fields (dCons (dVar 6) (dNil))) (dNil))) (dCB oRepr0 (dCons (dLst (dCons (dVar 3) (dCons (dVar 3) (dCons (dVar 4) (dCons (dVar 5) (dCons (dVar 5) (dCons (dVar 5) (dNil)))))))) (dNil))))) (dRet (dC (.bl false))) (dNext)) (dIfS (dNot (dTest (dCall p__law_apart (dCons (dOp oAdd (dCall0 p__law_plain) (dVar 6)) (dNil))))) (dRet (dC (.bl false))) (dNext))) D ⟨[some (.scr ns), some (.loc p), some (.int (i : Nat)), some one, some (.lst (row.map .int)), some (.int c), some (locsD [x0, x1, x2, x3, x4, x5]), w7], exOf Ψ⟩ M' := by
      intro M' w6 w7 N D x0 x1 x2 x3 x4 x5 F hD
      walk_at "ks"
      refine ⟨x0, x1, x2, x3, x4, x5, _, _, _, rfl, F, ?_⟩
      walk_at "ks"
      refine ht _ _ ?_
      walk_at "ks"
      refine ⟨line_of (by simp), ?_⟩
      walk_at "ks"
      refine ht _ _ ?_
      refine oNe_self rfl ?_
      walk_at "ks"
      refine ⟨rfl, fun as M8 P s8 => ?_⟩
      walk_at "ks"
      have la : as.length = 12 := by rw [Paired.length P]; rfl
      show oAdd (.lst _) (.lst _) _ _
      refine add_ll (by rw [List.length_map, la]; simp) ?_
      rw [← List.map_append]
      have F8 : FAt M8 x0 x1 x2 x3 x4 x5 one (.lst (row.map .int)) (.int c) := ⟨s8 _ _ F.e0, s8 _ _ F.e1, s8 _ _ F.e2, s8 _ _ F.e3, s8 _ _ F.e4, s8 _ _ F.e5⟩
      have h5 : ExAt M8 x5 "InvalidText" := ⟨_, _, F8.e5⟩
      have h4 : ExAt M8 x4 "Full" := ⟨_, _, F8.e4⟩
      have h3 : ExAt M8 x3 "TooMany" := ⟨_, _, F8.e3⟩
      have h2 : ExAt M8 x2 "NoFit" := ⟨_, _, F8.e2⟩
      have h1 : ExAt M8 x1 "NoReading" := ⟨_, _, F8.e1⟩
      have h0 : ExAt M8 x0 "NoStation" := ⟨_, _, F8.e0⟩
      have PP := paired_app P (.cons h0 (.cons h1 (.cons h2 (.cons h3 (.cons h4 (.cons h5 .nil))))))
      refine ⟨as ++ [x0, x1, x2, x3, x4, x5], rfl, PP, ?_⟩
      walk_at "ks"
      refine ie (by decide) ?_
      walk_at "ks"
      exact hD _ _ rfl s8
    refine for_inv (fun i' Γ M' => Sub M7 M' ∧ ∃ w6 w7, Γ = ⟨[some (.scr ns), some (.loc p), some (.int (i : Nat)), some one, some (.lst (row.map .int)), some (.int c), w6, w7], exOf Ψ⟩) ?_ ?_ ⟨Sub.rfl', _, _, rfl⟩
    · rintro i' d Γ M' hd ⟨s, w6, w7, rfl⟩
      refine ⟨trivial, ?_⟩
      match i', hd with
      | 0, hd =>
        cases hd
        exact ⟨_, rfl, fun N hN => body M' w6 w7 N _ _ _ _ _ _ _ ⟨s _ _ F1'.e0, s _ _ F1'.e1, s _ _ F1'.e2, s _ _ F1'.e3, s _ _ F1'.e4, s _ _ F1'.e5⟩ fun Γ' M'' e s' => hN _ _ ⟨s.trans s', _, _, e⟩⟩
      | 1, hd =>
        cases hd
        exact ⟨_, rfl, fun N hN => body M' w6 w7 N _ _ _ _ _ _ _ ⟨s _ _ F2.e0, s _ _ F2.e1, s _ _ F2.e2, s _ _ F2.e3, s _ _ F2.e4, s _ _ F2.e5⟩ fun Γ' M'' e s' => hN _ _ ⟨s.trans s', _, _, e⟩⟩
      | j + 2, hd => cases hd
    · rintro Γ M' ⟨s, w6, w7, rfl⟩
      refine ⟨trivial, ?_⟩
      refine hN _ _ ⟨(q5.weak (by omega)).sub (s1.trans (s2.trans s)), _, _, _, _, _, _, rfl⟩
  · rintro Γ M' ⟨hq, w2, w3, w4, w5, w6, w7, rfl⟩
    refine ⟨trivial, ?_⟩
    walk_at "ks"
    intro a ha
    walk_at "ks"
    refine (isiT (c := "TurnsError") ⟨[], [], Mem.put_same⟩ (.inr rfl) ?_).2
    exact ⟨_, Sub.rfl', k _⟩
end K00
namespace K00
open PySem PySem.Spec PyProof.Rows L2 EX Spx
local macro_rules | `(tactic| walk_at "ks") => `(tactic| (with_reducible (repeat (first | (apply w_v; (next => with_unfolding_all rfl)) | refine w_seq ?_ | refine w_ret ?_ | refine w_set ?_ | refine w_asg ?_ | refine w_par ?_ | refine w_drop ?_ | refine w_ifS ?_ | refine w_for ?_ | refine w_test ?_ | refine w_op ?_ | refine w_un ?_ | refine w_c ?_ | refine w_cb ?_ | refine w_cons ?_ | refine w_nil ?_ | refine w_tup ?_ | refine w_lst ?_ | refine w_lstO ?_ | refine w_not ?_ | refine w_and ?_ | refine w_or ?_ | refine w_andV ?_ | refine w_orV ?_ | refine w_notV ?_ | refine w_if ?_ | refine w_onB ?_ | refine w_noPart ?_ | refine w_part ?_ | refine w_onI ?_ | refine w_sl ?_ | refine w_lc ?_ | refine w_lcO ?_ | refine w_diList ?_ | refine w_diZip ?_ | refine w_diEnum ?_ | refine w_diRng1 ?_ | refine w_mt ?_ | refine w_gt ?_ | refine w_lt ?_ | refine w_le ?_ | refine w_ge ?_ | refine w_addI ?_ | refine w_subI ?_ | refine w_neg ?_ | refine w_abs ?_ | refine w_int ?_ | refine w_intB ?_ | refine w_isN ?_ | refine w_notN ?_ | refine w_yes ?_ | refine w_itt ?_ | refine w_iff ?_ | refine w_lz ?_ | refine w_callK ?_ | refine w_call ?_ | refine w_call0 ?_ | refine w_chain ?_ | refine w_setIx ?_ | refine w_diTup ?_ | refine w_onT ?_ | refine w_next ?_ | refine w_diEnumZip ?_ | refine w_fld ?_ | refine w_setF ?_ | refine w_setF2 ?_ | refine w_meth ?_ | refine w_make ?_ | refine w_ss ?_ | refine w_rev ?_ | refine w_dict0 ?_ | refine w_dict1 ?_ | refine w_exc0 ?_ | refine w_excS ?_ | refine w_raise0 ?_ | refine w_fldE ?_ | refine w_tru ?_ | refine w_notT ?_ | refine w_fmt ?_ | refine w_joined ?_ | refine w_js0 ?_ | refine w_js ?_ | refine w_zipT ?_ | refine w_par3 ?_ | refine w_methK ?_ | refine w_makeK ?_ | refine w_tryAs ?_ | refine w_bool0 ?_ | refine w_strS ?_ | refine w_slT ?_))))
section
variable {M : Mem} {Φ : Dat → Mem → Prop}
theorem w_tuple {ds : List Dat} (h : Φ (.tup ds) M) : oTuple [.lst ds] M Φ := h
theorem isi_tup {ds : List Dat} {T : String} {b : Bool} (e : kitB "tuple" T = some b) (h : Φ (.bl b) M) : oIsi [.tup ds, .ty T] M Φ := ⟨.tup ds, T, rfl, "tuple", b, rfl, e, h⟩
theorem lc_filt {p : Pat} {tt : DTT} {te : DTE} {Γw : DEnv} {I : Mem → Prop} {Θ : List Dat → Mem → Prop} {ns : List Int} (b : Int → Bool) (hI : I M) (hl : ns.length ≤ 1000)
    (h : ∀ x ∈ ns, ∃ Γ1, p.dg (.int x) Γw = some Γ1 ∧ (∀ Ψ : Bool → Mem → Prop, Ψ (b x) M → tt Γ1 M Ψ) ∧ ∀ Ψ : Dat → Mem → Prop, Ψ (.int x) M → te Γ1 M Ψ) (k : Θ ((ns.filter b).map .int) M) : dLcGo I p tt te Γw (ns.map .int) [] M Θ := by
  have big := line_of (n := 5000) (by decide)
  refine lc_rel (fun d v => d = .int v) b id ns hI (paired_self _ fun x hx => ?_) (by rw [List.length_map]; show 0 + _ ≤ _; omega) fun ys ry => ?_
  · obtain ⟨Γ1, e, h1, h2⟩ := h x hx
    exact ⟨Γ1, e, h1, fun _ => ⟨_, rfl, h2⟩⟩
  · rw [List.nil_append, paired_eq ry, List.map_id]
    exact k
end
/-! ### steps -/
theorem filt_cons {ns : List Int} (h : ∃ x ∈ ns, x ≠ 0) : ∃ x r, ns.filter (fun y => y != 0) = x :: r := by
  obtain ⟨x, hx, h0⟩ := h
  have : x ∈ ns.filter (fun y => y != 0) := List.mem_filter.mpr ⟨hx, by simpa using h0⟩
  cases q : ns.filter (fun y => y != 0) with
  | nil => rw [q] at this; cases this
  | cons y r => exact ⟨y, r, rfl⟩
theorem canon_of {ns : List Int} {x : Int} {r : List Int} (h : ns.filter (fun y => y != 0) = x :: r) : canon ns = if 0 < x then (1, ns) else (-1, ns.map fun n => 0 - n) := by
  unfold canon
  have h' : ns.filter (· != 0) = x :: r := h
  rw [h']
theorem r_canonical : ∀ ds M Φ Ψ, p_canonical ds M Φ Ψ → ds.length = 1 ∧ t_canonical (endsOf Φ) (startD N_canonical ds (exOf Ψ)) M := by
  rintro ds M Φ Ψ ⟨ns, rfl, hl, hx, k⟩
  refine ⟨rfl, ?_⟩
  obtain ⟨x, r, hf⟩ := filt_cons hx
  have hc := canon_of hf
  unfold t_canonical
  walk_at "ks"
  refine lc_filt (fun y => y != 0) trivial (by omega) (fun y _ => ⟨_, rfl, fun Θ h => ?_, fun Θ h => ?_⟩) ?_
  · walk_at "ks"
    refine oEq_ii ?_
    rw [if_pos rfl]
    walk_at "ks"
    have e : (!decide (y = 0)) = (y != 0) := by rw [Bool.eq_iff_iff]; simp
    rw [e]; exact h
  · walk_at "ks"
    exact h
  rw [hf]
  walk_at "ks"
  refine ix_at (j := 0) rfl rfl ?_
  walk_at "ks"
  by_cases q : 0 < x
  · rw [if_pos q] at hc
    rw [hc] at k
    refine it (decide_eq_true q) ?_
    walk_at "ks"
    exact ⟨two_sz, _, Sub.rfl', k⟩
  · rw [if_neg q] at hc
    rw [hc] at k
    refine ie (dn q) ?_
    walk_at "ks"
    refine lc_map Dat.int Dat.int (fun y => 0 - y) trivial (by omega) (fun y _ => ⟨_, rfl, fun Θ h => ?_⟩) ?_
    · walk_at "ks"
      exact h
    walk_at "ks"
    refine w_tuple ?_
    walk_at "ks"
    exact ⟨two_sz, _, Sub.rfl', k⟩
theorem r__law_turned : ∀ ds M Φ Ψ, p__law_turned ds M Φ Ψ → ds.length = 1 ∧ t__law_turned (endsOf Φ) (startD N__law_turned ds (exOf Ψ)) M := by
  rintro ds M Φ Ψ ⟨ns, rfl, hl, hx, k⟩
  refine ⟨rfl, ?_⟩
  obtain ⟨x, r, hf⟩ := filt_cons hx
  have hc := canon_of hf
  unfold t__law_turned
  walk_at "ks"
  refine lc_filt (fun y => y != 0) trivial (by omega) (fun y _ => ⟨_, rfl, fun Θ h => ?_, fun Θ h => ?_⟩) ?_
  · walk_at "ks"
    refine oEq_ii ?_
    rw [if_pos rfl]
    walk_at "ks"
    have e : (!decide (y = 0)) = (y != 0) := by rw [Bool.eq_iff_iff]; simp
    rw [e]; exact h
  · walk_at "ks"
    exact h
  rw [hf]
  walk_at "ks"
  refine ix_at (j := 0) rfl rfl ?_
  walk_at "ks"
  by_cases q : 0 < x
  · rw [if_pos q] at hc
    rw [hc] at k
    refine it (decide_eq_true q) ?_
    walk_at "ks"
    exact ⟨two_sz, _, Sub.rfl', k⟩
  · rw [if_neg q] at hc
    rw [hc] at k
    refine ie (dn q) ?_
    walk_at "ks"
    refine lc_map Dat.int Dat.int (fun y => 0 - y) trivial (by omega) (fun y _ => ⟨_, rfl, fun Θ h => ?_⟩) ?_
    · walk_at "ks"
      exact h
    walk_at "ks"
    refine w_tuple ?_
    walk_at "ks"
    exact ⟨two_sz, _, Sub.rfl', k⟩
theorem r_step_between : ∀ ds M Φ Ψ, p_step_between ds M Φ Ψ → ds.length = 2 ∧ t_step_between (endsOf Φ) (startD N_step_between ds (exOf Ψ)) M := by
  rintro ds M Φ Ψ ⟨a, b, rfl, hl, hb, k⟩
  refine ⟨rfl, ?_⟩
  unfold t_step_between
  walk_at "ks"
  refine ⟨_, _, rfl, ?_⟩
  rw [zipD_ints]
  refine lc_map (fun q : Int × Int => .tup [.int q.1, .int q.2]) Dat.int (fun q : Int × Int => q.2 - q.1) trivial (by rw [List.length_zip]; omega) (fun q _ => ⟨_, rfl, fun Θ h => ?_⟩) ?_
  · walk_at "ks"
    exact h
  walk_at "ks"
  refine w_tuple ?_
  exact ⟨_, Sub.rfl', k⟩
theorem subL_get {a b : List Int} (hb : b.length = a.length) : (List.range a.length).map (fun j => b.getD j 0 - a.getD j 0) = subL a b := by
  refine List.ext_getElem (by unfold subL; simp; omega) fun i h1 h2 => ?_
  have ha : i < a.length := by simpa using h1
  have hb' : i < b.length := by omega
  simp [subL, List.getD_eq_getElem?_getD, ha, hb']
theorem r__law_between : ∀ ds M Φ Ψ, p__law_between ds M Φ Ψ → ds.length = 2 ∧ t__law_between (endsOf Φ) (startD N__law_between ds (exOf Ψ)) M := by
  rintro ds M Φ Ψ ⟨a, b, rfl, hl, hb, k⟩
  refine ⟨rfl, ?_⟩
  unfold t__law_between
  walk_at "ks"
  refine ⟨_, _, rfl, rfl, ?_⟩
  walk_at "ks"
  rw [List.length_map]
  refine ⟨_, rfl, by omega, by omega, ?_⟩
  rw [rngD_nat]
  refine lc_map (fun j : Nat => .int (j : Nat)) Dat.int (fun j : Nat => b.getD j 0 - a.getD j 0) trivial (by rw [List.length_range]; omega) (fun j hj => ⟨_, rfl, fun Θ h => ?_⟩) ?_
  · have hj' : j < a.length := List.mem_range.mp hj
    walk_at "ks"
    refine ix_at rfl (get_ints (by omega)) ?_
    walk_at "ks"
    refine ix_at rfl (get_ints hj') ?_
    walk_at "ks"
    exact h
  walk_at "ks"
  refine w_tuple ?_
  rw [subL_get hb]
  exact ⟨_, Sub.rfl', k⟩
structure TI where
  ns : List Int
  deriving DecidableEq
instance : Enc TI where
  d := fun x => tupI x.ns
  p := fun x => .tuple (x.ns.map .int)
  dep := 1
  tp := fun M x => by
    show (toPs M (x.ns.map Dat.int)).map PyData.tuple = _
    rw [toPs_map (f := Dat.int) (g := PyData.int) (fun _ => rfl)]
    rfl
  deq := inferInstance
  eq := fun a b => by
    have e : PyData.eqv (.tuple (a.ns.map .int)) (.tuple (b.ns.map .int)) = decide (a.ns = b.ns) := eqvAll_map (g := PyData.int) (fun a b => by show (a == b) = _; rw [Bool.eq_iff_iff]; simp) a.ns b.ns
    rw [e, Bool.eq_iff_iff]
    cases a; cases b; simp
  lay := fun a => canLayAll_map (g := PyData.int) (fun _ => rfl) a.ns
  depth := fun a => Nat.succ_le_succ (depthAll_map (g := PyData.int) (n := 0) (fun _ => Nat.le_refl _) a.ns)
theorem oEq_ti {neg : Bool} {a b : List Int} {M : Mem} {Φ : Dat → Mem → Prop} (h : Φ (.bl (if neg then !decide (a = b) else decide (a = b))) M) : oEq neg (tupI a) (tupI b) M Φ := by
  refine oEq_enc (α := TI) (a := ⟨a⟩) (b := ⟨b⟩) (by decide) ?_
  have e : ∀ D : Decidable ((⟨a⟩ : TI) = ⟨b⟩), @decide ((⟨a⟩ : TI) = ⟨b⟩) D = decide (a = b) := fun D => by rw [Bool.eq_iff_iff]; simp
  rw [e]; exact h
theorem oEq_pti {s t : Int} {a b : List Int} {M : Mem} {Φ : Dat → Mem → Prop} (e1 : s = t) (e2 : a = b) (h : Φ (.bl true) M) : oEq false (.tup [.int s, tupI a]) (.tup [.int t, tupI b]) M Φ := by
  subst e1 e2
  refine oEq_enc (α := Int × TI) (a := (s, ⟨a⟩)) (b := (s, ⟨a⟩)) (by decide) ?_
  rw [if_neg Bool.false_ne_true, decide_eq_true rfl]
  exact h
theorem r__law_is_step : ∀ ds M Φ Ψ, p__law_is_step ds M Φ Ψ → ds.length = 2 ∧ t__law_is_step (endsOf Φ) (startD N__law_is_step ds (exOf Ψ)) M := by
  rintro ds M Φ Ψ ⟨a, b, rfl, hl, hb, k⟩
  refine ⟨rfl, ?_⟩
  unfold t__law_is_step
  walk_at "ks"
  refine isi_tup (by rfl) ?_
  walk_at "ks"
  refine ie (by decide) ?_
  refine oEq_ti ?_
  rw [if_pos rfl]
  walk_at "ks"
  by_cases q : a = b
  · rw [decide_eq_true q] at k ⊢
    refine ie (by decide) ?_
    walk_at "ks"
    refine lc_filt (fun y => false) trivial (by omega) (fun y _ => ⟨_, rfl, fun Θ h => ?_, fun Θ h => ?_⟩) ?_
    · walk_at "ks"
      refine isi_int (by rfl) ?_
      walk_at "ks"
      refine ie (by decide) ?_
      refine isi_int (by rfl) ?_
      walk_at "ks"
      exact h
    · walk_at "ks"
      exact h
    walk_at "ks"
    refine ⟨line_of (by simp), ?_⟩
    rw [List.filter_eq_nil_iff.mpr (fun _ _ => Bool.false_ne_true)]
    refine oEq_empty ?_
    exact ⟨_, Sub.rfl', k⟩
  · rw [decide_eq_false q] at k ⊢
    refine it (by decide) ?_
    walk_at "ks"
    exact ⟨_, Sub.rfl', k⟩
/-! ### plain laws of steps -/
theorem subL_neg : ∀ a b : List Int, subL b a = (subL a b).map fun n => 0 - n
  | [], [] => rfl
  | [], _ :: _ => rfl
  | _ :: _, [] => rfl
  | x :: a, y :: b => by
    have ih := subL_neg a b
    show (x - y) :: subL b a = (0 - (y - x)) :: (subL a b).map _
    rw [ih, show x - y = 0 - (y - x) by omega]
theorem subL_len (a b : List Int) : (subL a b).length = min a.length b.length := by unfold subL; simp
theorem subL_nz : ∀ {a b : List Int}, b.length = a.length → a ≠ b → ∃ x ∈ subL a b, x ≠ 0
  | [], [], _, h => absurd rfl h
  | x :: a, y :: b, hl, h => by
    by_cases e : x = y
    · subst e
      obtain ⟨z, hz, h0⟩ := subL_nz (a := a) (b := b) (by simpa using hl) (fun e => h (by rw [e]))
      exact ⟨z, List.mem_cons_of_mem _ hz, h0⟩
    · exact ⟨y - x, List.mem_cons_self, by omega⟩
theorem negL_negL (ns : List Int) : (ns.map fun n => 0 - n).map (fun n => 0 - n) = ns := by
  rw [List.map_map]
  have : ((fun n : Int => 0 - n) ∘ fun n => 0 - n) = id := by
    funext n; show 0 - (0 - n) = n; omega
  rw [this, List.map_id]
theorem negL_filt (ns : List Int) : (ns.map fun n => 0 - n).filter (fun y => y != 0) = (ns.filter fun y => y != 0).map fun n => 0 - n := by
  rw [List.filter_map]
  congr 1
  refine List.filter_congr fun x _ => ?_
  show (0 - x != 0) = (x != 0)
  rw [Bool.eq_iff_iff]; simp
theorem canon_neg {ns : List Int} (h : ∃ x ∈ ns, x ≠ 0) : canon (ns.map fun n => 0 - n) = (0 - (canon ns).1, (canon ns).2) := by
  obtain ⟨x, r, hf⟩ := filt_cons h
  have hf2 : (ns.map fun n => 0 - n).filter (fun y => y != 0) = (0 - x) :: r.map fun n => 0 - n := by rw [negL_filt, hf]; rfl
  have x0 : x ≠ 0 := by
    have : x ∈ ns.filter (fun y => y != 0) := by rw [hf]; exact List.mem_cons_self
    simpa using (List.mem_filter.mp this).2
  rw [canon_of hf, canon_of hf2]
  by_cases q : 0 < x
  · rw [if_pos q, if_neg (by omega), negL_negL]; rfl
  · rw [if_neg q, if_pos (by omega)]; rfl
theorem canon_idem {ns : List Int} (h : ∃ x ∈ ns, x ≠ 0) : canon (canon ns).2 = (1, (canon ns).2) := by
  obtain ⟨x, r, hf⟩ := filt_cons h
  have hf2 : (ns.map fun n => 0 - n).filter (fun y => y != 0) = (0 - x) :: r.map fun n => 0 - n := by rw [negL_filt, hf]; rfl
  have x0 : x ≠ 0 := by
    have : x ∈ ns.filter (fun y => y != 0) := by rw [hf]; exact List.mem_cons_self
    simpa using (List.mem_filter.mp this).2
  rw [canon_of hf]
  by_cases q : 0 < x
  · rw [if_pos q]
    show canon ns = (1, ns)
    rw [canon_of hf, if_pos q]
  · rw [if_neg q]
    show canon (ns.map fun n => 0 - n) = (1, ns.map fun n => 0 - n)
    rw [canon_of hf2, if_pos (by omega)]
theorem canon_facts {ns : List Int} (h : ∃ x ∈ ns, x ≠ 0) : (canon ns).1.natAbs ≤ 1 ∧ (canon ns).2.length = ns.length ∧ ∃ x ∈ (canon ns).2, x ≠ 0 := by
  obtain ⟨x, r, hf⟩ := filt_cons h
  rw [canon_of hf]
  by_cases q : 0 < x
  · rw [if_pos q]; exact ⟨Nat.le_refl 1, rfl, h⟩
  · rw [if_neg q]
    obtain ⟨y, hy, h0⟩ := h
    exact ⟨Nat.le_refl 1, List.length_map _, 0 - y, List.mem_map.mpr ⟨y, hy, rfl⟩, by omega⟩
end K00
namespace K00
open PySem PySem.Spec PyProof.Rows L2 EX Spx
local macro_rules | `(tactic| walk_at "ks") => `(tactic| (with_reducible (repeat (first | (apply w_v; (next => with_unfolding_all rfl)) | refine w_seq ?_ | refine w_ret ?_ | refine w_set ?_ | refine w_asg ?_ | refine w_par ?_ | refine w_drop ?_ | refine w_ifS ?_ | refine w_for ?_ | refine w_test ?_ | refine w_op ?_ | refine w_un ?_ | refine w_c ?_ | refine w_cb ?_ | refine w_cons ?_ | refine w_nil ?_ | refine w_tup ?_ | refine w_lst ?_ | refine w_lstO ?_ | refine w_not ?_ | refine w_and ?_ | refine w_or ?_ | refine w_andV ?_ | refine w_orV ?_ | refine w_notV ?_ | refine w_if ?_ | refine w_onB ?_ | refine w_noPart ?_ | refine w_part ?_ | refine w_onI ?_ | refine w_sl ?_ | refine w_lc ?_ | refine w_lcO ?_ | refine w_diList ?_ | refine w_diZip ?_ | refine w_diEnum ?_ | refine w_diRng1 ?_ | refine w_mt ?_ | refine w_gt ?_ | refine w_lt ?_ | refine w_le ?_ | refine w_ge ?_ | refine w_addI ?_ | refine w_subI ?_ | refine w_neg ?_ | refine w_abs ?_ | refine w_int ?_ | refine w_intB ?_ | refine w_isN ?_ | refine w_notN ?_ | refine w_yes ?_ | refine w_itt ?_ | refine w_iff ?_ | refine w_lz ?_ | refine w_callK ?_ | refine w_call ?_ | refine w_call0 ?_ | refine w_chain ?_ | refine w_setIx ?_ | refine w_diTup ?_ | refine w_onT ?_ | refine w_next ?_ | refine w_diEnumZip ?_ | refine w_fld ?_ | refine w_setF ?_ | refine w_setF2 ?_ | refine w_meth ?_ | refine w_make ?_ | refine w_ss ?_ | refine w_rev ?_ | refine w_dict0 ?_ | refine w_dict1 ?_ | refine w_exc0 ?_ | refine w_excS ?_ | refine w_raise0 ?_ | refine w_fldE ?_ | refine w_tru ?_ | refine w_notT ?_ | refine w_fmt ?_ | refine w_joined ?_ | refine w_js0 ?_ | refine w_js ?_ | refine w_zipT ?_ | refine w_par3 ?_ | refine w_methK ?_ | refine w_makeK ?_ | refine w_tryAs ?_ | refine w_bool0 ?_ | refine w_strS ?_ | refine w_slT ?_))))
theorem r__law_right : ∀ ds M Φ Ψ, p__law_right ds M Φ Ψ → ds.length = 2 ∧ t__law_right (endsOf Φ) (startD N__law_right ds (exOf Ψ)) M := by
  rintro ds M Φ Ψ ⟨a, b, rfl, hb, hl, ne, k⟩
  refine ⟨rfl, ?_⟩
  have nz := subL_nz hb ne
  have ln : (subL a b).length ≤ 3 := by rw [subL_len]; omega
  have ln2 : (subL b a).length ≤ 3 := by rw [subL_len]; omega
  have back := subL_neg a b
  obtain ⟨f1, f2, f3⟩ := canon_facts nz
  unfold t__law_right
  walk_at "ks"
  refine ⟨a, b, rfl, hl, hb, ?_⟩
  walk_at "ks"
  refine ⟨a, b, rfl, hl, hb, ?_⟩
  walk_at "ks"
  refine ⟨_, _, rfl, ln, ln, ?_⟩
  rw [decide_eq_true rfl]
  walk_at "ks"
  refine ie (by decide) ?_
  walk_at "ks"
  refine ⟨rfl, ?_⟩
  show p_step_between [tupI b, tupI a] _ _ _
  refine ⟨b, a, rfl, by omega, hb.symm, ?_⟩
  walk_at "ks"
  refine lc_map Dat.int Dat.int (fun y => 0 - y) trivial (by omega) (fun y _ => ⟨_, rfl, fun Θ h => ?_⟩) ?_
  · walk_at "ks"
    exact h
  walk_at "ks"
  refine w_tuple ?_
  walk_at "ks"
  refine ⟨_, _, rfl, ln2, by rw [List.length_map]; exact ln, ?_⟩
  rw [decide_eq_true back]
  walk_at "ks"
  refine ie (by decide) ?_
  walk_at "ks"
  refine ⟨_, rfl, ln, nz, ?_⟩
  refine ⟨_, rfl, ?_⟩
  walk_at "ks"
  refine ⟨_, rfl, ln, nz, ?_⟩
  walk_at "ks"
  refine isi_tup (by rfl) ?_
  walk_at "ks"
  refine ie (by decide) ?_
  refine ⟨_, _, rfl, rfl, ?_⟩
  walk_at "ks"
  refine oEq_ii ?_
  rw [if_pos rfl]
  refine w_onB ?_
  refine ie (by simp) ?_
  walk_at "ks"
  refine ix_at (j := 0) rfl rfl ?_
  have pl := pl_int (i := (canon (subL a b)).1) (Nat.le_trans f1 (by decide))
  obtain ⟨q, e1, e2, e3, e4⟩ := pl
  walk_at "ks"
  refine w_repr e1 e2 (sz_of (by omega)) (by omega) ?_
  walk_at "ks"
  refine w_repr e1 e2 (sz_of (by omega)) (by omega) ?_
  refine oNe_self rfl ?_
  walk_at "ks"
  refine ix_at (j := 1) rfl rfl ?_
  walk_at "ks"
  refine ⟨_, _, rfl, by omega, by omega, ?_⟩
  rw [decide_eq_true rfl]
  walk_at "ks"
  refine ie (by decide) ?_
  walk_at "ks"
  refine ⟨rfl, ?_⟩
  show p_canonical [tupI (subL b a)] _ _ _
  rw [back]
  refine ⟨_, rfl, by rw [List.length_map]; exact ln, ?_, ?_⟩
  · obtain ⟨y, hy, h0⟩ := nz
    exact ⟨0 - y, List.mem_map.mpr ⟨y, hy, rfl⟩, by omega⟩
  rw [canon_neg nz]
  walk_at "ks"
  refine ⟨two_sz, ?_⟩
  refine oEq_pti rfl rfl ?_
  walk_at "ks"
  refine ⟨_, rfl, by omega, f3, ?_⟩
  rw [canon_idem nz]
  walk_at "ks"
  refine ⟨two_sz, ?_⟩
  refine oEq_pti rfl rfl ?_
  exact ⟨_, Sub.rfl', k⟩
/-! ### places -/
theorem r__law_place : ∀ ds M Φ Ψ, p__law_place ds M Φ Ψ → ds.length = 2 ∧ t__law_place (endsOf Φ) (startD N__law_place ds (exOf Ψ)) M := by
  rintro ds M Φ Ψ ⟨p, d, kk, rfl, hd1, hd3, hp, k⟩
  refine ⟨rfl, ?_⟩
  unfold t__law_place
  walk_at "ks"
  refine ⟨line_of (by simp), ?_⟩
  refine ⟨p, 3, kk + 9, rfl, by decide, hp, fun v M1 v0 v1 o1 q1 => ?_⟩
  refine ix_any rfl v0 v1 fun w hw => ?_
  have hw' : ∃ c : Int, w = .int c ∧ 1 ≤ c ∧ c ≤ 1000 := by
    simp only [List.mem_cons, List.not_mem_nil, or_false] at hw
    rcases hw with rfl | rfl | rfl <;> exact ⟨_, rfl, by decide, by decide⟩
  obtain ⟨c, rfl, c1, c2⟩ := hw'
  walk_at "ks"
  refine ⟨_, rfl, by omega, by omega, ?_⟩
  rw [rngD_nat]
  refine lc_draw (p := p) (V := fun v => ∃ x : Int, v = .int x ∧ x.natAbs ≤ 1000) (c := 2) (n := d) (k := kk) (fun _ => trivial) (fun j e M k Θ _ hp hΘ => ?_) (by simp) (by omega) (q1.weak (by omega)) fun vs M4 hl hv o4 q4 => ?_
  · walk_at "ks"
    refine ⟨mulS (.inl (by decide)), ?_⟩
    walk_at "ks"
    refine ⟨p, 2 * c + 1, k + 1, rfl, by omega, hp, fun x M2 x0 x1 o2 q2 => ?_⟩
    walk_at "ks"
    refine ⟨line_of (by simp), ?_⟩
    refine ⟨p, 4, k, rfl, by decide, q2, fun y M3 y0 y1 o3 q3 => ?_⟩
    refine ix_any rfl y0 y1 fun z hz => ?_
    refine hΘ _ _ ?_ (o2.trans o3) q3
    simp only [List.mem_cons, List.not_mem_nil, or_false] at hz
    rcases hz with rfl | rfl | rfl | rfl
    · exact ⟨_, rfl, by decide⟩
    · exact ⟨_, rfl, by omega⟩
    · exact ⟨_, rfl, by omega⟩
    · exact ⟨_, rfl, by omega⟩
  obtain ⟨ns, rfl, hnl, hnb⟩ := pull hv
  walk_at "ks"
  refine w_tuple ?_
  exact ⟨_, Sub.rfl', k ns M4 (by omega) hnb (o1.trans o4) q4⟩
theorem sIx_last (n d : Nat) : HT.sIx n d (some (-1)) = n - 1 := by
  have e : HT.sIx n d (some (-1)) = ((-1 : Int) + (n : Int)).toNat := rfl
  rw [e]; omega
theorem cut_front {ns : List Int} : EX.cutD (ns.map Dat.int) none (some (-1)) = (ns.take (ns.length - 1)).map Dat.int := by
  unfold EX.cutD
  rw [HT.sIx_none, List.drop_zero, Nat.sub_zero, List.length_map, List.map_take, sIx_last]
theorem cut_back {ns : List Int} : EX.cutD (ns.map Dat.int) (some (-1)) none = (ns.drop (ns.length - 1)).map Dat.int := by
  unfold EX.cutD
  rw [HT.sIx_none, List.length_map, ← List.map_drop, ← List.map_take, sIx_last, List.take_of_length_le (by rw [List.length_drop]; omega)]
theorem r__law_pair : ∀ ds M Φ Ψ, p__law_pair ds M Φ Ψ → ds.length = 1 ∧ t__law_pair (endsOf Φ) (startD N__law_pair ds (exOf Ψ)) M := by
  rintro ds M Φ Ψ ⟨p, kk, rfl, hp, k⟩
  refine ⟨rfl, ?_⟩
  unfold t__law_pair
  walk_at "ks"
  refine ⟨p, 3, kk + 29, rfl, by decide, hp, fun v M1 v0 v1 o1 q1 => ?_⟩
  obtain ⟨n, rfl⟩ := Int.eq_ofNat_of_zero_le v0
  walk_at "ks"
  have en : (1 : Int) + (n : Nat) = ((n + 1 : Nat) : Int) := by omega
  rw [en]
  refine ⟨p, n + 1, kk + 19, rfl, by omega, by omega, q1, fun a M2 la ba o2 q2 => ?_⟩
  walk_at "ks"
  refine ⟨p, n + 1, kk + 9, rfl, by omega, by omega, q2, fun b M3 lb bb o3 q3 => ?_⟩
  walk_at "ks"
  refine ⟨p, 4, kk + 8, rfl, by decide, q3, fun w M4 w0 w1 o4 q4 => ?_⟩
  have fin : ∀ b : List Int, b.length = n + 1 → (dSeq (dIfS (dTest (dOp (oEq false) (dVar 2) (dVar 3))) (dSet (dOp (oAddT oAdd) (dSl oSlT (dVar 2) (dNoPart) (dPart (dUn oNeg (dC (.int 1))))) (dTup (dCons (dOp oIx (dLst (dCons (dOp oAdd (dOp oIx (dVar 2) (dUn oNeg (dC (.int 1)))) (dC (.int 1))) (dCons (dUn oNeg (dC (.int 1000))) (dNil)))) (dCB oInt (dCons (dOp (oEq false) (dOp oIx (dVar 2) (dUn oNeg (dC (.int 1)))) (dC (.int 1000))) (dNil)))) (dNil)))) 3) (dNext)) (dRet (dTup (dCons (dVar 2) (dCons (dVar 3) (dNil)))))) (endsOf Φ) ⟨[some (.loc p), some (.int ((n + 1 : Nat) : Int)), some (tupI a), some (tupI b)], exOf Ψ⟩ M4 := by
    intro b lb
    have done : ∀ b : List Int, b.length = n + 1 → a ≠ b → (endsOf Φ).rt (.tup [tupI a, tupI b]) M4 := fun b lb ne => ⟨_, Sub.rfl', k a b M4 (by omega) (by omega) ne (o1.trans (o2.trans (o3.trans o4))) (q4.weak (by omega))⟩
    walk_at "ks"
    refine oEq_ti ?_
    rw [if_neg Bool.false_ne_true]
    walk_at "ks"
    by_cases q : a = b
    · refine it (decide_eq_true q) ?_
      walk_at "ks"
      rw [cut_front]
      have hlast : (a.map Dat.int)[(a.map Dat.int).length - 1]? = some (.int (a.getD (a.length - 1) 0)) := by
        rw [List.length_map]
        exact get_ints (by omega)
      refine ix_last (d := tupI a) (ds := a.map Dat.int) rfl hlast ?_
      walk_at "ks"
      refine ⟨line_of (by simp), ?_⟩
      walk_at "ks"
      refine ix_last (d := tupI a) (ds := a.map Dat.int) rfl hlast ?_
      walk_at "ks"
      refine oEq_ii ?_
      rw [if_neg Bool.false_ne_true]
      walk_at "ks"
      have spl : a = a.take (a.length - 1) ++ [a.getD (a.length - 1) 0] := by
        have h1 : a.length - 1 < a.length := by omega
        conv => lhs; rw [← List.take_append_drop (a.length - 1) a]
        rw [List.drop_eq_getElem_cons h1, List.drop_of_length_le (by omega), List.getD_eq_getElem?_getD, List.getElem?_eq_getElem h1]
        rfl
      have tl : (a.take (a.length - 1)).length = n := by rw [List.length_take]; omega
      have go : ∀ x : Int, x ≠ a.getD (a.length - 1) 0 → a ≠ a.take (a.length - 1) ++ [x] := fun x hx e => by
        have e' := spl.symm.trans e
        have := (List.append_inj_right e' rfl)
        exact hx (by simpa using this.symm)
      by_cases c : a.getD (a.length - 1) 0 = 1000
      · rw [decide_eq_true c]
        refine ix_at (j := 1) rfl rfl ?_
        walk_at "ks"
        refine ⟨one_sz, ?_⟩
        refine w_addT (sz_of (by rw [List.length_map, tl]; simp; omega)) ?_
        rw [show ([Dat.int (-1000)] : List Dat) = ([-1000] : List Int).map Dat.int from rfl, ← List.map_append]
        walk_at "ks"
        refine ⟨two_sz, done _ (by rw [List.length_append, tl]; rfl) (go _ (by rw [c]; decide))⟩
      · rw [decide_eq_false c]
        refine ix_at (j := 0) rfl rfl ?_
        walk_at "ks"
        refine ⟨one_sz, ?_⟩
        refine w_addT (sz_of (by rw [List.length_map, tl]; simp; omega)) ?_
        rw [show ([Dat.int (a.getD (a.length - 1) 0 + 1)] : List Dat) = ([a.getD (a.length - 1) 0 + 1] : List Int).map Dat.int from rfl, ← List.map_append]
        walk_at "ks"
        refine ⟨two_sz, done _ (by rw [List.length_append, tl]; rfl) (go _ (by omega))⟩
    · refine ie (by simpa using q) ?_
      walk_at "ks"
      exact ⟨two_sz, done b lb q⟩
  walk_at "ks"
  refine oEq_ii ?_
  rw [if_neg Bool.false_ne_true]
  walk_at "ks"
  by_cases c : w = 0
  · refine it (decide_eq_true c) ?_
    walk_at "ks"
    rw [cut_front, cut_back]
    refine w_addT (sz_of (by rw [List.length_map, List.length_map, List.length_take, List.length_drop]; omega)) ?_
    rw [← List.map_append]
    refine fin _ ?_
    rw [List.length_append, List.length_take, List.length_drop]; omega
  · refine ie (dn c) ?_
    walk_at "ks"
    exact fin b lb
theorem r__law_ask_two : ∀ ds M Φ Ψ, p__law_ask_two ds M Φ Ψ → ds.length = 1 ∧ t__law_ask_two (endsOf Φ) (startD N__law_ask_two ds (exOf Ψ)) M := by
  rintro ds M Φ Ψ ⟨ns, rfl, k⟩
  refine ⟨rfl, ?_⟩
  unfold t__law_ask_two
  walk_at "ks"
  refine ⟨ns, rfl, fun p M1 hp0 o1 pn => ?_⟩
  walk_at "ks"
  refine ⟨8, rfl, by decide, by decide, ?_⟩
  show dForGo _ _ _ _ (rngD 0 (((8 : Nat) : Int)).toNat) _ _
  rw [rngD_nat]
  refine for_inv (fun i Γ M' => PenAt M' p (30 * (8 - i)) ∧ ∃ w2 w3 w4, Γ = ⟨[some (.scr ns), some (.loc p), w2, w3, w4], exOf Ψ⟩) ?_ ?_ ⟨pn.weak (by decide), _, _, _, rfl⟩
  · rintro i d Γ M' hd ⟨hq, w2, w3, w4, rfl⟩
    have hi : i < 8 := by
      have := (List.getElem?_eq_some_iff.mp hd).1
      simpa using this
    rw [List.getElem?_map, List.getElem?_range hi] at hd
    cases hd
    refine ⟨trivial, _, rfl, fun N hN => ?_⟩
    have e : 30 * (8 - i) = 30 * (8 - (i + 1)) + 30 := by omega
    rw [e] at hq
    walk_at "ks"
    refine ⟨p, _, rfl, hq, fun a b M2 lb la ne o2 q2 => ?_⟩
    refine ⟨_, rfl, ?_⟩
    walk_at "ks"
    refine ⟨a, b, rfl, lb, la, ne, ?_⟩
    walk_at "ks"
    refine ie (by decide) ?_
    walk_at "ks"
    exact hN _ _ ⟨q2, _, _, _, rfl⟩
  · rintro Γ M' ⟨hq, w2, w3, w4, rfl⟩
    refine ⟨trivial, ?_⟩
    walk_at "ks"
    exact ⟨_, Sub.rfl', k _⟩
end K00
namespace K00
open PySem PySem.Spec PyProof.Rows L2 EX Spx
local macro_rules | `(tactic| walk_at "ks") => `(tactic| (with_reducible (repeat (first | (apply w_v; (next => with_unfolding_all rfl)) | refine w_seq ?_ | refine w_ret ?_ | refine w_set ?_ | refine w_asg ?_ | refine w_par ?_ | refine w_drop ?_ | refine w_ifS ?_ | refine w_for ?_ | refine w_test ?_ | refine w_op ?_ | refine w_un ?_ | refine w_c ?_ | refine w_cb ?_ | refine w_cons ?_ | refine w_nil ?_ | refine w_tup ?_ | refine w_lst ?_ | refine w_lstO ?_ | refine w_not ?_ | refine w_and ?_ | refine w_or ?_ | refine w_andV ?_ | refine w_orV ?_ | refine w_notV ?_ | refine w_if ?_ | refine w_onB ?_ | refine w_noPart ?_ | refine w_part ?_ | refine w_onI ?_ | refine w_sl ?_ | refine w_lc ?_ | refine w_lcO ?_ | refine w_diList ?_ | refine w_diZip ?_ | refine w_diEnum ?_ | refine w_diRng1 ?_ | refine w_mt ?_ | refine w_gt ?_ | refine w_lt ?_ | refine w_le ?_ | refine w_ge ?_ | refine w_addI ?_ | refine w_subI ?_ | refine w_neg ?_ | refine w_abs ?_ | refine w_int ?_ | refine w_intB ?_ | refine w_isN ?_ | refine w_notN ?_ | refine w_yes ?_ | refine w_itt ?_ | refine w_iff ?_ | refine w_lz ?_ | refine w_callK ?_ | refine w_call ?_ | refine w_call0 ?_ | refine w_chain ?_ | refine w_setIx ?_ | refine w_diTup ?_ | refine w_onT ?_ | refine w_next ?_ | refine w_diEnumZip ?_ | refine w_fld ?_ | refine w_setF ?_ | refine w_setF2 ?_ | refine w_meth ?_ | refine w_make ?_ | refine w_ss ?_ | refine w_rev ?_ | refine w_dict0 ?_ | refine w_dict1 ?_ | refine w_exc0 ?_ | refine w_excS ?_ | refine w_raise0 ?_ | refine w_fldE ?_ | refine w_tru ?_ | refine w_notT ?_ | refine w_fmt ?_ | refine w_joined ?_ | refine w_js0 ?_ | refine w_js ?_ | refine w_zipT ?_ | refine w_par3 ?_ | refine w_methK ?_ | refine w_makeK ?_ | refine w_tryAs ?_ | refine w_bool0 ?_ | refine w_strS ?_ | refine w_slT ?_))))
theorem p6 : ∀ i : Nat, i ≤ 5 → (1000000 : Int) ^ i ≤ 1000000 ^ 5
  | 0, _ => by decide
  | 1, _ => by decide
  | 2, _ => by decide
  | 3, _ => by decide
  | 4, _ => by decide
  | 5, _ => by decide
  | n + 6, h => by omega
theorem r__law_int : ∀ ds M Φ Ψ, p__law_int ds M Φ Ψ → ds.length = 2 ∧ t__law_int (endsOf Φ) (startD N__law_int ds (exOf Ψ)) M := by
  rintro ds M Φ Ψ ⟨p, g, kk, rfl, g1, g5, hp, k⟩
  refine ⟨rfl, ?_⟩
  unfold t__law_int
  walk_at "ks"
  refine ⟨p, 4, kk + 9, rfl, by decide, hp, fun v M1 v0 v1 o1 q1 => ?_⟩
  walk_at "ks"
  refine oEq_ii ?_
  rw [if_neg Bool.false_ne_true]
  walk_at "ks"
  by_cases c0 : v = 0
  · refine it (decide_eq_true c0) ?_
    walk_at "ks"
    refine ⟨p, 25, kk + 8, rfl, by decide, q1, fun w M2 w0 w1 o2 q2 => ?_⟩
    walk_at "ks"
    refine ⟨_, Sub.rfl', k _ _ ?_ (o1.trans o2) (q2.weak (by omega))⟩
    exact Nat.le_trans (show (w - 12).natAbs ≤ 100 by omega) (by decide)
  refine ie (dn c0) ?_
  walk_at "ks"
  refine oEq_ii ?_
  rw [if_neg Bool.false_ne_true]
  walk_at "ks"
  by_cases c1 : v = 1
  · refine it (decide_eq_true c1) ?_
    walk_at "ks"
    refine ⟨⟨by decide, by decide, by decide⟩, ?_⟩
    walk_at "ks"
    refine ⟨⟨by decide, by decide, by decide⟩, ?_⟩
    walk_at "ks"
    refine ⟨⟨by decide, by decide, by decide⟩, ?_⟩
    walk_at "ks"
    refine ⟨⟨by decide, by decide, by decide⟩, ?_⟩
    walk_at "ks"
    refine ⟨line_of (by simp), ?_⟩
    refine ⟨p, 8, kk + 8, rfl, by decide, q1, fun w M2 w0 w1 o2 q2 => ?_⟩
    refine ix_any rfl w0 w1 fun d hd => ?_
    have hd' : ∃ c : Int, d = .int c ∧ Sx c := by
      simp only [List.mem_cons, List.not_mem_nil, or_false] at hd
      rcases hd with rfl | rfl | rfl | rfl | rfl | rfl | rfl | rfl <;> exact ⟨_, rfl, by unfold Sx; decide⟩
    obtain ⟨c, rfl, hc⟩ := hd'
    exact ⟨_, Sub.rfl', k _ _ hc (o1.trans o2) (q2.weak (by omega))⟩
  refine ie (dn c1) ?_
  walk_at "ks"
  refine ⟨p, g, kk + 8, rfl, g1, q1, fun w M2 w0 w1 o2 q2 => ?_⟩
  obtain ⟨n, rfl⟩ := Int.eq_ofNat_of_zero_le w0
  walk_at "ks"
  have en : (1 : Int) + (n : Nat) = ((n + 1 : Nat) : Int) := by omega
  rw [en]
  refine ⟨_, rfl, by omega, by omega, ?_⟩
  rw [rngD_nat]
  refine for_inv (fun i Γ M' => Oth p M M' ∧ PenAt M' p (kk + 8 - i) ∧ ∃ (f : Int) (w4 : Option Dat), 0 ≤ f ∧ f < 1000000 ^ i ∧ Γ = ⟨[some (.loc p), some (.int g), some (.int v), some (.int f), w4], exOf Ψ⟩) ?_ ?_ ⟨o1.trans o2, q2, 0, _, by decide, by decide, rfl⟩
  · rintro i d Γ M' hd ⟨o, q, f, w4, f0, f1, rfl⟩
    have hi : i < n + 1 := by
      have := (List.getElem?_eq_some_iff.mp hd).1
      rw [List.length_map, List.length_range] at this
      exact this
    have b6 := p6 i (by omega)
    refine ⟨trivial, _, rfl, fun N hN => ?_⟩
    walk_at "ks"
    refine ⟨mulS (.inl (by decide)), ?_⟩
    walk_at "ks"
    have e : kk + 8 - i = (kk + 8 - (i + 1)) + 1 := by omega
    rw [e] at q
    refine ⟨p, 1000000, _, rfl, by decide, q, fun x M3 x0 x1 o3 q3 => ?_⟩
    walk_at "ks"
    refine hN _ _ ⟨o.trans o3, q3, _, _, ?_, ?_, rfl⟩
    · omega
    · rw [Int.pow_succ]; omega
  · rintro Γ M' ⟨o, q, f, w4, f0, f1, rfl⟩
    refine ⟨trivial, ?_⟩
    walk_at "ks"
    rw [List.length_map, List.length_range] at f1 q
    have b6 := p6 (n + 1) (by omega)
    refine ⟨p, 2, kk + 2, rfl, by decide, q.weak (by omega), fun y M3 y0 y1 o3 q3 => ?_⟩
    refine ⟨mulS (.inl (by decide)), ?_⟩
    walk_at "ks"
    refine ⟨mulS (.inr (by omega)), ?_⟩
    refine ⟨_, Sub.rfl', k _ _ ?_ (o.trans o3) (q3.weak (by omega))⟩
    have h1 : f ≤ 10 ^ 30 := by omega
    have yc : y = 0 ∨ y = 1 := by omega
    unfold Sx
    rcases yc with rfl | rfl
    · have : f * (1 - 2 * 0) = f := by omega
      rw [this]; omega
    · have : f * (1 - 2 * 1) = -f := by omega
      rw [this]; omega
theorem r__law_divisor : ∀ ds M Φ Ψ, p__law_divisor ds M Φ Ψ → ds.length = 2 ∧ t__law_divisor (endsOf Φ) (startD N__law_divisor ds (exOf Ψ)) M := by
  rintro ds M Φ Ψ ⟨t, b, rfl, k⟩
  refine ⟨rfl, ?_⟩
  unfold t__law_divisor
  walk_at "ks"
  refine ⟨_, _, rfl, ?_⟩
  walk_at "ks"
  refine wh_inv (fun n Γ M' => M' = M ∧ ∃ u : Nat, Γ = ⟨[some (.int (u : Nat)), some (.int (n : Nat))], exOf Ψ⟩ ∧ Nat.gcd u n = Int.gcd t b) ?_ (n := b.natAbs) ⟨rfl, t.natAbs, rfl, rfl⟩
  rintro n Γ M' ⟨rfl, u, rfl, hg⟩ N hN
  walk_at "ks"
  refine oEq_ii ?_
  rw [if_pos rfl]
  walk_at "ks"
  cases n with
  | zero =>
    rw [Nat.gcd_zero_right] at hg
    refine ie (by simp) ?_
    walk_at "ks"
    rw [hg]
    exact ⟨_, Sub.rfl', k⟩
  | succ n =>
    have e : (!decide (((n + 1 : Nat) : Int) = 0)) = true := by simp; omega
    refine it e ?_
    walk_at "ks"
    refine ⟨by omega, ?_⟩
    walk_at "ks"
    refine ⟨_, _, rfl, ?_⟩
    refine hN (u % (n + 1)) _ _ (Nat.mod_lt _ (Nat.succ_pos _)) ⟨rfl, n + 1, ?_, ?_⟩
    · have e2 : (u : Int).fmod ((n + 1 : Nat) : Int) = ((u % (n + 1) : Nat) : Int) := by
        rw [Int.fmod_eq_emod_of_nonneg _ (by omega)]; rfl
      rw [e2]; rfl
    · rw [← hg, Nat.gcd_comm u (n + 1), Nat.gcd_rec (n + 1) u]; exact Nat.gcd_comm _ _
theorem r__law_divisor_four : ∀ ds M Φ Ψ, p__law_divisor_four ds M Φ Ψ → ds.length = 2 ∧ t__law_divisor_four (endsOf Φ) (startD N__law_divisor_four ds (exOf Ψ)) M := by
  rintro ds M Φ Ψ ⟨t, b, rfl, k⟩
  refine ⟨rfl, ?_⟩
  unfold t__law_divisor_four
  walk_at "ks"
  refine ⟨_, _, rfl, ?_⟩
  walk_at "ks"
  refine wh_inv (fun n Γ M' => M' = M ∧ ∃ u : Nat, Γ = ⟨[some (.int (u : Nat)), some (.int (n : Nat))], exOf Ψ⟩ ∧ Nat.gcd u n = Int.gcd t b) ?_ (n := b.natAbs) ⟨rfl, t.natAbs, rfl, rfl⟩
  rintro n Γ M' ⟨rfl, u, rfl, hg⟩ N hN
  walk_at "ks"
  refine oEq_ii ?_
  rw [if_pos rfl]
  walk_at "ks"
  cases n with
  | zero =>
    rw [Nat.gcd_zero_right] at hg
    refine ie (by simp) ?_
    walk_at "ks"
    rw [hg]
    exact ⟨_, Sub.rfl', k⟩
  | succ n =>
    have e : (!decide (((n + 1 : Nat) : Int) = 0)) = true := by simp; omega
    refine it e ?_
    walk_at "ks"
    refine ⟨by omega, ?_⟩
    walk_at "ks"
    refine ⟨_, _, rfl, ?_⟩
    refine hN (u % (n + 1)) _ _ (Nat.mod_lt _ (Nat.succ_pos _)) ⟨rfl, n + 1, ?_, ?_⟩
    · have e2 : (u : Int).fmod ((n + 1 : Nat) : Int) = ((u % (n + 1) : Nat) : Int) := by
        rw [Int.fmod_eq_emod_of_nonneg _ (by omega)]; rfl
      rw [e2]; rfl
    · rw [← hg, Nat.gcd_comm u (n + 1), Nat.gcd_rec (n + 1) u]; exact Nat.gcd_comm _ _
theorem r__law_is_whole : ∀ ds M Φ Ψ, p__law_is_whole ds M Φ Ψ → ds.length = 1 ∧ t__law_is_whole (endsOf Φ) (startD N__law_is_whole ds (exOf Ψ)) M := by
  rintro ds M Φ Ψ ⟨i, rfl, k⟩
  refine ⟨rfl, ?_⟩
  unfold t__law_is_whole
  walk_at "ks"
  refine isi_int (by rfl) ?_
  walk_at "ks"
  refine isi_int (by rfl) ?_
  walk_at "ks"
  exact ⟨_, Sub.rfl', k⟩
theorem isiIR {a : Addr} {M : Mem} {Φ : Dat → Mem → Prop} (ha : M a = some (.exn "InvalidRatio" [] [])) (k : Φ (.bl true) M) : oIsiC [(.own "InvalidRatio", .own "InvalidRatio", true)] [.loc a, .cls "InvalidRatio"] M Φ := by
  refine w_isiC (t := .own "InvalidRatio") (c := .own "InvalidRatio") (b := true) ?_ rfl List.mem_cons_self k
  show (match M a with
    | some (.lst _) => some (Ty.bi "list")
    | some (.ins c _ _) => some (.own c)
    | some (.dK _ _) => some (.bi "dict")
    | some (.dT _ _) => some (.bi "dict")
    | some (.exn c _ _) => some (.own c)
    | none => none) = _
  rw [ha]
theorem r__law_refused : ∀ ds M Φ Ψ, p__law_refused ds M Φ Ψ → ds.length = 2 ∧ t__law_refused (endsOf Φ) (startD N__law_refused ds (exOf Ψ)) M := by
  rintro ds M Φ Ψ ⟨t, b, rfl, ht, hb, hg, k⟩
  refine ⟨rfl, ?_⟩
  unfold t__law_refused
  walk_at "ks"
  intro a ha
  refine ⟨a, t, b, rfl, ht, hb, Mem.put_same, fun i j e1 e2 hj => ?_, fun _ => ?_⟩
  · subst e1 e2
    rw [goodP_int hj] at hg
    cases hg
  refine ⟨true, List.mem_cons_self, fun _ e he => ?_, fun z => by cases z⟩
  rw [Mem.put_del ha] at he ⊢
  walk_at "ks"
  refine isiIR Mem.put_same ?_
  exact ⟨_, Sub.rfl', k _ (Sub.put he)⟩
theorem r__law_is : ∀ ds M Φ Ψ, p__law_is ds M Φ Ψ → ds.length = 3 ∧ t__law_is (endsOf Φ) (startD N__law_is ds (exOf Ψ)) M := by
  rintro ds M Φ Ψ ⟨x, t, b, rfl, hp, hc, ⟨s1, s2, s3, s4⟩, k⟩
  refine ⟨rfl, ?_⟩
  unfold t__law_is
  walk_at "ks"
  refine w_isiC (t := .own "Ratio") (c := .own "Ratio") (b := true) rfl rfl List.mem_cons_self ?_
  walk_at "ks"
  refine ie (by decide) ?_
  refine f_bot ?_
  walk_at "ks"
  refine ie (dn (by omega)) ?_
  refine f_top ?_
  walk_at "ks"
  refine f_bot ?_
  walk_at "ks"
  refine ⟨_, _, rfl, ?_⟩
  walk_at "ks"
  refine oEq_ii ?_
  rw [if_pos rfl, hc]
  walk_at "ks"
  refine ie (by decide) ?_
  walk_at "ks"
  refine f_top ?_
  walk_at "ks"
  refine ⟨s1.mul s4, ?_⟩
  walk_at "ks"
  refine f_bot ?_
  refine ⟨s3.mul s2, ?_⟩
  refine oEq_ii ?_
  rw [if_neg Bool.false_ne_true]
  exact ⟨_, Sub.rfl', k⟩
theorem mk_rat1 {M : Mem} {Φ : Dat → Mem → Prop} {a : Addr} {i : Int} {Ψ : DXc} (ha : M a = none) (k : Φ (ratD (i, 1)) M) : dfl [.int 1] p_Ratio_init [.loc a, .int i] (M.put a (.ins "Ratio" [] [])) (fun d M2 => d = .non ∧ mkFrz a M2 Φ) Ψ := by
  refine mk_rat (j := 1) (by decide) ha ?_
  rw [low_one]; exact k
theorem r__law_refused_four : ∀ ds M Φ Ψ, p__law_refused_four ds M Φ Ψ → ds.length = 1 ∧ t__law_refused_four (endsOf Φ) (startD N__law_refused_four ds (exOf Ψ)) M := by
  rintro ds M Φ Ψ ⟨x, rfl, h2, s1, s2, k⟩
  refine ⟨rfl, ?_⟩
  unfold t__law_refused_four
  walk_at "ks"
  refine ⟨_, _, _, _, rfl, List.mem_cons_self, rfl, ?_⟩
  walk_at "ks"
  refine fun a ha => mk_rat1 ha ?_
  walk_at "ks"
  refine ⟨x, (0, 1), rfl, h2, ⟨s1, s2, Nat.zero_le _, Nat.one_le_two_pow⟩, fun z => absurd rfl z, fun _ => ?_⟩
  refine ⟨true, List.mem_cons_self, fun _ e he => ?_, fun z => by cases z⟩
  walk_at "ks"
  refine isiIR Mem.put_same ?_
  exact ⟨_, Sub.rfl', k _ (Sub.put he)⟩
end K00
namespace K00
open PySem PySem.Spec PyProof.Rows L2 EX Spx
local macro_rules | `(tactic| walk_at "ks") => `(tactic| (with_reducible (repeat (first | (apply w_v; (next => with_unfolding_all rfl)) | refine w_seq ?_ | refine w_ret ?_ | refine w_set ?_ | refine w_asg ?_ | refine w_par ?_ | refine w_drop ?_ | refine w_ifS ?_ | refine w_for ?_ | refine w_test ?_ | refine w_op ?_ | refine w_un ?_ | refine w_c ?_ | refine w_cb ?_ | refine w_cons ?_ | refine w_nil ?_ | refine w_tup ?_ | refine w_lst ?_ | refine w_lstO ?_ | refine w_not ?_ | refine w_and ?_ | refine w_or ?_ | refine w_andV ?_ | refine w_orV ?_ | refine w_notV ?_ | refine w_if ?_ | refine w_onB ?_ | refine w_noPart ?_ | refine w_part ?_ | refine w_onI ?_ | refine w_sl ?_ | refine w_lc ?_ | refine w_lcO ?_ | refine w_diList ?_ | refine w_diZip ?_ | refine w_diEnum ?_ | refine w_diRng1 ?_ | refine w_mt ?_ | refine w_gt ?_ | refine w_lt ?_ | refine w_le ?_ | refine w_ge ?_ | refine w_addI ?_ | refine w_subI ?_ | refine w_neg ?_ | refine w_abs ?_ | refine w_int ?_ | refine w_intB ?_ | refine w_isN ?_ | refine w_notN ?_ | refine w_yes ?_ | refine w_itt ?_ | refine w_iff ?_ | refine w_lz ?_ | refine w_callK ?_ | refine w_call ?_ | refine w_call0 ?_ | refine w_chain ?_ | refine w_setIx ?_ | refine w_diTup ?_ | refine w_onT ?_ | refine w_next ?_ | refine w_diEnumZip ?_ | refine w_fld ?_ | refine w_setF ?_ | refine w_setF2 ?_ | refine w_meth ?_ | refine w_make ?_ | refine w_ss ?_ | refine w_rev ?_ | refine w_dict0 ?_ | refine w_dict1 ?_ | refine w_exc0 ?_ | refine w_excS ?_ | refine w_raise0 ?_ | refine w_fldE ?_ | refine w_tru ?_ | refine w_notT ?_ | refine w_fmt ?_ | refine w_joined ?_ | refine w_js0 ?_ | refine w_js ?_ | refine w_zipT ?_ | refine w_par3 ?_ | refine w_methK ?_ | refine w_makeK ?_ | refine w_tryAs ?_ | refine w_bool0 ?_ | refine w_strS ?_ | refine w_slT ?_))))
theorem st_of {i : Int} (h : i.natAbs ≤ 10 ^ 500) : St i := by
  unfold St
  by_cases z : i.natAbs = 0
  · rw [z]; decide
  · exact (Nat.log2_lt z).mpr (Nat.lt_of_le_of_lt h (by decide +kernel))
theorem st_one : St 1 := by unfold St; decide
theorem sm_of {i : Int} {n : Nat} (h : i.natAbs ≤ 10 ^ n) (hn : n ≤ 100000) : Sm i := by
  unfold Sm
  refine Nat.le_trans h (Nat.le_trans (Nat.pow_le_pow_left (show 10 ≤ 2 ^ 4 by decide) n) ?_)
  rw [← Nat.pow_mul]
  exact Nat.pow_le_pow_right (by decide) (by omega)
theorem oEq_bb {neg : Bool} {a b : Bool} {M : Mem} {Φ : Dat → Mem → Prop} (h : Φ (.bl (if neg then !decide (a = b) else decide (a = b))) M) : oEq neg (.bl a) (.bl b) M Φ := oEq_enc (α := Bool) (by decide) h
section
variable {M : Mem} {Φ : Dat → Mem → Prop} {x : Int × Int}
theorem rat_str {r : DFn} (h1 : St x.1) (h2 : St x.2) (k : Φ (.str (strR x)) M) : oOwnS [("Ratio", p_Ratio_str)] r [ratD x] M Φ := w_ownI List.mem_cons_self ⟨x, rfl, h1, h2, _, rfl, k⟩
theorem rat_repr {r : DFn} (h1 : St x.1) (h2 : St x.2) (k : Φ (.str (reprR x)) M) : oOwnS [("Ratio", p_Ratio_repr)] r [ratD x] M Φ := w_ownI List.mem_cons_self ⟨x, rfl, h1, h2, _, rfl, k⟩
theorem rat_bool {r : DFn} (k : Φ (.bl (!decide (x.1 = 0))) M) : oBoolI [("Ratio", p_Ratio_bool)] r [ratD x] M Φ := w_boolI List.mem_cons_self ⟨x, rfl, _, rfl, k⟩
theorem rat_eq {r : DOp} {y : Int × Int} (k : Φ (.bl (decide (x = y))) M) : oOwnE false [("Ratio", .own "Ratio", p_Ratio_eq)] r (ratD x) (ratD y) M Φ := w_ownE (t := .own "Ratio") rfl List.mem_cons_self ⟨x, ratD y, rfl, .inl ⟨y, rfl, _, rfl, k⟩⟩
theorem rat_ne {r : DOp} {y : Int × Int} (k : Φ (.bl (!decide (x = y))) M) : oOwnE true [("Ratio", .own "Ratio", p_Ratio_eq)] r (ratD x) (ratD y) M Φ := w_ownE (t := .own "Ratio") rfl List.mem_cons_self ⟨x, ratD y, rfl, .inl ⟨y, rfl, _, rfl, k⟩⟩
end
theorem mk_tur {M : Mem} {Φ : Dat → Mem → Prop} {a : Addr} {i j : Int} {Ψ : DXc} (hj : j ≠ 0) (ha : M a = none) (k : Φ (turD ((low i j).1.fmod (low i j).2, (low i j).2)) M) : p_Turn_init [.loc a, .int i, .int j] (M.put a (.ins "Turn" [] [])) (fun d M2 => d = .non ∧ mkFrz a M2 Φ) Ψ := by
  refine ⟨a, i, j, rfl, hj, Mem.put_same, rfl, ?_⟩
  rw [Mem.put_put]
  refine ⟨_, _, _, Mem.put_same, ?_⟩
  rw [Mem.put_del ha]
  exact k
theorem r__law_made_right : ∀ ds M Φ Ψ, p__law_made_right ds M Φ Ψ → ds.length = 2 ∧ t__law_made_right (endsOf Φ) (startD N__law_made_right ds (exOf Ψ)) M := by
  rintro ds M Φ Ψ ⟨u, l, rfl, hl, bu, bl, k⟩
  refine ⟨rfl, ?_⟩
  obtain ⟨xp, xc, xv⟩ := low_spec (t := u) hl
  obtain ⟨xl1, xl2⟩ := low_le (t := u) hl
  unfold t__law_made_right
  walk_at "ks"
  refine fun a ha => mk_rat hl ha ?_
  generalize hx : low u l = x at xp xc xv xl1 xl2
  have b1 : x.1.natAbs ≤ 10 ^ 100 := Nat.le_trans xl1 bu
  have b2 : x.2.natAbs ≤ 10 ^ 100 := Nat.le_trans xl2 bl
  have s1 := st_of (i := x.1) (Nat.le_trans b1 (by decide +kernel))
  have s2 := st_of (i := x.2) (Nat.le_trans b2 (by decide +kernel))
  have su := st_of (i := u) (Nat.le_trans bu (by decide +kernel))
  have l1 := num_len s1
  have l2 := num_len s2
  have c1 : (Str.ofString "Ratio(").length = 6 := rfl
  have c2 : (Str.ofString ", ").length = 2 := rfl
  have c3 : (Str.ofString ")").length = 1 := rfl
  have c4 : (Str.ofString "/").length = 1 := rfl
  walk_at "ks"
  refine f_top ?_
  walk_at "ks"
  refine ⟨_, rfl, ?_⟩
  walk_at "ks"
  refine ie (by decide) ?_
  refine f_bot ?_
  walk_at "ks"
  refine ⟨_, rfl, ?_⟩
  walk_at "ks"
  refine ie (by decide) ?_
  refine f_bot ?_
  walk_at "ks"
  refine ie (dn (by omega)) ?_
  walk_at "ks"
  refine f_top ?_
  walk_at "ks"
  refine ⟨(sm_of b1 (by decide)).mul (sm_of bl (by decide)), ?_⟩
  walk_at "ks"
  refine f_bot ?_
  refine ⟨(sm_of bu (by decide)).mul (sm_of b2 (by decide)), ?_⟩
  refine oEq_ii ?_
  rw [if_pos rfl, decide_eq_true xv]
  walk_at "ks"
  refine ie (by decide) ?_
  refine f_top ?_
  walk_at "ks"
  refine f_bot ?_
  walk_at "ks"
  refine ⟨_, _, rfl, ?_⟩
  walk_at "ks"
  refine oEq_ii ?_
  rw [if_pos rfl, xc]
  walk_at "ks"
  refine ie (by decide) ?_
  walk_at "ks"
  refine f_top ?_
  walk_at "ks"
  refine w_strI s1 ?_
  walk_at "ks"
  refine f_bot ?_
  walk_at "ks"
  refine oEq_ii ?_
  rw [if_pos rfl]
  walk_at "ks"
  have fin : (dSeq (dIfS (dOr (dTest (dOp (oEqS true (oEq true)) (dCB (oOwnS [("Ratio", p_Ratio_str)] oStr0) (dCons (dVar 2) (dNil))) (dVar 3))) (dTest (dOp (oEqS true (oEq true)) (dCB (oOwnS [("Ratio", p_Ratio_repr)] oRepr0) (dCons (dVar 2) (dNil))) (dOp oAdd (dOp oAdd (dOp oAdd (dOp oAdd (dC (.str "Ratio(")) (dCB oStr0 (dCons (dFld ["Ratio", "Turn"] "top" (dVar 2)) (dNil)))) (dC (.str ", "))) (dCB oStr0 (dCons (dFld ["Ratio", "Turn"] "bottom" (dVar 2)) (dNil)))) (dC (.str ")")))))) (dRet (dC (.bl false))) (dNext)) (dSeq (dSet (dMakeK mkFrz "Ratio" 0 2 (permS [0, 2, 1] p_Ratio_init) dNil (dCons (dVar 1) (dCons (dVar 0) (dNil)))) 4) (dRet (dAndV (dOp (oEq false) (dCB (oBoolI [("Ratio", p_Ratio_bool)] oBool0) (dCons (dVar 2) (dNil))) (dOp (oEq true) (dVar 0) (dC (.int 0)))) (dAndV (dOp (oEqS false (oEq false)) (dCB (oOwnS [("Ratio", p_Ratio_repr)] oRepr0) (dCons (dVar 4) (dNil))) (dCB (oOwnS [("Ratio", p_Ratio_repr)] oRepr0) (dCons (dVar 2) (dNil)))) (dOp (oEqS false (oEq false)) (dCB (oOwnS [("Ratio", p_Ratio_repr)] oRepr0) (dCons (dMake mkFrz "Ratio" (dfl [.int 1] p_Ratio_init) (dCons (dVar 0) (dNil))) (dNil))) (dCB (oOwnS [("Ratio", p_Ratio_repr)] oRepr0) (dCons (dMake mkFrz "Ratio" p_Ratio_init (dCons (dVar 0) (dCons (dC (.int 1)) (dNil)))) (dNil))))))))) (endsOf Φ) ⟨[some (.int u), some (.int l), some (ratD x), some (.str (strR x)), none], exOf Ψ⟩ M := by
    walk_at "ks"
    refine rat_str s1 s2 ?_
    walk_at "ks"
    refine oNe_self rfl ?_
    walk_at "ks"
    refine rat_repr s1 s2 ?_
    walk_at "ks"
    refine f_top ?_
    walk_at "ks"
    refine w_strI s1 ?_
    refine add_ss (by omega) ?_
    walk_at "ks"
    refine add_ss (by rw [strLen_append]; omega) ?_
    walk_at "ks"
    refine f_bot ?_
    walk_at "ks"
    refine w_strI s2 ?_
    refine add_ss (by rw [strLen_append, strLen_append]; omega) ?_
    walk_at "ks"
    refine add_ss (by rw [strLen_append, strLen_append, strLen_append]; omega) ?_
    refine oNe_self rfl ?_
    walk_at "ks"
    refine ⟨rfl, rfl, fun a ha => ?_⟩
    show p_Ratio_init [.loc a, .int u, .int l] _ _ _
    refine mk_rat hl ha ?_
    rw [hx]
    walk_at "ks"
    refine rat_bool ?_
    walk_at "ks"
    refine oEq_ii ?_
    rw [if_pos rfl]
    refine oEq_bb ?_
    have e : (!decide (x.1 = 0)) = (!decide (u = 0)) := by
      congr 1
      rw [Bool.eq_iff_iff, decide_eq_true_iff, decide_eq_true_iff]
      constructor
      · intro z
        rw [z, Int.zero_mul] at xv
        rcases Int.mul_eq_zero.mp xv.symm with z | z
        · exact z
        · omega
      · intro z
        rw [z, Int.zero_mul] at xv
        rcases Int.mul_eq_zero.mp xv with z | z
        · exact z
        · exact absurd z hl
    rw [if_neg Bool.false_ne_true, decide_eq_true e]
    walk_at "ks"
    refine rat_repr s1 s2 ?_
    walk_at "ks"
    refine rat_repr s1 s2 ?_
    refine oEq_ss ?_
    rw [if_neg Bool.false_ne_true, decide_eq_true rfl]
    walk_at "ks"
    refine fun b hb => mk_rat1 hb ?_
    walk_at "ks"
    refine rat_repr su st_one ?_
    walk_at "ks"
    refine fun b hb => mk_rat (by decide) hb ?_
    rw [low_one]
    walk_at "ks"
    refine rat_repr su st_one ?_
    refine oEq_ss ?_
    rw [if_neg Bool.false_ne_true, decide_eq_true rfl]
    exact ⟨_, Sub.rfl', k⟩
  by_cases q : x.2 = 1
  · rw [decide_eq_true q]
    refine ie (by decide) ?_
    walk_at "ks"
    have e : (toString x.1 : Str) = strR x := by unfold strR; rw [if_pos q]
    rw [e]
    exact fin
  · rw [decide_eq_false q]
    refine it (by decide) ?_
    walk_at "ks"
    refine add_ss (by omega) ?_
    walk_at "ks"
    refine f_bot ?_
    walk_at "ks"
    refine w_strI s2 ?_
    refine add_ss (by rw [strLen_append]; omega) ?_
    have e : ((toString x.1 : Str) ++ "/") ++ (toString x.2 : Str) = strR x := by unfold strR; rw [if_neg q]
    show (dSeq (dIfS (dOr (dTest (dOp (oEqS true (oEq true)) (dCB (oOwnS [("Ratio", p_Ratio_str)] oStr0) (dCons (dVar 2) (dNil))) (dVar 3))) (dTest (dOp (oEqS true (oEq true)) (dCB (oOwnS [("Ratio", p_Ratio_repr)] oRepr0) (dCons (dVar 2) (dNil))) (dOp oAdd (dOp oAdd (dOp oAdd (dOp oAdd (dC (.str "Ratio(")) (dCB oStr0 (dCons (dFld ["Ratio", "Turn"] "top" (dVar 2)) (dNil)))) (dC (.str ", "))) (dCB oStr0 (dCons (dFld ["Ratio", "Turn"] "bottom" (dVar 2)) (dNil)))) (dC (.str ")")))))) (dRet (dC (.bl false))) (dNext)) (dSeq (dSet (dMakeK mkFrz "Ratio" 0 2 (permS [0, 2, 1] p_Ratio_init) dNil (dCons (dVar 1) (dCons (dVar 0) (dNil)))) 4) (dRet (dAndV (dOp (oEq false) (dCB (oBoolI [("Ratio", p_Ratio_bool)] oBool0) (dCons (dVar 2) (dNil))) (dOp (oEq true) (dVar 0) (dC (.int 0)))) (dAndV (dOp (oEqS false (oEq false)) (dCB (oOwnS [("Ratio", p_Ratio_repr)] oRepr0) (dCons (dVar 4) (dNil))) (dCB (oOwnS [("Ratio", p_Ratio_repr)] oRepr0) (dCons (dVar 2) (dNil)))) (dOp (oEqS false (oEq false)) (dCB (oOwnS [("Ratio", p_Ratio_repr)] oRepr0) (dCons (dMake mkFrz "Ratio" (dfl [.int 1] p_Ratio_init) (dCons (dVar 0) (dNil))) (dNil))) (dCB (oOwnS [("Ratio", p_Ratio_repr)] oRepr0) (dCons (dMake mkFrz "Ratio" p_Ratio_init (dCons (dVar 0) (dCons (dC (.int 1)) (dNil)))) (dNil))))))))) (endsOf Φ) ⟨[some (.int u), some (.int l), some (ratD x), some (.str (((toString x.1 : Str) ++ "/") ++ (toString x.2 : Str))), none], exOf Ψ⟩ M
    rw [e]
    exact fin
end K00
namespace K00
open PySem PySem.Spec PyProof.Rows L2 EX Spx
local macro_rules | `(tactic| walk_at "ks") => `(tactic| (with_reducible (repeat (first | (apply w_v; (next => with_unfolding_all rfl)) | refine w_seq ?_ | refine w_ret ?_ | refine w_set ?_ | refine w_asg ?_ | refine w_par ?_ | refine w_drop ?_ | refine w_ifS ?_ | refine w_for ?_ | refine w_test ?_ | refine w_op ?_ | refine w_un ?_ | refine w_c ?_ | refine w_cb ?_ | refine w_cons ?_ | refine w_nil ?_ | refine w_tup ?_ | refine w_lst ?_ | refine w_lstO ?_ | refine w_not ?_ | refine w_and ?_ | refine w_or ?_ | refine w_andV ?_ | refine w_orV ?_ | refine w_notV ?_ | refine w_if ?_ | refine w_onB ?_ | refine w_noPart ?_ | refine w_part ?_ | refine w_onI ?_ | refine w_sl ?_ | refine w_lc ?_ | refine w_lcO ?_ | refine w_diList ?_ | refine w_diZip ?_ | refine w_diEnum ?_ | refine w_diRng1 ?_ | refine w_mt ?_ | refine w_gt ?_ | refine w_lt ?_ | refine w_le ?_ | refine w_ge ?_ | refine w_addI ?_ | refine w_subI ?_ | refine w_neg ?_ | refine w_abs ?_ | refine w_int ?_ | refine w_intB ?_ | refine w_isN ?_ | refine w_notN ?_ | refine w_yes ?_ | refine w_itt ?_ | refine w_iff ?_ | refine w_lz ?_ | refine w_callK ?_ | refine w_call ?_ | refine w_call0 ?_ | refine w_chain ?_ | refine w_setIx ?_ | refine w_diTup ?_ | refine w_onT ?_ | refine w_next ?_ | refine w_diEnumZip ?_ | refine w_fld ?_ | refine w_setF ?_ | refine w_setF2 ?_ | refine w_meth ?_ | refine w_make ?_ | refine w_ss ?_ | refine w_rev ?_ | refine w_dict0 ?_ | refine w_dict1 ?_ | refine w_exc0 ?_ | refine w_excS ?_ | refine w_raise0 ?_ | refine w_fldE ?_ | refine w_tru ?_ | refine w_notT ?_ | refine w_fmt ?_ | refine w_joined ?_ | refine w_js0 ?_ | refine w_js ?_ | refine w_zipT ?_ | refine w_par3 ?_ | refine w_methK ?_ | refine w_makeK ?_ | refine w_tryAs ?_ | refine w_bool0 ?_ | refine w_strS ?_ | refine w_slT ?_))))
abbrev tab8 : List (Str × Ty × DFnX) := [("Ratio", .bi "NoneType", p_Ratio_eq), ("Ratio", .bi "bool", p_Ratio_eq), ("Ratio", .bi "int", p_Ratio_eq), ("Ratio", .bi "str", p_Ratio_eq), ("Ratio", .bi "list", p_Ratio_eq), ("Ratio", .bi "tuple", p_Ratio_eq), ("Ratio", .own "Turn", p_Ratio_eq), ("Ratio", .own "Ratio", p_Ratio_eq)]
theorem rat_no {M : Mem} {Φ : Dat → Mem → Prop} {x : Int × Int} {r : DOp} {d : Dat} {t : Ty} {neg : Bool} (j : Nat) (ht : tyOf M d = some t) (hj : tab8[j]? = some (("Ratio" : Str), t, p_Ratio_eq)) (hn : NotR d) (k : Φ (.bl neg) M) : oOwnE neg [("Ratio", .bi "NoneType", p_Ratio_eq), ("Ratio", .bi "bool", p_Ratio_eq), ("Ratio", .bi "int", p_Ratio_eq), ("Ratio", .bi "str", p_Ratio_eq), ("Ratio", .bi "list", p_Ratio_eq), ("Ratio", .bi "tuple", p_Ratio_eq), ("Ratio", .own "Turn", p_Ratio_eq), ("Ratio", .own "Ratio", p_Ratio_eq)] r (ratD x) d M Φ := by
  refine w_ownE ht (mem_at (l := tab8) j hj) ⟨x, d, rfl, .inr ⟨hn, _, rfl, ?_⟩⟩
  cases neg <;> exact k
theorem repr_b3 : ∀ d : Bool, ∃ t : Str, ∀ (M : Mem) (Φ : Dat → Mem → Prop), Φ (.str t) M → oRepr0 [.lst [.bl d, .bl d, .bl (!d)]] M Φ := fun d =>
  ⟨_, fun M Φ h => w_repr (p := .list [.bool d, .bool d, .bool (!d)]) rfl rfl (sz_of (by cases d <;> decide +kernel)) (by cases d <;> decide +kernel) h⟩
theorem low_iff {t b u d : Int} (hb : b ≠ 0) (hd : d ≠ 0) : decide (low t b = low u d) = decide (t * d = u * b) := by
  rw [Bool.eq_iff_iff, decide_eq_true_iff, decide_eq_true_iff]
  constructor
  · intro e
    have v1 := low_val (t := t) hb
    have v2 := low_val (t := u) hd
    rw [← e] at v2
    have p := low_pos (t := t) hb
    generalize low t b = z at v1 v2 p
    have : z.2 * (t * d) = z.2 * (u * b) := by
      have e1 : z.2 * (t * d) = (t * z.2) * d := by ac_rfl
      have e2 : z.2 * (u * b) = (u * z.2) * b := by ac_rfl
      rw [e1, e2, ← v1, ← v2]; ac_rfl
    exact Int.eq_of_mul_eq_mul_left (by omega) this
  · exact low_same hb hd
theorem r__law_equal_right : ∀ ds M Φ Ψ, p__law_equal_right ds M Φ Ψ → ds.length = 3 ∧ t__law_equal_right (endsOf Φ) (startD N__law_equal_right ds (exOf Ψ)) M := by
  rintro ds M Φ Ψ ⟨p, u, l, kk, rfl, hl, bu, bl, hp, k⟩
  refine ⟨rfl, ?_⟩
  obtain ⟨xl1, xl2⟩ := low_le (t := u) hl
  unfold t__law_equal_right
  walk_at "ks"
  refine fun a ha => mk_rat hl ha ?_
  have s1 := st_of (i := (low u l).1) (Nat.le_trans xl1 (Nat.le_trans bu (by decide +kernel)))
  have s2 := st_of (i := (low u l).2) (Nat.le_trans xl2 (Nat.le_trans bl (by decide +kernel)))
  have mu := sm_of bu (by decide)
  have ml := sm_of bl (by decide)
  walk_at "ks"
  refine ⟨⟨by decide, by decide, by decide⟩, ?_⟩
  walk_at "ks"
  refine ⟨line_of (by simp), ?_⟩
  refine ⟨p, 6, kk + 29, rfl, by decide, hp, fun v M1 v0 v1 o1 q1 => ?_⟩
  refine ix_any rfl v0 v1 fun d hd => ?_
  have hd' : ∃ c : Int, d = .int c ∧ c ≠ 0 ∧ c.natAbs < 2 ^ 64 := by
    simp only [List.mem_cons, List.not_mem_nil, or_false] at hd
    rcases hd with rfl | rfl | rfl | rfl | rfl | rfl <;> exact ⟨_, rfl, by decide, by decide⟩
  obtain ⟨c, rfl, c0, c1⟩ := hd'
  walk_at "ks"
  refine ⟨p, 5, kk + 19, rfl, by decide, by decide, q1, fun ou M2 bou o2 q2 => ?_⟩
  walk_at "ks"
  refine ⟨p, 5, kk + 9, rfl, by decide, by decide, q2, fun ol M3 bol o3 q3 => ?_⟩
  walk_at "ks"
  refine ⟨_, _, rfl, ?_⟩
  walk_at "ks"
  have fin : ∀ (ou ol : Int) (M4 : Mem), ol ≠ 0 → Sm ou → Sm ol → Oth p M M4 → PenAt M4 p kk → (dSeq (dSet (dOp (oEq false) (dOp oMul (dVar 1) (dVar 9)) (dOp oMul (dVar 8) (dVar 2))) 5) (dSeq (dSet (dMake mkFrz "Ratio" p_Ratio_init (dCons (dVar 8) (dCons (dVar 9) (dNil)))) 6) (dSeq (dIfS (dOr (dNot (dTest (dOp (oOwnE false [("Ratio", .own "Ratio", p_Ratio_eq)] (oEq false)) (dVar 3) (dMake mkFrz "Ratio" p_Ratio_init (dCons (dOp oMul (dVar 1) (dVar 4)) (dCons (dOp oMul (dVar 2) (dVar 4)) (dNil))))))) (dTest (dOp (oOwnE true [("Ratio", .own "Ratio", p_Ratio_eq)] (oEq true)) (dVar 3) (dMake mkFrz "Ratio" p_Ratio_init (dCons (dVar 1) (dCons (dVar 2) (dNil))))))) (dRet (dC (.bl false))) (dNext)) (dSeq (dIfS (dTest (dOp (oEqS true (oEq true)) (dCB oRepr0 (dCons (dLst (dCons (dOp (oOwnE false [("Ratio", .own "Ratio", p_Ratio_eq)] (oEq false)) (dVar 3) (dVar 6)) (dCons (dOp (oOwnE false [("Ratio", .own "Ratio", p_Ratio_eq)] (oEq false)) (dVar 6) (dVar 3)) (dCons (dOp (oOwnE true [("Ratio", .own "Ratio", p_Ratio_eq)] (oEq true)) (dVar 3) (dVar 6)) (dNil))))) (dNil))) (dCB oRepr0 (dCons (dLst (dCons (dVar 5) (dCons (dVar 5) (dCons (dNotV (dVar 5)) (dNil))))) (dNil))))) (dRet (dC (.bl false))) (dNext)) (dSeq (dSet (dLst (dCons (dC .non) (dCons (dC (.bl true)) (dCons (dVar 1) (dCons (dCB (oOwnS [("Ratio", p_Ratio_str)] oStr0) (dCons (dVar 3) (dNil))) (dCons (dTup (dCons (dFld ["Ratio", "Turn"] "top" (dVar 3)) (dCons (dFld ["Ratio", "Turn"] "bottom" (dVar 3)) (dNil)))) (dCons (dLst (dCons (dVar 3) (dNil))) (dCons (dMake mkFrz "Turn" p_Turn_init (dCons (dVar 1) (dCons (dVar 2) (dNil)))) (dCons (dFld ["Ratio", "Turn"] "top" (dVar 3)) (dNil)))))))))) 7) (dRet (dOp (oEq false) (dLc (diList (dVar 7)) (.nm 10) (dOr (dTest (dOp (oOwnE false [("Ratio", .bi "NoneType", p_Ratio_eq), ("Ratio", .bi "bool", p_Ratio_eq), ("Ratio", .bi "int", p_Ratio_eq), ("Ratio", .bi "str", p_Ratio_eq), ("Ratio", .bi "list", p_Ratio_eq), ("Ratio", .bi "tuple", p_Ratio_eq), ("Ratio", .own "Turn", p_Ratio_eq), ("Ratio", .own "Ratio", p_Ratio_eq)] (oEq false)) (dVar 3) (dVar 10))) (dNot (dTest (dOp (oOwnE true [("Ratio", .bi "NoneType", p_Ratio_eq), ("Ratio", .bi "bool", p_Ratio_eq), ("Ratio", .bi "int", p_Ratio_eq), ("Ratio", .bi "str", p_Ratio_eq), ("Ratio", .bi "list", p_Ratio_eq), ("Ratio", .bi "tuple", p_Ratio_eq), ("Ratio", .own "Turn", p_Ratio_eq), ("Ratio", .own "Ratio", p_Ratio_eq)] (oEq true)) (dVar 3) (dVar 10))))) (dVar 10) [10]) (dLst (dNil))))))))) (endsOf Φ) ⟨[some (.loc p), some (.int u), some (.int l), some (ratD (low u l)), some (.int c), none, none, none, some (.int ou), some (.int ol), none], exOf Ψ⟩ M4 := by
    intro ou ol M4 ol0 mou mol o q
    walk_at "ks"
    refine ⟨mu.mul mol, ?_⟩
    walk_at "ks"
    refine ⟨mou.mul ml, ?_⟩
    refine oEq_ii ?_
    rw [if_neg Bool.false_ne_true]
    walk_at "ks"
    refine fun b hb => mk_rat ol0 hb ?_
    walk_at "ks"
    refine ⟨mulS (.inr c1), ?_⟩
    walk_at "ks"
    refine ⟨mulS (.inr c1), ?_⟩
    walk_at "ks"
    refine fun b hb => mk_rat (Int.mul_ne_zero hl c0) hb ?_
    refine rat_eq ?_
    rw [decide_eq_true (low_same hl (Int.mul_ne_zero hl c0) (by ac_rfl))]
    walk_at "ks"
    refine ie (by decide) ?_
    walk_at "ks"
    refine fun b hb => mk_rat hl hb ?_
    refine rat_ne ?_
    rw [decide_eq_true rfl]
    walk_at "ks"
    refine ie (by decide) ?_
    walk_at "ks"
    refine rat_eq ?_
    walk_at "ks"
    refine rat_eq ?_
    walk_at "ks"
    refine rat_ne ?_
    have e1 := low_iff (t := u) (u := ou) hl ol0
    have e2 := low_iff (t := ou) (u := u) ol0 hl
    have e3 : decide (ou * l = u * ol) = decide (u * ol = ou * l) := by rw [Bool.eq_iff_iff, decide_eq_true_iff, decide_eq_true_iff]; exact eq_comm
    rw [e1, e2, e3]
    generalize decide (u * ol = ou * l) = due
    obtain ⟨t, ht⟩ := repr_b3 due
    walk_at "ks"
    refine ⟨line_of (by simp), ?_⟩
    walk_at "ks"
    refine ht _ _ ?_
    walk_at "ks"
    refine ⟨line_of (by simp), ?_⟩
    walk_at "ks"
    refine ht _ _ ?_
    refine oNe_self rfl ?_
    walk_at "ks"
    refine rat_str s1 s2 ?_
    walk_at "ks"
    refine f_top ?_
    walk_at "ks"
    refine f_bot ?_
    walk_at "ks"
    refine ⟨two_sz, ?_⟩
    walk_at "ks"
    refine ⟨one_sz, ?_⟩
    walk_at "ks"
    refine fun b hb => mk_tur hl hb ?_
    walk_at "ks"
    refine f_top ?_
    walk_at "ks"
    refine ⟨line_of (by simp), ?_⟩
    walk_at "ks"
    refine ⟨_, rfl, ?_⟩
    refine lc_inv (fun i acc M' => M' = M4 ∧ acc = []) ?_ ?_ ⟨rfl, rfl⟩
    · rintro i d acc M' hd ⟨rfl, rfl⟩
      refine ⟨trivial, _, rfl, fun Θ hΘ => ?_⟩
      have key : NotR d ∧ ∃ (t : Ty) (j : Nat), tyOf M' d = some t ∧ tab8[j]? = some (("Ratio" : Str), t, p_Ratio_eq) := by
        have hm := List.mem_of_getElem? hd
        simp only [List.mem_cons, List.not_mem_nil, or_false] at hm
        rcases hm with rfl | rfl | rfl | rfl | rfl | rfl | rfl | rfl
        · exact ⟨trivial, _, 0, rfl, rfl⟩
        · exact ⟨trivial, _, 1, rfl, rfl⟩
        · exact ⟨trivial, _, 2, rfl, rfl⟩
        · exact ⟨trivial, _, 3, rfl, rfl⟩
        · exact ⟨trivial, _, 5, rfl, rfl⟩
        · exact ⟨trivial, _, 4, rfl, rfl⟩
        · exact ⟨rfl, _, 6, rfl, rfl⟩
        · exact ⟨trivial, _, 2, rfl, rfl⟩
      obtain ⟨hn, t, j, h1, h2⟩ := key
      walk_at "ks"
      refine rat_no j h1 h2 hn ?_
      walk_at "ks"
      refine rat_no j h1 h2 hn ?_
      walk_at "ks"
      refine ie (by decide) ?_
      exact hΘ _ _ ⟨rfl, rfl⟩
    · rintro acc M' ⟨rfl, rfl⟩
      refine ⟨trivial, ?_⟩
      walk_at "ks"
      refine ⟨line_of (by simp), ?_⟩
      refine oEq_empty ?_
      exact ⟨_, Sub.rfl', k _ o q⟩
  have o123 := o1.trans (o2.trans o3)
  refine oEq_ii ?_
  rw [if_neg Bool.false_ne_true]
  walk_at "ks"
  have alt : ∀ M4, Oth p M M4 → PenAt M4 p (kk + 1) → (dPar 8 9 (dCons (dOp oAdd (dVar 1) (dCall p__law_draw (dCons (dVar 0) (dCons (dC (.int 2)) (dNil))))) (dCons (dVar 2) (dNil)))) { endsOf Φ with nx := fun Γ' M' => (dSeq (dSet (dOp (oEq false) (dOp oMul (dVar 1) (dVar 9)) (dOp oMul (dVar 8) (dVar 2))) 5) (dSeq (dSet (dMake mkFrz "Ratio" p_Ratio_init (dCons (dVar 8) (dCons (dVar 9) (dNil)))) 6) (dSeq (dIfS (dOr (dNot (dTest (dOp (oOwnE false [("Ratio", .own "Ratio", p_Ratio_eq)] (oEq false)) (dVar 3) (dMake mkFrz "Ratio" p_Ratio_init (dCons (dOp oMul (dVar 1) (dVar 4)) (dCons (dOp oMul (dVar 2) (dVar 4)) (dNil))))))) (dTest (dOp (oOwnE true [("Ratio", .own "Ratio", p_Ratio_eq)] (oEq true)) (dVar 3) (dMake mkFrz "Ratio" p_Ratio_init (dCons (dVar 1) (dCons (dVar 2) (dNil))))))) (dRet (dC (.bl false))) (dNext)) (dSeq (dIfS (dTest (dOp (oEqS true (oEq true)) (dCB oRepr0 (dCons (dLst (dCons (dOp (oOwnE false [("Ratio", .own "Ratio", p_Ratio_eq)] (oEq false)) (dVar 3) (dVar 6)) (dCons (dOp (oOwnE false [("Ratio", .own "Ratio", p_Ratio_eq)] (oEq false)) (dVar 6) (dVar 3)) (dCons (dOp (oOwnE true [("Ratio", .own "Ratio", p_Ratio_eq)] (oEq true)) (dVar 3) (dVar 6)) (dNil))))) (dNil))) (dCB oRepr0 (dCons (dLst (dCons (dVar 5) (dCons (dVar 5) (dCons (dNotV (dVar 5)) (dNil))))) (dNil))))) (dRet (dC (.bl false))) (dNext)) (dSeq (dSet (dLst (dCons (dC .non) (dCons (dC (.bl true)) (dCons (dVar 1) (dCons (dCB (oOwnS [("Ratio", p_Ratio_str)] oStr0) (dCons (dVar 3) (dNil))) (dCons (dTup (dCons (dFld ["Ratio", "Turn"] "top" (dVar 3)) (dCons (dFld ["Ratio", "Turn"] "bottom" (dVar 3)) (dNil)))) (dCons (dLst (dCons (dVar 3) (dNil))) (dCons (dMake mkFrz "Turn" p_Turn_init (dCons (dVar 1) (dCons (dVar 2) (dNil)))) (dCons (dFld ["Ratio", "Turn"] "top" (dVar 3)) (dNil)))))))))) 7) (dRet (dOp (oEq false) (dLc (diList (dVar 7)) (.nm 10) (dOr (dTest (dOp (oOwnE false [("Ratio", .bi "NoneType", p_Ratio_eq), ("Ratio", .bi "bool", p_Ratio_eq), ("Ratio", .bi "int", p_Ratio_eq), ("Ratio", .bi "str", p_Ratio_eq), ("Ratio", .bi "list", p_Ratio_eq), ("Ratio", .bi "tuple", p_Ratio_eq), ("Ratio", .own "Turn", p_Ratio_eq), ("Ratio", .own "Ratio", p_Ratio_eq)] (oEq false)) (dVar 3) (dVar 10))) (dNot (dTest (dOp (oOwnE true [("Ratio", .bi "NoneType", p_Ratio_eq), ("Ratio", .bi "bool", p_Ratio_eq), ("Ratio", .bi "int", p_Ratio_eq), ("Ratio", .bi "str", p_Ratio_eq), ("Ratio", .bi "list", p_Ratio_eq), ("Ratio", .bi "tuple", p_Ratio_eq), ("Ratio", .own "Turn", p_Ratio_eq), ("Ratio", .own "Ratio", p_Ratio_eq)] (oEq true)) (dVar 3) (dVar 10))))) (dVar 10) [10]) (dLst (dNil))))))))) (endsOf Φ) Γ' M' } ⟨[some (.loc p), some (.int u), some (.int l), some (ratD (low u l)), some (.int c), none, none, none, some (.int ou), some (.int ol), none], exOf Ψ⟩ M4 := by
    intro M4 o q
    walk_at "ks"
    refine ⟨p, 2, kk, rfl, by decide, q, fun w M5 w0 w1 o5 q5 => ?_⟩
    walk_at "ks"
    refine ⟨_, _, rfl, ?_⟩
    refine fin _ _ _ hl (sm_of (n := 41) ?_ (by decide)) ml (o.trans o5) q5
    have : u.natAbs ≤ 10 ^ 40 := bu
    omega
  by_cases c2 : ol = 0
  · refine it (decide_eq_true c2) ?_
    exact alt M3 o123 (q3.weak (by omega))
  · refine ie (dn c2) ?_
    refine ⟨p, 2, kk + 8, rfl, by decide, q3, fun w M4 w0 w1 o4 q4 => ?_⟩
    walk_at "ks"
    refine oEq_ii ?_
    rw [if_neg Bool.false_ne_true]
    walk_at "ks"
    by_cases c3 : w = 0
    · refine it (decide_eq_true c3) ?_
      exact alt M4 (o123.trans o4) (q4.weak (by omega))
    · refine ie (dn c3) ?_
      walk_at "ks"
      exact fin ou ol M4 c2 (sm_of bou (by decide)) (sm_of bol (by decide)) (o123.trans o4) (q4.weak (by omega))
end K00
namespace K00
open PySem PySem.Spec PyProof.Rows L2 EX Spx
local macro_rules | `(tactic| walk_at "ks") => `(tactic| (with_reducible (repeat (first | (apply w_v; (next => with_unfolding_all rfl)) | refine w_seq ?_ | refine w_ret ?_ | refine w_set ?_ | refine w_asg ?_ | refine w_par ?_ | refine w_drop ?_ | refine w_ifS ?_ | refine w_for ?_ | refine w_test ?_ | refine w_op ?_ | refine w_un ?_ | refine w_c ?_ | refine w_cb ?_ | refine w_cons ?_ | refine w_nil ?_ | refine w_tup ?_ | refine w_lst ?_ | refine w_lstO ?_ | refine w_not ?_ | refine w_and ?_ | refine w_or ?_ | refine w_andV ?_ | refine w_orV ?_ | refine w_notV ?_ | refine w_if ?_ | refine w_onB ?_ | refine w_noPart ?_ | refine w_part ?_ | refine w_onI ?_ | refine w_sl ?_ | refine w_lc ?_ | refine w_lcO ?_ | refine w_diList ?_ | refine w_diZip ?_ | refine w_diEnum ?_ | refine w_diRng1 ?_ | refine w_mt ?_ | refine w_gt ?_ | refine w_lt ?_ | refine w_le ?_ | refine w_ge ?_ | refine w_addI ?_ | refine w_subI ?_ | refine w_neg ?_ | refine w_abs ?_ | refine w_int ?_ | refine w_intB ?_ | refine w_isN ?_ | refine w_notN ?_ | refine w_yes ?_ | refine w_itt ?_ | refine w_iff ?_ | refine w_lz ?_ | refine w_callK ?_ | refine w_call ?_ | refine w_call0 ?_ | refine w_chain ?_ | refine w_setIx ?_ | refine w_diTup ?_ | refine w_onT ?_ | refine w_next ?_ | refine w_diEnumZip ?_ | refine w_fld ?_ | refine w_setF ?_ | refine w_setF2 ?_ | refine w_meth ?_ | refine w_make ?_ | refine w_ss ?_ | refine w_rev ?_ | refine w_dict0 ?_ | refine w_dict1 ?_ | refine w_exc0 ?_ | refine w_excS ?_ | refine w_raise0 ?_ | refine w_fldE ?_ | refine w_tru ?_ | refine w_notT ?_ | refine w_fmt ?_ | refine w_joined ?_ | refine w_js0 ?_ | refine w_js ?_ | refine w_zipT ?_ | refine w_par3 ?_ | refine w_methK ?_ | refine w_makeK ?_ | refine w_tryAs ?_ | refine w_bool0 ?_ | refine w_strS ?_ | refine w_slT ?_))))
theorem goodP_odd {d b : Dat} (h : isI d = false) : goodP d b = false := by
  cases d <;> first | rfl | exact Bool.noConfusion h
theorem goodP_odd2 {d b : Dat} (h : isI d = false) : goodP b d = false := by
  cases b <;> cases d <;> first | rfl | exact Bool.noConfusion h
theorem r__law_ask_three : ∀ ds M Φ Ψ, p__law_ask_three ds M Φ Ψ → ds.length = 1 ∧ t__law_ask_three (endsOf Φ) (startD N__law_ask_three ds (exOf Ψ)) M := by
  rintro ds M Φ Ψ ⟨ns, rfl, k⟩
  refine ⟨rfl, ?_⟩
  unfold t__law_ask_three
  walk_at "ks"
  refine ⟨ns, rfl, fun p M1 hp0 o1 pn => ?_⟩
  walk_at "ks"
  refine ⟨8, rfl, by decide, by decide, ?_⟩
  show dForGo _ _ _ _ (rngD 0 (((8 : Nat) : Int)).toNat) _ _
  rw [rngD_nat]
  refine for_inv (fun i Γ M' => PenAt M' p (80 * (8 - i)) ∧ ∃ w2 w3 w4 w5 w6, Γ = ⟨[some (.scr ns), some (.loc p), w2, w3, w4, w5, w6], exOf Ψ⟩) ?_ ?_ ⟨pn.weak (by decide), _, _, _, _, _, rfl⟩
  · rintro i d Γ M' hd ⟨hq, w2, w3, w4, w5, w6, rfl⟩
    have hi : i < 8 := by
      have := (List.getElem?_eq_some_iff.mp hd).1
      simpa using this
    rw [List.getElem?_map, List.getElem?_range hi] at hd
    cases hd
    refine ⟨trivial, _, rfl, fun N hN => ?_⟩
    have e : 80 * (8 - i) = (80 * (8 - (i + 1)) + 70) + 10 := by omega
    rw [e] at hq
    generalize hK : 80 * (8 - (i + 1)) = K at hq
    walk_at "ks"
    refine ⟨p, 5, _, rfl, by decide, by decide, hq, fun u M2 bu o2 q2 => ?_⟩
    walk_at "ks"
    refine ⟨p, 5, K + 60, rfl, by decide, by decide, q2, fun l M3 bl o3 q3 => ?_⟩
    walk_at "ks"
    refine ⟨⟨by decide, by decide, by decide⟩, ?_⟩
    walk_at "ks"
    refine ⟨line_of (by simp), ?_⟩
    refine ⟨p, 4, K + 59, rfl, by decide, q3, fun v M4 v0 v1 o4 q4 => ?_⟩
    refine ix_any rfl v0 v1 fun d hd => ?_
    have hd' : ∃ c : Int, d = .int c ∧ c ≠ 0 ∧ c.natAbs ≤ 10 ^ 24 := by
      simp only [List.mem_cons, List.not_mem_nil, or_false] at hd
      rcases hd with rfl | rfl | rfl | rfl <;> exact ⟨_, rfl, by decide, by decide⟩
    obtain ⟨c, rfl, c0, c1⟩ := hd'
    walk_at "ks"
    refine ⟨_, _, _, rfl, ?_⟩
    walk_at "ks"
    have fin : ∀ (l : Int) (M5 : Mem), l ≠ 0 → Sx l → PenAt M5 p (K + 50) → (dSeq (dIfS (dOr (dNot (dTest (dCall p__law_made_right (dCons (dOp oMul (dVar 4) (dVar 6)) (dCons (dOp oMul (dVar 5) (dVar 6)) (dNil)))))) (dNot (dTest (dCall p__law_made_right (dCons (dVar 4) (dCons (dOp oSub (dC (.int 0)) (dVar 5)) (dNil))))))) (dRet (dC (.bl false))) (dNext)) (dSeq (dIfS (dNot (dTest (dCall p__law_equal_right (dCons (dVar 1) (dCons (dVar 4) (dCons (dVar 5) (dNil))))))) (dRet (dC (.bl false))) (dNext)) (dSeq (dSet (dOp oIx (dLst (dCons (dC .non) (dCons (dC (.bl true)) (dCons (dC (.bl false)) (dCons (dC (.str "1")) (dCons (dC (.str "")) (dCons (dTup (dCons (dC (.int 1)) (dNil))) (dCons (dLst (dCons (dC (.int 1)) (dNil))) (dCons (dDict0) (dCons (dC (.str "1/2")) (dCons (dMake mkFrz "Ratio" (dfl [.int 1] p_Ratio_init) (dCons (dC (.int 1)) (dNil))) (dCons (dMake mkFrz "Turn" p_Turn_init (dCons (dC (.int 1)) (dCons (dC (.int 2)) (dNil)))) (dNil))))))))))))) (dCall p__law_draw (dCons (dVar 1) (dCons (dC (.int 11)) (dNil))))) 3) (dIfS (dOr (dNot (dTest (dCall p__law_refused (dCons (dVar 3) (dCons (dVar 5) (dNil)))))) (dOr (dNot (dTest (dCall p__law_refused (dCons (dVar 4) (dCons (dVar 3) (dNil)))))) (dNot (dTest (dCall p__law_refused (dCons (dVar 3) (dCons (dC (.int 0)) (dNil)))))))) (dRet (dC (.bl false))) (dNext))))) { nx := N, rt := (endsOf Φ).rt, bk := fun Γ' M' => (dRet (dC (.bl true))) (endsOf Φ) Γ' M', ct := N } ⟨[some (.scr ns), some (.loc p), some (.int (i : Nat)), w3, some (.int u), some (.int l), some (.int c)], exOf Ψ⟩ M5 := by
      intro l M5 l0 bl q5
      have cm : c.natAbs < 2 ^ 100 := Nat.lt_of_le_of_lt c1 (by decide)
      have mm : ∀ {x : Int}, Sx x → IntMulOk x c := fun hx => (sm_of hx (by decide)).mul (sm_of c1 (by decide))
      have bb : ∀ {x : Int}, Sx x → (x * c).natAbs ≤ 10 ^ 100 := fun {x} hx => by
        rw [Int.natAbs_mul]
        exact Nat.le_trans (Nat.mul_le_mul hx c1) (by decide)
      walk_at "ks"
      refine ⟨mm bu, ?_⟩
      walk_at "ks"
      refine ⟨mm bl, ?_⟩
      walk_at "ks"
      refine ⟨_, _, rfl, Int.mul_ne_zero l0 c0, bb bu, bb bl, ?_⟩
      walk_at "ks"
      refine ie (by decide) ?_
      walk_at "ks"
      refine ⟨u, 0 - l, rfl, by omega, Nat.le_trans bu (by decide), ?_, ?_⟩
      · have : l.natAbs ≤ 10 ^ 40 := bl
        refine Nat.le_trans (show (0 - l).natAbs ≤ 10 ^ 40 by omega) (by decide)
      walk_at "ks"
      refine ie (by decide) ?_
      walk_at "ks"
      refine ⟨p, u, l, K + 20, rfl, l0, bu, bl, q5, fun M6 o6 q6 => ?_⟩
      walk_at "ks"
      refine ie (by decide) ?_
      walk_at "ks"
      refine ⟨one_sz, ?_⟩
      walk_at "ks"
      refine ⟨one_sz, ?_⟩
      walk_at "ks"
      refine fun b hb => mk_rat1 hb ?_
      walk_at "ks"
      refine fun b hb => mk_tur (by decide) hb ?_
      walk_at "ks"
      refine ⟨line_of (by simp), ?_⟩
      refine ⟨p, 11, K + 19, rfl, by decide, q6, fun v M7 v0 v1 o7 q7 => ?_⟩
      refine ix_any rfl v0 v1 fun d hd => ?_
      have hd' : OddV d ∧ isI d = false := by
        simp only [List.mem_cons, List.not_mem_nil, or_false] at hd
        rcases hd with rfl | rfl | rfl | rfl | rfl | rfl | rfl | rfl | rfl | rfl | rfl
        all_goals first
          | exact ⟨trivial, rfl⟩
          | exact ⟨.inl rfl, rfl⟩
          | exact ⟨.inr rfl, rfl⟩
      obtain ⟨ho, hn⟩ := hd'
      walk_at "ks"
      refine ⟨d, .int l, rfl, ho, trivial, goodP_odd hn, fun M8 s8 => ?_⟩
      walk_at "ks"
      refine ie (by decide) ?_
      walk_at "ks"
      refine ⟨.int u, d, rfl, trivial, ho, goodP_odd2 hn, fun M9 s9 => ?_⟩
      walk_at "ks"
      refine ie (by decide) ?_
      walk_at "ks"
      refine ⟨d, .int 0, rfl, ho, trivial, goodP_odd hn, fun M10 s10 => ?_⟩
      walk_at "ks"
      refine ie (by decide) ?_
      walk_at "ks"
      refine hN _ _ ⟨?_, _, _, _, _, _, rfl⟩
      rw [hK]
      exact (q7.sub (s8.trans (s9.trans s10))).weak (by omega)
    refine oEq_ii ?_
    rw [if_neg Bool.false_ne_true]
    walk_at "ks"
    by_cases z : l = 0
    · refine it (decide_eq_true z) ?_
      walk_at "ks"
      refine ⟨.int u, .int l, rfl, trivial, trivial, by rw [z]; rfl, fun M5 s5 => ?_⟩
      walk_at "ks"
      refine ie (by decide) ?_
      walk_at "ks"
      refine ⟨.int 0, .int 0, rfl, trivial, trivial, rfl, fun M6 s6 => ?_⟩
      walk_at "ks"
      refine ie (by decide) ?_
      walk_at "ks"
      refine ⟨p, 12, K + 58, rfl, by decide, (q4.sub (s5.trans s6)), fun w M7 w0 w1 o7 q7 => ?_⟩
      walk_at "ks"
      refine fin (1 + w) M7 (by omega) (Nat.le_trans (show (1 + w).natAbs ≤ 100 by omega) (by decide)) (q7.weak (by omega))
    · refine ie (dn z) ?_
      walk_at "ks"
      exact fin l M4 z bl (q4.weak (by omega))
  · rintro Γ M' ⟨hq, w2, w3, w4, w5, w6, rfl⟩
    refine ⟨trivial, ?_⟩
    walk_at "ks"
    exact ⟨_, Sub.rfl', k _⟩
end K00
namespace K00
open PySem PySem.Spec PyProof.Rows L2 EX Spx
local macro_rules | `(tactic| walk_at "ks") => `(tactic| (with_reducible (repeat (first | (apply w_v; (next => with_unfolding_all rfl)) | refine w_seq ?_ | refine w_ret ?_ | refine w_set ?_ | refine w_asg ?_ | refine w_par ?_ | refine w_drop ?_ | refine w_ifS ?_ | refine w_for ?_ | refine w_test ?_ | refine w_op ?_ | refine w_un ?_ | refine w_c ?_ | refine w_cb ?_ | refine w_cons ?_ | refine w_nil ?_ | refine w_tup ?_ | refine w_lst ?_ | refine w_lstO ?_ | refine w_not ?_ | refine w_and ?_ | refine w_or ?_ | refine w_andV ?_ | refine w_orV ?_ | refine w_notV ?_ | refine w_if ?_ | refine w_onB ?_ | refine w_noPart ?_ | refine w_part ?_ | refine w_onI ?_ | refine w_sl ?_ | refine w_lc ?_ | refine w_lcO ?_ | refine w_diList ?_ | refine w_diZip ?_ | refine w_diEnum ?_ | refine w_diRng1 ?_ | refine w_mt ?_ | refine w_gt ?_ | refine w_lt ?_ | refine w_le ?_ | refine w_ge ?_ | refine w_addI ?_ | refine w_subI ?_ | refine w_neg ?_ | refine w_abs ?_ | refine w_int ?_ | refine w_intB ?_ | refine w_isN ?_ | refine w_notN ?_ | refine w_yes ?_ | refine w_itt ?_ | refine w_iff ?_ | refine w_lz ?_ | refine w_callK ?_ | refine w_call ?_ | refine w_call0 ?_ | refine w_chain ?_ | refine w_setIx ?_ | refine w_diTup ?_ | refine w_onT ?_ | refine w_next ?_ | refine w_diEnumZip ?_ | refine w_fld ?_ | refine w_setF ?_ | refine w_setF2 ?_ | refine w_meth ?_ | refine w_make ?_ | refine w_ss ?_ | refine w_rev ?_ | refine w_dict0 ?_ | refine w_dict1 ?_ | refine w_exc0 ?_ | refine w_excS ?_ | refine w_raise0 ?_ | refine w_fldE ?_ | refine w_tru ?_ | refine w_notT ?_ | refine w_fmt ?_ | refine w_joined ?_ | refine w_js0 ?_ | refine w_js ?_ | refine w_zipT ?_ | refine w_par3 ?_ | refine w_methK ?_ | refine w_makeK ?_ | refine w_tryAs ?_ | refine w_bool0 ?_ | refine w_strS ?_ | refine w_slT ?_))))
/-! ### plain laws of fractions -/
/-- z tells t/b -/
def Vl (z : Int × Int) (t b : Int) : Prop := b ≠ 0 ∧ z.2 ≠ 0 ∧ z.1 * b = t * z.2
theorem vl_low {t b : Int} (h : b ≠ 0) : Vl (low t b) t b := ⟨h, by have := low_pos (t := t) h; omega, low_val h⟩
theorem vl_self {x : Int × Int} (h : x.2 ≠ 0) : Vl x x.1 x.2 := ⟨h, h, rfl⟩
section
variable {p q : Int × Int} {t b u d : Int}
theorem add_vv (h : Vl p t b) (h' : Vl q u d) : addL p q = low (t * d + u * b) (b * d) := by
  obtain ⟨b0, p0, e⟩ := h
  obtain ⟨d0, q0, e'⟩ := h'
  refine low_same (Int.mul_ne_zero p0 q0) (Int.mul_ne_zero b0 d0) ?_
  generalize p.1 = p1 at *
  generalize p.2 = p2 at *
  generalize q.1 = q1 at *
  generalize q.2 = q2 at *
  have e1 : (p1 * q2 + q1 * p2) * (b * d) = (p1 * b) * (q2 * d) + (q1 * d) * (p2 * b) := by grind
  rw [e1, e, e']; grind
theorem sub_vv (h : Vl p t b) (h' : Vl q u d) : subF p q = low (t * d - u * b) (b * d) := by
  obtain ⟨b0, p0, e⟩ := h
  obtain ⟨d0, q0, e'⟩ := h'
  refine low_same (Int.mul_ne_zero p0 q0) (Int.mul_ne_zero b0 d0) ?_
  generalize p.1 = p1 at *
  generalize p.2 = p2 at *
  generalize q.1 = q1 at *
  generalize q.2 = q2 at *
  have e1 : (p1 * q2 - q1 * p2) * (b * d) = (p1 * b) * (q2 * d) - (q1 * d) * (p2 * b) := by grind
  rw [e1, e, e']; grind
theorem mul_vv (h : Vl p t b) (h' : Vl q u d) : mulL p q = low (t * u) (b * d) := by
  obtain ⟨b0, p0, e⟩ := h
  obtain ⟨d0, q0, e'⟩ := h'
  refine low_same (Int.mul_ne_zero p0 q0) (Int.mul_ne_zero b0 d0) ?_
  generalize p.1 = p1 at *
  generalize p.2 = p2 at *
  generalize q.1 = q1 at *
  generalize q.2 = q2 at *
  have e1 : (p1 * q1) * (b * d) = (p1 * b) * (q1 * d) := by grind
  rw [e1, e, e']; grind
theorem over_vv (h : Vl p t b) (h' : Vl q u d) (u0 : u ≠ 0) : overF p q = low (t * d) (b * u) ∧ q.1 ≠ 0 := by
  obtain ⟨b0, p0, e⟩ := h
  obtain ⟨d0, q0, e'⟩ := h'
  have q1 : q.1 ≠ 0 := fun z => by
    rw [z, Int.zero_mul] at e'
    rcases Int.mul_eq_zero.mp e'.symm with z | z
    · exact u0 z
    · exact q0 z
  refine ⟨low_same (Int.mul_ne_zero p0 q1) (Int.mul_ne_zero b0 u0) ?_, q1⟩
  generalize p.1 = p1 at *
  generalize p.2 = p2 at *
  generalize q.1 = q1 at *
  generalize q.2 = q2 at *
  have e1 : (p1 * q2) * (b * u) = (p1 * b) * (u * q2) := by grind
  rw [e1, e, ← e']; grind
theorem neg_v (h : Vl p t b) : low (0 - p.1) p.2 = low (0 - t) b := by
  obtain ⟨b0, p0, e⟩ := h
  refine low_same p0 b0 ?_
  have e1 : (0 - p.1) * b = 0 - p.1 * b := by grind
  rw [e1, e]; grind
theorem lt_vv (h : Vl p t b) (h' : Vl q u d) (p0 : 0 < p.2) (q0 : 0 < q.2) (b0 : 0 < b) (d0 : 0 < d) : (p.1 * q.2 < q.1 * p.2) ↔ (t * d < u * b) := by
  obtain ⟨_, _, e⟩ := h
  obtain ⟨_, _, e'⟩ := h'
  generalize p.1 = p1 at *
  generalize p.2 = p2 at *
  generalize q.1 = q1 at *
  generalize q.2 = q2 at *
  have e1 : (p1 * q2) * (b * d) = (t * d) * (p2 * q2) := by
    have : (p1 * q2) * (b * d) = (p1 * b) * (q2 * d) := by grind
    rw [this, e]; grind
  have e2 : (q1 * p2) * (b * d) = (u * b) * (p2 * q2) := by
    have : (q1 * p2) * (b * d) = (q1 * d) * (p2 * b) := by grind
    rw [this, e']; grind
  have k1 := Int.mul_pos b0 d0
  have k2 := Int.mul_pos p0 q0
  constructor
  · intro z
    have := Int.mul_lt_mul_of_pos_right z k1
    rw [e1, e2] at this
    exact Int.lt_of_mul_lt_mul_right this (Int.le_of_lt k2)
  · intro z
    have := Int.mul_lt_mul_of_pos_right z k2
    rw [← e1, ← e2] at this
    exact Int.lt_of_mul_lt_mul_right this (Int.le_of_lt k1)
end
/-! ### fractions of a size -/
theorem Rat'.low {t b : Int} {n : Nat} (h : b ≠ 0) (h1 : t.natAbs ≤ 10 ^ n) (h2 : b.natAbs ≤ 10 ^ n) : Rat' n (low t b) :=
  ⟨low_pos h, (low_spec h).2.1, Nat.le_trans (low_le h).1 h1, Nat.le_trans (low_le h).2 h2⟩
theorem abs_mul {a b : Int} {m n : Nat} (h1 : a.natAbs ≤ 10 ^ m) (h2 : b.natAbs ≤ 10 ^ n) : (a * b).natAbs ≤ 10 ^ (m + n) := by
  rw [Int.natAbs_mul, Nat.pow_add]
  exact Nat.mul_le_mul h1 h2
theorem abs_two {a b : Int} {n : Nat} (h1 : a.natAbs ≤ 10 ^ n) (h2 : b.natAbs ≤ 10 ^ n) : (a + b).natAbs ≤ 10 ^ (n + 1) ∧ (a - b).natAbs ≤ 10 ^ (n + 1) := by
  rw [Nat.pow_succ]
  omega
theorem abs_up {a : Int} {m n : Nat} (h : a.natAbs ≤ 10 ^ m) (hn : m ≤ n) : a.natAbs ≤ 10 ^ n := Nat.le_trans h (Nat.pow_le_pow_right (by decide) hn)
section
variable {x y : Int × Int} {m n : Nat}
theorem Rat'.vl (h : Rat' m x) : Vl x x.1 x.2 := vl_self (by have := h.p; omega)
theorem Rat'.ne (h : Rat' m x) : x.2 ≠ 0 := by have := h.p; omega
theorem Rat'.self (h : Rat' m x) : Spx.low x.1 x.2 = x := low_lowest h.p h.c
theorem Rat'.add (h : Rat' m x) (h' : Rat' n y) : Rat' (m + n + 1) (addL x y) := by
  refine Rat'.low (Int.mul_ne_zero h.ne h'.ne) (abs_two (abs_mul h.s1 h'.s2) ?_).1 (abs_up (abs_mul h.s2 h'.s2) (by omega))
  rw [Nat.add_comm m n]; exact abs_mul h'.s1 h.s2
theorem Rat'.sub (h : Rat' m x) (h' : Rat' n y) : Rat' (m + n + 1) (subF x y) := by
  refine Rat'.low (Int.mul_ne_zero h.ne h'.ne) (abs_two (abs_mul h.s1 h'.s2) ?_).2 (abs_up (abs_mul h.s2 h'.s2) (by omega))
  rw [Nat.add_comm m n]; exact abs_mul h'.s1 h.s2
theorem Rat'.mul (h : Rat' m x) (h' : Rat' n y) : Rat' (m + n) (mulL x y) := Rat'.low (Int.mul_ne_zero h.ne h'.ne) (abs_mul h.s1 h'.s1) (abs_mul h.s2 h'.s2)
theorem Rat'.over (h : Rat' m x) (h' : Rat' n y) (y0 : y.1 ≠ 0) : Rat' (m + n) (overF x y) := Rat'.low (Int.mul_ne_zero h.ne y0) (abs_mul h.s1 h'.s2) (abs_mul h.s2 h'.s1)
theorem Rat'.neg (h : Rat' m x) : Rat' m (Spx.low (0 - x.1) x.2) := Rat'.low h.ne (by have := h.s1; omega) h.s2
theorem Rat'.times (h : Rat' m x) {k : Int} (hk : k.natAbs ≤ 10 ^ n) : Rat' (m + n) (Spx.low (x.1 * k) x.2) := Rat'.low h.ne (abs_mul h.s1 hk) (abs_up h.s2 (by omega))
theorem Rat'.one {k : Int} (hk : k.natAbs ≤ 10 ^ n) : Rat' n (k, 1) := ⟨Int.one_pos, Int.gcd_one, hk, Nat.one_le_pow _ _ (by decide)⟩
theorem Rat'.sm (h : Rat' m x) (hm : m ≤ 10000) : Sm x.1 ∧ Sm x.2 := ⟨sm_of h.s1 (by omega), sm_of h.s2 (by omega)⟩
/-! ### the operators -/
variable {M : Mem} {Φ : Dat → Mem → Prop} {r : DOp}
theorem o_add (h : Rat' m x) (h' : Rat' n y) (hm : m ≤ 10000) (hn : n ≤ 10000) (k : Φ (ratD (addL x y)) M) : oOwn [("Ratio", .own "Ratio", p_Ratio_add)] r (ratD x) (ratD y) M Φ :=
  w_own (t := .own "Ratio") rfl List.mem_cons_self ⟨x, y, rfl, h.ne, h'.ne, ⟨(h.sm hm).1, (h.sm hm).2, (h'.sm hn).1, (h'.sm hn).2⟩, k⟩
theorem o_sub (h : Rat' m x) (h' : Rat' n y) (hm : m ≤ 10000) (hn : n ≤ 10000) (k : Φ (ratD (subF x y)) M) : oOwn [("Ratio", .own "Ratio", p_Ratio_sub)] r (ratD x) (ratD y) M Φ :=
  w_own (t := .own "Ratio") rfl List.mem_cons_self ⟨x, y, rfl, h.ne, h'.ne, ⟨(h.sm hm).1, (h.sm hm).2, (h'.sm hn).1, (h'.sm hn).2⟩, k⟩
theorem o_mul (h : Rat' m x) (h' : Rat' n y) (hm : m ≤ 10000) (hn : n ≤ 10000) (k : Φ (ratD (mulL x y)) M) : oOwn [("Ratio", .own "Ratio", p_Ratio_mul)] r (ratD x) (ratD y) M Φ :=
  w_own (t := .own "Ratio") rfl List.mem_cons_self ⟨x, h.ne, (h.sm hm).1, (h.sm hm).2, .inr ⟨y, rfl, h'.ne, (h'.sm hn).1, (h'.sm hn).2, k⟩⟩
theorem o_times (h : Rat' m x) {i : Int} (hi : Sm i) (hm : m ≤ 10000) (k : Φ (ratD (Spx.low (x.1 * i) x.2)) M) : oOwn [("Ratio", .bi "int", p_Ratio_mul)] r (ratD x) (.int i) M Φ :=
  w_own (t := .bi "int") rfl List.mem_cons_self ⟨x, h.ne, (h.sm hm).1, (h.sm hm).2, .inl ⟨i, rfl, hi, k⟩⟩
theorem o_neg {r : DUn} (h : Rat' m x) (k : Φ (ratD (Spx.low (0 - x.1) x.2)) M) : oOwnU [("Ratio", p_Ratio_neg)] r (ratD x) M Φ := w_ownU List.mem_cons_self ⟨x, rfl, h.ne, k⟩
theorem p_under {X : DXc} (h : Rat' m x) (h' : Rat' n y) (hm : m ≤ 10000) (hn : n ≤ 10000) (k : Φ (.bl (decide (x.1 * y.2 < y.1 * x.2))) M) : p_Ratio_under [ratD x, ratD y] M Φ X := ⟨x, y, rfl, ⟨(h.sm hm).1, (h.sm hm).2, (h'.sm hn).1, (h'.sm hn).2⟩, k⟩
theorem p_over {X : DXc} (h : Rat' m x) (h' : Rat' n y) (hm : m ≤ 10000) (hn : n ≤ 10000) (y0 : y.1 ≠ 0) (k : Φ (ratD (overF x y)) M) : p_Ratio_over [ratD x, ratD y] M Φ X := ⟨x, y, rfl, h.ne, ⟨(h.sm hm).1, (h.sm hm).2, (h'.sm hn).1, (h'.sm hn).2⟩, fun _ => k, fun z => absurd z y0⟩
theorem p_is {X : DXc} {z : Int × Int} {t b : Int} (hz : Rat' m z) (hm : m ≤ 10000) (ht : t.natAbs ≤ 10 ^ n) (hb : b.natAbs ≤ 10 ^ n) (hn : n ≤ 10000) (v : Vl z t b) (k : Φ (.bl true) M) : p__law_is [ratD z, .int t, .int b] M Φ X := by
  refine ⟨z, t, b, rfl, hz.p, hz.c, ⟨(hz.sm hm).1, (hz.sm hm).2, sm_of ht (by omega), sm_of hb (by omega)⟩, ?_⟩
  rw [decide_eq_true v.2.2]; exact k
end
theorem repr_b : ∀ d : Bool, ∃ t : Str, ∀ (M : Mem) (Φ : Dat → Mem → Prop), Φ (.str t) M → oRepr0 [.bl d] M Φ := fun d =>
  ⟨_, fun M Φ h => w_repr (p := .bool d) rfl rfl (sz_of (by cases d <;> decide +kernel)) (by cases d <;> decide +kernel) h⟩
theorem tri {x y : Int × Int} {m n : Nat} (h : Rat' m x) (h' : Rat' n y) : ([decide (x.1 * y.2 < y.1 * x.2), decide (y.1 * x.2 < x.1 * y.2), decide (x = y)] : List Bool).count true = 1 := by
  have e : decide (x = y) = decide (x.1 * y.2 = y.1 * x.2) := by
    have := low_iff (t := x.1) (u := y.1) h.ne h'.ne
    rwa [h.self, h'.self] at this
  rw [e]
  generalize x.1 * y.2 = a
  generalize y.1 * x.2 = b
  rcases Int.lt_trichotomy a b with z | z | z
  · rw [decide_eq_true z, decide_eq_false (by omega), decide_eq_false (by omega)]; rfl
  · rw [decide_eq_false (by omega), decide_eq_false (by omega), decide_eq_true z]; rfl
  · rw [decide_eq_false (by omega), decide_eq_true z, decide_eq_false (by omega)]; rfl
theorem r__law_two_right : ∀ ds M Φ Ψ, p__law_two_right ds M Φ Ψ → ds.length = 2 ∧ t__law_two_right (endsOf Φ) (startD N__law_two_right ds (exOf Ψ)) M := by
  rintro ds M Φ Ψ ⟨x, y, rfl, hx, hy, k⟩
  refine ⟨rfl, ?_⟩
  have mm : ∀ {a b : Int}, a.natAbs ≤ 10 ^ 100 → b.natAbs ≤ 10 ^ 100 → IntMulOk a b := fun h1 h2 => (sm_of h1 (by decide)).mul (sm_of h2 (by decide))
  have ab := abs_mul hx.s1 hy.s2
  have cb := abs_mul hy.s1 hx.s2
  have bd := abs_mul hx.s2 hy.s2
  have ac := abs_mul hx.s1 hy.s1
  have bc := abs_mul hx.s2 hy.s1
  unfold t__law_two_right
  walk_at "ks"
  refine f_top ?_
  walk_at "ks"
  refine f_bot ?_
  walk_at "ks"
  refine f_top ?_
  walk_at "ks"
  refine f_bot ?_
  walk_at "ks"
  refine ⟨line_of (by simp), _, rfl, ?_⟩
  walk_at "ks"
  refine o_add hx hy (by decide) (by decide) ?_
  walk_at "ks"
  refine ⟨mm hx.s1 hy.s2, ?_⟩
  walk_at "ks"
  refine ⟨mm hy.s1 hx.s2, ?_⟩
  walk_at "ks"
  refine ⟨mm hx.s2 hy.s2, ?_⟩
  walk_at "ks"
  refine p_is (n := 201) (hx.add hy) (by decide) (abs_two ab cb).1 (abs_up bd (by decide)) (by decide) (vl_low (Int.mul_ne_zero hx.ne hy.ne)) ?_
  walk_at "ks"
  refine ie (by decide) ?_
  walk_at "ks"
  refine o_sub hx hy (by decide) (by decide) ?_
  walk_at "ks"
  refine ⟨mm hx.s1 hy.s2, ?_⟩
  walk_at "ks"
  refine ⟨mm hy.s1 hx.s2, ?_⟩
  walk_at "ks"
  refine ⟨mm hx.s2 hy.s2, ?_⟩
  walk_at "ks"
  refine p_is (n := 201) (hx.sub hy) (by decide) (abs_two ab cb).2 (abs_up bd (by decide)) (by decide) (vl_low (Int.mul_ne_zero hx.ne hy.ne)) ?_
  walk_at "ks"
  refine ie (by decide) ?_
  walk_at "ks"
  refine o_mul hx hy (by decide) (by decide) ?_
  walk_at "ks"
  refine ⟨mm hx.s1 hy.s1, ?_⟩
  walk_at "ks"
  refine ⟨mm hx.s2 hy.s2, ?_⟩
  walk_at "ks"
  refine p_is (n := 200) (hx.mul hy) (by decide) ac bd (by decide) (vl_low (Int.mul_ne_zero hx.ne hy.ne)) ?_
  walk_at "ks"
  refine ie (by decide) ?_
  walk_at "ks"
  refine o_neg hx ?_
  walk_at "ks"
  refine p_is (n := 100) hx.neg (by decide) (by have := hx.s1; omega) hx.s2 (by decide) (vl_low hx.ne) ?_
  walk_at "ks"
  refine ie (by decide) ?_
  obtain ⟨t, ht⟩ := repr_b (decide (x.1 * y.2 < y.1 * x.2))
  walk_at "ks"
  refine ⟨_, _, _, _, rfl, List.mem_cons_self, rfl, ?_⟩
  walk_at "ks"
  refine p_under hx hy (by decide) (by decide) ?_
  walk_at "ks"
  refine ht _ _ ?_
  walk_at "ks"
  refine ⟨mm hx.s1 hy.s2, ?_⟩
  walk_at "ks"
  refine ⟨mm hy.s1 hx.s2, ?_⟩
  walk_at "ks"
  refine ht _ _ ?_
  refine oNe_self rfl ?_
  walk_at "ks"
  refine ⟨_, _, _, _, rfl, List.mem_cons_self, rfl, ?_⟩
  walk_at "ks"
  refine ⟨rfl, rfl, ?_⟩
  show p_Ratio_under [ratD x, ratD y] _ _ _
  refine p_under hx hy (by decide) (by decide) ?_
  walk_at "ks"
  refine ht _ _ ?_
  walk_at "ks"
  refine ⟨mm hx.s1 hy.s2, ?_⟩
  walk_at "ks"
  refine ⟨mm hy.s1 hx.s2, ?_⟩
  walk_at "ks"
  refine ht _ _ ?_
  refine oNe_self rfl ?_
  walk_at "ks"
  refine ⟨_, _, _, _, rfl, List.mem_cons_self, rfl, ?_⟩
  walk_at "ks"
  refine p_under hx hy (by decide) (by decide) ?_
  walk_at "ks"
  refine ⟨_, _, _, _, rfl, List.mem_cons_self, rfl, ?_⟩
  walk_at "ks"
  refine p_under hy hx (by decide) (by decide) ?_
  walk_at "ks"
  refine rat_eq ?_
  walk_at "ks"
  refine ⟨line_of (by simp), fun q hq => ?_⟩
  have s2 := Sub.put (ds := .lst [.bl (decide (x.1 * y.2 < y.1 * x.2)), .bl (decide (y.1 * x.2 < x.1 * y.2)), .bl (decide (x = y))]) hq
  have hl : (M.put q (.lst [.bl (decide (x.1 * y.2 < y.1 * x.2)), .bl (decide (y.1 * x.2 < x.1 * y.2)), .bl (decide (x = y))])) q = some (.lst [.bl (decide (x.1 * y.2 < y.1 * x.2)), .bl (decide (y.1 * x.2 < x.1 * y.2)), .bl (decide (x = y))]) := Mem.put_same
  generalize M.put q (.lst [.bl (decide (x.1 * y.2 < y.1 * x.2)), .bl (decide (y.1 * x.2 < x.1 * y.2)), .bl (decide (x = y))]) = M2 at s2 hl
  walk_at "ks"
  refine ⟨⟨q, _, rfl, Mem.l_of hl⟩, ?_⟩
  walk_at "ks"
  refine ⟨q, [decide (x.1 * y.2 < y.1 * x.2), decide (y.1 * x.2 < x.1 * y.2), decide (x = y)], true, rfl, rfl, Mem.l_of hl, ?_⟩
  rw [tri hx hy]
  walk_at "ks"
  refine oEq_ii ?_
  rw [if_pos rfl]
  walk_at "ks"
  refine ie (by decide) ?_
  walk_at "ks"
  refine oEq_ii ?_
  rw [if_neg Bool.false_ne_true]
  walk_at "ks"
  by_cases y0 : y.1 = 0
  · refine it (decide_eq_true y0) ?_
    walk_at "ks"
    refine ⟨x, rfl, hx.ne, (hx.sm (by decide)).1, (hx.sm (by decide)).2, fun M3 s3 => ?_⟩
    walk_at "ks"
    refine w_truI List.mem_cons_self ⟨y, rfl, _, rfl, ?_⟩
    rw [decide_eq_true y0]
    exact ⟨_, Sub.rfl', k _ (s2.trans s3)⟩
  · refine ie (dn y0) ?_
    walk_at "ks"
    refine ⟨_, _, _, _, rfl, List.mem_cons_self, rfl, ?_⟩
    walk_at "ks"
    refine p_over hx hy (by decide) (by decide) y0 ?_
    walk_at "ks"
    refine ⟨mm hx.s1 hy.s2, ?_⟩
    walk_at "ks"
    refine ⟨mm hx.s2 hy.s1, ?_⟩
    walk_at "ks"
    refine p_is (n := 200) (hx.over hy y0) (by decide) ab bc (by decide) (vl_low (Int.mul_ne_zero hx.ne y0)) ?_
    walk_at "ks"
    refine ie (by decide) ?_
    walk_at "ks"
    refine ⟨_, _, _, _, rfl, List.mem_cons_self, rfl, ?_⟩
    walk_at "ks"
    refine ⟨rfl, rfl, ?_⟩
    show p_Ratio_over [ratD x, ratD y] _ _ _
    refine p_over hx hy (by decide) (by decide) y0 ?_
    walk_at "ks"
    refine ⟨mm hx.s1 hy.s2, ?_⟩
    walk_at "ks"
    refine ⟨mm hx.s2 hy.s1, ?_⟩
    walk_at "ks"
    refine p_is (n := 200) (hx.over hy y0) (by decide) ab bc (by decide) (vl_low (Int.mul_ne_zero hx.ne y0)) ?_
    walk_at "ks"
    refine ie (by decide) ?_
    walk_at "ks"
    refine o_mul hx hy (by decide) (by decide) ?_
    refine ⟨_, _, _, _, rfl, List.mem_cons_self, rfl, ?_⟩
    walk_at "ks"
    refine p_over (hx.mul hy) hy (by decide) (by decide) y0 ?_
    walk_at "ks"
    refine rat_eq ?_
    have v1 : Vl (mulL x y) (x.1 * y.1) (x.2 * y.2) := vl_low (Int.mul_ne_zero hx.ne hy.ne)
    have e1 : overF (mulL x y) y = x := by
      rw [(over_vv v1 hy.vl y0).1]
      refine Eq.trans ?_ hx.self
      refine low_same (Int.mul_ne_zero (Int.mul_ne_zero hx.ne hy.ne) y0) hx.ne (by grind)
    rw [decide_eq_true e1]
    walk_at "ks"
    refine ⟨_, _, _, _, rfl, List.mem_cons_self, rfl, ?_⟩
    walk_at "ks"
    refine p_over hx hy (by decide) (by decide) y0 ?_
    walk_at "ks"
    refine o_mul (hx.over hy y0) hy (by decide) (by decide) ?_
    walk_at "ks"
    refine rat_eq ?_
    have v2 : Vl (overF x y) (x.1 * y.2) (x.2 * y.1) := vl_low (Int.mul_ne_zero hx.ne y0)
    have e2 : mulL (overF x y) y = x := by
      rw [mul_vv v2 hy.vl]
      refine Eq.trans ?_ hx.self
      refine low_same (Int.mul_ne_zero (Int.mul_ne_zero hx.ne y0) hy.ne) hx.ne (by grind)
    rw [decide_eq_true e2]
    exact ⟨_, Sub.rfl', k _ s2⟩
end K00
namespace K00
open PySem PySem.Spec PyProof.Rows L2 EX Spx
local macro_rules | `(tactic| walk_at "ks") => `(tactic| (with_reducible (repeat (first | (apply w_v; (next => with_unfolding_all rfl)) | refine w_seq ?_ | refine w_ret ?_ | refine w_set ?_ | refine w_asg ?_ | refine w_par ?_ | refine w_drop ?_ | refine w_ifS ?_ | refine w_for ?_ | refine w_test ?_ | refine w_op ?_ | refine w_un ?_ | refine w_c ?_ | refine w_cb ?_ | refine w_cons ?_ | refine w_nil ?_ | refine w_tup ?_ | refine w_lst ?_ | refine w_lstO ?_ | refine w_not ?_ | refine w_and ?_ | refine w_or ?_ | refine w_andV ?_ | refine w_orV ?_ | refine w_notV ?_ | refine w_if ?_ | refine w_onB ?_ | refine w_noPart ?_ | refine w_part ?_ | refine w_onI ?_ | refine w_sl ?_ | refine w_lc ?_ | refine w_lcO ?_ | refine w_diList ?_ | refine w_diZip ?_ | refine w_diEnum ?_ | refine w_diRng1 ?_ | refine w_mt ?_ | refine w_gt ?_ | refine w_lt ?_ | refine w_le ?_ | refine w_ge ?_ | refine w_addI ?_ | refine w_subI ?_ | refine w_neg ?_ | refine w_abs ?_ | refine w_int ?_ | refine w_intB ?_ | refine w_isN ?_ | refine w_notN ?_ | refine w_yes ?_ | refine w_itt ?_ | refine w_iff ?_ | refine w_lz ?_ | refine w_callK ?_ | refine w_call ?_ | refine w_call0 ?_ | refine w_chain ?_ | refine w_setIx ?_ | refine w_diTup ?_ | refine w_onT ?_ | refine w_next ?_ | refine w_diEnumZip ?_ | refine w_fld ?_ | refine w_setF ?_ | refine w_setF2 ?_ | refine w_meth ?_ | refine w_make ?_ | refine w_ss ?_ | refine w_rev ?_ | refine w_dict0 ?_ | refine w_dict1 ?_ | refine w_exc0 ?_ | refine w_excS ?_ | refine w_raise0 ?_ | refine w_fldE ?_ | refine w_tru ?_ | refine w_notT ?_ | refine w_fmt ?_ | refine w_joined ?_ | refine w_js0 ?_ | refine w_js ?_ | refine w_zipT ?_ | refine w_par3 ?_ | refine w_methK ?_ | refine w_makeK ?_ | refine w_tryAs ?_ | refine w_bool0 ?_ | refine w_strS ?_ | refine w_slT ?_))))
section
variable {x y z : Int × Int} {m n l : Nat}
theorem add_assoc' (h : Rat' m x) (h' : Rat' n y) (h'' : Rat' l z) : addL (addL x y) z = addL x (addL y z) := by
  have v1 : Vl (addL x y) (x.1 * y.2 + y.1 * x.2) (x.2 * y.2) := vl_low (Int.mul_ne_zero h.ne h'.ne)
  have v2 : Vl (addL y z) (y.1 * z.2 + z.1 * y.2) (y.2 * z.2) := vl_low (Int.mul_ne_zero h'.ne h''.ne)
  rw [add_vv v1 h''.vl, add_vv h.vl v2]
  exact low_same (Int.mul_ne_zero v1.1 h''.ne) (Int.mul_ne_zero h.ne v2.1) (by grind)
theorem mul_dist (h : Rat' m x) (h' : Rat' n y) (h'' : Rat' l z) : mulL x (addL y z) = addL (mulL x y) (mulL x z) := by
  have v1 : Vl (addL y z) (y.1 * z.2 + z.1 * y.2) (y.2 * z.2) := vl_low (Int.mul_ne_zero h'.ne h''.ne)
  have v2 : Vl (mulL x y) (x.1 * y.1) (x.2 * y.2) := vl_low (Int.mul_ne_zero h.ne h'.ne)
  have v3 : Vl (mulL x z) (x.1 * z.1) (x.2 * z.2) := vl_low (Int.mul_ne_zero h.ne h''.ne)
  rw [mul_vv h.vl v1, add_vv v2 v3]
  exact low_same (Int.mul_ne_zero h.ne v1.1) (Int.mul_ne_zero v2.1 v3.1) (by grind)
theorem add_sub' (h : Rat' m x) (h' : Rat' n y) : subF (addL x y) y = x := by
  have v1 : Vl (addL x y) (x.1 * y.2 + y.1 * x.2) (x.2 * y.2) := vl_low (Int.mul_ne_zero h.ne h'.ne)
  rw [sub_vv v1 h'.vl]
  refine Eq.trans ?_ h.self
  exact low_same (Int.mul_ne_zero v1.1 h'.ne) h.ne (by grind)
theorem add_neg' (h : Rat' m x) : (addL x (Spx.low (0 - x.1) x.2)).1 = 0 := by
  have v1 : Vl (Spx.low (0 - x.1) x.2) (0 - x.1) x.2 := vl_low h.ne
  rw [add_vv h.vl v1]
  have e : x.1 * x.2 + (0 - x.1) * x.2 = 0 := by grind
  rw [e, low_zero (Int.mul_ne_zero h.ne h.ne)]
theorem sub_neg' (h : Rat' m x) (h' : Rat' n y) : subF x y = Spx.low (0 - (subF y x).1) (subF y x).2 := by
  have v1 : Vl (subF y x) (y.1 * x.2 - x.1 * y.2) (y.2 * x.2) := vl_low (Int.mul_ne_zero h'.ne h.ne)
  rw [neg_v v1]
  exact low_same (Int.mul_ne_zero h.ne h'.ne) v1.1 (by grind)
theorem times_eq (h : Rat' m x) (o : Int) : Spx.low (x.1 * o) x.2 = mulL x (o, 1) := by
  show Spx.low (x.1 * o) x.2 = Spx.low (x.1 * o) (x.2 * 1)
  rw [Int.mul_one]
theorem under_add (h : Rat' m x) (h' : Rat' n y) (h'' : Rat' l z) : decide (x.1 * y.2 < y.1 * x.2) = decide ((addL x z).1 * (addL y z).2 < (addL y z).1 * (addL x z).2) := by
  have v1 : Vl (addL x z) (x.1 * z.2 + z.1 * x.2) (x.2 * z.2) := vl_low (Int.mul_ne_zero h.ne h''.ne)
  have v2 : Vl (addL y z) (y.1 * z.2 + z.1 * y.2) (y.2 * z.2) := vl_low (Int.mul_ne_zero h'.ne h''.ne)
  have p := (h.add h'').p
  have q := (h'.add h'').p
  have e := lt_vv v1 v2 p q (Int.mul_pos h.p h''.p) (Int.mul_pos h'.p h''.p)
  rw [Bool.eq_iff_iff, decide_eq_true_iff, decide_eq_true_iff, e]
  have zz := Int.mul_pos h''.p h''.p
  have e1 : (x.1 * z.2 + z.1 * x.2) * (y.2 * z.2) = (x.1 * y.2) * (z.2 * z.2) + z.1 * x.2 * y.2 * z.2 := by grind
  have e2 : (y.1 * z.2 + z.1 * y.2) * (x.2 * z.2) = (y.1 * x.2) * (z.2 * z.2) + z.1 * x.2 * y.2 * z.2 := by grind
  rw [e1, e2]
  constructor
  · intro w
    have := Int.mul_lt_mul_of_pos_right w zz
    omega
  · intro w
    exact Int.lt_of_mul_lt_mul_right (show (x.1 * y.2) * (z.2 * z.2) < (y.1 * x.2) * (z.2 * z.2) by omega) (Int.le_of_lt zz)
end
theorem r__law_three_right : ∀ ds M Φ Ψ, p__law_three_right ds M Φ Ψ → ds.length = 4 ∧ t__law_three_right (endsOf Φ) (startD N__law_three_right ds (exOf Ψ)) M := by
  rintro ds M Φ Ψ ⟨x, y, z, o, rfl, hx, hy, hz, ho, k⟩
  refine ⟨rfl, ?_⟩
  have ho' : o.natAbs ≤ 10 ^ 40 := ho
  have so : Sm o := sm_of ho' (by decide)
  unfold t__law_three_right
  walk_at "ks"
  refine o_add hx hy (by decide) (by decide) ?_
  walk_at "ks"
  refine o_add (hx.add hy) hz (by decide) (by decide) ?_
  walk_at "ks"
  refine o_add hy hz (by decide) (by decide) ?_
  walk_at "ks"
  refine o_add hx (hy.add hz) (by decide) (by decide) ?_
  walk_at "ks"
  refine rat_eq ?_
  rw [decide_eq_true (add_assoc' hx hy hz)]
  walk_at "ks"
  refine ie (by decide) ?_
  walk_at "ks"
  refine o_add hy hz (by decide) (by decide) ?_
  walk_at "ks"
  refine o_mul hx (hy.add hz) (by decide) (by decide) ?_
  walk_at "ks"
  refine o_mul hx hy (by decide) (by decide) ?_
  walk_at "ks"
  refine o_mul hx hz (by decide) (by decide) ?_
  walk_at "ks"
  refine o_add (hx.mul hy) (hx.mul hz) (by decide) (by decide) ?_
  walk_at "ks"
  refine rat_eq ?_
  rw [decide_eq_true (mul_dist hx hy hz)]
  walk_at "ks"
  refine ie (by decide) ?_
  walk_at "ks"
  refine o_add hx hy (by decide) (by decide) ?_
  walk_at "ks"
  refine o_sub (hx.add hy) hy (by decide) (by decide) ?_
  walk_at "ks"
  refine rat_eq ?_
  rw [decide_eq_true (add_sub' hx hy)]
  walk_at "ks"
  refine ie (by decide) ?_
  walk_at "ks"
  refine o_neg hx ?_
  walk_at "ks"
  refine o_add hx hx.neg (by decide) (by decide) ?_
  walk_at "ks"
  refine rat_bool ?_
  rw [decide_eq_true (add_neg' hx)]
  walk_at "ks"
  refine ie (by decide) ?_
  walk_at "ks"
  refine o_sub hx hy (by decide) (by decide) ?_
  walk_at "ks"
  refine o_sub hy hx (by decide) (by decide) ?_
  walk_at "ks"
  refine o_neg (hy.sub hx) ?_
  walk_at "ks"
  refine rat_eq ?_
  rw [decide_eq_true (sub_neg' hx hy)]
  walk_at "ks"
  refine ie (by decide) ?_
  walk_at "ks"
  refine o_times hx so (by decide) ?_
  walk_at "ks"
  refine f_top ?_
  walk_at "ks"
  refine ⟨(hx.sm (by decide)).1.mul so, ?_⟩
  walk_at "ks"
  refine f_bot ?_
  walk_at "ks"
  refine p_is (n := 140) (hx.times ho') (by decide) (abs_mul hx.s1 ho') (abs_up hx.s2 (by decide)) (by decide) (vl_low hx.ne) ?_
  walk_at "ks"
  refine ie (by decide) ?_
  walk_at "ks"
  refine o_times hx so (by decide) ?_
  walk_at "ks"
  refine fun a ha => mk_rat1 ha ?_
  walk_at "ks"
  refine o_mul hx (Rat'.one ho') (by decide) (by decide) ?_
  walk_at "ks"
  refine rat_eq ?_
  rw [decide_eq_true (times_eq hx o)]
  walk_at "ks"
  refine ie (by decide) ?_
  walk_at "ks"
  refine ⟨_, _, _, _, rfl, List.mem_cons_self, rfl, ?_⟩
  walk_at "ks"
  refine p_under hx hy (by decide) (by decide) ?_
  walk_at "ks"
  refine o_add hx hz (by decide) (by decide) ?_
  walk_at "ks"
  refine ⟨_, _, _, _, rfl, List.mem_cons_self, rfl, ?_⟩
  walk_at "ks"
  refine o_add hy hz (by decide) (by decide) ?_
  walk_at "ks"
  refine p_under (hx.add hz) (hy.add hz) (by decide) (by decide) ?_
  refine oEq_bb ?_
  rw [if_neg Bool.false_ne_true, decide_eq_true (under_add hx hy hz)]
  exact ⟨_, Sub.rfl', k⟩
/-! ### some ratios -/
theorem shows_rat {M : Mem} {x : Int × Int} (h : Rat' 100 x) : Shows [("Ratio", p_Ratio_repr)] M (ratD x) (reprR x) :=
  ⟨_, _, _, _, rfl, List.mem_cons_self, fun Ψ q => ⟨x, rfl, st_of (Nat.le_trans h.s1 (by decide +kernel)), st_of (Nat.le_trans h.s2 (by decide +kernel)), q⟩⟩
theorem reprR_len {x : Int × Int} (h : Rat' 100 x) : (reprR x).length ≤ 4000 := by
  have l1 := num_len (st_of (i := x.1) (Nat.le_trans h.s1 (by decide +kernel)))
  have l2 := num_len (st_of (i := x.2) (Nat.le_trans h.s2 (by decide +kernel)))
  have c1 : (Str.ofString "Ratio(").length = 6 := rfl
  have c2 : (Str.ofString ", ").length = 2 := rfl
  have c3 : (Str.ofString ")").length = 1 := rfl
  unfold reprR
  rw [strLen_append, strLen_append, strLen_append, strLen_append]
  omega
theorem repr_three {M : Mem} {s : Addr} {x y z : Int × Int} {r : DFn} {Φ : Dat → Mem → Prop} (hs : M s = some (.lst [ratD x, ratD y, ratD z])) (hx : Rat' 100 x) (hy : Rat' 100 y) (hz : Rat' 100 z) (k : Φ (.str (listText [reprR x, reprR y, reprR z])) M) : oReprL [("Ratio", p_Ratio_repr)] r [.loc s] M Φ := by
  refine .inl ⟨_, _, [reprR x, reprR y, reprR z], rfl, vw_loc hs, by simp, .cons (shows_rat hx) (.cons (shows_rat hy) (.cons (shows_rat hz) .nil)), ?_, k⟩
  have := listText_len_le [reprR x, reprR y, reprR z]
  have a := reprR_len hx
  have b := reprR_len hy
  have c := reprR_len hz
  simp only [List.map_cons, List.map_nil, List.sum_cons, List.sum_nil, List.length_cons, List.length_nil] at this
  exact line_of (by omega)
theorem r__law_ask_four : ∀ ds M Φ Ψ, p__law_ask_four ds M Φ Ψ → ds.length = 1 ∧ t__law_ask_four (endsOf Φ) (startD N__law_ask_four ds (exOf Ψ)) M := by
  rintro ds M Φ Ψ ⟨ns, rfl, k⟩
  refine ⟨rfl, ?_⟩
  unfold t__law_ask_four
  walk_at "ks"
  refine ⟨ns, rfl, fun p M1 hp0 o1 pn => ?_⟩
  walk_at "ks"
  refine ⟨8, rfl, by decide, by decide, ?_⟩
  show dForGo _ _ _ _ (rngD 0 (((8 : Nat) : Int)).toNat) _ _
  rw [rngD_nat]
  refine for_inv (fun i Γ M' => PenAt M' p (100 * (8 - i)) ∧ ∃ w2 w3 w4 w5 w6 w7 w8 w9, Γ = ⟨[some (.scr ns), some (.loc p), w2, w3, w4, w5, w6, w7, w8, w9], exOf Ψ⟩) ?_ ?_ ⟨pn.weak (by decide), _, _, _, _, _, _, _, _, rfl⟩
  · rintro i d Γ M' hd ⟨hq, w2, w3, w4, w5, w6, w7, w8, w9, rfl⟩
    have hi : i < 8 := by
      have := (List.getElem?_eq_some_iff.mp hd).1
      simpa using this
    rw [List.getElem?_map, List.getElem?_range hi] at hd
    cases hd
    refine ⟨trivial, _, rfl, fun N hN => ?_⟩
    have e : 100 * (8 - i) = 100 * (8 - (i + 1)) + 100 := by omega
    rw [e] at hq
    generalize hK : 100 * (8 - (i + 1)) = K at hq
    walk_at "ks"
    refine ⟨Nat.zero_le _, fun s hs => ?_⟩
    have hsp : s ≠ p := fun z => by
      obtain ⟨_, _, _, e, _⟩ := hq
      rw [z, e] at hs; cases hs
    have hq2 : PenAt (M'.put s (.lst [])) p (K + 100) := hq.sub (Sub.put hs)
    have hs2 : (M'.put s (.lst [])) s = some (.lst []) := Mem.put_same
    generalize M'.put s (.lst []) = M2 at hq2 hs2
    walk_at "ks"
    refine ⟨3, rfl, by decide, by decide, ?_⟩
    show dForGo _ _ _ _ (rngD 0 (((3 : Nat) : Int)).toNat) _ _
    rw [rngD_nat]
    refine for_inv (fun j Γ M' => PenAt M' p (K + 100 - 20 * j) ∧ ∃ (xs : List (Int × Int)) (w4 w5 w6 w7 w8 w9 : Option Dat), xs.length = j ∧ (∀ x ∈ xs, Rat' 100 x) ∧ M' s = some (.lst (xs.map ratD)) ∧ Γ = ⟨[some (.scr ns), some (.loc p), some (.int (i : Nat)), some (.loc s), w4, w5, w6, w7, w8, w9], exOf Ψ⟩) ?_ ?_ ⟨hq2, [], _, _, _, _, _, _, rfl, (fun x hx => by cases hx), hs2, rfl⟩
    · rintro j d Γ M3 hd ⟨q3, xs, w4, w5, w6, w7, w8, w9, lx, rx, es, rfl⟩
      have hj : j < 3 := by
        have := (List.getElem?_eq_some_iff.mp hd).1
        simpa using this
      refine ⟨trivial, _, rfl, fun N2 hN2 => ?_⟩
      have e : K + 100 - 20 * j = (K + 100 - 20 * (j + 1)) + 10 + 10 := by omega
      rw [e] at q3
      walk_at "ks"
      refine ⟨p, 2, _, rfl, by decide, by decide, q3, fun b M4 bb o4 q4 => ?_⟩
      have es4 : M4 s = some (.lst (xs.map ratD)) := (o4 s hsp).trans es
      walk_at "ks"
      have fin : ∀ b : Int, b ≠ 0 → Sx b → (dDrop (dMt oAppend (dVar 3) (dCons (dMake mkFrz "Ratio" p_Ratio_init (dCons (dCall p__law_int (dCons (dVar 1) (dCons (dC (.int 2)) (dNil)))) (dCons (dVar 8) (dNil)))) (dNil)))) { nx := N2, rt := (endsOf Φ).rt, bk := fun Γ' M' => (dSeq (dSet (dCall p__law_draw (dCons (dVar 1) (dCons (dC (.int 5)) (dNil)))) 5) (dSeq (dIfS (dTest (dOp oLt (dVar 5) (dC (.int 3)))) (dSetIx (dVar 3) (dC (.int 1)) (dOp oIx (dLst (dCons (dOp oIx (dVar 3) (dC (.int 0))) (dCons (dUn (oOwnU [("Ratio", p_Ratio_neg)] oNeg) (dOp oIx (dVar 3) (dC (.int 0)))) (dCons (dMake mkFrz "Ratio" (dfl [.int 1] p_Ratio_init) (dCons (dC (.int 0)) (dNil))) (dNil))))) (dVar 5))) (dNext)) (dSeq (dSet (dCB (oReprL [("Ratio", p_Ratio_repr)] oRepr0) (dCons (dVar 3) (dNil))) 6) (dSeq (dFor (diList (dVar 3)) (.nm 7) (dFor (diList (dVar 3)) (.nm 9) (dIfS (dNot (dTest (dCall p__law_two_right (dCons (dVar 7) (dCons (dVar 9) (dNil)))))) (dRet (dC (.bl false))) (dNext)))) (dIfS (dOr (dNot (dTest (dCall p__law_three_right (dCons (dOp oIx (dVar 3) (dC (.int 0))) (dCons (dOp oIx (dVar 3) (dC (.int 1))) (dCons (dOp oIx (dVar 3) (dC (.int 2))) (dCons (dCall p__law_int (dCons (dVar 1) (dCons (dC (.int 1)) (dNil)))) (dNil)))))))) (dTest (dOp (oEqS true (oEq true)) (dCB (oReprL [("Ratio", p_Ratio_repr)] oRepr0) (dCons (dVar 3) (dNil))) (dVar 6)))) (dRet (dC (.bl false))) (dNext)))))) { nx := N, rt := (endsOf Φ).rt, bk := fun Γ' M' => (dRet (dC (.bl true))) (endsOf Φ) Γ' M', ct := N } Γ' M', ct := N2 } ⟨[some (.scr ns), some (.loc p), some (.int (i : Nat)), some (.loc s), some d, w5, w6, w7, some (.int b), w9], exOf Ψ⟩ M4 := by
        intro b b0 bb
        walk_at "ks"
        refine ⟨⟨s, _, rfl, Mem.l_of es4⟩, ?_⟩
        walk_at "ks"
        refine ⟨p, 2, _, rfl, by decide, by decide, q4, fun t M5 bt o5 q5 => ?_⟩
        have es5 : M5 s = some (.lst (xs.map ratD)) := (o5 s hsp).trans es4
        walk_at "ks"
        refine fun a ha => mk_rat b0 ha ?_
        walk_at "ks"
        refine ⟨_, Mem.l_of es5, by rw [List.length_map, lx]; exact Nat.lt_of_lt_of_le hj (line_of (by decide)), ?_⟩
        refine hN2 _ _ ⟨?_, xs ++ [low t b], _, _, _, _, _, _, by rw [List.length_append, lx]; rfl, fun x hx => ?_, by rw [Mem.put_same, List.map_append]; rfl, rfl⟩
        · obtain ⟨ms, a', g', e1, e2⟩ := q5
          exact ⟨ms, a', g', by rw [Mem.put_ne (Ne.symm hsp)]; exact e1, e2⟩
        · rcases List.mem_append.mp hx with h | h
          · exact rx x h
          · rw [List.mem_singleton.mp h]
            exact Rat'.low b0 (Nat.le_trans bt (Nat.pow_le_pow_right (by decide) (by decide))) (Nat.le_trans bb (Nat.pow_le_pow_right (by decide) (by decide)))
      refine oEq_ii ?_
      rw [if_neg Bool.false_ne_true]
      walk_at "ks"
      by_cases z : b = 0
      · refine it (decide_eq_true z) ?_
        walk_at "ks"
        exact fin 1 (by decide) (by unfold Sx; decide)
      · refine ie (dn z) ?_
        walk_at "ks"
        exact fin b z bb
    · rintro Γ M3 ⟨q3, xs, w4, w5, w6, w7, w8, w9, lx, rx, es, rfl⟩
      rw [List.length_map, List.length_range] at q3 lx
      refine ⟨trivial, ?_⟩
      obtain ⟨x0, x1, x2, rfl⟩ : ∃ x0 x1 x2, xs = [x0, x1, x2] := by
        match xs, lx with
        | [a, b, c], _ => exact ⟨a, b, c, rfl⟩
      have h0 : Rat' 100 x0 := rx x0 (by simp)
      have h1 : Rat' 100 x1 := rx x1 (by simp)
      have h2 : Rat' 100 x2 := rx x2 (by simp)
      walk_at "ks"
      refine ⟨p, 5, K + 39, rfl, by decide, q3, fun v M4 v0 v1 o4 q4 => ?_⟩
      have es4 : M4 s = some (.lst [ratD x0, ratD x1, ratD x2]) := (o4 s hsp).trans es
      walk_at "ks"
      have fin : ∀ (y : Int × Int) (M5 : Mem) (w4 w6 w7 w8 w9 : Option Dat), Rat' 100 y → PenAt M5 p (K + 39) → M5 s = some (.lst [ratD x0, ratD y, ratD x2]) → (dSeq (dSet (dCB (oReprL [("Ratio", p_Ratio_repr)] oRepr0) (dCons (dVar 3) (dNil))) 6) (dSeq (dFor (diList (dVar 3)) (.nm 7) (dFor (diList (dVar 3)) (.nm 9) (dIfS (dNot (dTest (dCall p__law_two_right (dCons (dVar 7) (dCons (dVar 9) (dNil)))))) (dRet (dC (.bl false))) (dNext)))) (dIfS (dOr (dNot (dTest (dCall p__law_three_right (dCons (dOp oIx (dVar 3) (dC (.int 0))) (dCons (dOp oIx (dVar 3) (dC (.int 1))) (dCons (dOp oIx (dVar 3) (dC (.int 2))) (dCons (dCall p__law_int (dCons (dVar 1) (dCons (dC (.int 1)) (dNil)))) (dNil)))))))) (dTest (dOp (oEqS true (oEq true)) (dCB (oReprL [("Ratio", p_Ratio_repr)] oRepr0) (dCons (dVar 3) (dNil))) (dVar 6)))) (dRet (dC (.bl false))) (dNext)))) { nx := N, rt := (endsOf Φ).rt, bk := fun Γ' M' => (dRet (dC (.bl true))) (endsOf Φ) Γ' M', ct := N } ⟨[some (.scr ns), some (.loc p), some (.int (i : Nat)), some (.loc s), w4, some (.int v), w6, w7, w8, w9], exOf Ψ⟩ M5 := by
        intro y M5 w4 w6 w7 w8 w9 hy q5 es5
        walk_at "ks"
        refine repr_three es5 h0 hy h2 ?_
        walk_at "ks"
        refine ⟨_, vw_loc es5, ?_⟩
        have mem : ∀ {j : Nat} {d : Dat}, [ratD x0, ratD y, ratD x2][j]? = some d → ∃ x, d = ratD x ∧ Rat' 100 x := fun {j d} hd => by
          have hm := List.mem_of_getElem? hd
          simp only [List.mem_cons, List.not_mem_nil, or_false] at hm
          rcases hm with rfl | rfl | rfl
          · exact ⟨_, rfl, h0⟩
          · exact ⟨_, rfl, hy⟩
          · exact ⟨_, rfl, h2⟩
        refine for_inv (fun j Γ M' => Sub M5 M' ∧ ∃ w7 w9, Γ = ⟨[some (.scr ns), some (.loc p), some (.int (i : Nat)), some (.loc s), w4, some (.int v), some (.str (listText [reprR x0, reprR y, reprR x2])), w7, w8, w9], exOf Ψ⟩) ?_ ?_ ⟨Sub.rfl', _, _, rfl⟩
        · rintro j d Γ M6 hd ⟨s6, w7, w9, rfl⟩
          obtain ⟨a, rfl, ha⟩ := mem hd
          refine ⟨Mem.l_of (s6 _ _ es5), _, rfl, fun N3 hN3 => ?_⟩
          walk_at "ks"
          refine ⟨_, vw_loc (s6 _ _ es5), ?_⟩
          refine for_inv (fun j Γ M' => Sub M5 M' ∧ ∃ w9, Γ = ⟨[some (.scr ns), some (.loc p), some (.int (i : Nat)), some (.loc s), w4, some (.int v), some (.str (listText [reprR x0, reprR y, reprR x2])), some (ratD a), w8, w9], exOf Ψ⟩) ?_ ?_ ⟨s6, _, rfl⟩
          · rintro j d Γ M7 hd ⟨s7, w9, rfl⟩
            obtain ⟨b, rfl, hb⟩ := mem hd
            refine ⟨Mem.l_of (s7 _ _ es5), _, rfl, fun N4 hN4 => ?_⟩
            walk_at "ks"
            refine ⟨a, b, rfl, ha, hb, fun M8 s8 => ?_⟩
            walk_at "ks"
            refine ie (by decide) ?_
            walk_at "ks"
            exact hN4 _ _ ⟨s7.trans s8, _, rfl⟩
          · rintro Γ M7 ⟨s7, w9, rfl⟩
            exact ⟨Mem.l_of (s7 _ _ es5), hN3 _ _ ⟨s7, _, _, rfl⟩⟩
        · rintro Γ M6 ⟨s6, w7, w9, rfl⟩
          refine ⟨Mem.l_of (s6 _ _ es5), ?_⟩
          have es6 := s6 _ _ es5
          walk_at "ks"
          refine ix_at (j := 0) (vq_loc es6) rfl ?_
          walk_at "ks"
          refine ix_at (j := 1) (vq_loc es6) rfl ?_
          walk_at "ks"
          refine ix_at (j := 2) (vq_loc es6) rfl ?_
          walk_at "ks"
          refine ⟨p, 1, K + 29, rfl, by decide, by decide, q5.sub s6, fun o M7 bo o7 q7 => ?_⟩
          have es7 : M7 s = some (.lst [ratD x0, ratD y, ratD x2]) := (o7 s hsp).trans es6
          walk_at "ks"
          refine ⟨x0, y, x2, o, rfl, h0, hy, h2, bo, ?_⟩
          walk_at "ks"
          refine ie (by decide) ?_
          walk_at "ks"
          refine repr_three es7 h0 hy h2 ?_
          walk_at "ks"
          refine oNe_self rfl ?_
          walk_at "ks"
          refine hN _ _ ⟨?_, _, _, _, _, _, _, _, _, rfl⟩
          rw [hK]
          exact q7.weak (by omega)
      by_cases c : v < 3
      · refine it (decide_eq_true c) ?_
        walk_at "ks"
        refine ix_at (j := 0) (vq_loc es4) rfl ?_
        walk_at "ks"
        refine ix_at (j := 0) (vq_loc es4) rfl ?_
        refine o_neg h0 ?_
        walk_at "ks"
        refine fun a ha => mk_rat1 ha ?_
        walk_at "ks"
        refine ⟨line_of (by simp), ?_⟩
        walk_at "ks"
        refine ix_any rfl v0 c fun d hd => ?_
        have hd' : ∃ y, d = ratD y ∧ Rat' 100 y := by
          simp only [List.mem_cons, List.not_mem_nil, or_false] at hd
          rcases hd with rfl | rfl | rfl
          · exact ⟨_, rfl, h0⟩
          · exact ⟨_, rfl, h0.neg⟩
          · exact ⟨_, rfl, Rat'.one (Nat.zero_le _)⟩
        obtain ⟨y, rfl, hy⟩ := hd'
        walk_at "ks"
        refine ⟨s, 1, _, 1, rfl, rfl, Mem.l_of es4, rfl, ?_⟩
        refine fin y _ _ _ _ _ _ hy ?_ Mem.put_same
        obtain ⟨ms, a', g', e1, e2⟩ := q4
        exact ⟨ms, a', g', by rw [Mem.put_ne (Ne.symm hsp)]; exact e1, e2⟩
      · refine ie (dn c) ?_
        walk_at "ks"
        exact fin x1 M4 _ _ _ _ _ h1 q4 es4
  · rintro Γ M' ⟨hq, w2, w3, w4, w5, w6, w7, w8, w9, rfl⟩
    refine ⟨trivial, ?_⟩
    walk_at "ks"
    exact ⟨_, Sub.rfl', k _⟩
theorem r_law : ∀ ds M Φ Ψ, p_law ds M Φ Ψ → ds.length = 1 ∧ t_law (endsOf Φ) (startD N_law ds (exOf Ψ)) M := by
  rintro ds M Φ Ψ ⟨ns, rfl, k⟩
  refine ⟨rfl, ?_⟩
  unfold t_law
  walk_at "ks"
  refine ⟨ns, rfl, fun M1 => ?_⟩
  walk_at "ks"
  refine ⟨ns, rfl, fun M2 => ?_⟩
  walk_at "ks"
  refine ⟨ns, rfl, fun M3 => ?_⟩
  walk_at "ks"
  refine ⟨ns, rfl, fun M4 => ?_⟩
  exact ⟨_, Sub.rfl', k _⟩
end K00
namespace K00
open PySem PySem.Spec PyProof.Rows L2 EX
abbrev s_NoStation_init : Stmt := inCls (topS 8) 0
theorem st_NoStation : SupTxt s_NoStation_init "name" "name" := ⟨⟨_, _, _, _, _, _, _, _, _, _, rfl, fun _ => rfl⟩, ⟨_, rfl, rfl⟩, ⟨rfl, rfl, rfl, by decide +kernel⟩, ⟨rfl, rfl, rfl, rfl⟩, fun _ _ _ _ _ _ _ _ us h => match us, h with | [_, _], _ => rfl, fun _ _ _ _ _ _ _ _ _ _ => rfl, by decide, by decide⟩
abbrev s_NoReading_init : Stmt := inCls (topS 9) 0
theorem st_NoReading : SupTxt s_NoReading_init "number" "number" := ⟨⟨_, _, _, _, _, _, _, _, _, _, rfl, fun _ => rfl⟩, ⟨_, rfl, rfl⟩, ⟨rfl, rfl, rfl, by decide +kernel⟩, ⟨rfl, rfl, rfl, rfl⟩, fun _ _ _ _ _ _ _ _ us h => match us, h with | [_, _], _ => rfl, fun _ _ _ _ _ _ _ _ _ _ => rfl, by decide, by decide⟩
abbrev s_NoFit_init : Stmt := inCls (topS 10) 0
theorem st_NoFit : SupTxt s_NoFit_init "times" "times" := ⟨⟨_, _, _, _, _, _, _, _, _, _, rfl, fun _ => rfl⟩, ⟨_, rfl, rfl⟩, ⟨rfl, rfl, rfl, by decide +kernel⟩, ⟨rfl, rfl, rfl, rfl⟩, fun _ _ _ _ _ _ _ _ us h => match us, h with | [_, _], _ => rfl, fun _ _ _ _ _ _ _ _ _ _ => rfl, by decide, by decide⟩
abbrev s_TooMany_init : Stmt := inCls (topS 13) 0
theorem st_TooMany : SupTxt s_TooMany_init "many" "many" := ⟨⟨_, _, _, _, _, _, _, _, _, _, rfl, fun _ => rfl⟩, ⟨_, rfl, rfl⟩, ⟨rfl, rfl, rfl, by decide +kernel⟩, ⟨rfl, rfl, rfl, rfl⟩, fun _ _ _ _ _ _ _ _ us h => match us, h with | [_, _], _ => rfl, fun _ _ _ _ _ _ _ _ _ _ => rfl, by decide, by decide⟩
abbrev s_Full_init : Stmt := inCls (topS 14) 0
theorem st_Full : SupTxt s_Full_init "most" "most" := ⟨⟨_, _, _, _, _, _, _, _, _, _, rfl, fun _ => rfl⟩, ⟨_, rfl, rfl⟩, ⟨rfl, rfl, rfl, by decide +kernel⟩, ⟨rfl, rfl, rfl, rfl⟩, fun _ _ _ _ _ _ _ _ us h => match us, h with | [_, _], _ => rfl, fun _ _ _ _ _ _ _ _ _ _ => rfl, by decide, by decide⟩
abbrev s_InvalidText_init : Stmt := inCls (topS 18) 0
theorem st_InvalidText : SupTxt s_InvalidText_init "line" "line" := ⟨⟨_, _, _, _, _, _, _, _, _, _, rfl, fun _ => rfl⟩, ⟨_, rfl, rfl⟩, ⟨rfl, rfl, rfl, by decide +kernel⟩, ⟨rfl, rfl, rfl, rfl⟩, fun _ _ _ _ _ _ _ _ us h => match us, h with | [_, _], _ => rfl, fun _ _ _ _ _ _ _ _ _ _ => rfl, by decide, by decide⟩
def cs18 (C_InvalidRatio C_InvalidArray C_InvalidReading C_InvalidSum C_InvalidTimes C_InvalidTable C_NoSuchSetting C_Free C_InvalidLimit C_UnknownName C_NothingToUndo C_UnknownCommand C_NoStation C_NoReading C_NoFit C_TooMany C_Full C_InvalidText : Addr) : List (Str × Addr) := [("InvalidRatio", C_InvalidRatio), ("InvalidArray", C_InvalidArray), ("InvalidReading", C_InvalidReading), ("InvalidSum", C_InvalidSum), ("InvalidTimes", C_InvalidTimes), ("InvalidTable", C_InvalidTable), ("NoSuchSetting", C_NoSuchSetting), ("Free", C_Free), ("InvalidLimit", C_InvalidLimit), ("UnknownName", C_UnknownName), ("NothingToUndo", C_NothingToUndo), ("UnknownCommand", C_UnknownCommand), ("NoStation", C_NoStation), ("NoReading", C_NoReading), ("NoFit", C_NoFit), ("TooMany", C_TooMany), ("Full", C_Full), ("InvalidText", C_InvalidText)]
def cs19 (C_InvalidRatio C_InvalidArray C_InvalidReading C_InvalidSum C_InvalidTimes C_InvalidTable C_NoSuchSetting C_Free C_InvalidLimit C_UnknownName C_NothingToUndo C_UnknownCommand C_NoStation C_NoReading C_NoFit C_TooMany C_Full C_InvalidText C_TurnsError : Addr) : List (Str × Addr) := [("InvalidRatio", C_InvalidRatio), ("InvalidArray", C_InvalidArray), ("InvalidReading", C_InvalidReading), ("InvalidSum", C_InvalidSum), ("InvalidTimes", C_InvalidTimes), ("InvalidTable", C_InvalidTable), ("NoSuchSetting", C_NoSuchSetting), ("Free", C_Free), ("InvalidLimit", C_InvalidLimit), ("UnknownName", C_UnknownName), ("NothingToUndo", C_NothingToUndo), ("UnknownCommand", C_UnknownCommand), ("NoStation", C_NoStation), ("NoReading", C_NoReading), ("NoFit", C_NoFit), ("TooMany", C_TooMany), ("Full", C_Full), ("InvalidText", C_InvalidText), ("TurnsError", C_TurnsError)]
theorem d_is_integer {P : Program} {w : World} {K : Kx} {base : Heap} (B : Bi K.mg) (SE : Seer P base) (F : Top K "is_integer" s_is_integer) (I_Turn_int : IsiOk K (.own "Turn") (.bi "int") false) (I_Ratio_int : IsiOk K (.own "Ratio") (.bi "int") false) (I_dict_int : IsiOk K (.bi "dict") (.bi "int") false) (I_tuple_int : IsiOk K (.bi "tuple") (.bi "int") false) (I_list_int : IsiOk K (.bi "list") (.bi "int") false) (I_str_int : IsiOk K (.bi "str") (.bi "int") false) (I_int_int : IsiOk K (.bi "int") (.bi "int") true) (I_bool_int : IsiOk K (.bi "bool") (.bi "int") true) (I_NoneType_int : IsiOk K (.bi "NoneType") (.bi "int") false) (I_Turn_bool : IsiOk K (.own "Turn") (.bi "bool") false) (I_Ratio_bool : IsiOk K (.own "Ratio") (.bi "bool") false) (I_dict_bool : IsiOk K (.bi "dict") (.bi "bool") false) (I_tuple_bool : IsiOk K (.bi "tuple") (.bi "bool") false) (I_list_bool : IsiOk K (.bi "list") (.bi "bool") false) (I_str_bool : IsiOk K (.bi "str") (.bi "bool") false) (I_int_bool : IsiOk K (.bi "int") (.bi "bool") false) (I_bool_bool : IsiOk K (.bi "bool") (.bi "bool") true) (I_NoneType_bool : IsiOk K (.bi "NoneType") (.bi "bool") false) : Def P w K base "is_integer" s_is_integer 2 ["value"] p_is_integer :=
  Def.mk' F sc_is_integer (fun us hl => match us, hl with | [_], _ => fun _ _ _ _ _ _ => rfl) (b_is_integer B SE I_Turn_int I_Ratio_int I_dict_int I_tuple_int I_list_int I_str_int I_int_int I_bool_int I_NoneType_int I_Turn_bool I_Ratio_bool I_dict_bool I_tuple_bool I_list_bool I_str_bool I_int_bool I_bool_bool I_NoneType_bool) r_is_integer
theorem d_lowest {P : Program} {w : World} {K : Kx} {base : Heap} (B : Bi K.mg) (SE : Seer P base) (F : Top K "lowest" s_lowest)  : Def P w K base "lowest" s_lowest 42 ["top", "bottom"] p_lowest :=
  Def.mk' F sc_lowest (fun us hl => match us, hl with | [_, _], _ => fun _ _ _ _ _ _ => rfl) (b_lowest B SE ) r_lowest
theorem d_need_parts {P : Program} {w : World} {K : Kx} {base : Heap} (B : Bi K.mg) (SE : Seer P base) (F : Top K "need_parts" s_need_parts) (Dis_integer : Def P w K base "is_integer" s_is_integer 2 ["value"] p_is_integer) (X_InvalidRatio : ExcP K "InvalidRatio") : Def P w K base "need_parts" s_need_parts 3 ["top", "bottom"] p_need_parts :=
  Def.mk' F sc_need_parts (fun us hl => match us, hl with | [_, _], _ => fun _ _ _ _ _ _ => rfl) (b_need_parts B SE Dis_integer X_InvalidRatio) r_need_parts
theorem f_Ratio_init {P : Program} {w : World} {K : Kx} {base : Heap} (B : Bi K.mg) (SE : Seer P base) {C f : Addr} {fd : FuncData} (F : MTop K "Ratio" "__init__" "Ratio.__init__" s_Ratio_init [.int 1] C f fd) (Dlowest : Def P w K base "lowest" s_lowest 42 ["top", "bottom"] p_lowest) (Dneed_parts : Def P w K base "need_parts" s_need_parts 3 ["top", "bottom"] p_need_parts) (F_Turn_top : FldOk K "Turn" "top") (F_Ratio_top : FldOk K "Ratio" "top") (F_Turn_bottom : FldOk K "Turn" "bottom") (F_Ratio_bottom : FldOk K "Ratio" "bottom") : EX.FnOk P w K.K K.mg base (L2.CX P w) 43 f fd ["self", "top", "bottom"] (spX K p_Ratio_init) :=
  fn_m F.fd sc_Ratio_init (b_Ratio_init B SE Dlowest Dneed_parts F_Turn_top F_Ratio_top F_Turn_bottom F_Ratio_bottom f) r_Ratio_init
theorem c_Ratio_init_2 {P : Program} {w : World} {K : Kx} {base : Heap} (B : Bi K.mg) (SE : Seer P base) {C f : Addr} {fd : FuncData} (F : MTop K "Ratio" "__init__" "Ratio.__init__" s_Ratio_init [.int 1] C f fd) (Dlowest : Def P w K base "lowest" s_lowest 42 ["top", "bottom"] p_lowest) (Dneed_parts : Def P w K base "need_parts" s_need_parts 3 ["top", "bottom"] p_need_parts) (F_Turn_top : FldOk K "Turn" "top") (F_Ratio_top : FldOk K "Ratio" "top") (F_Turn_bottom : FldOk K "Turn" "bottom") (F_Ratio_bottom : FldOk K "Ratio" "bottom") : Cal P w K base 43 f (dfl [.int 1] p_Ratio_init) :=
  calD 2 0 F.fd (by simp) rfl (fun us its h1 h2 => match us, h1, its, h2 with | [_, _], _, [_], _ => fun _ _ _ _ _ _ _ => ⟨_, rfl, rfl⟩) (fun _ => .cons (.int _) (.nil)) (f_Ratio_init B SE F Dlowest Dneed_parts F_Turn_top F_Ratio_top F_Turn_bottom F_Ratio_bottom)
theorem c_Ratio_init_3 {P : Program} {w : World} {K : Kx} {base : Heap} (B : Bi K.mg) (SE : Seer P base) {C f : Addr} {fd : FuncData} (F : MTop K "Ratio" "__init__" "Ratio.__init__" s_Ratio_init [.int 1] C f fd) (Dlowest : Def P w K base "lowest" s_lowest 42 ["top", "bottom"] p_lowest) (Dneed_parts : Def P w K base "need_parts" s_need_parts 3 ["top", "bottom"] p_need_parts) (F_Turn_top : FldOk K "Turn" "top") (F_Ratio_top : FldOk K "Ratio" "top") (F_Turn_bottom : FldOk K "Turn" "bottom") (F_Ratio_bottom : FldOk K "Ratio" "bottom") : Cal P w K base 43 f (dfl [] p_Ratio_init) :=
  calD 3 1 F.fd (by simp) rfl (fun us its h1 h2 => match us, h1, its, h2 with | [_, _, _], _, [_], _ => fun _ _ _ _ _ _ _ => ⟨_, rfl, rfl⟩) (fun _ => .nil) (f_Ratio_init B SE F Dlowest Dneed_parts F_Turn_top F_Ratio_top F_Turn_bottom F_Ratio_bottom)
theorem kc_Ratio_init {P : Program} {w : World} {K : Kx} {base : Heap} (B : Bi K.mg) (SE : Seer P base) {C f : Addr} {fd : FuncData} (F : MTop K "Ratio" "__init__" "Ratio.__init__" s_Ratio_init [.int 1] C f fd) (Dlowest : Def P w K base "lowest" s_lowest 42 ["top", "bottom"] p_lowest) (Dneed_parts : Def P w K base "need_parts" s_need_parts 3 ["top", "bottom"] p_need_parts) (F_Turn_top : FldOk K "Turn" "top") (F_Ratio_top : FldOk K "Ratio" "top") (F_Turn_bottom : FldOk K "Turn" "bottom") (F_Ratio_bottom : FldOk K "Ratio" "bottom") : KCal P w K base 43 f 1 ["bottom", "top"] (permS [0, 2, 1] p_Ratio_init) :=
  kcalD [0, 2, 1] (by simp) F.fd (fun us ws its h1 h2 h3 => match us, h1, ws, h2, its, h3 with | [_], _, [_, _], _, [_], _ => fun _ _ _ _ _ _ _ => ⟨_, rfl, rfl⟩) (f_Ratio_init B SE F Dlowest Dneed_parts F_Turn_top F_Ratio_top F_Turn_bottom F_Ratio_bottom)
theorem f_Ratio_add {P : Program} {w : World} {K : Kx} {base : Heap} (B : Bi K.mg) (SE : Seer P base) {C f : Addr} {fd : FuncData} (F : MTop K "Ratio" "__add__" "Ratio.__add__" s_Ratio_add [] C f fd) (F_Ratio_top : FldOk K "Ratio" "top") (F_Turn_top : FldOk K "Turn" "top") (F_Ratio_bottom : FldOk K "Ratio" "bottom") (F_Turn_bottom : FldOk K "Turn" "bottom") (K_Ratio_2 : MakOk P w K base 43 "Ratio" p_Ratio_init) : EX.FnOk P w K.K K.mg base (L2.CX P w) 45 f fd ["self", "other"] (spX K p_Ratio_add) :=
  fn_m F.fd sc_Ratio_add (b_Ratio_add B SE F_Ratio_top F_Turn_top F_Ratio_bottom F_Turn_bottom K_Ratio_2 f) r_Ratio_add
theorem c_Ratio_add {P : Program} {w : World} {K : Kx} {base : Heap} (B : Bi K.mg) (SE : Seer P base) {C f : Addr} {fd : FuncData} (F : MTop K "Ratio" "__add__" "Ratio.__add__" s_Ratio_add [] C f fd) (F_Ratio_top : FldOk K "Ratio" "top") (F_Turn_top : FldOk K "Turn" "top") (F_Ratio_bottom : FldOk K "Ratio" "bottom") (F_Turn_bottom : FldOk K "Turn" "bottom") (K_Ratio_2 : MakOk P w K base 43 "Ratio" p_Ratio_init) : Cal P w K base 45 f p_Ratio_add :=
  cal0 F.fd (fun us hl => match us, hl with | [_, _], _ => fun _ _ _ _ _ _ => rfl) (f_Ratio_add B SE F F_Ratio_top F_Turn_top F_Ratio_bottom F_Turn_bottom K_Ratio_2)
theorem f_Ratio_sub {P : Program} {w : World} {K : Kx} {base : Heap} (B : Bi K.mg) (SE : Seer P base) {C f : Addr} {fd : FuncData} (F : MTop K "Ratio" "__sub__" "Ratio.__sub__" s_Ratio_sub [] C f fd) (F_Ratio_top : FldOk K "Ratio" "top") (F_Turn_top : FldOk K "Turn" "top") (F_Ratio_bottom : FldOk K "Ratio" "bottom") (F_Turn_bottom : FldOk K "Turn" "bottom") (K_Ratio_2 : MakOk P w K base 43 "Ratio" p_Ratio_init) : EX.FnOk P w K.K K.mg base (L2.CX P w) 45 f fd ["self", "other"] (spX K p_Ratio_sub) :=
  fn_m F.fd sc_Ratio_sub (b_Ratio_sub B SE F_Ratio_top F_Turn_top F_Ratio_bottom F_Turn_bottom K_Ratio_2 f) r_Ratio_sub
theorem c_Ratio_sub {P : Program} {w : World} {K : Kx} {base : Heap} (B : Bi K.mg) (SE : Seer P base) {C f : Addr} {fd : FuncData} (F : MTop K "Ratio" "__sub__" "Ratio.__sub__" s_Ratio_sub [] C f fd) (F_Ratio_top : FldOk K "Ratio" "top") (F_Turn_top : FldOk K "Turn" "top") (F_Ratio_bottom : FldOk K "Ratio" "bottom") (F_Turn_bottom : FldOk K "Turn" "bottom") (K_Ratio_2 : MakOk P w K base 43 "Ratio" p_Ratio_init) : Cal P w K base 45 f p_Ratio_sub :=
  cal0 F.fd (fun us hl => match us, hl with | [_, _], _ => fun _ _ _ _ _ _ => rfl) (f_Ratio_sub B SE F F_Ratio_top F_Turn_top F_Ratio_bottom F_Turn_bottom K_Ratio_2)
theorem f_Ratio_mul {P : Program} {w : World} {K : Kx} {base : Heap} (B : Bi K.mg) (SE : Seer P base) {C f : Addr} {fd : FuncData} (F : MTop K "Ratio" "__mul__" "Ratio.__mul__" s_Ratio_mul [] C f fd) (I_Ratio_int : IsiOk K (.own "Ratio") (.bi "int") false) (I_int_int : IsiOk K (.bi "int") (.bi "int") true) (F_Ratio_top : FldOk K "Ratio" "top") (F_Turn_top : FldOk K "Turn" "top") (F_Ratio_bottom : FldOk K "Ratio" "bottom") (F_Turn_bottom : FldOk K "Turn" "bottom") (K_Ratio_2 : MakOk P w K base 43 "Ratio" p_Ratio_init) : EX.FnOk P w K.K K.mg base (L2.CX P w) 45 f fd ["self", "other"] (spX K p_Ratio_mul) :=
  fn_m F.fd sc_Ratio_mul (b_Ratio_mul B SE I_Ratio_int I_int_int F_Ratio_top F_Turn_top F_Ratio_bottom F_Turn_bottom K_Ratio_2 f) r_Ratio_mul
theorem c_Ratio_mul {P : Program} {w : World} {K : Kx} {base : Heap} (B : Bi K.mg) (SE : Seer P base) {C f : Addr} {fd : FuncData} (F : MTop K "Ratio" "__mul__" "Ratio.__mul__" s_Ratio_mul [] C f fd) (I_Ratio_int : IsiOk K (.own "Ratio") (.bi "int") false) (I_int_int : IsiOk K (.bi "int") (.bi "int") true) (F_Ratio_top : FldOk K "Ratio" "top") (F_Turn_top : FldOk K "Turn" "top") (F_Ratio_bottom : FldOk K "Ratio" "bottom") (F_Turn_bottom : FldOk K "Turn" "bottom") (K_Ratio_2 : MakOk P w K base 43 "Ratio" p_Ratio_init) : Cal P w K base 45 f p_Ratio_mul :=
  cal0 F.fd (fun us hl => match us, hl with | [_, _], _ => fun _ _ _ _ _ _ => rfl) (f_Ratio_mul B SE F I_Ratio_int I_int_int F_Ratio_top F_Turn_top F_Ratio_bottom F_Turn_bottom K_Ratio_2)
theorem f_Ratio_neg {P : Program} {w : World} {K : Kx} {base : Heap} (B : Bi K.mg) (SE : Seer P base) {C f : Addr} {fd : FuncData} (F : MTop K "Ratio" "__neg__" "Ratio.__neg__" s_Ratio_neg [] C f fd) (F_Ratio_top : FldOk K "Ratio" "top") (F_Turn_top : FldOk K "Turn" "top") (F_Ratio_bottom : FldOk K "Ratio" "bottom") (F_Turn_bottom : FldOk K "Turn" "bottom") (K_Ratio_2 : MakOk P w K base 43 "Ratio" p_Ratio_init) : EX.FnOk P w K.K K.mg base (L2.CX P w) 45 f fd ["self"] (spX K p_Ratio_neg) :=
  fn_m F.fd sc_Ratio_neg (b_Ratio_neg B SE F_Ratio_top F_Turn_top F_Ratio_bottom F_Turn_bottom K_Ratio_2 f) r_Ratio_neg
theorem c_Ratio_neg {P : Program} {w : World} {K : Kx} {base : Heap} (B : Bi K.mg) (SE : Seer P base) {C f : Addr} {fd : FuncData} (F : MTop K "Ratio" "__neg__" "Ratio.__neg__" s_Ratio_neg [] C f fd) (F_Ratio_top : FldOk K "Ratio" "top") (F_Turn_top : FldOk K "Turn" "top") (F_Ratio_bottom : FldOk K "Ratio" "bottom") (F_Turn_bottom : FldOk K "Turn" "bottom") (K_Ratio_2 : MakOk P w K base 43 "Ratio" p_Ratio_init) : Cal P w K base 45 f p_Ratio_neg :=
  cal0 F.fd (fun us hl => match us, hl with | [_], _ => fun _ _ _ _ _ _ => rfl) (f_Ratio_neg B SE F F_Ratio_top F_Turn_top F_Ratio_bottom F_Turn_bottom K_Ratio_2)
theorem f_Ratio_eq {P : Program} {w : World} {K : Kx} {base : Heap} (B : Bi K.mg) (SE : Seer P base) {C f : Addr} {fd : FuncData} (F : MTop K "Ratio" "__eq__" "Ratio.__eq__" s_Ratio_eq [] C f fd) {C_Ratio : Addr} (mg_Ratio : K.mg "Ratio" = some (.ref C_Ratio)) (I_Ratio_Ratio : IsiOk K (.own "Ratio") (.own "Ratio") true) (I_Turn_Ratio : IsiOk K (.own "Turn") (.own "Ratio") false) (I_tuple_Ratio : IsiOk K (.bi "tuple") (.own "Ratio") false) (I_list_Ratio : IsiOk K (.bi "list") (.own "Ratio") false) (I_str_Ratio : IsiOk K (.bi "str") (.own "Ratio") false) (I_int_Ratio : IsiOk K (.bi "int") (.own "Ratio") false) (I_bool_Ratio : IsiOk K (.bi "bool") (.own "Ratio") false) (I_NoneType_Ratio : IsiOk K (.bi "NoneType") (.own "Ratio") false) (F_Ratio_top : FldOk K "Ratio" "top") (F_Turn_top : FldOk K "Turn" "top") (F_Ratio_bottom : FldOk K "Ratio" "bottom") (F_Turn_bottom : FldOk K "Turn" "bottom") : EX.FnOk P w K.K K.mg base (L2.CX P w) 2 f fd ["self", "other"] (spX K p_Ratio_eq) :=
  fn_m F.fd sc_Ratio_eq (b_Ratio_eq B SE mg_Ratio I_Ratio_Ratio I_Turn_Ratio I_tuple_Ratio I_list_Ratio I_str_Ratio I_int_Ratio I_bool_Ratio I_NoneType_Ratio F_Ratio_top F_Turn_top F_Ratio_bottom F_Turn_bottom f) r_Ratio_eq
theorem c_Ratio_eq {P : Program} {w : World} {K : Kx} {base : Heap} (B : Bi K.mg) (SE : Seer P base) {C f : Addr} {fd : FuncData} (F : MTop K "Ratio" "__eq__" "Ratio.__eq__" s_Ratio_eq [] C f fd) {C_Ratio : Addr} (mg_Ratio : K.mg "Ratio" = some (.ref C_Ratio)) (I_Ratio_Ratio : IsiOk K (.own "Ratio") (.own "Ratio") true) (I_Turn_Ratio : IsiOk K (.own "Turn") (.own "Ratio") false) (I_tuple_Ratio : IsiOk K (.bi "tuple") (.own "Ratio") false) (I_list_Ratio : IsiOk K (.bi "list") (.own "Ratio") false) (I_str_Ratio : IsiOk K (.bi "str") (.own "Ratio") false) (I_int_Ratio : IsiOk K (.bi "int") (.own "Ratio") false) (I_bool_Ratio : IsiOk K (.bi "bool") (.own "Ratio") false) (I_NoneType_Ratio : IsiOk K (.bi "NoneType") (.own "Ratio") false) (F_Ratio_top : FldOk K "Ratio" "top") (F_Turn_top : FldOk K "Turn" "top") (F_Ratio_bottom : FldOk K "Ratio" "bottom") (F_Turn_bottom : FldOk K "Turn" "bottom") : Cal P w K base 2 f p_Ratio_eq :=
  cal0 F.fd (fun us hl => match us, hl with | [_, _], _ => fun _ _ _ _ _ _ => rfl) (f_Ratio_eq B SE F mg_Ratio I_Ratio_Ratio I_Turn_Ratio I_tuple_Ratio I_list_Ratio I_str_Ratio I_int_Ratio I_bool_Ratio I_NoneType_Ratio F_Ratio_top F_Turn_top F_Ratio_bottom F_Turn_bottom)
theorem f_Ratio_bool {P : Program} {w : World} {K : Kx} {base : Heap} (B : Bi K.mg) (SE : Seer P base) {C f : Addr} {fd : FuncData} (F : MTop K "Ratio" "__bool__" "Ratio.__bool__" s_Ratio_bool [] C f fd) (F_Ratio_top : FldOk K "Ratio" "top") (F_Turn_top : FldOk K "Turn" "top") : EX.FnOk P w K.K K.mg base (L2.CX P w) 2 f fd ["self"] (spX K p_Ratio_bool) :=
  fn_m F.fd sc_Ratio_bool (b_Ratio_bool B SE F_Ratio_top F_Turn_top f) r_Ratio_bool
theorem c_Ratio_bool {P : Program} {w : World} {K : Kx} {base : Heap} (B : Bi K.mg) (SE : Seer P base) {C f : Addr} {fd : FuncData} (F : MTop K "Ratio" "__bool__" "Ratio.__bool__" s_Ratio_bool [] C f fd) (F_Ratio_top : FldOk K "Ratio" "top") (F_Turn_top : FldOk K "Turn" "top") : Cal P w K base 2 f p_Ratio_bool :=
  cal0 F.fd (fun us hl => match us, hl with | [_], _ => fun _ _ _ _ _ _ => rfl) (f_Ratio_bool B SE F F_Ratio_top F_Turn_top)
theorem f_Ratio_under {P : Program} {w : World} {K : Kx} {base : Heap} (B : Bi K.mg) (SE : Seer P base) {C f : Addr} {fd : FuncData} (F : MTop K "Ratio" "under" "Ratio.under" s_Ratio_under [] C f fd) (F_Ratio_top : FldOk K "Ratio" "top") (F_Turn_top : FldOk K "Turn" "top") (F_Ratio_bottom : FldOk K "Ratio" "bottom") (F_Turn_bottom : FldOk K "Turn" "bottom") : EX.FnOk P w K.K K.mg base (L2.CX P w) 2 f fd ["self", "other"] (spX K p_Ratio_under) :=
  fn_m F.fd sc_Ratio_under (b_Ratio_under B SE F_Ratio_top F_Turn_top F_Ratio_bottom F_Turn_bottom f) r_Ratio_under
theorem c_Ratio_under {P : Program} {w : World} {K : Kx} {base : Heap} (B : Bi K.mg) (SE : Seer P base) {C f : Addr} {fd : FuncData} (F : MTop K "Ratio" "under" "Ratio.under" s_Ratio_under [] C f fd) (F_Ratio_top : FldOk K "Ratio" "top") (F_Turn_top : FldOk K "Turn" "top") (F_Ratio_bottom : FldOk K "Ratio" "bottom") (F_Turn_bottom : FldOk K "Turn" "bottom") : Cal P w K base 2 f p_Ratio_under :=
  cal0 F.fd (fun us hl => match us, hl with | [_, _], _ => fun _ _ _ _ _ _ => rfl) (f_Ratio_under B SE F F_Ratio_top F_Turn_top F_Ratio_bottom F_Turn_bottom)
theorem kc_Ratio_under {P : Program} {w : World} {K : Kx} {base : Heap} (B : Bi K.mg) (SE : Seer P base) {C f : Addr} {fd : FuncData} (F : MTop K "Ratio" "under" "Ratio.under" s_Ratio_under [] C f fd) (F_Ratio_top : FldOk K "Ratio" "top") (F_Turn_top : FldOk K "Turn" "top") (F_Ratio_bottom : FldOk K "Ratio" "bottom") (F_Turn_bottom : FldOk K "Turn" "bottom") : KCal P w K base 2 f 1 ["other"] (permS [0, 1] p_Ratio_under) :=
  kcalP [0, 1] F.fd (fun us ws h1 h2 => match us, h1, ws, h2 with | [_], _, [_], _ => fun _ _ _ _ _ _ => rfl) (f_Ratio_under B SE F F_Ratio_top F_Turn_top F_Ratio_bottom F_Turn_bottom)
theorem f_Ratio_over {P : Program} {w : World} {K : Kx} {base : Heap} (B : Bi K.mg) (SE : Seer P base) {C f : Addr} {fd : FuncData} (F : MTop K "Ratio" "over" "Ratio.over" s_Ratio_over [] C f fd) (F_Ratio_top : FldOk K "Ratio" "top") (F_Turn_top : FldOk K "Turn" "top") (F_Ratio_bottom : FldOk K "Ratio" "bottom") (F_Turn_bottom : FldOk K "Turn" "bottom") (K_Ratio_2 : MakOk P w K base 43 "Ratio" p_Ratio_init) : EX.FnOk P w K.K K.mg base (L2.CX P w) 45 f fd ["self", "other"] (spX K p_Ratio_over) :=
  fn_m F.fd sc_Ratio_over (b_Ratio_over B SE F_Ratio_top F_Turn_top F_Ratio_bottom F_Turn_bottom K_Ratio_2 f) r_Ratio_over
theorem c_Ratio_over {P : Program} {w : World} {K : Kx} {base : Heap} (B : Bi K.mg) (SE : Seer P base) {C f : Addr} {fd : FuncData} (F : MTop K "Ratio" "over" "Ratio.over" s_Ratio_over [] C f fd) (F_Ratio_top : FldOk K "Ratio" "top") (F_Turn_top : FldOk K "Turn" "top") (F_Ratio_bottom : FldOk K "Ratio" "bottom") (F_Turn_bottom : FldOk K "Turn" "bottom") (K_Ratio_2 : MakOk P w K base 43 "Ratio" p_Ratio_init) : Cal P w K base 45 f p_Ratio_over :=
  cal0 F.fd (fun us hl => match us, hl with | [_, _], _ => fun _ _ _ _ _ _ => rfl) (f_Ratio_over B SE F F_Ratio_top F_Turn_top F_Ratio_bottom F_Turn_bottom K_Ratio_2)
theorem kc_Ratio_over {P : Program} {w : World} {K : Kx} {base : Heap} (B : Bi K.mg) (SE : Seer P base) {C f : Addr} {fd : FuncData} (F : MTop K "Ratio" "over" "Ratio.over" s_Ratio_over [] C f fd) (F_Ratio_top : FldOk K "Ratio" "top") (F_Turn_top : FldOk K "Turn" "top") (F_Ratio_bottom : FldOk K "Ratio" "bottom") (F_Turn_bottom : FldOk K "Turn" "bottom") (K_Ratio_2 : MakOk P w K base 43 "Ratio" p_Ratio_init) : KCal P w K base 45 f 1 ["other"] (permS [0, 1] p_Ratio_over) :=
  kcalP [0, 1] F.fd (fun us ws h1 h2 => match us, h1, ws, h2 with | [_], _, [_], _ => fun _ _ _ _ _ _ => rfl) (f_Ratio_over B SE F F_Ratio_top F_Turn_top F_Ratio_bottom F_Turn_bottom K_Ratio_2)
theorem f_Ratio_str {P : Program} {w : World} {K : Kx} {base : Heap} (B : Bi K.mg) (SE : Seer P base) {C f : Addr} {fd : FuncData} (F : MTop K "Ratio" "__str__" "Ratio.__str__" s_Ratio_str [] C f fd) (F_Ratio_bottom : FldOk K "Ratio" "bottom") (F_Turn_bottom : FldOk K "Turn" "bottom") (F_Ratio_top : FldOk K "Ratio" "top") (F_Turn_top : FldOk K "Turn" "top") : EX.FnOk P w K.K K.mg base (L2.CX P w) 2 f fd ["self"] (spX K p_Ratio_str) :=
  fn_m F.fd sc_Ratio_str (b_Ratio_str B SE F_Ratio_bottom F_Turn_bottom F_Ratio_top F_Turn_top f) r_Ratio_str
theorem c_Ratio_str {P : Program} {w : World} {K : Kx} {base : Heap} (B : Bi K.mg) (SE : Seer P base) {C f : Addr} {fd : FuncData} (F : MTop K "Ratio" "__str__" "Ratio.__str__" s_Ratio_str [] C f fd) (F_Ratio_bottom : FldOk K "Ratio" "bottom") (F_Turn_bottom : FldOk K "Turn" "bottom") (F_Ratio_top : FldOk K "Ratio" "top") (F_Turn_top : FldOk K "Turn" "top") : Cal P w K base 2 f p_Ratio_str :=
  cal0 F.fd (fun us hl => match us, hl with | [_], _ => fun _ _ _ _ _ _ => rfl) (f_Ratio_str B SE F F_Ratio_bottom F_Turn_bottom F_Ratio_top F_Turn_top)
theorem fB_Ratio_repr {P : Program} {w : World} {K : Kx} {base : Heap} (B : Bi K.mg) (SE : Seer P base) {C f : Addr} {fd : FuncData} (F : MTop K "Ratio" "__repr__" "Ratio.__repr__" s_Ratio_repr [] C f fd) (F_Ratio_top : FldOk K "Ratio" "top") (F_Turn_top : FldOk K "Turn" "top") (F_Ratio_bottom : FldOk K "Ratio" "bottom") (F_Turn_bottom : FldOk K "Turn" "bottom") : L2.FnOk P w K.K K.mg base (L2.CX P w) 2 f fd ["self"] (spX K p_Ratio_repr) :=
  fn_mB F.fd sc_Ratio_repr (b_Ratio_repr B SE F_Ratio_top F_Turn_top F_Ratio_bottom F_Turn_bottom f) r_Ratio_repr
theorem f_Ratio_repr {P : Program} {w : World} {K : Kx} {base : Heap} (B : Bi K.mg) (SE : Seer P base) {C f : Addr} {fd : FuncData} (F : MTop K "Ratio" "__repr__" "Ratio.__repr__" s_Ratio_repr [] C f fd) (F_Ratio_top : FldOk K "Ratio" "top") (F_Turn_top : FldOk K "Turn" "top") (F_Ratio_bottom : FldOk K "Ratio" "bottom") (F_Turn_bottom : FldOk K "Turn" "bottom") : EX.FnOk P w K.K K.mg base (L2.CX P w) 2 f fd ["self"] (spX K p_Ratio_repr) :=
  FnOk.of2 (fB_Ratio_repr B SE F F_Ratio_top F_Turn_top F_Ratio_bottom F_Turn_bottom)
theorem cB_Ratio_repr {P : Program} {w : World} {K : Kx} {base : Heap} (B : Bi K.mg) (SE : Seer P base) {C f : Addr} {fd : FuncData} (F : MTop K "Ratio" "__repr__" "Ratio.__repr__" s_Ratio_repr [] C f fd) (F_Ratio_top : FldOk K "Ratio" "top") (F_Turn_top : FldOk K "Turn" "top") (F_Ratio_bottom : FldOk K "Ratio" "bottom") (F_Turn_bottom : FldOk K "Turn" "bottom") : CalB P w K base 2 f p_Ratio_repr :=
  calB F.fd (fun us hl => match us, hl with | [_], _ => fun _ _ _ _ _ _ => rfl) (fB_Ratio_repr B SE F F_Ratio_top F_Turn_top F_Ratio_bottom F_Turn_bottom)
theorem c_Ratio_repr {P : Program} {w : World} {K : Kx} {base : Heap} (B : Bi K.mg) (SE : Seer P base) {C f : Addr} {fd : FuncData} (F : MTop K "Ratio" "__repr__" "Ratio.__repr__" s_Ratio_repr [] C f fd) (F_Ratio_top : FldOk K "Ratio" "top") (F_Turn_top : FldOk K "Turn" "top") (F_Ratio_bottom : FldOk K "Ratio" "bottom") (F_Turn_bottom : FldOk K "Turn" "bottom") : Cal P w K base 2 f p_Ratio_repr :=
  cal0 F.fd (fun us hl => match us, hl with | [_], _ => fun _ _ _ _ _ _ => rfl) (f_Ratio_repr B SE F F_Ratio_top F_Turn_top F_Ratio_bottom F_Turn_bottom)
theorem d_canonical {P : Program} {w : World} {K : Kx} {base : Heap} (B : Bi K.mg) (SE : Seer P base) (F : Top K "canonical" s_canonical)  : Def P w K base "canonical" s_canonical 2 ["step"] p_canonical :=
  Def.mk' F sc_canonical (fun us hl => match us, hl with | [_], _ => fun _ _ _ _ _ _ => rfl) (b_canonical B SE ) r_canonical
theorem d_step_between {P : Program} {w : World} {K : Kx} {base : Heap} (B : Bi K.mg) (SE : Seer P base) (F : Top K "step_between" s_step_between)  : Def P w K base "step_between" s_step_between 2 ["place", "other"] p_step_between :=
  Def.mk' F sc_step_between (fun us hl => match us, hl with | [_, _], _ => fun _ _ _ _ _ _ => rfl) (b_step_between B SE ) r_step_between
theorem f_Turn_init {P : Program} {w : World} {K : Kx} {base : Heap} (B : Bi K.mg) (SE : Seer P base) {C f : Addr} {fd : FuncData} (F : MTop K "Turn" "__init__" "Turn.__init__" s_Turn_init [.int 1] C f fd) (Dlowest : Def P w K base "lowest" s_lowest 42 ["top", "bottom"] p_lowest) (Dneed_parts : Def P w K base "need_parts" s_need_parts 3 ["top", "bottom"] p_need_parts) (F_Turn_top : FldOk K "Turn" "top") (F_Ratio_top : FldOk K "Ratio" "top") (F_Turn_bottom : FldOk K "Turn" "bottom") (F_Ratio_bottom : FldOk K "Ratio" "bottom") : EX.FnOk P w K.K K.mg base (L2.CX P w) 43 f fd ["self", "top", "bottom"] (spX K p_Turn_init) :=
  fn_m F.fd sc_Turn_init (b_Turn_init B SE Dlowest Dneed_parts F_Turn_top F_Ratio_top F_Turn_bottom F_Ratio_bottom f) r_Turn_init
theorem c_Turn_init_2 {P : Program} {w : World} {K : Kx} {base : Heap} (B : Bi K.mg) (SE : Seer P base) {C f : Addr} {fd : FuncData} (F : MTop K "Turn" "__init__" "Turn.__init__" s_Turn_init [.int 1] C f fd) (Dlowest : Def P w K base "lowest" s_lowest 42 ["top", "bottom"] p_lowest) (Dneed_parts : Def P w K base "need_parts" s_need_parts 3 ["top", "bottom"] p_need_parts) (F_Turn_top : FldOk K "Turn" "top") (F_Ratio_top : FldOk K "Ratio" "top") (F_Turn_bottom : FldOk K "Turn" "bottom") (F_Ratio_bottom : FldOk K "Ratio" "bottom") : Cal P w K base 43 f (dfl [.int 1] p_Turn_init) :=
  calD 2 0 F.fd (by simp) rfl (fun us its h1 h2 => match us, h1, its, h2 with | [_, _], _, [_], _ => fun _ _ _ _ _ _ _ => ⟨_, rfl, rfl⟩) (fun _ => .cons (.int _) (.nil)) (f_Turn_init B SE F Dlowest Dneed_parts F_Turn_top F_Ratio_top F_Turn_bottom F_Ratio_bottom)
theorem c_Turn_init_3 {P : Program} {w : World} {K : Kx} {base : Heap} (B : Bi K.mg) (SE : Seer P base) {C f : Addr} {fd : FuncData} (F : MTop K "Turn" "__init__" "Turn.__init__" s_Turn_init [.int 1] C f fd) (Dlowest : Def P w K base "lowest" s_lowest 42 ["top", "bottom"] p_lowest) (Dneed_parts : Def P w K base "need_parts" s_need_parts 3 ["top", "bottom"] p_need_parts) (F_Turn_top : FldOk K "Turn" "top") (F_Ratio_top : FldOk K "Ratio" "top") (F_Turn_bottom : FldOk K "Turn" "bottom") (F_Ratio_bottom : FldOk K "Ratio" "bottom") : Cal P w K base 43 f (dfl [] p_Turn_init) :=
  calD 3 1 F.fd (by simp) rfl (fun us its h1 h2 => match us, h1, its, h2 with | [_, _, _], _, [_], _ => fun _ _ _ _ _ _ _ => ⟨_, rfl, rfl⟩) (fun _ => .nil) (f_Turn_init B SE F Dlowest Dneed_parts F_Turn_top F_Ratio_top F_Turn_bottom F_Ratio_bottom)
theorem d__law_pen {P : Program} {w : World} {K : Kx} {base : Heap} (B : Bi K.mg) (SE : Seer P base) (F : Top K "_law_pen" s__law_pen)  : Def P w K base "_law_pen" s__law_pen 2 ["script"] p__law_pen :=
  Def.mk' F sc__law_pen (fun us hl => match us, hl with | [_], _ => fun _ _ _ _ _ _ => rfl) (b__law_pen B SE ) r__law_pen
theorem d__law_draw {P : Program} {w : World} {K : Kx} {base : Heap} (B : Bi K.mg) (SE : Seer P base) (F : Top K "_law_draw" s__law_draw)  : Def P w K base "_law_draw" s__law_draw 42 ["pen", "bound"] p__law_draw :=
  Def.mk' F sc__law_draw (fun us hl => match us, hl with | [_, _], _ => fun _ _ _ _ _ _ => rfl) (b__law_draw B SE ) r__law_draw
theorem d__law_value {P : Program} {w : World} {K : Kx} {base : Heap} (B : Bi K.mg) (SE : Seer P base) (F : Top K "_law_value" s__law_value) (D_law_draw : Def P w K base "_law_draw" s__law_draw 42 ["pen", "bound"] p__law_draw) : Def P w K base "_law_value" s__law_value 43 ["pen"] p__law_value :=
  Def.mk' F sc__law_value (fun us hl => match us, hl with | [_], _ => fun _ _ _ _ _ _ => rfl) (b__law_value B SE D_law_draw) r__law_value
theorem d__law_classes {P : Program} {w : World} {K : Kx} {base : Heap} (B : Bi K.mg) (SE : Seer P base) (F : Top K "_law_classes" s__law_classes) {C_InvalidRatio : Addr} (mg_InvalidRatio : K.mg "InvalidRatio" = some (.ref C_InvalidRatio)) (IE : IsiTab K tabE) {C_InvalidArray : Addr} (mg_InvalidArray : K.mg "InvalidArray" = some (.ref C_InvalidArray)) {C_InvalidReading : Addr} (mg_InvalidReading : K.mg "InvalidReading" = some (.ref C_InvalidReading)) {C_InvalidSum : Addr} (mg_InvalidSum : K.mg "InvalidSum" = some (.ref C_InvalidSum)) {C_InvalidTimes : Addr} (mg_InvalidTimes : K.mg "InvalidTimes" = some (.ref C_InvalidTimes)) {C_InvalidTable : Addr} (mg_InvalidTable : K.mg "InvalidTable" = some (.ref C_InvalidTable)) {C_NoSuchSetting : Addr} (mg_NoSuchSetting : K.mg "NoSuchSetting" = some (.ref C_NoSuchSetting)) {C_Free : Addr} (mg_Free : K.mg "Free" = some (.ref C_Free)) {C_InvalidLimit : Addr} (mg_InvalidLimit : K.mg "InvalidLimit" = some (.ref C_InvalidLimit)) {C_UnknownName : Addr} (mg_UnknownName : K.mg "UnknownName" = some (.ref C_UnknownName)) {C_NothingToUndo : Addr} (mg_NothingToUndo : K.mg "NothingToUndo" = some (.ref C_NothingToUndo)) {C_UnknownCommand : Addr} (mg_UnknownCommand : K.mg "UnknownCommand" = some (.ref C_UnknownCommand)) {C_NoStation : Addr} (mg_NoStation : K.mg "NoStation" = some (.ref C_NoStation)) {C_NoReading : Addr} (mg_NoReading : K.mg "NoReading" = some (.ref C_NoReading)) {C_NoFit : Addr} (mg_NoFit : K.mg "NoFit" = some (.ref C_NoFit)) {C_TooMany : Addr} (mg_TooMany : K.mg "TooMany" = some (.ref C_TooMany)) {C_Full : Addr} (mg_Full : K.mg "Full" = some (.ref C_Full)) {C_InvalidText : Addr} (mg_InvalidText : K.mg "InvalidText" = some (.ref C_InvalidText)) : Def P w K base "_law_classes" s__law_classes 2 ["error"] p__law_classes :=
  Def.mk' F sc__law_classes (fun us hl => match us, hl with | [_], _ => fun _ _ _ _ _ _ => rfl) (b__law_classes B SE mg_InvalidRatio IE mg_InvalidArray mg_InvalidReading mg_InvalidSum mg_InvalidTimes mg_InvalidTable mg_NoSuchSetting mg_Free mg_InvalidLimit mg_UnknownName mg_NothingToUndo mg_UnknownCommand mg_NoStation mg_NoReading mg_NoFit mg_TooMany mg_Full mg_InvalidText) r__law_classes
theorem d__law_plain {P : Program} {w : World} {K : Kx} {base : Heap} (B : Bi K.mg) (SE : Seer P base) (F : Top K "_law_plain" s__law_plain) (X_InvalidRatio : ExcP K "InvalidRatio") (X_InvalidArray : ExcP K "InvalidArray") (X_InvalidReading : ExcP K "InvalidReading") (X_InvalidSum : ExcP K "InvalidSum") (X_InvalidTimes : ExcP K "InvalidTimes") (X_InvalidTable : ExcP K "InvalidTable") (X_NoSuchSetting : ExcP K "NoSuchSetting") (X_Free : ExcP K "Free") (X_InvalidLimit : ExcP K "InvalidLimit") (X_UnknownName : ExcP K "UnknownName") (X_NothingToUndo : ExcP K "NothingToUndo") (X_UnknownCommand : ExcP K "UnknownCommand") : Def P w K base "_law_plain" s__law_plain 2 [] p__law_plain :=
  Def.mk' F sc__law_plain (fun us hl => match us, hl with | [], _ => fun _ _ _ _ _ _ => rfl) (b__law_plain B SE X_InvalidRatio X_InvalidArray X_InvalidReading X_InvalidSum X_InvalidTimes X_InvalidTable X_NoSuchSetting X_Free X_InvalidLimit X_UnknownName X_NothingToUndo X_UnknownCommand) r__law_plain
theorem d__law_by_place {P : Program} {w : World} {K : Kx} {base : Heap} (B : Bi K.mg) (SE : Seer P base) (F : Top K "_law_by_place" s__law_by_place) (XS_NoStation : ExcS P K "NoStation" "name" "name") (XS_NoReading : ExcS P K "NoReading" "number" "number") (XS_NoFit : ExcS P K "NoFit" "times" "times") (XS_TooMany : ExcS P K "TooMany" "many" "many") (XS_Full : ExcS P K "Full" "most" "most") (XS_InvalidText : ExcS P K "InvalidText" "line" "line") : Def P w K base "_law_by_place" s__law_by_place 3 ["one", "row", "count"] p__law_by_place :=
  Def.mk' F sc__law_by_place (fun us hl => match us, hl with | [_, _, _], _ => fun _ _ _ _ _ _ => rfl) (b__law_by_place B SE XS_NoStation XS_NoReading XS_NoFit XS_TooMany XS_Full XS_InvalidText) r__law_by_place
theorem d__law_by_name {P : Program} {w : World} {K : Kx} {base : Heap} (B : Bi K.mg) (SE : Seer P base) (F : Top K "_law_by_name" s__law_by_name) (XS_NoStation : ExcS P K "NoStation" "name" "name") (XS_NoReading : ExcS P K "NoReading" "number" "number") (XS_NoFit : ExcS P K "NoFit" "times" "times") (XS_TooMany : ExcS P K "TooMany" "many" "many") (XS_Full : ExcS P K "Full" "most" "most") (XS_InvalidText : ExcS P K "InvalidText" "line" "line") : Def P w K base "_law_by_name" s__law_by_name 3 ["one", "row", "count"] p__law_by_name :=
  Def.mk' F sc__law_by_name (fun us hl => match us, hl with | [_, _, _], _ => fun _ _ _ _ _ _ => rfl) (b__law_by_name B SE XS_NoStation XS_NoReading XS_NoFit XS_TooMany XS_Full XS_InvalidText) r__law_by_name
theorem d__law_fields {P : Program} {w : World} {K : Kx} {base : Heap} (B : Bi K.mg) (SE : Seer P base) (F : Top K "_law_fields" s__law_fields) (XF_NoStation_name : FldEOk K "NoStation" "name") (XF_NoReading_number : FldEOk K "NoReading" "number") (XF_NoFit_times : FldEOk K "NoFit" "times") (XF_TooMany_many : FldEOk K "TooMany" "many") (XF_Full_most : FldEOk K "Full" "most") (XF_InvalidText_line : FldEOk K "InvalidText" "line") : Def P w K base "_law_fields" s__law_fields 2 ["some"] p__law_fields :=
  Def.mk' F sc__law_fields (fun us hl => match us, hl with | [_], _ => fun _ _ _ _ _ _ => rfl) (b__law_fields B SE XF_NoStation_name XF_NoReading_number XF_NoFit_times XF_TooMany_many XF_Full_most XF_InvalidText_line) r__law_fields
theorem d__law_apart {P : Program} {w : World} {K : Kx} {base : Heap} (B : Bi K.mg) (SE : Seer P base) (F : Top K "_law_apart" s__law_apart) (D_law_classes : Def P w K base "_law_classes" s__law_classes 2 ["error"] p__law_classes) {C_TurnsError : Addr} (mg_TurnsError : K.mg "TurnsError" = some (.ref C_TurnsError)) (IE : IsiTab K tabE) (Z_ValueError : K.mg "ValueError" = none) : Def P w K base "_law_apart" s__law_apart 3 ["some"] p__law_apart :=
  Def.mk' F sc__law_apart (fun us hl => match us, hl with | [_], _ => fun _ _ _ _ _ _ => rfl) (b__law_apart B SE D_law_classes mg_TurnsError IE Z_ValueError) r__law_apart
theorem d__law_ask_one {P : Program} {w : World} {K : Kx} {base : Heap} (B : Bi K.mg) (SE : Seer P base) (F : Top K "_law_ask_one" s__law_ask_one) (D_law_apart : Def P w K base "_law_apart" s__law_apart 3 ["some"] p__law_apart) (D_law_by_name : Def P w K base "_law_by_name" s__law_by_name 3 ["one", "row", "count"] p__law_by_name) (D_law_by_place : Def P w K base "_law_by_place" s__law_by_place 3 ["one", "row", "count"] p__law_by_place) (D_law_draw : Def P w K base "_law_draw" s__law_draw 42 ["pen", "bound"] p__law_draw) (D_law_fields : Def P w K base "_law_fields" s__law_fields 2 ["some"] p__law_fields) (D_law_pen : Def P w K base "_law_pen" s__law_pen 2 ["script"] p__law_pen) (D_law_plain : Def P w K base "_law_plain" s__law_plain 2 [] p__law_plain) (D_law_value : Def P w K base "_law_value" s__law_value 43 ["pen"] p__law_value) (X_TurnsError : ExcP K "TurnsError") (Z_ValueError : K.mg "ValueError" = none) (IE : IsiTab K tabE) : Def P w K base "_law_ask_one" s__law_ask_one 44 ["script"] p__law_ask_one :=
  Def.mk' F sc__law_ask_one (fun us hl => match us, hl with | [_], _ => fun _ _ _ _ _ _ => rfl) (b__law_ask_one B SE D_law_apart D_law_by_name D_law_by_place D_law_draw D_law_fields D_law_pen D_law_plain D_law_value X_TurnsError Z_ValueError IE) r__law_ask_one
theorem d__law_place {P : Program} {w : World} {K : Kx} {base : Heap} (B : Bi K.mg) (SE : Seer P base) (F : Top K "_law_place" s__law_place) (D_law_draw : Def P w K base "_law_draw" s__law_draw 42 ["pen", "bound"] p__law_draw) : Def P w K base "_law_place" s__law_place 43 ["pen", "d"] p__law_place :=
  Def.mk' F sc__law_place (fun us hl => match us, hl with | [_, _], _ => fun _ _ _ _ _ _ => rfl) (b__law_place B SE D_law_draw) r__law_place
theorem d__law_pair {P : Program} {w : World} {K : Kx} {base : Heap} (B : Bi K.mg) (SE : Seer P base) (F : Top K "_law_pair" s__law_pair) (D_law_draw : Def P w K base "_law_draw" s__law_draw 42 ["pen", "bound"] p__law_draw) (D_law_place : Def P w K base "_law_place" s__law_place 43 ["pen", "d"] p__law_place) : Def P w K base "_law_pair" s__law_pair 44 ["pen"] p__law_pair :=
  Def.mk' F sc__law_pair (fun us hl => match us, hl with | [_], _ => fun _ _ _ _ _ _ => rfl) (b__law_pair B SE D_law_draw D_law_place) r__law_pair
theorem d__law_turned {P : Program} {w : World} {K : Kx} {base : Heap} (B : Bi K.mg) (SE : Seer P base) (F : Top K "_law_turned" s__law_turned)  : Def P w K base "_law_turned" s__law_turned 2 ["leap"] p__law_turned :=
  Def.mk' F sc__law_turned (fun us hl => match us, hl with | [_], _ => fun _ _ _ _ _ _ => rfl) (b__law_turned B SE ) r__law_turned
theorem d__law_between {P : Program} {w : World} {K : Kx} {base : Heap} (B : Bi K.mg) (SE : Seer P base) (F : Top K "_law_between" s__law_between)  : Def P w K base "_law_between" s__law_between 2 ["here", "there"] p__law_between :=
  Def.mk' F sc__law_between (fun us hl => match us, hl with | [_, _], _ => fun _ _ _ _ _ _ => rfl) (b__law_between B SE ) r__law_between
theorem d__law_is_step {P : Program} {w : World} {K : Kx} {base : Heap} (B : Bi K.mg) (SE : Seer P base) (F : Top K "_law_is_step" s__law_is_step)  : Def P w K base "_law_is_step" s__law_is_step 2 ["told", "due"] p__law_is_step :=
  Def.mk' F sc__law_is_step (fun us hl => match us, hl with | [_, _], _ => fun _ _ _ _ _ _ => rfl) (b__law_is_step B SE ) r__law_is_step
theorem d__law_right {P : Program} {w : World} {K : Kx} {base : Heap} (B : Bi K.mg) (SE : Seer P base) (F : Top K "_law_right" s__law_right) (D_law_between : Def P w K base "_law_between" s__law_between 2 ["here", "there"] p__law_between) (D_law_is_step : Def P w K base "_law_is_step" s__law_is_step 2 ["told", "due"] p__law_is_step) (D_law_turned : Def P w K base "_law_turned" s__law_turned 2 ["leap"] p__law_turned) (Dcanonical : Def P w K base "canonical" s_canonical 2 ["step"] p_canonical) (Dstep_between : Def P w K base "step_between" s_step_between 2 ["place", "other"] p_step_between) : Def P w K base "_law_right" s__law_right 3 ["here", "there"] p__law_right :=
  Def.mk' F sc__law_right (fun us hl => match us, hl with | [_, _], _ => fun _ _ _ _ _ _ => rfl) (b__law_right B SE D_law_between D_law_is_step D_law_turned Dcanonical Dstep_between) r__law_right
theorem d__law_ask_two {P : Program} {w : World} {K : Kx} {base : Heap} (B : Bi K.mg) (SE : Seer P base) (F : Top K "_law_ask_two" s__law_ask_two) (D_law_pair : Def P w K base "_law_pair" s__law_pair 44 ["pen"] p__law_pair) (D_law_pen : Def P w K base "_law_pen" s__law_pen 2 ["script"] p__law_pen) (D_law_right : Def P w K base "_law_right" s__law_right 3 ["here", "there"] p__law_right) : Def P w K base "_law_ask_two" s__law_ask_two 45 ["script"] p__law_ask_two :=
  Def.mk' F sc__law_ask_two (fun us hl => match us, hl with | [_], _ => fun _ _ _ _ _ _ => rfl) (b__law_ask_two B SE D_law_pair D_law_pen D_law_right) r__law_ask_two
theorem d__law_int {P : Program} {w : World} {K : Kx} {base : Heap} (B : Bi K.mg) (SE : Seer P base) (F : Top K "_law_int" s__law_int) (D_law_draw : Def P w K base "_law_draw" s__law_draw 42 ["pen", "bound"] p__law_draw) : Def P w K base "_law_int" s__law_int 43 ["pen", "groups"] p__law_int :=
  Def.mk' F sc__law_int (fun us hl => match us, hl with | [_, _], _ => fun _ _ _ _ _ _ => rfl) (b__law_int B SE D_law_draw) r__law_int
theorem d__law_divisor {P : Program} {w : World} {K : Kx} {base : Heap} (B : Bi K.mg) (SE : Seer P base) (F : Top K "_law_divisor" s__law_divisor)  : Def P w K base "_law_divisor" s__law_divisor 2 ["one", "other"] p__law_divisor :=
  Def.mk' F sc__law_divisor (fun us hl => match us, hl with | [_, _], _ => fun _ _ _ _ _ _ => rfl) (b__law_divisor B SE ) r__law_divisor
theorem d__law_refused {P : Program} {w : World} {K : Kx} {base : Heap} (B : Bi K.mg) (SE : Seer P base) (F : Top K "_law_refused" s__law_refused) {C_TurnsError : Addr} (mg_TurnsError : K.mg "TurnsError" = some (.ref C_TurnsError)) (XM_TurnsError_InvalidRatio : ExmOk K "TurnsError" "InvalidRatio" true) (K_Ratio_2 : MakOk P w K base 43 "Ratio" p_Ratio_init) {C_InvalidRatio : Addr} (mg_InvalidRatio : K.mg "InvalidRatio" = some (.ref C_InvalidRatio)) (I_InvalidRatio_InvalidRatio : IsiOk K (.own "InvalidRatio") (.own "InvalidRatio") true) : Def P w K base "_law_refused" s__law_refused 45 ["upper", "lower"] p__law_refused :=
  Def.mk' F sc__law_refused (fun us hl => match us, hl with | [_, _], _ => fun _ _ _ _ _ _ => rfl) (b__law_refused B SE mg_TurnsError XM_TurnsError_InvalidRatio K_Ratio_2 mg_InvalidRatio I_InvalidRatio_InvalidRatio) r__law_refused
theorem d__law_is_whole {P : Program} {w : World} {K : Kx} {base : Heap} (B : Bi K.mg) (SE : Seer P base) (F : Top K "_law_is_whole" s__law_is_whole)  : Def P w K base "_law_is_whole" s__law_is_whole 2 ["value"] p__law_is_whole :=
  Def.mk' F sc__law_is_whole (fun us hl => match us, hl with | [_], _ => fun _ _ _ _ _ _ => rfl) (b__law_is_whole B SE ) r__law_is_whole
theorem d__law_made_right {P : Program} {w : World} {K : Kx} {base : Heap} (B : Bi K.mg) (SE : Seer P base) (F : Top K "_law_made_right" s__law_made_right) (D_law_divisor : Def P w K base "_law_divisor" s__law_divisor 2 ["one", "other"] p__law_divisor) (D_law_is_whole : Def P w K base "_law_is_whole" s__law_is_whole 2 ["value"] p__law_is_whole) (K_Ratio_2 : MakOk P w K base 43 "Ratio" p_Ratio_init) (F_Ratio_top : FldOk K "Ratio" "top") (F_Turn_top : FldOk K "Turn" "top") (F_Ratio_bottom : FldOk K "Ratio" "bottom") (F_Turn_bottom : FldOk K "Turn" "bottom") (U_Ratio___str__ : UnOk P w K base 2 "__str__" "Ratio" p_Ratio_str) (U_Ratio___repr__ : UnOk P w K base 2 "__repr__" "Ratio" p_Ratio_repr) (KK_Ratio : MakKOk P w K base 43 "Ratio" 0 ["bottom", "top"] (permS [0, 2, 1] p_Ratio_init)) (U_Ratio___bool__ : UnOk P w K base 2 "__bool__" "Ratio" p_Ratio_bool) (K_Ratio_1 : MakOk P w K base 43 "Ratio" (dfl [.int 1] p_Ratio_init)) : Def P w K base "_law_made_right" s__law_made_right 45 ["upper", "lower"] p__law_made_right :=
  Def.mk' F sc__law_made_right (fun us hl => match us, hl with | [_, _], _ => fun _ _ _ _ _ _ => rfl) (b__law_made_right B SE D_law_divisor D_law_is_whole K_Ratio_2 F_Ratio_top F_Turn_top F_Ratio_bottom F_Turn_bottom U_Ratio___str__ U_Ratio___repr__ KK_Ratio U_Ratio___bool__ K_Ratio_1) r__law_made_right
theorem d__law_equal_right {P : Program} {w : World} {K : Kx} {base : Heap} (B : Bi K.mg) (SE : Seer P base) (F : Top K "_law_equal_right" s__law_equal_right) (D_law_draw : Def P w K base "_law_draw" s__law_draw 42 ["pen", "bound"] p__law_draw) (D_law_int : Def P w K base "_law_int" s__law_int 43 ["pen", "groups"] p__law_int) (K_Ratio_2 : MakOk P w K base 43 "Ratio" p_Ratio_init) (E_Ratio_Ratio : EqOk P w K base 2 "Ratio" (.own "Ratio") p_Ratio_eq) (U_Ratio___str__ : UnOk P w K base 2 "__str__" "Ratio" p_Ratio_str) (F_Ratio_top : FldOk K "Ratio" "top") (F_Turn_top : FldOk K "Turn" "top") (F_Ratio_bottom : FldOk K "Ratio" "bottom") (F_Turn_bottom : FldOk K "Turn" "bottom") (K_Turn_2 : MakOk P w K base 43 "Turn" p_Turn_init) (E_Ratio_Turn : EqOk P w K base 2 "Ratio" (.own "Turn") p_Ratio_eq) (E_Ratio_tuple : EqOk P w K base 2 "Ratio" (.bi "tuple") p_Ratio_eq) (E_Ratio_list : EqOk P w K base 2 "Ratio" (.bi "list") p_Ratio_eq) (E_Ratio_str : EqOk P w K base 2 "Ratio" (.bi "str") p_Ratio_eq) (E_Ratio_int : EqOk P w K base 2 "Ratio" (.bi "int") p_Ratio_eq) (E_Ratio_bool : EqOk P w K base 2 "Ratio" (.bi "bool") p_Ratio_eq) (E_Ratio_NoneType : EqOk P w K base 2 "Ratio" (.bi "NoneType") p_Ratio_eq) : Def P w K base "_law_equal_right" s__law_equal_right 45 ["pen", "upper", "lower"] p__law_equal_right :=
  Def.mk' F sc__law_equal_right (fun us hl => match us, hl with | [_, _, _], _ => fun _ _ _ _ _ _ => rfl) (b__law_equal_right B SE D_law_draw D_law_int K_Ratio_2 E_Ratio_Ratio U_Ratio___str__ F_Ratio_top F_Turn_top F_Ratio_bottom F_Turn_bottom K_Turn_2 E_Ratio_Turn E_Ratio_tuple E_Ratio_list E_Ratio_str E_Ratio_int E_Ratio_bool E_Ratio_NoneType) r__law_equal_right
theorem d__law_ask_three {P : Program} {w : World} {K : Kx} {base : Heap} (B : Bi K.mg) (SE : Seer P base) (F : Top K "_law_ask_three" s__law_ask_three) (D_law_draw : Def P w K base "_law_draw" s__law_draw 42 ["pen", "bound"] p__law_draw) (D_law_equal_right : Def P w K base "_law_equal_right" s__law_equal_right 45 ["pen", "upper", "lower"] p__law_equal_right) (D_law_int : Def P w K base "_law_int" s__law_int 43 ["pen", "groups"] p__law_int) (D_law_made_right : Def P w K base "_law_made_right" s__law_made_right 45 ["upper", "lower"] p__law_made_right) (D_law_pen : Def P w K base "_law_pen" s__law_pen 2 ["script"] p__law_pen) (D_law_refused : Def P w K base "_law_refused" s__law_refused 45 ["upper", "lower"] p__law_refused) (K_Ratio_1 : MakOk P w K base 43 "Ratio" (dfl [.int 1] p_Ratio_init)) (K_Turn_2 : MakOk P w K base 43 "Turn" p_Turn_init) : Def P w K base "_law_ask_three" s__law_ask_three 46 ["script"] p__law_ask_three :=
  Def.mk' F sc__law_ask_three (fun us hl => match us, hl with | [_], _ => fun _ _ _ _ _ _ => rfl) (b__law_ask_three B SE D_law_draw D_law_equal_right D_law_int D_law_made_right D_law_pen D_law_refused K_Ratio_1 K_Turn_2) r__law_ask_three
theorem d__law_divisor_four {P : Program} {w : World} {K : Kx} {base : Heap} (B : Bi K.mg) (SE : Seer P base) (F : Top K "_law_divisor_four" s__law_divisor_four)  : Def P w K base "_law_divisor_four" s__law_divisor_four 2 ["one", "mate"] p__law_divisor_four :=
  Def.mk' F sc__law_divisor_four (fun us hl => match us, hl with | [_, _], _ => fun _ _ _ _ _ _ => rfl) (b__law_divisor_four B SE ) r__law_divisor_four
theorem d__law_is {P : Program} {w : World} {K : Kx} {base : Heap} (B : Bi K.mg) (SE : Seer P base) (F : Top K "_law_is" s__law_is) (D_law_divisor_four : Def P w K base "_law_divisor_four" s__law_divisor_four 2 ["one", "mate"] p__law_divisor_four) {C_Ratio : Addr} (mg_Ratio : K.mg "Ratio" = some (.ref C_Ratio)) (I_Ratio_Ratio : IsiOk K (.own "Ratio") (.own "Ratio") true) (F_Ratio_bottom : FldOk K "Ratio" "bottom") (F_Turn_bottom : FldOk K "Turn" "bottom") (F_Ratio_top : FldOk K "Ratio" "top") (F_Turn_top : FldOk K "Turn" "top") : Def P w K base "_law_is" s__law_is 3 ["found", "top", "bottom"] p__law_is :=
  Def.mk' F sc__law_is (fun us hl => match us, hl with | [_, _, _], _ => fun _ _ _ _ _ _ => rfl) (b__law_is B SE D_law_divisor_four mg_Ratio I_Ratio_Ratio F_Ratio_bottom F_Turn_bottom F_Ratio_top F_Turn_top) r__law_is
theorem d__law_refused_four {P : Program} {w : World} {K : Kx} {base : Heap} (B : Bi K.mg) (SE : Seer P base) (F : Top K "_law_refused_four" s__law_refused_four) {C_TurnsError : Addr} (mg_TurnsError : K.mg "TurnsError" = some (.ref C_TurnsError)) (XM_TurnsError_InvalidRatio : ExmOk K "TurnsError" "InvalidRatio" true) (K_Ratio_1 : MakOk P w K base 43 "Ratio" (dfl [.int 1] p_Ratio_init)) (M_Ratio_over : MetOk P w K base 45 "over" "Ratio" p_Ratio_over) {C_InvalidRatio : Addr} (mg_InvalidRatio : K.mg "InvalidRatio" = some (.ref C_InvalidRatio)) (I_InvalidRatio_InvalidRatio : IsiOk K (.own "InvalidRatio") (.own "InvalidRatio") true) : Def P w K base "_law_refused_four" s__law_refused_four 46 ["one"] p__law_refused_four :=
  Def.mk' F sc__law_refused_four (fun us hl => match us, hl with | [_], _ => fun _ _ _ _ _ _ => rfl) (b__law_refused_four B SE mg_TurnsError XM_TurnsError_InvalidRatio K_Ratio_1 M_Ratio_over mg_InvalidRatio I_InvalidRatio_InvalidRatio) r__law_refused_four
theorem d__law_two_right {P : Program} {w : World} {K : Kx} {base : Heap} (B : Bi K.mg) (SE : Seer P base) (F : Top K "_law_two_right" s__law_two_right) (D_law_is : Def P w K base "_law_is" s__law_is 3 ["found", "top", "bottom"] p__law_is) (D_law_refused_four : Def P w K base "_law_refused_four" s__law_refused_four 46 ["one"] p__law_refused_four) (F_Ratio_top : FldOk K "Ratio" "top") (F_Turn_top : FldOk K "Turn" "top") (F_Ratio_bottom : FldOk K "Ratio" "bottom") (F_Turn_bottom : FldOk K "Turn" "bottom") (O_Ratio_Add_Ratio : BinOk P w K base 45 .Add "Ratio" (.own "Ratio") p_Ratio_add) (O_Ratio_Sub_Ratio : BinOk P w K base 45 .Sub "Ratio" (.own "Ratio") p_Ratio_sub) (O_Ratio_Mult_Ratio : BinOk P w K base 45 .Mult "Ratio" (.own "Ratio") p_Ratio_mul) (U_Ratio___neg__ : UnOk P w K base 45 "__neg__" "Ratio" p_Ratio_neg) (M_Ratio_under : MetOk P w K base 2 "under" "Ratio" p_Ratio_under) (MK_Ratio_under : MetKOk P w K base 2 "under" "Ratio" 0 ["other"] (permS [0, 1] p_Ratio_under)) (E_Ratio_Ratio : EqOk P w K base 2 "Ratio" (.own "Ratio") p_Ratio_eq) (U_Ratio___bool__ : UnOk P w K base 2 "__bool__" "Ratio" p_Ratio_bool) (M_Ratio_over : MetOk P w K base 45 "over" "Ratio" p_Ratio_over) (MK_Ratio_over : MetKOk P w K base 45 "over" "Ratio" 0 ["other"] (permS [0, 1] p_Ratio_over)) : Def P w K base "_law_two_right" s__law_two_right 47 ["one", "two"] p__law_two_right :=
  Def.mk' F sc__law_two_right (fun us hl => match us, hl with | [_, _], _ => fun _ _ _ _ _ _ => rfl) (b__law_two_right B SE D_law_is D_law_refused_four F_Ratio_top F_Turn_top F_Ratio_bottom F_Turn_bottom O_Ratio_Add_Ratio O_Ratio_Sub_Ratio O_Ratio_Mult_Ratio U_Ratio___neg__ M_Ratio_under MK_Ratio_under E_Ratio_Ratio U_Ratio___bool__ M_Ratio_over MK_Ratio_over) r__law_two_right
theorem d__law_three_right {P : Program} {w : World} {K : Kx} {base : Heap} (B : Bi K.mg) (SE : Seer P base) (F : Top K "_law_three_right" s__law_three_right) (D_law_is : Def P w K base "_law_is" s__law_is 3 ["found", "top", "bottom"] p__law_is) (E_Ratio_Ratio : EqOk P w K base 2 "Ratio" (.own "Ratio") p_Ratio_eq) (O_Ratio_Add_Ratio : BinOk P w K base 45 .Add "Ratio" (.own "Ratio") p_Ratio_add) (O_Ratio_Mult_Ratio : BinOk P w K base 45 .Mult "Ratio" (.own "Ratio") p_Ratio_mul) (O_Ratio_Sub_Ratio : BinOk P w K base 45 .Sub "Ratio" (.own "Ratio") p_Ratio_sub) (U_Ratio___neg__ : UnOk P w K base 45 "__neg__" "Ratio" p_Ratio_neg) (U_Ratio___bool__ : UnOk P w K base 2 "__bool__" "Ratio" p_Ratio_bool) (O_Ratio_Mult_int : BinOk P w K base 45 .Mult "Ratio" (.bi "int") p_Ratio_mul) (F_Ratio_top : FldOk K "Ratio" "top") (F_Turn_top : FldOk K "Turn" "top") (F_Ratio_bottom : FldOk K "Ratio" "bottom") (F_Turn_bottom : FldOk K "Turn" "bottom") (K_Ratio_1 : MakOk P w K base 43 "Ratio" (dfl [.int 1] p_Ratio_init)) (M_Ratio_under : MetOk P w K base 2 "under" "Ratio" p_Ratio_under) : Def P w K base "_law_three_right" s__law_three_right 46 ["one", "two", "three", "often"] p__law_three_right :=
  Def.mk' F sc__law_three_right (fun us hl => match us, hl with | [_, _, _, _], _ => fun _ _ _ _ _ _ => rfl) (b__law_three_right B SE D_law_is E_Ratio_Ratio O_Ratio_Add_Ratio O_Ratio_Mult_Ratio O_Ratio_Sub_Ratio U_Ratio___neg__ U_Ratio___bool__ O_Ratio_Mult_int F_Ratio_top F_Turn_top F_Ratio_bottom F_Turn_bottom K_Ratio_1 M_Ratio_under) r__law_three_right
theorem d__law_ask_four {P : Program} {w : World} {K : Kx} {base : Heap} (B : Bi K.mg) (SE : Seer P base) (F : Top K "_law_ask_four" s__law_ask_four) (D_law_draw : Def P w K base "_law_draw" s__law_draw 42 ["pen", "bound"] p__law_draw) (D_law_int : Def P w K base "_law_int" s__law_int 43 ["pen", "groups"] p__law_int) (D_law_pen : Def P w K base "_law_pen" s__law_pen 2 ["script"] p__law_pen) (D_law_three_right : Def P w K base "_law_three_right" s__law_three_right 46 ["one", "two", "three", "often"] p__law_three_right) (D_law_two_right : Def P w K base "_law_two_right" s__law_two_right 47 ["one", "two"] p__law_two_right) (K_Ratio_2 : MakOk P w K base 43 "Ratio" p_Ratio_init) (U_Ratio___neg__ : UnOk P w K base 45 "__neg__" "Ratio" p_Ratio_neg) (K_Ratio_1 : MakOk P w K base 43 "Ratio" (dfl [.int 1] p_Ratio_init)) (SB_Ratio : ShowB P w K base 2 "Ratio" p_Ratio_repr) : Def P w K base "_law_ask_four" s__law_ask_four 48 ["script"] p__law_ask_four :=
  Def.mk' F sc__law_ask_four (fun us hl => match us, hl with | [_], _ => fun _ _ _ _ _ _ => rfl) (b__law_ask_four B SE D_law_draw D_law_int D_law_pen D_law_three_right D_law_two_right K_Ratio_2 U_Ratio___neg__ K_Ratio_1 SB_Ratio) r__law_ask_four
theorem d_law {P : Program} {w : World} {K : Kx} {base : Heap} (B : Bi K.mg) (SE : Seer P base) (F : Top K "law" s_law) (D_law_ask_four : Def P w K base "_law_ask_four" s__law_ask_four 48 ["script"] p__law_ask_four) (D_law_ask_one : Def P w K base "_law_ask_one" s__law_ask_one 44 ["script"] p__law_ask_one) (D_law_ask_three : Def P w K base "_law_ask_three" s__law_ask_three 46 ["script"] p__law_ask_three) (D_law_ask_two : Def P w K base "_law_ask_two" s__law_ask_two 45 ["script"] p__law_ask_two) : Def P w K base "law" s_law 49 ["script"] p_law :=
  Def.mk' F sc_law (fun us hl => match us, hl with | [_], _ => fun _ _ _ _ _ _ => rfl) (b_law B SE D_law_ask_four D_law_ask_one D_law_ask_three D_law_ask_two) r_law
structure TopOk (K : PySem.W.Frag) (x : Str) (st : Stmt) : Prop where
  ex : ∃ (f : Addr) (oc : Value) (od : Option Addr) (kV dc pm : Value) (an : Option Addr) (cd ct : Value) (sl : Array (Option Value)), PySem.W.nsIn K mainGlobals x = some (some (.ref f)) ∧ K.lookup f = some ⟨oc, od, .func (PySem.W.fnOf x x (defArgs st) (defBody st) (defScope st) .none kV dc pm an cd ct), sl⟩ ∧ PySem.W.codeIn K cd x = true ∧ PySem.W.keepIn K (.ref f) = true
theorem topOk {K : PySem.W.Frag} {x : Str} {st : Stmt} {f : Addr} {oc kV dc pm cd ct : Value} {od an : Option Addr} {sl : Array (Option Value)} (a : PySem.W.nsIn K mainGlobals x = some (some (.ref f))) (l : K.lookup f = some ⟨oc, od, .func (PySem.W.fnOf x x (defArgs st) (defBody st) (defScope st) .none kV dc pm an cd ct), sl⟩) (c : PySem.W.codeIn K cd x = true) (k : PySem.W.keepIn K (.ref f) = true) : TopOk K x st := ⟨f, oc, od, kV, dc, pm, an, cd, ct, sl, a, l, c, k⟩
theorem TopOk.top {K : PySem.W.Frag} {x : Str} {st : Stmt} {h : Heap} {mg : Str → Option Value} (t : TopOk K x st) (X : K.In h) (G : h.Ns mainGlobals mg) : Top ⟨K, mg⟩ x st := by
  obtain ⟨f, oc, od, kV, dc, pm, an, cd, ct, sl, a, l, c, k⟩ := t.ex
  exact ⟨f, _, fun_mk (st := st) l c k, PySem.W.mg_of X G a⟩
/-- a method as it stands -/
structure MtOk (K : PySem.W.Frag) (C : Addr) (m qual : Str) (st : Stmt) (dvs : List V) : Prop where
  ex : ∃ (f : Addr) (fd : FuncData), PySem.W.findIn K (.ref C) m = some (some (.ref f)) ∧ PySem.W.isFn K (.ref f) = true ∧ FunD K m qual (defArgs st) (defBody st) (defScope st) dvs [] f fd
theorem MtOk.top {K : PySem.W.Frag} {C : Addr} {c m qual : Str} {st : Stmt} {dvs : List V} {mg : Str → Option Value} (t : MtOk K C m qual st dvs) (hn : mg c = some (.ref C)) (i : InsF K C) : ∃ f fd, MTop ⟨K, mg⟩ c m qual st dvs C f fd := by
  obtain ⟨f, fd, a, b, k⟩ := t.ex
  exact ⟨f, fd, hn, i, a, b, k⟩
theorem mtOk {K : PySem.W.Frag} {C : Addr} {m qual : Str} {st : Stmt} {f : Addr} {oc kV dc pm cd ct : Value} {od an : Option Addr} {sl : Array (Option Value)} (a : PySem.W.findIn K (.ref C) m = some (some (.ref f))) (l : K.lookup f = some ⟨oc, od, .func (PySem.W.fnOf m qual (defArgs st) (defBody st) (defScope st) .none kV dc pm an cd ct), sl⟩) (c : PySem.W.codeIn K cd qual = true) (i : PySem.W.isFn K (.ref f) = true) (k : PySem.W.keepIn K (.ref f) = true) : MtOk K C m qual st [] :=
  ⟨f, _, a, i, ⟨⟨oc, od, .none, kV, dc, pm, an, cd, ct, sl, rfl, l, c, .inl ⟨rfl, rfl⟩, .inl rfl⟩, k⟩⟩
/-- one default, a number -/
theorem mtOk1 {K : PySem.W.Frag} {C : Addr} {m qual : Str} {st : Stmt} {f T : Addr} {oc kV dc pm cd ct tc u : Value} {od an td : Option Addr} {sl tl : Array (Option Value)} {n : Nat} {v : V} (a : PySem.W.findIn K (.ref C) m = some (some (.ref f))) (l : K.lookup f = some ⟨oc, od, .func (PySem.W.fnOf m qual (defArgs st) (defBody st) (defScope st) (.ref T) kV dc pm an cd ct), sl⟩) (lt : K.lookup T = some ⟨tc, td, .seq #[u] n, tl⟩) (r : RelV v u) (c : PySem.W.codeIn K cd qual = true) (i : PySem.W.isFn K (.ref f) = true) (k : PySem.W.keepIn K (.ref f) = true) : MtOk K C m qual st [v] :=
  ⟨f, _, a, i, ⟨⟨oc, od, .ref T, kV, dc, pm, an, cd, ct, sl, rfl, l, c, .inr ⟨(by simp), T, _, [u], n, rfl, lt, rfl, .cons r .nil⟩, .inl rfl⟩, k⟩⟩
theorem isi_self {K : Kx} {c : Str} {C : Addr} (h : K.mg c = some (.ref C)) : IsiOk K (.own c) (.own c) true := ⟨_, _, ⟨C, h, rfl⟩, ⟨C, h, rfl⟩, by unfold PySem.W.kitOne; rw [if_pos (by simp)]⟩
theorem cal_nil {P : Program} {w : World} {K : Kx} {base : Heap} {k : Nat} {f : Addr} {sp : DFnX} (c : Cal P w K base k f (dfl [] sp)) : Cal P w K base k f sp := by
  obtain ⟨k', fd, ps, ds, dvs, dd, sp0, a, b, c, d, e, g⟩ := c.ex
  exact ⟨k', fd, ps, ds, dvs, dd, sp0, a, b, c, d, e, fun as M Φ Ψ q => g as M Φ Ψ (by show sp (as ++ []) M Φ Ψ; rw [List.append_nil]; exact q)⟩
theorem all_def {P : Program} {w : World} {K : PySem.W.Frag} {mg : Str → Option Value} {h : Heap} (X : K.In h) (G : h.Ns mainGlobals mg) (B : Bi mg) (base : Heap) (SE : Seer P base) (tis_integer : TopOk K "is_integer" s_is_integer) (tlowest : TopOk K "lowest" s_lowest) (tneed_parts : TopOk K "need_parts" s_need_parts) (tcanonical : TopOk K "canonical" s_canonical) (tstep_between : TopOk K "step_between" s_step_between) (t_law_pen : TopOk K "_law_pen" s__law_pen) (t_law_draw : TopOk K "_law_draw" s__law_draw) (t_law_value : TopOk K "_law_value" s__law_value) (t_law_classes : TopOk K "_law_classes" s__law_classes) (t_law_plain : TopOk K "_law_plain" s__law_plain) (t_law_by_place : TopOk K "_law_by_place" s__law_by_place) (t_law_by_name : TopOk K "_law_by_name" s__law_by_name) (t_law_fields : TopOk K "_law_fields" s__law_fields) (t_law_apart : TopOk K "_law_apart" s__law_apart) (t_law_ask_one : TopOk K "_law_ask_one" s__law_ask_one) (t_law_place : TopOk K "_law_place" s__law_place) (t_law_pair : TopOk K "_law_pair" s__law_pair) (t_law_turned : TopOk K "_law_turned" s__law_turned) (t_law_between : TopOk K "_law_between" s__law_between) (t_law_is_step : TopOk K "_law_is_step" s__law_is_step) (t_law_right : TopOk K "_law_right" s__law_right) (t_law_ask_two : TopOk K "_law_ask_two" s__law_ask_two) (t_law_int : TopOk K "_law_int" s__law_int) (t_law_divisor : TopOk K "_law_divisor" s__law_divisor) (t_law_refused : TopOk K "_law_refused" s__law_refused) (t_law_is_whole : TopOk K "_law_is_whole" s__law_is_whole) (t_law_made_right : TopOk K "_law_made_right" s__law_made_right) (t_law_equal_right : TopOk K "_law_equal_right" s__law_equal_right) (t_law_ask_three : TopOk K "_law_ask_three" s__law_ask_three) (t_law_divisor_four : TopOk K "_law_divisor_four" s__law_divisor_four) (t_law_is : TopOk K "_law_is" s__law_is) (t_law_refused_four : TopOk K "_law_refused_four" s__law_refused_four) (t_law_two_right : TopOk K "_law_two_right" s__law_two_right) (t_law_three_right : TopOk K "_law_three_right" s__law_three_right) (t_law_ask_four : TopOk K "_law_ask_four" s__law_ask_four) (tlaw : TopOk K "law" s_law) {C_Turn : Addr} (g_Turn : PySem.W.nsIn K mainGlobals "Turn" = some (some (.ref C_Turn))) (i_Turn : InsF K C_Turn) (y_Turn : PySem.W.makesIn K C_Turn = true) (kp_Turn : PySem.W.keepIn K (.ref C_Turn) = true) {C_Ratio : Addr} (g_Ratio : PySem.W.nsIn K mainGlobals "Ratio" = some (some (.ref C_Ratio))) (i_Ratio : InsF K C_Ratio) (y_Ratio : PySem.W.makesIn K C_Ratio = true) (kp_Ratio : PySem.W.keepIn K (.ref C_Ratio) = true) (q_Ratio : PySem.W.findIn K (.ref C_Ratio) "__ne__" = some (some (.builtin "object.__ne__"))) {fo ro : Option Value} (rm_Ratio : PySem.W.findIn K (.ref C_Ratio) "__rmul__" = some none) (im_a : PySem.W.findIn K (.type "int") "__mul__" = some fo) (im_b : PySem.W.findIn K (.type "int") "__rmul__" = some ro) (im_c : PySem.W.subIn K (.type "int") (.ref C_Ratio) = some false) {C_InvalidRatio : Addr} (g_InvalidRatio : PySem.W.nsIn K mainGlobals "InvalidRatio" = some (some (.ref C_InvalidRatio))) (e_InvalidRatio : excChk K C_InvalidRatio = true) {C_InvalidArray : Addr} (g_InvalidArray : PySem.W.nsIn K mainGlobals "InvalidArray" = some (some (.ref C_InvalidArray))) (e_InvalidArray : excChk K C_InvalidArray = true) {C_InvalidReading : Addr} (g_InvalidReading : PySem.W.nsIn K mainGlobals "InvalidReading" = some (some (.ref C_InvalidReading))) (e_InvalidReading : excChk K C_InvalidReading = true) {C_InvalidSum : Addr} (g_InvalidSum : PySem.W.nsIn K mainGlobals "InvalidSum" = some (some (.ref C_InvalidSum))) (e_InvalidSum : excChk K C_InvalidSum = true) {C_InvalidTimes : Addr} (g_InvalidTimes : PySem.W.nsIn K mainGlobals "InvalidTimes" = some (some (.ref C_InvalidTimes))) (e_InvalidTimes : excChk K C_InvalidTimes = true) {C_InvalidTable : Addr} (g_InvalidTable : PySem.W.nsIn K mainGlobals "InvalidTable" = some (some (.ref C_InvalidTable))) (e_InvalidTable : excChk K C_InvalidTable = true) {C_NoSuchSetting : Addr} (g_NoSuchSetting : PySem.W.nsIn K mainGlobals "NoSuchSetting" = some (some (.ref C_NoSuchSetting))) (e_NoSuchSetting : excChk K C_NoSuchSetting = true) {C_Free : Addr} (g_Free : PySem.W.nsIn K mainGlobals "Free" = some (some (.ref C_Free))) (e_Free : excChk K C_Free = true) {C_InvalidLimit : Addr} (g_InvalidLimit : PySem.W.nsIn K mainGlobals "InvalidLimit" = some (some (.ref C_InvalidLimit))) (e_InvalidLimit : excChk K C_InvalidLimit = true) {C_UnknownName : Addr} (g_UnknownName : PySem.W.nsIn K mainGlobals "UnknownName" = some (some (.ref C_UnknownName))) (e_UnknownName : excChk K C_UnknownName = true) {C_NothingToUndo : Addr} (g_NothingToUndo : PySem.W.nsIn K mainGlobals "NothingToUndo" = some (some (.ref C_NothingToUndo))) (e_NothingToUndo : excChk K C_NothingToUndo = true) {C_UnknownCommand : Addr} (g_UnknownCommand : PySem.W.nsIn K mainGlobals "UnknownCommand" = some (some (.ref C_UnknownCommand))) (e_UnknownCommand : excChk K C_UnknownCommand = true) {C_NoStation : Addr} (g_NoStation : PySem.W.nsIn K mainGlobals "NoStation" = some (some (.ref C_NoStation))) (e_NoStation : excChk K C_NoStation = true) {C_NoReading : Addr} (g_NoReading : PySem.W.nsIn K mainGlobals "NoReading" = some (some (.ref C_NoReading))) (e_NoReading : excChk K C_NoReading = true) {C_NoFit : Addr} (g_NoFit : PySem.W.nsIn K mainGlobals "NoFit" = some (some (.ref C_NoFit))) (e_NoFit : excChk K C_NoFit = true) {C_TooMany : Addr} (g_TooMany : PySem.W.nsIn K mainGlobals "TooMany" = some (some (.ref C_TooMany))) (e_TooMany : excChk K C_TooMany = true) {C_Full : Addr} (g_Full : PySem.W.nsIn K mainGlobals "Full" = some (some (.ref C_Full))) (e_Full : excChk K C_Full = true) {C_InvalidText : Addr} (g_InvalidText : PySem.W.nsIn K mainGlobals "InvalidText" = some (some (.ref C_InvalidText))) (e_InvalidText : excChk K C_InvalidText = true) {C_TurnsError : Addr} (g_TurnsError : PySem.W.nsIn K mainGlobals "TurnsError" = some (some (.ref C_TurnsError))) (e_TurnsError : excChk K C_TurnsError = true) (ep_InvalidRatio : excChkP K C_InvalidRatio = true) (ep_InvalidArray : excChkP K C_InvalidArray = true) (ep_InvalidReading : excChkP K C_InvalidReading = true) (ep_InvalidSum : excChkP K C_InvalidSum = true) (ep_InvalidTimes : excChkP K C_InvalidTimes = true) (ep_InvalidTable : excChkP K C_InvalidTable = true) (ep_NoSuchSetting : excChkP K C_NoSuchSetting = true) (ep_Free : excChkP K C_Free = true) (ep_InvalidLimit : excChkP K C_InvalidLimit = true) (ep_UnknownName : excChkP K C_UnknownName = true) (ep_NothingToUndo : excChkP K C_NothingToUndo = true) (ep_UnknownCommand : excChkP K C_UnknownCommand = true) (ep_TurnsError : excChkP K C_TurnsError = true) (sf_NoStation : SupFk P K C_NoStation s_NoStation_init "name" "name") (sf_NoReading : SupFk P K C_NoReading s_NoReading_init "number" "number") (sf_NoFit : SupFk P K C_NoFit s_NoFit_init "times" "times") (sf_TooMany : SupFk P K C_TooMany s_TooMany_init "many" "many") (sf_Full : SupFk P K C_Full s_Full_init "most" "most") (sf_InvalidText : SupFk P K C_InvalidText s_InvalidText_init "line" "line") (xm_TurnsError_InvalidRatio : exmChk K C_TurnsError C_InvalidRatio true = true) (xf_NoStation_name : PySem.W.findIn K (.ref C_NoStation) "name" = some none) (xf_NoReading_number : PySem.W.findIn K (.ref C_NoReading) "number" = some none) (xf_NoFit_times : PySem.W.findIn K (.ref C_NoFit) "times" = some none) (xf_TooMany_many : PySem.W.findIn K (.ref C_TooMany) "many" = some none) (xf_Full_most : PySem.W.findIn K (.ref C_Full) "most" = some none) (xf_InvalidText_line : PySem.W.findIn K (.ref C_InvalidText) "line" = some none) (hI_Turn_int : PySem.W.kitOne K (.ref C_Turn) (.type "int") = some false) (hI_Ratio_int : PySem.W.kitOne K (.ref C_Ratio) (.type "int") = some false) (hI_dict_int : PySem.W.kitOne K (.type "dict") (.type "int") = some false) (hI_tuple_int : PySem.W.kitOne K (.type "tuple") (.type "int") = some false) (hI_list_int : PySem.W.kitOne K (.type "list") (.type "int") = some false) (hI_str_int : PySem.W.kitOne K (.type "str") (.type "int") = some false) (hI_int_int : PySem.W.kitOne K (.type "int") (.type "int") = some true) (hI_bool_int : PySem.W.kitOne K (.type "bool") (.type "int") = some true) (hI_NoneType_int : PySem.W.kitOne K (.type "NoneType") (.type "int") = some false) (hI_Turn_bool : PySem.W.kitOne K (.ref C_Turn) (.type "bool") = some false) (hI_Ratio_bool : PySem.W.kitOne K (.ref C_Ratio) (.type "bool") = some false) (hI_dict_bool : PySem.W.kitOne K (.type "dict") (.type "bool") = some false) (hI_tuple_bool : PySem.W.kitOne K (.type "tuple") (.type "bool") = some false) (hI_list_bool : PySem.W.kitOne K (.type "list") (.type "bool") = some false) (hI_str_bool : PySem.W.kitOne K (.type "str") (.type "bool") = some false) (hI_int_bool : PySem.W.kitOne K (.type "int") (.type "bool") = some false) (hI_bool_bool : PySem.W.kitOne K (.type "bool") (.type "bool") = some true) (hI_NoneType_bool : PySem.W.kitOne K (.type "NoneType") (.type "bool") = some false) (hI_Turn_Ratio : PySem.W.kitOne K (.ref C_Turn) (.ref C_Ratio) = some false) (hI_tuple_Ratio : PySem.W.kitOne K (.type "tuple") (.ref C_Ratio) = some false) (hI_list_Ratio : PySem.W.kitOne K (.type "list") (.ref C_Ratio) = some false) (hI_str_Ratio : PySem.W.kitOne K (.type "str") (.ref C_Ratio) = some false) (hI_int_Ratio : PySem.W.kitOne K (.type "int") (.ref C_Ratio) = some false) (hI_bool_Ratio : PySem.W.kitOne K (.type "bool") (.ref C_Ratio) = some false) (hI_NoneType_Ratio : PySem.W.kitOne K (.type "NoneType") (.ref C_Ratio) = some false) (zn_Ratio_Ratio : PySem.W.notFirst K C_Ratio (.ref C_Ratio) = true) (zn_Ratio_Turn : PySem.W.notFirst K C_Ratio (.ref C_Turn) = true) (zn_Ratio_tuple : PySem.W.notFirst K C_Ratio (.type "tuple") = true) (zn_Ratio_list : PySem.W.notFirst K C_Ratio (.type "list") = true) (zn_Ratio_str : PySem.W.notFirst K C_Ratio (.type "str") = true) (zn_Ratio_int : PySem.W.notFirst K C_Ratio (.type "int") = true) (zn_Ratio_bool : PySem.W.notFirst K C_Ratio (.type "bool") = true) (zn_Ratio_NoneType : PySem.W.notFirst K C_Ratio (.type "NoneType") = true) (zz_ValueError : PySem.W.nsIn K mainGlobals "ValueError" = some none) (hP18 : pairChk K (cs18 C_InvalidRatio C_InvalidArray C_InvalidReading C_InvalidSum C_InvalidTimes C_InvalidTable C_NoSuchSetting C_Free C_InvalidLimit C_UnknownName C_NothingToUndo C_UnknownCommand C_NoStation C_NoReading C_NoFit C_TooMany C_Full C_InvalidText) = true) (hB19 : baseChk K (cs19 C_InvalidRatio C_InvalidArray C_InvalidReading C_InvalidSum C_InvalidTimes C_InvalidTable C_NoSuchSetting C_Free C_InvalidLimit C_UnknownName C_NothingToUndo C_UnknownCommand C_NoStation C_NoReading C_NoFit C_TooMany C_Full C_InvalidText C_TurnsError) C_TurnsError = true) (f_Turn_top : NoAttr K C_Turn "top") (f_Ratio_top : NoAttr K C_Ratio "top") (f_Turn_bottom : NoAttr K C_Turn "bottom") (f_Ratio_bottom : NoAttr K C_Ratio "bottom") (x_Ratio___init__ : MtOk K C_Ratio "__init__" "Ratio.__init__" s_Ratio_init [.int 1]) (x_Ratio___str__ : MtOk K C_Ratio "__str__" "Ratio.__str__" s_Ratio_str []) (x_Ratio___repr__ : MtOk K C_Ratio "__repr__" "Ratio.__repr__" s_Ratio_repr []) (x_Ratio___bool__ : MtOk K C_Ratio "__bool__" "Ratio.__bool__" s_Ratio_bool []) (x_Ratio___eq__ : MtOk K C_Ratio "__eq__" "Ratio.__eq__" s_Ratio_eq []) (x_Turn___init__ : MtOk K C_Turn "__init__" "Turn.__init__" s_Turn_init [.int 1]) (x_Ratio_over : MtOk K C_Ratio "over" "Ratio.over" s_Ratio_over []) (x_Ratio___add__ : MtOk K C_Ratio "__add__" "Ratio.__add__" s_Ratio_add []) (x_Ratio___sub__ : MtOk K C_Ratio "__sub__" "Ratio.__sub__" s_Ratio_sub []) (x_Ratio___mul__ : MtOk K C_Ratio "__mul__" "Ratio.__mul__" s_Ratio_mul []) (x_Ratio___neg__ : MtOk K C_Ratio "__neg__" "Ratio.__neg__" s_Ratio_neg []) (x_Ratio_under : MtOk K C_Ratio "under" "Ratio.under" s_Ratio_under []) : Def P w ⟨K, mg⟩ base "law" s_law 49 ["script"] p_law := by
  have n_Turn := PySem.W.mg_of X G g_Turn
  have k_Turn : ∀ {qual : Str} {st : Stmt} {dvs : List V} {f : Addr} {fd : FuncData}, MTop ⟨K, mg⟩ "Turn" "__init__" qual st dvs C_Turn f fd → Mk K C_Turn f := fun t => ⟨y_Turn, t.at_, t.fn, kp_Turn⟩
  have n_Ratio := PySem.W.mg_of X G g_Ratio
  have k_Ratio : ∀ {qual : Str} {st : Stmt} {dvs : List V} {f : Addr} {fd : FuncData}, MTop ⟨K, mg⟩ "Ratio" "__init__" qual st dvs C_Ratio f fd → Mk K C_Ratio f := fun t => ⟨y_Ratio, t.at_, t.fn, kp_Ratio⟩
  have n_InvalidRatio := PySem.W.mg_of X G g_InvalidRatio
  have n_InvalidArray := PySem.W.mg_of X G g_InvalidArray
  have n_InvalidReading := PySem.W.mg_of X G g_InvalidReading
  have n_InvalidSum := PySem.W.mg_of X G g_InvalidSum
  have n_InvalidTimes := PySem.W.mg_of X G g_InvalidTimes
  have n_InvalidTable := PySem.W.mg_of X G g_InvalidTable
  have n_NoSuchSetting := PySem.W.mg_of X G g_NoSuchSetting
  have n_Free := PySem.W.mg_of X G g_Free
  have n_InvalidLimit := PySem.W.mg_of X G g_InvalidLimit
  have n_UnknownName := PySem.W.mg_of X G g_UnknownName
  have n_NothingToUndo := PySem.W.mg_of X G g_NothingToUndo
  have n_UnknownCommand := PySem.W.mg_of X G g_UnknownCommand
  have n_NoStation := PySem.W.mg_of X G g_NoStation
  have n_NoReading := PySem.W.mg_of X G g_NoReading
  have n_NoFit := PySem.W.mg_of X G g_NoFit
  have n_TooMany := PySem.W.mg_of X G g_TooMany
  have n_Full := PySem.W.mg_of X G g_Full
  have n_InvalidText := PySem.W.mg_of X G g_InvalidText
  have n_TurnsError := PySem.W.mg_of X G g_TurnsError
  obtain ⟨a_Ratio___init__, fd_Ratio___init__, m_Ratio___init__⟩ := x_Ratio___init__.top n_Ratio i_Ratio
  obtain ⟨a_Ratio___str__, fd_Ratio___str__, m_Ratio___str__⟩ := x_Ratio___str__.top n_Ratio i_Ratio
  obtain ⟨a_Ratio___repr__, fd_Ratio___repr__, m_Ratio___repr__⟩ := x_Ratio___repr__.top n_Ratio i_Ratio
  obtain ⟨a_Ratio___bool__, fd_Ratio___bool__, m_Ratio___bool__⟩ := x_Ratio___bool__.top n_Ratio i_Ratio
  obtain ⟨a_Ratio___eq__, fd_Ratio___eq__, m_Ratio___eq__⟩ := x_Ratio___eq__.top n_Ratio i_Ratio
  obtain ⟨a_Turn___init__, fd_Turn___init__, m_Turn___init__⟩ := x_Turn___init__.top n_Turn i_Turn
  obtain ⟨a_Ratio_over, fd_Ratio_over, m_Ratio_over⟩ := x_Ratio_over.top n_Ratio i_Ratio
  obtain ⟨a_Ratio___add__, fd_Ratio___add__, m_Ratio___add__⟩ := x_Ratio___add__.top n_Ratio i_Ratio
  obtain ⟨a_Ratio___sub__, fd_Ratio___sub__, m_Ratio___sub__⟩ := x_Ratio___sub__.top n_Ratio i_Ratio
  obtain ⟨a_Ratio___mul__, fd_Ratio___mul__, m_Ratio___mul__⟩ := x_Ratio___mul__.top n_Ratio i_Ratio
  obtain ⟨a_Ratio___neg__, fd_Ratio___neg__, m_Ratio___neg__⟩ := x_Ratio___neg__.top n_Ratio i_Ratio
  obtain ⟨a_Ratio_under, fd_Ratio_under, m_Ratio_under⟩ := x_Ratio_under.top n_Ratio i_Ratio
  have I_Turn_int : IsiOk ⟨K, mg⟩ (.own "Turn") (.bi "int") false := ⟨_, _, ⟨_, n_Turn, rfl⟩, rfl, hI_Turn_int⟩
  have I_Ratio_int : IsiOk ⟨K, mg⟩ (.own "Ratio") (.bi "int") false := ⟨_, _, ⟨_, n_Ratio, rfl⟩, rfl, hI_Ratio_int⟩
  have I_dict_int : IsiOk ⟨K, mg⟩ (.bi "dict") (.bi "int") false := ⟨_, _, rfl, rfl, hI_dict_int⟩
  have I_tuple_int : IsiOk ⟨K, mg⟩ (.bi "tuple") (.bi "int") false := ⟨_, _, rfl, rfl, hI_tuple_int⟩
  have I_list_int : IsiOk ⟨K, mg⟩ (.bi "list") (.bi "int") false := ⟨_, _, rfl, rfl, hI_list_int⟩
  have I_str_int : IsiOk ⟨K, mg⟩ (.bi "str") (.bi "int") false := ⟨_, _, rfl, rfl, hI_str_int⟩
  have I_int_int : IsiOk ⟨K, mg⟩ (.bi "int") (.bi "int") true := ⟨_, _, rfl, rfl, hI_int_int⟩
  have I_bool_int : IsiOk ⟨K, mg⟩ (.bi "bool") (.bi "int") true := ⟨_, _, rfl, rfl, hI_bool_int⟩
  have I_NoneType_int : IsiOk ⟨K, mg⟩ (.bi "NoneType") (.bi "int") false := ⟨_, _, rfl, rfl, hI_NoneType_int⟩
  have I_Turn_bool : IsiOk ⟨K, mg⟩ (.own "Turn") (.bi "bool") false := ⟨_, _, ⟨_, n_Turn, rfl⟩, rfl, hI_Turn_bool⟩
  have I_Ratio_bool : IsiOk ⟨K, mg⟩ (.own "Ratio") (.bi "bool") false := ⟨_, _, ⟨_, n_Ratio, rfl⟩, rfl, hI_Ratio_bool⟩
  have I_dict_bool : IsiOk ⟨K, mg⟩ (.bi "dict") (.bi "bool") false := ⟨_, _, rfl, rfl, hI_dict_bool⟩
  have I_tuple_bool : IsiOk ⟨K, mg⟩ (.bi "tuple") (.bi "bool") false := ⟨_, _, rfl, rfl, hI_tuple_bool⟩
  have I_list_bool : IsiOk ⟨K, mg⟩ (.bi "list") (.bi "bool") false := ⟨_, _, rfl, rfl, hI_list_bool⟩
  have I_str_bool : IsiOk ⟨K, mg⟩ (.bi "str") (.bi "bool") false := ⟨_, _, rfl, rfl, hI_str_bool⟩
  have I_int_bool : IsiOk ⟨K, mg⟩ (.bi "int") (.bi "bool") false := ⟨_, _, rfl, rfl, hI_int_bool⟩
  have I_bool_bool : IsiOk ⟨K, mg⟩ (.bi "bool") (.bi "bool") true := ⟨_, _, rfl, rfl, hI_bool_bool⟩
  have I_NoneType_bool : IsiOk ⟨K, mg⟩ (.bi "NoneType") (.bi "bool") false := ⟨_, _, rfl, rfl, hI_NoneType_bool⟩
  have Dis_integer := d_is_integer (w := w) B SE (tis_integer.top X G) I_Turn_int I_Ratio_int I_dict_int I_tuple_int I_list_int I_str_int I_int_int I_bool_int I_NoneType_int I_Turn_bool I_Ratio_bool I_dict_bool I_tuple_bool I_list_bool I_str_bool I_int_bool I_bool_bool I_NoneType_bool
  have Dlowest := d_lowest (w := w) B SE (tlowest.top X G)
  have X_InvalidRatio : ExcP ⟨K, mg⟩ "InvalidRatio" := excP_of n_InvalidRatio e_InvalidRatio ep_InvalidRatio
  have Dneed_parts := d_need_parts (w := w) B SE (tneed_parts.top X G) Dis_integer X_InvalidRatio
  have Dcanonical := d_canonical (w := w) B SE (tcanonical.top X G)
  have Dstep_between := d_step_between (w := w) B SE (tstep_between.top X G)
  have D_law_pen := d__law_pen (w := w) B SE (t_law_pen.top X G)
  have D_law_draw := d__law_draw (w := w) B SE (t_law_draw.top X G)
  have D_law_value := d__law_value (w := w) B SE (t_law_value.top X G) D_law_draw
  have mg_InvalidRatio := n_InvalidRatio
  have IE : IsiTab ⟨K, mg⟩ tabE := IsiTab.app (pair_of (K := ⟨K, mg⟩) (cs := cs18 C_InvalidRatio C_InvalidArray C_InvalidReading C_InvalidSum C_InvalidTimes C_InvalidTable C_NoSuchSetting C_Free C_InvalidLimit C_UnknownName C_NothingToUndo C_UnknownCommand C_NoStation C_NoReading C_NoFit C_TooMany C_Full C_InvalidText) (List.forall_mem_cons.mpr ⟨n_InvalidRatio, (List.forall_mem_cons.mpr ⟨n_InvalidArray, (List.forall_mem_cons.mpr ⟨n_InvalidReading, (List.forall_mem_cons.mpr ⟨n_InvalidSum, (List.forall_mem_cons.mpr ⟨n_InvalidTimes, (List.forall_mem_cons.mpr ⟨n_InvalidTable, (List.forall_mem_cons.mpr ⟨n_NoSuchSetting, (List.forall_mem_cons.mpr ⟨n_Free, (List.forall_mem_cons.mpr ⟨n_InvalidLimit, (List.forall_mem_cons.mpr ⟨n_UnknownName, (List.forall_mem_cons.mpr ⟨n_NothingToUndo, (List.forall_mem_cons.mpr ⟨n_UnknownCommand, (List.forall_mem_cons.mpr ⟨n_NoStation, (List.forall_mem_cons.mpr ⟨n_NoReading, (List.forall_mem_cons.mpr ⟨n_NoFit, (List.forall_mem_cons.mpr ⟨n_TooMany, (List.forall_mem_cons.mpr ⟨n_Full, (List.forall_mem_cons.mpr ⟨n_InvalidText, (fun _ h => nomatch h)⟩)⟩)⟩)⟩)⟩)⟩)⟩)⟩)⟩)⟩)⟩)⟩)⟩)⟩)⟩)⟩)⟩)⟩) hP18) (base_of (K := ⟨K, mg⟩) (cs := cs19 C_InvalidRatio C_InvalidArray C_InvalidReading C_InvalidSum C_InvalidTimes C_InvalidTable C_NoSuchSetting C_Free C_InvalidLimit C_UnknownName C_NothingToUndo C_UnknownCommand C_NoStation C_NoReading C_NoFit C_TooMany C_Full C_InvalidText C_TurnsError) (List.forall_mem_cons.mpr ⟨n_InvalidRatio, (List.forall_mem_cons.mpr ⟨n_InvalidArray, (List.forall_mem_cons.mpr ⟨n_InvalidReading, (List.forall_mem_cons.mpr ⟨n_InvalidSum, (List.forall_mem_cons.mpr ⟨n_InvalidTimes, (List.forall_mem_cons.mpr ⟨n_InvalidTable, (List.forall_mem_cons.mpr ⟨n_NoSuchSetting, (List.forall_mem_cons.mpr ⟨n_Free, (List.forall_mem_cons.mpr ⟨n_InvalidLimit, (List.forall_mem_cons.mpr ⟨n_UnknownName, (List.forall_mem_cons.mpr ⟨n_NothingToUndo, (List.forall_mem_cons.mpr ⟨n_UnknownCommand, (List.forall_mem_cons.mpr ⟨n_NoStation, (List.forall_mem_cons.mpr ⟨n_NoReading, (List.forall_mem_cons.mpr ⟨n_NoFit, (List.forall_mem_cons.mpr ⟨n_TooMany, (List.forall_mem_cons.mpr ⟨n_Full, (List.forall_mem_cons.mpr ⟨n_InvalidText, (List.forall_mem_cons.mpr ⟨n_TurnsError, (fun _ h => nomatch h)⟩)⟩)⟩)⟩)⟩)⟩)⟩)⟩)⟩)⟩)⟩)⟩)⟩)⟩)⟩)⟩)⟩)⟩)⟩) n_TurnsError hB19)
  have mg_InvalidArray := n_InvalidArray
  have mg_InvalidReading := n_InvalidReading
  have mg_InvalidSum := n_InvalidSum
  have mg_InvalidTimes := n_InvalidTimes
  have mg_InvalidTable := n_InvalidTable
  have mg_NoSuchSetting := n_NoSuchSetting
  have mg_Free := n_Free
  have mg_InvalidLimit := n_InvalidLimit
  have mg_UnknownName := n_UnknownName
  have mg_NothingToUndo := n_NothingToUndo
  have mg_UnknownCommand := n_UnknownCommand
  have mg_NoStation := n_NoStation
  have mg_NoReading := n_NoReading
  have mg_NoFit := n_NoFit
  have mg_TooMany := n_TooMany
  have mg_Full := n_Full
  have mg_InvalidText := n_InvalidText
  have D_law_classes := d__law_classes (w := w) B SE (t_law_classes.top X G) mg_InvalidRatio IE mg_InvalidArray mg_InvalidReading mg_InvalidSum mg_InvalidTimes mg_InvalidTable mg_NoSuchSetting mg_Free mg_InvalidLimit mg_UnknownName mg_NothingToUndo mg_UnknownCommand mg_NoStation mg_NoReading mg_NoFit mg_TooMany mg_Full mg_InvalidText
  have X_InvalidArray : ExcP ⟨K, mg⟩ "InvalidArray" := excP_of n_InvalidArray e_InvalidArray ep_InvalidArray
  have X_InvalidReading : ExcP ⟨K, mg⟩ "InvalidReading" := excP_of n_InvalidReading e_InvalidReading ep_InvalidReading
  have X_InvalidSum : ExcP ⟨K, mg⟩ "InvalidSum" := excP_of n_InvalidSum e_InvalidSum ep_InvalidSum
  have X_InvalidTimes : ExcP ⟨K, mg⟩ "InvalidTimes" := excP_of n_InvalidTimes e_InvalidTimes ep_InvalidTimes
  have X_InvalidTable : ExcP ⟨K, mg⟩ "InvalidTable" := excP_of n_InvalidTable e_InvalidTable ep_InvalidTable
  have X_NoSuchSetting : ExcP ⟨K, mg⟩ "NoSuchSetting" := excP_of n_NoSuchSetting e_NoSuchSetting ep_NoSuchSetting
  have X_Free : ExcP ⟨K, mg⟩ "Free" := excP_of n_Free e_Free ep_Free
  have X_InvalidLimit : ExcP ⟨K, mg⟩ "InvalidLimit" := excP_of n_InvalidLimit e_InvalidLimit ep_InvalidLimit
  have X_UnknownName : ExcP ⟨K, mg⟩ "UnknownName" := excP_of n_UnknownName e_UnknownName ep_UnknownName
  have X_NothingToUndo : ExcP ⟨K, mg⟩ "NothingToUndo" := excP_of n_NothingToUndo e_NothingToUndo ep_NothingToUndo
  have X_UnknownCommand : ExcP ⟨K, mg⟩ "UnknownCommand" := excP_of n_UnknownCommand e_UnknownCommand ep_UnknownCommand
  have D_law_plain := d__law_plain (w := w) B SE (t_law_plain.top X G) X_InvalidRatio X_InvalidArray X_InvalidReading X_InvalidSum X_InvalidTimes X_InvalidTable X_NoSuchSetting X_Free X_InvalidLimit X_UnknownName X_NothingToUndo X_UnknownCommand
  have XS_NoStation : ExcS P ⟨K, mg⟩ "NoStation" "name" "name" := excS_of n_NoStation e_NoStation sf_NoStation st_NoStation B.super
  have XS_NoReading : ExcS P ⟨K, mg⟩ "NoReading" "number" "number" := excS_of n_NoReading e_NoReading sf_NoReading st_NoReading B.super
  have XS_NoFit : ExcS P ⟨K, mg⟩ "NoFit" "times" "times" := excS_of n_NoFit e_NoFit sf_NoFit st_NoFit B.super
  have XS_TooMany : ExcS P ⟨K, mg⟩ "TooMany" "many" "many" := excS_of n_TooMany e_TooMany sf_TooMany st_TooMany B.super
  have XS_Full : ExcS P ⟨K, mg⟩ "Full" "most" "most" := excS_of n_Full e_Full sf_Full st_Full B.super
  have XS_InvalidText : ExcS P ⟨K, mg⟩ "InvalidText" "line" "line" := excS_of n_InvalidText e_InvalidText sf_InvalidText st_InvalidText B.super
  have D_law_by_place := d__law_by_place (w := w) B SE (t_law_by_place.top X G) XS_NoStation XS_NoReading XS_NoFit XS_TooMany XS_Full XS_InvalidText
  have D_law_by_name := d__law_by_name (w := w) B SE (t_law_by_name.top X G) XS_NoStation XS_NoReading XS_NoFit XS_TooMany XS_Full XS_InvalidText
  have XF_NoStation_name : FldEOk ⟨K, mg⟩ "NoStation" "name" := fldE_of n_NoStation e_NoStation xf_NoStation_name
  have XF_NoReading_number : FldEOk ⟨K, mg⟩ "NoReading" "number" := fldE_of n_NoReading e_NoReading xf_NoReading_number
  have XF_NoFit_times : FldEOk ⟨K, mg⟩ "NoFit" "times" := fldE_of n_NoFit e_NoFit xf_NoFit_times
  have XF_TooMany_many : FldEOk ⟨K, mg⟩ "TooMany" "many" := fldE_of n_TooMany e_TooMany xf_TooMany_many
  have XF_Full_most : FldEOk ⟨K, mg⟩ "Full" "most" := fldE_of n_Full e_Full xf_Full_most
  have XF_InvalidText_line : FldEOk ⟨K, mg⟩ "InvalidText" "line" := fldE_of n_InvalidText e_InvalidText xf_InvalidText_line
  have D_law_fields := d__law_fields (w := w) B SE (t_law_fields.top X G) XF_NoStation_name XF_NoReading_number XF_NoFit_times XF_TooMany_many XF_Full_most XF_InvalidText_line
  have mg_TurnsError := n_TurnsError
  have Z_ValueError : mg "ValueError" = none := PySem.W.mg_none_of X G zz_ValueError
  have D_law_apart := d__law_apart (w := w) B SE (t_law_apart.top X G) D_law_classes mg_TurnsError IE Z_ValueError
  have X_TurnsError : ExcP ⟨K, mg⟩ "TurnsError" := excP_of n_TurnsError e_TurnsError ep_TurnsError
  have D_law_ask_one := d__law_ask_one (w := w) B SE (t_law_ask_one.top X G) D_law_apart D_law_by_name D_law_by_place D_law_draw D_law_fields D_law_pen D_law_plain D_law_value X_TurnsError Z_ValueError IE
  have D_law_place := d__law_place (w := w) B SE (t_law_place.top X G) D_law_draw
  have D_law_pair := d__law_pair (w := w) B SE (t_law_pair.top X G) D_law_draw D_law_place
  have D_law_turned := d__law_turned (w := w) B SE (t_law_turned.top X G)
  have D_law_between := d__law_between (w := w) B SE (t_law_between.top X G)
  have D_law_is_step := d__law_is_step (w := w) B SE (t_law_is_step.top X G)
  have D_law_right := d__law_right (w := w) B SE (t_law_right.top X G) D_law_between D_law_is_step D_law_turned Dcanonical Dstep_between
  have D_law_ask_two := d__law_ask_two (w := w) B SE (t_law_ask_two.top X G) D_law_pair D_law_pen D_law_right
  have D_law_int := d__law_int (w := w) B SE (t_law_int.top X G) D_law_draw
  have D_law_divisor := d__law_divisor (w := w) B SE (t_law_divisor.top X G)
  have XM_TurnsError_InvalidRatio : ExmOk ⟨K, mg⟩ "TurnsError" "InvalidRatio" true := exm_of n_TurnsError n_InvalidRatio e_InvalidRatio xm_TurnsError_InvalidRatio
  have F_Turn_top : FldOk ⟨K, mg⟩ "Turn" "top" := ⟨_, n_Turn, i_Turn.cl, f_Turn_top⟩
  have F_Ratio_top : FldOk ⟨K, mg⟩ "Ratio" "top" := ⟨_, n_Ratio, i_Ratio.cl, f_Ratio_top⟩
  have F_Turn_bottom : FldOk ⟨K, mg⟩ "Turn" "bottom" := ⟨_, n_Turn, i_Turn.cl, f_Turn_bottom⟩
  have F_Ratio_bottom : FldOk ⟨K, mg⟩ "Ratio" "bottom" := ⟨_, n_Ratio, i_Ratio.cl, f_Ratio_bottom⟩
  have K_Ratio_2 : MakOk P w ⟨K, mg⟩ base 43 "Ratio" p_Ratio_init := ⟨_, _, n_Ratio, i_Ratio, k_Ratio m_Ratio___init__, (cal_nil (c_Ratio_init_3 (w := w) B SE m_Ratio___init__ Dlowest Dneed_parts F_Turn_top F_Ratio_top F_Turn_bottom F_Ratio_bottom))⟩
  have I_InvalidRatio_InvalidRatio : IsiOk ⟨K, mg⟩ (.own "InvalidRatio") (.own "InvalidRatio") true := isi_self n_InvalidRatio
  have D_law_refused := d__law_refused (w := w) B SE (t_law_refused.top X G) mg_TurnsError XM_TurnsError_InvalidRatio K_Ratio_2 mg_InvalidRatio I_InvalidRatio_InvalidRatio
  have D_law_is_whole := d__law_is_whole (w := w) B SE (t_law_is_whole.top X G)
  have U_Ratio___str__ : UnOk P w ⟨K, mg⟩ base 2 "__str__" "Ratio" p_Ratio_str := ⟨_, _, n_Ratio, m_Ratio___str__.at_, m_Ratio___str__.fn, (c_Ratio_str (w := w) B SE m_Ratio___str__ F_Ratio_bottom F_Turn_bottom F_Ratio_top F_Turn_top)⟩
  have U_Ratio___repr__ : UnOk P w ⟨K, mg⟩ base 2 "__repr__" "Ratio" p_Ratio_repr := ⟨_, _, n_Ratio, m_Ratio___repr__.at_, m_Ratio___repr__.fn, (c_Ratio_repr (w := w) B SE m_Ratio___repr__ F_Ratio_top F_Turn_top F_Ratio_bottom F_Turn_bottom)⟩
  have KK_Ratio : MakKOk P w ⟨K, mg⟩ base 43 "Ratio" 0 ["bottom", "top"] (permS [0, 2, 1] p_Ratio_init) := ⟨_, _, n_Ratio, i_Ratio, k_Ratio m_Ratio___init__, (kc_Ratio_init (w := w) B SE m_Ratio___init__ Dlowest Dneed_parts F_Turn_top F_Ratio_top F_Turn_bottom F_Ratio_bottom)⟩
  have U_Ratio___bool__ : UnOk P w ⟨K, mg⟩ base 2 "__bool__" "Ratio" p_Ratio_bool := ⟨_, _, n_Ratio, m_Ratio___bool__.at_, m_Ratio___bool__.fn, (c_Ratio_bool (w := w) B SE m_Ratio___bool__ F_Ratio_top F_Turn_top)⟩
  have K_Ratio_1 : MakOk P w ⟨K, mg⟩ base 43 "Ratio" (dfl [.int 1] p_Ratio_init) := ⟨_, _, n_Ratio, i_Ratio, k_Ratio m_Ratio___init__, (c_Ratio_init_2 (w := w) B SE m_Ratio___init__ Dlowest Dneed_parts F_Turn_top F_Ratio_top F_Turn_bottom F_Ratio_bottom)⟩
  have D_law_made_right := d__law_made_right (w := w) B SE (t_law_made_right.top X G) D_law_divisor D_law_is_whole K_Ratio_2 F_Ratio_top F_Turn_top F_Ratio_bottom F_Turn_bottom U_Ratio___str__ U_Ratio___repr__ KK_Ratio U_Ratio___bool__ K_Ratio_1
  have mg_Ratio := n_Ratio
  have I_Ratio_Ratio : IsiOk ⟨K, mg⟩ (.own "Ratio") (.own "Ratio") true := isi_self n_Ratio
  have I_Turn_Ratio : IsiOk ⟨K, mg⟩ (.own "Turn") (.own "Ratio") false := ⟨_, _, ⟨_, n_Turn, rfl⟩, ⟨_, n_Ratio, rfl⟩, hI_Turn_Ratio⟩
  have I_tuple_Ratio : IsiOk ⟨K, mg⟩ (.bi "tuple") (.own "Ratio") false := ⟨_, _, rfl, ⟨_, n_Ratio, rfl⟩, hI_tuple_Ratio⟩
  have I_list_Ratio : IsiOk ⟨K, mg⟩ (.bi "list") (.own "Ratio") false := ⟨_, _, rfl, ⟨_, n_Ratio, rfl⟩, hI_list_Ratio⟩
  have I_str_Ratio : IsiOk ⟨K, mg⟩ (.bi "str") (.own "Ratio") false := ⟨_, _, rfl, ⟨_, n_Ratio, rfl⟩, hI_str_Ratio⟩
  have I_int_Ratio : IsiOk ⟨K, mg⟩ (.bi "int") (.own "Ratio") false := ⟨_, _, rfl, ⟨_, n_Ratio, rfl⟩, hI_int_Ratio⟩
  have I_bool_Ratio : IsiOk ⟨K, mg⟩ (.bi "bool") (.own "Ratio") false := ⟨_, _, rfl, ⟨_, n_Ratio, rfl⟩, hI_bool_Ratio⟩
  have I_NoneType_Ratio : IsiOk ⟨K, mg⟩ (.bi "NoneType") (.own "Ratio") false := ⟨_, _, rfl, ⟨_, n_Ratio, rfl⟩, hI_NoneType_Ratio⟩
  have E_Ratio_Ratio : EqOk P w ⟨K, mg⟩ base 2 "Ratio" (.own "Ratio") p_Ratio_eq := ⟨_, _, _, n_Ratio, m_Ratio___eq__.at_, m_Ratio___eq__.fn, q_Ratio, (c_Ratio_eq (w := w) B SE m_Ratio___eq__ mg_Ratio I_Ratio_Ratio I_Turn_Ratio I_tuple_Ratio I_list_Ratio I_str_Ratio I_int_Ratio I_bool_Ratio I_NoneType_Ratio F_Ratio_top F_Turn_top F_Ratio_bottom F_Turn_bottom), ⟨_, n_Ratio, rfl⟩, zn_Ratio_Ratio⟩
  have K_Turn_2 : MakOk P w ⟨K, mg⟩ base 43 "Turn" p_Turn_init := ⟨_, _, n_Turn, i_Turn, k_Turn m_Turn___init__, (cal_nil (c_Turn_init_3 (w := w) B SE m_Turn___init__ Dlowest Dneed_parts F_Turn_top F_Ratio_top F_Turn_bottom F_Ratio_bottom))⟩
  have E_Ratio_Turn : EqOk P w ⟨K, mg⟩ base 2 "Ratio" (.own "Turn") p_Ratio_eq := ⟨_, _, _, n_Ratio, m_Ratio___eq__.at_, m_Ratio___eq__.fn, q_Ratio, (c_Ratio_eq (w := w) B SE m_Ratio___eq__ mg_Ratio I_Ratio_Ratio I_Turn_Ratio I_tuple_Ratio I_list_Ratio I_str_Ratio I_int_Ratio I_bool_Ratio I_NoneType_Ratio F_Ratio_top F_Turn_top F_Ratio_bottom F_Turn_bottom), ⟨_, n_Turn, rfl⟩, zn_Ratio_Turn⟩
  have E_Ratio_tuple : EqOk P w ⟨K, mg⟩ base 2 "Ratio" (.bi "tuple") p_Ratio_eq := ⟨_, _, _, n_Ratio, m_Ratio___eq__.at_, m_Ratio___eq__.fn, q_Ratio, (c_Ratio_eq (w := w) B SE m_Ratio___eq__ mg_Ratio I_Ratio_Ratio I_Turn_Ratio I_tuple_Ratio I_list_Ratio I_str_Ratio I_int_Ratio I_bool_Ratio I_NoneType_Ratio F_Ratio_top F_Turn_top F_Ratio_bottom F_Turn_bottom), rfl, zn_Ratio_tuple⟩
  have E_Ratio_list : EqOk P w ⟨K, mg⟩ base 2 "Ratio" (.bi "list") p_Ratio_eq := ⟨_, _, _, n_Ratio, m_Ratio___eq__.at_, m_Ratio___eq__.fn, q_Ratio, (c_Ratio_eq (w := w) B SE m_Ratio___eq__ mg_Ratio I_Ratio_Ratio I_Turn_Ratio I_tuple_Ratio I_list_Ratio I_str_Ratio I_int_Ratio I_bool_Ratio I_NoneType_Ratio F_Ratio_top F_Turn_top F_Ratio_bottom F_Turn_bottom), rfl, zn_Ratio_list⟩
  have E_Ratio_str : EqOk P w ⟨K, mg⟩ base 2 "Ratio" (.bi "str") p_Ratio_eq := ⟨_, _, _, n_Ratio, m_Ratio___eq__.at_, m_Ratio___eq__.fn, q_Ratio, (c_Ratio_eq (w := w) B SE m_Ratio___eq__ mg_Ratio I_Ratio_Ratio I_Turn_Ratio I_tuple_Ratio I_list_Ratio I_str_Ratio I_int_Ratio I_bool_Ratio I_NoneType_Ratio F_Ratio_top F_Turn_top F_Ratio_bottom F_Turn_bottom), rfl, zn_Ratio_str⟩
  have E_Ratio_int : EqOk P w ⟨K, mg⟩ base 2 "Ratio" (.bi "int") p_Ratio_eq := ⟨_, _, _, n_Ratio, m_Ratio___eq__.at_, m_Ratio___eq__.fn, q_Ratio, (c_Ratio_eq (w := w) B SE m_Ratio___eq__ mg_Ratio I_Ratio_Ratio I_Turn_Ratio I_tuple_Ratio I_list_Ratio I_str_Ratio I_int_Ratio I_bool_Ratio I_NoneType_Ratio F_Ratio_top F_Turn_top F_Ratio_bottom F_Turn_bottom), rfl, zn_Ratio_int⟩
  have E_Ratio_bool : EqOk P w ⟨K, mg⟩ base 2 "Ratio" (.bi "bool") p_Ratio_eq := ⟨_, _, _, n_Ratio, m_Ratio___eq__.at_, m_Ratio___eq__.fn, q_Ratio, (c_Ratio_eq (w := w) B SE m_Ratio___eq__ mg_Ratio I_Ratio_Ratio I_Turn_Ratio I_tuple_Ratio I_list_Ratio I_str_Ratio I_int_Ratio I_bool_Ratio I_NoneType_Ratio F_Ratio_top F_Turn_top F_Ratio_bottom F_Turn_bottom), rfl, zn_Ratio_bool⟩
  have E_Ratio_NoneType : EqOk P w ⟨K, mg⟩ base 2 "Ratio" (.bi "NoneType") p_Ratio_eq := ⟨_, _, _, n_Ratio, m_Ratio___eq__.at_, m_Ratio___eq__.fn, q_Ratio, (c_Ratio_eq (w := w) B SE m_Ratio___eq__ mg_Ratio I_Ratio_Ratio I_Turn_Ratio I_tuple_Ratio I_list_Ratio I_str_Ratio I_int_Ratio I_bool_Ratio I_NoneType_Ratio F_Ratio_top F_Turn_top F_Ratio_bottom F_Turn_bottom), rfl, zn_Ratio_NoneType⟩
  have D_law_equal_right := d__law_equal_right (w := w) B SE (t_law_equal_right.top X G) D_law_draw D_law_int K_Ratio_2 E_Ratio_Ratio U_Ratio___str__ F_Ratio_top F_Turn_top F_Ratio_bottom F_Turn_bottom K_Turn_2 E_Ratio_Turn E_Ratio_tuple E_Ratio_list E_Ratio_str E_Ratio_int E_Ratio_bool E_Ratio_NoneType
  have D_law_ask_three := d__law_ask_three (w := w) B SE (t_law_ask_three.top X G) D_law_draw D_law_equal_right D_law_int D_law_made_right D_law_pen D_law_refused K_Ratio_1 K_Turn_2
  have D_law_divisor_four := d__law_divisor_four (w := w) B SE (t_law_divisor_four.top X G)
  have D_law_is := d__law_is (w := w) B SE (t_law_is.top X G) D_law_divisor_four mg_Ratio I_Ratio_Ratio F_Ratio_bottom F_Turn_bottom F_Ratio_top F_Turn_top
  have M_Ratio_over : MetOk P w ⟨K, mg⟩ base 45 "over" "Ratio" p_Ratio_over := ⟨_, _, n_Ratio, i_Ratio.cl, m_Ratio_over.meth, (c_Ratio_over (w := w) B SE m_Ratio_over F_Ratio_top F_Turn_top F_Ratio_bottom F_Turn_bottom K_Ratio_2)⟩
  have D_law_refused_four := d__law_refused_four (w := w) B SE (t_law_refused_four.top X G) mg_TurnsError XM_TurnsError_InvalidRatio K_Ratio_1 M_Ratio_over mg_InvalidRatio I_InvalidRatio_InvalidRatio
  have O_Ratio_Add_Ratio : BinOk P w ⟨K, mg⟩ base 45 .Add "Ratio" (.own "Ratio") p_Ratio_add := ⟨_, _, n_Ratio, m_Ratio___add__.at_, m_Ratio___add__.fn, (c_Ratio_add (w := w) B SE m_Ratio___add__ F_Ratio_top F_Turn_top F_Ratio_bottom F_Turn_bottom K_Ratio_2), .inl rfl⟩
  have O_Ratio_Sub_Ratio : BinOk P w ⟨K, mg⟩ base 45 .Sub "Ratio" (.own "Ratio") p_Ratio_sub := ⟨_, _, n_Ratio, m_Ratio___sub__.at_, m_Ratio___sub__.fn, (c_Ratio_sub (w := w) B SE m_Ratio___sub__ F_Ratio_top F_Turn_top F_Ratio_bottom F_Turn_bottom K_Ratio_2), .inl rfl⟩
  have O_Ratio_Mult_Ratio : BinOk P w ⟨K, mg⟩ base 45 .Mult "Ratio" (.own "Ratio") p_Ratio_mul := ⟨_, _, n_Ratio, m_Ratio___mul__.at_, m_Ratio___mul__.fn, (c_Ratio_mul (w := w) B SE m_Ratio___mul__ I_Ratio_int I_int_int F_Ratio_top F_Turn_top F_Ratio_bottom F_Turn_bottom K_Ratio_2), .inl rfl⟩
  have U_Ratio___neg__ : UnOk P w ⟨K, mg⟩ base 45 "__neg__" "Ratio" p_Ratio_neg := ⟨_, _, n_Ratio, m_Ratio___neg__.at_, m_Ratio___neg__.fn, (c_Ratio_neg (w := w) B SE m_Ratio___neg__ F_Ratio_top F_Turn_top F_Ratio_bottom F_Turn_bottom K_Ratio_2)⟩
  have M_Ratio_under : MetOk P w ⟨K, mg⟩ base 2 "under" "Ratio" p_Ratio_under := ⟨_, _, n_Ratio, i_Ratio.cl, m_Ratio_under.meth, (c_Ratio_under (w := w) B SE m_Ratio_under F_Ratio_top F_Turn_top F_Ratio_bottom F_Turn_bottom)⟩
  have MK_Ratio_under : MetKOk P w ⟨K, mg⟩ base 2 "under" "Ratio" 0 ["other"] (permS [0, 1] p_Ratio_under) := ⟨_, _, n_Ratio, i_Ratio.cl, m_Ratio_under.meth, (kc_Ratio_under (w := w) B SE m_Ratio_under F_Ratio_top F_Turn_top F_Ratio_bottom F_Turn_bottom)⟩
  have MK_Ratio_over : MetKOk P w ⟨K, mg⟩ base 45 "over" "Ratio" 0 ["other"] (permS [0, 1] p_Ratio_over) := ⟨_, _, n_Ratio, i_Ratio.cl, m_Ratio_over.meth, (kc_Ratio_over (w := w) B SE m_Ratio_over F_Ratio_top F_Turn_top F_Ratio_bottom F_Turn_bottom K_Ratio_2)⟩
  have D_law_two_right := d__law_two_right (w := w) B SE (t_law_two_right.top X G) D_law_is D_law_refused_four F_Ratio_top F_Turn_top F_Ratio_bottom F_Turn_bottom O_Ratio_Add_Ratio O_Ratio_Sub_Ratio O_Ratio_Mult_Ratio U_Ratio___neg__ M_Ratio_under MK_Ratio_under E_Ratio_Ratio U_Ratio___bool__ M_Ratio_over MK_Ratio_over
  have O_Ratio_Mult_int : BinOk P w ⟨K, mg⟩ base 45 .Mult "Ratio" (.bi "int") p_Ratio_mul := ⟨_, _, n_Ratio, m_Ratio___mul__.at_, m_Ratio___mul__.fn, (c_Ratio_mul (w := w) B SE m_Ratio___mul__ I_Ratio_int I_int_int F_Ratio_top F_Turn_top F_Ratio_bottom F_Turn_bottom K_Ratio_2), .inr ⟨_, _, _, rfl, rm_Ratio, .inl rfl, im_a, im_b, im_c⟩⟩
  have D_law_three_right := d__law_three_right (w := w) B SE (t_law_three_right.top X G) D_law_is E_Ratio_Ratio O_Ratio_Add_Ratio O_Ratio_Mult_Ratio O_Ratio_Sub_Ratio U_Ratio___neg__ U_Ratio___bool__ O_Ratio_Mult_int F_Ratio_top F_Turn_top F_Ratio_bottom F_Turn_bottom K_Ratio_1 M_Ratio_under
  have SB_Ratio : ShowB P w ⟨K, mg⟩ base 2 "Ratio" p_Ratio_repr := ⟨_, _, n_Ratio, m_Ratio___repr__.at_, m_Ratio___repr__.fn, (cB_Ratio_repr (w := w) B SE m_Ratio___repr__ F_Ratio_top F_Turn_top F_Ratio_bottom F_Turn_bottom)⟩
  have D_law_ask_four := d__law_ask_four (w := w) B SE (t_law_ask_four.top X G) D_law_draw D_law_int D_law_pen D_law_three_right D_law_two_right K_Ratio_2 U_Ratio___neg__ K_Ratio_1 SB_Ratio
  have Dlaw := d_law (w := w) B SE (tlaw.top X G) D_law_ask_four D_law_ask_one D_law_ask_three D_law_ask_two
  exact Dlaw
end K00
namespace K00
open PySem PySem.Spec PyProof.Rows L2 EX
/-- what is no list stays where the script is hidden -/
theorem ns_hid {t : Shared} {J : Hp} {a : Addr} {vs : List Value} (ha : t.heap.get? a = some { cls := .type "list", data := .seq vs.toArray }) (hJ : ∀ b, J b ≠ none → b = a) {b : Addr} {m : Str → Option Value} (h : t.heap.Ns b m) : (hidT t.heap J).Ns b m := by
  obtain ⟨o, es, ep, e, d, r⟩ := h
  refine ⟨o, es, ep, hidT_get e ?_, d, r⟩
  cases q : J b with
  | none => rfl
  | some u =>
    have z := hJ b (by rw [q]; intro x; cases x)
    rw [z, ha] at e
    cases e
    cases (show Data.seq vs.toArray _ = Data.dict es ep from d)
theorem obj_hid {t : Shared} {J : Hp} {a : Addr} {vs : List Value} (ha : t.heap.get? a = some { cls := .type "list", data := .seq vs.toArray }) (hJ : ∀ b, J b ≠ none → b = a) {b : Addr} {o : Obj} (e : t.heap.get? b = some o) (hc : o.cls = .type "module") : (hidT t.heap J).get? b = some o := by
  refine hidT_get e ?_
  cases q : J b with
  | none => rfl
  | some u =>
    have z := hJ b (by rw [q]; intro x; cases x)
    rw [z, ha] at e
    cases e
    exact absurd (Value.type.inj hc) (by decide)
theorem seer_hid {t : Shared} {J : Hp} {a : Addr} {vs : List Value} (ha : t.heap.get? a = some { cls := .type "list", data := .seq vs.toArray }) (hJ : ∀ b, J b ≠ none → b = a) (h : t.heap.NoSeer) : (hidT t.heap J).NoSeer := by
  obtain ⟨⟨m1, a1, b1, c1⟩, ⟨m2, a2, b2⟩, ⟨m3, a3, b3⟩, ⟨m4, bm, ob, a4, b4, c4, d4, e4⟩⟩ := h
  exact ⟨⟨m1, ns_hid ha hJ a1, b1, c1⟩, ⟨m2, ns_hid ha hJ a2, b2⟩, ⟨m3, ns_hid ha hJ a3, b3⟩, ⟨m4, bm, ob, ns_hid ha hJ a4, b4, obj_hid ha hJ c4 d4, d4, e4⟩⟩
/-- the law's def called with the script -/
theorem called {P : Program} {w : World} {K : PySem.W.Frag} {mg mb : Str → Option Value} {k : Nat} {fa a : Addr} {fd : FuncData} {x : Str} {p : DFnX} {t : Shared} {vs : List Value} {ns : List Int}
    (KX : K.In t.heap) (hg : t.heap.Ns mainGlobals mg) (hb : t.heap.Ns builtinsNs mb) (hbb : ∀ y : Str, y ≠ "__name__" → mb y = bootBuiltins y) (lim : t.heap.NoLimit) (sr : t.heap.NoSeer) (gs : t.gens = #[])
    (ha : t.heap.get? a = some { cls := .type "list", data := .seq vs.toArray }) (hi : IntsAre vs ns) (hl : ns.length ≤ sizeLine) (room : EX.Room k callerA)
    (F : ∀ base : Heap, base.NoSeer → EX.FnOk P w K mg base (L2.CX P w) k fa fd [x] (spX ⟨K, mg⟩ p)) (bind : ∀ (s : Shared) (u : Value), BindsTo s fd ⟨[u], []⟩ [(x, u)]) (hp : ∀ M Φ Ψ, (∀ M', Φ (.bl true) M') → p [.scr ns] M Φ Ψ) :
    codeAny (model P w) callerA (.call (.ref fa) ⟨[.ref a], []⟩) (fun r s' => r = .ok (.ret (.bool true)) ∧ OldK t.heap s'.heap ∧ s'.os = t.os ∧ AllBare s'.gens) t := by
  have rv := vals_ints hi
  have lv := hi.length
  have core : ∀ J : Hp, Only J → SqL K J a (ns.map V.int) → HOk P w J t.heap → (∀ b, J b ≠ none → b = a) → (J a ≠ none → K.lookup a = none) →
      codeAny (model P w) callerA (.call (.ref fa) ⟨[.ref a], []⟩) (fun r s' => r = .ok (.ret (.bool true)) ∧ OldK t.heap s'.heap ∧ s'.os = t.os ∧ AllBare s'.gens) t := by
    intro J only sq hok hJ hK
    have kin : K.In (hidT t.heap J) := fun b o e => hidT_get (KX b o e) (by
      cases q : J b with
      | none => rfl
      | some u =>
        have z := hJ b (by rw [q]; intro y; cases y)
        subst z
        rw [hK (by rw [q]; intro y; cases y)] at e
        cases e)
    obtain ⟨mc, lim1, lim2⟩ := lim
    have mod : Mod K mg (hidT t.heap J) := ⟨kin, ns_hid ha hJ hg, ⟨mb, ns_hid ha hJ hb, hbb⟩, ⟨mc, ns_hid ha hJ lim1, lim2⟩⟩
    have env : Env0 P w K mg (hidT t.heap J) callerA [] t J := ⟨rfl, mod, fun b o e => of_hidT e, Nat.le_of_eq (hidT_size _ _), trivial, fun b hb => absurd hb List.not_mem_nil, hok, .of_eq gs⟩
    have prom : spX ⟨K, mg⟩ p [.ref a] J (fun v _ => v = .bl true) fun _ _ _ => False := by
      refine ⟨J, fun _ => none, [.scr ns], fun d _ => d = .bl true, fun _ _ _ _ => False, Ex.rfl', (fun _ _ h => by cases h), .cons (.scr sq) .nil, hp _ _ _ fun _ => rfl, fun v d G' H' M' _ r e => ?_, fun _ _ _ _ _ _ _ _ _ _ _ h => h⟩
      subst e
      cases r
      rfl
    have run := (F _ (seer_hid ha hJ sr)).run callerA [] t J ⟨[.ref a], []⟩ [.ref a] [.ref a] (fun v _ => v = .bl true) (fun _ _ _ => False) room env (bind t (.ref a)) (.cons rfl .nil) prom
    refine codeAny_mono run (fun r s' h => ?_)
    match r, h with
    | .error e, h =>
      obtain ⟨_, _, _, _, _, _, _, _, _, _, _, _, h⟩ := h
      exact False.elim h
    | .ok .next, h => exact False.elim h
    | .ok .brk, h => exact False.elim h
    | .ok .cont, h => exact False.elim h
    | .ok (.ret u), h =>
      obtain ⟨v, H', os, bare, un, hok', r', q⟩ := h
      obtain rfl : v = .bl true := q
      obtain rfl : u = Value.bool true := r'
      refine ⟨rfl, OldK.of_keep (fun b o e => ?_), os, bare⟩
      cases q : J b with
      | none => exact un.keep b o e q (fun z => absurd z List.not_mem_nil) (by simp)
      | some u =>
        rcases only b with z | ⟨ob, xs, z⟩
        · rw [q] at z; cases z
        · obtain ⟨f1, _⟩ := hok b _ z
          obtain ⟨f2, _⟩ := hok' b _ (un.frzs b ob _ z)
          rw [e] at f1
          cases f1
          exact f2
  cases hk : K.lookup a with
  | some o =>
    have e := KX a o hk
    rw [ha] at e
    cases e
    exact core (fun _ => none) (fun _ => .inl rfl) (.inr ⟨_, vs.toArray, _, hk, rfl, rfl, rfl, by rw [List.size_toArray, lv]; exact hl, by simpa using rv⟩) (fun b u z => by cases (show (none : Option HO) = some u from z)) (fun b z => absurd rfl z) (fun z => absurd rfl z)
  | none =>
    have off : ∀ b : Addr, b ≠ a → (fun b => if b = a then some (HO.frz { cls := .type "list", data := .seq vs.toArray } (.lst (ns.map V.int))) else none) b = none := fun b h => if_neg h
    refine core (fun b => if b = a then some (.frz { cls := .type "list", data := .seq vs.toArray } (.lst (ns.map V.int))) else none) (fun b => ?_) (.inl (.inr ⟨{ cls := .type "list", data := .seq vs.toArray }, if_pos rfl⟩)) (fun b u z => ?_) (fun b z => ?_) fun _ => hk
    · by_cases h : b = a
      · exact .inr ⟨_, _, if_pos h⟩
      · exact .inl (off b h)
    · by_cases h : b = a
      · cases (if_pos h).symm.trans z
        subst h
        exact ⟨ha, by rw [List.length_map]; exact hl, vs, _, rv, ha⟩
      · cases (off b h).symm.trans z
    · by_cases h : b = a
      · exact h
      · exact absurd (off b h) z
theorem walk {l : PySem.W.OpenLaw} {q : Program} {loose : List Str} {XP : (Str → Option Value) → Heap → Prop} {YP : World → Heap → Prop} {d : DefRec} {K : Params → PySem.W.Frag} (hn : l.most = some 63) (hdf : d.params.defaults = []) (hq : importsNone q = true) (ht : l.prog.given.tree = none)
    (hY : ∀ (w : World) (h : Heap), YP w h → (K w.params).In h)
    (F : ∀ (w : World) (mg : Str → Option Value) (fa : Addr) (h : Heap), (K w.params).In h → h.Ns mainGlobals mg → mg d.name = some (.ref fa) → ∃ fd : FuncData, (∀ (s : Shared) (u : Value), BindsTo s fd ⟨[u], []⟩ [("script", u)]) ∧
      ∀ base : Heap, Seer l.prog base → EX.FnOk l.prog w (K w.params) mg base (L2.CX l.prog w) 49 fa fd ["script"] (spX ⟨K w.params, mg⟩ p_law)) :
    PySem.W.WalkO q loose XP YP l.row.toRowW d [] (fun f vs => PySem.call f vs) := by
  refine Att.attach_call hn hdf (fun w s₀ t mg mb fa o pm cd doc a vs ns G Y ho hd hcd hmg hobj hints hlen hg => ?_)
  have KX := hY w _ Y
  obtain ⟨fd, hb, hF⟩ := F w mg fa _ KX G.T.g hmg
  exact called KX G.T.g G.T.b G.T.builtins G.T.nolimit (G.T.seer hq) hg hobj hints (Nat.le_trans hlen (by decide)) ⟨⟨rfl, by decide, by decide⟩, rfl⟩ (fun base hs => hF base ⟨hs, ht⟩) hb fun M Φ Ψ h => ⟨ns, rfl, h⟩
end K00
namespace K00
open PySem PySem.Spec PyProof.Rows L2 EX
theorem all_mk {l : PySem.W.OpenLaw} {w : World} {K : PySem.W.Frag} {h : Heap} {mg : Str → Option Value} {fa : Addr} (X : K.In h) (G : h.Ns mainGlobals mg) (hfa : mg "law" = some (.ref fa))
    (tis_integer : TopOk K "is_integer" s_is_integer) (tlowest : TopOk K "lowest" s_lowest) (tneed_parts : TopOk K "need_parts" s_need_parts) (tcanonical : TopOk K "canonical" s_canonical) (tstep_between : TopOk K "step_between" s_step_between) (t_law_pen : TopOk K "_law_pen" s__law_pen) (t_law_draw : TopOk K "_law_draw" s__law_draw) (t_law_value : TopOk K "_law_value" s__law_value) (t_law_classes : TopOk K "_law_classes" s__law_classes) (t_law_plain : TopOk K "_law_plain" s__law_plain) (t_law_by_place : TopOk K "_law_by_place" s__law_by_place) (t_law_by_name : TopOk K "_law_by_name" s__law_by_name) (t_law_fields : TopOk K "_law_fields" s__law_fields) (t_law_apart : TopOk K "_law_apart" s__law_apart) (t_law_ask_one : TopOk K "_law_ask_one" s__law_ask_one) (t_law_place : TopOk K "_law_place" s__law_place) (t_law_pair : TopOk K "_law_pair" s__law_pair) (t_law_turned : TopOk K "_law_turned" s__law_turned) (t_law_between : TopOk K "_law_between" s__law_between) (t_law_is_step : TopOk K "_law_is_step" s__law_is_step) (t_law_right : TopOk K "_law_right" s__law_right) (t_law_ask_two : TopOk K "_law_ask_two" s__law_ask_two) (t_law_int : TopOk K "_law_int" s__law_int) (t_law_divisor : TopOk K "_law_divisor" s__law_divisor) (t_law_refused : TopOk K "_law_refused" s__law_refused) (t_law_is_whole : TopOk K "_law_is_whole" s__law_is_whole) (t_law_made_right : TopOk K "_law_made_right" s__law_made_right) (t_law_equal_right : TopOk K "_law_equal_right" s__law_equal_right) (t_law_ask_three : TopOk K "_law_ask_three" s__law_ask_three) (t_law_divisor_four : TopOk K "_law_divisor_four" s__law_divisor_four) (t_law_is : TopOk K "_law_is" s__law_is) (t_law_refused_four : TopOk K "_law_refused_four" s__law_refused_four) (t_law_two_right : TopOk K "_law_two_right" s__law_two_right) (t_law_three_right : TopOk K "_law_three_right" s__law_three_right) (t_law_ask_four : TopOk K "_law_ask_four" s__law_ask_four) (tlaw : TopOk K "law" s_law) {C_Turn : Addr} (g_Turn : PySem.W.nsIn K mainGlobals "Turn" = some (some (.ref C_Turn))) (i_Turn : InsF K C_Turn) (y_Turn : PySem.W.makesIn K C_Turn = true) (kp_Turn : PySem.W.keepIn K (.ref C_Turn) = true) {C_Ratio : Addr} (g_Ratio : PySem.W.nsIn K mainGlobals "Ratio" = some (some (.ref C_Ratio))) (i_Ratio : InsF K C_Ratio) (y_Ratio : PySem.W.makesIn K C_Ratio = true) (kp_Ratio : PySem.W.keepIn K (.ref C_Ratio) = true) (q_Ratio : PySem.W.findIn K (.ref C_Ratio) "__ne__" = some (some (.builtin "object.__ne__"))) {fo ro : Option Value} (rm_Ratio : PySem.W.findIn K (.ref C_Ratio) "__rmul__" = some none) (im_a : PySem.W.findIn K (.type "int") "__mul__" = some fo) (im_b : PySem.W.findIn K (.type "int") "__rmul__" = some ro) (im_c : PySem.W.subIn K (.type "int") (.ref C_Ratio) = some false) {C_InvalidRatio : Addr} (g_InvalidRatio : PySem.W.nsIn K mainGlobals "InvalidRatio" = some (some (.ref C_InvalidRatio))) (e_InvalidRatio : excChk K C_InvalidRatio = true) {C_InvalidArray : Addr} (g_InvalidArray : PySem.W.nsIn K mainGlobals "InvalidArray" = some (some (.ref C_InvalidArray))) (e_InvalidArray : excChk K C_InvalidArray = true) {C_InvalidReading : Addr} (g_InvalidReading : PySem.W.nsIn K mainGlobals "InvalidReading" = some (some (.ref C_InvalidReading))) (e_InvalidReading : excChk K C_InvalidReading = true) {C_InvalidSum : Addr} (g_InvalidSum : PySem.W.nsIn K mainGlobals "InvalidSum" = some (some (.ref C_InvalidSum))) (e_InvalidSum : excChk K C_InvalidSum = true) {C_InvalidTimes : Addr} (g_InvalidTimes : PySem.W.nsIn K mainGlobals "InvalidTimes" = some (some (.ref C_InvalidTimes))) (e_InvalidTimes : excChk K C_InvalidTimes = true) {C_InvalidTable : Addr} (g_InvalidTable : PySem.W.nsIn K mainGlobals "InvalidTable" = some (some (.ref C_InvalidTable))) (e_InvalidTable : excChk K C_InvalidTable = true) {C_NoSuchSetting : Addr} (g_NoSuchSetting : PySem.W.nsIn K mainGlobals "NoSuchSetting" = some (some (.ref C_NoSuchSetting))) (e_NoSuchSetting : excChk K C_NoSuchSetting = true) {C_Free : Addr} (g_Free : PySem.W.nsIn K mainGlobals "Free" = some (some (.ref C_Free))) (e_Free : excChk K C_Free = true) {C_InvalidLimit : Addr} (g_InvalidLimit : PySem.W.nsIn K mainGlobals "InvalidLimit" = some (some (.ref C_InvalidLimit))) (e_InvalidLimit : excChk K C_InvalidLimit = true) {C_UnknownName : Addr} (g_UnknownName : PySem.W.nsIn K mainGlobals "UnknownName" = some (some (.ref C_UnknownName))) (e_UnknownName : excChk K C_UnknownName = true) {C_NothingToUndo : Addr} (g_NothingToUndo : PySem.W.nsIn K mainGlobals "NothingToUndo" = some (some (.ref C_NothingToUndo))) (e_NothingToUndo : excChk K C_NothingToUndo = true) {C_UnknownCommand : Addr} (g_UnknownCommand : PySem.W.nsIn K mainGlobals "UnknownCommand" = some (some (.ref C_UnknownCommand))) (e_UnknownCommand : excChk K C_UnknownCommand = true) {C_NoStation : Addr} (g_NoStation : PySem.W.nsIn K mainGlobals "NoStation" = some (some (.ref C_NoStation))) (e_NoStation : excChk K C_NoStation = true) {C_NoReading : Addr} (g_NoReading : PySem.W.nsIn K mainGlobals "NoReading" = some (some (.ref C_NoReading))) (e_NoReading : excChk K C_NoReading = true) {C_NoFit : Addr} (g_NoFit : PySem.W.nsIn K mainGlobals "NoFit" = some (some (.ref C_NoFit))) (e_NoFit : excChk K C_NoFit = true) {C_TooMany : Addr} (g_TooMany : PySem.W.nsIn K mainGlobals "TooMany" = some (some (.ref C_TooMany))) (e_TooMany : excChk K C_TooMany = true) {C_Full : Addr} (g_Full : PySem.W.nsIn K mainGlobals "Full" = some (some (.ref C_Full))) (e_Full : excChk K C_Full = true) {C_InvalidText : Addr} (g_InvalidText : PySem.W.nsIn K mainGlobals "InvalidText" = some (some (.ref C_InvalidText))) (e_InvalidText : excChk K C_InvalidText = true) {C_TurnsError : Addr} (g_TurnsError : PySem.W.nsIn K mainGlobals "TurnsError" = some (some (.ref C_TurnsError))) (e_TurnsError : excChk K C_TurnsError = true) (ep_InvalidRatio : excChkP K C_InvalidRatio = true) (ep_InvalidArray : excChkP K C_InvalidArray = true) (ep_InvalidReading : excChkP K C_InvalidReading = true) (ep_InvalidSum : excChkP K C_InvalidSum = true) (ep_InvalidTimes : excChkP K C_InvalidTimes = true) (ep_InvalidTable : excChkP K C_InvalidTable = true) (ep_NoSuchSetting : excChkP K C_NoSuchSetting = true) (ep_Free : excChkP K C_Free = true) (ep_InvalidLimit : excChkP K C_InvalidLimit = true) (ep_UnknownName : excChkP K C_UnknownName = true) (ep_NothingToUndo : excChkP K C_NothingToUndo = true) (ep_UnknownCommand : excChkP K C_UnknownCommand = true) (ep_TurnsError : excChkP K C_TurnsError = true) (sf_NoStation : SupFk l.prog K C_NoStation s_NoStation_init "name" "name") (sf_NoReading : SupFk l.prog K C_NoReading s_NoReading_init "number" "number") (sf_NoFit : SupFk l.prog K C_NoFit s_NoFit_init "times" "times") (sf_TooMany : SupFk l.prog K C_TooMany s_TooMany_init "many" "many") (sf_Full : SupFk l.prog K C_Full s_Full_init "most" "most") (sf_InvalidText : SupFk l.prog K C_InvalidText s_InvalidText_init "line" "line") (xm_TurnsError_InvalidRatio : exmChk K C_TurnsError C_InvalidRatio true = true) (xf_NoStation_name : PySem.W.findIn K (.ref C_NoStation) "name" = some none) (xf_NoReading_number : PySem.W.findIn K (.ref C_NoReading) "number" = some none) (xf_NoFit_times : PySem.W.findIn K (.ref C_NoFit) "times" = some none) (xf_TooMany_many : PySem.W.findIn K (.ref C_TooMany) "many" = some none) (xf_Full_most : PySem.W.findIn K (.ref C_Full) "most" = some none) (xf_InvalidText_line : PySem.W.findIn K (.ref C_InvalidText) "line" = some none) (hI_Turn_int : PySem.W.kitOne K (.ref C_Turn) (.type "int") = some false) (hI_Ratio_int : PySem.W.kitOne K (.ref C_Ratio) (.type "int") = some false) (hI_dict_int : PySem.W.kitOne K (.type "dict") (.type "int") = some false) (hI_tuple_int : PySem.W.kitOne K (.type "tuple") (.type "int") = some false) (hI_list_int : PySem.W.kitOne K (.type "list") (.type "int") = some false) (hI_str_int : PySem.W.kitOne K (.type "str") (.type "int") = some false) (hI_int_int : PySem.W.kitOne K (.type "int") (.type "int") = some true) (hI_bool_int : PySem.W.kitOne K (.type "bool") (.type "int") = some true) (hI_NoneType_int : PySem.W.kitOne K (.type "NoneType") (.type "int") = some false) (hI_Turn_bool : PySem.W.kitOne K (.ref C_Turn) (.type "bool") = some false) (hI_Ratio_bool : PySem.W.kitOne K (.ref C_Ratio) (.type "bool") = some false) (hI_dict_bool : PySem.W.kitOne K (.type "dict") (.type "bool") = some false) (hI_tuple_bool : PySem.W.kitOne K (.type "tuple") (.type "bool") = some false) (hI_list_bool : PySem.W.kitOne K (.type "list") (.type "bool") = some false) (hI_str_bool : PySem.W.kitOne K (.type "str") (.type "bool") = some false) (hI_int_bool : PySem.W.kitOne K (.type "int") (.type "bool") = some false) (hI_bool_bool : PySem.W.kitOne K (.type "bool") (.type "bool") = some true) (hI_NoneType_bool : PySem.W.kitOne K (.type "NoneType") (.type "bool") = some false) (hI_Turn_Ratio : PySem.W.kitOne K (.ref C_Turn) (.ref C_Ratio) = some false) (hI_tuple_Ratio : PySem.W.kitOne K (.type "tuple") (.ref C_Ratio) = some false) (hI_list_Ratio : PySem.W.kitOne K (.type "list") (.ref C_Ratio) = some false) (hI_str_Ratio : PySem.W.kitOne K (.type "str") (.ref C_Ratio) = some false) (hI_int_Ratio : PySem.W.kitOne K (.type "int") (.ref C_Ratio) = some false) (hI_bool_Ratio : PySem.W.kitOne K (.type "bool") (.ref C_Ratio) = some false) (hI_NoneType_Ratio : PySem.W.kitOne K (.type "NoneType") (.ref C_Ratio) = some false) (zn_Ratio_Ratio : PySem.W.notFirst K C_Ratio (.ref C_Ratio) = true) (zn_Ratio_Turn : PySem.W.notFirst K C_Ratio (.ref C_Turn) = true) (zn_Ratio_tuple : PySem.W.notFirst K C_Ratio (.type "tuple") = true) (zn_Ratio_list : PySem.W.notFirst K C_Ratio (.type "list") = true) (zn_Ratio_str : PySem.W.notFirst K C_Ratio (.type "str") = true) (zn_Ratio_int : PySem.W.notFirst K C_Ratio (.type "int") = true) (zn_Ratio_bool : PySem.W.notFirst K C_Ratio (.type "bool") = true) (zn_Ratio_NoneType : PySem.W.notFirst K C_Ratio (.type "NoneType") = true) (zz_ValueError : PySem.W.nsIn K mainGlobals "ValueError" = some none) (hP18 : pairChk K (cs18 C_InvalidRatio C_InvalidArray C_InvalidReading C_InvalidSum C_InvalidTimes C_InvalidTable C_NoSuchSetting C_Free C_InvalidLimit C_UnknownName C_NothingToUndo C_UnknownCommand C_NoStation C_NoReading C_NoFit C_TooMany C_Full C_InvalidText) = true) (hB19 : baseChk K (cs19 C_InvalidRatio C_InvalidArray C_InvalidReading C_InvalidSum C_InvalidTimes C_InvalidTable C_NoSuchSetting C_Free C_InvalidLimit C_UnknownName C_NothingToUndo C_UnknownCommand C_NoStation C_NoReading C_NoFit C_TooMany C_Full C_InvalidText C_TurnsError) C_TurnsError = true) (f_Turn_top : NoAttr K C_Turn "top") (f_Ratio_top : NoAttr K C_Ratio "top") (f_Turn_bottom : NoAttr K C_Turn "bottom") (f_Ratio_bottom : NoAttr K C_Ratio "bottom") (x_Ratio___init__ : MtOk K C_Ratio "__init__" "Ratio.__init__" s_Ratio_init [.int 1]) (x_Ratio___str__ : MtOk K C_Ratio "__str__" "Ratio.__str__" s_Ratio_str []) (x_Ratio___repr__ : MtOk K C_Ratio "__repr__" "Ratio.__repr__" s_Ratio_repr []) (x_Ratio___bool__ : MtOk K C_Ratio "__bool__" "Ratio.__bool__" s_Ratio_bool []) (x_Ratio___eq__ : MtOk K C_Ratio "__eq__" "Ratio.__eq__" s_Ratio_eq []) (x_Turn___init__ : MtOk K C_Turn "__init__" "Turn.__init__" s_Turn_init [.int 1]) (x_Ratio_over : MtOk K C_Ratio "over" "Ratio.over" s_Ratio_over []) (x_Ratio___add__ : MtOk K C_Ratio "__add__" "Ratio.__add__" s_Ratio_add []) (x_Ratio___sub__ : MtOk K C_Ratio "__sub__" "Ratio.__sub__" s_Ratio_sub []) (x_Ratio___mul__ : MtOk K C_Ratio "__mul__" "Ratio.__mul__" s_Ratio_mul []) (x_Ratio___neg__ : MtOk K C_Ratio "__neg__" "Ratio.__neg__" s_Ratio_neg []) (x_Ratio_under : MtOk K C_Ratio "under" "Ratio.under" s_Ratio_under [])
    (z_len : PySem.W.nsIn K mainGlobals "len" = some none) (z_abs : PySem.W.nsIn K mainGlobals "abs" = some none) (z_sum : PySem.W.nsIn K mainGlobals "sum" = some none) (z_max : PySem.W.nsIn K mainGlobals "max" = some none) (z_min : PySem.W.nsIn K mainGlobals "min" = some none) (z_isinstance : PySem.W.nsIn K mainGlobals "isinstance" = some none) (z_int : PySem.W.nsIn K mainGlobals "int" = some none) (z_bool : PySem.W.nsIn K mainGlobals "bool" = some none) (z_list : PySem.W.nsIn K mainGlobals "list" = some none) (z_tuple : PySem.W.nsIn K mainGlobals "tuple" = some none) (z_range : PySem.W.nsIn K mainGlobals "range" = some none) (z_zip : PySem.W.nsIn K mainGlobals "zip" = some none) (z_enumerate : PySem.W.nsIn K mainGlobals "enumerate" = some none) (z_str : PySem.W.nsIn K mainGlobals "str" = some none) (z_repr : PySem.W.nsIn K mainGlobals "repr" = some none) (z_all : PySem.W.nsIn K mainGlobals "all" = some none) (z_any : PySem.W.nsIn K mainGlobals "any" = some none) (z_sorted : PySem.W.nsIn K mainGlobals "sorted" = some none) (z_set : PySem.W.nsIn K mainGlobals "set" = some none) (z_dict : PySem.W.nsIn K mainGlobals "dict" = some none) (z_super : PySem.W.nsIn K mainGlobals "super" = some none) :
    ∃ fd : FuncData, (∀ (s : Shared) (v : Value), BindsTo s fd ⟨[v], []⟩ [("script", v)]) ∧ ∀ base : Heap, Seer l.prog base → EX.FnOk l.prog w K mg base (L2.CX l.prog w) 49 fa fd ["script"] (spX ⟨K, mg⟩ p_law) := by
  have B : Bi mg := ⟨PySem.W.mg_none_of X G z_len, PySem.W.mg_none_of X G z_abs, PySem.W.mg_none_of X G z_sum, PySem.W.mg_none_of X G z_max, PySem.W.mg_none_of X G z_min, PySem.W.mg_none_of X G z_isinstance, PySem.W.mg_none_of X G z_int, PySem.W.mg_none_of X G z_bool, PySem.W.mg_none_of X G z_list, PySem.W.mg_none_of X G z_tuple, PySem.W.mg_none_of X G z_range, PySem.W.mg_none_of X G z_zip, PySem.W.mg_none_of X G z_enumerate, PySem.W.mg_none_of X G z_str, PySem.W.mg_none_of X G z_repr, PySem.W.mg_none_of X G z_all, PySem.W.mg_none_of X G z_any, PySem.W.mg_none_of X G z_sorted, PySem.W.mg_none_of X G z_set, PySem.W.mg_none_of X G z_dict, PySem.W.mg_none_of X G z_super⟩
  obtain ⟨f, oc, od, kV, dc, pm, an, cd, ct, sl, a, lk, c, k⟩ := tlaw.ex
  have e := hfa.symm.trans (PySem.W.mg_of X G a)
  cases e
  refine ⟨PySem.W.fnOf "law" "law" (defArgs s_law) (defBody s_law) (defScope s_law) .none kV dc pm an cd ct, fun s v => .of_eq rfl, fun base SE => ?_⟩
  have D := all_def (P := l.prog) (w := w) X G B base SE tis_integer tlowest tneed_parts tcanonical tstep_between t_law_pen t_law_draw t_law_value t_law_classes t_law_plain t_law_by_place t_law_by_name t_law_fields t_law_apart t_law_ask_one t_law_place t_law_pair t_law_turned t_law_between t_law_is_step t_law_right t_law_ask_two t_law_int t_law_divisor t_law_refused t_law_is_whole t_law_made_right t_law_equal_right t_law_ask_three t_law_divisor_four t_law_is t_law_refused_four t_law_two_right t_law_three_right t_law_ask_four tlaw g_Turn i_Turn y_Turn kp_Turn g_Ratio i_Ratio y_Ratio kp_Ratio q_Ratio rm_Ratio im_a im_b im_c g_InvalidRatio e_InvalidRatio g_InvalidArray e_InvalidArray g_InvalidReading e_InvalidReading g_InvalidSum e_InvalidSum g_InvalidTimes e_InvalidTimes g_InvalidTable e_InvalidTable g_NoSuchSetting e_NoSuchSetting g_Free e_Free g_InvalidLimit e_InvalidLimit g_UnknownName e_UnknownName g_NothingToUndo e_NothingToUndo g_UnknownCommand e_UnknownCommand g_NoStation e_NoStation g_NoReading e_NoReading g_NoFit e_NoFit g_TooMany e_TooMany g_Full e_Full g_InvalidText e_InvalidText g_TurnsError e_TurnsError ep_InvalidRatio ep_InvalidArray ep_InvalidReading ep_InvalidSum ep_InvalidTimes ep_InvalidTable ep_NoSuchSetting ep_Free ep_InvalidLimit ep_UnknownName ep_NothingToUndo ep_UnknownCommand ep_TurnsError sf_NoStation sf_NoReading sf_NoFit sf_TooMany sf_Full sf_InvalidText xm_TurnsError_InvalidRatio xf_NoStation_name xf_NoReading_number xf_NoFit_times xf_TooMany_many xf_Full_most xf_InvalidText_line hI_Turn_int hI_Ratio_int hI_dict_int hI_tuple_int hI_list_int hI_str_int hI_int_int hI_bool_int hI_NoneType_int hI_Turn_bool hI_Ratio_bool hI_dict_bool hI_tuple_bool hI_list_bool hI_str_bool hI_int_bool hI_bool_bool hI_NoneType_bool hI_Turn_Ratio hI_tuple_Ratio hI_list_Ratio hI_str_Ratio hI_int_Ratio hI_bool_Ratio hI_NoneType_Ratio zn_Ratio_Ratio zn_Ratio_Turn zn_Ratio_tuple zn_Ratio_list zn_Ratio_str zn_Ratio_int zn_Ratio_bool zn_Ratio_NoneType zz_ValueError hP18 hB19 f_Turn_top f_Ratio_top f_Turn_bottom f_Ratio_bottom x_Ratio___init__ x_Ratio___str__ x_Ratio___repr__ x_Ratio___bool__ x_Ratio___eq__ x_Turn___init__ x_Ratio_over x_Ratio___add__ x_Ratio___sub__ x_Ratio___mul__ x_Ratio___neg__ x_Ratio_under
  obtain ⟨f', fd', Fn, ok, m, b⟩ := D.ex
  have e2 := hfa.symm.trans m
  cases e2
  obtain ⟨oc', od', kV', dc', pm', an', cd', ct', sl', _, lk', _⟩ := Fn.ex
  have e3 := Data.func.inj (congrArg Obj.data (Option.some.inj (lk.symm.trans lk')))
  rw [e3]
  exact ok
end K00
open PySem PySem.W PyProof.Rows
set_option maxRecDepth 100000 in
set_option maxHeartbeats 0 in
theorem PySem.Challenge.cw_hiddentones_k00_errors_steps_ratios_holds : PySem.Challenge.rw_hiddentones_k00_errors_steps_ratios.Holds := by
  w_on; o_law; k_head; (case hw => w_witness2)
  k_fill
  refine K00.walk (l := PySem.Challenge.rw_hiddentones_k00_errors_steps_ratios) rfl rfl ?hq rfl (fun w h Y => PySem.W.kIn_of Y) ?F
  case hq => first | rfl | decide +kernel
  case F =>
    intro w mg fa h KX G hmg
    refine' K00.all_mk KX G hmg ?tis_integer ?tlowest ?tneed_parts ?tcanonical ?tstep_between ?t_law_pen ?t_law_draw ?t_law_value ?t_law_classes ?t_law_plain ?t_law_by_place ?t_law_by_name ?t_law_fields ?t_law_apart ?t_law_ask_one ?t_law_place ?t_law_pair ?t_law_turned ?t_law_between ?t_law_is_step ?t_law_right ?t_law_ask_two ?t_law_int ?t_law_divisor ?t_law_refused ?t_law_is_whole ?t_law_made_right ?t_law_equal_right ?t_law_ask_three ?t_law_divisor_four ?t_law_is ?t_law_refused_four ?t_law_two_right ?t_law_three_right ?t_law_ask_four ?tlaw ?g_Turn ?i_Turn ?y_Turn ?kp_Turn ?g_Ratio ?i_Ratio ?y_Ratio ?kp_Ratio ?q_Ratio ?rm_Ratio ?im_a ?im_b ?im_c ?g_InvalidRatio ?e_InvalidRatio ?g_InvalidArray ?e_InvalidArray ?g_InvalidReading ?e_InvalidReading ?g_InvalidSum ?e_InvalidSum ?g_InvalidTimes ?e_InvalidTimes ?g_InvalidTable ?e_InvalidTable ?g_NoSuchSetting ?e_NoSuchSetting ?g_Free ?e_Free ?g_InvalidLimit ?e_InvalidLimit ?g_UnknownName ?e_UnknownName ?g_NothingToUndo ?e_NothingToUndo ?g_UnknownCommand ?e_UnknownCommand ?g_NoStation ?e_NoStation ?g_NoReading ?e_NoReading ?g_NoFit ?e_NoFit ?g_TooMany ?e_TooMany ?g_Full ?e_Full ?g_InvalidText ?e_InvalidText ?g_TurnsError ?e_TurnsError ?ep_InvalidRatio ?ep_InvalidArray ?ep_InvalidReading ?ep_InvalidSum ?ep_InvalidTimes ?ep_InvalidTable ?ep_NoSuchSetting ?ep_Free ?ep_InvalidLimit ?ep_UnknownName ?ep_NothingToUndo ?ep_UnknownCommand ?ep_TurnsError ?sf_NoStation ?sf_NoReading ?sf_NoFit ?sf_TooMany ?sf_Full ?sf_InvalidText ?xm_TurnsError_InvalidRatio ?xf_NoStation_name ?xf_NoReading_number ?xf_NoFit_times ?xf_TooMany_many ?xf_Full_most ?xf_InvalidText_line ?hI_Turn_int ?hI_Ratio_int ?hI_dict_int ?hI_tuple_int ?hI_list_int ?hI_str_int ?hI_int_int ?hI_bool_int ?hI_NoneType_int ?hI_Turn_bool ?hI_Ratio_bool ?hI_dict_bool ?hI_tuple_bool ?hI_list_bool ?hI_str_bool ?hI_int_bool ?hI_bool_bool ?hI_NoneType_bool ?hI_Turn_Ratio ?hI_tuple_Ratio ?hI_list_Ratio ?hI_str_Ratio ?hI_int_Ratio ?hI_bool_Ratio ?hI_NoneType_Ratio ?zn_Ratio_Ratio ?zn_Ratio_Turn ?zn_Ratio_tuple ?zn_Ratio_list ?zn_Ratio_str ?zn_Ratio_int ?zn_Ratio_bool ?zn_Ratio_NoneType ?zz_ValueError ?hP18 ?hB19 ?f_Turn_top ?f_Ratio_top ?f_Turn_bottom ?f_Ratio_bottom ?x_Ratio___init__ ?x_Ratio___str__ ?x_Ratio___repr__ ?x_Ratio___bool__ ?x_Ratio___eq__ ?x_Turn___init__ ?x_Ratio_over ?x_Ratio___add__ ?x_Ratio___sub__ ?x_Ratio___mul__ ?x_Ratio___neg__ ?x_Ratio_under ?z_len ?z_abs ?z_sum ?z_max ?z_min ?z_isinstance ?z_int ?z_bool ?z_list ?z_tuple ?z_range ?z_zip ?z_enumerate ?z_str ?z_repr ?z_all ?z_any ?z_sorted ?z_set ?z_dict ?z_super
    (case tis_integer => (refine' K00.topOk ?a ?l ?c ?k; (case a => k_is); (case l => k_is); (case c => k_is); (case k => k_is)))
    (case tlowest => (refine' K00.topOk ?a ?l ?c ?k; (case a => k_is); (case l => k_is); (case c => k_is); (case k => k_is)))
    (case tneed_parts => (refine' K00.topOk ?a ?l ?c ?k; (case a => k_is); (case l => k_is); (case c => k_is); (case k => k_is)))
    (case tcanonical => (refine' K00.topOk ?a ?l ?c ?k; (case a => k_is); (case l => k_is); (case c => k_is); (case k => k_is)))
    (case tstep_between => (refine' K00.topOk ?a ?l ?c ?k; (case a => k_is); (case l => k_is); (case c => k_is); (case k => k_is)))
    (case t_law_pen => (refine' K00.topOk ?a ?l ?c ?k; (case a => k_is); (case l => k_is); (case c => k_is); (case k => k_is)))
    (case t_law_draw => (refine' K00.topOk ?a ?l ?c ?k; (case a => k_is); (case l => k_is); (case c => k_is); (case k => k_is)))
    (case t_law_value => (refine' K00.topOk ?a ?l ?c ?k; (case a => k_is); (case l => k_is); (case c => k_is); (case k => k_is)))
    (case t_law_classes => (refine' K00.topOk ?a ?l ?c ?k; (case a => k_is); (case l => k_is); (case c => k_is); (case k => k_is)))
    (case t_law_plain => (refine' K00.topOk ?a ?l ?c ?k; (case a => k_is); (case l => k_is); (case c => k_is); (case k => k_is)))
    (case t_law_by_place => (refine' K00.topOk ?a ?l ?c ?k; (case a => k_is); (case l => k_is); (case c => k_is); (case k => k_is)))
    (case t_law_by_name => (refine' K00.topOk ?a ?l ?c ?k; (case a => k_is); (case l => k_is); (case c => k_is); (case k => k_is)))
    (case t_law_fields => (refine' K00.topOk ?a ?l ?c ?k; (case a => k_is); (case l => k_is); (case c => k_is); (case k => k_is)))
    (case t_law_apart => (refine' K00.topOk ?a ?l ?c ?k; (case a => k_is); (case l => k_is); (case c => k_is); (case k => k_is)))
    (case t_law_ask_one => (refine' K00.topOk ?a ?l ?c ?k; (case a => k_is); (case l => k_is); (case c => k_is); (case k => k_is)))
    (case t_law_place => (refine' K00.topOk ?a ?l ?c ?k; (case a => k_is); (case l => k_is); (case c => k_is); (case k => k_is)))
    (case t_law_pair => (refine' K00.topOk ?a ?l ?c ?k; (case a => k_is); (case l => k_is); (case c => k_is); (case k => k_is)))
    (case t_law_turned => (refine' K00.topOk ?a ?l ?c ?k; (case a => k_is); (case l => k_is); (case c => k_is); (case k => k_is)))
    (case t_law_between => (refine' K00.topOk ?a ?l ?c ?k; (case a => k_is); (case l => k_is); (case c => k_is); (case k => k_is)))
    (case t_law_is_step => (refine' K00.topOk ?a ?l ?c ?k; (case a => k_is); (case l => k_is); (case c => k_is); (case k => k_is)))
    (case t_law_right => (refine' K00.topOk ?a ?l ?c ?k; (case a => k_is); (case l => k_is); (case c => k_is); (case k => k_is)))
    (case t_law_ask_two => (refine' K00.topOk ?a ?l ?c ?k; (case a => k_is); (case l => k_is); (case c => k_is); (case k => k_is)))
    (case t_law_int => (refine' K00.topOk ?a ?l ?c ?k; (case a => k_is); (case l => k_is); (case c => k_is); (case k => k_is)))
    (case t_law_divisor => (refine' K00.topOk ?a ?l ?c ?k; (case a => k_is); (case l => k_is); (case c => k_is); (case k => k_is)))
    (case t_law_refused => (refine' K00.topOk ?a ?l ?c ?k; (case a => k_is); (case l => k_is); (case c => k_is); (case k => k_is)))
    (case t_law_is_whole => (refine' K00.topOk ?a ?l ?c ?k; (case a => k_is); (case l => k_is); (case c => k_is); (case k => k_is)))
    (case t_law_made_right => (refine' K00.topOk ?a ?l ?c ?k; (case a => k_is); (case l => k_is); (case c => k_is); (case k => k_is)))
    (case t_law_equal_right => (refine' K00.topOk ?a ?l ?c ?k; (case a => k_is); (case l => k_is); (case c => k_is); (case k => k_is)))
    (case t_law_ask_three => (refine' K00.topOk ?a ?l ?c ?k; (case a => k_is); (case l => k_is); (case c => k_is); (case k => k_is)))
    (case t_law_divisor_four => (refine' K00.topOk ?a ?l ?c ?k; (case a => k_is); (case l => k_is); (case c => k_is); (case k => k_is)))
    (case t_law_is => (refine' K00.topOk ?a ?l ?c ?k; (case a => k_is); (case l => k_is); (case c => k_is); (case k => k_is)))
    (case t_law_refused_four => (refine' K00.topOk ?a ?l ?c ?k; (case a => k_is); (case l => k_is); (case c => k_is); (case k => k_is)))
    (case t_law_two_right => (refine' K00.topOk ?a ?l ?c ?k; (case a => k_is); (case l => k_is); (case c => k_is); (case k => k_is)))
    (case t_law_three_right => (refine' K00.topOk ?a ?l ?c ?k; (case a => k_is); (case l => k_is); (case c => k_is); (case k => k_is)))
    (case t_law_ask_four => (refine' K00.topOk ?a ?l ?c ?k; (case a => k_is); (case l => k_is); (case c => k_is); (case k => k_is)))
    (case tlaw => (refine' K00.topOk ?a ?l ?c ?k; (case a => k_is); (case l => k_is); (case c => k_is); (case k => k_is)))
    (case g_Turn => (k_is))
    (case i_Turn => (refine' ⟨⟨?a, ?b, ?c, ?d⟩, ?e, ?f, ?g, ?h, ?i⟩; (case a => k_is); (case b => k_is); (case c => k_is); (case d => k_is); (case e => k_is); (case f => k_is); (case g => k_is); (case h => k_is); (case i => k_is)))
    (case y_Turn => (k_is))
    (case kp_Turn => (k_is))
    (case g_Ratio => (k_is))
    (case i_Ratio => (refine' ⟨⟨?a, ?b, ?c, ?d⟩, ?e, ?f, ?g, ?h, ?i⟩; (case a => k_is); (case b => k_is); (case c => k_is); (case d => k_is); (case e => k_is); (case f => k_is); (case g => k_is); (case h => k_is); (case i => k_is)))
    (case y_Ratio => (k_is))
    (case kp_Ratio => (k_is))
    (case q_Ratio => (k_is))
    (case rm_Ratio => (k_is))
    (case im_a => (k_is))
    (case im_b => (k_is))
    (case im_c => (k_is))
    (case g_InvalidRatio => (k_is))
    (case e_InvalidRatio => (kernel_rfl))
    (case g_InvalidArray => (k_is))
    (case e_InvalidArray => (kernel_rfl))
    (case g_InvalidReading => (k_is))
    (case e_InvalidReading => (kernel_rfl))
    (case g_InvalidSum => (k_is))
    (case e_InvalidSum => (kernel_rfl))
    (case g_InvalidTimes => (k_is))
    (case e_InvalidTimes => (kernel_rfl))
    (case g_InvalidTable => (k_is))
    (case e_InvalidTable => (kernel_rfl))
    (case g_NoSuchSetting => (k_is))
    (case e_NoSuchSetting => (kernel_rfl))
    (case g_Free => (k_is))
    (case e_Free => (kernel_rfl))
    (case g_InvalidLimit => (k_is))
    (case e_InvalidLimit => (kernel_rfl))
    (case g_UnknownName => (k_is))
    (case e_UnknownName => (kernel_rfl))
    (case g_NothingToUndo => (k_is))
    (case e_NothingToUndo => (kernel_rfl))
    (case g_UnknownCommand => (k_is))
    (case e_UnknownCommand => (kernel_rfl))
    (case g_NoStation => (k_is))
    (case e_NoStation => (kernel_rfl))
    (case g_NoReading => (k_is))
    (case e_NoReading => (kernel_rfl))
    (case g_NoFit => (k_is))
    (case e_NoFit => (kernel_rfl))
    (case g_TooMany => (k_is))
    (case e_TooMany => (kernel_rfl))
    (case g_Full => (k_is))
    (case e_Full => (kernel_rfl))
    (case g_InvalidText => (k_is))
    (case e_InvalidText => (kernel_rfl))
    (case g_TurnsError => (k_is))
    (case e_TurnsError => (kernel_rfl))
    (case ep_InvalidRatio => (kernel_rfl))
    (case ep_InvalidArray => (kernel_rfl))
    (case ep_InvalidReading => (kernel_rfl))
    (case ep_InvalidSum => (kernel_rfl))
    (case ep_InvalidTimes => (kernel_rfl))
    (case ep_InvalidTable => (kernel_rfl))
    (case ep_NoSuchSetting => (kernel_rfl))
    (case ep_Free => (kernel_rfl))
    (case ep_InvalidLimit => (kernel_rfl))
    (case ep_UnknownName => (kernel_rfl))
    (case ep_NothingToUndo => (kernel_rfl))
    (case ep_UnknownCommand => (kernel_rfl))
    (case ep_TurnsError => (kernel_rfl))
    (case sf_NoStation => (refine' EX.supFk ?iC ?lk ?hcd ?lcda ?hv ?hf ?lcc ?top ?opq ?ini ?sb ?slf ?o1 ?o2 ?o3 ?o4 ?o5 ?o6 ?nof ?tI; (case iC => k_is); (case lk => k_is); (case hcd => k_is); (case lcda => k_is); (case hv => exact rfl); (case hf => kernel_rfl); (case lcc => k_is); (case top => kernel_rfl); (case opq => k_is); (case ini => kernel_rfl); (case sb => k_is); (case slf => k_is); (case o1 => k_is); (case o2 => kernel_rfl); (case o3 => k_is); (case o4 => k_is); (case o5 => k_is); (case o6 => k_is); (case nof => k_is); (case tI => k_is)))
    (case sf_NoReading => (refine' EX.supFk ?iC ?lk ?hcd ?lcda ?hv ?hf ?lcc ?top ?opq ?ini ?sb ?slf ?o1 ?o2 ?o3 ?o4 ?o5 ?o6 ?nof ?tI; (case iC => k_is); (case lk => k_is); (case hcd => k_is); (case lcda => k_is); (case hv => exact rfl); (case hf => kernel_rfl); (case lcc => k_is); (case top => kernel_rfl); (case opq => k_is); (case ini => kernel_rfl); (case sb => k_is); (case slf => k_is); (case o1 => k_is); (case o2 => kernel_rfl); (case o3 => k_is); (case o4 => k_is); (case o5 => k_is); (case o6 => k_is); (case nof => k_is); (case tI => k_is)))
    (case sf_NoFit => (refine' EX.supFk ?iC ?lk ?hcd ?lcda ?hv ?hf ?lcc ?top ?opq ?ini ?sb ?slf ?o1 ?o2 ?o3 ?o4 ?o5 ?o6 ?nof ?tI; (case iC => k_is); (case lk => k_is); (case hcd => k_is); (case lcda => k_is); (case hv => exact rfl); (case hf => kernel_rfl); (case lcc => k_is); (case top => kernel_rfl); (case opq => k_is); (case ini => kernel_rfl); (case sb => k_is); (case slf => k_is); (case o1 => k_is); (case o2 => kernel_rfl); (case o3 => k_is); (case o4 => k_is); (case o5 => k_is); (case o6 => k_is); (case nof => k_is); (case tI => k_is)))
    (case sf_TooMany => (refine' EX.supFk ?iC ?lk ?hcd ?lcda ?hv ?hf ?lcc ?top ?opq ?ini ?sb ?slf ?o1 ?o2 ?o3 ?o4 ?o5 ?o6 ?nof ?tI; (case iC => k_is); (case lk => k_is); (case hcd => k_is); (case lcda => k_is); (case hv => exact rfl); (case hf => kernel_rfl); (case lcc => k_is); (case top => kernel_rfl); (case opq => k_is); (case ini => kernel_rfl); (case sb => k_is); (case slf => k_is); (case o1 => k_is); (case o2 => kernel_rfl); (case o3 => k_is); (case o4 => k_is); (case o5 => k_is); (case o6 => k_is); (case nof => k_is); (case tI => k_is)))
    (case sf_Full => (refine' EX.supFk ?iC ?lk ?hcd ?lcda ?hv ?hf ?lcc ?top ?opq ?ini ?sb ?slf ?o1 ?o2 ?o3 ?o4 ?o5 ?o6 ?nof ?tI; (case iC => k_is); (case lk => k_is); (case hcd => k_is); (case lcda => k_is); (case hv => exact rfl); (case hf => kernel_rfl); (case lcc => k_is); (case top => kernel_rfl); (case opq => k_is); (case ini => kernel_rfl); (case sb => k_is); (case slf => k_is); (case o1 => k_is); (case o2 => kernel_rfl); (case o3 => k_is); (case o4 => k_is); (case o5 => k_is); (case o6 => k_is); (case nof => k_is); (case tI => k_is)))
    (case sf_InvalidText => (refine' EX.supFk ?iC ?lk ?hcd ?lcda ?hv ?hf ?lcc ?top ?opq ?ini ?sb ?slf ?o1 ?o2 ?o3 ?o4 ?o5 ?o6 ?nof ?tI; (case iC => k_is); (case lk => k_is); (case hcd => k_is); (case lcda => k_is); (case hv => exact rfl); (case hf => kernel_rfl); (case lcc => k_is); (case top => kernel_rfl); (case opq => k_is); (case ini => kernel_rfl); (case sb => k_is); (case slf => k_is); (case o1 => k_is); (case o2 => kernel_rfl); (case o3 => k_is); (case o4 => k_is); (case o5 => k_is); (case o6 => k_is); (case nof => k_is); (case tI => k_is)))
    (case xm_TurnsError_InvalidRatio => (kernel_rfl))
    (case xf_NoStation_name => (k_is))
    (case xf_NoReading_number => (k_is))
    (case xf_NoFit_times => (k_is))
    (case xf_TooMany_many => (k_is))
    (case xf_Full_most => (k_is))
    (case xf_InvalidText_line => (k_is))
    (case hI_Turn_int => (kernel_rfl))
    (case hI_Ratio_int => (kernel_rfl))
    (case hI_dict_int => (kernel_rfl))
    (case hI_tuple_int => (kernel_rfl))
    (case hI_list_int => (kernel_rfl))
    (case hI_str_int => (kernel_rfl))
    (case hI_int_int => (kernel_rfl))
    (case hI_bool_int => (kernel_rfl))
    (case hI_NoneType_int => (kernel_rfl))
    (case hI_Turn_bool => (kernel_rfl))
    (case hI_Ratio_bool => (kernel_rfl))
    (case hI_dict_bool => (kernel_rfl))
    (case hI_tuple_bool => (kernel_rfl))
    (case hI_list_bool => (kernel_rfl))
    (case hI_str_bool => (kernel_rfl))
    (case hI_int_bool => (kernel_rfl))
    (case hI_bool_bool => (kernel_rfl))
    (case hI_NoneType_bool => (kernel_rfl))
    (case hI_Turn_Ratio => (kernel_rfl))
    (case hI_tuple_Ratio => (kernel_rfl))
    (case hI_list_Ratio => (kernel_rfl))
    (case hI_str_Ratio => (kernel_rfl))
    (case hI_int_Ratio => (kernel_rfl))
    (case hI_bool_Ratio => (kernel_rfl))
    (case hI_NoneType_Ratio => (kernel_rfl))
    (case zn_Ratio_Ratio => (k_is))
    (case zn_Ratio_Turn => (k_is))
    (case zn_Ratio_tuple => (k_is))
    (case zn_Ratio_list => (k_is))
    (case zn_Ratio_str => (k_is))
    (case zn_Ratio_int => (k_is))
    (case zn_Ratio_bool => (k_is))
    (case zn_Ratio_NoneType => (k_is))
    (case zz_ValueError => (k_is))
    (case hP18 => (kernel_rfl))
    (case hB19 => (kernel_rfl))
    (case f_Turn_top => ((unfold L2.NoAttr); k_is))
    (case f_Ratio_top => ((unfold L2.NoAttr); k_is))
    (case f_Turn_bottom => ((unfold L2.NoAttr); k_is))
    (case f_Ratio_bottom => ((unfold L2.NoAttr); k_is))
    (case x_Ratio___init__ => (refine' K00.mtOk1 ?a ?l ?t ?r ?c ?i ?k; (case a => k_is); (case l => k_is); (case t => k_is); (case c => k_is); (case i => k_is); (case k => k_is); (case r => exact ⟨_, rfl⟩)))
    (case x_Ratio___str__ => (refine' K00.mtOk ?a ?l ?c ?i ?k; (case a => k_is); (case l => k_is); (case c => k_is); (case i => k_is); (case k => k_is)))
    (case x_Ratio___repr__ => (refine' K00.mtOk ?a ?l ?c ?i ?k; (case a => k_is); (case l => k_is); (case c => k_is); (case i => k_is); (case k => k_is)))
    (case x_Ratio___bool__ => (refine' K00.mtOk ?a ?l ?c ?i ?k; (case a => k_is); (case l => k_is); (case c => k_is); (case i => k_is); (case k => k_is)))
    (case x_Ratio___eq__ => (refine' K00.mtOk ?a ?l ?c ?i ?k; (case a => k_is); (case l => k_is); (case c => k_is); (case i => k_is); (case k => k_is)))
    (case x_Turn___init__ => (refine' K00.mtOk1 ?a ?l ?t ?r ?c ?i ?k; (case a => k_is); (case l => k_is); (case t => k_is); (case c => k_is); (case i => k_is); (case k => k_is); (case r => exact ⟨_, rfl⟩)))
    (case x_Ratio_over => (refine' K00.mtOk ?a ?l ?c ?i ?k; (case a => k_is); (case l => k_is); (case c => k_is); (case i => k_is); (case k => k_is)))
    (case x_Ratio___add__ => (refine' K00.mtOk ?a ?l ?c ?i ?k; (case a => k_is); (case l => k_is); (case c => k_is); (case i => k_is); (case k => k_is)))
    (case x_Ratio___sub__ => (refine' K00.mtOk ?a ?l ?c ?i ?k; (case a => k_is); (case l => k_is); (case c => k_is); (case i => k_is); (case k => k_is)))
    (case x_Ratio___mul__ => (refine' K00.mtOk ?a ?l ?c ?i ?k; (case a => k_is); (case l => k_is); (case c => k_is); (case i => k_is); (case k => k_is)))
    (case x_Ratio___neg__ => (refine' K00.mtOk ?a ?l ?c ?i ?k; (case a => k_is); (case l => k_is); (case c => k_is); (case i => k_is); (case k => k_is)))
    (case x_Ratio_under => (refine' K00.mtOk ?a ?l ?c ?i ?k; (case a => k_is); (case l => k_is); (case c => k_is); (case i => k_is); (case k => k_is)))
    (case z_len => (k_is))
    (case z_abs => (k_is))
    (case z_sum => (k_is))
    (case z_max => (k_is))
    (case z_min => (k_is))
    (case z_isinstance => (k_is))
    (case z_int => (k_is))
    (case z_bool => (k_is))
    (case z_list => (k_is))
    (case z_tuple => (k_is))
    (case z_range => (k_is))
    (case z_zip => (k_is))
    (case z_enumerate => (k_is))
    (case z_str => (k_is))
    (case z_repr => (k_is))
    (case z_all => (k_is))
    (case z_any => (k_is))
    (case z_sorted => (k_is))
    (case z_set => (k_is))
    (case z_dict => (k_is))
    (case z_super => (k_is))
