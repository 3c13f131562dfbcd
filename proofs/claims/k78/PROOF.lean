import PyProof.Rows.All
import Wide.All
import OpenK.AllK
import Wide.FinOn
import KE.KStateDown
import HandS.ForMost
import HandS.ForExc
import HandS.Defaults
import HandS.Walk
import HandS.SortInts
import HandS.Conv
import HandS.IsInst
import HandS.Property
import HandS.HeadHook1
import HandS.HeadHook2
import HandS.ExcInit
import HandS.Flow
import HandS.Style
import HandS.ExcCtx
import HandS.ExcIs
import HandS.ExcField
import HandS.HotCalls
import HandS.HeadHook4
import KE.KTryMore
import HandS.Head0
import HandS.Head1
import HandS.Head2
import HandS.HeadEnd
import PySem.Challenge.RW_lastnamed_k78_guards_force_their_set
set_option Elab.async false
set_option linter.all false
set_option maxRecDepth 100000
set_option maxHeartbeats 4000000
/-! AL1: deep values, owned trees, steps of the heap -/
namespace AL
open PySem PySem.Spec PyProof.Rows L2

/-- a deep value -/
inductive D where
  | non | bl (b : Bool) | int (i : Int) | str (x : Str) | ty (n : String) | sto
  | scr (b : Option Addr) (ns : List Int)
  | lst (ds : List D) | tup (ds : List D)
  | obj (C : Str) (ns : List Str) (ds : List D)
  /-- an exception that a suite holds: its address, its dict, the fields there -/
  | exn (a : Addr) (d : Option Addr) (fs : List (Str × V))

/-- where the store of draws stands, and its script's list; none: there is none -/
abbrev Sto := Option (Addr × Addr)
def sa (s : Sto) : Option Addr := s.map (·.1)
mutual
def Val (K : PySem.W.Frag) (s : Sto) (R : Hp) : D → V → Prop
  | .non, v => v = .non
  | .bl b, v => v = .bl b
  | .int i, v => v = .int i
  | .str x, v => v = .str x
  | .ty n, v => v = .ty n
  | .sto, v => ∃ a, sa s = some a ∧ v = .ref a
  | .scr b ns, v => ∃ a, v = .ref a ∧ SqL K R a (ns.map V.int) ∧ ∀ x, b = some x → x = a
  | .lst ds, v => ∃ a vs, v = .ref a ∧ R a = some (.lst vs) ∧ ValL K s R ds vs
  | .tup ds, v => ∃ a vs, v = .ref a ∧ R a = some (.tup vs) ∧ ValL K s R ds vs
  | .obj C ns ds, v => ∃ a dx vs, v = .ref a ∧ R a = some (.ins (He.ga K C) dx (ns.zip vs)) ∧ ValL K s R ds vs
  | .exn a d fs, v => v = .ref a ∧ ∀ dd, d = some dd → R dd = some (.xd fs)
def ValL (K : PySem.W.Frag) (s : Sto) (R : Hp) : List D → List V → Prop
  | [], vs => vs = []
  | d :: ds, vs => ∃ v r, vs = v :: r ∧ Val K s R d v ∧ ValL K s R ds r
end

abbrev Sub (R R' : Hp) : Prop := ∀ a o, R a = some o → R' a = some o

theorem Sub.refl (R : Hp) : Sub R R := fun _ _ h => h
theorem Sub.trans {R R' R'' : Hp} (h : Sub R R') (h' : Sub R' R'') : Sub R R'' := fun a o e => h' a o (h a o e)
theorem SqL.sub {K : PySem.W.Frag} {R R' : Hp} {a : Addr} {xs : List V} (h : SqL K R a xs) (e : Sub R R') : SqL K R' a xs := by
  rcases h with (h | ⟨o, h⟩) | h
  · exact .inl (.inl (e _ _ h))
  · exact .inl (.inr ⟨o, e _ _ h⟩)
  · exact .inr h

mutual
theorem Val.mono {K : PySem.W.Frag} {s : Sto} {R R' : Hp} (e : Sub R R') : ∀ {d : D} {v : V}, Val K s R d v → Val K s R' d v
  | .non, _, h | .bl _, _, h | .int _, _, h | .str _, _, h | .ty _, _, h | .sto, _, h => by simpa [Val] using h
  | .scr b ns, v, h => by
    simp only [Val] at h ⊢
    obtain ⟨a, h1, h2, h3⟩ := h
    exact ⟨a, h1, SqL.sub h2 e, h3⟩
  | .lst ds, v, h => by
    simp only [Val] at h ⊢
    obtain ⟨a, vs, h1, h2, h3⟩ := h
    exact ⟨a, vs, h1, e _ _ h2, ValL.mono e h3⟩
  | .tup ds, v, h => by
    simp only [Val] at h ⊢
    obtain ⟨a, vs, h1, h2, h3⟩ := h
    exact ⟨a, vs, h1, e _ _ h2, ValL.mono e h3⟩
  | .obj C ns ds, v, h => by
    simp only [Val] at h ⊢
    obtain ⟨a, dx, vs, h1, h2, h3⟩ := h
    exact ⟨a, dx, vs, h1, e _ _ h2, ValL.mono e h3⟩
  | .exn a d fs, v, h => by
    simp only [Val] at h ⊢
    exact ⟨h.1, fun dd z => e _ _ (h.2 dd z)⟩
theorem ValL.mono {K : PySem.W.Frag} {s : Sto} {R R' : Hp} (e : Sub R R') : ∀ {ds : List D} {vs : List V}, ValL K s R ds vs → ValL K s R' ds vs
  | [], _, h => by simpa [ValL] using h
  | d :: ds, _, h => by
    simp only [ValL] at h ⊢
    obtain ⟨v, r, h1, h2, h3⟩ := h
    exact ⟨v, r, h1, Val.mono e h2, ValL.mono e h3⟩
end

section
variable {K : PySem.W.Frag} {s : Sto} {R : Hp}
theorem ValL.length : ∀ {ds : List D} {vs : List V}, ValL K s R ds vs → vs.length = ds.length
  | [], _, h => by simp only [ValL] at h; subst h; rfl
  | d :: ds, _, h => by
    simp only [ValL] at h
    obtain ⟨v, r, rfl, _, h3⟩ := h
    simp [ValL.length h3]
theorem ValL.get : ∀ {ds : List D} {vs : List V} {i : Nat} {d : D}, ValL K s R ds vs → ds[i]? = some d → ∃ v, vs[i]? = some v ∧ Val K s R d v
  | [], _, _, _, _, e => by simp at e
  | d :: ds, _, 0, _, h, e => by
    simp only [ValL] at h
    obtain ⟨v, r, rfl, h2, h3⟩ := h
    simp at e
    subst e
    exact ⟨v, by simp, h2⟩
  | d :: ds, _, i + 1, _, h, e => by
    simp only [ValL] at h
    obtain ⟨v, r, rfl, h2, h3⟩ := h
    simp at e
    obtain ⟨w, e1, e2⟩ := ValL.get h3 e
    exact ⟨w, by simpa using e1, e2⟩
theorem ValL.append : ∀ {ds es : List D} {vs ws : List V}, ValL K s R ds vs → ValL K s R es ws → ValL K s R (ds ++ es) (vs ++ ws)
  | [], _, _, _, h, h' => by simp only [ValL] at h; subst h; exact h'
  | d :: ds, _, _, _, h, h' => by
    simp only [ValL] at h
    obtain ⟨v, r, rfl, h2, h3⟩ := h
    exact by simp only [List.cons_append, ValL]; exact ⟨v, _, rfl, h2, ValL.append h3 h'⟩
theorem valL_ints : ∀ (ns : List Int), ValL K s R (ns.map D.int) (ns.map V.int)
  | [] => by simp [ValL]
  | n :: ns => by simp only [List.map_cons, ValL]; exact ⟨_, _, rfl, by simp [Val], valL_ints ns⟩
theorem valL_ints_inv : ∀ {ns : List Int} {vs : List V}, ValL K s R (ns.map D.int) vs → vs = ns.map V.int
  | [], _, h => by simpa [ValL] using h
  | n :: ns, _, h => by
    simp only [List.map_cons, ValL, Val] at h
    obtain ⟨v, r, rfl, rfl, h3⟩ := h
    rw [List.map_cons, valL_ints_inv h3]
theorem ValL.set : ∀ {ds : List D} {vs : List V} {i : Nat} {d : D} {v : V}, ValL K s R ds vs → Val K s R d v → ValL K s R (ds.set i d) (vs.set i v)
  | [], _, i, _, _, h, _ => by simp only [ValL] at h; subst h; cases i <;> simp [ValL]
  | _ :: ds, _, 0, _, _, h, hd => by
    simp only [ValL] at h
    obtain ⟨w, r, rfl, _, h3⟩ := h
    simp only [List.set, ValL]
    exact ⟨_, _, rfl, hd, h3⟩
  | _ :: ds, _, i + 1, _, _, h, hd => by
    simp only [ValL] at h
    obtain ⟨w, r, rfl, h2, h3⟩ := h
    simp only [List.set, ValL]
    exact ⟨_, _, rfl, h2, ValL.set h3 hd⟩
theorem ValL.drop : ∀ {ds : List D} {vs : List V} (n : Nat), ValL K s R ds vs → ValL K s R (ds.drop n) (vs.drop n)
  | _, _, 0, h => h
  | [], _, n + 1, h => by simp only [ValL] at h; subst h; simp [ValL]
  | d :: ds, _, n + 1, h => by
    simp only [ValL] at h
    obtain ⟨v, r, rfl, _, h3⟩ := h
    exact ValL.drop n h3
theorem ValL.take : ∀ {ds : List D} {vs : List V} (n : Nat), ValL K s R ds vs → ValL K s R (ds.take n) (vs.take n)
  | _, _, 0, h => by simp [ValL]
  | [], _, n + 1, h => by simp only [ValL] at h; subst h; simp [ValL]
  | d :: ds, _, n + 1, h => by
    simp only [ValL] at h
    obtain ⟨v, r, rfl, h2, h3⟩ := h
    simp only [List.take_succ_cons, ValL]
    exact ⟨_, _, rfl, h2, ValL.take n h3⟩
theorem ValL.reverse {ds : List D} {vs : List V} (h : ValL K s R ds vs) : ValL K s R ds.reverse vs.reverse := by
  induction ds generalizing vs with
  | nil => simp only [ValL] at h; subst h; simp [ValL]
  | cons d ds ih =>
    simp only [ValL] at h
    obtain ⟨v, r, rfl, h2, h3⟩ := h
    simp only [List.reverse_cons]
    refine (ih h3).append ?_
    simp only [ValL]
    exact ⟨_, _, rfl, h2, rfl⟩
end

/-- a tree of owned lists, tuples, instances; its leaves frozen deep values -/
inductive T where
  | fz (d : D) | lst (ts : List T) | tup (ts : List T) | ins (C : Str) (ns : List Str) (ts : List T)

mutual
def T.er : T → D
  | .fz d => d
  | .lst ts => .lst (T.ers ts)
  | .tup ts => .tup (T.ers ts)
  | .ins C ns ts => .obj C ns (T.ers ts)
def T.ers : List T → List D
  | [] => []
  | t :: ts => t.er :: T.ers ts
end
theorem T.ers_map : ∀ ts : List T, T.ers ts = ts.map T.er
  | [] => rfl
  | t :: ts => by simp only [T.ers, List.map_cons, T.ers_map ts]

/-- a scalar deep value: nothing of the heap in it -/
def D.scal : D → Bool
  | .non | .bl _ | .int _ | .str _ | .ty _ | .sto => true
  | _ => false
mutual
/-- all leaves are scalars -/
def T.pure : T → Bool
  | .fz d => d.scal
  | .lst ts => T.pures ts
  | .tup ts => T.pures ts
  | .ins _ _ ts => T.pures ts
def T.pures : List T → Bool
  | [] => true
  | t :: ts => t.pure && T.pures ts
end

mutual
def OVal (K : PySem.W.Frag) (s : Sto) (R H : Hp) : T → V → List Addr → Prop
  | .fz d, v, S => S = [] ∧ Val K s R d v
  | .lst ts, v, S => ∃ p vs S', v = .ref p ∧ S = p :: S' ∧ H p = some (.lst vs) ∧ OValL K s R H ts vs S'
  | .tup ts, v, S => ∃ p vs S', v = .ref p ∧ S = p :: S' ∧ H p = some (.tup vs) ∧ OValL K s R H ts vs S'
  | .ins C ns ts, v, S => ∃ p dx vs S', v = .ref p ∧ S = p :: S' ∧ H p = some (.ins (He.ga K C) dx (ns.zip vs)) ∧ OValL K s R H ts vs S'
def OValL (K : PySem.W.Frag) (s : Sto) (R H : Hp) : List T → List V → List Addr → Prop
  | [], vs, S => vs = [] ∧ S = []
  | t :: ts, vs, S => ∃ v r S1 S2, vs = v :: r ∧ S = S1 ++ S2 ∧ OVal K s R H t v S1 ∧ OValL K s R H ts r S2
end

mutual
theorem OVal.mono {K : PySem.W.Frag} {s : Sto} {R R' H H' : Hp} (e : Sub R R') : ∀ {t : T} {v : V} {S : List Addr}, (∀ a ∈ S, H' a = H a) → OVal K s R H t v S → OVal K s R' H' t v S
  | .fz d, v, S, _, h => by
    simp only [OVal] at h ⊢
    exact ⟨h.1, h.2.mono e⟩
  | .lst ts, v, S, k, h => by
    simp only [OVal] at h ⊢
    obtain ⟨p, vs, S', h1, rfl, h3, h4⟩ := h
    exact ⟨p, vs, S', h1, rfl, by rw [k p (List.mem_cons_self ..)]; exact h3, OValL.mono e (fun a ha => k a (List.mem_cons_of_mem _ ha)) h4⟩
  | .tup ts, v, S, k, h => by
    simp only [OVal] at h ⊢
    obtain ⟨p, vs, S', h1, rfl, h3, h4⟩ := h
    exact ⟨p, vs, S', h1, rfl, by rw [k p (List.mem_cons_self ..)]; exact h3, OValL.mono e (fun a ha => k a (List.mem_cons_of_mem _ ha)) h4⟩
  | .ins C ns ts, v, S, k, h => by
    simp only [OVal] at h ⊢
    obtain ⟨p, dx, vs, S', h1, rfl, h3, h4⟩ := h
    exact ⟨p, dx, vs, S', h1, rfl, by rw [k p (List.mem_cons_self ..)]; exact h3, OValL.mono e (fun a ha => k a (List.mem_cons_of_mem _ ha)) h4⟩
theorem OValL.mono {K : PySem.W.Frag} {s : Sto} {R R' H H' : Hp} (e : Sub R R') : ∀ {ts : List T} {vs : List V} {S : List Addr}, (∀ a ∈ S, H' a = H a) → OValL K s R H ts vs S → OValL K s R' H' ts vs S
  | [], _, _, _, h => by simpa [OValL] using h
  | t :: ts, _, _, k, h => by
    simp only [OValL] at h ⊢
    obtain ⟨v, r, S1, S2, h1, rfl, h3, h4⟩ := h
    exact ⟨v, r, S1, S2, h1, rfl, OVal.mono e (fun a ha => k a (List.mem_append_left _ ha)) h3, OValL.mono e (fun a ha => k a (List.mem_append_right _ ha)) h4⟩
end

mutual
/-- an owned tree with scalar leaves asks nothing of the frozen region -/
theorem OVal.any {K : PySem.W.Frag} {s : Sto} {R R' H : Hp} : ∀ {t : T} {v : V} {S : List Addr}, t.pure = true → OVal K s R H t v S → OVal K s R' H t v S
  | .fz d, v, S, p, h => by
    simp only [OVal] at h ⊢
    refine ⟨h.1, ?_⟩
    cases d <;> first | (simp only [T.pure, D.scal] at p; cases p; done) | (simpa [Val] using h.2)
  | .lst ts, v, S, p, h => by
    simp only [OVal] at h ⊢
    obtain ⟨q, vs, S', h1, h2, h3, h4⟩ := h
    exact ⟨q, vs, S', h1, h2, h3, OValL.any (by simpa [T.pure] using p) h4⟩
  | .tup ts, v, S, p, h => by
    simp only [OVal] at h ⊢
    obtain ⟨q, vs, S', h1, h2, h3, h4⟩ := h
    exact ⟨q, vs, S', h1, h2, h3, OValL.any (by simpa [T.pure] using p) h4⟩
  | .ins C ns ts, v, S, p, h => by
    simp only [OVal] at h ⊢
    obtain ⟨q, dx, vs, S', h1, h2, h3, h4⟩ := h
    exact ⟨q, dx, vs, S', h1, h2, h3, OValL.any (by simpa [T.pure] using p) h4⟩
theorem OValL.any {K : PySem.W.Frag} {s : Sto} {R R' H : Hp} : ∀ {ts : List T} {vs : List V} {S : List Addr}, T.pures ts = true → OValL K s R H ts vs S → OValL K s R' H ts vs S
  | [], _, _, _, h => by simpa [OValL] using h
  | t :: ts, _, _, p, h => by
    simp only [OValL] at h ⊢
    obtain ⟨v, r, S1, S2, h1, h2, h3, h4⟩ := h
    have p' : t.pure = true ∧ T.pures ts = true := by simpa [T.pures] using p
    exact ⟨v, r, S1, S2, h1, h2, OVal.any p'.1 h3, OValL.any p'.2 h4⟩
end

mutual
/-- frozen: a region that holds the tree's own objects -/
theorem OVal.freeze {K : PySem.W.Frag} {s : Sto} {R R' H : Hp} (e : Sub R R') : ∀ {t : T} {v : V} {S : List Addr}, (∀ a ∈ S, R' a = H a) → OVal K s R H t v S → Val K s R' t.er v
  | .fz d, v, S, _, h => by
    simp only [OVal, T.er] at h ⊢
    exact h.2.mono e
  | .lst ts, v, S, k, h => by
    simp only [OVal, T.er, Val] at h ⊢
    obtain ⟨p, vs, S', h1, rfl, h3, h4⟩ := h
    exact ⟨p, vs, h1, by rw [k p (List.mem_cons_self ..)]; exact h3, OValL.freeze e (fun a ha => k a (List.mem_cons_of_mem _ ha)) h4⟩
  | .tup ts, v, S, k, h => by
    simp only [OVal, T.er, Val] at h ⊢
    obtain ⟨p, vs, S', h1, rfl, h3, h4⟩ := h
    exact ⟨p, vs, h1, by rw [k p (List.mem_cons_self ..)]; exact h3, OValL.freeze e (fun a ha => k a (List.mem_cons_of_mem _ ha)) h4⟩
  | .ins C ns ts, v, S, k, h => by
    simp only [OVal, T.er, Val] at h ⊢
    obtain ⟨p, dx, vs, S', h1, rfl, h3, h4⟩ := h
    exact ⟨p, dx, vs, h1, by rw [k p (List.mem_cons_self ..)]; exact h3, OValL.freeze e (fun a ha => k a (List.mem_cons_of_mem _ ha)) h4⟩
theorem OValL.freeze {K : PySem.W.Frag} {s : Sto} {R R' H : Hp} (e : Sub R R') : ∀ {ts : List T} {vs : List V} {S : List Addr}, (∀ a ∈ S, R' a = H a) → OValL K s R H ts vs S → ValL K s R' (T.ers ts) vs
  | [], _, _, _, h => by simp only [OValL, T.ers, ValL] at h ⊢; exact h.1
  | t :: ts, _, _, k, h => by
    simp only [OValL, T.ers, ValL] at h ⊢
    obtain ⟨v, r, S1, S2, h1, rfl, h3, h4⟩ := h
    exact ⟨v, r, h1, OVal.freeze e (fun a ha => k a (List.mem_append_left _ ha)) h3, OValL.freeze e (fun a ha => k a (List.mem_append_right _ ha)) h4⟩
end

section
variable {K : PySem.W.Frag} {s : Sto} {R H : Hp}
mutual
theorem OVal.there : ∀ {t : T} {v : V} {S : List Addr}, OVal K s R H t v S → ∀ a ∈ S, ∃ o, H a = some o
  | .fz d, v, S, h => by
    simp only [OVal] at h
    rw [h.1]
    intro a ha
    cases ha
  | .lst ts, v, S, h => by
    simp only [OVal] at h
    obtain ⟨p, vs, S', h1, rfl, h3, h4⟩ := h
    intro a ha
    rcases List.mem_cons.mp ha with rfl | ha
    · exact ⟨_, h3⟩
    · exact OValL.there h4 a ha
  | .tup ts, v, S, h => by
    simp only [OVal] at h
    obtain ⟨p, vs, S', h1, rfl, h3, h4⟩ := h
    intro a ha
    rcases List.mem_cons.mp ha with rfl | ha
    · exact ⟨_, h3⟩
    · exact OValL.there h4 a ha
  | .ins C ns ts, v, S, h => by
    simp only [OVal] at h
    obtain ⟨p, dx, vs, S', h1, rfl, h3, h4⟩ := h
    intro a ha
    rcases List.mem_cons.mp ha with rfl | ha
    · exact ⟨_, h3⟩
    · exact OValL.there h4 a ha
theorem OValL.there : ∀ {ts : List T} {vs : List V} {S : List Addr}, OValL K s R H ts vs S → ∀ a ∈ S, ∃ o, H a = some o
  | [], _, _, h => by
    simp only [OValL] at h
    rw [h.2]
    intro a ha
    cases ha
  | t :: ts, _, _, h => by
    simp only [OValL] at h
    obtain ⟨v, r, S1, S2, h1, rfl, h3, h4⟩ := h
    intro a ha
    rcases List.mem_append.mp ha with ha | ha
    · exact OVal.there h3 a ha
    · exact OValL.there h4 a ha
end
mutual
theorem OVal.nxd : ∀ {t : T} {v : V} {S : List Addr}, OVal K s R H t v S → ∀ a ∈ S, ∀ fs, H a ≠ some (.xd fs)
  | .fz d, v, S, h => by
    simp only [OVal] at h
    rw [h.1]
    intro a ha
    cases ha
  | .lst ts, v, S, h => by
    simp only [OVal] at h
    obtain ⟨p, vs, S', h1, rfl, h3, h4⟩ := h
    intro a ha
    rcases List.mem_cons.mp ha with rfl | ha
    · intro fs z; rw [h3] at z; cases z
    · exact OValL.nxd h4 a ha
  | .tup ts, v, S, h => by
    simp only [OVal] at h
    obtain ⟨p, vs, S', h1, rfl, h3, h4⟩ := h
    intro a ha
    rcases List.mem_cons.mp ha with rfl | ha
    · intro fs z; rw [h3] at z; cases z
    · exact OValL.nxd h4 a ha
  | .ins C ns ts, v, S, h => by
    simp only [OVal] at h
    obtain ⟨p, dx, vs, S', h1, rfl, h3, h4⟩ := h
    intro a ha
    rcases List.mem_cons.mp ha with rfl | ha
    · intro fs z; rw [h3] at z; cases z
    · exact OValL.nxd h4 a ha
theorem OValL.nxd : ∀ {ts : List T} {vs : List V} {S : List Addr}, OValL K s R H ts vs S → ∀ a ∈ S, ∀ fs, H a ≠ some (.xd fs)
  | [], _, _, h => by
    simp only [OValL] at h
    rw [h.2]
    intro a ha
    cases ha
  | t :: ts, _, _, h => by
    simp only [OValL] at h
    obtain ⟨v, r, S1, S2, h1, rfl, h3, h4⟩ := h
    intro a ha
    rcases List.mem_append.mp ha with ha | ha
    · exact OVal.nxd h3 a ha
    · exact OValL.nxd h4 a ha
end
theorem OValL.length : ∀ {ts : List T} {vs : List V} {S : List Addr}, OValL K s R H ts vs S → vs.length = ts.length
  | [], _, _, h => by simp only [OValL] at h; rw [h.1]; rfl
  | t :: ts, _, _, h => by
    simp only [OValL] at h
    obtain ⟨v, r, S1, S2, rfl, _, _, h4⟩ := h
    simp [OValL.length h4]
theorem OValL.append : ∀ {ts us : List T} {vs ws : List V} {S S' : List Addr}, OValL K s R H ts vs S → OValL K s R H us ws S' → OValL K s R H (ts ++ us) (vs ++ ws) (S ++ S')
  | [], _, _, _, _, _, h, h' => by
    simp only [OValL] at h
    obtain ⟨rfl, rfl⟩ := h
    exact h'
  | t :: ts, _, _, _, _, _, h, h' => by
    simp only [OValL] at h
    obtain ⟨v, r, S1, S2, rfl, rfl, h3, h4⟩ := h
    simp only [List.cons_append, OValL]
    exact ⟨v, _, S1, _, rfl, by rw [List.append_assoc], h3, OValL.append h4 h'⟩
theorem OValL.one {t : T} {v : V} {S : List Addr} (h : OVal K s R H t v S) : OValL K s R H [t] [v] S := by
  simp only [OValL]
  exact ⟨v, [], S, [], rfl, by simp, h, rfl, rfl⟩
/-- a place of an owned list, and what stands there instead -/
theorem OValL.focus : ∀ {ts : List T} {vs : List V} {S : List Addr} {j : Nat} {t : T}, OValL K s R H ts vs S → ts[j]? = some t →
    ∃ v Sa Sb Sc, vs[j]? = some v ∧ S = Sa ++ Sb ++ Sc ∧ OVal K s R H t v Sb ∧ ∀ (R' H' : Hp) (t' : T) (v' : V) (Sn : List Addr), Sub R R' → (∀ a ∈ Sa ++ Sc, H' a = H a) → OVal K s R' H' t' v' Sn →
      OValL K s R' H' (ts.set j t') (vs.set j v') (Sa ++ Sn ++ Sc)
  | [], _, _, _, _, _, e => by simp at e
  | t :: ts, _, _, 0, _, h, e => by
    simp only [OValL] at h
    obtain ⟨v, r, S1, S2, rfl, rfl, h3, h4⟩ := h
    simp at e
    subst e
    refine ⟨v, [], S1, S2, by simp, by simp, h3, fun R' H' t' v' Sn e k h' => ?_⟩
    simp only [List.set, OValL, List.nil_append]
    exact ⟨v', r, Sn, S2, rfl, rfl, h', h4.mono e fun a ha => k a (by simpa using ha)⟩
  | t :: ts, _, _, j + 1, _, h, e => by
    simp only [OValL] at h
    obtain ⟨v, r, S1, S2, rfl, rfl, h3, h4⟩ := h
    simp at e
    obtain ⟨w, Sa, Sb, Sc, e1, rfl, e3, e4⟩ := OValL.focus h4 e
    refine ⟨w, S1 ++ Sa, Sb, Sc, by simpa using e1, by simp [List.append_assoc], e3, fun R' H' t' v' Sn e k h' => ?_⟩
    simp only [List.set, OValL]
    refine ⟨v, _, S1, Sa ++ Sn ++ Sc, rfl, by simp [List.append_assoc], h3.mono e fun a ha => k a (by simp [ha]), e4 R' H' t' v' Sn e (fun a ha => k a ?_) h'⟩
    rcases List.mem_append.mp ha with ha | ha <;> simp [ha]
theorem oval_fz {d : D} {v : V} : OVal K s R H (.fz d) v [] ↔ Val K s R d v := by simp [OVal]
theorem ovalL_fz : ∀ {ds : List D} {vs : List V}, ValL K s R ds vs → OValL K s R H (ds.map T.fz) vs []
  | [], _, h => by simp only [ValL] at h; subst h; simp [OValL]
  | d :: ds, _, h => by
    simp only [ValL] at h
    obtain ⟨v, r, rfl, h2, h3⟩ := h
    simp only [List.map_cons, OValL]
    exact ⟨v, r, [], [], rfl, rfl, by simpa [OVal] using h2, ovalL_fz h3⟩
theorem ers_fz (ds : List D) : T.ers (ds.map T.fz) = ds := by
  rw [T.ers_map, List.map_map]
  simp [Function.comp_def, T.er]
end

/-! ### the store of draws -/
def StoOk (K : PySem.W.Frag) (H : Hp) (s : Sto) : Prop := ∀ a b, s = some (a, b) → ∃ (ns : List Int) (i big cnt seed : Int),
  H a = some (.lst [.ref b, .int i, .int big, .int cnt, .int seed]) ∧ H b = some (.lst (ns.map V.int)) ∧ a ≠ b ∧ ns.length ≤ 63 ∧ 0 ≤ i ∧ i ≤ ns.length ∧ 0 ≤ big
theorem StoOk.same {K : PySem.W.Frag} {H H' : Hp} {s : Sto} (h : StoOk K H s) (e : Sub H H') : StoOk K H' s := fun a b q => by
  obtain ⟨ns, i, big, cnt, seed, h1, h2, h3, h4⟩ := h a b q
  exact ⟨ns, i, big, cnt, seed, e _ _ h1, e _ _ h2, h3, h4⟩
theorem sa_some {s : Sto} {a : Addr} (e : sa s = some a) : ∃ b, s = some (a, b) := by
  cases s with
  | none => cases e
  | some p =>
    obtain ⟨x, y⟩ := p
    simp only [sa, Option.map_some, Option.some.injEq] at e
    subst e
    exact ⟨y, rfl⟩
theorem StoOk.there {K : PySem.W.Frag} {H : Hp} {s : Sto} (h : StoOk K H s) {a : Addr} (e : sa s = some a) : ∃ o, H a = some o := by
  obtain ⟨b, e⟩ := sa_some e
  obtain ⟨ns, i, big, cnt, seed, h1, _⟩ := h a b e
  exact ⟨_, h1⟩
/-- the store is not of the region; its script's list is -/
def SR (R : Hp) (s : Sto) : Prop := ∀ a b, s = some (a, b) → R a = none ∧ R b ≠ none
theorem SR.at {R : Hp} {s : Sto} (h : SR R s) {a : Addr} (e : sa s = some a) : R a = none := by
  obtain ⟨b, e⟩ := sa_some e
  exact (h a b e).1

/-! ### steps -/
/-- from the heap H with the frozen region R to H' with R': all is kept but the store; R grows by new objects -/
structure Step (K : PySem.W.Frag) (s : Sto) (R H R' H' : Hp) : Prop where
  sub : Sub R R'
  inH : Sub R' H'
  new : ∀ a, R' a ≠ none → R a = none → H a = none
  same : ∀ a o, H a = some o → sa s ≠ some a → H' a = some o
  sto : StoOk K H' s
  sR : SR R' s
section
variable {K : PySem.W.Frag} {s : Sto} {R R1 R2 H H1 H2 : Hp}
theorem Step.free (st : Step K s R H R1 H1) (so : StoOk K H s) {a : Addr} (h : H1 a = none) : H a = none := by
  cases q : H a with
  | none => rfl
  | some o =>
    by_cases e : sa s = some a
    · obtain ⟨o', q'⟩ := st.sto.there e
      rw [h] at q'
      cases q'
    · rw [st.same a o q e] at h
      cases h
theorem Step.trans (so : StoOk K H s) (a : Step K s R H R1 H1) (b : Step K s R1 H1 R2 H2) : Step K s R H R2 H2 where
  sub := a.sub.trans b.sub
  inH := b.inH
  new := fun x h2 h0 => by
    cases q : R1 x with
    | none => exact a.free so (b.new x h2 q)
    | some o => exact a.new x (by rw [q]; simp) h0
  same := fun x o h e => b.same x o (a.same x o h e) e
  sto := b.sto
  sR := b.sR
/-- a new object is laid, and frozen -/
theorem Step.lay (inH : Sub R H) (so : StoOk K H s) (sR : SR R s) {p : Addr} {o : HO} (hp : H p = none) : Step K s R H (upd R p o) (upd H p o) where
  sub := fun a u e => by rw [upd_ne (ne_of_none (inH _ _ e) hp)]; exact e
  inH := fun a u e => by
    by_cases h : a = p
    · subst h; rw [upd_same] at e ⊢; exact e
    · rw [upd_ne h] at e ⊢; exact inH _ _ e
  new := fun a e e0 => by
    by_cases h : a = p
    · subst h; exact hp
    · rw [upd_ne h] at e; exact absurd e0 e
  same := fun a u e _ => by rw [upd_ne (ne_of_none e hp)]; exact e
  sto := so.same fun a u e => by rw [upd_ne (ne_of_none e hp)]; exact e
  sR := fun a b e => by
    obtain ⟨o', q⟩ := so.there (a := a) (by rw [e]; rfl)
    obtain ⟨h1, h2⟩ := sR a b e
    refine ⟨by rw [upd_ne (ne_of_none q hp)]; exact h1, ?_⟩
    by_cases z : b = p
    · rw [z, upd_same]; simp
    · rw [upd_ne z]; exact h2
/-- a new object is laid, and owned -/
theorem Step.own (inH : Sub R H) (so : StoOk K H s) (sR : SR R s) {p : Addr} {o : HO} (hp : H p = none) : Step K s R H R (upd H p o) where
  sub := fun _ _ e => e
  inH := fun a u e => by rw [upd_ne (ne_of_none (inH _ _ e) hp)]; exact inH _ _ e
  new := fun a e e0 => absurd e0 e
  same := fun a u e _ => by rw [upd_ne (ne_of_none e hp)]; exact e
  sto := so.same fun a u e => by rw [upd_ne (ne_of_none e hp)]; exact e
  sR := sR
theorem Step.stay (inH : Sub R H) (so : StoOk K H s) (sR : SR R s) : Step K s R H R H :=
  ⟨fun _ _ e => e, inH, fun _ e e0 => absurd e0 e, fun _ _ e _ => e, so, sR⟩
end
/-- the region with the objects at S -/
def frz (R H : Hp) (S : List Addr) : Hp := fun a => if a ∈ S then H a else R a
theorem frz_in {R H : Hp} {S : List Addr} {a : Addr} (h : a ∈ S) : frz R H S a = H a := if_pos h
theorem frz_out {R H : Hp} {S : List Addr} {a : Addr} (h : a ∉ S) : frz R H S a = R a := if_neg h
theorem frz_nil (R H : Hp) : frz R H [] = R := by funext a; simp [frz]

/-- what an expression hands back -/
structure ERes (K : PySem.W.Frag) (s : Sto) (R H R' H' : Hp) (t : T) (v : V) (S : List Addr) : Prop where
  st : Step K s R H R' H'
  val : OVal K s R' H' t v S
  nd : S.Nodup
  fresh : ∀ a ∈ S, H a = none ∧ R' a = none
/-- a list of such -/
structure EResL (K : PySem.W.Frag) (s : Sto) (R H R' H' : Hp) (ts : List T) (vs : List V) (S : List Addr) : Prop where
  st : Step K s R H R' H'
  val : OValL K s R' H' ts vs S
  nd : S.Nodup
  fresh : ∀ a ∈ S, H a = none ∧ R' a = none
section
variable {K : PySem.W.Frag} {s : Sto} {R R1 R2 H H1 H2 : Hp} {t : T} {v : V} {S : List Addr} {ts : List T} {vs : List V}
theorem Step.frz (st : Step K s R H R1 H1) (so : StoOk K H s) (fresh : ∀ a ∈ S, H a = none ∧ R1 a = none) (th : ∀ a ∈ S, ∃ o, H1 a = some o) : Step K s R H (AL.frz R1 H1 S) H1 where
  sub := fun a o e => by
    by_cases h : a ∈ S
    · have := st.sub a o e
      rw [(fresh a h).2] at this
      cases this
    · rw [frz_out h]; exact st.sub a o e
  inH := fun a o e => by
    by_cases h : a ∈ S
    · rw [frz_in h] at e; exact e
    · rw [frz_out h] at e; exact st.inH a o e
  new := fun a e e0 => by
    by_cases h : a ∈ S
    · exact (fresh a h).1
    · rw [frz_out h] at e; exact st.new a e e0
  same := st.same
  sto := st.sto
  sR := fun a b e => by
    obtain ⟨h1, h2⟩ := st.sR a b e
    constructor
    · by_cases h : a ∈ S
      · obtain ⟨o, q⟩ := so.there (a := a) (by rw [e]; rfl)
        rw [(fresh a h).1] at q
        cases q
      · rw [frz_out h]; exact h1
    · by_cases h : b ∈ S
      · exact absurd (fresh b h).2 h2
      · rw [frz_out h]; exact h2
theorem ERes.frz (e : ERes K s R H R1 H1 t v S) (so : StoOk K H s) : ∃ R', Step K s R H R' H1 ∧ Val K s R' t.er v := by
  refine ⟨AL.frz R1 H1 S, e.st.frz so e.fresh e.val.there, e.val.freeze (fun a o q => ?_) fun a ha => frz_in ha⟩
  by_cases h : a ∈ S
  · rw [(e.fresh a h).2] at q; cases q
  · rw [frz_out h]; exact q
theorem EResL.frz (e : EResL K s R H R1 H1 ts vs S) (so : StoOk K H s) : ∃ R', Step K s R H R' H1 ∧ ValL K s R' (T.ers ts) vs := by
  refine ⟨AL.frz R1 H1 S, e.st.frz so e.fresh e.val.there, e.val.freeze (fun a o q => ?_) fun a ha => frz_in ha⟩
  by_cases h : a ∈ S
  · rw [(e.fresh a h).2] at q; cases q
  · rw [frz_out h]; exact q
theorem Step.res (so : StoOk K H s) (a : Step K s R H R1 H1) (e : ERes K s R1 H1 R2 H2 t v S) : ERes K s R H R2 H2 t v S :=
  ⟨a.trans so e.st, e.val, e.nd, fun x h => ⟨a.free so (e.fresh x h).1, (e.fresh x h).2⟩⟩
theorem Step.resL (so : StoOk K H s) (a : Step K s R H R1 H1) (e : EResL K s R1 H1 R2 H2 ts vs S) : EResL K s R H R2 H2 ts vs S :=
  ⟨a.trans so e.st, e.val, e.nd, fun x h => ⟨a.free so (e.fresh x h).1, (e.fresh x h).2⟩⟩
theorem Step.val {d : D} (st : Step K s R H R1 H1) (h : Val K s R1 d v) : ERes K s R H R1 H1 (.fz d) v [] := ⟨st, oval_fz.mpr h, .nil, fun _ h => nomatch h⟩
/-- owned objects stand through a step -/
theorem Step.keep (st : Step K s R H R1 H1) (so : StoOk K H s) (th : ∀ a ∈ S, ∃ o, H a = some o) (ns : ∀ a ∈ S, sa s ≠ some a) : ∀ a ∈ S, H1 a = H a := fun a ha => by
  obtain ⟨o, q⟩ := th a ha
  rw [q, st.same a o q (ns a ha)]
/-- t, then ts -/
theorem ERes.cons {R0 H0 : Hp} {S' : List Addr} (so : StoOk K H s) (e : ERes K s R H R1 H1 t v S) (l : EResL K s R1 H1 R2 H2 ts vs S') : EResL K s R H R2 H2 (t :: ts) (v :: vs) (S ++ S') := by
  have nsS : ∀ a ∈ S, sa s ≠ some a := fun a ha q => by
    obtain ⟨o, z⟩ := so.there q
    rw [(e.fresh a ha).1] at z
    cases z
  have so1 := e.st.sto
  refine ⟨e.st.trans so l.st, ?_, ?_, fun a ha => ?_⟩
  · simp only [OValL]
    exact ⟨v, vs, S, S', rfl, rfl, e.val.mono l.st.sub (l.st.keep so1 e.val.there nsS), l.val⟩
  · refine List.nodup_append.mpr ⟨e.nd, l.nd, fun a ha b hb q => ?_⟩
    subst q
    obtain ⟨o, z⟩ := e.val.there a ha
    rw [(l.fresh a hb).1] at z
    cases z
  · rcases List.mem_append.mp ha with h | h
    · refine ⟨(e.fresh a h).1, ?_⟩
      cases q : R2 a with
      | none => rfl
      | some o =>
        obtain ⟨o', z⟩ := e.val.there a h
        have := l.st.new a (by rw [q]; simp) (e.fresh a h).2
        rw [z] at this
        cases this
    · exact ⟨e.st.free so (l.fresh a h).1, (l.fresh a h).2⟩
end
end AL

set_option Elab.async false
set_option linter.all false
set_option maxRecDepth 100000
set_option maxHeartbeats 4000000
/-! AL2: judgements of expressions over deep values -/
namespace AL
open PySem PySem.Spec PyProof.Rows L2

abbrev St := L2.St
abbrev En := List (Option D)
/-- an exception: its class by name, its fields -/
structure XD where
  name : Str
  fs : List (Str × V)
abbrev TQ := T → Prop
abbrev XQ := XD → Prop
abbrev RE := En → TQ → XQ → Prop
abbrev RT := En → (Bool → Prop) → XQ → Prop
abbrev RA := En → (List T → Prop) → XQ → Prop
abbrev RI := En → (List D → Prop) → XQ → Prop

def XVal (K : PySem.W.Frag) (H : Hp) (x : XD) (cls : Value) (d : Option Addr) : Prop :=
  cls = .ref (He.ga K x.name) ∧ ((x.fs = [] ∧ d = none) ∨ ∃ dd, d = some dd ∧ H dd = some (.xd x.fs))
structure EInv (K : PySem.W.Frag) (s : Sto) (R H : Hp) (ρ : En) (σ : St) : Prop where
  inH : Sub R H
  so : StoOk K H s
  sR : SR R s
  len : ρ.length = σ.length
  env : ∀ (i : Nat) (d : D), ρ[i]? = some (some d) → ∃ v, σ[i]? = some (some v) ∧ Val K s R d v
def KX (K : PySem.W.Frag) (s : Sto) (R H : Hp) (W : WX) (σ : St) (AX : XQ) : Prop :=
  ∀ R' H' x cls d, Step K s R H R' H' → XVal K R' x cls d → AX x → W cls d σ H'
def KE (K : PySem.W.Frag) (s : Sto) (R H : Hp) (AQ : TQ) (Q : VK) : Prop :=
  ∀ R' H' t v S, ERes K s R H R' H' t v S → AQ t → Q v H'
def cE (K : PySem.W.Frag) (W : WX) (r : RE) : TE := fun σ H Q => ∃ s R ρ AQ AX, EInv K s R H ρ σ ∧ r ρ AQ AX ∧ KE K s R H AQ Q ∧ KX K s R H W σ AX
def cT (K : PySem.W.Frag) (W : WX) (r : RT) : TT := fun σ H Q => ∃ s R ρ AQ AX, EInv K s R H ρ σ ∧ r ρ AQ AX ∧ (∀ R' H' b, Step K s R H R' H' → AQ b → Q b H') ∧ KX K s R H W σ AX
def cA (K : PySem.W.Frag) (W : WX) (r : RA) : TA := fun σ H Q => ∃ s R ρ AQ AX, EInv K s R H ρ σ ∧ r ρ AQ AX ∧ (∀ R' H' ts vs S, EResL K s R H R' H' ts vs S → AQ ts → Q vs H') ∧ KX K s R H W σ AX
abbrev JE (W : WX) (X : Cx) (e : Expr) (r : RE) : Prop := PE X e (cE X.K W r)
abbrev JT (W : WX) (X : Cx) (e : Expr) (r : RT) : Prop := PT X e (cT X.K W r)
abbrev JW (W : WX) (X : Cx) (e : Expr) (r : RT) : Prop := PW X e (cT X.K W r)
abbrev JA (W : WX) (X : Cx) (es : List Expr) (r : RA) : Prop := PA X es (cA X.K W r)

theorem PE.imp {X : Cx} {e : Expr} {t t' : TE} (h : PE X e t) (i : ∀ σ H Q, t' σ H Q → t σ H Q) : PE X e t' := ⟨fun pins s σ H Q I q => h.run pins s σ H Q I (i σ H Q q)⟩
theorem PT.imp {X : Cx} {e : Expr} {t t' : TT} (h : PT X e t) (i : ∀ σ H Q, t' σ H Q → t σ H Q) : PT X e t' := ⟨fun pins s σ H Q I q => h.run pins s σ H Q I (i σ H Q q)⟩
theorem PW.imp {X : Cx} {e : Expr} {t t' : TT} (h : PW X e t) (i : ∀ σ H Q, t' σ H Q → t σ H Q) : PW X e t' := ⟨fun wh pins s σ H Q I q => h.run wh pins s σ H Q I (i σ H Q q)⟩
theorem PA.imp {X : Cx} {es : List Expr} {t t' : TA} (h : PA X es t) (i : ∀ σ H Q, t' σ H Q → t σ H Q) : PA X es t' := ⟨fun pos pins s σ H Q I q => h.run pos pins s σ H Q I (i σ H Q q)⟩

section
variable {K : PySem.W.Frag} {s : Sto} {R R1 H H1 : Hp} {W : WX} {σ : St} {ρ : En} {AQ : TQ} {AX : XQ} {Q : VK}
theorem EInv.step (I : EInv K s R H ρ σ) (st : Step K s R H R1 H1) : EInv K s R1 H1 ρ σ :=
  ⟨st.inH, st.sto, st.sR, I.len, fun i d e => by
    obtain ⟨v, h1, h2⟩ := I.env i d e
    exact ⟨v, h1, h2.mono st.sub⟩⟩
theorem EInv.stay (I : EInv K s R H ρ σ) : Step K s R H R H := Step.stay I.inH I.so I.sR
theorem KX.step (k : KX K s R H W σ AX) (so : StoOk K H s) (st : Step K s R H R1 H1) : KX K s R1 H1 W σ AX :=
  fun R' H' x cls d s2 xv ax => k R' H' x cls d (st.trans so s2) xv ax
theorem KE.step (k : KE K s R H AQ Q) (so : StoOk K H s) (st : Step K s R H R1 H1) : KE K s R1 H1 AQ Q :=
  fun R' H' t v S e q => k R' H' t v S (st.res so e) q
/-- hand back a frozen value -/
theorem KE.val {d : D} {v : V} (k : KE K s R H AQ Q) (st : Step K s R H R H) (h : Val K s R d v) (q : AQ (.fz d)) : Q v H := k R H _ _ _ (st.val h) q
end

/-! ### operations by values -/
def Op1 (K : PySem.W.Frag) (f : D → TQ → Prop) (rr : V → Hp → VK → Prop) : Prop :=
  ∀ s R H d v AQ Q, Step K s R H R H → Val K s R d v → f d AQ → KE K s R H AQ Q → rr v H Q
def Op2 (K : PySem.W.Frag) (f : D → D → TQ → Prop) (rr : R2) : Prop :=
  ∀ s R H d e v w AQ Q, Step K s R H R H → Val K s R d v → Val K s R e w → f d e AQ → KE K s R H AQ Q → rr v w H Q
def OpN (K : PySem.W.Frag) (f : List D → TQ → Prop) (rr : List V → Hp → VK → Prop) : Prop :=
  ∀ s R H ds vs AQ Q, Step K s R H R H → ValL K s R ds vs → f ds AQ → KE K s R H AQ Q → rr vs H Q

def r1 (f : D → TQ → Prop) (a : RE) : RE := fun ρ AQ AX => a ρ (fun t => f t.er AQ) AX
def r2 (f : D → D → TQ → Prop) (a b : RE) : RE := fun ρ AQ AX => a ρ (fun t => b ρ (fun u => f t.er u.er AQ) AX) AX
def rN (f : List D → TQ → Prop) (a : RA) : RE := fun ρ AQ AX => a ρ (fun ts => f (T.ers ts) AQ) AX
def rT2 (f : D → D → TQ → Prop) (a b : RE) : RT := fun ρ AQ AX => a ρ (fun t => b ρ (fun u => f t.er u.er fun t => ∃ k, t = .fz (.bl k) ∧ AQ k) AX) AX

section
variable {K : PySem.W.Frag} {W : WX} {f : D → TQ → Prop} {g : D → D → TQ → Prop} {h : List D → TQ → Prop} {a b : RE} {ra : RA}
theorem c1 {rr : V → Hp → VK → Prop} (o : Op1 K f rr) (σ : St) (H : Hp) (Q : VK) (q : cE K W (r1 f a) σ H Q) : cE K W a σ H fun v H1 => rr v H1 Q := by
  obtain ⟨s, R, ρ, AQ, AX, I, q, kq, kx⟩ := q
  refine ⟨s, R, ρ, _, AX, I, q, fun R1 H1 t v S e q1 => ?_, kx⟩
  obtain ⟨R2, st, hv⟩ := e.frz I.so
  exact o s R2 H1 _ v AQ Q (Step.stay st.inH st.sto st.sR) hv q1 (kq.step I.so st)
theorem c2 {rr : R2} (o : Op2 K g rr) (σ : St) (H : Hp) (Q : VK) (q : cE K W (r2 g a b) σ H Q) : cE K W a σ H fun v H1 => cE K W b σ H1 fun w H2 => rr v w H2 Q := by
  obtain ⟨s, R, ρ, AQ, AX, I, q, kq, kx⟩ := q
  refine ⟨s, R, ρ, _, AX, I, q, fun R1 H1 t v S e q1 => ?_, kx⟩
  obtain ⟨R2, st, hv⟩ := e.frz I.so
  have I2 := I.step st
  refine ⟨s, R2, ρ, _, AX, I2, q1, fun R3 H3 u w S' e' q3 => ?_, kx.step I.so st⟩
  obtain ⟨R4, st', hw⟩ := e'.frz I2.so
  exact o s R4 H3 _ _ v w AQ Q (Step.stay st'.inH st'.sto st'.sR) (hv.mono st'.sub) hw q3 ((kq.step I.so st).step I2.so st')
theorem cN {rr : List V → Hp → VK → Prop} (o : OpN K h rr) (σ : St) (H : Hp) (Q : VK) (q : cE K W (rN h ra) σ H Q) : cA K W ra σ H fun vs H1 => rr vs H1 Q := by
  obtain ⟨s, R, ρ, AQ, AX, I, q, kq, kx⟩ := q
  refine ⟨s, R, ρ, _, AX, I, q, fun R1 H1 ts vs S e q1 => ?_, kx⟩
  obtain ⟨R2, st, hv⟩ := e.frz I.so
  exact o s R2 H1 _ vs AQ Q (Step.stay st.inH st.sto st.sR) hv q1 (kq.step I.so st)
/-- a test's reading from a value's -/
theorem cT2 {rr : R2} (o : Op2 K g rr) (σ : St) (H : Hp) (Q : Bool → Hp → Prop) (q : cT K W (rT2 g a b) σ H Q) :
    cE K W a σ H fun v H1 => cE K W b σ H1 fun w H2 => rr v w H2 fun x H' => ∃ k, x = .bl k ∧ Q k H' := by
  obtain ⟨s, R, ρ, AQ, AX, I, q, kq, kx⟩ := q
  refine c2 o σ H _ ⟨s, R, ρ, fun t => ∃ k, t = .fz (.bl k) ∧ AQ k, AX, I, q, fun R1 H1 t v S e q1 => ?_, kx⟩
  obtain ⟨k, rfl, q1⟩ := q1
  have e2 := e.val
  simp only [OVal, Val] at e2
  exact ⟨k, e2.2, kq R1 H1 k e.st q1⟩
end

section
variable {X : Cx} {W : WX} {e e1 e2 : Expr} {es : List Expr} {a b : RE} {ra : RA} {pos : Pos}

/-! ### names, constants -/
def rV (i : Nat) : RE := fun ρ AQ _ => match ρ[i]? with
  | some (some d) => AQ (.fz d)
  | _ => False
def rD (d : D) : RE := fun _ AQ _ => AQ (.fz d)
theorem je_var (i : Nat) {x : Str} (hN : X.N[i]? = some x := by rfl) (hv : Vis X.env.scope x := by first | exact Or.inl rfl | exact Or.inr (Or.inl rfl) | exact Or.inr (Or.inr rfl)) (hd : (x == ("__debug__" : Str)) = false := by decide)
    (hcd : (x == ("__classdict__" : Str)) = false := by decide) : JE W X (.Name x pos) (rV i) := by
  refine PE.imp (pe_var hN hv hd hcd) fun σ H Q q => ?_
  obtain ⟨s, R, ρ, AQ, AX, I, q, kq, kx⟩ := q
  unfold rV at q
  split at q
  · rename_i d e
    obtain ⟨v, h1, h2⟩ := I.env i d e
    exact ⟨v, h1, kq.val I.stay h2 q⟩
  · exact q.elim
theorem je_con {d : D} {v : V} (h : PE X e (tC v)) (hv : ∀ s R, Val X.K s R d v) : JE W X e (rD d) := by
  refine PE.imp h fun σ H Q q => ?_
  obtain ⟨s, R, ρ, AQ, AX, I, q, kq, kx⟩ := q
  exact kq.val I.stay (hv s R) q
theorem je_int {i : Int} {j : Nat} : JE W X (.Constant (.int i) j pos) (rD (.int i)) := je_con pe_int fun _ _ => by simp [Val]
theorem je_bl {b : Bool} {j : Nat} : JE W X (.Constant (.bool b) j pos) (rD (.bl b)) := je_con pe_bl fun _ _ => by simp [Val]
theorem je_non {j : Nat} : JE W X (.Constant .none j pos) (rD .non) := je_con pe_non fun _ _ => by simp [Val]
theorem je_str {x : Str} {j : Nat} : JE W X (.Constant (.str x) j pos) (rD (.str x)) := je_con pe_str fun _ _ => by simp [Val]
/-- a module's int -/
theorem je_gint {x : Str} {i : Int} (hg : Gl X x) (hm : ∃ t, X.mg x = some (.int i t)) (hdb : (x == ("__debug__" : Str)) = false := by decide) : JE W X (.Name x pos) (rD (.int i)) := by
  obtain ⟨t, hm⟩ := hm
  exact je_con (pe_glob (v := .int i) hg hm ⟨t, rfl⟩ hdb) fun _ _ => by simp [Val]
theorem je_gstr {x z : Str} (hg : Gl X x) (hm : ∃ t, X.mg x = some (.str z t)) (hdb : (x == ("__debug__" : Str)) = false := by decide) : JE W X (.Name x pos) (rD (.str z)) := by
  obtain ⟨t, hm⟩ := hm
  exact je_con (pe_glob (v := .str z) hg hm ⟨t, rfl⟩ hdb) fun _ _ => by simp [Val]

/-! ### operators -/
theorem je_op {op : Operator} {rr : R2} {g : D → D → TQ → Prop} (ho : OpR X (binaryOp op) rr) (o : Op2 X.K g rr) (h1 : JE W X e1 a) (h2 : JE W X e2 b) : JE W X (.BinOp e1 op e2 pos) (r2 g a b) := PE.imp (pe_op ho h1 h2) (c2 o)
theorem je_un {op : UnaryOp} {rr : V → Hp → VK → Prop} {f : D → TQ → Prop} (ho : UnR X (unaryOp op) rr) (o : Op1 X.K f rr) (h1 : JE W X e1 a) : JE W X (.UnaryOp op e1 pos) (r1 f a) := PE.imp (pe_un ho h1) (c1 o)
theorem je_cmp {op : CmpOp} {rr : R2} {g : D → D → TQ → Prop} (ho : OpR X (compareOp op) rr) (o : Op2 X.K g rr) (h1 : JE W X e1 a) (h2 : JE W X e2 b) (hm : behindInMarks op e2 = false) : JE W X (.Compare e1 [op] [e2] pos) (r2 g a b) := PE.imp (pe_cmpR ho h1 h2 hm) (c2 o)
theorem jt_cmp {op : CmpOp} {rr : R2} {g : D → D → TQ → Prop} (ho : OpR X (compareOp op) rr) (o : Op2 X.K g rr) (h1 : JE W X e1 a) (h2 : JE W X e2 b) (hm : behindInMarks op e2 = false) : JT W X (.Compare e1 [op] [e2] pos) (rT2 g a b) := PT.imp (pt_cmpR ho h1 h2 hm) (cT2 o)

def okInt (f : Int → Int → D) : D → D → TQ → Prop := fun d e AQ => match d, e with
  | .int i, .int j => AQ (.fz (f i j))
  | _, _ => False
def okIntC (C : Int → Int → Prop) (f : Int → Int → D) : D → D → TQ → Prop := fun d e AQ => match d, e with
  | .int i, .int j => C i j ∧ AQ (.fz (f i j))
  | _, _ => False
theorem op2_int {K : PySem.W.Frag} {f : Int → Int → D} {g : Int → Int → V} (h : ∀ i j s R, Val K s R (f i j) (g i j)) : Op2 K (okInt f) (rI0 g) := by
  intro s R H d e v w AQ Q st hv hw q k
  unfold okInt at q
  split at q
  · rename_i i j
    simp only [Val] at hv hw
    exact ⟨i, j, hv, hw, k.val st (h i j s R) q⟩
  · exact q.elim
theorem op2_intC {K : PySem.W.Frag} {C : Int → Int → Prop} {f : Int → Int → D} {g : Int → Int → V} (h : ∀ i j s R, Val K s R (f i j) (g i j)) : Op2 K (okIntC C f) (rI C g) := by
  intro s R H d e v w AQ Q st hv hw q k
  unfold okIntC at q
  split at q
  · rename_i i j
    simp only [Val] at hv hw
    exact ⟨i, j, hv, hw, q.1, k.val st (h i j s R) q.2⟩
  · exact q.elim
theorem Op2.or {K : PySem.W.Frag} {f g : D → D → TQ → Prop} {rr rr' : R2} (h : Op2 K f rr) (h' : Op2 K g rr') : Op2 K (fun d e AQ => f d e AQ ∨ g d e AQ) (fun x y H Q => rr x y H Q ∨ rr' x y H Q) := by
  intro s R H d e v w AQ Q st hv hw q k
  rcases q with q | q
  · exact .inl (h s R H d e v w AQ Q st hv hw q k)
  · exact .inr (h' s R H d e v w AQ Q st hv hw q k)

/-! ### owned results -/
theorem ERes.newLst {K : PySem.W.Frag} {s : Sto} {R H : Hp} {p : Addr} {vs : List V} {ds : List D} (st : Step K s R H R H) (hp : H p = none) (h : ValL K s R ds vs) : ERes K s R H R (upd H p (.lst vs)) (.lst (ds.map .fz)) (.ref p) [p] where
  st := Step.own st.inH st.sto st.sR hp
  val := by
    simp only [OVal]
    exact ⟨p, vs, [], rfl, rfl, upd_same, ovalL_fz h⟩
  nd := by simp
  fresh := fun a ha => by
    have e : a = p := by simpa using ha
    subst e
    refine ⟨hp, ?_⟩
    cases q : R a with
    | none => rfl
    | some o => rw [st.inH a o q] at hp; cases hp
theorem ERes.newTup {K : PySem.W.Frag} {s : Sto} {R H : Hp} {p : Addr} {vs : List V} {ds : List D} (st : Step K s R H R H) (hp : H p = none) (h : ValL K s R ds vs) : ERes K s R H (upd R p (.tup vs)) (upd H p (.tup vs)) (.fz (.tup ds)) (.ref p) [] where
  st := Step.lay st.inH st.sto st.sR hp
  val := by
    refine oval_fz.mpr ?_
    simp only [Val]
    exact ⟨p, vs, rfl, upd_same, h.mono (Step.lay st.inH st.sto st.sR hp).sub⟩
  nd := .nil
  fresh := fun _ h => nomatch h

/-! ### + : ints, lists, texts, tuples -/
def fAdd : D → D → TQ → Prop := fun d e AQ => match d, e with
  | .int i, .int j => AQ (.fz (.int (i + j)))
  | .lst ds, .lst es => ds.length + es.length ≤ 16777216 ∧ AQ (.lst ((ds ++ es).map .fz))
  | .str x, .str y => x.length + y.length ≤ 16777216 ∧ AQ (.fz (.str (x ++ y)))
  | _, _ => False
theorem op2_add {K : PySem.W.Frag} : Op2 K fAdd (fun x y H Q => (rI0 (fun i j => .int (i + j)) x y H Q ∨ rCat x y H Q) ∨ (∃ i j, x = .str i ∧ y = .str j ∧ i.length + j.length ≤ sizeLine ∧ Q (.str (i ++ j)) H)) := by
  intro s R H d e v w AQ Q st hv hw q k
  unfold fAdd at q
  split at q
  · rename_i i j
    simp only [Val] at hv hw
    exact .inl (.inl ⟨i, j, hv, hw, k.val st (d := .int (i + j)) (by simp [Val]) q⟩)
  · rename_i ds es
    simp only [Val] at hv hw
    obtain ⟨p, vs, rfl, hp, hvs⟩ := hv
    obtain ⟨p', ws, rfl, hp', hws⟩ := hw
    refine .inl (.inr ⟨p, p', vs, ws, rfl, rfl, st.inH _ _ hp, st.inH _ _ hp', ?_, fun r hr => ?_⟩)
    · rw [hvs.length, hws.length, sizeLine_eq]; exact q.1
    · exact k _ _ _ _ _ (ERes.newLst st hr (hvs.append hws)) q.2
  · rename_i x y
    simp only [Val] at hv hw
    exact .inr ⟨x, y, hv, hw, by rw [sizeLine_eq]; exact q.1, k.val st (d := .str (x ++ y)) (by simp [Val]) q.2⟩
  · exact q.elim
theorem je_add (h1 : JE W X e1 a) (h2 : JE W X e2 b) : JE W X (.BinOp e1 .Add e2 pos) (r2 fAdd a b) := je_op ((op_add.or op_cat).or op_add_str) op2_add h1 h2
def fSub : D → D → TQ → Prop := okInt fun i j => .int (i - j)
theorem je_sub (h1 : JE W X e1 a) (h2 : JE W X e2 b) : JE W X (.BinOp e1 .Sub e2 pos) (r2 fSub a b) := je_op op_sub (op2_int fun i j s R => by simp [Val]) h1 h2
def rep {α : Type} (xs : List α) (k : Int) : List α := (List.replicate k.toNat xs).flatten
def fMul : D → D → TQ → Prop := fun d e AQ => match d, e with
  | .int i, .int j => CMul i j ∧ AQ (.fz (.int (i * j)))
  | .lst ds, .int k => (-(2 ^ 62) ≤ k ∧ k < 2 ^ 62 ∧ ds.length * k.toNat ≤ 16777216) ∧ AQ (.lst ((rep ds k).map .fz))
  | _, _ => False
theorem ValL.rep {K : PySem.W.Frag} {s : Sto} {R : Hp} {ds : List D} {vs : List V} (h : ValL K s R ds vs) : ∀ n : Nat, ValL K s R (List.replicate n ds).flatten (List.replicate n vs).flatten
  | 0 => by simp [ValL]
  | n + 1 => by
    simp only [List.replicate_succ, List.flatten_cons]
    exact h.append (ValL.rep h n)
end
end AL

set_option Elab.async false
set_option linter.all false
set_option maxRecDepth 100000
set_option maxHeartbeats 4000000
/-! AL3: more rules of expressions -/
namespace AL
open PySem PySem.Spec PyProof.Rows L2
section
variable {X : Cx} {W : WX} {e e1 e2 : Expr} {es : List Expr} {a b : RE} {ra : RA} {pos : Pos} {K : PySem.W.Frag}

theorem op2_mul : Op2 K fMul (fun x y H Q => rI CMul (fun i j => .int (i * j)) x y H Q ∨ rRep x y H Q) := by
  intro s R H d e v w AQ Q st hv hw q k
  unfold fMul at q
  split at q
  · rename_i i j
    simp only [Val] at hv hw
    exact .inl ⟨i, j, hv, hw, q.1, k.val st (d := .int (i * j)) (by simp [Val]) q.2⟩
  · rename_i ds n
    simp only [Val] at hv hw
    obtain ⟨p, vs, rfl, hp, hvs⟩ := hv
    obtain ⟨⟨q1, q2, q3⟩, q4⟩ := q
    refine .inr ⟨p, n, vs, rfl, hw, st.inH _ _ hp, by omega, by omega, by rw [hvs.length, sizeLine_eq]; exact q3, fun r hr => ?_⟩
    exact k _ _ _ _ _ (ERes.newLst st hr (hvs.rep n.toNat)) q4
  · exact q.elim
theorem je_mul (h1 : JE W X e1 a) (h2 : JE W X e2 b) : JE W X (.BinOp e1 .Mult e2 pos) (r2 fMul a b) := je_op (op_mul.or op_rep) op2_mul h1 h2
def fDiv : D → D → TQ → Prop := okIntC CDiv fun i j => .int (i / j)
theorem je_div (h1 : JE W X e1 a) (h2 : JE W X e2 b) : JE W X (.BinOp e1 .FloorDiv e2 pos) (r2 fDiv a b) := je_op op_fdiv (op2_intC fun i j s R => by simp [Val]) h1 h2
def fMod : D → D → TQ → Prop := okIntC (fun _ j => 0 < j) fun i j => .int (i % j)
theorem je_mod (h1 : JE W X e1 a) (h2 : JE W X e2 b) : JE W X (.BinOp e1 .Mod e2 pos) (r2 fMod a b) := je_op op_mod (op2_intC fun i j s R => by simp [Val]) h1 h2
def CPowW (i j : Int) : Prop := 0 ≤ j ∧ decide ((Builtin.Int.intBits i : Int) * j ≤ 2 ^ 27) = true
theorem op_powW : OpR X (binaryOp .Pow) (rI CPowW fun i j => .int (i ^ j.toNat)) := opI fun _ _ _ _ _ _ _ hc q => pow_int hc.1 (of_decide_eq_true hc.2) q
def fPow : D → D → TQ → Prop := okIntC CPowW fun i j => .int (i ^ j.toNat)
theorem je_pow (h1 : JE W X e1 a) (h2 : JE W X e2 b) : JE W X (.BinOp e1 .Pow e2 pos) (r2 fPow a b) := je_op op_powW (op2_intC fun i j s R => by simp [Val]) h1 h2
def fNeg : D → TQ → Prop := fun d AQ => match d with
  | .int i => AQ (.fz (.int (-i)))
  | _ => False
theorem je_neg (h1 : JE W X e1 a) : JE W X (.UnaryOp .USub e1 pos) (r1 fNeg a) := je_un un_neg (by
  intro s R H d v AQ Q st hv q k
  unfold fNeg at q
  split at q
  · simp only [Val] at hv
    exact ⟨_, hv, k.val st (by simp [Val]) q⟩
  · exact q.elim) h1

/-! ### comparisons of ints -/
def fLt : D → D → TQ → Prop := okInt fun i j => .bl (decide (i < j))
def fLe : D → D → TQ → Prop := okInt fun i j => .bl (decide (i ≤ j))
def fGt : D → D → TQ → Prop := okInt fun i j => .bl (decide (j < i))
def fGe : D → D → TQ → Prop := okInt fun i j => .bl (decide (j ≤ i))
theorem o_lt : Op2 K fLt (rI0 fun i j => .bl (decide (i < j))) := op2_int fun i j s R => by simp [Val]
theorem o_le : Op2 K fLe (rI0 fun i j => .bl (decide (i ≤ j))) := op2_int fun i j s R => by simp [Val]
theorem o_gt : Op2 K fGt (rI0 fun i j => .bl (decide (j < i))) := op2_int fun i j s R => by simp [Val]
theorem o_ge : Op2 K fGe (rI0 fun i j => .bl (decide (j ≤ i))) := op2_int fun i j s R => by simp [Val]
theorem je_lt (h1 : JE W X e1 a) (h2 : JE W X e2 b) : JE W X (.Compare e1 [.Lt] [e2] pos) (r2 fLt a b) := je_cmp op_lt o_lt h1 h2 (nomark _)
theorem je_le (h1 : JE W X e1 a) (h2 : JE W X e2 b) : JE W X (.Compare e1 [.LtE] [e2] pos) (r2 fLe a b) := je_cmp op_le o_le h1 h2 (nomark _)
theorem je_gt (h1 : JE W X e1 a) (h2 : JE W X e2 b) : JE W X (.Compare e1 [.Gt] [e2] pos) (r2 fGt a b) := je_cmp op_gt o_gt h1 h2 (nomark _)
theorem je_ge (h1 : JE W X e1 a) (h2 : JE W X e2 b) : JE W X (.Compare e1 [.GtE] [e2] pos) (r2 fGe a b) := je_cmp op_ge o_ge h1 h2 (nomark _)

/-! ### ==, != of data -/
mutual
def D.py : D → PyData
  | .non => .none | .bl b => .bool b | .int i => .int i | .str x => .str x
  | .lst ds => .list (D.pys ds) | .tup ds => .tuple (D.pys ds)
  | _ => .none
def D.pys : List D → List PyData
  | [] => []
  | d :: ds => d.py :: D.pys ds
end
mutual
def D.dat : D → Bool
  | .non | .bl _ | .int _ | .str _ => true
  | .lst ds | .tup ds => D.dats ds
  | _ => false
def D.dats : List D → Bool
  | [] => true
  | d :: ds => d.dat && D.dats ds
end
mutual
theorem Val.dp {s : Sto} {R H : Hp} (e : Sub R H) : ∀ {d : D} {v : V}, d.dat = true → Val K s R d v → Dp K H v d.py
  | .non, _, _, h => by simp only [Val] at h; subst h; exact .non
  | .bl b, _, _, h => by simp only [Val] at h; subst h; exact .bl b
  | .int i, _, _, h => by simp only [Val] at h; subst h; exact .int i
  | .str x, _, _, h => by simp only [Val] at h; subst h; exact .str x
  | .lst ds, _, p, h => by
    simp only [Val] at h
    obtain ⟨a, vs, rfl, h2, h3⟩ := h
    exact .lst (SqL.of (e _ _ h2)) (ValL.dp e (by simpa [D.dat] using p) h3)
  | .tup ds, _, p, h => by
    simp only [Val] at h
    obtain ⟨a, vs, rfl, h2, h3⟩ := h
    exact .tup (SqT.of (e _ _ h2)) (ValL.dp e (by simpa [D.dat] using p) h3)
  | .ty _, _, p, _ | .sto, _, p, _ | .scr _ _, _, p, _ | .obj _ _ _, _, p, _ | .exn _ _ _, _, p, _ => by simp [D.dat] at p
theorem ValL.dp {s : Sto} {R H : Hp} (e : Sub R H) : ∀ {ds : List D} {vs : List V}, D.dats ds = true → ValL K s R ds vs → DpAll K H vs (D.pys ds)
  | [], _, _, h => by simp only [ValL] at h; subst h; exact .nil
  | d :: ds, _, p, h => by
    simp only [ValL] at h
    obtain ⟨v, r, rfl, h2, h3⟩ := h
    have p' : d.dat = true ∧ D.dats ds = true := by simpa [D.dats] using p
    exact .cons (Val.dp e p'.1 h2) (ValL.dp e p'.2 h3)
end
/-- comparable as data -/
def D.shp (d : D) : Prop := d.dat = true ∧ SeqAt.shaped d.py = true
def fEq : D → D → TQ → Prop := fun d e AQ => match d, e with
  | .int i, .int j => AQ (.fz (.bl (decide (i = j))))
  | .str x, .str y => AQ (.fz (.bl (decide (x = y))))
  | .bl x, .bl y => AQ (.fz (.bl (decide (x = y))))
  | .non, .int _ => AQ (.fz (.bl false))
  | .int _, .non => AQ (.fz (.bl false))
  | d, e => d.shp ∧ e.shp ∧ AQ (.fz (.bl (PyData.eqv d.py e.py)))
def fNe : D → D → TQ → Prop := fun d e AQ => match d, e with
  | .int i, .int j => AQ (.fz (.bl (!decide (i = j))))
  | .str x, .str y => AQ (.fz (.bl (!decide (x = y))))
  | .bl x, .bl y => AQ (.fz (.bl (!decide (x = y))))
  | .non, .int _ => AQ (.fz (.bl true))
  | .int _, .non => AQ (.fz (.bl true))
  | d, e => d.shp ∧ e.shp ∧ AQ (.fz (.bl (!PyData.eqv d.py e.py)))
theorem o_eq : Op2 K fEq (fun x y H Q => rEq x y H Q ∨ rEqD K x y H Q) := by
  intro s R H d e v w AQ Q st hv hw q k
  unfold fEq at q
  split at q
  · rename_i i j
    simp only [Val] at hv hw
    subst hv hw
    exact .inl ⟨rfl, by rw [show decide (V.int i = V.int j) = decide (i = j) by simp]; exact k.val st (d := .bl _) (by simp [Val]) q⟩
  · rename_i i j
    simp only [Val] at hv hw
    subst hv hw
    exact .inl ⟨rfl, by rw [show decide (V.str i = V.str j) = decide (i = j) by simp]; exact k.val st (d := .bl _) (by simp [Val]) q⟩
  · rename_i i j
    simp only [Val] at hv hw
    subst hv hw
    exact .inl ⟨rfl, by rw [show decide (V.bl i = V.bl j) = decide (i = j) by simp]; exact k.val st (d := .bl _) (by simp [Val]) q⟩
  · simp only [Val] at hv hw
    subst hv hw
    exact .inl ⟨rfl, by rw [decide_eq_false (by simp)]; exact k.val st (d := .bl _) (by simp [Val]) q⟩
  · simp only [Val] at hv hw
    subst hv hw
    exact .inl ⟨rfl, by rw [decide_eq_false (by simp)]; exact k.val st (d := .bl _) (by simp [Val]) q⟩
  · obtain ⟨⟨q1, q2⟩, ⟨q3, q4⟩, q⟩ := q
    exact .inr ⟨_, _, Val.dp st.inH q1 hv, Val.dp st.inH q3 hw, q2, q4, k.val st (d := .bl _) (by simp [Val]) q⟩
theorem o_ne : Op2 K fNe (fun x y H Q => rNe x y H Q ∨ rNeD K x y H Q) := by
  intro s R H d e v w AQ Q st hv hw q k
  unfold fNe at q
  split at q
  · rename_i i j
    simp only [Val] at hv hw
    subst hv hw
    exact .inl ⟨rfl, by rw [show decide (V.int i = V.int j) = decide (i = j) by simp]; exact k.val st (d := .bl _) (by simp [Val]) q⟩
  · rename_i i j
    simp only [Val] at hv hw
    subst hv hw
    exact .inl ⟨rfl, by rw [show decide (V.str i = V.str j) = decide (i = j) by simp]; exact k.val st (d := .bl _) (by simp [Val]) q⟩
  · rename_i i j
    simp only [Val] at hv hw
    subst hv hw
    exact .inl ⟨rfl, by rw [show decide (V.bl i = V.bl j) = decide (i = j) by simp]; exact k.val st (d := .bl _) (by simp [Val]) q⟩
  · simp only [Val] at hv hw
    subst hv hw
    exact .inl ⟨rfl, by rw [decide_eq_false (by simp)]; exact k.val st (d := .bl _) (by simp [Val]) q⟩
  · simp only [Val] at hv hw
    subst hv hw
    exact .inl ⟨rfl, by rw [decide_eq_false (by simp)]; exact k.val st (d := .bl _) (by simp [Val]) q⟩
  · obtain ⟨⟨q1, q2⟩, ⟨q3, q4⟩, q⟩ := q
    exact .inr ⟨_, _, Val.dp st.inH q1 hv, Val.dp st.inH q3 hw, q2, q4, k.val st (d := .bl _) (by simp [Val]) q⟩
theorem je_eq (hu : X.A.units + 64 < cLine) (h1 : JE W X e1 a) (h2 : JE W X e2 b) : JE W X (.Compare e1 [.Eq] [e2] pos) (r2 fEq a b) := je_cmp (op_eq.or (op_eqD hu)) o_eq h1 h2 (nomark _)
theorem je_ne (hu : X.A.units + 64 < cLine) (h1 : JE W X e1 a) (h2 : JE W X e2 b) : JE W X (.Compare e1 [.NotEq] [e2] pos) (r2 fNe a b) := je_cmp (op_ne.or (op_neD hu)) o_ne h1 h2 (nomark _)

/-! ### in, not in: flat items -/
def D.flat : D → Bool
  | .non | .bl _ | .int _ | .str _ => true
  | _ => false
def D.eqF : D → D → Bool
  | .non, .non => true
  | .bl a, .bl b => a == b
  | .bl a, .int b => (if a then 1 else 0) == b
  | .int a, .bl b => a == (if b then 1 else 0)
  | .int a, .int b => a == b
  | .str a, .str b => a == b
  | _, _ => false
def D.isin (x : D) (ds : List D) : Bool := ds.any fun y => D.eqF y x
theorem flat_val {s : Sto} {R : Hp} {d : D} {v : V} (p : d.flat = true) (h : Val K s R d v) : flatV v = true := by
  cases d <;> simp only [D.flat] at p <;> first | (cases p; done) | (simp only [Val] at h; subst h; rfl)
theorem eqF_val {s : Sto} {R : Hp} {d e : D} {v w : V} (p : d.flat = true) (p' : e.flat = true) (h : Val K s R d v) (h' : Val K s R e w) : eqV v w = D.eqF d e := by
  cases d <;> simp only [D.flat] at p <;> first | (cases p; done) | skip
  all_goals (cases e <;> simp only [D.flat] at p' <;> first | (cases p'; done) | skip)
  all_goals (simp only [Val] at h h'; subst h h'; rfl)
theorem flats_val {s : Sto} {R : Hp} : ∀ {ds : List D} {vs : List V}, ds.all D.flat = true → ValL K s R ds vs → vs.all flatV = true
  | [], _, _, h => by simp only [ValL] at h; subst h; rfl
  | d :: ds, _, p, h => by
    simp only [ValL] at h
    obtain ⟨v, r, rfl, h2, h3⟩ := h
    have p' : d.flat = true ∧ ds.all D.flat = true := by simpa using p
    simp [flat_val p'.1 h2, flats_val p'.2 h3]
theorem isin_val {s : Sto} {R : Hp} {x : D} {v : V} (px : x.flat = true) (hx : Val K s R x v) : ∀ {ds : List D} {vs : List V}, ds.all D.flat = true → ValL K s R ds vs → inV v vs = D.isin x ds
  | [], _, _, h => by simp only [ValL] at h; subst h; rfl
  | d :: ds, _, p, h => by
    simp only [ValL] at h
    obtain ⟨w, r, rfl, h2, h3⟩ := h
    have p' : d.flat = true ∧ ds.all D.flat = true := by simpa using p
    have ih := isin_val px hx p'.2 h3
    unfold inV D.isin at ih ⊢
    rw [List.any_cons, List.any_cons, ih, eqF_val p'.1 px h2 hx]
def fIn (neg : Bool) : D → D → TQ → Prop := fun d e AQ => match e with
  | .lst ds => d.flat = true ∧ ds.all D.flat = true ∧ AQ (.fz (.bl (if neg then !D.isin d ds else D.isin d ds)))
  | .tup ds => d.flat = true ∧ ds.all D.flat = true ∧ AQ (.fz (.bl (if neg then !D.isin d ds else D.isin d ds)))
  | _ => False
theorem o_in {neg : Bool} : Op2 K (fIn neg) (rIn K neg) := by
  intro s R H d e v w AQ Q st hv hw q k
  unfold fIn at q
  split at q
  all_goals first
    | exact q.elim
    | (simp only [Val] at hw
       obtain ⟨p, vs, rfl, hp, hvs⟩ := hw
       obtain ⟨q1, q2, q⟩ := q
       refine ⟨p, vs, rfl, ?_, flat_val q1 hv, flats_val q2 hvs, ?_⟩
       · first | exact .inl (SqL.of (st.inH _ _ hp)) | exact .inr (SqT.of (st.inH _ _ hp))
       · rw [isin_val q1 hv q2 hvs]
         exact k.val st (d := .bl _) (by simp [Val]) q)
theorem je_in (h1 : JE W X e1 a) (h2 : JE W X e2 b) (hm : behindInMarks .In e2 = false := by with_unfolding_all rfl) : JE W X (.Compare e1 [.In] [e2] pos) (r2 (fIn false) a b) := je_cmp op_in_seq o_in h1 h2 hm
theorem je_notin (h1 : JE W X e1 a) (h2 : JE W X e2 b) (hm : behindInMarks .NotIn e2 = false := by with_unfolding_all rfl) : JE W X (.Compare e1 [.NotIn] [e2] pos) (r2 (fIn true) a b) := je_cmp op_notIn_seq o_in h1 h2 hm

/-! ### is None -/
def D.isNon : D → Bool
  | .non => true
  | _ => false
theorem non_val {s : Sto} {R : Hp} {d : D} {v : V} (h : Val K s R d v) : decide (v = .non) = d.isNon := by
  cases d <;> simp only [Val] at h <;> first
    | (subst h; rfl)
    | (obtain ⟨_, _, rfl⟩ := h; rfl)
    | (obtain ⟨_, rfl, _⟩ := h; rfl)
    | (obtain ⟨rfl, _⟩ := h; rfl)
    | (obtain ⟨_, _, rfl, _⟩ := h; rfl)
    | (obtain ⟨_, _, _, rfl, _⟩ := h; rfl)
def rIsNon (neg : Bool) (a : RE) : RE := fun ρ AQ AX => a ρ (fun t => AQ (.fz (.bl (if neg then !t.er.isNon else t.er.isNon)))) AX
theorem je_isN {j : Nat} {pos' : Pos} (h1 : JE W X e1 a) : JE W X (.Compare e1 [.Is] [.Constant .none j pos'] pos) (rIsNon false a) := by
  refine PE.imp (pe_cmp (pc_isN h1) (nomark _)) fun σ H Q q => c1 (f := fun d AQ => AQ (.fz (.bl d.isNon))) (rr := fun x H Q => Q (.bl (decide (x = .non))) H) ?_ σ H Q q
  intro s R H d v AQ Q st hv q k
  show Q (.bl (decide (v = .non))) H
  rw [non_val hv]
  exact k.val st (d := .bl _) (by simp [Val]) q
theorem je_notN {j : Nat} {pos' : Pos} (h1 : JE W X e1 a) : JE W X (.Compare e1 [.IsNot] [.Constant .none j pos'] pos) (rIsNon true a) := by
  refine PE.imp (pe_cmp (pc_notN h1) (nomark _)) fun σ H Q q => c1 (f := fun d AQ => AQ (.fz (.bl (!d.isNon)))) (rr := fun x H Q => Q (.bl (!decide (x = .non))) H) ?_ σ H Q q
  intro s R H d v AQ Q st hv q k
  show Q (.bl (!decide (v = .non))) H
  rw [non_val hv]
  exact k.val st (d := .bl _) (by simp [Val]) q

/-! ### tests -/
/-- a value that is a bool, as a test -/
def rTB (a : RE) : RT := fun ρ AQ AX => a ρ (fun t => ∃ k, t = .fz (.bl k) ∧ AQ k) AX
theorem cTB {σ : St} {H : Hp} {Q : Bool → Hp → Prop} (q : cT K W (rTB a) σ H Q) : cE K W a σ H fun x H' => ∃ k, x = .bl k ∧ Q k H' := by
  obtain ⟨s, R, ρ, AQ, AX, I, q, kq, kx⟩ := q
  refine ⟨s, R, ρ, _, AX, I, q, fun R1 H1 t v S e q1 => ?_, kx⟩
  obtain ⟨k, rfl, q1⟩ := q1
  have e2 := e.val
  simp only [OVal, Val] at e2
  exact ⟨k, e2.2, kq R1 H1 k e.st q1⟩
theorem jt_val (h : JE W X e a) (he : ∀ whole, isTrue e X.env whole = (do let v ← whole; standAt e.pos; holding [v] (truthy v)) := by intro _; rfl) : JT W X e (rTB a) := PT.imp (pt_val h he) fun σ H Q q => cTB q
/-- a comparison, as a test -/
theorem jt_of_cmp {op : CmpOp} {rr : R2} {g : D → D → TQ → Prop} (ho : OpR X (compareOp op) rr) (o : Op2 X.K g rr) (h1 : JE W X e1 a) (h2 : JE W X e2 b) (hm : behindInMarks op e2 = false) : JT W X (.Compare e1 [op] [e2] pos) (rTB (r2 g a b)) :=
  PT.imp (pt_cmpR ho h1 h2 hm) fun σ H Q q => c2 o σ H _ (cTB q)
theorem jt_lt (h1 : JE W X e1 a) (h2 : JE W X e2 b) : JT W X (.Compare e1 [.Lt] [e2] pos) (rTB (r2 fLt a b)) := jt_of_cmp op_lt o_lt h1 h2 (nomark _)
theorem jt_le (h1 : JE W X e1 a) (h2 : JE W X e2 b) : JT W X (.Compare e1 [.LtE] [e2] pos) (rTB (r2 fLe a b)) := jt_of_cmp op_le o_le h1 h2 (nomark _)
theorem jt_gt (h1 : JE W X e1 a) (h2 : JE W X e2 b) : JT W X (.Compare e1 [.Gt] [e2] pos) (rTB (r2 fGt a b)) := jt_of_cmp op_gt o_gt h1 h2 (nomark _)
theorem jt_ge (h1 : JE W X e1 a) (h2 : JE W X e2 b) : JT W X (.Compare e1 [.GtE] [e2] pos) (rTB (r2 fGe a b)) := jt_of_cmp op_ge o_ge h1 h2 (nomark _)
theorem jt_eq (hu : X.A.units + 64 < cLine) (h1 : JE W X e1 a) (h2 : JE W X e2 b) : JT W X (.Compare e1 [.Eq] [e2] pos) (rTB (r2 fEq a b)) := jt_of_cmp (op_eq.or (op_eqD hu)) o_eq h1 h2 (nomark _)
theorem jt_ne (hu : X.A.units + 64 < cLine) (h1 : JE W X e1 a) (h2 : JE W X e2 b) : JT W X (.Compare e1 [.NotEq] [e2] pos) (rTB (r2 fNe a b)) := jt_of_cmp (op_ne.or (op_neD hu)) o_ne h1 h2 (nomark _)
theorem jt_in (h1 : JE W X e1 a) (h2 : JE W X e2 b) (hm : behindInMarks .In e2 = false := by with_unfolding_all rfl) : JT W X (.Compare e1 [.In] [e2] pos) (rTB (r2 (fIn false) a b)) := jt_of_cmp op_in_seq o_in h1 h2 hm
theorem jt_notin (h1 : JE W X e1 a) (h2 : JE W X e2 b) (hm : behindInMarks .NotIn e2 = false := by with_unfolding_all rfl) : JT W X (.Compare e1 [.NotIn] [e2] pos) (rTB (r2 (fIn true) a b)) := jt_of_cmp op_notIn_seq o_in h1 h2 hm
theorem jt_isN {j : Nat} {pos' : Pos} (h1 : JE W X e1 a) : JT W X (.Compare e1 [.Is] [.Constant .none j pos'] pos) (rTB (rIsNon false a)) := by
  refine PT.imp (pt_cmp (pc_isN h1) (nomark _)) fun σ H Q q => c1 (f := fun d AQ => AQ (.fz (.bl d.isNon))) (rr := fun x H Q => Q (.bl (decide (x = .non))) H) ?_ σ H _ (cTB q)
  intro s R H d v AQ Q st hv q k
  show Q (.bl (decide (v = .non))) H
  rw [non_val hv]
  exact k.val st (d := .bl _) (by simp [Val]) q
theorem jt_notN {j : Nat} {pos' : Pos} (h1 : JE W X e1 a) : JT W X (.Compare e1 [.IsNot] [.Constant .none j pos'] pos) (rTB (rIsNon true a)) := by
  refine PT.imp (pt_cmp (pc_notN h1) (nomark _)) fun σ H Q q => c1 (f := fun d AQ => AQ (.fz (.bl (!d.isNon)))) (rr := fun x H Q => Q (.bl (!decide (x = .non))) H) ?_ σ H _ (cTB q)
  intro s R H d v AQ Q st hv q k
  show Q (.bl (!decide (v = .non))) H
  rw [non_val hv]
  exact k.val st (d := .bl _) (by simp [Val]) q
/-- the truth of a frozen value -/
def D.tru : D → (Bool → Prop) → Prop := fun d AQ => match d with
  | .non => AQ false
  | .bl b => AQ b
  | .int i => AQ (i != 0)
  | .str y => y.length ≤ 16777216 ∧ AQ ((y.length : Int) != 0)
  | .lst ds => AQ (!ds.isEmpty)
  | .tup ds => AQ (!ds.isEmpty)
  | _ => False
theorem valL_empty {s : Sto} {R : Hp} {ds : List D} {vs : List V} (h : ValL K s R ds vs) : vs.isEmpty = ds.isEmpty := by
  cases ds with
  | nil => simp only [ValL] at h; subst h; rfl
  | cons d ds => simp only [ValL] at h; obtain ⟨v, r, rfl, _⟩ := h; rfl
theorem tru_val {s : Sto} {R H : Hp} (st : Sub R H) {d : D} {v : V} {AQ : Bool → Prop} (h : Val K s R d v) (q : D.tru d AQ) : ∃ k, TruV K v H k ∧ AQ k := by
  unfold D.tru at q
  split at q
  · simp only [Val] at h; subst h; exact ⟨_, rfl, q⟩
  · simp only [Val] at h; subst h; exact ⟨_, rfl, q⟩
  · simp only [Val] at h; subst h; exact ⟨_, rfl, q⟩
  · simp only [Val] at h; subst h; exact ⟨_, ⟨by rw [sizeLine_eq]; exact q.1, rfl⟩, q.2⟩
  · simp only [Val] at h
    obtain ⟨p, vs, rfl, hp, hvs⟩ := h
    exact ⟨_, .inl ⟨vs, SqL.of (st _ _ hp), rfl⟩, by rw [valL_empty hvs]; exact q⟩
  · simp only [Val] at h
    obtain ⟨p, vs, rfl, hp, hvs⟩ := h
    exact ⟨_, .inr (.inl ⟨vs, SqT.of (st _ _ hp), rfl⟩), by rw [valL_empty hvs]; exact q⟩
  · exact q.elim
def rTru (a : RE) : RT := fun ρ AQ AX => a ρ (fun t => D.tru t.er AQ) AX
theorem jt_tru (h : JE W X e a) (he : ∀ whole, isTrue e X.env whole = (do let v ← whole; standAt e.pos; holding [v] (truthy v)) := by intro _; rfl) : JT W X e (rTru a) := by
  refine PT.imp (pt_truth h he) fun σ H Q q => ?_
  obtain ⟨s, R, ρ, AQ, AX, I, q, kq, kx⟩ := q
  refine ⟨s, R, ρ, _, AX, I, q, fun R1 H1 t v S e q1 => ?_, kx⟩
  obtain ⟨R2, st, hv⟩ := e.frz I.so
  obtain ⟨k, h1, h2⟩ := tru_val st.inH hv q1
  exact ⟨k, h1, kq R2 H1 k st h2⟩
def rNotT (a : RT) : RT := fun ρ AQ AX => a ρ (fun b => AQ (!b)) AX
theorem jt_not {a : RT} (h : JT W X e a) : JT W X (.UnaryOp .Not e pos) (rNotT a) := by
  refine PT.imp (pt_not h) fun σ H Q q => ?_
  obtain ⟨s, R, ρ, AQ, AX, I, q, kq, kx⟩ := q
  exact ⟨s, R, ρ, _, AX, I, q, fun R1 H1 b st q1 => kq R1 H1 _ st q1, kx⟩
def rAnd (a b : RT) : RT := fun ρ AQ AX => a ρ (fun k => if k = true then b ρ AQ AX else AQ false) AX
def rOr (a b : RT) : RT := fun ρ AQ AX => a ρ (fun k => if k = true then AQ true else b ρ AQ AX) AX
theorem jw_and1 {a : RT} (h : JT W X e a) : JW W X (.BoolOp .And [e] pos) a := pw_and1 h
theorem jw_or1 {a : RT} (h : JT W X e a) : JW W X (.BoolOp .Or [e] pos) a := pw_or1 h
theorem jw_and {a b : RT} {rest : List Expr} (h : JT W X e1 a) (h' : JW W X (.BoolOp .And (e2 :: rest) pos) b) : JW W X (.BoolOp .And (e1 :: e2 :: rest) pos) (rAnd a b) := by
  refine PW.imp (pw_and h h') fun σ H Q q => ?_
  obtain ⟨s, R, ρ, AQ, AX, I, q, kq, kx⟩ := q
  refine ⟨s, R, ρ, _, AX, I, q, fun R1 H1 k st q1 => ?_, kx⟩
  cases k with
  | false => exact kq R1 H1 _ st q1
  | true =>
    exact ⟨s, R1, ρ, AQ, AX, I.step st, q1, fun R2 H2 k st2 q2 => kq R2 H2 k (st.trans I.so st2) q2, kx.step I.so st⟩
theorem jw_or {a b : RT} {rest : List Expr} (h : JT W X e1 a) (h' : JW W X (.BoolOp .Or (e2 :: rest) pos) b) : JW W X (.BoolOp .Or (e1 :: e2 :: rest) pos) (rOr a b) := by
  refine PW.imp (pw_or h h') fun σ H Q q => ?_
  obtain ⟨s, R, ρ, AQ, AX, I, q, kq, kx⟩ := q
  refine ⟨s, R, ρ, _, AX, I, q, fun R1 H1 k st q1 => ?_, kx⟩
  cases k with
  | true => exact kq R1 H1 _ st q1
  | false =>
    exact ⟨s, R1, ρ, AQ, AX, I.step st, q1, fun R2 H2 k st2 q2 => kq R2 H2 k (st.trans I.so st2) q2, kx.step I.so st⟩
/-- .. as values (bools) -/
def rAndV (a b : RE) : RE := fun ρ AQ AX => a ρ (fun t => ∃ k, t = .fz (.bl k) ∧ if k = true then b ρ AQ AX else AQ (.fz (.bl false))) AX
def rOrV (a b : RE) : RE := fun ρ AQ AX => a ρ (fun t => ∃ k, t = .fz (.bl k) ∧ if k = true then AQ (.fz (.bl true)) else b ρ AQ AX) AX
theorem je_one {op : BoolOp} (h : JE W X e a) : JE W X (.BoolOp op [e] pos) a := pe_one h
theorem je_and {rest : List Expr} (h : JE W X e1 a) (h' : JE W X (.BoolOp .And (e2 :: rest) pos) b) : JE W X (.BoolOp .And (e1 :: e2 :: rest) pos) (rAndV a b) := by
  refine PE.imp (pe_and h h') fun σ H Q q => ?_
  obtain ⟨s, R, ρ, AQ, AX, I, q, kq, kx⟩ := q
  refine ⟨s, R, ρ, _, AX, I, q, fun R1 H1 t v S e q1 => ?_, kx⟩
  obtain ⟨k, rfl, q1⟩ := q1
  have e2 := e.val
  simp only [OVal, Val] at e2
  refine ⟨k, e2.2, ?_⟩
  cases k with
  | false => exact (kq.step I.so e.st).val (Step.stay e.st.inH e.st.sto e.st.sR) (d := .bl false) (by simp [Val]) q1
  | true => exact ⟨s, R1, ρ, AQ, AX, I.step e.st, q1, kq.step I.so e.st, kx.step I.so e.st⟩
theorem je_or {rest : List Expr} (h : JE W X e1 a) (h' : JE W X (.BoolOp .Or (e2 :: rest) pos) b) : JE W X (.BoolOp .Or (e1 :: e2 :: rest) pos) (rOrV a b) := by
  refine PE.imp (pe_or h h') fun σ H Q q => ?_
  obtain ⟨s, R, ρ, AQ, AX, I, q, kq, kx⟩ := q
  refine ⟨s, R, ρ, _, AX, I, q, fun R1 H1 t v S e q1 => ?_, kx⟩
  obtain ⟨k, rfl, q1⟩ := q1
  have e2 := e.val
  simp only [OVal, Val] at e2
  refine ⟨k, e2.2, ?_⟩
  cases k with
  | true => exact (kq.step I.so e.st).val (Step.stay e.st.inH e.st.sto e.st.sR) (d := .bl true) (by simp [Val]) q1
  | false => exact ⟨s, R1, ρ, AQ, AX, I.step e.st, q1, kq.step I.so e.st, kx.step I.so e.st⟩
def rNotV (a : RE) : RE := fun ρ AQ AX => a ρ (fun t => ∃ k, t = .fz (.bl k) ∧ AQ (.fz (.bl (!k)))) AX
theorem je_not (h : JE W X e a) : JE W X (.UnaryOp .Not e pos) (rNotV a) := by
  refine PE.imp (pe_not h) fun σ H Q q => ?_
  obtain ⟨s, R, ρ, AQ, AX, I, q, kq, kx⟩ := q
  refine ⟨s, R, ρ, _, AX, I, q, fun R1 H1 t v S e q1 => ?_, kx⟩
  obtain ⟨k, rfl, q1⟩ := q1
  have e2 := e.val
  simp only [OVal, Val] at e2
  exact ⟨k, e2.2, (kq.step I.so e.st).val (Step.stay e.st.inH e.st.sto e.st.sR) (d := .bl _) (by simp [Val]) q1⟩
def rIf (c : RT) (a b : RE) : RE := fun ρ AQ AX => c ρ (fun k => if k = true then a ρ AQ AX else b ρ AQ AX) AX
theorem je_ifExp {c : RT} {ec : Expr} (hc : JT W X ec c) (h1 : JE W X e1 a) (h2 : JE W X e2 b) : JE W X (.IfExp ec e1 e2 pos) (rIf c a b) := by
  refine PE.imp (pe_ifExp hc h1 h2) fun σ H Q q => ?_
  obtain ⟨s, R, ρ, AQ, AX, I, q, kq, kx⟩ := q
  refine ⟨s, R, ρ, _, AX, I, q, fun R1 H1 k st q1 => ?_, kx⟩
  cases k with
  | true => exact ⟨s, R1, ρ, AQ, AX, I.step st, q1, kq.step I.so st, kx.step I.so st⟩
  | false => exact ⟨s, R1, ρ, AQ, AX, I.step st, q1, kq.step I.so st, kx.step I.so st⟩
end
end AL

set_option Elab.async false
set_option linter.all false
set_option maxRecDepth 100000
set_option maxHeartbeats 4000000
/-! AL4: subscripts, displays, builtins -/
namespace AL
open PySem PySem.Spec PyProof.Rows L2
section
variable {X : Cx} {W : WX} {e e1 e2 : Expr} {es : List Expr} {a b : RE} {ra : RA} {pos : Pos} {K : PySem.W.Frag}

/-! ### argument lists, displays -/
def rNil : RA := fun _ AQ _ => AQ []
def rCons (a : RE) (r : RA) : RA := fun ρ AQ AX => a ρ (fun t => r ρ (fun ts => AQ (t :: ts)) AX) AX
theorem ja_nil : JA W X [] rNil := by
  refine PA.imp pa_nil fun σ H Q q => ?_
  obtain ⟨s, R, ρ, AQ, AX, I, q, kq, kx⟩ := q
  exact kq R H [] [] [] ⟨I.stay, by simp [OValL], .nil, fun _ h => nomatch h⟩ q
theorem ja_cons (h : JE W X e a) (hr : JA W X es ra) (hs : starEach (e :: es) X.env = (false, eval e X.env) :: starEach es X.env := by rfl) : JA W X (e :: es) (rCons a ra) := by
  refine PA.imp (pa_cons h hr hs) fun σ H Q q => ?_
  obtain ⟨s, R, ρ, AQ, AX, I, q, kq, kx⟩ := q
  refine ⟨s, R, ρ, _, AX, I, q, fun R1 H1 t v S e q1 => ?_, kx⟩
  exact ⟨s, R1, ρ, _, AX, I.step e.st, q1, fun R2 H2 ts vs S' l q2 => kq R2 H2 _ _ _ (ERes.cons (R0 := R) (H0 := H) I.so e l) q2, kx.step I.so e.st⟩
def rLst (r : RA) : RE := fun ρ AQ AX => r ρ (fun ts => ts.length ≤ 16777216 ∧ AQ (.lst ts)) AX
def rTupD (r : RA) : RE := fun ρ AQ AX => r ρ (fun ts => ts.length ≤ 16777216 ∧ AQ (.tup ts)) AX
theorem EResL.lay {s : Sto} {R H R1 H1 : Hp} {ts : List T} {vs : List V} {S : List Addr} {p : Addr} {o : HO} (so : StoOk K H s) (e : EResL K s R H R1 H1 ts vs S) (hp : H1 p = none) :
    Step K s R H R1 (upd H1 p o) ∧ OValL K s R1 (upd H1 p o) ts vs S ∧ (p :: S).Nodup ∧ ∀ a ∈ p :: S, H a = none ∧ R1 a = none := by
  have hS : ∀ a ∈ S, a ≠ p := fun a ha => by
    obtain ⟨o', q⟩ := e.val.there a ha
    exact ne_of_none q hp
  refine ⟨e.st.trans so (Step.own e.st.inH e.st.sto e.st.sR hp), e.val.mono (Sub.refl _) fun a ha => upd_ne (hS a ha), ?_, fun a ha => ?_⟩
  · exact List.nodup_cons.mpr ⟨fun h => hS p h rfl, e.nd⟩
  · rcases List.mem_cons.mp ha with rfl | h
    · refine ⟨e.st.free so hp, ?_⟩
      cases q : R1 a with
      | none => rfl
      | some o' => rw [e.st.inH a o' q] at hp; cases hp
    · exact e.fresh a h
theorem je_lst (h : JA W X es ra) : JE W X (.List es pos) (rLst ra) := by
  refine PE.imp (pe_lst h) fun σ H Q q => ?_
  obtain ⟨s, R, ρ, AQ, AX, I, q, kq, kx⟩ := q
  refine ⟨s, R, ρ, _, AX, I, q, fun R1 H1 ts vs S e q1 => ⟨by rw [e.val.length, sizeLine_eq]; exact q1.1, fun p hp => ?_⟩, kx⟩
  obtain ⟨h1, h2, h3, h4⟩ := e.lay (o := .lst vs) I.so hp
  refine kq R1 _ (.lst ts) _ (p :: S) ⟨h1, ?_, h3, h4⟩ q1.2
  simp only [OVal]
  exact ⟨p, vs, S, rfl, rfl, upd_same, h2⟩
theorem je_tup {x1 : Nat} (h : JA W X es ra) : JE W X (.Tuple es x1 pos) (rTupD ra) := by
  refine PE.imp (pe_tup h) fun σ H Q q => ?_
  obtain ⟨s, R, ρ, AQ, AX, I, q, kq, kx⟩ := q
  refine ⟨s, R, ρ, _, AX, I, q, fun R1 H1 ts vs S e q1 => ⟨by rw [e.val.length, sizeLine_eq]; exact q1.1, fun p hp => ?_⟩, kx⟩
  obtain ⟨h1, h2, h3, h4⟩ := e.lay (o := .tup vs) I.so hp
  refine kq R1 _ (.tup ts) _ (p :: S) ⟨h1, ?_, h3, h4⟩ q1.2
  simp only [OVal]
  exact ⟨p, vs, S, rfl, rfl, upd_same, h2⟩

/-! ### subscripts -/
theorem atI_val {s : Sto} {R : Hp} {ds : List D} {vs : List V} {i : Int} {d : D} (h : ValL K s R ds vs) (e : atI ds i = some d) : ∃ v, atI vs i = some v ∧ Val K s R d v := by
  unfold atI at e ⊢
  rw [h.length]
  cases q : ixN ds.length i with
  | none => rw [q] at e; cases e
  | some j =>
    rw [q] at e
    exact h.get e
def fIx : D → D → TQ → Prop := fun d e AQ => match d, e with
  | .lst ds, .int k => (match atI ds k with
    | some x => AQ (.fz x)
    | none => False)
  | .tup ds, .int k => (match atI ds k with
    | some x => AQ (.fz x)
    | none => False)
  | .scr _ ns, .int k => (match atI ns k with
    | some x => AQ (.fz (.int x))
    | none => False)
  | _, _ => False
theorem o_ix : Op2 K fIx (fun x y H Q => rIxL K x y H Q ∨ rIxT K x y H Q) := by
  intro s R H d e v w AQ Q st hv hw q k
  unfold fIx at q
  split at q
  · split at q
    · rename_i x e
      simp only [Val] at hv hw
      obtain ⟨p, vs, rfl, hp, hvs⟩ := hv
      obtain ⟨y, e1, e2⟩ := atI_val hvs e
      exact .inl ⟨p, vs, _, y, rfl, hw, SqL.of (st.inH _ _ hp), e1, k.val st e2 q⟩
    · exact q.elim
  · split at q
    · rename_i x e
      simp only [Val] at hv hw
      obtain ⟨p, vs, rfl, hp, hvs⟩ := hv
      obtain ⟨y, e1, e2⟩ := atI_val hvs e
      exact .inr ⟨p, vs, _, y, rfl, hw, SqT.of (st.inH _ _ hp), e1, k.val st e2 q⟩
    · exact q.elim
  · split at q
    · rename_i x e
      simp only [Val] at hv hw
      obtain ⟨p, rfl, hp, _⟩ := hv
      refine .inl ⟨p, _, _, .int x, rfl, hw, SqL.sub hp st.inH, ?_, k.val st (d := .int x) (by simp [Val]) q⟩
      unfold atI at e ⊢
      rw [List.length_map]
      cases z : ixN _ _ with
      | none => rw [z] at e; cases e
      | some j =>
        rw [z] at e
        simp only [Option.bind_some] at e ⊢
        rw [List.getElem?_map, e]
        rfl
    · exact q.elim
  · exact q.elim
theorem je_ix (h1 : JE W X e1 a) (h2 : JE W X e2 b) (hs : PlainIx e2 := by exact fun _ _ => rfl) : JE W X (.Subscript e1 e2 pos) (r2 fIx a b) := PE.imp (pe_ix (ix_list.or ix_tup) h1 h2 hs) (c2 o_ix)
/-- a part of a slice -/
def cP (K : PySem.W.Frag) (W : WX) (r : En → (Option Int → Prop) → XQ → Prop) : TO := fun σ H Q => ∃ s R ρ AQ AX, EInv K s R H ρ σ ∧ r ρ AQ AX ∧ (∀ R' H' o, Step K s R H R' H' → AQ o → Q o H') ∧ KX K s R H W σ AX
abbrev JP (W : WX) (X : Cx) (e : Option Expr) (r : En → (Option Int → Prop) → XQ → Prop) : Prop := PO X e (cP X.K W r)
def rPn : En → (Option Int → Prop) → XQ → Prop := fun _ AQ _ => AQ none
def rPs (a : RE) : En → (Option Int → Prop) → XQ → Prop := fun ρ AQ AX => a ρ (fun t => match t.er with
  | .int i => AQ (some i)
  | _ => False) AX
theorem jp_none : JP W X none rPn := ⟨fun pins s σ H Q I q => by
  obtain ⟨s', R, ρ, AQ, AX, I', q, kq, kx⟩ := q
  exact po_none.run pins s σ H Q I (kq R H none I'.stay q)⟩
theorem jp_some (h : JE W X e a) : JP W X (some e) (rPs a) := ⟨fun pins s σ H Q I q => by
  refine (po_some h).run pins s σ H Q I ?_
  obtain ⟨s', R, ρ, AQ, AX, I', q, kq, kx⟩ := q
  refine ⟨s', R, ρ, _, AX, I', q, fun R1 H1 t v S e q1 => ?_, kx⟩
  obtain ⟨R2, st, hv⟩ := e.frz I'.so
  dsimp only at q1
  split at q1
  · rename_i i ei
    rw [ei] at hv
    simp only [Val] at hv
    exact ⟨i, hv, kq R2 H1 _ st q1⟩
  · exact q1.elim⟩
/-- the items of a slice -/
def cut {α : Type} (xs : List α) (lo hi : Option Int) : List α := (xs.drop (HT.sIx xs.length 0 lo)).take (HT.sIx xs.length xs.length hi - HT.sIx xs.length 0 lo)
theorem ValL.cut {s : Sto} {R : Hp} {ds : List D} {vs : List V} (h : ValL K s R ds vs) (lo hi : Option Int) : ValL K s R (AL.cut ds lo hi) (cutV vs lo hi) := by
  unfold AL.cut cutV
  rw [h.length]
  exact (h.drop _).take _
def rSl (a : RE) (lo hi : En → (Option Int → Prop) → XQ → Prop) : RE := fun ρ AQ AX => a ρ (fun t => lo ρ (fun l => hi ρ (fun h => match t.er with
  | .lst ds => AQ (.lst ((cut ds l h).map .fz))
  | _ => False) AX) AX) AX
theorem je_slice {lo hi : Option Expr} {rl rh : En → (Option Int → Prop) → XQ → Prop} {p2 : Pos} (h : JE W X e a) (hl : JP W X lo rl) (hh : JP W X hi rh) : JE W X (.Subscript e (.Slice lo hi none p2) pos) (rSl a rl rh) := by
  refine PE.imp (pe_slice sl_list h hl hh) fun σ H Q q => ?_
  obtain ⟨s, R, ρ, AQ, AX, I, q, kq, kx⟩ := q
  refine ⟨s, R, ρ, _, AX, I, q, fun R1 H1 t v S e q1 => ?_, kx⟩
  obtain ⟨R2, st, hv⟩ := e.frz I.so
  have I2 := I.step st
  refine ⟨s, R2, ρ, _, AX, I2, q1, fun R3 H3 l st3 q3 => ?_, kx.step I.so st⟩
  have I3 := I2.step st3
  refine ⟨s, R3, ρ, _, AX, I3, q3, fun R4 H4 h st4 q4 => ?_, (kx.step I.so st).step I2.so st3⟩
  split at q4
  · rename_i ds ed
    rw [ed] at hv
    have hv4 := (hv.mono st3.sub).mono st4.sub
    simp only [Val] at hv4
    obtain ⟨p, vs, rfl, hp, hvs⟩ := hv4
    refine ⟨p, vs, rfl, SqL.of (st4.inH _ _ hp), fun r hr => ?_⟩
    exact (((kq.step I.so st).step I2.so st3).step I3.so st4) _ _ _ _ _ (ERes.newLst (Step.stay st4.inH st4.sto st4.sR) hr (hvs.cut l h)) q4
  · exact q4.elim

/-! ### builtins by values -/
def fLen : List D → TQ → Prop := fun ds AQ => match ds with
  | [.lst xs] => AQ (.fz (.int xs.length))
  | [.tup xs] => AQ (.fz (.int xs.length))
  | [.scr _ xs] => AQ (.fz (.int xs.length))
  | [.str x] => x.length ≤ 16777216 ∧ AQ (.fz (.int x.length))
  | _ => False
theorem valL1 {s : Sto} {R : Hp} {d : D} {vs : List V} (h : ValL K s R [d] vs) : ∃ v, vs = [v] ∧ Val K s R d v := by
  simp only [ValL] at h
  obtain ⟨v, r, rfl, h1, rfl⟩ := h
  exact ⟨v, rfl, h1⟩
theorem valL2 {s : Sto} {R : Hp} {d e : D} {vs : List V} (h : ValL K s R [d, e] vs) : ∃ v w, vs = [v, w] ∧ Val K s R d v ∧ Val K s R e w := by
  simp only [ValL] at h
  obtain ⟨v, r, rfl, h1, w, r', rfl, h2, rfl⟩ := h
  exact ⟨v, w, rfl, h1, h2⟩
theorem o_len : OpN K fLen (fun xs H Q => ∃ x n, xs = [x] ∧ LenV K x H n ∧ Q (.int n) H) := by
  intro s R H ds vs AQ Q st hv q k
  unfold fLen at q
  split at q
  · obtain ⟨v, rfl, h⟩ := valL1 hv
    simp only [Val] at h
    obtain ⟨p, ws, rfl, hp, hws⟩ := h
    refine ⟨_, ws.length, rfl, .inl ⟨ws, SqL.of (st.inH _ _ hp), rfl⟩, ?_⟩
    rw [hws.length]
    exact k.val st (d := .int _) (by simp [Val]) q
  · obtain ⟨v, rfl, h⟩ := valL1 hv
    simp only [Val] at h
    obtain ⟨p, ws, rfl, hp, hws⟩ := h
    refine ⟨_, ws.length, rfl, .inr ⟨ws, SqT.of (st.inH _ _ hp), rfl⟩, ?_⟩
    rw [hws.length]
    exact k.val st (d := .int _) (by simp [Val]) q
  · obtain ⟨v, rfl, h⟩ := valL1 hv
    simp only [Val] at h
    obtain ⟨p, rfl, hp, _⟩ := h
    refine ⟨_, _, rfl, .inl ⟨_, SqL.sub hp st.inH, rfl⟩, ?_⟩
    rw [List.length_map]
    exact k.val st (d := .int _) (by simp [Val]) q
  · obtain ⟨v, rfl, h⟩ := valL1 hv
    simp only [Val] at h
    subst h
    exact ⟨_, _, rfl, ⟨by rw [sizeLine_eq]; exact q.1, rfl⟩, k.val st (d := .int _) (by simp [Val]) q.2⟩
  · exact q.elim
theorem je_len {p : Pos} (hg : Gl X "len") (hm : X.mg "len" = none) (h : JE W X e a) (he : starEach [e] X.env = (false, eval e X.env) :: starEach [] X.env := by rfl) : JE W X (.Call (.Name "len" p) [e] [] pos) (rN fLen (rCons a rNil)) :=
  PE.imp (pe_callB call_len hg hm PySem.boot_len (ja_cons h ja_nil he) (he := he)) (cN o_len)
def fAbs : List D → TQ → Prop := fun ds AQ => match ds with
  | [.int i] => AQ (.fz (.int (if i < 0 then -i else i)))
  | _ => False
theorem je_abs {p : Pos} (hg : Gl X "abs") (hm : X.mg "abs" = none) (h : JE W X e a) (he : starEach [e] X.env = (false, eval e X.env) :: starEach [] X.env := by rfl) : JE W X (.Call (.Name "abs" p) [e] [] pos) (rN fAbs (rCons a rNil)) :=
  PE.imp (pe_callB call_abs hg hm (by decide +kernel) (ja_cons h ja_nil he) (he := he)) (cN (by
    intro s R H ds vs AQ Q st hv q k
    unfold fAbs at q
    split at q
    · obtain ⟨v, rfl, h⟩ := valL1 hv
      simp only [Val] at h
      subst h
      exact ⟨_, rfl, k.val st (d := .int _) (by simp [Val]) q⟩
    · exact q.elim))
def fMM (f : Int → Int → Int) : List D → TQ → Prop := fun ds AQ => match ds with
  | [.int i, .int j] => AQ (.fz (.int (f i j)))
  | _ => False
theorem o_mm {f : Int → Int → Int} : OpN K (fMM f) (fun xs H Q => ∃ i j, xs = [.int i, .int j] ∧ Q (.int (f i j)) H) := by
  intro s R H ds vs AQ Q st hv q k
  unfold fMM at q
  split at q
  · obtain ⟨v, w, rfl, h1, h2⟩ := valL2 hv
    simp only [Val] at h1 h2
    subst h1 h2
    exact ⟨_, _, rfl, k.val st (d := .int _) (by simp [Val]) q⟩
  · exact q.elim
theorem je_max2 {p : Pos} (hc : X.calm = true) (hg : Gl X "max") (hm : X.mg "max" = none) (h1 : JE W X e1 a) (h2 : JE W X e2 b) (he : starEach [e1, e2] X.env = (false, eval e1 X.env) :: starEach [e2] X.env := by rfl) (he2 : starEach [e2] X.env = (false, eval e2 X.env) :: starEach [] X.env := by rfl)
    (hpl : (backTo pos (starEach [e2] X.env)).any (·.1) = false := by rfl) : JE W X (.Call (.Name "max" p) [e1, e2] [] pos) (rN (fMM fun i j => max i j) (rCons a (rCons b rNil))) :=
  PE.imp (pe_callB (call_max2 hc) hg hm (by decide +kernel) (ja_cons h1 (ja_cons h2 ja_nil he2) he) (he := he) (hpl := hpl)) (by
    have e : (fun (i j : Int) => max i j) = fun i j => if j > i then j else i := by funext i j; split <;> omega
    rw [e]
    exact cN o_mm)
theorem je_min2 {p : Pos} (hc : X.calm = true) (hg : Gl X "min") (hm : X.mg "min" = none) (h1 : JE W X e1 a) (h2 : JE W X e2 b) (he : starEach [e1, e2] X.env = (false, eval e1 X.env) :: starEach [e2] X.env := by rfl) (he2 : starEach [e2] X.env = (false, eval e2 X.env) :: starEach [] X.env := by rfl)
    (hpl : (backTo pos (starEach [e2] X.env)).any (·.1) = false := by rfl) : JE W X (.Call (.Name "min" p) [e1, e2] [] pos) (rN (fMM fun i j => min i j) (rCons a (rCons b rNil))) :=
  PE.imp (pe_callB (call_min2 hc) hg hm (by decide +kernel) (ja_cons h1 (ja_cons h2 ja_nil he2) he) (he := he) (hpl := hpl)) (by
    have e : (fun (i j : Int) => min i j) = fun i j => if j < i then j else i := by funext i j; split <;> omega
    rw [e]
    exact cN o_mm)
/-- a list of ints -/
def D.ints? : List D → Option (List Int)
  | [] => some []
  | .int i :: ds => (D.ints? ds).map (i :: ·)
  | _ => none
theorem ints_eq : ∀ {ds : List D} {ns : List Int}, D.ints? ds = some ns → ds = ns.map D.int
  | [], ns, h => by simp only [D.ints?, Option.some.injEq] at h; subst h; rfl
  | d :: ds, ns, h => by
    cases d <;> simp only [D.ints?] at h <;> first | (cases h; done) | skip
    rename_i i
    cases q : D.ints? ds with
    | none => rw [q] at h; cases h
    | some ms =>
      rw [q] at h
      simp only [Option.map_some, Option.some.injEq] at h
      subst h
      rw [List.map_cons, ints_eq q]
theorem ints_map (ns : List Int) : D.ints? (ns.map D.int) = some ns := by
  induction ns with
  | nil => rfl
  | cons n ns ih => simp [D.ints?, ih]
def D.bls? : List D → Option (List Bool)
  | [] => some []
  | .bl i :: ds => (D.bls? ds).map (i :: ·)
  | _ => none
theorem bls_eq : ∀ {ds : List D} {ns : List Bool}, D.bls? ds = some ns → ds = ns.map D.bl
  | [], ns, h => by simp only [D.bls?, Option.some.injEq] at h; subst h; rfl
  | d :: ds, ns, h => by
    cases d <;> simp only [D.bls?] at h <;> first | (cases h; done) | skip
    rename_i i
    cases q : D.bls? ds with
    | none => rw [q] at h; cases h
    | some ms =>
      rw [q] at h
      simp only [Option.map_some, Option.some.injEq] at h
      subst h
      rw [List.map_cons, bls_eq q]
theorem bls_map (ns : List Bool) : D.bls? (ns.map D.bl) = some ns := by
  induction ns with
  | nil => rfl
  | cons n ns ih => simp [D.bls?, ih]
theorem valL_bls_inv {s : Sto} {R : Hp} : ∀ {ns : List Bool} {vs : List V}, ValL K s R (ns.map D.bl) vs → vs = ns.map V.bl
  | [], _, h => by simpa [ValL] using h
  | n :: ns, _, h => by
    simp only [List.map_cons, ValL, Val] at h
    obtain ⟨v, r, rfl, rfl, h3⟩ := h
    rw [List.map_cons, valL_bls_inv h3]
/-- a builtin over one list of ints -/
def fInts (g : List Int → TQ → Prop) : List D → TQ → Prop := fun ds AQ => match ds with
  | [.lst xs] => (match D.ints? xs with
    | some ns => g ns AQ
    | none => False)
  | _ => False
def fBls (g : List Bool → TQ → Prop) : List D → TQ → Prop := fun ds AQ => match ds with
  | [.lst xs] => (match D.bls? xs with
    | some ns => g ns AQ
    | none => False)
  | _ => False
theorem fInts_val {s : Sto} {R H : Hp} {g : List Int → TQ → Prop} {ds : List D} {vs : List V} {AQ : TQ} (st : Sub R H) (hv : ValL K s R ds vs) (q : fInts g ds AQ) : ∃ a ns, vs = [.ref a] ∧ SqL K H a (ns.map V.int) ∧ g ns AQ := by
  unfold fInts at q
  split at q
  · split at q
    · rename_i xs ns e
      obtain ⟨v, rfl, h⟩ := valL1 hv
      simp only [Val] at h
      obtain ⟨p, ws, rfl, hp, hws⟩ := h
      rw [ints_eq e] at hws
      have := valL_ints_inv hws
      subst this
      exact ⟨p, ns, rfl, SqL.of (st _ _ hp), q⟩
    · exact q.elim
  · exact q.elim
theorem fBls_val {s : Sto} {R H : Hp} {g : List Bool → TQ → Prop} {ds : List D} {vs : List V} {AQ : TQ} (st : Sub R H) (hv : ValL K s R ds vs) (q : fBls g ds AQ) : ∃ a ns, vs = [.ref a] ∧ SqL K H a (ns.map V.bl) ∧ g ns AQ := by
  unfold fBls at q
  split at q
  · split at q
    · rename_i xs ns e
      obtain ⟨v, rfl, h⟩ := valL1 hv
      simp only [Val] at h
      obtain ⟨p, ws, rfl, hp, hws⟩ := h
      rw [bls_eq e] at hws
      have := valL_bls_inv hws
      subst this
      exact ⟨p, ns, rfl, SqL.of (st _ _ hp), q⟩
    · exact q.elim
  · exact q.elim
def gSum : List Int → TQ → Prop := fun ns AQ => AQ (.fz (.int ns.sum))
def gMax : List Int → TQ → Prop := fun ns AQ => 0 < ns.length ∧ ∀ m, m ∈ ns → (∀ y ∈ ns, y ≤ m) → AQ (.fz (.int m))
def gMin : List Int → TQ → Prop := fun ns AQ => 0 < ns.length ∧ ∀ m, m ∈ ns → (∀ y ∈ ns, m ≤ y) → AQ (.fz (.int m))
def gSort : List Int → TQ → Prop := fun ns AQ => ∀ ns' : List Int, ns'.Perm ns → ns'.Pairwise (· ≤ ·) → AQ (.lst ((ns'.map D.int).map .fz))
theorem o_sum : OpN K (fInts gSum) (rSum K) := fun s R H ds vs AQ Q st hv q k => by
  obtain ⟨p, ns, h1, h2, q⟩ := fInts_val st.inH hv q
  exact ⟨p, ns, h1, h2, k.val st (d := .int _) (by simp [Val]) q⟩
theorem o_max : OpN K (fInts gMax) (rMax K) := fun s R H ds vs AQ Q st hv q k => by
  obtain ⟨p, ns, h1, h2, q⟩ := fInts_val st.inH hv q
  exact ⟨p, ns, h1, h2, q.1, fun m hm hle => k.val st (d := .int _) (by simp [Val]) (q.2 m hm hle)⟩
theorem o_min : OpN K (fInts gMin) (rMin K) := fun s R H ds vs AQ Q st hv q k => by
  obtain ⟨p, ns, h1, h2, q⟩ := fInts_val st.inH hv q
  exact ⟨p, ns, h1, h2, q.1, fun m hm hle => k.val st (d := .int _) (by simp [Val]) (q.2 m hm hle)⟩
theorem o_sort : OpN K (fInts gSort) (rSortedI K) := fun s R H ds vs AQ Q st hv q k => by
  obtain ⟨p, ns, h1, h2, q⟩ := fInts_val st.inH hv q
  exact ⟨p, ns, h1, h2, fun ns' r hp hs hr => k _ _ _ _ _ (ERes.newLst st hr (valL_ints ns')) (q ns' hp hs)⟩
def gAny : List Bool → TQ → Prop := fun ns AQ => AQ (.fz (.bl (ns.any id)))
def gAll : List Bool → TQ → Prop := fun ns AQ => AQ (.fz (.bl (ns.all id)))
theorem o_any : OpN K (fBls gAny) (rAny K) := fun s R H ds vs AQ Q st hv q k => by
  obtain ⟨p, ns, h1, h2, q⟩ := fBls_val st.inH hv q
  exact ⟨p, ns, h1, h2, k.val st (d := .bl _) (by simp [Val]) q⟩
theorem o_all : OpN K (fBls gAll) (rAll K) := fun s R H ds vs AQ Q st hv q k => by
  obtain ⟨p, ns, h1, h2, q⟩ := fBls_val st.inH hv q
  exact ⟨p, ns, h1, h2, k.val st (d := .bl _) (by simp [Val]) q⟩
section
variable {p : Pos}
theorem je_sum (hc : X.calm = true) (hg : Gl X "sum") (hm : X.mg "sum" = none) (h : JE W X e a) (he : starEach [e] X.env = (false, eval e X.env) :: starEach [] X.env := by rfl) : JE W X (.Call (.Name "sum" p) [e] [] pos) (rN (fInts gSum) (rCons a rNil)) :=
  PE.imp (pe_callB (cr_sum hc) hg hm (by decide +kernel) (ja_cons h ja_nil he) (he := he)) (cN o_sum)
theorem je_max (hc : X.calm = true) (hg : Gl X "max") (hm : X.mg "max" = none) (h : JE W X e a) (he : starEach [e] X.env = (false, eval e X.env) :: starEach [] X.env := by rfl) : JE W X (.Call (.Name "max" p) [e] [] pos) (rN (fInts gMax) (rCons a rNil)) :=
  PE.imp (pe_callB (cr_max hc) hg hm (by decide +kernel) (ja_cons h ja_nil he) (he := he)) (cN o_max)
theorem je_min (hc : X.calm = true) (hg : Gl X "min") (hm : X.mg "min" = none) (h : JE W X e a) (he : starEach [e] X.env = (false, eval e X.env) :: starEach [] X.env := by rfl) : JE W X (.Call (.Name "min" p) [e] [] pos) (rN (fInts gMin) (rCons a rNil)) :=
  PE.imp (pe_callB (cr_min hc) hg hm (by decide +kernel) (ja_cons h ja_nil he) (he := he)) (cN o_min)
theorem je_sorted (hg : Gl X "sorted") (hm : X.mg "sorted" = none) (h : JE W X e a) (he : starEach [e] X.env = (false, eval e X.env) :: starEach [] X.env := by rfl) : JE W X (.Call (.Name "sorted" p) [e] [] pos) (rN (fInts gSort) (rCons a rNil)) :=
  PE.imp (pe_callB cr_sortedI hg hm (by decide +kernel) (ja_cons h ja_nil he) (he := he)) (cN o_sort)
theorem je_any (hc : X.calm = true) (hg : Gl X "any") (hm : X.mg "any" = none) (h : JE W X e a) (he : starEach [e] X.env = (false, eval e X.env) :: starEach [] X.env := by rfl) : JE W X (.Call (.Name "any" p) [e] [] pos) (rN (fBls gAny) (rCons a rNil)) :=
  PE.imp (pe_callB (cr_any hc) hg hm (by decide +kernel) (ja_cons h ja_nil he) (he := he)) (cN o_any)
theorem je_all (hc : X.calm = true) (hg : Gl X "all") (hm : X.mg "all" = none) (h : JE W X e a) (he : starEach [e] X.env = (false, eval e X.env) :: starEach [] X.env := by rfl) : JE W X (.Call (.Name "all" p) [e] [] pos) (rN (fBls gAll) (rCons a rNil)) :=
  PE.imp (pe_callB (cr_all hc) hg hm (by decide +kernel) (ja_cons h ja_nil he) (he := he)) (cN o_all)
/-- int(x) -/
def fInt : List D → TQ → Prop := fun ds AQ => match ds with
  | [.int i] => AQ (.fz (.int i))
  | [.bl k] => AQ (.fz (.int (if k then 1 else 0)))
  | _ => False
theorem je_toint (hg : Gl X "int") (hm : X.mg "int" = none) (h : JE W X e a) (he : starEach [e] X.env = (false, eval e X.env) :: starEach [] X.env := by rfl) : JE W X (.Call (.Name "int" p) [e] [] pos) (rN fInt (rCons a rNil)) :=
  PE.imp (pe_callTy call_int1 hg hm (by decide +kernel) (ja_cons h ja_nil he) (he := he)) (cN (by
    intro s R H ds vs AQ Q st hv q k
    unfold fInt at q
    split at q
    · obtain ⟨v, rfl, h⟩ := valL1 hv
      simp only [Val] at h
      subst h
      exact .inl ⟨_, rfl, k.val st (d := .int _) (by simp [Val]) q⟩
    · obtain ⟨v, rfl, h⟩ := valL1 hv
      simp only [Val] at h
      subst h
      exact .inr ⟨_, rfl, k.val st (d := .int _) (by simp [Val]) q⟩
    · exact q.elim))
/-- list(x) -/
def fList : List D → TQ → Prop := fun ds AQ => match ds with
  | [.lst xs] => AQ (.lst (xs.map .fz))
  | [.tup xs] => AQ (.lst (xs.map .fz))
  | [.scr _ ns] => AQ (.lst ((ns.map D.int).map .fz))
  | _ => False
theorem je_list (hg : Gl X "list") (hm : X.mg "list" = none) (h : JE W X e a) (he : starEach [e] X.env = (false, eval e X.env) :: starEach [] X.env := by rfl) : JE W X (.Call (.Name "list" p) [e] [] pos) (rN fList (rCons a rNil)) :=
  PE.imp (pe_callTy call_list_of hg hm (by decide +kernel) (ja_cons h ja_nil he) (he := he)) (cN (by
    intro s R H ds vs AQ Q st hv q k
    unfold fList at q
    split at q
    · obtain ⟨v, rfl, h⟩ := valL1 hv
      simp only [Val] at h
      obtain ⟨p, ws, rfl, hp, hws⟩ := h
      exact ⟨p, ws, rfl, .inl (SqL.of (st.inH _ _ hp)), fun r hr => k _ _ _ _ _ (ERes.newLst st hr hws) q⟩
    · obtain ⟨v, rfl, h⟩ := valL1 hv
      simp only [Val] at h
      obtain ⟨p, ws, rfl, hp, hws⟩ := h
      exact ⟨p, ws, rfl, .inr (SqT.of (st.inH _ _ hp)), fun r hr => k _ _ _ _ _ (ERes.newLst st hr hws) q⟩
    · obtain ⟨v, rfl, h⟩ := valL1 hv
      simp only [Val] at h
      obtain ⟨p, rfl, hp, _⟩ := h
      exact ⟨p, _, rfl, .inl (SqL.sub hp st.inH), fun r hr => k _ _ _ _ _ (ERes.newLst st hr (valL_ints _)) q⟩
    · exact q.elim))
/-- tuple(x) -/
def fTuple : List D → TQ → Prop := fun ds AQ => match ds with
  | [.lst xs] => AQ (.fz (.tup xs))
  | [.tup xs] => AQ (.fz (.tup xs))
  | _ => False
theorem je_tuple (hg : Gl X "tuple") (hm : X.mg "tuple" = none) (h : JE W X e a) (he : starEach [e] X.env = (false, eval e X.env) :: starEach [] X.env := by rfl) : JE W X (.Call (.Name "tuple" p) [e] [] pos) (rN fTuple (rCons a rNil)) :=
  PE.imp (pe_callTy call_tuple_of hg hm (by decide +kernel) (ja_cons h ja_nil he) (he := he)) (cN (by
    intro s R H ds vs AQ Q st hv q k
    unfold fTuple at q
    split at q
    · obtain ⟨v, rfl, h⟩ := valL1 hv
      simp only [Val] at h
      obtain ⟨p, ws, rfl, hp, hws⟩ := h
      exact ⟨p, ws, rfl, .inl ⟨SqL.of (st.inH _ _ hp), fun r hr => k _ _ _ _ _ (ERes.newTup st hr hws) q⟩⟩
    · obtain ⟨v, rfl, h⟩ := valL1 hv
      have h0 := h
      simp only [Val] at h
      obtain ⟨p, ws, rfl, hp, hws⟩ := h
      exact ⟨p, ws, rfl, .inr ⟨SqT.of (st.inH _ _ hp), k.val st h0 q⟩⟩
    · exact q.elim))
end

/-! ### list(range(..)) -/
def cRg (K : PySem.W.Frag) (W : WX) (r : En → (Int → Int → Prop) → XQ → Prop) : St → Hp → (Int → Int → Hp → Prop) → Prop := fun σ H Q => ∃ s R ρ AQ AX, EInv K s R H ρ σ ∧ r ρ AQ AX ∧ (∀ R' H' i j, Step K s R H R' H' → AQ i j → Q i j H') ∧ KX K s R H W σ AX
abbrev JRg (W : WX) (X : Cx) (e : Expr) (r : En → (Int → Int → Prop) → XQ → Prop) : Prop := PRg X e (cRg X.K W r)
def rRg1 (a : RE) : En → (Int → Int → Prop) → XQ → Prop := fun ρ AQ AX => a ρ (fun t => match t.er with
  | .int n => AQ 0 n
  | _ => False) AX
def rRg2 (a b : RE) : En → (Int → Int → Prop) → XQ → Prop := fun ρ AQ AX => a ρ (fun t => b ρ (fun u => match t.er, u.er with
  | .int m, .int n => AQ m n
  | _, _ => False) AX) AX
theorem PRg.imp {e : Expr} {t t' : St → Hp → (Int → Int → Hp → Prop) → Prop} (h : PRg X e t) (i : ∀ σ H Q, t' σ H Q → t σ H Q) : PRg X e t' := fun pins s σ H Q I q => h pins s σ H Q I (i σ H Q q)
theorem jr_1 {p : Pos} (hg : Gl X "range") (hm : X.mg "range" = none) (h : JE W X e a) (he : starEach [e] X.env = (false, eval e X.env) :: starEach [] X.env := by rfl) : JRg W X (.Call (.Name "range" p) [e] [] pos) (rRg1 a) := by
  refine PRg.imp (prg_1 hg hm h he) fun σ H Q q => ?_
  obtain ⟨s, R, ρ, AQ, AX, I, q, kq, kx⟩ := q
  refine ⟨s, R, ρ, _, AX, I, q, fun R1 H1 t v S e q1 => ?_, kx⟩
  obtain ⟨R2, st, hv⟩ := e.frz I.so
  dsimp only at q1
  split at q1
  · rename_i n en
    rw [en] at hv
    simp only [Val] at hv
    exact ⟨n, hv, kq R2 H1 _ _ st q1⟩
  · exact q1.elim
theorem jr_2 {p : Pos} (hg : Gl X "range") (hm : X.mg "range" = none) (h1 : JE W X e1 a) (h2 : JE W X e2 b) (he : starEach [e1, e2] X.env = (false, eval e1 X.env) :: starEach [e2] X.env := by rfl)
    (he2 : starEach [e2] X.env = (false, eval e2 X.env) :: starEach [] X.env := by rfl) (hpl : (backTo pos (starEach [e2] X.env)).any (·.1) = false := by rfl) : JRg W X (.Call (.Name "range" p) [e1, e2] [] pos) (rRg2 a b) := by
  refine PRg.imp (prg_2 hg hm h1 h2 he he2 hpl) fun σ H Q q => ?_
  obtain ⟨s, R, ρ, AQ, AX, I, q, kq, kx⟩ := q
  refine ⟨s, R, ρ, _, AX, I, q, fun R1 H1 t v S e q1 => ?_, kx⟩
  obtain ⟨R2, st, hv⟩ := e.frz I.so
  have I2 := I.step st
  refine ⟨s, R2, ρ, _, AX, I2, q1, fun R3 H3 u w S' e' q3 => ?_, kx.step I.so st⟩
  obtain ⟨R4, st', hw⟩ := e'.frz I2.so
  dsimp only at q3
  split at q3
  · rename_i m n em en
    rw [em] at hv
    rw [en] at hw
    simp only [Val] at hv hw
    exact ⟨m, n, hv, hw, kq R4 H3 _ _ (st.trans I.so st') q3⟩
  · exact q3.elim
/-- the ints of a range -/
def rgI (a b : Int) : List Int := (List.range (b - a).toNat).map fun i => a + (i : Nat)
theorem rgV_eq (a b : Int) : rgV a b = (rgI a b).map V.int := by
  unfold rgV rgI
  rw [List.map_map]
  rfl
def rLstRg (r : En → (Int → Int → Prop) → XQ → Prop) : RE := fun ρ AQ AX => r ρ (fun i j => RgOk i j ∧ AQ (.lst (((rgI i j).map D.int).map .fz))) AX
theorem je_listRg {p : Pos} {r : En → (Int → Int → Prop) → XQ → Prop} (hc : X.calm = true) (hg : Gl X "list") (hm : X.mg "list" = none) (h : JRg W X e r) (he : starEach [e] X.env = (false, eval e X.env) :: starEach [] X.env := by rfl) : JE W X (.Call (.Name "list" p) [e] [] pos) (rLstRg r) := by
  refine PE.imp (pe_listRg hc hg hm h he) fun σ H Q q => ?_
  obtain ⟨s, R, ρ, AQ, AX, I, q, kq, kx⟩ := q
  refine ⟨s, R, ρ, _, AX, I, q, fun R1 H1 i j st q1 => ⟨q1.1, fun p hp => ?_⟩, kx⟩
  rw [rgV_eq]
  exact (kq.step I.so st) _ _ _ _ _ (ERes.newLst (Step.stay st.inH st.sto st.sR) hp (valL_ints _)) q1.2
end
end AL

set_option Elab.async false
set_option linter.all false
set_option maxRecDepth 100000
set_option maxHeartbeats 4000000
/-! AL5: what is walked; targets; comprehensions -/
namespace AL
open PySem PySem.Spec PyProof.Rows L2

/-! ### walks -/
/-- the walk J gives the items ds, while the region R stands -/
def WalkD (K : PySem.W.Frag) (s : Sto) (R : Hp) (J : It) (ds : List D) : Prop :=
  ∃ (G : Hp → Prop) (Y : Nat → Hp → V → Hp → Prop), Walk J ds.length G Y ∧ (∀ H, Sub R H → G H) ∧
    ∀ (i : Nat) (x : V) (H H' Rx : Hp) (d : D), ds[i]? = some d → Sub R Rx → Step K s Rx H Rx H → Y i H x H' → ∃ Rx', Step K s Rx H Rx' H' ∧ Val K s Rx' d x
def cI (K : PySem.W.Frag) (W : WX) (r : RI) : TI := fun σ H Rr => ∃ s R ρ AQ AX, EInv K s R H ρ σ ∧ r ρ AQ AX ∧ (∀ R' H' J ds, Step K s R H R' H' → WalkD K s R' J ds → AQ ds → Rr J H') ∧ KX K s R H W σ AX
abbrev JI (W : WX) (X : Cx) (tg e : Expr) (r : RI) : Prop := PI X tg e (cI X.K W r)
theorem PI.imp {X : Cx} {tg e : Expr} {t t' : TI} (h : PI X tg e t) (i : ∀ σ H Q, t' σ H Q → t σ H Q) : PI X tg e t' := ⟨fun pins s σ H Q I q => h.run pins s σ H Q I (i σ H Q q)⟩
section
variable {K : PySem.W.Frag} {s : Sto} {R H : Hp}
theorem walkD_list {a : Addr} {vs : List V} {ds : List D} (ha : R a = some (.lst vs)) (h : ValL K s R ds vs) : WalkD K s R (Itl K a) ds := by
  refine ⟨fun H => SqL K H a vs, YAt vs, ?_, fun H e => ?_, fun i x H H' Rx d hd e st y => ?_⟩
  · rw [← h.length]; exact walk_list
  · exact SqL.of (e _ _ ha)
  · obtain ⟨rfl, hx⟩ := y
    obtain ⟨v, h1, h2⟩ := h.get hd
    rw [h1] at hx
    cases hx
    exact ⟨Rx, st, h2.mono e⟩
theorem walkD_tup {a : Addr} {vs : List V} {ds : List D} (ha : R a = some (.tup vs)) (h : ValL K s R ds vs) : WalkD K s R (Itt K a) ds := by
  refine ⟨fun H => SqT K H a vs, YAt vs, ?_, fun H e => ?_, fun i x H H' Rx d hd e st y => ?_⟩
  · rw [← h.length]; exact walk_tup
  · exact SqT.of (e _ _ ha)
  · obtain ⟨rfl, hx⟩ := y
    obtain ⟨v, h1, h2⟩ := h.get hd
    rw [h1] at hx
    cases hx
    exact ⟨Rx, st, h2.mono e⟩
theorem walkD_scr {a : Addr} {ns : List Int} (ha : SqL K R a (ns.map V.int)) : WalkD K s R (Itl K a) (ns.map D.int) := by
  refine ⟨fun H => SqL K H a (ns.map V.int), YAt (ns.map V.int), ?_, fun H e => ?_, fun i x H H' Rx d hd e st y => ?_⟩
  · rw [show (ns.map D.int).length = (ns.map V.int).length by simp]; exact walk_list
  · exact SqL.sub ha e
  · obtain ⟨rfl, hx⟩ := y
    obtain ⟨v, h1, h2⟩ := (valL_ints (K := K) (s := s) (R := Rx) ns).get hd
    rw [h1] at hx
    cases hx
    exact ⟨Rx, st, h2⟩
theorem walkD_range {lo : Int} {n : Nat} : WalkD K s R (Itr lo n) ((List.range n).map fun i => D.int (lo + (i : Nat))) := by
  refine ⟨fun _ => True, YFn fun i => .int (lo + (i : Nat)), ?_, fun H e => trivial, fun i x H H' Rx d hd e st y => ?_⟩
  · rw [List.length_map, List.length_range]; exact walk_range
  · obtain ⟨rfl, rfl⟩ := y
    rw [List.getElem?_map] at hd
    by_cases hi : i < n
    · rw [List.getElem?_range hi] at hd
      simp only [Option.map_some, Option.some.injEq] at hd
      subst hd
      exact ⟨Rx, st, by simp [Val]⟩
    · rw [List.getElem?_eq_none (by simpa using hi)] at hd
      cases hd
theorem walkD_rangeC {lo c : Int} {n : Nat} : WalkD K s R (Itc lo c n) ((List.range n).map fun i => D.int (lo + (i : Nat) * c)) := by
  refine ⟨fun _ => True, YFn fun i => .int (lo + (i : Nat) * c), ?_, fun H e => trivial, fun i x H H' Rx d hd e st y => ?_⟩
  · rw [List.length_map, List.length_range]; exact walk_rangeC
  · obtain ⟨rfl, rfl⟩ := y
    rw [List.getElem?_map] at hd
    by_cases hi : i < n
    · rw [List.getElem?_range hi] at hd
      simp only [Option.map_some, Option.some.injEq] at hd
      subst hd
      exact ⟨Rx, st, by simp [Val]⟩
    · rw [List.getElem?_eq_none (by simpa using hi)] at hd
      cases hd
theorem walkD_rev {a : Addr} {vs : List V} {ds : List D} (ha : R a = some (.lst vs)) (h : ValL K s R ds vs) : WalkD K s R (Itv K a vs.length) ds.reverse := by
  refine ⟨fun H => SqL K H a vs, fun i H x H' => H' = H ∧ vs[vs.length - 1 - i]? = some x, ?_, fun H e => ?_, fun i x H H' Rx d hd e st y => ?_⟩
  · rw [List.length_reverse, ← h.length]; exact walk_rev
  · exact SqL.of (e _ _ ha)
  · obtain ⟨rfl, hx⟩ := y
    have hi : i < ds.length := by
      have := (List.getElem?_eq_some_iff.mp hd).1
      simpa using this
    rw [List.getElem?_reverse hi] at hd
    obtain ⟨v, h1, h2⟩ := h.get hd
    rw [h.length, h1] at hx
    cases hx
    exact ⟨Rx, st, h2.mono e⟩
theorem step_pair {Rx H : Hp} {T : Addr} {x y : V} {d e : D} (st : Step K s Rx H Rx H) (hT : H T = none) (h1 : Val K s Rx d x) (h2 : Val K s Rx e y) :
    ∃ Rx', Step K s Rx H Rx' (upd H T (.tup [x, y])) ∧ Val K s Rx' (.tup [d, e]) (.ref T) := by
  have l := Step.lay (o := .tup [x, y]) st.inH st.sto st.sR hT
  refine ⟨_, l, ?_⟩
  simp only [Val]
  refine ⟨T, [x, y], rfl, upd_same, ?_⟩
  simp only [ValL]
  exact ⟨x, [y], rfl, h1.mono l.sub, y, [], rfl, h2.mono l.sub, rfl⟩
/-- the pairs of enumerate -/
def enumD (ds : List D) : List D := ds.zipIdx.map fun p => .tup [.int (p.2 : Nat), p.1]
theorem walkD_enum {a : Addr} {vs : List V} {ds : List D} (ha : R a = some (.lst vs)) (h : ValL K s R ds vs) : WalkD K s R (Ite K a) (enumD ds) := by
  refine ⟨fun H => SqL K H a vs, YPair (fun i => some (.int (i : Nat))) (fun i => vs[i]?), ?_, fun H e => ?_, fun i x H H' Rx d hd e st y => ?_⟩
  · rw [show (enumD ds).length = vs.length by simp [enumD, h.length]]; exact walk_enum
  · exact SqL.of (e _ _ ha)
  · obtain ⟨T, z, w, rfl, hT, rfl, e1, e2⟩ := y
    unfold enumD at hd
    rw [List.getElem?_map, List.getElem?_zipIdx] at hd
    cases q : ds[i]? with
    | none => rw [q] at hd; cases hd
    | some d0 =>
      rw [q] at hd
      simp only [Option.map_some, Option.some.injEq, Nat.zero_add] at hd
      subst hd
      obtain ⟨v, h1, h2⟩ := h.get q
      dsimp only at e1 e2
      rw [h1] at e2
      cases e2
      cases e1
      exact step_pair st hT (by simp [Val]) (h2.mono e)
theorem walkD_zip {a b : Addr} {vs ws : List V} {ds es : List D} (ha : R a = some (.lst vs)) (hb : R b = some (.lst ws)) (h : ValL K s R ds vs) (h' : ValL K s R es ws) : WalkD K s R (Itz K a b) (List.zipWith (fun d e => .tup [d, e]) ds es) := by
  refine ⟨fun H => SqL K H a vs ∧ SqL K H b ws, YPair (fun i => vs[i]?) (fun i => ws[i]?), ?_, fun H e => ?_, fun i x H H' Rx d hd e st y => ?_⟩
  · exact walk_zip (by simp [h.length, h'.length])
  · exact ⟨SqL.of (e _ _ ha), SqL.of (e _ _ hb)⟩
  · obtain ⟨T, z, w, rfl, hT, rfl, e1, e2⟩ := y
    rw [List.getElem?_zipWith] at hd
    cases q : ds[i]? with
    | none => rw [q] at hd; cases hd
    | some d0 =>
      cases q' : es[i]? with
      | none => rw [q, q'] at hd; cases hd
      | some e0 =>
        rw [q, q'] at hd
        simp only [Option.some.injEq] at hd
        subst hd
        obtain ⟨v, h1, h2⟩ := h.get q
        obtain ⟨v', h3, h4⟩ := h'.get q'
        dsimp only at e1 e2
        rw [h1] at e1
        rw [h3] at e2
        cases e1
        cases e2
        exact step_pair st hT (h2.mono e) (h4.mono e)
end

section
variable {X : Cx} {W : WX} {e e1 e2 e3 tg : Expr} {es : List Expr} {a b c : RE} {ra : RA} {pos p : Pos} {K : PySem.W.Frag}
/-- a list, a tuple, the script -/
def rISeq (a : RE) : RI := fun ρ AQ AX => a ρ (fun t => match t.er with
  | .lst ds => AQ ds
  | .tup ds => AQ ds
  | .scr _ ns => AQ (ns.map .int)
  | _ => False) AX
theorem PI.or {t t' : TI} (h : PI X tg e t) (h' : PI X tg e t') : PI X tg e (fun σ H R => t σ H R ∨ t' σ H R) := ⟨fun pins s σ H Q I q => by
  rcases q with q | q
  · exact h.run pins s σ H Q I q
  · exact h'.run pins s σ H Q I q⟩
/-- lists, tuples: one walk for both by the value -/
theorem ji_listA (h : JE W X e a) : JI W X tg e (fun ρ AQ AX => a ρ (fun t => match t.er with
  | .lst ds => AQ ds
  | .scr _ ns => AQ (ns.map .int)
  | _ => False) AX) := by
  refine PI.imp (pi_list h) fun σ H Q q => ?_
  obtain ⟨s, R, ρ, AQ, AX, I, q, kq, kx⟩ := q
  refine ⟨s, R, ρ, _, AX, I, q, fun R1 H1 t v S e q1 => ?_, kx⟩
  obtain ⟨R2, st, hv⟩ := e.frz I.so
  dsimp only at q1
  split at q1
  · rename_i ds ed
    rw [ed] at hv
    simp only [Val] at hv
    obtain ⟨p, vs, rfl, hp, hvs⟩ := hv
    exact ⟨p, rfl, ⟨vs, SqL.of (st.inH _ _ hp)⟩, kq R2 H1 _ _ st (walkD_list hp hvs) q1⟩
  · rename_i ns ed
    rw [ed] at hv
    simp only [Val] at hv
    obtain ⟨p, rfl, hp, _⟩ := hv
    exact ⟨p, rfl, ⟨_, SqL.sub hp st.inH⟩, kq R2 H1 _ _ st (walkD_scr hp) q1⟩
  · exact q1.elim
theorem ji_tupA (h : JE W X e a) : JI W X tg e (fun ρ AQ AX => a ρ (fun t => match t.er with
  | .tup ds => AQ ds
  | _ => False) AX) := by
  refine PI.imp (pi_tup h) fun σ H Q q => ?_
  obtain ⟨s, R, ρ, AQ, AX, I, q, kq, kx⟩ := q
  refine ⟨s, R, ρ, _, AX, I, q, fun R1 H1 t v S e q1 => ?_, kx⟩
  obtain ⟨R2, st, hv⟩ := e.frz I.so
  dsimp only at q1
  split at q1
  · rename_i ds ed
    rw [ed] at hv
    simp only [Val] at hv
    obtain ⟨p, vs, rfl, hp, hvs⟩ := hv
    exact ⟨p, rfl, ⟨vs, SqT.of (st.inH _ _ hp)⟩, kq R2 H1 _ _ st (walkD_tup hp hvs) q1⟩
  · exact q1.elim
def rIList (a : RE) : RI := fun ρ AQ AX => a ρ (fun t => match t.er with
  | .lst ds => AQ ds
  | .scr _ ns => AQ (ns.map .int)
  | _ => False) AX
def rITup (a : RE) : RI := fun ρ AQ AX => a ρ (fun t => match t.er with
  | .tup ds => AQ ds
  | _ => False) AX
theorem ji_list (h : JE W X e a) : JI W X tg e (rIList a) := ji_listA h
theorem ji_tup (h : JE W X e a) : JI W X tg e (rITup a) := ji_tupA h
/-- range -/
def rngD (lo : Int) (n : Nat) : List D := (List.range n).map fun i => D.int (lo + (i : Nat))
def rngC (lo c : Int) (n : Nat) : List D := (List.range n).map fun i => D.int (lo + (i : Nat) * c)
def rIN (g : List D → (List D → Prop) → Prop) (r : RA) : RI := fun ρ AQ AX => r ρ (fun ts => g (T.ers ts) AQ) AX
/-- what is walked, by the arguments' values -/
def OpI (K : PySem.W.Frag) (g : List D → (List D → Prop) → Prop) (rr : List V → Hp → (It → Hp → Prop) → Prop) : Prop :=
  ∀ s R H ds vs (AQ : List D → Prop) (Rr : It → Hp → Prop), Step K s R H R H → ValL K s R ds vs → g ds AQ → (∀ J es, WalkD K s R J es → AQ es → Rr J H) → rr vs H Rr
theorem cIN {g : List D → (List D → Prop) → Prop} {rr : List V → Hp → (It → Hp → Prop) → Prop} (o : OpI K g rr) (σ : St) (H : Hp) (Rr : It → Hp → Prop) (q : cI K W (rIN g ra) σ H Rr) : cA K W ra σ H fun vs H1 => rr vs H1 Rr := by
  obtain ⟨s, R, ρ, AQ, AX, I, q, kq, kx⟩ := q
  refine ⟨s, R, ρ, _, AX, I, q, fun R1 H1 ts vs S e q1 => ?_, kx⟩
  obtain ⟨R2, st, hv⟩ := e.frz I.so
  exact o s R2 H1 _ vs AQ Rr (Step.stay st.inH st.sto st.sR) hv q1 fun J es w q2 => kq R2 H1 J es st w q2
theorem valL3 {s : Sto} {R : Hp} {d e f : D} {vs : List V} (h : ValL K s R [d, e, f] vs) : ∃ v w u, vs = [v, w, u] ∧ Val K s R d v ∧ Val K s R e w ∧ Val K s R f u := by
  simp only [ValL] at h
  obtain ⟨v, r, rfl, h1, w, r', rfl, h2, u, r'', rfl, h3, rfl⟩ := h
  exact ⟨v, w, u, rfl, h1, h2, h3⟩
def gR1 : List D → (List D → Prop) → Prop := fun ds AQ => match ds with
  | [.int n] => (-(2 ^ 62) ≤ n ∧ n < 2 ^ 62) ∧ AQ (rngD 0 n.toNat)
  | _ => False
def gR2 : List D → (List D → Prop) → Prop := fun ds AQ => match ds with
  | [.int m, .int n] => (-(2 ^ 62) ≤ m ∧ m < 2 ^ 62 ∧ -(2 ^ 62) ≤ n ∧ n < 2 ^ 62) ∧ AQ (rngD m (n - m).toNat)
  | _ => False
def gR3 : List D → (List D → Prop) → Prop := fun ds AQ => match ds with
  | [.int m, .int n, .int c] => ∃ k, RgC m n c k ∧ AQ (rngC m c k)
  | _ => False
def gEnum : List D → (List D → Prop) → Prop := fun ds AQ => match ds with
  | [.lst xs] => AQ (enumD xs)
  | _ => False
def gZip : List D → (List D → Prop) → Prop := fun ds AQ => match ds with
  | [.lst xs, .lst ys] => AQ (List.zipWith (fun d e => .tup [d, e]) xs ys)
  | _ => False
def gRev : List D → (List D → Prop) → Prop := fun ds AQ => match ds with
  | [.lst xs] => AQ xs.reverse
  | _ => False
theorem ji_range1 (hg : Gl X "range") (hm : X.mg "range" = none) (h : JA W X [e] ra) (hs : starEach [e] X.env = [(false, eval e X.env)] := by rfl) : JI W X tg (.Call (.Name "range" p) [e] [] pos) (rIN gR1 ra) :=
  PI.imp (pi_range1 hg hm h hs) (cIN (by
    intro s R H ds vs AQ Rr st hv q k
    unfold gR1 at q
    split at q
    · obtain ⟨v, rfl, h1⟩ := valL1 hv
      simp only [Val] at h1
      subst h1
      exact ⟨_, rfl, q.1.1, q.1.2, k _ _ walkD_range q.2⟩
    · exact q.elim))
theorem ji_range2 (hg : Gl X "range") (hm : X.mg "range" = none) (h : JA W X [e1, e2] ra) (hs : starEach [e1, e2] X.env = [(false, eval e1 X.env), (false, eval e2 X.env)] := by rfl) (hs2 : starEach [e2] X.env = [(false, eval e2 X.env)] := by rfl) : JI W X tg (.Call (.Name "range" p) [e1, e2] [] pos) (rIN gR2 ra) :=
  PI.imp (pi_range2 hg hm h hs hs2) (cIN (by
    intro s R H ds vs AQ Rr st hv q k
    unfold gR2 at q
    split at q
    · obtain ⟨v, w, rfl, hv, hw⟩ := valL2 hv
      simp only [Val] at hv hw
      subst hv hw
      exact ⟨_, _, rfl, q.1, k _ _ walkD_range q.2⟩
    · exact q.elim))
theorem ji_range3 (hg : Gl X "range") (hm : X.mg "range" = none) (h : JA W X [e1, e2, e3] ra) (hs : starEach [e1, e2, e3] X.env = (false, eval e1 X.env) :: starEach [e2, e3] X.env := by rfl) (hpl : (backTo pos (starEach [e2, e3] X.env)).any (·.1) = false := by rfl) : JI W X tg (.Call (.Name "range" p) [e1, e2, e3] [] pos) (rIN gR3 ra) :=
  PI.imp (pi_range3 hg hm h hs hpl) (cIN (by
    intro s R H ds vs AQ Rr st hv q k
    unfold gR3 at q
    split at q
    · obtain ⟨v, w, u, rfl, hv, hw, hu⟩ := valL3 hv
      simp only [Val] at hv hw hu
      subst hv hw hu
      obtain ⟨n, q1, q2⟩ := q
      exact ⟨_, _, _, n, rfl, q1, k _ _ walkD_rangeC q2⟩
    · exact q.elim))
theorem ji_enum {elts : List Expr} {kk : Nat} {tpos : Pos} (hg : Gl X "enumerate") (hm : X.mg "enumerate" = none) (h : JA W X [e] ra) (hs : starEach [e] X.env = [(false, eval e X.env)] := by rfl) : JI W X (.Tuple elts kk tpos) (.Call (.Name "enumerate" p) [e] [] pos) (rIN gEnum ra) :=
  PI.imp (pi_enum hg hm h hs) (cIN (by
    intro s R H ds vs AQ Rr st hv q k
    unfold gEnum at q
    split at q
    · obtain ⟨v, rfl, h1⟩ := valL1 hv
      simp only [Val] at h1
      obtain ⟨a, ws, rfl, ha, hws⟩ := h1
      exact ⟨a, ws, rfl, SqL.of (st.inH _ _ ha), k _ _ (walkD_enum ha hws) q⟩
    · exact q.elim))
theorem ji_zip {elts : List Expr} {kk : Nat} {tpos : Pos} (hg : Gl X "zip") (hm : X.mg "zip" = none) (h : JA W X [e1, e2] ra) (hs : starEach [e1, e2] X.env = (false, eval e1 X.env) :: starEach [e2] X.env := by rfl) (hpl : (backTo pos (starEach [e2] X.env)).any (·.1) = false := by rfl) :
    JI W X (.Tuple elts kk tpos) (.Call (.Name "zip" p) [e1, e2] [] pos) (rIN gZip ra) :=
  PI.imp (pi_zip hg hm h hs hpl) (cIN (by
    intro s R H ds vs AQ Rr st hv q k
    unfold gZip at q
    split at q
    · obtain ⟨v, w, rfl, hv, hw⟩ := valL2 hv
      simp only [Val] at hv hw
      obtain ⟨a, vs, rfl, ha, hvs⟩ := hv
      obtain ⟨b, ws, rfl, hb, hws⟩ := hw
      exact ⟨a, b, vs, ws, rfl, SqL.of (st.inH _ _ ha), SqL.of (st.inH _ _ hb), k _ _ (walkD_zip ha hb hvs hws) q⟩
    · exact q.elim))
theorem ji_rev (hg : Gl X "reversed") (hm : X.mg "reversed" = none) (h : JA W X [e] ra) (hs : starEach [e] X.env = [(false, eval e X.env)] := by rfl) : JI W X tg (.Call (.Name "reversed" p) [e] [] pos) (rIN gRev ra) :=
  PI.imp (pi_reversed hg hm h hs) (cIN (by
    intro s R H ds vs AQ Rr st hv q k
    unfold gRev at q
    split at q
    · obtain ⟨v, rfl, h1⟩ := valL1 hv
      simp only [Val] at h1
      obtain ⟨a, ws, rfl, ha, hws⟩ := h1
      exact ⟨a, ws, rfl, SqL.of (st.inH _ _ ha), k _ _ (walkD_rev ha hws) q⟩
    · exact q.elim))
end

/-! ### targets -/
inductive Tg where
  | nm (i : Nat) | tp (ts : List Tg)
mutual
def Tg.bind : Tg → D → Option (List (Nat × D))
  | .nm i, d => some [(i, d)]
  | .tp ts, .tup ds => Tg.binds ts ds
  | .tp _, _ => none
def Tg.binds : List Tg → List D → Option (List (Nat × D))
  | [], [] => some []
  | t :: ts, d :: ds => (Tg.bind t d).bind fun a => (Tg.binds ts ds).map fun b => a ++ b
  | _, _ => none
end
mutual
def Tg.slots : Tg → List Nat
  | .nm i => [i]
  | .tp ts => Tg.slotss ts
def Tg.slotss : List Tg → List Nat
  | [] => []
  | t :: ts => t.slots ++ Tg.slotss ts
end
def setAll {α : Type} (σ : List (Option α)) (ws : List (Nat × α)) : List (Option α) := ws.foldl (fun σ p => σ.set p.1 (some p.2)) σ
theorem setAll_append {α : Type} (σ : List (Option α)) (ws us : List (Nat × α)) : setAll σ (ws ++ us) = setAll (setAll σ ws) us := List.foldl_append
/-- the stored values and their deep values -/
def ValB (K : PySem.W.Frag) (s : Sto) (R : Hp) : List (Nat × D) → List (Nat × V) → Prop
  | [], ws => ws = []
  | b :: bs, ws => ∃ v r, ws = (b.1, v) :: r ∧ Val K s R b.2 v ∧ ValB K s R bs r
theorem ValB.append {K : PySem.W.Frag} {s : Sto} {R : Hp} : ∀ {bs cs : List (Nat × D)} {ws us : List (Nat × V)}, ValB K s R bs ws → ValB K s R cs us → ValB K s R (bs ++ cs) (ws ++ us)
  | [], _, _, _, h, h' => by simp only [ValB] at h; subst h; exact h'
  | b :: bs, _, _, _, h, h' => by
    simp only [ValB] at h
    obtain ⟨v, r, rfl, h1, h2⟩ := h
    simp only [List.cons_append, ValB]
    exact ⟨v, _, rfl, h1, ValB.append h2 h'⟩
def cG (K : PySem.W.Frag) (t : Tg) : TG := fun v σ H Q => ∃ s R d bs, Sub R H ∧ Val K s R d v ∧ t.bind d = some bs ∧ ∀ ws, ValB K s R bs ws → Q (setAll σ ws) H
def cGs (K : PySem.W.Frag) (ts : List Tg) : TGs := fun vs σ H Q => ∃ s R ds bs, Sub R H ∧ ValL K s R ds vs ∧ Tg.binds ts ds = some bs ∧ ∀ ws, ValB K s R bs ws → Q (setAll σ ws) H
theorem PG.imp {X : Cx} {e : Expr} {t t' : TG} (h : PG X e t) (i : ∀ v σ H Q, t' v σ H Q → t v σ H Q) : PG X e t' := ⟨fun pins s σ H v u Q I r q => h.run pins s σ H v u Q I r (i v σ H Q q)⟩
theorem PGs.imp {X : Cx} {es : List Expr} {t t' : TGs} (h : PGs X es t) (i : ∀ v σ H Q, t' v σ H Q → t v σ H Q) : PGs X es t' := ⟨fun pins s σ H v u Q I r q => h.run pins s σ H v u Q I r (i v σ H Q q)⟩
section
variable {X : Cx} {e : Expr} {es : List Expr} {pos : Pos}
theorem jg_name {i : Nat} {x : Str} (hN : X.N.Nodup) (hi : X.N[i]? = some x := by rfl) (hx : Loc X.env.scope x := by first | exact Or.inl rfl | exact Or.inr rfl) (hf : X.fn x = true ∨ X.env.scope.names.lookup x = some .local := by first | exact .inl rfl | exact .inr rfl) : PG X (.Name x pos) (cG X.K (.nm i)) := by
  refine PG.imp (pg_name hN hi hx hf) fun v σ H Q q => ?_
  obtain ⟨s, R, d, bs, h1, h2, h3, h4⟩ := q
  simp only [Tg.bind, Option.some.injEq] at h3
  subst h3
  refine h4 [(i, v)] ?_
  simp only [ValB]
  exact ⟨v, [], rfl, h2, rfl⟩
theorem jgs_nil : PGs X [] (cGs X.K []) := PGs.imp pgs_nil fun vs σ H Q q => by
  obtain ⟨s, R, ds, bs, h1, h2, h3, h4⟩ := q
  cases ds with
  | cons d ds => simp [Tg.binds] at h3
  | nil =>
    simp only [ValL] at h2
    simp only [Tg.binds, Option.some.injEq] at h3
    subst h3
    exact ⟨h2, h4 [] rfl⟩
theorem jgs_cons {t : Tg} {ts : List Tg} (h : PG X e (cG X.K t)) (h' : PGs X es (cGs X.K ts)) (hs : (assignEach (e :: es) X.env).map (·.2) = assign e X.env :: (assignEach es X.env).map (·.2) := by rfl) : PGs X (e :: es) (cGs X.K (t :: ts)) := PGs.imp (pgs_cons h h' hs) fun vs σ H Q q => by
  obtain ⟨s, R, ds, bs, h1, h2, h3, h4⟩ := q
  cases ds with
  | nil => simp [Tg.binds] at h3
  | cons d ds =>
    simp only [ValL] at h2
    obtain ⟨v, r, rfl, h5, h6⟩ := h2
    simp only [Tg.binds] at h3
    cases e1 : Tg.bind t d with
    | none => rw [e1] at h3; cases h3
    | some b1 =>
      rw [e1] at h3
      simp only [Option.bind_some] at h3
      cases e2 : Tg.binds ts ds with
      | none => rw [e2] at h3; cases h3
      | some b2 =>
        rw [e2] at h3
        simp only [Option.map_some, Option.some.injEq] at h3
        subst h3
        refine ⟨v, r, rfl, s, R, d, b1, h1, h5, e1, fun ws hws => ?_⟩
        refine ⟨s, R, ds, b2, h1, h6, e2, fun us hus => ?_⟩
        rw [← setAll_append]
        exact h4 _ (hws.append hus)
theorem jg_tup {n k : Nat} {ts : List Tg} (hc : X.calm = true) (h : PGs X es (cGs X.K ts)) (hn : (assignEach es X.env).length = n := by rfl) (hst : (assignEach es X.env).findIdx? (·.1) = none := by rfl) (hl : ts.length = n := by rfl) : PG X (.Tuple es k pos) (cG X.K (.tp ts)) := by
  refine PG.imp (pg_tup hc h hn hst) fun v σ H Q q => ?_
  obtain ⟨s, R, d, bs, h1, h2, h3, h4⟩ := q
  cases d <;> simp only [Tg.bind] at h3 <;> first | (cases h3; done) | skip
  rename_i ds
  simp only [Val] at h2
  obtain ⟨a, vs, rfl, ha, hvs⟩ := h2
  refine ⟨a, vs, rfl, SqT.of (h1 _ _ ha), ?_, s, R, ds, bs, h1, hvs, h3, h4⟩
  rw [hvs.length, ← hl]
  clear h4 hvs ha hl h
  induction ts generalizing ds bs with
  | nil => cases ds with
    | nil => rfl
    | cons d ds => simp [Tg.binds] at h3
  | cons t ts ih => cases ds with
    | nil => simp [Tg.binds] at h3
    | cons d ds =>
      simp only [Tg.binds] at h3
      cases e1 : Tg.bind t d with
      | none => rw [e1] at h3; cases h3
      | some b1 =>
        rw [e1] at h3
        simp only [Option.bind_some] at h3
        cases e2 : Tg.binds ts ds with
        | none => rw [e2] at h3; cases h3
        | some b2 => simp [ih b2 ds e2]
end
end AL

set_option Elab.async false
set_option linter.all false
set_option maxRecDepth 100000
set_option maxHeartbeats 4000000
/-! AL6: comprehensions, calls -/
namespace AL
open PySem PySem.Spec PyProof.Rows L2

abbrev W0 : WX := fun _ _ _ _ => False
theorem kx0 {K : PySem.W.Frag} {s : Sto} {R H : Hp} {σ : St} : KX K s R H W0 σ (fun _ => False) := fun _ _ _ _ _ _ _ q => q
/-- the slots of a comprehension's own names forgotten -/
def wp (ρ : En) : List Nat → En
  | [] => ρ
  | v :: vs => (wp ρ vs).set v none
theorem wp_some {ρ : En} {i : Nat} {d : D} : ∀ {vs : List Nat}, (wp ρ vs)[i]? = some (some d) → ρ[i]? = some (some d) ∧ i ∉ vs
  | [], h => ⟨h, by simp⟩
  | v :: vs, h => by
    unfold wp at h
    rw [List.getElem?_set] at h
    by_cases e : v = i
    · rw [if_pos e] at h
      split at h <;> cases h
    · rw [if_neg e] at h
      obtain ⟨h1, h2⟩ := wp_some h
      exact ⟨h1, by simp only [List.mem_cons, not_or]; exact ⟨fun q => e q.symm, h2⟩⟩
theorem wipe_get {σ : St} {i : Nat} : ∀ {vs : List Nat}, i ∉ vs → (wipe σ vs)[i]? = σ[i]?
  | [], _ => rfl
  | v :: vs, h => by
    simp only [List.mem_cons, not_or] at h
    unfold wipe
    rw [List.getElem?_set_ne (Ne.symm h.1)]
    exact wipe_get h.2
theorem wipe_set {σ : St} {i : Nat} {x : Option V} : ∀ {vs : List Nat}, i ∈ vs → wipe (σ.set i x) vs = wipe σ vs
  | v :: vs, h => by
    unfold wipe
    by_cases e : i ∈ vs
    · rw [wipe_set e]
    · have hv : i = v := by simpa [e] using h
      subst hv
      have g : ∀ (us : List Nat), i ∉ us → wipe (σ.set i x) us = (wipe σ us).set i x := by
        intro us
        induction us with
        | nil => intro _; rfl
        | cons u us ih =>
          intro hn
          simp only [List.mem_cons, not_or] at hn
          unfold wipe
          rw [ih hn.2, List.set_comm _ _ hn.1]
      rw [g vs e, List.set_set]
theorem wipe_wipe (σ : St) (vs : List Nat) : wipe (wipe σ vs) vs = wipe σ vs := by
  have g : ∀ us : List Nat, (∀ u ∈ us, u ∈ vs) → wipe (wipe σ us) vs = wipe σ vs := by
    intro us
    induction us with
    | nil => intro _; rfl
    | cons u us ih =>
      intro h
      show wipe ((wipe σ us).set u none) vs = _
      rw [wipe_set (h u (List.mem_cons_self ..))]
      exact ih fun w hw => h w (List.mem_cons_of_mem _ hw)
  exact g vs fun _ h => h
theorem wipe_setAll {vs : List Nat} : ∀ {ws : List (Nat × V)} {σ : St}, (∀ p ∈ ws, p.1 ∈ vs) → wipe (setAll σ ws) vs = wipe σ vs
  | [], _, _ => rfl
  | p :: ws, σ, h => by
    show wipe (setAll (σ.set p.1 (some p.2)) ws) vs = _
    rw [wipe_setAll fun q hq => h q (List.mem_cons_of_mem _ hq), wipe_set (h p (List.mem_cons_self ..))]
mutual
theorem Tg.bind_slots : ∀ {t : Tg} {d : D} {bs : List (Nat × D)}, t.bind d = some bs → bs.map (·.1) = t.slots
  | .nm i, d, bs, h => by
    simp only [Tg.bind, Option.some.injEq] at h
    subst h
    rfl
  | .tp ts, d, bs, h => by
    cases d <;> simp only [Tg.bind] at h <;> first | (cases h; done) | skip
    simp only [Tg.slots]
    exact Tg.binds_slots h
theorem Tg.binds_slots : ∀ {ts : List Tg} {ds : List D} {bs : List (Nat × D)}, Tg.binds ts ds = some bs → bs.map (·.1) = Tg.slotss ts
  | [], ds, bs, h => by
    cases ds with
    | nil => simp only [Tg.binds, Option.some.injEq] at h; subst h; rfl
    | cons d ds => simp [Tg.binds] at h
  | t :: ts, ds, bs, h => by
    cases ds with
    | nil => simp [Tg.binds] at h
    | cons d ds =>
      simp only [Tg.binds] at h
      cases e1 : Tg.bind t d with
      | none => rw [e1] at h; cases h
      | some b1 =>
        rw [e1] at h
        simp only [Option.bind_some] at h
        cases e2 : Tg.binds ts ds with
        | none => rw [e2] at h; cases h
        | some b2 =>
          rw [e2] at h
          simp only [Option.map_some, Option.some.injEq] at h
          subst h
          simp only [List.map_append, Tg.slotss, Tg.bind_slots e1, Tg.binds_slots e2]
end
theorem ValB.fst {K : PySem.W.Frag} {s : Sto} {R : Hp} : ∀ {bs : List (Nat × D)} {ws : List (Nat × V)}, ValB K s R bs ws → ws.map (·.1) = bs.map (·.1)
  | [], _, h => by simp only [ValB] at h; subst h; rfl
  | b :: bs, _, h => by
    simp only [ValB] at h
    obtain ⟨v, r, rfl, h1, h2⟩ := h
    simp [ValB.fst h2]
theorem wp_length (ρ : En) : ∀ vs : List Nat, (wp ρ vs).length = ρ.length
  | [] => rfl
  | v :: vs => by unfold wp; rw [List.length_set, wp_length ρ vs]
section
variable {K : PySem.W.Frag} {s : Sto} {R H : Hp} {ρ : En} {σ : St}
theorem EInv.wipe (I : EInv K s R H ρ σ) (vs : List Nat) : EInv K s R H (wp ρ vs) (L2.wipe σ vs) :=
  ⟨I.inH, I.so, I.sR, by rw [wp_length, wipe_length]; exact I.len, fun i d e => by
    obtain ⟨h1, h2⟩ := wp_some e
    obtain ⟨v, h3, h4⟩ := I.env i d h1
    exact ⟨v, by rw [wipe_get h2]; exact h3, h4⟩⟩
theorem set_out {α : Type} {l : List α} {i : Nat} {x : α} (h : ¬ i < l.length) : l.set i x = l := by
  apply List.ext_getElem?
  intro j
  by_cases q : i = j
  · subst q
    rw [List.getElem?_eq_none (by simpa using h), List.getElem?_eq_none (by simpa using h)]
  · rw [List.getElem?_set_ne q]
theorem EInv.set (I : EInv K s R H ρ σ) {i : Nat} {d : D} {v : V} (hv : Val K s R d v) : EInv K s R H (ρ.set i (some d)) (σ.set i (some v)) := by
  by_cases hl : i < σ.length
  · refine ⟨I.inH, I.so, I.sR, by simpa using I.len, fun j e h => ?_⟩
    by_cases q : i = j
    · subst q
      rw [List.getElem?_set_self (by rw [I.len]; exact hl)] at h
      simp only [Option.some.injEq] at h
      subst h
      exact ⟨v, List.getElem?_set_self hl, hv⟩
    · rw [List.getElem?_set_ne q] at h
      obtain ⟨w, h3, h4⟩ := I.env j e h
      exact ⟨w, by rw [List.getElem?_set_ne q]; exact h3, h4⟩
  · rw [set_out hl, set_out (by rw [I.len]; exact hl)]
    exact I
theorem EInv.setAll : ∀ {bs : List (Nat × D)} {ws : List (Nat × V)} {ρ : En} {σ : St}, EInv K s R H ρ σ → ValB K s R bs ws → EInv K s R H (AL.setAll ρ bs) (AL.setAll σ ws)
  | [], _, _, _, I, h => by simp only [ValB] at h; subst h; exact I
  | b :: bs, _, ρ, σ, I, h => by
    simp only [ValB] at h
    obtain ⟨v, r, rfl, h1, h2⟩ := h
    exact EInv.setAll (ρ := ρ.set b.1 (some b.2)) (σ := σ.set b.1 (some v)) (I.set h1) h2
end

/-- the turns of a comprehension -/
def lcGo (g : Tg) (tt : RT) (te : RE) (ρ : En) (AQ : TQ) : List D → List T → Prop
  | [], acc => AQ (.lst acc)
  | d :: ds, acc => match g.bind d with
    | some bs => tt (setAll ρ bs) (fun b => if b = true then te (setAll ρ bs) (fun t => acc.length < 16777216 ∧ lcGo g tt te ρ AQ ds (acc ++ [t])) (fun _ => False) else lcGo g tt te ρ AQ ds acc) (fun _ => False)
    | none => False
def rLc (ri : RI) (g : Tg) (tt : RT) (te : RE) (vs : List Nat) : RE := fun ρ AQ AX => ri ρ (fun ds => lcGo g tt te (wp ρ vs) AQ ds []) AX
def rYes : RT := fun _ AQ _ => AQ true
abbrev JTs (W : WX) (X : Cx) (ifs : List Expr) (r : RT) : Prop := PTs X ifs (cT X.K W r)
theorem PTs.imp {X : Cx} {es : List Expr} {t t' : TT} (h : PTs X es t) (i : ∀ σ H Q, t' σ H Q → t σ H Q) : PTs X es t' := ⟨fun pins s σ H Q I q => h.run pins s σ H Q I (i σ H Q q)⟩
theorem jts_nil {X : Cx} {W : WX} : JTs W X [] rYes := PTs.imp pts_nil fun σ H Q q => by
  obtain ⟨s, R, ρ, AQ, AX, I, q, kq, kx⟩ := q
  exact kq R H true I.stay q
theorem jts_one {X : Cx} {W : WX} {c : Expr} {r : RT} (h : JT W X c r) : JTs W X [c] r := pts_one h
/-- the new list as it grows: from H1 on, the list at D -/
structure LcInv (K : PySem.W.Frag) (s : Sto) (R1 H1 : Hp) (D : Addr) (R H : Hp) (acc : List T) (vs : List V) (S : List Addr) : Prop where
  st : Step K s R1 H1 R H
  hD : H D = some (.lst vs)
  val : OValL K s R H acc vs S
  nd : S.Nodup
  fr : ∀ a ∈ S, H1 a = none ∧ R a = none ∧ a ≠ D
  rD : R D = none
theorem cLc {K : PySem.W.Frag} {W : WX} {ri : RI} {g : Tg} {tt : RT} {te : RE} {vs : List Nat} (hsub : ∀ i ∈ g.slots, i ∈ vs) (σ : St) (H : Hp) (Q : VK) (q : cE K W (rLc ri g tt te vs) σ H Q) :
    tLc (cI K W ri) (cG K g) (cT K W0 tt) (cE K W0 te) vs σ H Q := by
  obtain ⟨s, R, ρ, AQ, AX, I, q, kq, kx⟩ := q
  refine ⟨s, R, ρ, _, AX, I, q, fun R1 H1 J ds st wd q1 => ?_, kx⟩
  intro D hD
  obtain ⟨G, Y, wk, hG, hY⟩ := wd
  have nsD : sa s ≠ some D := fun e => by
    obtain ⟨o, z⟩ := st.sto.there e
    rw [hD] at z
    cases z
  have rD : R1 D = none := by
    cases z : R1 D with
    | none => rfl
    | some o => rw [st.inH _ _ z] at hD; cases hD
  refine lc_it wk (fun i Hi => ∃ Ri acc ws S, LcInv K s R1 H1 D Ri Hi acc ws S ∧ lcGo g tt te (wp ρ vs) AQ (ds.drop i) acc) ?_ ?_ ?_ ?_
  · exact ⟨R1, [], [], [], ⟨Step.own st.inH st.sto st.sR hD, upd_same, by simp [OValL], .nil, fun _ h => (nomatch h), rD⟩, q1⟩
  · rintro i Hi hi ⟨Ri, acc, ws, S, L, _⟩
    exact hG Hi (L.st.sub.trans L.st.inH)
  · rintro i x Hi H' hi ⟨Ri, acc, ws, S, L, ql⟩ y
    have hd : ds[i]? = some ds[i] := List.getElem?_eq_getElem hi
    rw [List.drop_eq_getElem_cons hi] at ql
    generalize ds[i] = d at hd ql
    obtain ⟨Rx, st2, hv⟩ := hY i x Hi H' Ri d hd L.st.sub (Step.stay L.st.inH L.st.sto L.st.sR) y
    unfold lcGo at ql
    split at ql
    · rename_i bs hb
      refine ⟨s, Rx, d, bs, st2.inH, hv, hb, fun us hus => ⟨?_, ?_⟩⟩
      · rw [wipe_setAll, wipe_wipe]
        intro p hp
        have e1 : p.1 ∈ us.map (·.1) := List.mem_map_of_mem hp
        rw [hus.fst, Tg.bind_slots hb] at e1
        exact hsub _ e1
      · have I0 : EInv K s Ri Hi ρ σ := (I.step st).step L.st
        have I2 : EInv K s Rx H' (setAll (wp ρ vs) bs) (setAll (wipe σ vs) us) := ((I0.step st2).wipe vs).setAll hus
        refine ⟨s, Rx, _, _, _, I2, ql, fun R3 H3 b st3 q3 => ?_, kx0⟩
        have nsS : ∀ a ∈ S, sa s ≠ some a := fun a ha e => by
          obtain ⟨o, z⟩ := st.sto.there e
          rw [(L.fr a ha).1] at z
          cases z
        -- what stands from Hi to a later heap
        have later : ∀ {R4 H4 : Hp}, Step K s Ri Hi R4 H4 → H4 D = some (.lst ws) ∧ R4 D = none ∧ OValL K s R4 H4 acc ws S ∧ (∀ a ∈ S, H1 a = none ∧ R4 a = none ∧ a ≠ D) := fun {R4 H4} st4 => by
          refine ⟨st4.same _ _ L.hD nsD, ?_, L.val.mono st4.sub (st4.keep L.st.sto L.val.there nsS), fun a ha => ⟨(L.fr a ha).1, ?_, (L.fr a ha).2.2⟩⟩
          · cases z : R4 D with
            | none => rfl
            | some o =>
              have := st4.new D (by rw [z]; simp) L.rD
              rw [L.hD] at this
              cases this
          · cases z : R4 a with
            | none => rfl
            | some o =>
              have := st4.new a (by rw [z]; simp) (L.fr a ha).2.1
              obtain ⟨o', z'⟩ := L.val.there a ha
              rw [this] at z'
              cases z'
        have so0 : StoOk K H1 s := st.sto
        cases b with
        | false =>
          dsimp only
          rw [if_neg (by simp)]
          rw [if_neg (by simp)] at q3
          have st4 : Step K s Ri Hi R3 H3 := st2.trans L.st.sto st3
          obtain ⟨h1, h2, h3, h4⟩ := later st4
          exact ⟨R3, acc, ws, S, ⟨L.st.trans so0 st4, h1, h3, L.nd, h4, h2⟩, q3⟩
        | true =>
          dsimp only
          rw [if_pos rfl]
          rw [if_pos rfl] at q3
          refine ⟨s, R3, _, _, _, I2.step st3, q3, fun R4 H4 t v S4 e4 q4 => ?_, kx0⟩
          have st34 : Step K s Ri Hi R3 H3 := st2.trans L.st.sto st3
          have st4 : Step K s Ri Hi R4 H4 := st34.trans L.st.sto e4.st
          obtain ⟨h1, h2, h3, h4⟩ := later st4
          obtain ⟨g1, g2, g3, g4⟩ := later st34
          have ne4 : ∀ a ∈ S4, a ≠ D := fun a ha e => by
            have z := (e4.fresh a ha).1
            rw [e, g1] at z
            cases z
          refine ⟨ws, h1, by rw [L.val.length, sizeLine_eq]; exact q4.1, R4, acc ++ [t], ws ++ [v], S ++ S4, ⟨?_, upd_same, ?_, ?_, ?_, h2⟩, q4.2⟩
          · have base := L.st.trans so0 st4
            refine ⟨base.sub, fun a o e => ?_, base.new, fun a o e ns => ?_, fun a => ?_, base.sR⟩
            · have : a ≠ D := fun z => by rw [z, h2] at e; cases e
              rw [upd_ne this]; exact base.inH a o e
            · have : a ≠ D := ne_of_none e hD
              rw [upd_ne this]; exact base.same a o e ns
            · intro b e
              obtain ⟨ns, i', big, cnt, seed, z1, z2, z3⟩ := base.sto a b e
              have n1 : a ≠ D := fun z => nsD (by rw [← z, e]; rfl)
              have nb : b ≠ D := fun z => (base.sR a b e).2 (by rw [z]; exact h2)
              exact ⟨ns, i', big, cnt, seed, by rw [upd_ne n1]; exact z1, by rw [upd_ne nb]; exact z2, z3⟩
          · have hS : ∀ a ∈ S ++ S4, upd H4 D (.lst (ws ++ [v])) a = H4 a := fun a ha => by
              rcases List.mem_append.mp ha with h | h
              · exact upd_ne (h4 a h).2.2
              · exact upd_ne (ne4 a h)
            exact (h3.append (OValL.one e4.val)).mono (Sub.refl _) hS
          · refine List.nodup_append.mpr ⟨L.nd, e4.nd, fun a ha b hb e => ?_⟩
            subst e
            obtain ⟨o, z⟩ := g3.there a ha
            rw [(e4.fresh a hb).1] at z
            cases z
          · intro a ha
            rcases List.mem_append.mp ha with h | h
            · exact h4 a h
            · exact ⟨(L.st.trans so0 st34).free so0 (e4.fresh a h).1, (e4.fresh a h).2, ne4 a h⟩
    · exact ql.elim
  · rintro Hi ⟨Ri, acc, ws, S, L, ql⟩
    rw [List.drop_length] at ql
    refine (kq.step I.so st) Ri Hi (.lst acc) _ (D :: S) ⟨L.st, ?_, ?_, ?_⟩ ql
    · simp only [OVal]
      exact ⟨D, ws, S, rfl, rfl, L.hD, L.val⟩
    · exact List.nodup_cons.mpr ⟨fun h => (L.fr D h).2.2 rfl, L.nd⟩
    · intro a ha
      rcases List.mem_cons.mp ha with rfl | h
      · exact ⟨hD, L.rD⟩
      · exact ⟨(L.fr a h).1, (L.fr a h).2.1⟩
end AL

set_option Elab.async false
set_option linter.all false
set_option maxRecDepth 100000
set_option maxHeartbeats 4000000
/-! AL7: comprehensions as expressions, calls of defs, fields, properties -/
namespace AL
open PySem PySem.Spec PyProof.Rows L2
section
variable {X : Cx} {W : WX} {e e1 e2 elt tg iter : Expr} {es ifs : List Expr} {a b te : RE} {ra : RA} {pos p : Pos} {scope : Scope} {own : List (Str × Nat)} {ri : RI} {g : Tg} {tt : RT}
theorem je_lc (hc : X.calm = true) (hN : X.N.Nodup) (hi : JI W X tg iter ri) (ok : BlkOk X.N X.env.scope scope own) (hsub : ∀ i ∈ g.slots, i ∈ own.map (·.2))
    (hg : ∀ (s : Shared) (H : Hp) (C : Addr) (cl : List (Str × Addr)) (fp : List Addr), PG (X.blk s H scope (compEnvC scope cl C X.env) fp) tg (cG X.K g)) (ht : ∀ (s : Shared) (H : Hp) (C : Addr) (cl : List (Str × Addr)) (fp : List Addr), JTs W0 (X.blk s H scope (compEnvC scope cl C X.env) fp) ifs tt)
    (he : ∀ (s : Shared) (H : Hp) (C : Addr) (cl : List (Str × Addr)) (fp : List Addr), JE W0 (X.blk s H scope (compEnvC scope cl C X.env) fp) elt te) (hs : ∀ x, foldedSetIterable iter X.env x = pure x := by intro _; rfl) :
    JE W X (.ListComp elt [⟨tg, iter, ifs, 0⟩] scope pos) (rLc ri g tt te (own.map (·.2))) :=
  PE.imp (pe_lc hc hN hi ok hg ht he hs) (cLc hsub)
/-- name = e: what is stored -/
abbrev JAs (W : WX) (X : Cx) (st : Stmt) (i : Nat) (r : RE) : Prop := PS X st (tAsg (cE X.K W r) (gName i))
theorem PS.imp {X : Cx} {st : Stmt} {t t' : TS} (h : PS X st t) (i : ∀ D σ H, t' D σ H → t D σ H) : PS X st t' := ⟨fun pins s σ H D I q => h.run pins s σ H D I (i D σ H q)⟩
theorem PSs.imp {X : Cx} {st : List Stmt} {t t' : TS} (h : PSs X st t) (i : ∀ D σ H, t' D σ H → t D σ H) : PSs X st t' := ⟨fun pins s σ H D I q => h.run pins s σ H D I (i D σ H q)⟩
theorem jas (i : Nat) {x : Str} {pos' : Pos} (hN : X.N.Nodup) (h : JE W X e a) (hi : X.N[i]? = some x := by rfl) (hx : Loc X.env.scope x := by first | exact Or.inl rfl | exact Or.inr rfl) (hs : swapsWith e (some (.Name x pos')) pos.line X.env = pure false := by rfl)
    (hf : X.fn x = true ∨ X.env.scope.names.lookup x = some .local := by first | exact .inl rfl | exact .inr rfl) : JAs W X (.Assign [.Name x pos'] e pos) i a := ps_set hN hi hx h hs hf
theorem jas_lc (i : Nat) {y : Str} {py spos : Pos} (hc : X.calm = true) (hN : X.N.Nodup) (hi : JI W X tg iter ri) (ok : BlkOk X.N X.env.scope scope own) (hsub : ∀ i ∈ g.slots, i ∈ own.map (·.2))
    (hg : ∀ (s : Shared) (H : Hp) (C : Addr) (cl : List (Str × Addr)) (fp : List Addr), PG (X.blk s H scope (compEnvC scope cl C X.env) fp) tg (cG X.K g)) (ht : ∀ (s : Shared) (H : Hp) (C : Addr) (cl : List (Str × Addr)) (fp : List Addr), JTs W0 (X.blk s H scope (compEnvC scope cl C X.env) fp) ifs tt)
    (he : ∀ (s : Shared) (H : Hp) (C : Addr) (cl : List (Str × Addr)) (fp : List Addr), JE W0 (X.blk s H scope (compEnvC scope cl C X.env) fp) elt te) (hy : X.N[i]? = some y := by rfl) (hyl : X.env.scope.names.lookup y = some .local := by rfl)
    (hsw : swapsWith (.ListComp elt [⟨tg, iter, ifs, 0⟩] scope pos) (some (.Name y py)) spos.line X.env = pure true := by exact sw_true rfl rfl rfl (by decide +kernel)) (hs : ∀ x, foldedSetIterable iter X.env x = pure x := by intro _; rfl) :
    JAs W X (.Assign [.Name y py] (.ListComp elt [⟨tg, iter, ifs, 0⟩] scope pos) spos) i (rLc ri g tt te (own.map (·.2))) :=
  PS.imp (ps_setLc hc hN hy hyl hsw hi ok hg ht he hs) fun D σ H q => cLc hsub σ H _ q
end

/-! ### defs -/
/-- what a def does, over deep values: arguments, the end, an exception -/
abbrev FS := List D → TQ → XQ → Prop
def spOf (K : PySem.W.Frag) (n : Nat) (r : FS) : Sp := fun vs H Q E => ∃ (s : Sto) (R : Hp) (ds : List D) (AQ : TQ) (AX : XQ), ds.length = n ∧ Sub R H ∧ StoOk K H s ∧ SR R s ∧ ValL K s R ds vs ∧ r ds AQ AX ∧ KE K s R H AQ Q ∧
  ∀ R' H' x cls d, Step K s R H R' H' → XVal K R' x cls d → AX x → E cls d H'
theorem spOf_len {K : PySem.W.Frag} {n : Nat} {r : FS} {vs : List V} {H : Hp} {Q : VK} {E : XK} (h : spOf K n r vs H Q E) : vs.length = n := by
  obtain ⟨s, R, ds, AQ, AX, h1, _, _, _, h5, _⟩ := h
  rw [h5.length, h1]
/-- the account tells the number of arguments -/
def Ar (n : Nat) (r : FS) : Prop := ∀ ds AQ AX, r ds AQ AX → ds.length = n
def fs1 (f : D → TQ → XQ → Prop) : FS := fun ds AQ AX => match ds with
  | [a] => f a AQ AX
  | _ => False
def fs2 (f : D → D → TQ → XQ → Prop) : FS := fun ds AQ AX => match ds with
  | [a, b] => f a b AQ AX
  | _ => False
def fs3 (f : D → D → D → TQ → XQ → Prop) : FS := fun ds AQ AX => match ds with
  | [a, b, c] => f a b c AQ AX
  | _ => False
def fs4 (f : D → D → D → D → TQ → XQ → Prop) : FS := fun ds AQ AX => match ds with
  | [a, b, c, d] => f a b c d AQ AX
  | _ => False
def fs5 (f : D → D → D → D → D → TQ → XQ → Prop) : FS := fun ds AQ AX => match ds with
  | [a, b, c, d, e] => f a b c d e AQ AX
  | _ => False
def fs6 (f : D → D → D → D → D → D → TQ → XQ → Prop) : FS := fun ds AQ AX => match ds with
  | [a, b, c, d, e, g] => f a b c d e g AQ AX
  | _ => False
def fs7 (f : D → D → D → D → D → D → D → TQ → XQ → Prop) : FS := fun ds AQ AX => match ds with
  | [a, b, c, d, e, g, h] => f a b c d e g h AQ AX
  | _ => False
theorem ar1 {f : D → TQ → XQ → Prop} : Ar 1 (fs1 f) := fun ds AQ AX h => by
  unfold fs1 at h; split at h
  · rfl
  · exact h.elim
theorem ar2 {f : D → D → TQ → XQ → Prop} : Ar 2 (fs2 f) := fun ds AQ AX h => by
  unfold fs2 at h; split at h
  · rfl
  · exact h.elim
theorem ar3 {f : D → D → D → TQ → XQ → Prop} : Ar 3 (fs3 f) := fun ds AQ AX h => by
  unfold fs3 at h; split at h
  · rfl
  · exact h.elim
theorem ar4 {f : D → D → D → D → TQ → XQ → Prop} : Ar 4 (fs4 f) := fun ds AQ AX h => by
  unfold fs4 at h; split at h
  · rfl
  · exact h.elim
theorem ar5 {f : D → D → D → D → D → TQ → XQ → Prop} : Ar 5 (fs5 f) := fun ds AQ AX h => by
  unfold fs5 at h; split at h
  · rfl
  · exact h.elim
theorem ar6 {f : D → D → D → D → D → D → TQ → XQ → Prop} : Ar 6 (fs6 f) := fun ds AQ AX h => by
  unfold fs6 at h; split at h
  · rfl
  · exact h.elim
theorem ar7 {f : D → D → D → D → D → D → D → TQ → XQ → Prop} : Ar 7 (fs7 f) := fun ds AQ AX h => by
  unfold fs7 at h; split at h
  · rfl
  · exact h.elim
/-- a def that may be called: dd fill up (its defaults) -/
structure Cl (P : Program) (w : World) (K : PySem.W.Frag) (mg : Str → Option Value) (base : Heap) (name : Str) (k : Nat) (dd : List D) (r : FS) : Prop where
  ex : ∃ (f : Addr) (fd : FuncData) (ps : List Str) (ds : List Value) (dvs : List V) (n : Nat), mg name = some (.ref f) ∧ PySem.W.keepIn K (.ref f) = true ∧ Binds K fd ps ds ∧ Vals dvs ds ∧ (∀ s R, ValL K s R dd dvs) ∧ Ar n r ∧ FnOk P w K mg base (L2.CX P w) k f fd ps (spOf K n r)
theorem Cl.mono {P : Program} {w : World} {K : PySem.W.Frag} {mg : Str → Option Value} {base : Heap} {name : Str} {j k : Nat} {dd : List D} {r : FS} (c : Cl P w K mg base name j dd r) (h : j ≤ k) : Cl P w K mg base name k dd r := by
  obtain ⟨f, fd, ps, ds, dvs, n, h1, h2, h3, h4, h5, h6, h7⟩ := c.ex
  exact ⟨f, fd, ps, ds, dvs, n, h1, h2, h3, h4, h5, h6, h7.mono h⟩
/-- a weaker account -/
theorem Cl.imp {P : Program} {w : World} {K : PySem.W.Frag} {mg : Str → Option Value} {base : Heap} {name : Str} {k : Nat} {dd : List D} {r r' : FS} (c : Cl P w K mg base name k dd r) (h : ∀ ds AQ AX, r' ds AQ AX → r ds AQ AX) : Cl P w K mg base name k dd r' := by
  obtain ⟨f, fd, ps, ds, dvs, n, h1, h2, h3, h4, h5, h6, h7⟩ := c.ex
  refine ⟨f, fd, ps, ds, dvs, n, h1, h2, h3, h4, h5, fun ds AQ AX q => h6 _ _ _ (h _ _ _ q), h7.imp fun vs H Q E q => ?_⟩
  obtain ⟨s, R, es, AQ, AX, q1, q2, q3, q4, q5, q6, q7⟩ := q
  exact ⟨s, R, es, AQ, AX, q1, q2, q3, q4, q5, h _ _ _ q6, q7⟩
def rCall (r : FS) (dd : List D) (ra : RA) : RE := fun ρ AQ AX => ra ρ (fun ts => r (T.ers ts ++ dd) AQ AX) AX
section
variable {X : Cx} {W : WX} {e e1 e2 o : Expr} {es : List Expr} {a b : RE} {ra : RA} {pos p apos : Pos}
/-- the callee runs, what it lets out is wished for at the slots -/
theorem run_fnD {CX : CXT} {k : Nat} {f : Addr} {fd : FuncData} {ps : List Str} {sp : Sp} {dvs : List V} {ds : List Value} {E : XK} {pins : List (Addr × Obj)} {σ : St} {H : Hp} {s : Shared} {Q : VK} {us : List Value} {vs : List V} (F : FnOk X.prog X.w X.K X.mg X.base CX k f fd ps sp) (hr : Room k X.A) (hb : Binds X.K fd ps ds) (hd : Vals dvs ds) (hx : PassesAt CX X σ E)
    (I : Inv X pins σ H s) (r : Vals vs us) (h : sp (vs ++ dvs) H Q E) : wpAny (model X.prog X.w) X.A (call (.ref f) us) (EP X pins σ Q) X.xe s := by
  have r2 : Vals (vs ++ dvs) (us ++ ds) := r.append hd
  have hl : (us ++ ds).length = ps.length := by rw [← r2.length]; exact F.len _ _ _ _ h
  refine wpAny_call (codeAny_mono (F.run X.A X.stack s H ⟨us, []⟩ (us ++ ds) (vs ++ dvs) Q E hr I.env0 (hb s us I.kIn hl) r2 h) fun r s' hq => ?_)
  cases r with
  | error e => exact hx pins H s e s' I hq
  | ok fl =>
    cases fl with
    | ret u => exact I.after hq
    | next => exact False.elim hq
    | brk => exact False.elim hq
    | cont => exact False.elim hq
theorem cCall {K : PySem.W.Frag} {n : Nat} {r : FS} {dd : List D} {dvs : List V} (hdd : ∀ s R, ValL K s R dd dvs) (hn : Ar n r) (σ : St) (H : Hp) (Q : VK) (q : cE K W (rCall r dd ra) σ H Q) :
    cA K W ra σ H fun vs H1 => spOf K n r (vs ++ dvs) H1 Q (WE W σ) := by
  obtain ⟨s, R, ρ, AQ, AX, I, q, kq, kx⟩ := q
  refine ⟨s, R, ρ, _, AX, I, q, fun R1 H1 ts vs S e q1 => ?_, kx⟩
  obtain ⟨R2, st, hv⟩ := e.frz I.so
  exact ⟨s, R2, _, AQ, AX, hn _ _ _ q1, st.inH, st.sto, st.sR, hv.append (hdd s R2), q1, kq.step I.so st, kx.step I.so st⟩
theorem je_call {x : Str} {k : Nat} {dd : List D} {r : FS} (c : Cl X.prog X.w X.K X.mg X.base x k dd r) (tk : Takes X W) (hr : Room k X.A) (hg : Gl X x) (ha : JA W X (e :: es) ra)
    (hdb : (x == ("__debug__" : Str)) = false := by decide) (he : starEach (e :: es) X.env = (false, eval e X.env) :: starEach es X.env := by rfl) (hpl : (backTo pos (starEach es X.env)).any (·.1) = false := by rfl) : JE W X (.Call (.Name x p) (e :: es) [] pos) (rCall r dd ra) := by
  obtain ⟨f, fd, ps, ds, dvs, n, hm, hk, hb, hd, hdd, hn, F⟩ := c.ex
  refine ⟨fun pins s σ H Q I h => ?_⟩
  refine wpAny_Call_Name_kw (ld_glob I hg hm ?_ hdb)
  refine PySem.W.callWith_K (h₀ := X.base) I.ok.mod.kin hk (thn (ha.run pos pins s σ H _ I (cCall hdd hn σ H Q h)) fun us s1 ⟨vs, H1, I1, r, q⟩ => ⟨I1.kIn, ?_⟩) he hpl
  exact run_fnD F hr hb hd (passAt tk σ) I1 r q
/-- a field -/
theorem he_ (o : Unit) : True := trivial
end
/-- the place of a name -/
def ixOf (f : Str) : List Str → Option Nat
  | [] => none
  | x :: xs => if x = f then some 0 else (ixOf f xs).map (· + 1)
theorem lookup_zip {f : Str} : ∀ {ns : List Str} {vs : List V} {i : Nat} {v : V}, ixOf f ns = some i → vs[i]? = some v → (ns.zip vs).lookup f = some v
  | [], _, _, _, h, _ => by cases h
  | x :: xs, [], i, _, _, e => by simp at e
  | x :: xs, w :: vs, i, v, h, e => by
    unfold ixOf at h
    by_cases q : x = f
    · rw [if_pos q] at h
      cases h
      subst q
      simp at e
      subst e
      simp [List.zip, List.lookup]
    · rw [if_neg q] at h
      cases z : ixOf f xs with
      | none => rw [z] at h; cases h
      | some j =>
        rw [z] at h
        simp only [Option.map_some, Option.some.injEq] at h
        subst h
        simp at e
        have ih := lookup_zip (f := f) (ns := xs) (vs := vs) z e
        have ne : (f == x) = false := by simpa using fun w => q w.symm
        simp only [List.zip_cons_cons, List.lookup, ne]
        exact ih
section
variable {X : Cx} {W : WX} {e : Expr} {a : RE} {pos : Pos}
/-- o.f : an instance of the class C, its fields' names known -/
def rFld (C f : Str) (a : RE) : RE := fun ρ AQ AX => a ρ (fun t => match t.er with
  | .obj C' ns ds => C' = C ∧ (match ixOf f ns with
    | some i => (match ds[i]? with
      | some d => AQ (.fz d)
      | none => False)
    | none => False)
  | _ => False) AX
theorem je_fld {C f : Str} (c : Cls X.K (He.ga X.K C)) (hn : NoAttr X.K (He.ga X.K C) f) (h : JE W X e a) (hb : attributeBase e f X.env (eval e X.env) = eval e X.env := by rfl) : JE W X (.Attribute e f pos) (rFld C f a) := by
  refine PE.imp (pe_fld h hb) fun σ H Q q => ?_
  obtain ⟨s, R, ρ, AQ, AX, I, q, kq, kx⟩ := q
  refine ⟨s, R, ρ, _, AX, I, q, fun R1 H1 t v S e q1 => ?_, kx⟩
  obtain ⟨R2, st, hv⟩ := e.frz I.so
  dsimp only at q1
  split at q1
  · rename_i C' ns ds ed
    obtain ⟨rfl, q1⟩ := q1
    rw [ed] at hv
    simp only [Val] at hv
    obtain ⟨p, dx, vs, rfl, hp, hvs⟩ := hv
    split at q1
    · rename_i i ei
      split at q1
      · rename_i d hd
        obtain ⟨w, e1, e2⟩ := hvs.get hd
        exact ⟨p, _, dx, _, w, rfl, st.inH _ _ hp, c, hn, lookup_zip ei e1, (kq.step I.so st).val (Step.stay st.inH st.sto st.sR) e2 q1⟩
      · exact q1.elim
    · exact q1.elim
  · exact q1.elim
/-- a property of the class C -/
structure Pr (P : Program) (w : World) (K : PySem.W.Frag) (mg : Str → Option Value) (base : Heap) (C f : Str) (k : Nat) (r : FS) : Prop where
  cls : Cls K (He.ga K C)
  ex : ∃ (pa g : Addr) (fd : FuncData) (ps : List Str), PropOf K (He.ga K C) f pa g ∧ Binds K fd ps [] ∧ Ar 1 r ∧ FnOk P w K mg base (L2.CX P w) k g fd ps (spOf K 1 r)
def D.isObj (C : Str) : D → Prop
  | .obj C' _ _ => C' = C
  | _ => False
def rProp (C : Str) (r : FS) (a : RE) : RE := fun ρ AQ AX => a ρ (fun t => D.isObj C t.er ∧ r [t.er] AQ (fun _ => False)) AX
theorem passN {X : Cx} : Passes (L2.CX X.prog X.w) X.nox E0 := fun _ _ _ _ _ _ _ h => by
  obtain ⟨_, _, _, _, _, _, _, _, _, _, _, _, z⟩ := h
  exact z.elim
theorem je_prop {C f : Str} {k : Nat} {r : FS} (c : Pr X.prog X.w X.K X.mg X.base C f k r) (hr : Room (k + 1) X.A) (h : JE W X e a) (hb : attributeBase e f X.env (eval e X.env) = eval e X.env := by rfl) : JE W X (.Attribute e f pos) (rProp C r a) := by
  obtain ⟨pa, g, fd, ps, hp, hbd, hn, F⟩ := c.ex
  refine PE.imp (pe_prop h c.cls hp F hr hbd .nil passN hb) fun σ H Q q => ?_
  obtain ⟨s, R, ρ, AQ, AX, I, q, kq, kx⟩ := q
  refine ⟨s, R, ρ, _, AX, I, q, fun R1 H1 t v S e q1 => ?_, kx⟩
  obtain ⟨R2, st, hv⟩ := e.frz I.so
  obtain ⟨q1, q2⟩ := q1
  have hv0 := hv
  generalize t.er = d at hv hv0 q1 q2
  cases d <;> simp only [D.isObj] at q1
  subst q1
  simp only [Val] at hv
  obtain ⟨p, dx, vs, rfl, hp, hvs⟩ := hv
  refine ⟨p, dx, _, rfl, st.inH _ _ hp, s, R2, _, AQ, fun _ => False, rfl, st.inH, st.sto, st.sR, ?_, q2, kq.step I.so st, fun _ _ _ _ _ _ _ z => z.elim⟩
  simp only [ValL]
  exact ⟨_, [], rfl, hv0, rfl⟩
end
end AL

set_option Elab.async false
set_option linter.all false
set_option maxRecDepth 100000
set_option maxHeartbeats 4000000
/-! AL8: statements over owned trees -/
namespace AL
open PySem PySem.Spec PyProof.Rows L2

abbrev AS := List (Option T)
/-- a run of a def: the store, the heap and the region at its start, what it may change, the slots that are handed in to be changed -/
structure Bs where
  s : Sto
  H0 : Hp
  R0 : Hp
  X0 : List Addr
  ioA : List (Nat × Addr)
structure SInv (K : PySem.W.Frag) (b : Bs) (R : Hp) (Sf : Nat → List Addr) (σ : St) (H : Hp) (ρ : AS) : Prop where
  sub : Sub b.R0 R
  inH : Sub R H
  new : ∀ a, R a ≠ none → b.R0 a = none → b.H0 a = none
  same : ∀ a o, b.H0 a = some o → sa b.s ≠ some a → a ∉ b.X0 → H a = some o
  thr : ∀ a, b.H0 a ≠ none → H a ≠ none
  so : StoOk K H b.s
  sR : SR R b.s
  len : ρ.length = σ.length
  own : ∀ (i : Nat) (t : T), ρ[i]? = some (some t) → ∃ v, σ[i]? = some (some v) ∧ OVal K b.s R H t v (Sf i)
  nd : ∀ (i : Nat) (t : T), ρ[i]? = some (some t) → (Sf i).Nodup
  dj : ∀ (i j : Nat) (t t' : T), i ≠ j → ρ[i]? = some (some t) → ρ[j]? = some (some t') → ∀ a ∈ Sf i, a ∉ Sf j
  fr : ∀ (i : Nat) (t : T), ρ[i]? = some (some t) → ∀ a ∈ Sf i, R a = none ∧ sa b.s ≠ some a ∧ ((i ∈ b.ioA.map (·.1) ∧ a ∈ b.X0) ∨ b.H0 a = none)
  io : ∀ p ∈ b.ioA, σ[p.1]? = some (some (.ref p.2))
structure AEnds where
  nx : AS → Prop
  rt : T → AS → Prop
  ex : XD → AS → Prop
  bk : AS → Prop := fun _ => False
  ct : AS → Prop := fun _ => False
structure Sim (K : PySem.W.Frag) (b : Bs) (W : WX) (D : Ends) (A : AEnds) : Prop where
  nx : ∀ R Sf σ H ρ, SInv K b R Sf σ H ρ → A.nx ρ → D.nx σ H
  bk : ∀ R Sf σ H ρ, SInv K b R Sf σ H ρ → A.bk ρ → D.bk σ H
  ct : ∀ R Sf σ H ρ, SInv K b R Sf σ H ρ → A.ct ρ → D.ct σ H
  rt : ∀ R Sf σ H ρ t v S, SInv K b R Sf σ H ρ → OVal K b.s R H t v S → S.Nodup → (∀ a ∈ S, R a = none ∧ b.H0 a = none ∧ ∀ (i : Nat) (t' : T), ρ[i]? = some (some t') → a ∉ Sf i) → A.rt t ρ → D.rt v H
  ex : ∀ R Sf σ H ρ x cls d, SInv K b R Sf σ H ρ → XVal K R x cls d → A.ex x ρ → W cls d σ H
abbrev RS := AEnds → AS → Prop
def cS (K : PySem.W.Frag) (io : List Nat) (W : WX) (a : RS) : TS := fun D σ H => ∃ b R Sf ρ A, b.ioA.map (·.1) = io ∧ SInv K b R Sf σ H ρ ∧ a A ρ ∧ Sim K b W D A
abbrev JS (io : List Nat) (W : WX) (X : Cx) (st : Stmt) (a : RS) : Prop := PS X st (cS X.K io W a)
abbrev JSs (io : List Nat) (W : WX) (X : Cx) (st : List Stmt) (a : RS) : Prop := PSs X st (cS X.K io W a)

def envF (ρ : AS) : En := ρ.map fun o => match o with
  | some (.fz d) => some d
  | _ => none
def envB (ρ : AS) : En := ρ.map fun o => match o with
  | some t => some t.er
  | none => none
theorem envF_some {ρ : AS} {i : Nat} {d : D} (h : (envF ρ)[i]? = some (some d)) : ρ[i]? = some (some (.fz d)) := by
  unfold envF at h
  rw [List.getElem?_map] at h
  cases q : ρ[i]? with
  | none => rw [q] at h; cases h
  | some o =>
    rw [q] at h
    cases o with
    | none => cases h
    | some t => cases t <;> simp only [Option.map_some, Option.some.injEq] at h <;> first | (cases h; done) | (subst h; rfl)
theorem envB_some {ρ : AS} {i : Nat} {d : D} (h : (envB ρ)[i]? = some (some d)) : ∃ t, ρ[i]? = some (some t) ∧ t.er = d := by
  unfold envB at h
  rw [List.getElem?_map] at h
  cases q : ρ[i]? with
  | none => rw [q] at h; cases h
  | some o =>
    rw [q] at h
    cases o with
    | none => cases h
    | some t =>
      simp only [Option.map_some, Option.some.injEq] at h
      exact ⟨t, rfl, h⟩
section
variable {K : PySem.W.Frag} {b : Bs} {R R' H H' : Hp} {Sf : Nat → List Addr} {σ : St} {ρ : AS}
theorem SInv.there (I : SInv K b R Sf σ H ρ) {i : Nat} {t : T} (h : ρ[i]? = some (some t)) : ∀ a ∈ Sf i, ∃ o, H a = some o := by
  obtain ⟨v, _, h2⟩ := I.own i t h
  exact h2.there
theorem SInv.eF (I : SInv K b R Sf σ H ρ) : EInv K b.s R H (envF ρ) σ :=
  ⟨I.inH, I.so, I.sR, by rw [envF, List.length_map]; exact I.len, fun i d h => by
    obtain ⟨v, h1, h2⟩ := I.own i _ (envF_some h)
    simp only [OVal] at h2
    exact ⟨v, h1, h2.2⟩⟩
/-- the region with all that is owned -/
noncomputable def regB (R H : Hp) (Sf : Nat → List Addr) (ρ : AS) : Hp := fun a => by
  classical exact if ∃ (i : Nat) (t : T), ρ[i]? = some (some t) ∧ a ∈ Sf i then H a else R a
theorem regB_in {a : Addr} {i : Nat} {t : T} (h : ρ[i]? = some (some t)) (ha : a ∈ Sf i) : regB R H Sf ρ a = H a := if_pos ⟨i, t, h, ha⟩
theorem regB_out {a : Addr} (h : ¬ ∃ (i : Nat) (t : T), ρ[i]? = some (some t) ∧ a ∈ Sf i) : regB R H Sf ρ a = R a := if_neg h
theorem SInv.subB (I : SInv K b R Sf σ H ρ) : Sub R (regB R H Sf ρ) := fun a o e => by
  by_cases h : ∃ (i : Nat) (t : T), ρ[i]? = some (some t) ∧ a ∈ Sf i
  · obtain ⟨i, t, h1, h2⟩ := h
    rw [(I.fr i t h1 a h2).1] at e
    cases e
  · rw [regB_out h]; exact e
theorem SInv.inB (I : SInv K b R Sf σ H ρ) : Sub (regB R H Sf ρ) H := fun a o e => by
  by_cases h : ∃ (i : Nat) (t : T), ρ[i]? = some (some t) ∧ a ∈ Sf i
  · obtain ⟨i, t, h1, h2⟩ := h
    rw [regB_in h1 h2] at e; exact e
  · rw [regB_out h] at e; exact I.inH _ _ e
theorem SInv.srB (I : SInv K b R Sf σ H ρ) : SR (regB R H Sf ρ) b.s := fun a c e => by
  obtain ⟨h1, h2⟩ := I.sR a c e
  constructor
  · by_cases h : ∃ (i : Nat) (t : T), ρ[i]? = some (some t) ∧ a ∈ Sf i
    · obtain ⟨i, t, h3, h4⟩ := h
      exact absurd (by rw [e]; rfl) (I.fr i t h3 a h4).2.1
    · rw [regB_out h]; exact h1
  · cases q : R c with
    | none => exact absurd q h2
    | some o => rw [I.subB c o q]; simp
theorem SInv.eB (I : SInv K b R Sf σ H ρ) : EInv K b.s (regB R H Sf ρ) H (envB ρ) σ :=
  ⟨I.inB, I.so, I.srB, by rw [envB, List.length_map]; exact I.len, fun i d h => by
    obtain ⟨t, h1, h2⟩ := envB_some h
    obtain ⟨v, h3, h4⟩ := I.own i t h1
    subst h2
    exact ⟨v, h3, h4.freeze I.subB fun a ha => regB_in h1 ha⟩⟩
theorem Step.persist {s : Sto} (st : Step K s R H R' H') {a : Addr} (h : H a ≠ none) : H' a ≠ none := by
  cases q : H a with
  | none => exact absurd q h
  | some o =>
    by_cases e : sa s = some a
    · obtain ⟨o', q'⟩ := st.sto.there e
      rw [q']; simp
    · rw [st.same a o q e]; simp
theorem SInv.keepF {R1 : Hp} (I : SInv K b R Sf σ H ρ) (st : Step K b.s R1 H R' H') {i : Nat} {t : T} (h : ρ[i]? = some (some t)) : ∀ a ∈ Sf i, H' a = H a := fun a ha => by
  obtain ⟨o, q⟩ := I.there h a ha
  rw [q, st.same a o q (I.fr i t h a ha).2.1]
/-- behind a step whose region is the run's own -/
theorem SInv.stepF (I : SInv K b R Sf σ H ρ) (st : Step K b.s R H R' H') : SInv K b R' Sf σ H' ρ where
  sub := I.sub.trans st.sub
  inH := st.inH
  new := fun a h h0 => by
    cases q : R a with
    | some o => exact I.new a (by rw [q]; simp) h0
    | none =>
      have z := st.new a h q
      cases q' : b.H0 a with
      | none => rfl
      | some o => exact absurd z (I.thr a (by rw [q']; simp))
  same := fun a o h hs hx => st.same a o (I.same a o h hs hx) hs
  thr := fun a h => st.persist (I.thr a h)
  so := st.sto
  sR := st.sR
  len := I.len
  own := fun i t h => by
    obtain ⟨v, h1, h2⟩ := I.own i t h
    exact ⟨v, h1, h2.mono st.sub (I.keepF st h)⟩
  nd := I.nd
  dj := I.dj
  fr := fun i t h a ha => by
    obtain ⟨h1, h2, h3⟩ := I.fr i t h a ha
    refine ⟨?_, h2, h3⟩
    cases q : R' a with
    | none => rfl
    | some o =>
      obtain ⟨o', z⟩ := I.there h a ha
      rw [st.new a (by rw [q]; simp) h1] at z
      cases z
  io := I.io
/-- behind a step over a wider region: the run's own stays -/
theorem SInv.stepB {R1 : Hp} (I : SInv K b R Sf σ H ρ) (sub1 : Sub R R1) (st : Step K b.s R1 H R' H') : SInv K b R Sf σ H' ρ where
  sub := I.sub
  inH := (sub1.trans st.sub).trans st.inH
  new := I.new
  same := fun a o h hs hx => st.same a o (I.same a o h hs hx) hs
  thr := fun a h => st.persist (I.thr a h)
  so := st.sto
  sR := I.sR
  len := I.len
  own := fun i t h => by
    obtain ⟨v, h1, h2⟩ := I.own i t h
    exact ⟨v, h1, h2.mono (Sub.refl _) (I.keepF st h)⟩
  nd := I.nd
  dj := I.dj
  fr := I.fr
  io := I.io
/-- a value is stored -/
theorem SInv.set (I : SInv K b R Sf σ H ρ) {i : Nat} {t : T} {v : V} {S : List Addr} (hi : i ∉ b.ioA.map (·.1)) (hv : OVal K b.s R H t v S) (nd : S.Nodup)
    (fr : ∀ a ∈ S, R a = none ∧ sa b.s ≠ some a ∧ b.H0 a = none) (dj : ∀ (j : Nat) (t' : T), j ≠ i → ρ[j]? = some (some t') → ∀ a ∈ S, a ∉ Sf j) :
    SInv K b R (fun j => if j = i then S else Sf j) (σ.set i (some v)) H (ρ.set i (some t)) where
  sub := I.sub
  inH := I.inH
  new := I.new
  same := I.same
  thr := I.thr
  so := I.so
  sR := I.sR
  len := by simpa using I.len
  own := fun j u h => by
    by_cases e : j = i
    · subst e
      rw [List.getElem?_set] at h
      rw [if_pos rfl] at h
      split at h
      · rename_i hl
        simp only [Option.some.injEq] at h
        subst h
        refine ⟨v, ?_, by simpa using hv⟩
        rw [List.getElem?_set_self (by rw [← I.len]; exact hl)]
      · cases h
    · rw [List.getElem?_set_ne (Ne.symm e)] at h
      obtain ⟨w, h1, h2⟩ := I.own j u h
      exact ⟨w, by rw [List.getElem?_set_ne (Ne.symm e)]; exact h1, by simpa [e] using h2⟩
  nd := fun j u h => by
    by_cases e : j = i
    · subst e; simpa using nd
    · rw [List.getElem?_set_ne (Ne.symm e)] at h
      simpa [e] using I.nd j u h
  dj := fun j k u u' hjk hj hk a => by
    by_cases e : j = i
    · have ek : k ≠ i := fun z => hjk (e.trans z.symm)
      rw [List.getElem?_set_ne (Ne.symm ek)] at hk
      subst e
      simp only [if_true, if_neg ek]
      exact dj k u' ek hk a
    · rw [List.getElem?_set_ne (Ne.symm e)] at hj
      by_cases ek : k = i
      · subst ek
        simp only [if_true, if_neg e]
        exact fun h1 h2 => dj j u e hj a h2 h1
      · rw [List.getElem?_set_ne (Ne.symm ek)] at hk
        simp only [if_neg e, if_neg ek]
        exact I.dj j k u u' hjk hj hk a
  fr := fun j u h a ha => by
    by_cases e : j = i
    · subst e; simp only [if_true] at ha; exact ⟨(fr a ha).1, (fr a ha).2.1, .inr (fr a ha).2.2⟩
    · rw [List.getElem?_set_ne (Ne.symm e)] at h
      simp only [if_neg e] at ha
      exact I.fr j u h a ha
  io := fun p hp => by
    have ne : i ≠ p.1 := fun e => hi (by rw [e]; exact List.mem_map_of_mem hp)
    rw [List.getElem?_set_ne ne]
    exact I.io p hp
/-- what an expression handed back stands apart from the slots -/
theorem SInv.apart {R1 : Hp} {t : T} {v : V} {S : List Addr} (I : SInv K b R Sf σ H ρ) (e : ERes K b.s R1 H R' H' t v S) : (∀ a ∈ S, sa b.s ≠ some a ∧ b.H0 a = none) ∧ ∀ (j : Nat) (t' : T), ρ[j]? = some (some t') → ∀ a ∈ S, a ∉ Sf j := by
  refine ⟨fun a ha => ⟨fun z => ?_, ?_⟩, fun j t' h a ha hj => ?_⟩
  · obtain ⟨o, q⟩ := I.so.there z
    rw [(e.fresh a ha).1] at q
    cases q
  · cases q : b.H0 a with
    | none => rfl
    | some o => exact absurd (e.fresh a ha).1 (I.thr a (by rw [q]; simp))
  · obtain ⟨o, q⟩ := I.there h a hj
    rw [(e.fresh a ha).1] at q
    cases q
/-- an owned value becomes frozen -/
theorem SInv.freeze (I : SInv K b R Sf σ H ρ) {i : Nat} {t : T} (hi : i ∉ b.ioA.map (·.1)) (h : ρ[i]? = some (some t)) : ∃ R' Sf', SInv K b R' Sf' σ H (ρ.set i (some (.fz t.er))) := by
  obtain ⟨v, h1, h2⟩ := I.own i t h
  have hl : i < ρ.length := (List.getElem?_eq_some_iff.mp h).1
  have fr0 : ∀ a ∈ Sf i, R a = none ∧ sa b.s ≠ some a ∧ b.H0 a = none := fun a ha => by
    obtain ⟨q1, q2, q3⟩ := I.fr i t h a ha
    exact ⟨q1, q2, q3.resolve_left fun z => hi z.1⟩
  have sub : Sub R (frz R H (Sf i)) := fun a o e => by
    by_cases q : a ∈ Sf i
    · rw [(fr0 a q).1] at e; cases e
    · rw [frz_out q]; exact e
  have ne : ∀ {j : Nat} {t' : T}, j ≠ i → (ρ.set i (some (.fz t.er)))[j]? = some (some t') → ρ[j]? = some (some t') := fun {j t'} e q => by
    rw [List.getElem?_set_ne (Ne.symm e)] at q; exact q
  have at_ : ∀ {t' : T}, (ρ.set i (some (.fz t.er)))[i]? = some (some t') → t' = .fz t.er := fun {t'} q => by
    rw [List.getElem?_set_self hl] at q
    simp only [Option.some.injEq] at q
    exact q.symm
  refine ⟨frz R H (Sf i), fun j => if j = i then [] else Sf j, ?_⟩
  refine ⟨I.sub.trans sub, fun a o e => ?_, fun a e e0 => ?_, I.same, I.thr, I.so, fun a c e => ?_, by simpa using I.len, fun j u q => ?_, fun j u q => ?_, fun j k u u' hjk hj hk a => ?_, fun j u q a ha => ?_, I.io⟩
  · by_cases q : a ∈ Sf i
    · rw [frz_in q] at e; exact e
    · rw [frz_out q] at e; exact I.inH _ _ e
  · by_cases q : a ∈ Sf i
    · exact (fr0 a q).2.2
    · rw [frz_out q] at e; exact I.new a e e0
  · obtain ⟨z1, z2⟩ := I.sR a c e
    constructor
    · by_cases q : a ∈ Sf i
      · exact absurd (by rw [e]; rfl) (fr0 a q).2.1
      · rw [frz_out q]; exact z1
    · cases z : R c with
      | none => exact absurd z z2
      | some o => rw [sub c o z]; simp
  · by_cases e : j = i
    · subst e
      rw [at_ q]
      refine ⟨v, h1, ?_⟩
      simp only [if_true]
      exact oval_fz.mpr (h2.freeze sub fun a ha => frz_in ha)
    · obtain ⟨w, z1, z2⟩ := I.own j u (ne e q)
      exact ⟨w, z1, by simpa [e] using z2.mono sub fun _ _ => rfl⟩
  · by_cases e : j = i
    · subst e; simp
    · simpa [e] using I.nd j u (ne e q)
  · by_cases e : j = i
    · subst e; simp
    · by_cases ek : k = i
      · subst ek; simp
      · simpa [e, ek] using I.dj j k u u' hjk (ne e hj) (ne ek hk) a
  · by_cases e : j = i
    · subst e; simp at ha
    · simp only [if_neg e] at ha
      obtain ⟨z1, z2, z3⟩ := I.fr j u (ne e q) a ha
      refine ⟨?_, z2, z3⟩
      rw [frz_out fun z => I.dj j i u t e (ne e q) h a ha z]
      exact z1
/-- a slot's tree is handed on: the slot is empty -/
theorem SInv.take (I : SInv K b R Sf σ H ρ) (i : Nat) : SInv K b R Sf σ H (ρ.set i none) := by
  have ne : ∀ {j : Nat} {t' : T}, (ρ.set i none)[j]? = some (some t') → ρ[j]? = some (some t') ∧ j ≠ i := fun {j t'} q => by
    by_cases e : j = i
    · subst e
      rw [List.getElem?_set] at q
      rw [if_pos rfl] at q
      split at q <;> cases q
    · rw [List.getElem?_set_ne (Ne.symm e)] at q; exact ⟨q, e⟩
  exact ⟨I.sub, I.inH, I.new, I.same, I.thr, I.so, I.sR, by simpa using I.len, fun j u q => I.own j u (ne q).1, fun j u q => I.nd j u (ne q).1, fun j k u u' hjk hj hk => I.dj j k u u' hjk (ne hj).1 (ne hk).1, fun j u q => I.fr j u (ne q).1, I.io⟩
end

/-! ### the statements -/
section
variable {X : Cx} {W : WX} {io : List Nat} {st : Stmt} {rest ss : List Stmt} {e : Expr} {r : RE} {a c : RS} {pos : Pos}
def aSeq (a c : RS) : RS := fun A ρ => a { A with nx := c A } ρ
def aNext : RS := fun A ρ => A.nx ρ
theorem js_nil : JSs io W X [] aNext := PSs.imp pss_nil fun D σ H q => by
  obtain ⟨b, R, Sf, ρ, A, hb, I, q, S⟩ := q
  exact S.nx R Sf σ H ρ I q
theorem js_cons (h1 : JS io W X st a) (h2 : JSs io W X rest c) : JSs io W X (st :: rest) (aSeq a c) := PSs.imp (pss_cons h1 h2) fun D σ H q => by
  obtain ⟨b, R, Sf, ρ, A, hb, I, q, S⟩ := q
  refine ⟨b, R, Sf, ρ, _, hb, I, q, ⟨?_, S.bk, S.ct, S.rt, S.ex⟩⟩
  intro R' Sf' σ' H' ρ' I' q'
  exact ⟨b, R', Sf', ρ', A, hb, I', q', S⟩
theorem js_one (h : JS io W X st a) : JSs io W X [st] a := pss_one h
theorem js_pass : JS io W X (.Pass pos) aNext := PS.imp ps_pass fun D σ H q => by
  obtain ⟨b, R, Sf, ρ, A, hb, I, q, S⟩ := q
  exact S.nx R Sf σ H ρ I q
def aBrk : RS := fun A ρ => A.bk ρ
def aCnt : RS := fun A ρ => A.ct ρ
theorem js_break : JS io W X (.Break pos) aBrk := PS.imp ps_break fun D σ H q => by
  obtain ⟨b, R, Sf, ρ, A, hb, I, q, S⟩ := q
  exact S.bk R Sf σ H ρ I q
theorem js_cont : JS io W X (.Continue pos) aCnt := PS.imp ps_continue fun D σ H q => by
  obtain ⟨b, R, Sf, ρ, A, hb, I, q, S⟩ := q
  exact S.ct R Sf σ H ρ I q
/-- an exception's dict comes into the region -/
theorem SInv.addX {K : PySem.W.Frag} {b : Bs} {R H : Hp} {Sf : Nat → List Addr} {σ : St} {ρ : AS} (I : SInv K b R Sf σ H ρ) {dd : Addr} {fs : List (Str × V)} (h : H dd = some (.xd fs)) (h0 : R dd = none → b.H0 dd = none) : ∃ R', SInv K b R' Sf σ H ρ ∧ Sub R R' ∧ R' dd = some (.xd fs) := by
  have sub : Sub R (upd R dd (.xd fs)) := fun a o e => by
    by_cases q : a = dd
    · subst q
      rw [I.inH _ _ e] at h
      cases h
      exact upd_same
    · rw [upd_ne q]; exact e
  refine ⟨upd R dd (.xd fs), ⟨I.sub.trans sub, fun a o e => ?_, fun a e e0 => ?_, I.same, I.thr, I.so, fun a c e => ?_, I.len, fun i t q => ?_, I.nd, I.dj, fun i t q a ha => ?_, I.io⟩, sub, upd_same⟩
  · by_cases q : a = dd
    · subst q
      rw [upd_same] at e
      cases e
      exact h
    · rw [upd_ne q] at e; exact I.inH _ _ e
  · by_cases q : a = dd
    · subst q
      cases z : R a with
      | none => exact h0 z
      | some o => exact I.new a (by rw [z]; simp) e0
    · rw [upd_ne q] at e; exact I.new a e e0
  · obtain ⟨z1, z2⟩ := I.sR a c e
    obtain ⟨ns, i, big, cnt, seed, y1, y2, _⟩ := I.so a c e
    refine ⟨?_, ?_⟩
    · rw [upd_ne (fun q => by rw [q, h] at y1; cases y1)]; exact z1
    · rw [upd_ne (fun q => by rw [q, h] at y2; cases y2)]; exact z2
  · obtain ⟨v, h1, h2⟩ := I.own i t q
    exact ⟨v, h1, h2.mono sub fun _ _ => rfl⟩
  · obtain ⟨z1, z2, z3⟩ := I.fr i t q a ha
    obtain ⟨v, _, ov⟩ := I.own i t q
    exact ⟨by rw [upd_ne (fun e => ov.nxd a ha fs (by rw [e]; exact h))]; exact z1, z2, z3⟩
/-- an exception of an expression -/
theorem Sim.kxF {K : PySem.W.Frag} {b : Bs} {R H : Hp} {Sf : Nat → List Addr} {σ : St} {ρ : AS} {D : Ends} {A : AEnds} (S : Sim K b W D A) (I : SInv K b R Sf σ H ρ) : KX K b.s R H W σ (fun x => A.ex x ρ) :=
  fun R' H' x cls d st xv ax => S.ex R' Sf σ H' ρ x cls d (I.stepF st) xv ax
theorem Sim.kxB {K : PySem.W.Frag} {b : Bs} {R H : Hp} {Sf : Nat → List Addr} {σ : St} {ρ : AS} {D : Ends} {A : AEnds} (S : Sim K b W D A) (I : SInv K b R Sf σ H ρ) : KX K b.s (regB R H Sf ρ) H W σ (fun x => A.ex x ρ) :=
  fun R' H' x cls d st xv ax => by
    have I2 := I.stepB I.subB st
    obtain ⟨ec, ⟨e1, e2⟩ | ⟨dd, e1, e2⟩⟩ := xv
    · exact S.ex R Sf σ H' ρ x cls d I2 ⟨ec, .inl ⟨e1, e2⟩⟩ ax
    · obtain ⟨R2, I3, _, h3⟩ := I2.addX (st.inH _ _ e2) fun h0 => by
        cases z : regB R H Sf ρ dd with
        | none =>
          have z2 := st.new dd (by rw [e2]; simp) z
          cases z3 : b.H0 dd with
          | none => rfl
          | some o => exact absurd z2 (I.thr dd (by rw [z3]; simp))
        | some o =>
          have z2 := st.sub dd o z
          rw [e2] at z2
          cases z2
          by_cases hh : ∃ (i : Nat) (t : T), ρ[i]? = some (some t) ∧ dd ∈ Sf i
          · obtain ⟨i, t, h1, h2⟩ := hh
            rw [regB_in h1 h2] at z
            obtain ⟨v, _, ov⟩ := I.own i t h1
            exact absurd z (ov.nxd dd h2 _)
          · rw [regB_out hh, h0] at z
            cases z
      exact S.ex R2 Sf σ H' ρ x cls d I3 ⟨ec, .inr ⟨dd, e1, h3⟩⟩ ax

/-- x = e, e over what is frozen; x then holds what e made -/
def aSet (i : Nat) (r : RE) : RS := fun A ρ => r (envF ρ) (fun t => A.nx (ρ.set i (some t))) (fun x => A.ex x ρ)
/-- .. and it is frozen -/
def aSetZ (i : Nat) (r : RE) : RS := fun A ρ => r (envF ρ) (fun t => A.nx (ρ.set i (some (.fz t.er)))) (fun x => A.ex x ρ)
/-- x = e, e over all that there is, but nothing of it goes into x -/
def aSetB (i : Nat) (r : RE) : RS := fun A ρ => r (envB ρ) (fun t => t.pure = true ∧ A.nx (ρ.set i (some t))) (fun x => A.ex x ρ)
theorem js_set {i : Nat} (h : JAs W X st i r) (hi : i ∉ io := by decide) : JS io W X st (aSet i r) := PS.imp h fun D σ H q => by
  obtain ⟨b, R, Sf, ρ, A, hb, I, q, S⟩ := q
  refine ⟨b.s, R, envF ρ, _, _, I.eF, q, fun R' H' t v S' e q' => ?_, S.kxF I⟩
  have I2 := I.stepF e.st
  obtain ⟨h1, h2⟩ := I.apart e
  exact S.nx _ _ _ _ _ (I2.set (by rw [hb]; exact hi) e.val e.nd (fun a ha => ⟨(e.fresh a ha).2, h1 a ha⟩) fun j t' _ hj => h2 j t' hj) q'
theorem js_setB {i : Nat} (h : JAs W X st i r) (hi : i ∉ io := by decide) : JS io W X st (aSetB i r) := PS.imp h fun D σ H q => by
  obtain ⟨b, R, Sf, ρ, A, hb, I, q, S⟩ := q
  refine ⟨b.s, _, envB ρ, _, _, I.eB, q, fun R' H' t v S' e q' => ?_, S.kxB I⟩
  have I2 := I.stepB I.subB e.st
  obtain ⟨h1, h2⟩ := I.apart e
  refine S.nx _ _ _ _ _ (I2.set (by rw [hb]; exact hi) (e.val.any q'.1) e.nd (fun a ha => ⟨?_, h1 a ha⟩) fun j t' _ hj => h2 j t' hj) q'.2
  cases z : R a with
  | none => rfl
  | some o =>
    have := e.st.sub a o (I.subB a o z)
    rw [(e.fresh a ha).2] at this
    cases this
theorem js_setZ {i : Nat} (h : JAs W X st i r) (hi : i ∉ io := by decide) : JS io W X st (aSetZ i r) := PS.imp h fun D σ H q => by
  obtain ⟨b, R, Sf, ρ, A, hb, I, q, S⟩ := q
  refine ⟨b.s, R, envF ρ, _, _, I.eF, q, fun R' H' t v S' e q' => ?_, S.kxF I⟩
  obtain ⟨R2, st, hv⟩ := e.frz I.so
  have I2 := I.stepF st
  exact S.nx _ _ _ _ _ (I2.set (S := []) (by rw [hb]; exact hi) (oval_fz.mpr hv) .nil (fun a ha => nomatch ha) fun j t' _ hj a ha => nomatch ha) q'
/-- an owned slot is frozen (nothing runs) -/
def aFrz (i : Nat) (a : RS) : RS := fun A ρ => match ρ[i]? with
  | some (some t) => a A (ρ.set i (some (.fz t.er)))
  | _ => False
theorem js_frz (i : Nat) (h : JSs io W X ss a) (hi : i ∉ io := by decide) : JSs io W X ss (aFrz i a) := PSs.imp h fun D σ H q => by
  obtain ⟨b, R, Sf, ρ, A, hb, I, q, S⟩ := q
  unfold aFrz at q
  split at q
  · rename_i t ht
    obtain ⟨R', Sf', I'⟩ := I.freeze (by rw [hb]; exact hi) ht
    exact ⟨b, R', Sf', _, A, hb, I', q, S⟩
  · exact q.elim
/-- a slot that is not looked at again -/
def aDrop (i : Nat) (a : RS) : RS := fun A ρ => a A (ρ.set i none)
theorem js_drop (i : Nat) (h : JSs io W X ss a) : JSs io W X ss (aDrop i a) := PSs.imp h fun D σ H q => by
  obtain ⟨b, R, Sf, ρ, A, hb, I, q, S⟩ := q
  exact ⟨b, R, Sf, _, A, hb, I.take i, q, S⟩

/-- e alone -/
def aExp (r : RE) : RS := fun A ρ => r (envB ρ) (fun _ => A.nx ρ) (fun x => A.ex x ρ)
theorem js_expr (h : JE W X e r) (hs : swapsWith e none pos.line X.env = pure false := by rfl) : JS io W X (.Expr e pos) (aExp r) := PS.imp (ps_expr h hs) fun D σ H q => by
  obtain ⟨b, R, Sf, ρ, A, hb, I, q, S⟩ := q
  exact ⟨b.s, _, envB ρ, _, _, I.eB, q, fun R' H' t v S' e q' => S.nx _ _ _ _ _ (I.stepB I.subB e.st) q', S.kxB I⟩
/-- return e : over what is frozen -/
def aRet (r : RE) : RS := fun A ρ => r (envF ρ) (fun t => A.rt t ρ) (fun x => A.ex x ρ)
/-- return e : over all, nothing of it is handed back -/
def aRetB (r : RE) : RS := fun A ρ => r (envB ρ) (fun t => t.pure = true ∧ A.rt t ρ) (fun x => A.ex x ρ)
theorem js_ret (h : JE W X e r) : JS io W X (.Return (some e) pos) (aRet r) := PS.imp (ps_ret h) fun D σ H q => by
  obtain ⟨b, R, Sf, ρ, A, hb, I, q, S⟩ := q
  refine ⟨b.s, R, envF ρ, _, _, I.eF, q, fun R' H' t v S' e q' => ?_, S.kxF I⟩
  obtain ⟨h1, h2⟩ := I.apart e
  exact S.rt _ _ _ _ _ _ _ _ (I.stepF e.st) e.val e.nd (fun a ha => ⟨(e.fresh a ha).2, (h1 a ha).2, fun i t' hi => h2 i t' hi a ha⟩) q'
theorem js_retB (h : JE W X e r) : JS io W X (.Return (some e) pos) (aRetB r) := PS.imp (ps_ret h) fun D σ H q => by
  obtain ⟨b, R, Sf, ρ, A, hb, I, q, S⟩ := q
  refine ⟨b.s, _, envB ρ, _, _, I.eB, q, fun R' H' t v S' e q' => ?_, S.kxB I⟩
  obtain ⟨h1, h2⟩ := I.apart e
  refine S.rt _ _ _ _ _ _ _ _ (I.stepB I.subB e.st) (e.val.any q'.1) e.nd (fun a ha => ⟨?_, (h1 a ha).2, fun i t' hi => h2 i t' hi a ha⟩) q'.2
  cases z : R a with
  | none => rfl
  | some o =>
    have := e.st.sub a o (I.subB a o z)
    rw [(e.fresh a ha).2] at this
    cases this
def aRetN : RS := fun A ρ => A.rt (.fz .non) ρ
theorem js_retN : JS io W X (.Return none pos) aRetN := PS.imp ps_retN fun D σ H q => by
  obtain ⟨b, R, Sf, ρ, A, hb, I, q, S⟩ := q
  exact S.rt _ _ _ _ _ _ _ [] I (oval_fz.mpr (by simp [Val])) .nil (fun a ha => nomatch ha) q
/-- return x : x's tree itself -/
def aRetV (i : Nat) : RS := fun A ρ => match ρ[i]? with
  | some (some t) => A.rt t (ρ.set i none)
  | _ => False
theorem js_retV (i : Nat) {x : Str} {p : Pos} (hi : i ∉ io := by decide) (hN : X.N[i]? = some x := by rfl) (hv : Vis X.env.scope x := by first | exact Or.inl rfl | exact Or.inr (Or.inl rfl) | exact Or.inr (Or.inr rfl)) (hd : (x == ("__debug__" : Str)) = false := by decide)
    (hcd : (x == ("__classdict__" : Str)) = false := by decide) : JS io W X (.Return (some (.Name x p)) pos) (aRetV i) := PS.imp (ps_ret (pe_var hN hv hd hcd)) fun D σ H q => by
  obtain ⟨b, R, Sf, ρ, A, hb, I, q, S⟩ := q
  unfold aRetV at q
  split at q
  · rename_i t ht
    obtain ⟨v, h1, h2⟩ := I.own i t ht
    refine ⟨v, h1, S.rt R Sf σ H _ t v (Sf i) (I.take i) h2 (I.nd i t ht) (fun a ha => ?_) q⟩
    obtain ⟨z1, z2, z3⟩ := I.fr i t ht a ha
    refine ⟨z1, z3.resolve_left fun z => hi (by rw [← hb]; exact z.1), fun j t' hj => ?_⟩
    have ne : j ≠ i := fun e => by
      subst e
      rw [List.getElem?_set] at hj
      rw [if_pos rfl] at hj
      split at hj <;> cases hj
    rw [List.getElem?_set_ne (Ne.symm ne)] at hj
    exact I.dj i j t t' (Ne.symm ne) ht hj a ha
  · exact q.elim
def aIf (c : RT) (p q : RS) : RS := fun A ρ => c (envB ρ) (fun k => if k = true then p A ρ else q A ρ) (fun x => A.ex x ρ)
theorem js_if {c : RT} {ec : Expr} {s1 s2 : List Stmt} {p q : RS} (hc : JT W X ec c) (h1 : JSs io W X s1 p) (h2 : JSs io W X s2 q) : JS io W X (.If ec s1 s2 pos) (aIf c p q) := PS.imp (ps_if hc h1 h2) fun D σ H z => by
  obtain ⟨b, R, Sf, ρ, A, hb, I, z, S⟩ := z
  refine ⟨b.s, _, envB ρ, _, _, I.eB, z, fun R' H' k st z' => ?_, S.kxB I⟩
  have I2 := I.stepB I.subB st
  cases k with
  | true => exact ⟨b, R, Sf, ρ, A, hb, I2, z', S⟩
  | false => exact ⟨b, R, Sf, ρ, A, hb, I2, z', S⟩
/-- a loop's turns -/
def forGo (g : Tg) (body : RS) (A : AEnds) : List D → AS → Prop
  | [], ρ => A.nx ρ
  | d :: ds, ρ => match g.bind d with
    | some bs => body { nx := forGo g body A ds, rt := A.rt, ex := A.ex, bk := A.nx, ct := forGo g body A ds } (setAll ρ (bs.map fun p => (p.1, .fz p.2)))
    | none => False
def aFor (ri : RI) (g : Tg) (body : RS) : RS := fun A ρ => ri (envF ρ) (fun ds => forGo g body A ds ρ) (fun x => A.ex x ρ)
theorem SInv.setAll {K : PySem.W.Frag} {b : Bs} {R H : Hp} : ∀ {bs : List (Nat × D)} {ws : List (Nat × V)} {Sf : Nat → List Addr} {σ : St} {ρ : AS}, SInv K b R Sf σ H ρ → (∀ p ∈ bs, p.1 ∉ b.ioA.map (·.1)) → ValB K b.s R bs ws → ∃ Sf', SInv K b R Sf' (AL.setAll σ ws) H (AL.setAll ρ (bs.map fun p => (p.1, .fz p.2)))
  | [], _, Sf, _, _, I, _, h => by simp only [ValB] at h; subst h; exact ⟨Sf, I⟩
  | p :: bs, _, Sf, σ, ρ, I, hi, h => by
    simp only [ValB] at h
    obtain ⟨v, r, rfl, h1, h2⟩ := h
    have I2 := I.set (S := []) (hi p (List.mem_cons_self ..)) (oval_fz.mpr h1) .nil (fun a ha => nomatch ha) (fun j t' _ hj a ha => nomatch ha)
    exact SInv.setAll (bs := bs) (ws := r) I2 (fun q hq => hi q (List.mem_cons_of_mem _ hq)) h2
/-- the run's region at a later time as its start's -/
theorem SInv.rebase {K : PySem.W.Frag} {b : Bs} {R H : Hp} {Sf : Nat → List Addr} {σ : St} {ρ : AS} (I : SInv K b R Sf σ H ρ) : SInv K { b with R0 := R } R Sf σ H ρ :=
  ⟨Sub.refl _, I.inH, fun a h h0 => absurd h0 h, I.same, I.thr, I.so, I.sR, I.len, I.own, I.nd, I.dj, I.fr, I.io⟩
theorem SInv.unbase {K : PySem.W.Frag} {b : Bs} {R0 R H H' : Hp} {Sf Sf' : Nat → List Addr} {σ σ' : St} {ρ ρ' : AS} (I : SInv K b R0 Sf σ H ρ) (J : SInv K { b with R0 := R0 } R Sf' σ' H' ρ') : SInv K b R Sf' σ' H' ρ' :=
  ⟨I.sub.trans J.sub, J.inH, fun a h h0 => by
    cases q : R0 a with
    | none => exact J.new a h q
    | some o => exact I.new a (by rw [q]; simp) h0, J.same, J.thr, J.so, J.sR, J.len, J.own, J.nd, J.dj, J.fr, J.io⟩
theorem Sim.rebase {K : PySem.W.Frag} {b : Bs} {R H : Hp} {Sf : Nat → List Addr} {σ : St} {ρ : AS} {D : Ends} {A : AEnds} (S : Sim K b W D A) (I : SInv K b R Sf σ H ρ) : Sim K { b with R0 := R } W D A :=
  ⟨fun R' Sf' σ' H' ρ' J => S.nx R' Sf' σ' H' ρ' (I.unbase J), fun R' Sf' σ' H' ρ' J => S.bk R' Sf' σ' H' ρ' (I.unbase J), fun R' Sf' σ' H' ρ' J => S.ct R' Sf' σ' H' ρ' (I.unbase J),
    fun R' Sf' σ' H' ρ' t v S' J => S.rt R' Sf' σ' H' ρ' t v S' (I.unbase J), fun R' Sf' σ' H' ρ' x cls d J => S.ex R' Sf' σ' H' ρ' x cls d (I.unbase J)⟩
theorem js_for {ri : RI} {g : Tg} {tg iter : Expr} {body : List Stmt} {rb : RS} (hp : PassesOwn (model X.prog X.w) X.A X.env X.xe) (hc : X.calm = true) (hi : JI W X tg iter ri) (hg : PG X tg (cG X.K g)) (hb : JSs io W X body rb) (hio : ∀ i ∈ g.slots, i ∉ io := by decide)
    (hs : ∀ x, foldedSetIterable iter X.env x = pure x := by intro _; rfl) : JS io W X (.For tg iter body [] pos) (aFor ri g rb) := PS.imp (ps_for hp hc hi hg hb hs) fun D σ H z => by
  obtain ⟨b, R, Sf, ρ, A, hbio, I, z, S⟩ := z
  refine ⟨b.s, R, envF ρ, _, _, I.eF, z, fun R1 H1 J ds st wd q1 => ?_, S.kxF I⟩
  obtain ⟨G, Y, wk, hG, hY⟩ := wd
  have I1 := I.stepF st
  have S1 := S.rebase I1
  refine for_it wk (fun i σ' H' => ∃ R' Sf' ρ', SInv X.K { b with R0 := R1 } R' Sf' σ' H' ρ' ∧ forGo g rb A (ds.drop i) ρ') ?_ ?_ ?_ ?_
  · exact ⟨R1, Sf, ρ, I1.rebase, q1⟩
  · rintro i σ' H' hi ⟨R', Sf', ρ', I', _⟩
    exact hG H' (I'.sub.trans I'.inH)
  · rintro i x σ' Hi H' hi ⟨R', Sf', ρ', I', q⟩ y
    have hd : ds[i]? = some ds[i] := List.getElem?_eq_getElem hi
    rw [List.drop_eq_getElem_cons hi] at q
    generalize ds[i] = d at hd q
    obtain ⟨Rx, st2, hv⟩ := hY i x Hi H' R' d hd I'.sub (Step.stay I'.inH I'.so I'.sR) y
    unfold forGo at q
    split at q
    · rename_i bs hbs
      have I2 := I'.stepF st2
      refine ⟨b.s, Rx, d, bs, st2.inH, hv, hbs, fun us hus => ?_⟩
      obtain ⟨Sf2, I3⟩ := I2.setAll (fun p hp => by
        show p.1 ∉ b.ioA.map (·.1)
        rw [hbio]
        refine hio _ ?_
        rw [← Tg.bind_slots hbs]
        exact List.mem_map_of_mem hp) hus
      refine ⟨{ b with R0 := R1 }, Rx, Sf2, _, _, hbio, I3, q, ⟨?_, S1.nx, ?_, S1.rt, S1.ex⟩⟩
      · intro R3 Sf3 σ3 H3 ρ3 J3 q3
        exact ⟨R3, Sf3, ρ3, J3, q3⟩
      · intro R3 Sf3 σ3 H3 ρ3 J3 q3
        exact ⟨R3, Sf3, ρ3, J3, q3⟩
    · exact q.elim
  · rintro σ' H' ⟨R', Sf', ρ', I', q⟩
    rw [List.drop_length] at q
    exact S1.nx R' Sf' σ' H' ρ' I' q
/-- a range: its bounds may be read off what is owned -/
def cIB (K : PySem.W.Frag) (W : WX) (r : RI) : TI := fun σ H Rr => ∃ s R ρ AQ AX, EInv K s R H ρ σ ∧ r ρ AQ AX ∧ (∀ R' H' J ds, Step K s R H R' H' → (∀ R2, WalkD K s R2 J ds) → AQ ds → Rr J H') ∧ KX K s R H W σ AX
abbrev JIB (W : WX) (X : Cx) (tg e : Expr) (r : RI) : Prop := PI X tg e (cIB X.K W r)
def aForB (ri : RI) (g : Tg) (body : RS) : RS := fun A ρ => ri (envB ρ) (fun ds => forGo g body A ds ρ) (fun x => A.ex x ρ)
theorem js_forB {ri : RI} {g : Tg} {tg iter : Expr} {body : List Stmt} {rb : RS} (hp : PassesOwn (model X.prog X.w) X.A X.env X.xe) (hc : X.calm = true) (hi : JIB W X tg iter ri) (hg : PG X tg (cG X.K g)) (hb : JSs io W X body rb) (hio : ∀ i ∈ g.slots, i ∉ io := by decide)
    (hs : ∀ x, foldedSetIterable iter X.env x = pure x := by intro _; rfl) : JS io W X (.For tg iter body [] pos) (aForB ri g rb) := PS.imp (ps_for hp hc hi hg hb hs) fun D σ H z => by
  obtain ⟨b, R, Sf, ρ, A, hbio, I, z, S⟩ := z
  refine ⟨b.s, _, envB ρ, _, _, I.eB, z, fun R1 H1 J ds st wd q1 => ?_, S.kxB I⟩
  obtain ⟨G, Y, wk, hG, hY⟩ := wd R
  have I1 := I.stepB I.subB st
  have S1 := S.rebase I1
  refine for_it wk (fun i σ' H' => ∃ R' Sf' ρ', SInv X.K { b with R0 := R } R' Sf' σ' H' ρ' ∧ forGo g rb A (ds.drop i) ρ') ?_ ?_ ?_ ?_
  · exact ⟨R, Sf, ρ, I1.rebase, q1⟩
  · rintro i σ' H' hi ⟨R', Sf', ρ', I', _⟩
    exact hG H' (I'.sub.trans I'.inH)
  · rintro i x σ' Hi H' hi ⟨R', Sf', ρ', I', q⟩ y
    have hd : ds[i]? = some ds[i] := List.getElem?_eq_getElem hi
    rw [List.drop_eq_getElem_cons hi] at q
    generalize ds[i] = d at hd q
    obtain ⟨Rx, st2, hv⟩ := hY i x Hi H' R' d hd I'.sub (Step.stay I'.inH I'.so I'.sR) y
    unfold forGo at q
    split at q
    · rename_i bs hbs
      have I2 := I'.stepF st2
      refine ⟨b.s, Rx, d, bs, st2.inH, hv, hbs, fun us hus => ?_⟩
      obtain ⟨Sf2, I3⟩ := I2.setAll (fun p hp => by
        show p.1 ∉ b.ioA.map (·.1)
        rw [hbio]
        refine hio _ ?_
        rw [← Tg.bind_slots hbs]
        exact List.mem_map_of_mem hp) hus
      refine ⟨{ b with R0 := R }, Rx, Sf2, _, _, hbio, I3, q, ⟨?_, S1.nx, ?_, S1.rt, S1.ex⟩⟩
      · intro R3 Sf3 σ3 H3 ρ3 J3 q3
        exact ⟨R3, Sf3, ρ3, J3, q3⟩
      · intro R3 Sf3 σ3 H3 ρ3 J3 q3
        exact ⟨R3, Sf3, ρ3, J3, q3⟩
    · exact q.elim
  · rintro σ' H' ⟨R', Sf', ρ', I', q⟩
    rw [List.drop_length] at q
    exact S1.nx R' Sf' σ' H' ρ' I' q
/-- while: so many turns at most -/
def whGo (c : RT) (body : RS) (A : AEnds) : Nat → AS → Prop
  | 0, _ => False
  | n + 1, ρ => c (envB ρ) (fun k => if k = true then body { nx := whGo c body A n, rt := A.rt, ex := A.ex, bk := A.nx, ct := whGo c body A n } ρ else A.nx ρ) (fun x => A.ex x ρ)
def aWhile (c : RT) (body : RS) : RS := fun A ρ => ∃ n, whGo c body A n ρ
theorem js_while {c : RT} {ec : Expr} {body : List Stmt} {rb : RS} (hp : PassesOwn (model X.prog X.w) X.A X.env X.xe) (hc : JT W X ec c) (hb : JSs io W X body rb) : JS io W X (.While ec body [] pos) (aWhile c rb) := PS.imp (ps_while hp hc hb) fun D σ H z => by
  obtain ⟨b, R, Sf, ρ, A, hbio, I, ⟨n, z⟩, S⟩ := z
  refine ⟨fun m σ' H' => ∃ R' Sf' ρ', SInv X.K b R' Sf' σ' H' ρ' ∧ whGo c rb A m ρ', ⟨n, R, Sf, ρ, I, z⟩, ?_⟩
  rintro m σ' H' ⟨R', Sf', ρ', I', q⟩
  cases m with
  | zero => exact q.elim
  | succ m =>
    refine ⟨b.s, _, envB ρ', _, _, I'.eB, q, fun R2 H2 k st q2 => ?_, S.kxB I'⟩
    have I2 := I'.stepB I'.subB st
    cases k with
    | false =>
      dsimp only at q2 ⊢
      rw [if_neg (by simp)] at q2 ⊢
      exact S.nx _ _ _ _ _ I2 q2
    | true =>
      dsimp only at q2 ⊢
      rw [if_pos rfl] at q2 ⊢
      refine ⟨fun σ3 H3 => ∃ R3 Sf3 ρ3, SInv X.K b R3 Sf3 σ3 H3 ρ3 ∧ whGo c rb A m ρ3, fun σ3 H3 h3 => ⟨m, Nat.lt_succ_self m, h3⟩, ?_⟩
      exact ⟨b, R', Sf', ρ', _, hbio, I2, q2, ⟨fun R3 Sf3 σ3 H3 ρ3 J3 q3 => ⟨R3, Sf3, ρ3, J3, q3⟩, S.nx, fun R3 Sf3 σ3 H3 ρ3 J3 q3 => ⟨R3, Sf3, ρ3, J3, q3⟩, S.rt, S.ex⟩⟩
end
end AL

set_option Elab.async false
set_option linter.all false
set_option maxRecDepth 100000
set_option maxHeartbeats 4000000
/-! AL9: a def keeps its promise, by its body -/
namespace AL
open PySem PySem.Spec PyProof.Rows L2
/-- the slots at the entry -/
def ent (m : Nat) (ds : List D) : AS := ds.map (fun d => some (.fz d)) ++ List.replicate (m - ds.length) none
theorem ent_get {m : Nat} {ds : List D} {i : Nat} {t : T} (h : (ent m ds)[i]? = some (some t)) : ∃ d, ds[i]? = some d ∧ t = .fz d := by
  unfold ent at h
  by_cases hi : i < ds.length
  · rw [List.getElem?_append_left (by simpa using hi), List.getElem?_map] at h
    cases q : ds[i]? with
    | none => rw [q] at h; cases h
    | some d => rw [q] at h; simp at h; exact ⟨d, rfl, h.symm⟩
  · rw [List.getElem?_append_right (by simpa using hi), List.getElem?_replicate] at h
    split at h <;> cases h
abbrev aEnds (AQ : TQ) (AX : XQ) : AEnds := { nx := fun _ => AQ (.fz .non), rt := fun t _ => AQ t, ex := fun x _ => AX x }
/-- the wish of a def about exceptions -/
abbrev WD (E : XK) : WX := fun cls d _ H => E cls d H
theorem start_inv {K : PySem.W.Frag} {s : Sto} {R H : Hp} {N : List Str} {ds : List D} {vs : List V} (inH : Sub R H) (so : StoOk K H s) (sR : SR R s) (hv : ValL K s R ds vs) :
    SInv K ⟨s, H, R, [], []⟩ R (fun _ => []) (L2.start N vs) H (ent N.length ds) := by
  refine ⟨Sub.refl _, inH, fun a h h0 => absurd h0 h, fun a o h _ _ => h, fun a h => h, so, sR, ?_, ?_, fun _ _ _ => .nil, fun _ _ _ _ _ _ _ a ha => (nomatch ha), fun _ _ _ a ha => (nomatch ha), fun p hp => (nomatch hp)⟩
  · simp only [ent, L2.start, List.length_append, List.length_map, List.length_replicate, hv.length]
  · intro i t h
    obtain ⟨d, h1, rfl⟩ := ent_get h
    obtain ⟨v, h2, h3⟩ := hv.get h1
    refine ⟨v, ?_, oval_fz.mpr h3⟩
    unfold L2.start
    rw [List.getElem?_append_left (by simpa using (List.getElem?_eq_some_iff.mp h2).1), List.getElem?_map, h2]
    rfl
theorem start_sim {K : PySem.W.Frag} {s : Sto} {R H : Hp} {Q : VK} {E : XK} {AQ : TQ} {AX : XQ} (sub : StoOk K H s) (kq : KE K s R H AQ Q) (kx : ∀ R' H' x cls d, Step K s R H R' H' → XVal K R' x cls d → AX x → E cls d H') :
    Sim K ⟨s, H, R, [], []⟩ (WD E) { nx := fun _ H' => Q .non H', rt := Q } (aEnds AQ AX) := by
  have st : ∀ {R' H' : Hp} {Sf : Nat → List Addr} {σ : St} {ρ : AS}, SInv K ⟨s, H, R, [], []⟩ R' Sf σ H' ρ → Step K s R H R' H' := fun I => ⟨I.sub, I.inH, I.new, fun a o h h2 => I.same a o h h2 (by simp), I.so, I.sR⟩
  refine ⟨fun R' Sf σ H' ρ I q => ?_, fun _ _ _ _ _ _ q => q.elim, fun _ _ _ _ _ _ q => q.elim, fun R' Sf σ H' ρ t v S I ov nd fr q => ?_, fun R' Sf σ H' ρ x cls d I xv q => ?_⟩
  · exact kq R' H' _ _ [] ⟨st I, oval_fz.mpr (by simp [Val]), .nil, fun a ha => (nomatch ha)⟩ q
  · exact kq R' H' _ _ S ⟨st I, ov, nd, fun a ha => ⟨(fr a ha).2.1, (fr a ha).1⟩⟩ q
  · exact kx R' H' x cls d (st I) xv q
section
variable {P : Program} {w : World} {K : PySem.W.Frag} {mg : Str → Option Value} {base : Heap} {qual : Str} {params : Arguments} {body : List Stmt} {scope : Scope} {dvs : List V} {kws : List (Str × V)} {f : Addr} {fd : FuncData}
/-- THE RULE: the body does at each entry what r says -/
theorem ok_of {name : Str} {N ps : List Str} {n k : Nat} {r : FS} {a : RS} (F : FunD K name qual params body scope dvs kws f fd) (S : FnScope N ps scope) (hn : Ar n r) (hps : ps.length = n)
    (hbody : ∀ (cdv : Value) (A : Around) (outer : List Env) (s : Shared) (H : Hp) (E : XK), Room k (A.deeper (envOfC qual scope s.heap.objs.size f cdv)) → JSs [] (WD E) (cxOf (L2.CX P w) P w K mg base N qual scope f cdv A outer s H E) body a)
    (hpure : ∀ ds AQ AX, r ds AQ AX → a (aEnds AQ AX) (ent N.length ds)) : FnOk P w K mg base (L2.CX P w) (k + 1) f fd ps (spOf K n r) := by
  refine F.ok S (fun vs H Q E h => by rw [hps]; exact spOf_len h) fun cdv A outer s H vs Q E hr h => ?_
  obtain ⟨st, R, ds, AQ, AX, h1, h2, h3, h4, h5, h6, h7, h8⟩ := h
  exact ⟨_, hbody cdv A outer s H E hr, ⟨st, H, R, [], []⟩, R, _, _, _, rfl, start_inv h2 h3 h4 h5, hpure ds AQ AX h6, start_sim h3 h7 h8⟩
theorem cl_of {name : Str} {N ps : List Str} {n k : Nat} {r : FS} {a : RS} (F : FunD K name qual params body scope [] [] f fd) (hm : mg name = some (.ref f)) (hb : Binds K fd ps []) (S : FnScope N ps scope) (hn : Ar n r) (hps : ps.length = n)
    (hbody : ∀ (cdv : Value) (A : Around) (outer : List Env) (s : Shared) (H : Hp) (E : XK), Room k (A.deeper (envOfC qual scope s.heap.objs.size f cdv)) → JSs [] (WD E) (cxOf (L2.CX P w) P w K mg base N qual scope f cdv A outer s H E) body a)
    (hpure : ∀ ds AQ AX, r ds AQ AX → a (aEnds AQ AX) (ent N.length ds)) : Cl P w K mg base name (k + 1) [] r :=
  ⟨⟨f, fd, ps, [], [], n, hm, F.kp, hb, .nil, fun _ _ => by simp [ValL], hn, ok_of F S hn hps hbody hpure⟩⟩
end
end AL

set_option Elab.async false
set_option linter.all false
set_option maxRecDepth 100000
set_option maxHeartbeats 4000000
/-! AL10: exceptions -/
namespace AL
open PySem PySem.Spec PyProof.Rows L2
/-- an own exception class: it stands under its name -/
structure XN (K : PySem.W.Frag) (mg : Str → Option Value) (name : Str) : Prop where
  gC : mg name = some (.ref (He.ga K name))
  kC : PySem.W.keepIn K (.ref (He.ga K name)) = true
  exC : PySem.W.subIn K (.ref (He.ga K name)) (.type "BaseException") = some true
  tyC : PySem.W.typeIn K (.ref (He.ga K name)) = some (.type "type")
/-- .. without an __init__ of its own -/
structure XC0 (K : PySem.W.Frag) (mg : Str → Option Value) (name : Str) : Prop extends XN K mg name where
  q : PySem.W.excIn K (He.ga K name) He.veBase "ValueError.__new__" = true
/-- self.f = f, an exception's __init__ -/
def spI1 (K : PySem.W.Frag) (C : Addr) (fl : Str) : Sp := fun vs H Q _ => ∃ (a : Addr) (y : V), vs = [.ref a, y] ∧ H a = some (exo a C none) ∧ ∀ dx, H dx = none → dx ≠ a → Q .non (upd (upd H dx (exd dx [(fl, y)])) a (exo a C (some dx)))
/-- .. with an __init__ that stores one field -/
structure XC1 (P : Program) (w : World) (K : PySem.W.Frag) (mg : Str → Option Value) (base : Heap) (name fl : Str) : Prop extends XN K mg name where
  T : OexC K (He.ga K name)
  ex : ∃ (fI : Addr) (fd : FuncData) (ps : List Str), PySem.W.findIn K (.ref (He.ga K name)) "__init__" = some (some (.ref fI)) ∧ PySem.W.typeIn K (.ref fI) = some (.type "function") ∧ Binds K fd ps [] ∧ FnOk P w K mg base (L2.CX P w) 1 fI fd ps (spI1 K (He.ga K name) fl)
theorem ok_init1 {P : Program} {w : World} {K : PySem.W.Frag} {mg : Str → Option Value} {base : Heap} {name qual fl : Str} {params : Arguments} {body : List Stmt} {scope : Scope} {dvs : List V} {kws : List (Str × V)} {f C : Addr} {fd : FuncData}
    (F : FunD K name qual params body scope dvs kws f fd) (T : OexC K C) (hno : PySem.W.findIn K (.ref C) fl = some none) (S : FnScope ["self", fl] ["self", fl] scope)
    (hbody : ∀ (cdv : Value) (A : Around) (outer : List Env) (s : Shared) (H : Hp) (E : XK), PSs (cxOf (L2.CX P w) P w K mg base ["self", fl] qual scope f cdv A outer s H E) body (tOst K fl (tVar 0) (tVar 1))) :
    FnOk P w K mg base (L2.CX P w) 1 f fd ["self", fl] (spI1 K C fl) := by
  refine F.ok S (fun vs H Q E h => ?_) (fun cdv A outer s H vs Q E hr h => ⟨_, hbody cdv A outer s H E, ?_⟩)
  · obtain ⟨a, y, rfl, _⟩ := h
    rfl
  · obtain ⟨a, y, rfl, e, q⟩ := h
    refine ⟨y, rfl, .ref a, rfl, a, C, rfl, T, hno, .inl ⟨e, fun dx n ne => q dx n ne⟩⟩
theorem passF {X : Cx} : Passes (L2.CX X.prog X.w) X (fun _ _ _ => False) := fun _ _ _ _ _ _ _ h => by
  obtain ⟨_, _, _, _, _, _, _, _, _, _, _, _, z⟩ := h
  exact z.elim
section
variable {X : Cx} {W : WX} {e : Expr} {p pos pos2 : Pos} {io : List Nat}
/-- C() -/
theorem pmk_own0 {x : Str} (T : XC0 X.K X.mg x) (hg : Gl X x) (hdb : (x == ("__debug__" : Str)) = false := by decide) : PMk X (.Call (.Name x p) [] [] pos) (fun _ H Q => Q (.ref (He.ga X.K x)) none H) := by
  intro pins s σ H Q I h
  refine wpAny_Call_Name_kw (ld_glob I hg T.gC ?_ hdb)
  refine PySem.W.callWith_K0 I.kIn T.kC ?_
  show wpAny _ _ (call (.ref (He.ga X.K x)) []) _ _ _
  obtain ⟨bm, N, nm, qn, bs, hdct, sn, sub, ab, col, dd, k0, k1, k2, k3, k5, mN, hC, hN, hni, TT⟩ := exc_obj I.kIn T.q
  obtain ⟨hp1, g1, d1, tk1, os1⟩ := s
  refine wpAny_call_exc_subT F.excBase_ValueError TT hC hN hni (fun h' e hm => ?_) (by show 0 ≤ sizeLine; omega)
  exact mk_of I hm (raises_own T.exC T.tyC) h (I.hok.gone hm.new)
def aRaise0 (x : Str) : RS := fun A ρ => A.ex ⟨x, []⟩ ρ
theorem js_raise0 {x : Str} (hc : X.calm = true) (tk : Takes X W) (T : XC0 X.K X.mg x) (hg : Gl X x) (hdb : (x == ("__debug__" : Str)) = false := by decide) :
    JS io W X (.Raise (some (.Call (.Name x p) [] [] pos)) none pos2) (aRaise0 x) := PS.imp (ps_raise hc tk (pmk_own0 T hg hdb)) fun D σ H q => by
  obtain ⟨b, R, Sf, ρ, A, hb, I, q, S⟩ := q
  exact S.ex R Sf σ H ρ _ _ _ I ⟨rfl, .inl ⟨rfl, rfl⟩⟩ q
/-- a scalar as a value -/
def D.sv : D → Option V
  | .int i => some (.int i)
  | .bl b => some (.bl b)
  | .str s => some (.str s)
  | .non => some .non
  | _ => none
theorem Val.sv {K : PySem.W.Frag} {s : Sto} {R : Hp} {d : D} {v w : V} (h : Val K s R d v) (e : d.sv = some w) : v = w := by
  cases d <;> simp only [D.sv, Option.some.injEq] at e <;> first | (cases e; done) | (subst e; simpa [Val] using h)
def aRaise1 (x fl : Str) (r : RE) : RS := fun A ρ => r (envB ρ) (fun t => match t.er.sv with
  | some y => A.ex ⟨x, [(fl, y)]⟩ ρ
  | none => False) (fun x => A.ex x ρ)
theorem js_raise1 {x fl : Str} {r : RE} (hc : X.calm = true) (tk : Takes X W) (hr : Room 2 X.A) (T : XC1 X.prog X.w X.K X.mg X.base x fl) (hg : Gl X x) (h : JE W X e r) (hdb : (x == ("__debug__" : Str)) = false := by decide)
    (he : starEach [e] X.env = (false, eval e X.env) :: starEach [] X.env := by rfl) (hpl : (backTo pos (starEach [] X.env)).any (·.1) = false := by rfl) :
    JS io W X (.Raise (some (.Call (.Name x p) [e] [] pos)) none pos2) (aRaise1 x fl r) := by
  obtain ⟨fI, fd, ps, iC, tI, hb, F1⟩ := T.ex
  refine PS.imp (ps_raise hc tk (pmk_oex T.T iC tI F1 hr hb .nil passF hg T.gC (pa_cons h pa_nil he) hdb he hpl)) fun D σ H q => ?_
  obtain ⟨b, R, Sf, ρ, A, hbio, I, q, S⟩ := q
  refine ⟨b.s, _, envB ρ, _, _, I.eB, q, fun R' H' t v S' e q' => ?_, S.kxB I⟩
  have I2 := I.stepB I.subB e.st
  dsimp only at q'
  split at q'
  · rename_i y hy
    obtain ⟨R2, st, hv⟩ := e.frz I.so
    have ev := hv.sv hy
    subst ev
    refine ⟨by simp, fun a ha => ⟨a, _, rfl, upd_same, fun dx hdx ne => ⟨rfl, dx, [(fl, v)], upd_same, ?_, ?_, ?_⟩⟩⟩
    · rw [upd_ne ne, upd_same]
    · have z := hdx
      rw [upd_ne ne] at z
      exact z
    · have hd0 : H' dx = none := by
        have z := hdx
        rw [upd_ne ne] at z
        exact z
      have same : ∀ b o, H' b = some o → (upd (del (upd (upd (upd H' a (exo a (He.ga X.K x) none)) dx (exd dx [(fl, v)])) a (exo a (He.ga X.K x) (some dx))) a) dx (.xd [(fl, v)])) b = some o := fun b o e => by
        have n1 : b ≠ dx := fun z => by rw [z, hd0] at e; cases e
        have n2 : b ≠ a := fun z => by rw [z, ha] at e; cases e
        rw [upd_ne n1, del_ne n2, upd_ne n2, upd_ne n1, upd_ne n2]
        exact e
      have I3 := I2.stepF (R' := R) (b := b) (K := X.K) ⟨Sub.refl _, I2.inH.trans same, fun a h h0 => absurd h0 h, fun a o e _ => same a o e, StoOk.same I2.so same, I2.sR⟩
      obtain ⟨R4, I4, _, h4⟩ := I3.addX (dd := dx) (fs := [(fl, v)]) upd_same fun _ => by
        cases z3 : b.H0 dx with
        | none => rfl
        | some o => exact absurd hd0 (I2.thr dx (by rw [z3]; simp))
      exact S.ex R4 Sf σ _ ρ _ _ _ I4 ⟨rfl, .inr ⟨dx, rfl, h4⟩⟩ q'
  · exact q'.elim
end
end AL

set_option Elab.async false
set_option linter.all false
set_option maxRecDepth 100000
set_option maxHeartbeats 4000000
/-! AL11: the class of an exception that a suite holds (with a dict or without) -/
namespace AL
open PySem PySem.Spec PySem.Calls PyProof.Rows PySem.W
section
variable {prog : Program} {w : World} {A : Around} {E : Value → Shared → Prop} {s : Shared} {K : Frag} {x D : Addr} {ox : Obj} {od : Option Obj}
theorem fo_bind {C : Addr} {name : Str} {a g : Value} (hc : (clsIn K C).isSome = true) (ha : findIn K (.ref C) name = some (some a)) (hg : specialIn K a "__get__" = some (some g)) (ht : takesIn K a = some true) : findObj K C od name = some (.bind g a) := by
  cases od with
  | none => exact findObj_dataN hc ha hg ht
  | some o => exact findObj_data hc ha hg ht
theorem exn_class {Q : Option Value → Shared → Prop} (T : L2.ExcC K D) (X : K.In s.heap) (I : InstAt s.heap x ox D od) (h : Q (some (.ref D)) { s with toks := s.toks + 1 }) : wpAny (model prog w) A (getAttr? (.ref x) "__class__") Q E s := by
  have hf : findObj K D od "__class__" = some (.bind (.builtin "getset_descriptor.__get__") (.builtin "object.__class__")) := fo_bind (by obtain ⟨cd, hc, _⟩ := any_some T.hd; rw [hc]; rfl) T.ha T.hn T.ht
  obtain ⟨hp, g, d, t, os⟩ := s
  have ty := I.type (M := model prog w)
  have sub : Looks (model prog w) hp (isInstance (.ref x) (.type "BaseException")) true := ty.andThen (looks_subIn X T.hs)
  have ne : (Value.builtin "BaseException.__getattribute__" == Value.builtin "object.__getattribute__") = false := by decide +kernel
  have neH : (onTheHeap (Value.ref D) && Value.builtin "BaseException.__getattribute__" == Value.builtin "object.__getattribute__") = false := by rw [ne]; rfl
  have neX : (false && onTheHeap (Value.builtin "BaseException.__getattribute__")) = false := rfl
  unfold getAttr? getAttrBy? getAttrBy
  refine wpAny_bind (wpAny_mkText (wpAny_bind (wpAny_attempt (wpAny_holding (wpAny_bind (ty.at (wpAny_bind ((looks_findIn (M := model prog w) X T.hg).at ?_))))))))
  show wpAny _ _ (if (onTheHeap (Value.ref D) && Value.builtin "BaseException.__getattribute__" == Value.builtin "object.__getattribute__") = true then _ else _) _ _ _
  rw [neH, if_neg Bool.false_ne_true]
  unfold getAttrByItsOwn hookBefore
  refine wpAny_bind ?_
  rw [if_pos (show onTheHeap (Value.ref D) = true from rfl)]
  refine (looks_findIn (M := model prog w) X T.hk).at ?_
  refine wpAny_bind (wpAny_attempt (wpAny_holding ?_))
  unfold callGetattribute
  rw [neX, if_neg Bool.false_ne_true]
  unfold boundAndCalled
  rw [PySem.F.excAttr_ValueError.ga.bind (.ref x)]
  refine wpAny_bind (wpAny_pure ?_)
  show wpAny _ _ (call (.builtin "BaseException.__getattribute__") [.ref x, .str "__class__" t]) _ _ _
  refine wpAny_call (codeAny_call_builtin PySem.F.excAttr_ValueError.ga.plain PySem.F.entry_bexc_ga ?_)
  refine @check_slot (model prog w) _ _ ⟨hp, g, d, t + 1, os⟩ "BaseException.__getattribute__" "BaseException" "__getattribute__" (.ref x) [.str "__class__" t] [] _ (by decide +kernel) (by decide +kernel) sub (PySem.F.args_bexc_ga (.ref x) (.str "__class__" t)) ?_
  unfold Builtin.«object.__getattribute__»
  refine wpAny_bind (wpAny_of_eq (a := ((Value.ref x : Value), [Value.str "__class__" t])) (by first | rfl | (simp only [slotArgs]; rfl)) ?_)
  refine wpAny_bind (wpAny_pure (wpAny_bind (ty.at (wpAny_bind ((looks_find (M := model prog w) X I hf).at ?_)))))
  show wpAny _ _ (holding [Value.builtin "object.__class__"] (call (.builtin "getset_descriptor.__get__") [.builtin "object.__class__", .ref x, .ref D]) >>= ret) _ _ _
  refine wpAny_bind (wpAny_holding (wpAny_call (class_get (s := ⟨hp, g, d, t + 1, os⟩) (ox := ox) (od := od) X I T.hm ?_)))
  refine wpAny_pure ?_
  show wpAny _ _ (handedOut (.ref D)) _ _ _
  rw [handedOut_of (v := .ref D) rfl]
  first
    | exact wpAny_pure (wpAny_pure h)
    | exact wpAny_pure h
    | exact wpAny_pure (wpAny_bind (wpAny_pure (wpAny_pure h)))
theorem exn_kit (T : L2.ExcC K D) : KitX K (.ref x) (.ref D) (fun h => InstAt h x ox D od) where
  ty := fun _ _ _ I => I.type
  it := fun _ _ X _ => by
    obtain ⟨cdD, hcD, _⟩ := any_some T.hd
    unfold clsIn at hcD
    split at hcD
    · rename_i c' d' cd' sl' ho
      intro A' Q' E' s' k q
      unfold isType loadHead
      exact wpAny_bind (wpAny_loadPart (k _ _ (X _ _ ho)) (wpAny_pure q))
    · cases hcD
  ne := fun h tp dd its n sl X htp => by
    obtain ⟨cdD, hcD, _⟩ := any_some T.hd
    refine Bool.eq_false_iff.mpr fun q => ?_
    have e : D = tp := Value.ref.inj (beq_iff_eq.mp q)
    subst e
    unfold clsIn at hcD
    split at hcD
    · rename_i c' d' cd' sl' ho
      have z := (X _ _ ho).symm.trans htp
      cases z
    · cases hcD
  ca := fun X I k => exn_class T X I k
end
open L2
/-- the context holds the exception at a, of the class nm -/
structure Hold (Y : Cx) (a : Addr) (nm : Str) (d : Option Addr) : Prop where
  ex : ∃ oe, (a, oe) ∈ Y.pn ∧ Zc (.ref (He.ga Y.K nm)) d oe ∧ ∃ vs, oe.data = .fields vs
theorem Hold.inst {Y : Cx} {a : Addr} {nm : Str} {d : Option Addr} (h : Hold Y a nm d) {pins : List (Addr × Obj)} {σ : L2.St} {H : Hp} {s : Shared} (I : Inv Y pins σ H s) (hd : ∀ dd, d = some dd → ∃ fs, H dd = some (.xd fs)) :
    ∃ oe od, InstAt s.heap a oe (He.ga Y.K nm) od := by
  obtain ⟨oe, hp, hz, vs, hv⟩ := h.ex
  obtain ⟨hget, _⟩ := I.pin (a, oe) (List.mem_append_left _ hp)
  cases d with
  | none => exact ⟨oe, none, hget, hz.1, by unfold notCls; rw [hv] <;> rfl, by rw [hz.2]; trivial⟩
  | some dd =>
    obtain ⟨fs, hd⟩ := hd dd rfl
    obtain ⟨mA, hns, hr⟩ := (show ObjOk Y.prog Y.w H s.heap dd (.xd fs) from I.hok dd _ hd)
    obtain ⟨od, ho, hl⟩ := lookIn_ns hns
    exact ⟨oe, some od, hget, hz.1, by unfold notCls; rw [hv] <;> rfl, by rw [hz.2]; exact ho⟩
/-- isinstance(e, C), isinstance(e, (C, ..)) -/
def rIsX (K : Frag) (a : Addr) (nm : Str) (d : Option Addr) : List V → Hp → VK → Prop := fun xs H Q => (∀ dd, d = some dd → ∃ fs, H dd = some (.xd fs)) ∧
  ((∃ (c : V) (cv : Value) (b : Bool), xs = [.ref a, c] ∧ ClsV c cv ∧ kitOne K (.ref (He.ga K nm)) cv = some b ∧ Q (.bl b) H) ∨
   (∃ (tp : Addr) (cs : List V) (us : List Value) (b : Bool), xs = [.ref a, .ref tp] ∧ H tp = some (.tup cs) ∧ Paired ClsV cs us ∧ kitAny K (.ref (He.ga K nm)) us = some b ∧ Q (.bl b) H))
theorem call_isX {Y : Cx} {a : Addr} {nm : Str} {d : Option Addr} (C : ExcC Y.K (He.ga Y.K nm)) (ho : Hold Y a nm d) : CallR Y (.builtin "isinstance") (rIsX Y.K a nm d) := by
  intro pins s σ H xs us Q I r h
  obtain ⟨hd, ⟨c, cv, b, rfl, k, e, q⟩ | ⟨tp, cs, ws, b, rfl, hT, k, e, q⟩⟩ := h
  · obtain ⟨oe, od, J⟩ := ho.inst I hd
    obtain ⟨u1, u2, rfl, r1, r2⟩ := vals2 r
    cases (show u1 = Value.ref a from r1)
    have e2 := k.eq r2
    subst e2
    exact kia_one (exn_kit C) I.kIn J e (fun z => nomatch z) fun tk => ⟨.bl b, H, I.tok tk, rfl, q⟩
  · obtain ⟨oe, od, J⟩ := ho.inst I hd
    obtain ⟨u1, u2, rfl, r1, r2⟩ := vals2 r
    cases (show u1 = Value.ref a from r1)
    cases (show u2 = Value.ref tp from r2)
    obtain ⟨_, its, rv, o, h1, h2, n, h3⟩ := (show ObjOk Y.prog Y.w H s.heap tp (.tup cs) from I.hok tp _ hT)
    have e3 := ClsV.all k rv
    subst e3
    obtain ⟨oc, od', dt, sl⟩ := o
    simp only at h2 h3
    subst h2 h3
    exact kia_tup (exn_kit C) I.kIn J h1 e (fun z => nomatch z) fun tk => ⟨.bl b, H, I.tok tk, rfl, q⟩
end AL

set_option Elab.async false
set_option linter.all false
set_option maxRecDepth 100000
set_option maxHeartbeats 4000000
/-! AL12: isinstance; defs that look at a caught exception; try -/
namespace AL
open PySem PySem.Spec PyProof.Rows L2

/-! ### isinstance of plain values -/
def D.tyn : D → Option String
  | .non => some "NoneType"
  | .bl _ => some "bool"
  | .int _ => some "int"
  | .str _ => some "str"
  | .lst _ => some "list"
  | .tup _ => some "tuple"
  | _ => none
theorem tyx {K : PySem.W.Frag} {s : Sto} {R H : Hp} {d : D} {v : V} {tn : String} (h : Val K s R d v) (sub : Sub R H) (e : d.tyn = some tn) : TyX K H v (.type tn) := by
  cases d <;> simp only [D.tyn, Option.some.injEq] at e <;> first
    | (cases e; done)
    | skip
  all_goals subst e
  · cases (show v = .non by simpa [Val] using h); exact .base .non
  · cases (show v = .bl _ by simpa [Val] using h); exact .base (.bl _)
  · cases (show v = .int _ by simpa [Val] using h); exact .base (.int _)
  · cases (show v = .str _ by simpa [Val] using h); exact .base (.str _)
  · simp only [Val] at h
    obtain ⟨a, vs, rfl, h2, _⟩ := h
    exact .base (.lst (sub _ _ h2))
  · simp only [Val] at h
    obtain ⟨a, vs, rfl, h2, _⟩ := h
    exact .base (.tup (sub _ _ h2))
def tyns : List String := ["NoneType", "bool", "int", "str", "list", "tuple"]
theorem tyn_mem {d : D} {tn : String} (e : d.tyn = some tn) : tn ∈ tyns := by
  cases d <;> simp only [D.tyn, Option.some.injEq] at e <;> first
    | (cases e; done)
    | (subst e; decide)
/-- is a value of the type tn an instance of the type c -/
def isTy (tn c : String) : Bool := tn == c || (tn == "bool" && c == "int")
def isTys (tn : String) (cs : List String) : Bool := cs.any (isTy tn)
def okTy (c : String) : Bool := tyns.all fun tn => decide (kitB tn c = some (isTy tn c))
theorem okTy_bool : okTy "bool" = true := by decide +kernel
theorem okTy_int : okTy "int" = true := by decide +kernel
theorem okTy_str : okTy "str" = true := by decide +kernel
theorem okTy_list : okTy "list" = true := by decide +kernel
theorem okTy_tuple : okTy "tuple" = true := by decide +kernel
theorem kit_isTy {K : PySem.W.Frag} {tn c : String} (h : tn ∈ tyns) (o : okTy c = true) : PySem.W.kitOne K (.type tn) (.type c) = some (isTy tn c) :=
  kit_ty (of_decide_eq_true (List.all_eq_true.mp o tn h))
theorem kit_isTys {K : PySem.W.Frag} {tn : String} (h : tn ∈ tyns) : ∀ {cs : List String}, (∀ c ∈ cs, okTy c = true) → PySem.W.kitAny K (.type tn) (cs.map Value.type) = some (isTys tn cs)
  | [], _ => rfl
  | c :: cs, o => by
    refine kitAny_cons (kit_isTy h (o c (List.mem_cons_self ..))) (fun hb => ?_) (fun hb => ?_)
    · rw [kit_isTys h fun c hc => o c (List.mem_cons_of_mem _ hc)]
      simp [isTys, hb]
    · simp [isTys, hb]
theorem clsV_tys : ∀ cs : List String, Paired ClsV (cs.map V.ty) (cs.map Value.type)
  | [] => .nil
  | c :: cs => .cons (.ty c) (clsV_tys cs)
section
variable {X : Cx} {W : WX} {e : Expr} {a : RE} {p pos : Pos}
def rIs (cs : List String) (a : RE) : RE := fun ρ AQ AX => a ρ (fun t => match t.er.tyn with
  | some tn => AQ (.fz (.bl (isTys tn cs)))
  | none => False) AX
theorem je_isI {c : Str} {cn : String} {p2 : Pos} (o : okTy cn = true) (hv : bootBuiltins c = some (.type cn)) (hm1 : X.mg "isinstance" = none) (hg : Gl X "isinstance") (hm : X.mg c = none) (hg2 : Gl X c) (h : JE W X e a) (hn : c ≠ "__name__" := by decide) (hd : (c == ("__debug__" : Str)) = false := by decide)
    (he : starEach [e, .Name c p2] X.env = (false, eval e X.env) :: starEach [.Name c p2] X.env := by rfl) (hpl : (backTo pos (starEach [.Name c p2] X.env)).any (·.1) = false := by rfl) :
    JE W X (.Call (.Name "isinstance" p) [e, .Name c p2] [] pos) (rIs [cn] a) := by
  refine PE.imp (pe_callB call_isi hg hm1 PyProof.Rows.boot_isinstance (pa_cons h (pa_cons (pe_bltn (v := .ty cn) hg2 hm hv rfl hn hd) pa_nil) he) (he := he) (hpl := hpl)) fun σ H Q q => ?_
  obtain ⟨s, R, ρ, AQ, AX, I, q, kq, kx⟩ := q
  refine ⟨s, R, ρ, _, AX, I, q, fun R1 H1 t v S e q1 => ?_, kx⟩
  obtain ⟨R2, st, hv⟩ := e.frz I.so
  dsimp only at q1
  split at q1
  · rename_i tn htn
    refine ⟨v, .ty cn, .type tn, .type cn, isTy tn cn, rfl, .ty cn, tyx hv st.inH htn, kit_isTy (tyn_mem htn) o, ?_⟩
    have e1 : isTys tn [cn] = isTy tn cn := by simp [isTys]
    rw [e1] at q1
    exact (kq.step I.so st).val (Step.stay st.inH st.sto st.sR) (d := .bl _) (by simp [Val]) q1
  · exact q1.elim
theorem je_isL {p1 p2 p3 : Pos} {x1 : Nat} (hm1 : X.mg "isinstance" = none) (hg : Gl X "isinstance") (hmL : X.mg "list" = none) (hgL : Gl X "list") (hmT : X.mg "tuple" = none) (hgT : Gl X "tuple") (h : JE W X e a)
    (he : starEach [e, .Tuple [.Name "list" p1, .Name "tuple" p2] x1 p3] X.env = (false, eval e X.env) :: starEach [.Tuple [.Name "list" p1, .Name "tuple" p2] x1 p3] X.env := by rfl) (hpl : (backTo pos (starEach [.Tuple [.Name "list" p1, .Name "tuple" p2] x1 p3] X.env)).any (·.1) = false := by rfl) :
    JE W X (.Call (.Name "isinstance" p) [e, .Tuple [.Name "list" p1, .Name "tuple" p2] x1 p3] [] pos) (rIs ["list", "tuple"] a) := by
  refine PE.imp (pe_callB call_isiT hg hm1 PyProof.Rows.boot_isinstance (pa_cons h (pa_cons (pe_tup (pa_cons (pe_bltn (v := .ty "list") hgL hmL (by decide +kernel) rfl) (pa_cons (pe_bltn (v := .ty "tuple") hgT hmT (by decide +kernel) rfl) pa_nil))) pa_nil) he) (he := he) (hpl := hpl)) fun σ H Q q => ?_
  obtain ⟨s, R, ρ, AQ, AX, I, q, kq, kx⟩ := q
  refine ⟨s, R, ρ, _, AX, I, q, fun R1 H1 t v S e q1 => ?_, kx⟩
  obtain ⟨R2, st, hv⟩ := e.frz I.so
  dsimp only at q1
  split at q1
  · rename_i tn htn
    refine ⟨by simp [sizeLine_eq], fun tp htp => ?_⟩
    have st2 := Step.own (o := .tup [V.ty "list", V.ty "tuple"]) st.inH st.sto st.sR htp
    refine ⟨v, tp, [.ty "list", .ty "tuple"], .type tn, _, isTys tn ["list", "tuple"], rfl, upd_same, clsV_tys ["list", "tuple"], tyx hv st2.inH htn, kit_isTys (tyn_mem htn) (fun c hc => ?_), ?_⟩
    · rcases List.mem_cons.mp hc with rfl | hc
      · exact okTy_list
      · rcases List.mem_cons.mp hc with rfl | hc
        · exact okTy_tuple
        · cases hc
    · exact ((kq.step I.so st).step st.sto st2).val (Step.stay st2.inH st2.sto st2.sR) (d := .bl _) (by simp [Val]) q1
  · exact q1.elim
end
/-! ### a caught exception looked at -/
/-- what the classes of the names ns must say -/
structure XNs (K : PySem.W.Frag) (ns : List Str) : Prop where
  exc : ∀ n ∈ ns, ExcC K (He.ga K n)
  xf : ∀ n ∈ ns, XfC K (He.ga K n)
section
variable {X : Cx} {W : WX} {e : Expr} {r : RE} {p pos : Pos} {a : Addr} {nm : Str} {d : Option Addr} {ns : List Str}
/-- isinstance(e, C): C an own class, or a built-in one; what the answer is, is told of each name -/
def rIsX1 (a : Addr) (nm : Str) (d : Option Addr) (ns : List Str) (ans : Str → Bool) (r : RE) : RE := fun ρ AQ AX => nm ∈ ns ∧ r ρ (fun t => (∃ fs, t.er = .exn a d fs) ∧ AQ (.fz (.bl (ans nm)))) AX
theorem exn_at {K : PySem.W.Frag} {s : Sto} {R H : Hp} {d0 : D} {v : V} {fs : List (Str × V)} (h : Val K s R d0 v) (sub : Sub R H) (e : d0 = .exn a d fs) : v = .ref a ∧ ∀ dd, d = some dd → ∃ fs, H dd = some (.xd fs) := by
  subst e
  simp only [Val] at h
  exact ⟨h.1, fun dd z => ⟨fs, sub _ _ (h.2 dd z)⟩⟩
theorem je_isX1 {ans : Str → Bool} {c : Str} {p2 : Pos} {cv : V} {cu : Value} (hns : XNs X.K ns) (ho : Hold X a nm d) (hk : ∀ n ∈ ns, PySem.W.kitOne X.K (.ref (He.ga X.K n)) cu = some (ans n)) (hcv : ClsV cv cu) (hc : PE X (.Name c p2) (tC cv))
    (hm1 : X.mg "isinstance" = none) (hg : Gl X "isinstance") (h : JE W X e r)
    (he : starEach [e, .Name c p2] X.env = (false, eval e X.env) :: starEach [.Name c p2] X.env := by rfl) (hpl : (backTo pos (starEach [.Name c p2] X.env)).any (·.1) = false := by rfl) :
    JE W X (.Call (.Name "isinstance" p) [e, .Name c p2] [] pos) (rIsX1 a nm d ns ans r) := by
  refine ⟨fun pins s σ H Q I q => ?_⟩
  have hn : nm ∈ ns := by
    obtain ⟨s, R, ρ, AQ, AX, J, q, kq, kx⟩ := q
    exact q.1
  refine (pe_callB (call_isX (hns.exc nm hn) ho) hg hm1 PyProof.Rows.boot_isinstance (pa_cons h (pa_cons hc pa_nil) he) (he := he) (hpl := hpl)).run pins s σ H Q I ?_
  obtain ⟨s, R, ρ, AQ, AX, J, ⟨_, q⟩, kq, kx⟩ := q
  refine ⟨s, R, ρ, _, AX, J, q, fun R1 H1 t v S e q1 => ?_, kx⟩
  obtain ⟨R2, st, hv⟩ := e.frz J.so
  obtain ⟨⟨fs, ed⟩, q1⟩ := q1
  obtain ⟨rfl, hd⟩ := exn_at hv st.inH ed
  exact ⟨hd, .inl ⟨cv, cu, ans nm, rfl, hcv, hk nm hn, (kq.step J.so st).val (Step.stay st.inH st.sto st.sR) (d := .bl _) (by simp [Val]) q1⟩⟩
/-- names of own classes, one behind another -/
inductive ClsEs (X : Cx) : List Expr → List Str → Prop where
  | nil : ClsEs X [] []
  | cons {x : Str} {p : Pos} {es : List Expr} {xs : List Str} (hm : X.mg x = some (.ref (He.ga X.K x))) (hg : Gl X x) (r : ClsEs X es xs) (hd : (x == ("__debug__" : Str)) = false := by decide) (hs : starEach (.Name x p :: es) X.env = (false, eval (.Name x p) X.env) :: starEach es X.env := by rfl) : ClsEs X (.Name x p :: es) (x :: xs)
theorem ClsEs.pa : ∀ {es : List Expr} {xs : List Str}, ClsEs X es xs → PA X es (fun σ H Q => Q (xs.map fun x => .ref (He.ga X.K x)) H)
  | _, _, .nil => pa_nil
  | _, _, .cons hm hg r hd hs => ⟨fun pos pins s σ H Q I q => (pa_cons (pe_glob (v := .ref _) hg hm rfl hd) r.pa hs).run pos pins s σ H Q I q⟩
theorem clsV_own {K : PySem.W.Frag} : ∀ xs : List Str, Paired ClsV (xs.map fun x => V.ref (He.ga K x)) (xs.map fun x => Value.ref (He.ga K x))
  | [] => .nil
  | x :: xs => .cons (.own _) (clsV_own xs)
theorem je_isXT {ans : Str → Bool} {es : List Expr} {xs : List Str} {x1 : Nat} {p2 : Pos} (hns : XNs X.K ns) (ho : Hold X a nm d) (hk : ∀ n ∈ ns, PySem.W.kitAny X.K (.ref (He.ga X.K n)) (xs.map fun x => Value.ref (He.ga X.K x)) = some (ans n)) (hz : xs.length ≤ 1000) (hc : ClsEs X es xs)
    (hm1 : X.mg "isinstance" = none) (hg : Gl X "isinstance") (h : JE W X e r)
    (he : starEach [e, .Tuple es x1 p2] X.env = (false, eval e X.env) :: starEach [.Tuple es x1 p2] X.env := by rfl) (hpl : (backTo pos (starEach [.Tuple es x1 p2] X.env)).any (·.1) = false := by rfl) (hs2 : starEach [.Tuple es x1 p2] X.env = (false, eval (.Tuple es x1 p2) X.env) :: starEach [] X.env := by rfl) :
    JE W X (.Call (.Name "isinstance" p) [e, .Tuple es x1 p2] [] pos) (rIsX1 a nm d ns ans r) := by
  refine ⟨fun pins s σ H Q I q => ?_⟩
  have hn : nm ∈ ns := by
    obtain ⟨s, R, ρ, AQ, AX, J, q, kq, kx⟩ := q
    exact q.1
  refine (pe_callB (call_isX (hns.exc nm hn) ho) hg hm1 PyProof.Rows.boot_isinstance (pa_cons h (pa_cons (pe_tup hc.pa) pa_nil hs2) he) (he := he) (hpl := hpl)).run pins s σ H Q I ?_
  obtain ⟨s, R, ρ, AQ, AX, J, ⟨_, q⟩, kq, kx⟩ := q
  refine ⟨s, R, ρ, _, AX, J, q, fun R1 H1 t v S e q1 => ?_, kx⟩
  obtain ⟨R2, st, hv⟩ := e.frz J.so
  obtain ⟨⟨fs, ed⟩, q1⟩ := q1
  refine ⟨by rw [List.length_map, sizeLine_eq]; omega, fun tp htp => ?_⟩
  have st2 := Step.own (o := .tup (xs.map fun x => V.ref (He.ga X.K x))) st.inH st.sto st.sR htp
  obtain ⟨rfl, hd⟩ := exn_at hv st2.inH ed
  exact ⟨hd, .inr ⟨tp, _, _, ans nm, rfl, upd_same, clsV_own xs, hk nm hn, ((kq.step J.so st).step st.sto st2).val (Step.stay st2.inH st2.sto st2.sR) (d := .bl _) (by simp [Val]) q1⟩⟩
/-- e.f -/
def rXf (a : Addr) (nm : Str) (d : Option Addr) (ns : List Str) (f : Str) (r : RE) : RE := fun ρ AQ AX => nm ∈ ns ∧ r ρ (fun t => ∃ fs i, t.er = .exn a d fs ∧ d ≠ none ∧ fs.lookup f = some (.int i) ∧ AQ (.fz (.int i))) AX
theorem je_xf {f : Str} (hns : XNs X.K ns) (ho : Hold X a nm d) (hno : ∀ n ∈ ns, PySem.W.findIn X.K (.ref (He.ga X.K n)) f = some none) (h : JE W X e r) (hb : attributeBase e f X.env (eval e X.env) = eval e X.env := by rfl) :
    JE W X (.Attribute e f pos) (rXf a nm d ns f r) := by
  refine ⟨fun pins s σ H Q I q => ?_⟩
  have hn : nm ∈ ns := by
    obtain ⟨s, R, ρ, AQ, AX, J, q, kq, kx⟩ := q
    exact q.1
  obtain ⟨s0, R, ρ, AQ, AX, J, ⟨_, q⟩, kq, kx⟩ := q
  refine attr_of hb (thn (h.run pins s σ H (fun v H1 => ∃ i dd fs, v = .ref a ∧ d = some dd ∧ H1 dd = some (.xd fs) ∧ fs.lookup f = some (.int i) ∧ Q (.int i) H1) I ⟨s0, R, ρ, _, AX, J, q, fun R1 H1 t v S e q1 => ?_, kx⟩) fun u s1 hh => ?_)
  · obtain ⟨R2, st, hv⟩ := e.frz J.so
    obtain ⟨fs, i, ed, hd, hl, q1⟩ := q1
    rw [ed] at hv
    simp only [Val] at hv
    obtain ⟨dd, ed2⟩ := Option.ne_none_iff_exists'.mp hd
    exact ⟨i, dd, fs, hv.1, ed2, st.inH _ _ (hv.2 dd ed2), hl, (kq.step J.so st).val (Step.stay st.inH st.sto st.sR) (d := .int _) (by simp [Val]) q1⟩
  · obtain ⟨x, H1, I1, rx, i, dd, fs, ex, rfl, ea, hl, q⟩ := hh
    subst ex
    obtain rfl : u = Value.ref a := rx
    obtain ⟨oe, hp, hz, vs, hd⟩ := ho.ex
    obtain ⟨ha, _⟩ := I1.pin (a, oe) (List.mem_append_left _ hp)
    have hx : ObjOk X.prog X.w H1 s1.heap dd (.xd fs) := I1.hok dd _ ea
    obtain ⟨mA, hns', hr⟩ := hx
    obtain ⟨od, hod, hl'⟩ := lookIn_ns hns'
    obtain ⟨u, hu, ru⟩ := RelO.some_of (v := .int i) (o := mA f) (by rw [← hl]; exact hr f)
    have JJ : PySem.W.InstAt s1.heap a oe (He.ga X.K nm) (some od) := ⟨ha, hz.1, by unfold PySem.W.notCls; rw [hd] <;> rfl, by rw [hz.2]; exact hod⟩
    have T := hns.xf nm hn
    exact HandSPX.exc_get I1.kIn JJ T.ga T.gg T.exC (PySem.W.findObj_own T.hdC (hno nm hn) rfl (by rw [hl', hu])) (handed_of ru) ⟨.int i, H1, I1.tok _, ru, q⟩
end
end AL

set_option Elab.async false
set_option linter.all false
set_option maxRecDepth 100000
set_option maxHeartbeats 4000000
/-! AL13: defs over a caught exception; try -/
namespace AL
open PySem PySem.Spec PyProof.Rows L2 L2H
/-! ### a def that is handed the exception which a suite holds -/
abbrev FX := XD → TQ → Prop
structure FnE (P : Program) (w : World) (K : PySem.W.Frag) (mg : Str → Option Value) (base : Heap) (k : Nat) (f : Addr) (fd : FuncData) (ps : List Str) (r : FX) : Prop where
  len : ps.length = 1
  run : ∀ (A : Around) (outer : List Env) (s : Shared) (H : Hp) (args : Args) (Q : VK) (p : Addr × Obj) (nm : Str) (d : Option Addr) (fs : List (Str × V)), RoomH k A → Zc (.ref (He.ga K nm)) d p.2 → (∃ vs, p.2.data = .fields vs) → PinOk outer H s p →
    Env0 P w K mg base A outer s H → BindsTo s fd args (ps.zip [.ref p.1]) → (∃ (st : Sto) (R : Hp) (AQ : TQ), Sub R H ∧ StoOk K H st ∧ SR R st ∧ Val K st R (.exn p.1 d fs) (.ref p.1) ∧ r ⟨nm, fs⟩ AQ ∧ KE K st R H AQ Q ∧ (fs = [] ∨ d ≠ none)) →
    codeAny (model P w) A (.call (.ref f) args) (CR (L2.CX P w) outer P w H s Q L2.E0) s
section
variable {P : Program} {w : World} {K : PySem.W.Frag} {mg : Str → Option Value} {base : Heap} {name qual : Str} {params : Arguments} {body : List Stmt} {scope : Scope} {dvs : List V} {kws : List (Str × V)} {f : Addr} {fd : FuncData}
theorem ok_ofE {N ps : List Str} {k : Nat} {r : FX} {a : Addr → Str → Option Addr → RS} (F : FunD K name qual params body scope dvs kws f fd) (S : FnScope N ps scope) (hps : ps.length = 1)
    (hbody : ∀ (cdv : Value) (A : Around) (outer : List Env) (s : Shared) (H : Hp) (p : Addr × Obj) (nm : Str) (d : Option Addr), RoomH k (A.deeper (envOfC qual scope s.heap.objs.size f cdv)) → Hold (cxH (L2.CX P w) P w K mg base N qual scope f cdv A outer s H L2.E0 p) p.1 nm d →
      JSs [] (WD L2.E0) (cxH (L2.CX P w) P w K mg base N qual scope f cdv A outer s H L2.E0 p) body (a p.1 nm d))
    (hpure : ∀ p nm d fs AQ, r ⟨nm, fs⟩ AQ → (fs = [] ∨ d ≠ none) → a p nm d (aEnds AQ fun _ => False) (ent N.length [.exn p d fs])) : FnE P w K mg base (k + 1) f fd ps r := by
  obtain ⟨oc, od, dV, kV, doc, pm, an, cdv, ct, osl, rfl, lk, hcd, _, _⟩ := F.ex
  refine ⟨hps, fun A outer s H args Q p nm d fs hr hz hf hpin e0 hb h => ?_⟩
  have KX : K.In s.heap := e0.mod.kin.keeps fun b o e => (e0.bs b o e).1
  have lim : s.heap.NoLimit := e0.mod.nolimit.keeps fun b o e => (e0.bs b o e).1
  have hkind : ∀ y ∈ ps.zip [Value.ref p.1], scope.names.lookup y.1 = some .local ∨ (scope.names.lookup y.1 = some .cell ∧ ((cellsFrom (s.heap.objs.size + 1) scope.names []).lookup y.1).isSome = true) := fun ⟨n, v⟩ hy => by
    rcases S.par n (List.of_mem_zip hy).1 with q | q
    · exact .inl q
    · exact .inr ⟨q, PySem.W.cellsFrom_some _ _ _ (.inl q)⟩
  refine codeAny_call_function hr.depth (KX _ _ lk) rfl S.co S.gen rfl (PySem.W.codeRec_of KX hcd) (hb _ _ _ _ ?_)
  refine wpAny_newFunctionEnv_cells S.kind hkind fun env he s1 x => ?_
  subst he
  refine ⟨lim.keeps x.toInCall.keep, codeAny_func ?_⟩
  obtain ⟨st, R, AQ, h2, h3, h4, h5, h6, h7, hfs⟩ := h
  have hl : ([V.ref p.1] : List V).length = ps.length := by rw [hps] <;> rfl
  have I : Inv (cxH (L2.CX P w) P w K mg base N qual scope f cdv A outer s H L2.E0 p) [] (L2.start N [V.ref p.1]) H s1 := inv_startH S hpin e0 hl (.cons rfl .nil) x
  have hv : ValL K st R [.exn p.1 d fs] [V.ref p.1] := by
    simp only [ValL]
    exact ⟨_, [], rfl, h5, rfl⟩
  have ht := hbody cdv A outer s H p nm d (hr.deeper _) ⟨⟨p.2, List.mem_cons_self .., hz, hf⟩⟩
  refine wpAny_mono (ht.run [] s1 (L2.start N [V.ref p.1]) H { nx := fun _ H' => Q .non H', rt := Q } I ⟨⟨st, H, R, [], []⟩, R, _, _, _, rfl, start_inv h2 h3 h4 hv, hpure p.1 nm d fs AQ h6 hfs, start_sim h3 h7 (fun _ _ _ _ _ _ _ z => z.elim)⟩) (fun fl s' hs => ?_) fun e s' hs => hs
  have fin : ∀ {σ' : L2.St} {H' : Hp} {v : V} {u : Value}, Inv (cxH (L2.CX P w) P w K mg base N qual scope f cdv A outer s H L2.E0 p) [] σ' H' s' → RelV v u → Q v H' → CE outer P w H s Q u s' :=
    fun {σ' H' v u} J rv q => ⟨v, H', J.os, J.bare, J.base, J.hok, rv, q⟩
  cases fl with
  | ret u =>
    obtain ⟨v, σ', H', J, rv, q⟩ := hs
    exact fin J rv q
  | next =>
    obtain ⟨σ', H', J, q⟩ := hs
    exact fin (v := V.non) (u := Value.none) J rfl q
  | brk =>
    obtain ⟨_, _, _, q⟩ := hs
    exact False.elim q
  | cont =>
    obtain ⟨_, _, _, q⟩ := hs
    exact False.elim q
end
section
variable {X : Cx} {W : WX} {e : Expr} {p pos : Pos}
/-- f(e), e the exception that the context holds -/
def rCallE (a : Addr) (nm : Str) (d : Option Addr) (r : FX) (ra : RE) : RE := fun ρ AQ AX => ra ρ (fun t => ∃ fs, t.er = .exn a d fs ∧ (fs = [] ∨ d ≠ none) ∧ r ⟨nm, fs⟩ AQ) AX
structure ClE (P : Program) (w : World) (K : PySem.W.Frag) (mg : Str → Option Value) (base : Heap) (name : Str) (k : Nat) (r : FX) : Prop where
  ex : ∃ (f : Addr) (fd : FuncData) (ps : List Str), mg name = some (.ref f) ∧ PySem.W.keepIn K (.ref f) = true ∧ Binds K fd ps [] ∧ FnE P w K mg base k f fd ps r
theorem ClE.mono {P : Program} {w : World} {K : PySem.W.Frag} {mg : Str → Option Value} {base : Heap} {name : Str} {j k : Nat} {r : FX} (c : ClE P w K mg base name j r) (h : j ≤ k) : ClE P w K mg base name k r := by
  obtain ⟨f, fd, ps, h1, h2, h3, h4⟩ := c.ex
  exact ⟨f, fd, ps, h1, h2, h3, h4.len, fun A outer s H args Q p nm d fs hr => h4.run A outer s H args Q p nm d fs (hr.mono h)⟩
theorem passE0 {pins : List (Addr × Obj)} {H : Hp} {s : Shared} {e : Value} {s' : Shared} (h : L2.CX X.prog X.w X.stack H s L2.E0 e s') : False := by
  obtain ⟨_, _, _, _, _, _, _, _, _, _, _, _, z⟩ := h
  exact z.elim
theorem je_callE {x : Str} {k : Nat} {r : FX} {ra : RE} {a : Addr} {nm : Str} {d : Option Addr} (c : ClE X.prog X.w X.K X.mg X.base x k r) (ho : Hold X a nm d) (hr : RoomH k X.A) (hg : Gl X x) (h : JE W X e ra)
    (hdb : (x == ("__debug__" : Str)) = false := by decide) (he : starEach [e] X.env = (false, eval e X.env) :: starEach [] X.env := by rfl) (hpl : (backTo pos (starEach [] X.env)).any (·.1) = false := by rfl) : JE W X (.Call (.Name x p) [e] [] pos) (rCallE a nm d r ra) := by
  obtain ⟨f, fd, ps, hm, hk, hb, F⟩ := c.ex
  refine ⟨fun pins s σ H Q I q => ?_⟩
  obtain ⟨s0, R, ρ, AQ, AX, J, q, kq, kx⟩ := q
  refine wpAny_Call_Name_kw (ld_glob I hg hm ?_ hdb)
  refine PySem.W.callWith_K (h₀ := X.base) I.ok.mod.kin hk (thn ((pa_cons h pa_nil he).run pos pins s σ H (fun vs H1 => vs = [V.ref a] ∧ ∃ R1 fs AQ', Sub R1 H1 ∧ StoOk X.K H1 s0 ∧ SR R1 s0 ∧ Val X.K s0 R1 (.exn a d fs) (.ref a) ∧ r ⟨nm, fs⟩ AQ' ∧ KE X.K s0 R1 H1 AQ' Q ∧ (fs = [] ∨ d ≠ none)) I ?_) fun us s1 ⟨vs, H1, I1, r1, q⟩ => ⟨I1.kIn, ?_⟩) he hpl
  · refine ⟨s0, R, ρ, _, AX, J, q, fun R1 H1 t v S e q1 => ?_, kx⟩
    obtain ⟨R2, st, hv⟩ := e.frz J.so
    obtain ⟨fs, ed, hfs, q1⟩ := q1
    rw [ed] at hv
    have hv2 := hv
    simp only [Val] at hv2
    rw [hv2.1] at hv ⊢
    exact ⟨rfl, R2, fs, AQ, st.inH, st.sto, st.sR, hv, q1, kq.step J.so st, hfs⟩
  · obtain ⟨rfl, R1, fs, AQ', z1, z2, z3, z4, z5, z6, z7⟩ := q
    obtain ⟨oe, hp, hz, hf⟩ := ho.ex
    cases r1 with
    | cons ra' rn =>
      cases rn
      cases ra'
      have P1 := I1.pin (a, oe) (List.mem_append_left _ hp)
      have hpin : PinOk X.stack H1 s1 (a, oe) := ⟨P1.1, P1.2.1, fun hm => (List.mem_cons.mp (I1.stkSub a hm)).elim P1.2.2.1 P1.2.2.2.1, P1.2.2.2.2⟩
      have b := hb s1 [Value.ref a] I1.kIn (by rw [F.len] <;> rfl)
      rw [List.append_nil] at b
      refine wpAny_call (codeAny_mono (F.run X.A X.stack s1 H1 ⟨[Value.ref a], []⟩ Q (a, oe) nm d fs hr hz hf hpin I1.env0 b ⟨s0, R1, AQ', z1, z2, z3, z4, z5, z6, z7⟩) fun r s' hq => ?_)
      cases r with
      | error e => exact (passE0 (pins := pins) hq).elim
      | ok fl =>
        cases fl with
        | ret u => exact I1.after hq
        | next => exact False.elim hq
        | brk => exact False.elim hq
        | cont => exact False.elim hq
end
/-! ### try -/
section
variable {K : PySem.W.Frag} {b : Bs} {R R' H H' : Hp} {Sf : Nat → List Addr} {σ : L2.St} {ρ : AS}
theorem SInv.clr (I : SInv K b R Sf σ H ρ) {i : Nat} (hi : i ∉ b.ioA.map (·.1)) : SInv K b R Sf (σ.set i none) H (ρ.set i none) := by
  have T := I.take i
  refine ⟨T.sub, T.inH, T.new, T.same, T.thr, T.so, T.sR, by simpa using I.len, fun j t q => ?_, T.nd, T.dj, T.fr, fun p hp => ?_⟩
  · obtain ⟨v, h1, h2⟩ := T.own j t q
    have e : j ≠ i := fun e => by
      subst e
      rw [List.getElem?_set] at q
      rw [if_pos rfl] at q
      split at q <;> cases q
    exact ⟨v, by rw [List.getElem?_set_ne (Ne.symm e)]; exact h1, h2⟩
  · have e : p.1 ≠ i := fun e => hi (List.mem_map.mpr ⟨p, hp, e⟩)
    rw [List.getElem?_set_ne (Ne.symm e)]
    exact I.io p hp
end
section
variable {X : Cx} {W : WX} {x n : Str} {c : Value} {i : Nat} {body suite : List Stmt} {b₀ : Stmt} {np pos pos' : Pos} {io : List Nat} {ns : List Str} {rb : RS} {rsu : Addr → Str → Option Addr → RS}
def aTry (i : Nat) (ns : List Str) (rb : RS) (rsu : Addr → Str → Option Addr → RS) : RS := fun A ρ => rb { A with ex := fun x ρ' => x.name ∈ ns ∧ ∀ a d, (x.fs = [] ∨ d ≠ none) → rsu a x.name d { A with nx := fun ρ2 => A.nx (ρ2.set i none), bk := fun ρ2 => A.bk (ρ2.set i none), ct := fun ρ2 => A.ct (ρ2.set i none), ex := fun _ _ => False } (ρ'.set i (some (.fz (.exn a d x.fs)))) } ρ
theorem js_try (hs : X.stack = X.env :: X.outer) (hf : X.env.frame = some X.env.locals) (hN : X.N.Nodup) (hi : X.N[i]? = some n) (hln : X.env.kindOf n = some .local) (hc : Names X x c) (tk : Takes X W) (hcat : ∀ m ∈ ns, PySem.W.exmOne X.K (.ref (He.ga X.K m)) c = some true)
    (hb : ∀ (W' : WX) (pn : List (Addr × Obj)) (xe : Value → Shared → Prop), Takes (X.tr pn xe) W' → PassesOwn (model X.prog X.w) X.A X.env xe → JSs io W' (X.tr pn xe) body rb)
    (hsu : ∀ (a : Addr) (oe : Obj) (nm : Str) (d : Option Addr) (pn : List (Addr × Obj)), Hold (X.suite a ((a, oe) :: pn)) a nm d → JSs io W0 (X.suite a ((a, oe) :: pn)) (b₀ :: suite) (rsu a nm d)) (hio : i ∉ io := by decide) :
    JS io W X (.Try body [.ExceptHandler (some (.Name x np)) (some n) (b₀ :: suite) pos'] [] [] pos) (aTry i ns rb rsu) := by
  refine PS.imp (ps_try_as (tb := fun W' => cS X.K io W' rb) (ts := fun a cls d D σ H => ∃ nm, cls = .ref (He.ga X.K nm) ∧ cS X.K io W0 (rsu a nm d) D σ H) (Wout := W) hs hf hN hi hln hc tk hb (fun a oe cls d pn hz hfl => ⟨fun pins s σ H D I q => ?_⟩)) fun D σ H q => ?_
  · obtain ⟨nm, ec, q⟩ := q
    subst ec
    exact (hsu a oe nm d pn ⟨⟨oe, List.mem_cons_self .., hz, hfl⟩⟩).run pins s σ H D I q
  · obtain ⟨b, R, Sf, ρ, A, hbio, I, q, S⟩ := q
    refine ⟨b, R, Sf, ρ, _, hbio, I, q, ⟨S.nx, S.bk, S.ct, S.rt, ?_⟩⟩
    rintro R' Sf' σ' H' ρ' x cls d I' ⟨ec, xd⟩ ⟨hn, hq⟩
    have hio' : i ∉ b.ioA.map (·.1) := by rw [hbio]; exact hio
    have hfs : x.fs = [] ∨ d ≠ none := by
      rcases xd with ⟨e1, _⟩ | ⟨dd, e1, _⟩
      · exact .inl e1
      · exact .inr (by rw [e1]; simp)
    refine ⟨true, by rw [ec]; exact hcat _ hn, fun _ a ha => ?_, fun z => nomatch z⟩
    have hv : Val X.K b.s R' (.exn a d x.fs) (.ref a) := by
      simp only [Val]
      refine ⟨trivial, fun dd z => ?_⟩
      rcases xd with ⟨_, e1⟩ | ⟨d2, e1, e2⟩
      · rw [e1] at z; cases z
      · rw [e1] at z; cases z; exact e2
    have I2 := I'.set (S := []) hio' (oval_fz.mpr hv) .nil (fun a ha => (nomatch ha)) (fun j t' _ hj a ha => (nomatch ha))
    refine ⟨x.name, ec, b, R', _, _, _, hbio, I2, hq a d hfs, ⟨fun R3 Sf3 σ3 H3 ρ3 I3 q3 => S.nx _ _ _ _ _ (I3.clr hio') q3, fun R3 Sf3 σ3 H3 ρ3 I3 q3 => S.bk _ _ _ _ _ (I3.clr hio') q3, fun R3 Sf3 σ3 H3 ρ3 I3 q3 => S.ct _ _ _ _ _ (I3.clr hio') q3, S.rt, fun _ _ _ _ _ _ _ _ _ _ z => z.elim⟩⟩
end
end AL

set_option Elab.async false
set_option linter.all false
set_option maxRecDepth 100000
set_option maxHeartbeats 4000000
/-! AL14: lists written in place, unpacking -/
namespace AL
open PySem PySem.Spec PyProof.Rows L2
section
variable {K : PySem.W.Frag} {b : Bs} {R R' H H' : Hp} {Sf : Nat → List Addr} {σ : L2.St} {ρ : AS}
/-- an owned object is written: o' at p, the tree t' over it, S'' beneath -/
theorem SInv.updG (I : SInv K b R Sf σ H ρ) {i : Nat} {t0 t' : T} {p : Addr} {S' S'' : List Addr} {o' : HO} (h : ρ[i]? = some (some t0)) (hσ : σ[i]? = some (some (.ref p))) (hS : Sf i = p :: S')
    (nd : (p :: S'').Nodup) (hv : OVal K b.s R (L2.upd H p o') t' (.ref p) (p :: S''))
    (fr : ∀ a ∈ S'', a ∈ S' ∨ (R a = none ∧ sa b.s ≠ some a ∧ b.H0 a = none ∧ ∀ (j : Nat) (u : T), j ≠ i → ρ[j]? = some (some u) → a ∉ Sf j)) :
    SInv K b R (fun j => if j = i then p :: S'' else Sf j) σ (L2.upd H p o') (ρ.set i (some t')) := by
  have hl : i < ρ.length := (List.getElem?_eq_some_iff.mp h).1
  have pin : p ∈ Sf i := by rw [hS]; exact List.mem_cons_self ..
  obtain ⟨f1, f2, f3⟩ := I.fr i _ h p pin
  have ne : ∀ {j : Nat} {u : T}, j ≠ i → (ρ.set i (some t'))[j]? = some (some u) → ρ[j]? = some (some u) := fun {j u} e q => by
    rw [List.getElem?_set_ne (Ne.symm e)] at q; exact q
  have at_ : ∀ {u : T}, (ρ.set i (some t'))[i]? = some (some u) → u = t' := fun {u} q => by
    rw [List.getElem?_set_self hl] at q
    simp only [Option.some.injEq] at q
    exact q.symm
  have frN : ∀ a ∈ p :: S'', R a = none ∧ sa b.s ≠ some a ∧ ((i ∈ b.ioA.map (·.1) ∧ a ∈ b.X0) ∨ b.H0 a = none) := fun a ha => by
    rcases List.mem_cons.mp ha with rfl | ha
    · exact ⟨f1, f2, f3⟩
    · rcases fr a ha with z | ⟨z1, z2, z3, _⟩
      · exact I.fr i _ h a (by rw [hS]; exact List.mem_cons_of_mem _ z)
      · exact ⟨z1, z2, .inr z3⟩
  have djN : ∀ (j : Nat) (t' : T), j ≠ i → ρ[j]? = some (some t') → ∀ a ∈ p :: S'', a ∉ Sf j := fun j t' e q a ha => by
    rcases List.mem_cons.mp ha with rfl | ha
    · exact I.dj i j _ t' (Ne.symm e) h q a pin
    · rcases fr a ha with z | ⟨_, _, _, z⟩
      · exact I.dj i j _ t' (Ne.symm e) h q a (by rw [hS]; exact List.mem_cons_of_mem _ z)
      · exact z j t' e q
  have pne : ∀ {j : Nat} {t' : T}, j ≠ i → ρ[j]? = some (some t') → ∀ a ∈ Sf j, a ≠ p := fun {j t'} e q a ha z => by
    subst z
    exact I.dj i j _ t' (Ne.symm e) h q a pin ha
  refine ⟨I.sub, fun a o e => ?_, I.new, fun a o e hs hx => ?_, fun a e => ?_, fun a c e => ?_, I.sR, by simpa using I.len, fun j t q => ?_, fun j t q => ?_, fun j k t t' hjk hj hk a => ?_, fun j t q a ha => ?_, I.io⟩
  · rw [upd_ne (fun z => by rw [z, f1] at e; cases e)]
    exact I.inH _ _ e
  · have z : a ≠ p := fun z => by
      subst z
      rcases f3 with ⟨_, z⟩ | z
      · exact hx z
      · rw [z] at e; cases e
    rw [upd_ne z]
    exact I.same a o e hs hx
  · by_cases z : a = p
    · rw [z, upd_same]; simp
    · rw [upd_ne z]; exact I.thr a e
  · obtain ⟨ns, i', big, cnt, seed, y1, y2, y3⟩ := I.so a c e
    have n1 : a ≠ p := fun z => f2 (by rw [e, z]; rfl)
    have n2 : c ≠ p := fun z => by
      have := (I.sR a c e).2
      rw [z] at this
      exact this f1
    exact ⟨ns, i', big, cnt, seed, by rw [upd_ne n1]; exact y1, by rw [upd_ne n2]; exact y2, y3⟩
  · by_cases e : j = i
    · subst e
      rw [at_ q]
      refine ⟨.ref p, hσ, ?_⟩
      simp only [if_true]
      exact hv
    · obtain ⟨v, h1, h2⟩ := I.own j t (ne e q)
      refine ⟨v, h1, ?_⟩
      simp only [if_neg e]
      exact h2.mono (Sub.refl _) fun a ha => upd_ne (pne e (ne e q) a ha)
  · by_cases e : j = i
    · subst e; simpa using nd
    · simpa [e] using I.nd j t (ne e q)
  · by_cases e : j = i
    · subst e
      have ek : k ≠ j := Ne.symm hjk
      simp only [if_true, if_neg ek]
      exact djN k t' ek (ne ek hk) a
    · by_cases ek : k = i
      · subst ek
        simp only [if_true, if_neg e]
        exact fun h1 h2 => djN j t e (ne e hj) a h2 h1
      · simp only [if_neg e, if_neg ek]
        exact I.dj j k t t' hjk (ne e hj) (ne ek hk) a
  · by_cases e : j = i
    · subst e
      simp only [if_true] at ha
      exact frN a ha
    · simp only [if_neg e] at ha
      exact I.fr j t (ne e q) a ha
/-- an owned list is written: its new elements ts' at vs', S'' beneath -/
theorem SInv.upd (I : SInv K b R Sf σ H ρ) {i : Nat} {ts ts' : List T} {p : Addr} {S' S'' : List Addr} {vs vs' : List V} (h : ρ[i]? = some (some (.lst ts))) (hσ : σ[i]? = some (some (.ref p))) (hS : Sf i = p :: S') (hp : H p = some (.lst vs))
    (nd : (p :: S'').Nodup) (hv : OValL K b.s R (upd H p (.lst vs')) ts' vs' S'')
    (fr : ∀ a ∈ S'', a ∈ S' ∨ (R a = none ∧ sa b.s ≠ some a ∧ b.H0 a = none ∧ ∀ (j : Nat) (t' : T), j ≠ i → ρ[j]? = some (some t') → a ∉ Sf j)) :
    SInv K b R (fun j => if j = i then p :: S'' else Sf j) σ (L2.upd H p (.lst vs')) (ρ.set i (some (.lst ts'))) :=
  I.updG h hσ hS nd (by simp only [OVal]; exact ⟨p, vs', S'', rfl, rfl, upd_same, hv⟩) fr
theorem SInv.lstAt (I : SInv K b R Sf σ H ρ) {i : Nat} {ts : List T} (h : ρ[i]? = some (some (.lst ts))) : ∃ p vs S', σ[i]? = some (some (.ref p)) ∧ Sf i = p :: S' ∧ H p = some (.lst vs) ∧ OValL K b.s R H ts vs S' ∧ (p :: S').Nodup := by
  obtain ⟨v, h1, h2⟩ := I.own i _ h
  have nd := I.nd i _ h
  simp only [OVal] at h2
  obtain ⟨p, vs, S', rfl, e, h3, h4⟩ := h2
  rw [e] at nd
  exact ⟨p, vs, S', h1, e, h3, h4, nd⟩
end
section
variable {X : Cx} {W : WX} {io : List Nat} {e e1 e2 : Expr} {r ri : RE} {pos p q apos cpos : Pos} {i : Nat} {y : Str}
/-- x.append(e) -/
def aApp (i : Nat) (r : RE) : RS := fun A ρ => match ρ[i]? with
  | some (some (.lst ts)) => ts.length < 16777216 ∧ r (envB ρ) (fun t => t.pure = true ∧ A.nx (ρ.set i (some (.lst (ts ++ [t]))))) (fun x => A.ex x ρ)
  | _ => False
/-- .. e over what is frozen -/
def aAppF (i : Nat) (r : RE) : RS := fun A ρ => match ρ[i]? with
  | some (some (.lst ts)) => ts.length < 16777216 ∧ r (envF ρ) (fun t => A.nx (ρ.set i (some (.lst (ts ++ [t]))))) (fun x => A.ex x ρ)
  | _ => False
theorem SInv.app {K : PySem.W.Frag} {b : Bs} {R H : Hp} {Sf : Nat → List Addr} {σ : L2.St} {ρ : AS} (I : SInv K b R Sf σ H ρ) {ts : List T} {t : T} {v : V} {S : List Addr} (h : ρ[i]? = some (some (.lst ts))) (hv : OVal K b.s R H t v S) (nd : S.Nodup)
    (fr : ∀ a ∈ S, R a = none ∧ sa b.s ≠ some a ∧ b.H0 a = none ∧ ∀ (j : Nat) (t' : T), ρ[j]? = some (some t') → a ∉ Sf j) {p : Addr} {vs : List V} (hσ : σ[i]? = some (some (.ref p))) (hp : H p = some (.lst vs)) :
    ∃ Sf', SInv K b R Sf' σ (L2.upd H p (.lst (vs ++ [v]))) (ρ.set i (some (.lst (ts ++ [t])))) := by
  obtain ⟨p', vs', S', h1, h2, h3, h4, h5⟩ := I.lstAt h
  rw [hσ] at h1
  cases h1
  rw [hp] at h3
  cases h3
  have pS : p ∉ S := fun z => (fr p z).2.2.2 i _ h (by rw [h2]; exact List.mem_cons_self ..)
  refine ⟨_, I.upd (S'' := S' ++ S) h hσ h2 hp ?_ ?_ fun a ha => ?_⟩
  · rw [← List.cons_append]
    refine List.nodup_append.mpr ⟨h5, nd, fun a ha c hc z => ?_⟩
    subst z
    exact (fr a hc).2.2.2 i _ h (by rw [h2]; exact ha)
  · refine OValL.append (h4.mono (Sub.refl _) fun a ha => upd_ne fun z => (List.nodup_cons.mp h5).1 (by rw [← z]; exact ha)) (OValL.one (hv.mono (Sub.refl _) fun a ha => upd_ne fun z => pS (by rw [← z]; exact ha)))
  · rcases List.mem_append.mp ha with ha | ha
    · exact .inl ha
    · obtain ⟨z1, z2, z3, z4⟩ := fr a ha
      exact .inr ⟨z1, z2, z3, fun j t' _ hj => z4 j t' hj⟩
theorem js_app (i : Nat) (hN : X.N[i]? = some y) (h : JE W X e r) (hv : Vis X.env.scope y := by first | exact Or.inl rfl | exact Or.inr (Or.inl rfl) | exact Or.inr (Or.inr rfl)) (hd : (y == ("__debug__" : Str)) = false := by decide)
    (hcd : (y == ("__classdict__" : Str)) = false := by decide) (hsw : swapsWith (.Call (.Attribute (.Name y q) "append" apos) [e] [] cpos) none pos.line X.env = pure false := by rfl)
    (hbase : attributeBase (.Name y q) "append" X.env (eval (.Name y q) X.env) = eval (.Name y q) X.env := by rfl)
    (hfew : ((backTo cpos (starEach [e] X.env)).all (fun x => !x.1) && (backToKw cpos (keywordEach [] X.env)).all (fun x => x.1.isSome)
      && decide (([e] : List Expr).length + ([] : List Keyword).length + (if ([] : List Keyword).isEmpty then 0 else 1) < 30)) = true := by rfl)
    (hline : (apos.endLine == cpos.line) = true := by rfl) (hs : starEach [e] X.env = (false, eval e X.env) :: starEach [] X.env := by rfl) (hplain : (backTo cpos (starEach [] X.env)).any (·.1) = false := by rfl) :
    JS io W X (.Expr (.Call (.Attribute (.Name y q) "append" apos) [e] [] cpos) pos) (aApp i r) := by
  refine PS.imp (ps_expr (pe_bm PySem.F.plainAttrs_list PySem.F.slot_list_append PySem.F.type_list_append mt_append (pe_var hN hv hd hcd) (pa_cons h pa_nil hs) hbase hfew hline hs hplain) hsw) fun D σ H z => ?_
  obtain ⟨b, R, Sf, ρ, A, hb, I, z, S⟩ := z
  unfold aApp at z
  split at z
  · rename_i ts ht
    obtain ⟨hz, z⟩ := z
    obtain ⟨p, vs, S', h1, h2, h3, h4, h5⟩ := I.lstAt ht
    have hlen := OValL.length h4
    refine ⟨.ref p, h1, .inl ⟨rfl, vs, SqL.of h3⟩, b.s, _, envB ρ, _, _, I.eB, z, fun R' H' t v S' e q' => ?_, S.kxB I⟩
    have I2 := I.stepB I.subB e.st
    have hp' : H' p = some (.lst vs) := by
      rw [I.keepF e.st ht p (by rw [h2]; exact List.mem_cons_self ..)]
      exact h3
    obtain ⟨a1, a2⟩ := I.apart e
    have fr1 : ∀ a ∈ S', R a = none := fun a ha => by
      cases z : R a with
      | none => rfl
      | some o =>
        have := e.st.sub a o (I.subB a o z)
        rw [(e.fresh a ha).2] at this
        cases this
    obtain ⟨Sf', I3⟩ := I2.app ht (e.val.any q'.1) e.nd (fun a ha => ⟨fr1 a ha, (a1 a ha).1, (a1 a ha).2, fun j t' hj => a2 j t' hj a ha⟩) h1 hp'
    exact ⟨p, vs, v, rfl, rfl, hp', by rw [hlen, sizeLine_eq]; exact hz, S.nx _ _ _ _ _ I3 q'.2⟩
  · exact z.elim
theorem js_appF (i : Nat) (hN : X.N[i]? = some y) (h : JE W X e r) (hv : Vis X.env.scope y := by first | exact Or.inl rfl | exact Or.inr (Or.inl rfl) | exact Or.inr (Or.inr rfl)) (hd : (y == ("__debug__" : Str)) = false := by decide)
    (hcd : (y == ("__classdict__" : Str)) = false := by decide) (hsw : swapsWith (.Call (.Attribute (.Name y q) "append" apos) [e] [] cpos) none pos.line X.env = pure false := by rfl)
    (hbase : attributeBase (.Name y q) "append" X.env (eval (.Name y q) X.env) = eval (.Name y q) X.env := by rfl)
    (hfew : ((backTo cpos (starEach [e] X.env)).all (fun x => !x.1) && (backToKw cpos (keywordEach [] X.env)).all (fun x => x.1.isSome)
      && decide (([e] : List Expr).length + ([] : List Keyword).length + (if ([] : List Keyword).isEmpty then 0 else 1) < 30)) = true := by rfl)
    (hline : (apos.endLine == cpos.line) = true := by rfl) (hs : starEach [e] X.env = (false, eval e X.env) :: starEach [] X.env := by rfl) (hplain : (backTo cpos (starEach [] X.env)).any (·.1) = false := by rfl) :
    JS io W X (.Expr (.Call (.Attribute (.Name y q) "append" apos) [e] [] cpos) pos) (aAppF i r) := by
  refine PS.imp (ps_expr (pe_bm PySem.F.plainAttrs_list PySem.F.slot_list_append PySem.F.type_list_append mt_append (pe_var hN hv hd hcd) (pa_cons h pa_nil hs) hbase hfew hline hs hplain) hsw) fun D σ H z => ?_
  obtain ⟨b, R, Sf, ρ, A, hb, I, z, S⟩ := z
  unfold aAppF at z
  split at z
  · rename_i ts ht
    obtain ⟨hz, z⟩ := z
    obtain ⟨p, vs, S', h1, h2, h3, h4, h5⟩ := I.lstAt ht
    have hlen := OValL.length h4
    refine ⟨.ref p, h1, .inl ⟨rfl, vs, SqL.of h3⟩, b.s, R, envF ρ, _, _, I.eF, z, fun R' H' t v S' e q' => ?_, S.kxF I⟩
    have I2 := I.stepF e.st
    have hp' : H' p = some (.lst vs) := by
      rw [I.keepF e.st ht p (by rw [h2]; exact List.mem_cons_self ..)]
      exact h3
    obtain ⟨a1, a2⟩ := I.apart e
    obtain ⟨Sf', I3⟩ := I2.app ht e.val e.nd (fun a ha => ⟨(e.fresh a ha).2, (a1 a ha).1, (a1 a ha).2, fun j t' hj => a2 j t' hj a ha⟩) h1 hp'
    · exact ⟨p, vs, v, rfl, rfl, hp', by rw [hlen, sizeLine_eq]; exact hz, S.nx _ _ _ _ _ I3 q'⟩
  · exact z.elim
/-- x[ix] = e, a scalar -/
def aSetIx (i : Nat) (r ri : RE) : RS := fun A ρ => r (envB ρ) (fun t => t.er.scal = true ∧ match ρ[i]? with
  | some (some (.lst ts)) => ri (envB ρ) (fun u => match u.er with
    | .int k => (match ixN ts.length k with
      | some j => A.nx (ρ.set i (some (.lst (ts.set j (.fz t.er)))))
      | none => False)
    | _ => False) (fun x => A.ex x ρ)
  | _ => False) (fun x => A.ex x ρ)
/-- .. e over what is frozen -/
def aSetIxF (i : Nat) (r ri : RE) : RS := fun A ρ => r (envF ρ) (fun t => match ρ[i]? with
  | some (some (.lst ts)) => ri (envB ρ) (fun u => match u.er with
    | .int k => (match ixN ts.length k with
      | some j => A.nx (ρ.set i (some (.lst (ts.set j (.fz t.er)))))
      | none => False)
    | _ => False) (fun x => A.ex x ρ)
  | _ => False) (fun x => A.ex x ρ)
theorem SInv.setIx {K : PySem.W.Frag} {b : Bs} {R H : Hp} {Sf : Nat → List Addr} {σ : L2.St} {ρ : AS} (I : SInv K b R Sf σ H ρ) {ts : List T} {d : D} {v : V} {j : Nat} (h : ρ[i]? = some (some (.lst ts))) (hj : j < ts.length) (hv : Val K b.s R d v)
    {p : Addr} {vs : List V} (hσ : σ[i]? = some (some (.ref p))) (hp : H p = some (.lst vs)) :
    ∃ Sf', SInv K b R Sf' σ (L2.upd H p (.lst (vs.set j v))) (ρ.set i (some (.lst (ts.set j (.fz d))))) := by
  obtain ⟨p', vs', S', h1, h2, h3, h4, h5⟩ := I.lstAt h
  rw [hσ] at h1
  cases h1
  rw [hp] at h3
  cases h3
  obtain ⟨w, Sa, Sb, Sc, e1, rfl, e3, e4⟩ := h4.focus (List.getElem?_eq_getElem hj)
  have nd := h5
  refine ⟨_, I.upd (S'' := Sa ++ [] ++ Sc) h hσ h2 hp ?_ (e4 R _ (.fz d) v [] (Sub.refl _) (fun a ha => upd_ne fun z => ?_) (oval_fz.mpr hv)) fun a ha => ?_⟩
  · rw [List.append_nil]
    refine List.nodup_cons.mpr ⟨fun z => (List.nodup_cons.mp nd).1 ?_, ?_⟩
    · rcases List.mem_append.mp z with z | z
      · exact List.mem_append_left _ (List.mem_append_left _ z)
      · exact List.mem_append_right _ z
    · have n2 := (List.nodup_cons.mp nd).2
      rw [List.append_assoc] at n2
      exact n2.sublist (List.Sublist.append_left (List.sublist_append_right _ _) _)
  · refine (List.nodup_cons.mp nd).1 ?_
    rw [← z]
    rcases List.mem_append.mp ha with ha | ha
    · exact List.mem_append_left _ (List.mem_append_left _ ha)
    · exact List.mem_append_right _ ha
  · rw [List.append_nil] at ha
    refine .inl ?_
    rcases List.mem_append.mp ha with ha | ha
    · exact List.mem_append_left _ (List.mem_append_left _ ha)
    · exact List.mem_append_right _ ha
theorem val_any {K : PySem.W.Frag} {s : Sto} {R R' : Hp} {d : D} {v : V} (h : d.scal = true) (hv : Val K s R d v) : Val K s R' d v :=
  oval_fz.mp (OVal.any (t := .fz d) (H := R) (by simpa [T.pure] using h) (oval_fz.mpr hv))
theorem ixN_lt {n : Nat} {k : Int} {j : Nat} (h : ixN n k = some j) : j < n := (ixN_seq h).2.1
theorem js_setIx (i : Nat) {sp : Pos} (hN : X.N[i]? = some y) (h : JE W X e r) (hi : JE W X e2 ri) (hv : Vis X.env.scope y := by first | exact Or.inl rfl | exact Or.inr (Or.inl rfl) | exact Or.inr (Or.inr rfl)) (hd : (y == ("__debug__" : Str)) = false := by decide)
    (hcd : (y == ("__classdict__" : Str)) = false := by decide)
    (ha : ∀ v, assign (.Subscript (.Name y q) e2 sp) X.env v = (do
      let ov ← holding [v] (eval (.Name y q) X.env)
      let iv ← holding [v, ov] (eval e2 X.env)
      standAt sp
      holding [v, ov, iv] (setItem ov iv v)
      release [v, ov, iv] []) := by intro _; rfl)
    (hs : swapsWithSole [.Subscript (.Name y q) e2 sp] e pos.line X.env = pure false := by rfl) (hw : swappedStores [.Subscript (.Name y q) e2 sp] e X.env = pure none := by rfl)
    (hh : (assignEach [.Subscript (.Name y q) e2 sp] X.env).map (·.2) = [assign (.Subscript (.Name y q) e2 sp) X.env] := by rfl) :
    JS io W X (.Assign [.Subscript (.Name y q) e2 sp] e pos) (aSetIx i r ri) := by
  refine PS.imp (ps_asg h (pg_sub (pe_var hN hv hd hcd) hi set_list ha) hs hw hh) fun D σ H z => ?_
  obtain ⟨b, R, Sf, ρ, A, hb, I, z, S⟩ := z
  refine ⟨b.s, _, envB ρ, _, _, I.eB, z, fun R' H' t v S1 e q' => ?_, S.kxB I⟩
  obtain ⟨hsc, q'⟩ := q'
  have I2 := I.stepB I.subB e.st
  obtain ⟨Rz, stz, hvz⟩ := e.frz I.so
  split at q'
  · rename_i ts ht
    obtain ⟨p, vs, S', h1, h2, h3, h4, h5⟩ := I2.lstAt ht
    refine ⟨.ref p, h1, b.s, _, envB ρ, _, _, I2.eB, q', fun R3 H3 u w S3 e3 q3 => ?_, S.kxB I2⟩
    have I3 := I2.stepB I2.subB e3.st
    have hp3 : H3 p = some (.lst vs) := by
      rw [I2.keepF e3.st ht p (by rw [h2]; exact List.mem_cons_self ..)]
      exact h3
    obtain ⟨Ru, stu, hvu⟩ := e3.frz I2.so
    dsimp only at q3
    split at q3
    · rename_i k hk
      rw [hk] at hvu
      split at q3
      · rename_i j hj
        obtain ⟨Sf', I4⟩ := I3.setIx ht (ixN_lt hj) (d := t.er) (v := v) (val_any hsc hvz) h1 hp3
        refine ⟨p, vs, k, j, rfl, by simpa [Val] using hvu, hp3, by rw [OValL.length h4]; exact hj, S.nx _ _ _ _ _ I4 q3⟩
      · exact q3.elim
    · exact q3.elim
  · exact q'.elim
theorem js_setIxF (i : Nat) {sp : Pos} (hN : X.N[i]? = some y) (h : JE W X e r) (hi : JE W X e2 ri) (hv : Vis X.env.scope y := by first | exact Or.inl rfl | exact Or.inr (Or.inl rfl) | exact Or.inr (Or.inr rfl)) (hd : (y == ("__debug__" : Str)) = false := by decide)
    (hcd : (y == ("__classdict__" : Str)) = false := by decide)
    (ha : ∀ v, assign (.Subscript (.Name y q) e2 sp) X.env v = (do
      let ov ← holding [v] (eval (.Name y q) X.env)
      let iv ← holding [v, ov] (eval e2 X.env)
      standAt sp
      holding [v, ov, iv] (setItem ov iv v)
      release [v, ov, iv] []) := by intro _; rfl)
    (hs : swapsWithSole [.Subscript (.Name y q) e2 sp] e pos.line X.env = pure false := by rfl) (hw : swappedStores [.Subscript (.Name y q) e2 sp] e X.env = pure none := by rfl)
    (hh : (assignEach [.Subscript (.Name y q) e2 sp] X.env).map (·.2) = [assign (.Subscript (.Name y q) e2 sp) X.env] := by rfl) :
    JS io W X (.Assign [.Subscript (.Name y q) e2 sp] e pos) (aSetIxF i r ri) := by
  refine PS.imp (ps_asg h (pg_sub (pe_var hN hv hd hcd) hi set_list ha) hs hw hh) fun D σ H z => ?_
  obtain ⟨b, R, Sf, ρ, A, hb, I, z, S⟩ := z
  refine ⟨b.s, R, envF ρ, _, _, I.eF, z, fun R' H' t v S1 e q' => ?_, S.kxF I⟩
  obtain ⟨Rz, stz, hvz⟩ := e.frz I.so
  have I2 := I.stepF stz
  dsimp only at q'
  split at q'
  · rename_i ts ht
    obtain ⟨p, vs, S', h1, h2, h3, h4, h5⟩ := I2.lstAt ht
    refine ⟨.ref p, h1, b.s, _, envB ρ, _, _, I2.eB, q', fun R3 H3 u w S3 e3 q3 => ?_, S.kxB I2⟩
    have I3 := I2.stepB I2.subB e3.st
    have hp3 : H3 p = some (.lst vs) := by
      rw [I2.keepF e3.st ht p (by rw [h2]; exact List.mem_cons_self ..)]
      exact h3
    obtain ⟨Ru, stu, hvu⟩ := e3.frz I2.so
    dsimp only at q3
    split at q3
    · rename_i k hk
      rw [hk] at hvu
      split at q3
      · rename_i j hj
        obtain ⟨Sf', I4⟩ := I3.setIx ht (ixN_lt hj) (d := t.er) (v := v) hvz h1 hp3
        refine ⟨p, vs, k, j, rfl, by simpa [Val] using hvu, hp3, by rw [OValL.length h4]; exact hj, S.nx _ _ _ _ _ I4 q3⟩
      · exact q3.elim
    · exact q3.elim
  · exact q'.elim
/-- a, b, .. = e -/
def aSetT (g : Tg) (r : RE) : RS := fun A ρ => r (envF ρ) (fun t => match g.bind t.er with
  | some bs => A.nx (setAll ρ (bs.map fun p => (p.1, .fz p.2)))
  | none => False) (fun x => A.ex x ρ)
theorem js_setT {g : Tg} {tg : Expr} (h : JE W X e r) (hg : PG X tg (cG X.K g)) (hio : ∀ i ∈ g.slots, i ∉ io := by decide) (hs : swapsWithSole [tg] e pos.line X.env = pure false := by rfl) (hw : swappedStores [tg] e X.env = pure none := by rfl)
    (hh : (assignEach [tg] X.env).map (·.2) = [assign tg X.env] := by rfl) : JS io W X (.Assign [tg] e pos) (aSetT g r) := by
  refine PS.imp (ps_asg h hg hs hw hh) fun D σ H z => ?_
  obtain ⟨b, R, Sf, ρ, A, hb, I, z, S⟩ := z
  refine ⟨b.s, R, envF ρ, _, _, I.eF, z, fun R' H' t v S1 e q' => ?_, S.kxF I⟩
  obtain ⟨Rz, stz, hvz⟩ := e.frz I.so
  have I2 := I.stepF stz
  dsimp only at q'
  split at q'
  · rename_i bs hbs
    refine ⟨b.s, Rz, t.er, bs, stz.inH, hvz, hbs, fun ws hws => ?_⟩
    obtain ⟨Sf2, I3⟩ := I2.setAll (fun p hp => by
      show p.1 ∉ b.ioA.map (·.1)
      rw [hb]
      refine hio _ ?_
      rw [← Tg.bind_slots hbs]
      exact List.mem_map_of_mem hp) hws
    exact S.nx _ _ _ _ _ I3 q'
  · exact q'.elim
/-! ### fields that are laid -/
theorem putF_zip {f : Str} {v : V} : ∀ {ns : List Str} {vs : List V}, ns.length = vs.length → f ∉ ns → putF f v (ns.zip vs) = (ns ++ [f]).zip (vs ++ [v])
  | [], [], _, _ => rfl
  | n :: ns, w :: vs, h, hf => by
    have e : n ≠ f := fun z => hf (by rw [z]; exact List.mem_cons_self ..)
    simp only [List.zip_cons_cons, List.cons_append, putF, if_neg e]
    rw [putF_zip (by simpa using h) fun z => hf (List.mem_cons_of_mem _ z)]
def aFld (C f : Str) (i : Nat) (r : RE) : RS := fun A ρ => r (envF ρ) (fun t => match ρ[i]? with
  | some (some (.ins C' ns ts)) => C' = C ∧ f ∉ ns ∧ ns.length = ts.length ∧ ns.length < 1000 ∧ A.nx (ρ.set i (some (.ins C (ns ++ [f]) (ts ++ [t]))))
  | _ => False) (fun x => A.ex x ρ)
theorem js_fld (i : Nat) {C f : Str} (c : Cls X.K (He.ga X.K C)) (hn : NoAttr X.K (He.ga X.K C) f) (hN : X.N[i]? = some y) (h : JE W X e r) (hv : Vis X.env.scope y := by first | exact Or.inl rfl | exact Or.inr (Or.inl rfl) | exact Or.inr (Or.inr rfl)) (hd : (y == ("__debug__" : Str)) = false := by decide)
    (hcd : (y == ("__classdict__" : Str)) = false := by decide) (hs : swapsWith e (some (.Attribute (.Name y q) f apos)) pos.line X.env = pure false := by rfl) : JS io W X (.Assign [.Attribute (.Name y q) f apos] e pos) (aFld C f i r) := by
  refine PS.imp (ps_fld (pe_var hN hv hd hcd) h hs) fun D σ H z => ?_
  obtain ⟨b, R, Sf, ρ, A, hb, I, z, S⟩ := z
  refine ⟨b.s, R, envF ρ, _, _, I.eF, z, fun R' H' t v S1 e q' => ?_, S.kxF I⟩
  have I2 := I.stepF e.st
  obtain ⟨a1, a2⟩ := I.apart e
  dsimp only at q'
  split at q'
  · rename_i C' ns ts ht
    obtain ⟨rfl, q1, q2, q3, q4⟩ := q'
    obtain ⟨w, h1, h2⟩ := I2.own i _ ht
    have nd := I2.nd i _ ht
    simp only [OVal] at h2
    obtain ⟨p, dx, vs, S', rfl, eS, h3, h4⟩ := h2
    rw [eS] at nd
    have hl := OValL.length h4
    have pS : p ∉ S1 := fun z => a2 i _ ht p z (by rw [eS]; exact List.mem_cons_self ..)
    refine ⟨.ref p, h1, p, _, dx, _, rfl, h3, c, hn, ?_, ?_⟩
    · rw [List.length_zip]
      omega
    · rw [putF_zip (by omega) q1]
      refine S.nx _ _ _ _ _ (I2.updG (S'' := S' ++ S1) (t' := .ins C' (ns ++ [f]) (ts ++ [t])) ht h1 eS ?_ ?_ fun a ha => ?_) q4
      · rw [← List.cons_append]
        refine List.nodup_append.mpr ⟨nd, e.nd, fun a ha c hc z => ?_⟩
        subst z
        exact a2 i _ ht a hc (by rw [eS]; exact ha)
      · simp only [OVal]
        refine ⟨p, dx, vs ++ [v], S' ++ S1, rfl, rfl, upd_same, ?_⟩
        exact OValL.append (h4.mono (Sub.refl _) fun a ha => upd_ne fun z => (List.nodup_cons.mp nd).1 (by rw [← z]; exact ha)) (OValL.one (e.val.mono (Sub.refl _) fun a ha => upd_ne fun z => pS (by rw [← z]; exact ha)))
      · rcases List.mem_append.mp ha with ha | ha
        · exact .inl ha
        · exact .inr ⟨(e.fresh a ha).2, (a1 a ha).1, (a1 a ha).2, fun j t' _ hj => a2 j t' hj a ha⟩
  · exact q'.elim
end
end AL

set_option Elab.async false
set_option linter.all false
set_option maxRecDepth 100000
set_option maxHeartbeats 4000000
/-! AL15: defs that change what they are handed; instances made -/
namespace AL
open PySem PySem.Spec PyProof.Rows L2
/-- owned trees ts at ps, Sf beneath -/
structure IOk (K : PySem.W.Frag) (s : Sto) (R H : Hp) (ts : List T) (ps : List Addr) (Sf : Nat → List Addr) : Prop where
  len : ps.length = ts.length
  own : ∀ (i : Nat) (t : T), ts[i]? = some t → ∃ p, ps[i]? = some p ∧ OVal K s R H t (.ref p) (Sf i)
  nd : ∀ (i : Nat) (t : T), ts[i]? = some t → (Sf i).Nodup
  dj : ∀ (i j : Nat) (t t' : T), i ≠ j → ts[i]? = some t → ts[j]? = some t' → ∀ a ∈ Sf i, a ∉ Sf j
  fr : ∀ (i : Nat) (t : T), ts[i]? = some t → ∀ a ∈ Sf i, R a = none ∧ sa s ≠ some a
/-- a step that may change what Xs holds -/
structure StepIO (K : PySem.W.Frag) (s : Sto) (R H R' H' : Hp) (Xs : List Addr) : Prop where
  sub : Sub R R'
  inH : Sub R' H'
  new : ∀ a, R' a ≠ none → R a = none → H a = none
  same : ∀ a o, H a = some o → sa s ≠ some a → a ∉ Xs → H' a = some o
  thr : ∀ a, H a ≠ none → H' a ≠ none
  so : StoOk K H' s
  sR : SR R' s
abbrev FIO := List T → List D → (List T → D → Prop) → Prop
def cells (Sf : Nat → List Addr) (m : Nat) : List Addr := (List.range m).flatMap Sf
theorem mem_cells {Sf : Nat → List Addr} {m i : Nat} {a : Addr} (hi : i < m) (ha : a ∈ Sf i) : a ∈ cells Sf m := List.mem_flatMap.mpr ⟨i, List.mem_range.mpr hi, ha⟩
theorem cells_mem {Sf : Nat → List Addr} {m : Nat} {a : Addr} (h : a ∈ cells Sf m) : ∃ i, i < m ∧ a ∈ Sf i := by
  obtain ⟨i, h1, h2⟩ := List.mem_flatMap.mp h
  exact ⟨i, List.mem_range.mp h1, h2⟩
/-- nn: only None comes back -/
def spIO (K : PySem.W.Frag) (m n : Nat) (nn : Bool) (r : FIO) : Sp := fun vs H Q _ => ∃ (s : Sto) (R : Hp) (ts : List T) (ps : List Addr) (Sf : Nat → List Addr) (ds : List D) (vs2 : List V) (AQ : List T → D → Prop),
  vs = ps.map V.ref ++ vs2 ∧ ts.length = m ∧ m + ds.length = n ∧ Sub R H ∧ StoOk K H s ∧ SR R s ∧ IOk K s R H ts ps Sf ∧ ValL K s R ds vs2 ∧ r ts ds AQ ∧
  ∀ R' H' ts' Sf', StepIO K s R H R' H' (cells Sf m) → IOk K s R' H' ts' ps Sf' → ts'.length = m → (∀ i, i < m → ∀ a ∈ Sf' i, a ∈ cells Sf m ∨ H a = none) → ∀ d v, Val K s R' d v → (nn = true → d = .non) → AQ ts' d → Q v H'
theorem spIO_len {K : PySem.W.Frag} {m n : Nat} {nn : Bool} {r : FIO} {vs : List V} {H : Hp} {Q : VK} {E : XK} (h : spIO K m n nn r vs H Q E) : vs.length = n := by
  obtain ⟨s, R, ts, ps, Sf, ds, vs2, AQ, rfl, h2, h3, _, _, _, h7, h8, _⟩ := h
  rw [List.length_append, List.length_map, h7.len, h2, h8.length, h3]
abbrev ioEnds (m : Nat) (nn : Bool) (AQ : List T → D → Prop) : AEnds := { nx := fun ρ => ∃ ts' : List T, ts'.length = m ∧ ρ.take m = ts'.map some ∧ AQ ts' .non, rt := fun t ρ => nn = false ∧ ∃ ts' : List T, ts'.length = m ∧ ρ.take m = ts'.map some ∧ AQ ts' t.er, ex := fun _ _ => False }
def entIO (mm : Nat) (ts : List T) (ds : List D) : AS := ts.map some ++ ent (mm - ts.length) ds
section
variable {P : Program} {w : World} {K : PySem.W.Frag} {mg : Str → Option Value} {base : Heap} {name qual : Str} {params : Arguments} {body : List Stmt} {scope : Scope} {dvs : List V} {kws : List (Str × V)} {f : Addr} {fd : FuncData}
theorem startIO_inv {s : Sto} {R H : Hp} {N : List Str} {ts : List T} {ps : List Addr} {Sf : Nat → List Addr} {ds : List D} {vs2 : List V} {m : Nat} (hm : ts.length = m) (inH : Sub R H) (so : StoOk K H s) (sR : SR R s) (io : IOk K s R H ts ps Sf) (hv : ValL K s R ds vs2) (hN : m + ds.length ≤ N.length) :
    SInv K ⟨s, H, R, cells Sf m, (List.range m).zip ps⟩ R (fun i => if i < m then Sf i else []) (L2.start N (ps.map V.ref ++ vs2)) H (entIO N.length ts ds) := by
  have hps : ps.length = m := by rw [io.len, hm]
  have hlo : ∀ {i : Nat} {t : T}, i < m → (entIO N.length ts ds)[i]? = some (some t) → ts[i]? = some t := fun {i t} hi h => by
    unfold entIO at h
    rw [List.getElem?_append_left (by simpa [hm] using hi), List.getElem?_map] at h
    cases q : ts[i]? with
    | none => rw [q] at h; cases h
    | some u => rw [q] at h; simp at h; rw [h]
  have hhi : ∀ {i : Nat} {t : T}, ¬ i < m → (entIO N.length ts ds)[i]? = some (some t) → ∃ d, ds[i - m]? = some d ∧ t = .fz d := fun {i t} hi h => by
    unfold entIO at h
    rw [List.getElem?_append_right (by simpa [hm] using hi), List.length_map, hm] at h
    exact ent_get h
  have hst : ∀ {i : Nat} {v : V}, (ps.map V.ref ++ vs2)[i]? = some v → (L2.start N (ps.map V.ref ++ vs2))[i]? = some (some v) := fun {i v} h => by
    unfold L2.start
    rw [List.getElem?_append_left (by simpa using (List.getElem?_eq_some_iff.mp h).1), List.getElem?_map, h]
    rfl
  have hml : ((List.range m).zip ps).map (·.1) = List.range m := by
    rw [List.map_fst_zip]
    rw [List.length_range, hps]
    exact Nat.le_refl _
  refine ⟨Sub.refl _, inH, fun a h h0 => absurd h0 h, fun a o h _ _ => h, fun a h => h, so, sR, ?_, fun i t h => ?_, fun i t h => ?_, fun i j t t' hij hi hj a => ?_, fun i t h a ha => ?_, fun p hp => ?_⟩
  · simp only [entIO, ent, L2.start, List.length_append, List.length_map, List.length_replicate, hv.length, hps, hm]
    omega
  · by_cases hi : i < m
    · obtain ⟨p, h1, h2⟩ := io.own i t (hlo hi h)
      refine ⟨.ref p, hst ?_, by simpa [hi] using h2⟩
      rw [List.getElem?_append_left (by simpa [hps] using hi), List.getElem?_map, h1]
      rfl
    · obtain ⟨d, h1, rfl⟩ := hhi hi h
      obtain ⟨v, h2, h3⟩ := hv.get h1
      refine ⟨v, hst ?_, by simpa [hi] using oval_fz.mpr h3⟩
      rw [List.getElem?_append_right (by simpa [hps] using hi), List.length_map, hps]
      exact h2
  · by_cases hi : i < m
    · simpa [hi] using io.nd i t (hlo hi h)
    · simp [hi]
  · by_cases h1 : i < m
    · by_cases h2 : j < m
      · simpa [h1, h2] using io.dj i j t t' hij (hlo h1 hi) (hlo h2 hj) a
      · simp [h2]
    · simp [h1]
  · by_cases hi : i < m
    · simp only [if_pos hi] at ha
      obtain ⟨z1, z2⟩ := io.fr i t (hlo hi h) a ha
      exact ⟨z1, z2, .inl ⟨by rw [hml]; exact List.mem_range.mpr hi, mem_cells hi ha⟩⟩
    · simp [hi] at ha
  · obtain ⟨i, hi⟩ := List.getElem?_of_mem hp
    rw [List.getElem?_zip_eq_some] at hi
    obtain ⟨z1, z2⟩ := hi
    have e : p.1 = i := by
      have h1 := (List.getElem?_eq_some_iff.mp z1).2
      rw [List.getElem_range] at h1
      exact h1.symm
    rw [e]
    refine hst ?_
    rw [List.getElem?_append_left (by simpa using (List.getElem?_eq_some_iff.mp z2).1), List.getElem?_map, z2]
    rfl
theorem endIO {s : Sto} {R H R' H' : Hp} {ps : List Addr} {Sf Sf' : Nat → List Addr} {σ : L2.St} {ρ : AS} {m : Nat} (hps : ps.length = m) (I : SInv K ⟨s, H, R, cells Sf m, (List.range m).zip ps⟩ R' Sf' σ H' ρ) {ts' : List T} (hl : ts'.length = m) (e : ρ.take m = ts'.map some) :
    StepIO K s R H R' H' (cells Sf m) ∧ IOk K s R' H' ts' ps Sf' ∧ ∀ i, i < m → ∀ a ∈ Sf' i, a ∈ cells Sf m ∨ H a = none := by
  have at_ : ∀ {i : Nat} {t : T}, ts'[i]? = some t → i < m ∧ ρ[i]? = some (some t) := fun {i t} h => by
    have hi : i < m := by rw [← hl]; exact (List.getElem?_eq_some_iff.mp h).1
    refine ⟨hi, ?_⟩
    have z : (ρ.take m)[i]? = some (some t) := by rw [e, List.getElem?_map, h]; rfl
    rw [List.getElem?_take_of_lt hi] at z
    exact z
  have sl : ∀ {i : Nat}, i < m → ∃ p, ps[i]? = some p ∧ σ[i]? = some (some (.ref p)) := fun {i} hi => by
    have h1 : i < ps.length := by rw [hps]; exact hi
    refine ⟨ps[i], List.getElem?_eq_getElem h1, I.io (i, ps[i]) ?_⟩
    refine List.mem_iff_getElem?.mpr ⟨i, ?_⟩
    rw [List.getElem?_zip_eq_some]
    exact ⟨by rw [List.getElem?_eq_getElem (by simpa using hi), List.getElem_range], List.getElem?_eq_getElem h1⟩
  refine ⟨⟨I.sub, I.inH, I.new, I.same, I.thr, I.so, I.sR⟩, ⟨by rw [hps, hl], fun i t h => ?_, fun i t h => I.nd i t (at_ h).2, fun i j t t' hij hi hj => I.dj i j t t' hij (at_ hi).2 (at_ hj).2, fun i t h a ha => ?_⟩, fun i hi a ha => ?_⟩
  · obtain ⟨hi, hr⟩ := at_ h
    obtain ⟨v, h1, h2⟩ := I.own i t hr
    obtain ⟨p, h3, h4⟩ := sl hi
    rw [h4] at h1
    cases h1
    exact ⟨p, h3, h2⟩
  · obtain ⟨z1, z2, _⟩ := I.fr i t (at_ h).2 a ha
    exact ⟨z1, z2⟩
  · have hi2 : i < ts'.length := by rw [hl]; exact hi
    obtain ⟨_, _, z⟩ := I.fr i _ (at_ (List.getElem?_eq_getElem hi2)).2 a ha
    rcases z with ⟨_, z⟩ | z
    · exact .inl z
    · exact .inr z
/-- THE RULE for a def that changes its first m arguments -/
theorem ok_ofIO {N ps : List Str} {m n k : Nat} {nn : Bool} {r : FIO} {a : RS} (F : FunD K name qual params body scope dvs kws f fd) (S : FnScope N ps scope) (hps : ps.length = n)
    (hbody : ∀ (cdv : Value) (A : Around) (outer : List Env) (s : Shared) (H : Hp) (E : XK), Room k (A.deeper (envOfC qual scope s.heap.objs.size f cdv)) → JSs (List.range m) (WD E) (cxOf (L2.CX P w) P w K mg base N qual scope f cdv A outer s H E) body a)
    (hpure : ∀ ts ds AQ, r ts ds AQ → ts.length = m → a (ioEnds m nn AQ) (entIO N.length ts ds)) : FnOk P w K mg base (L2.CX P w) (k + 1) f fd ps (spIO K m n nn r) := by
  refine F.ok S (fun vs H Q E h => by rw [hps]; exact spIO_len h) fun cdv A outer s H vs Q E hr h => ?_
  obtain ⟨st, R, ts, qs, Sf, ds, vs2, AQ, rfl, h2, h3, h4, h5, h6, h7, h8, h9, h10⟩ := h
  have hqs : qs.length = m := by rw [h7.len, h2]
  have hml : ((List.range m).zip qs).map (·.1) = List.range m := by
    rw [List.map_fst_zip]
    rw [List.length_range, hqs]
    exact Nat.le_refl _
  have hN : m + ds.length ≤ N.length := by
    have := congrArg List.length S.pre
    rw [List.length_take] at this
    omega
  refine ⟨_, hbody cdv A outer s H E hr, ⟨st, H, R, cells Sf m, (List.range m).zip qs⟩, R, _, _, _, hml, startIO_inv h2 h4 h5 h6 h7 h8 hN, hpure ts ds AQ h9 h2, ⟨?_, fun _ _ _ _ _ _ q => q.elim, fun _ _ _ _ _ _ q => q.elim, ?_, fun _ _ _ _ _ _ _ _ _ _ q => q.elim⟩⟩
  · rintro R' Sf' σ H' ρ I ⟨ts', q1, q2, q3⟩
    obtain ⟨z1, z2, z3⟩ := endIO hqs I q1 q2
    exact h10 R' H' ts' Sf' z1 z2 q1 z3 .non _ (by simp [Val]) (fun _ => rfl) q3
  · rintro R' Sf' σ H' ρ t v S' I ov _ fr ⟨hn, ts', q1, q2, q3⟩
    obtain ⟨z1, z2, z3⟩ := endIO hqs I q1 q2
    have ap : ∀ i t', ts'[i]? = some t' → ∀ a ∈ Sf' i, a ∉ S' := fun i t' hi a ha hS => by
      have hi' : i < m := by rw [← q1]; exact (List.getElem?_eq_some_iff.mp hi).1
      have e : ρ[i]? = some (some t') := by
        have z : (ρ.take m)[i]? = some (some t') := by rw [q2, List.getElem?_map, hi]; rfl
        rw [List.getElem?_take_of_lt hi'] at z
        exact z
      exact (fr a hS).2.2 i t' e ha
    have sub : Sub R' (frz R' H' S') := fun a o e => by
      by_cases q : a ∈ S'
      · rw [(fr a q).1] at e; cases e
      · rw [frz_out q]; exact e
    refine h10 (frz R' H' S') H' ts' Sf' ⟨z1.sub.trans sub, fun a o e => ?_, fun a e e0 => ?_, z1.same, z1.thr, z1.so, fun a c e => ?_⟩ ⟨z2.len, fun i t' hi => ?_, z2.nd, z2.dj, fun i t' hi a ha => ?_⟩ q1 z3 t.er v (ov.freeze sub fun a ha => frz_in ha) (fun e => by rw [hn] at e; cases e) q3
    · by_cases q : a ∈ S'
      · rw [frz_in q] at e; exact e
      · rw [frz_out q] at e; exact z1.inH _ _ e
    · by_cases q : a ∈ S'
      · exact (fr a q).2.1
      · rw [frz_out q] at e; exact z1.new a e e0
    · obtain ⟨y1, y2⟩ := z1.sR a c e
      obtain ⟨ns, i', big, cnt, seed, w1, w2, _⟩ := h5 a c e
      have n1 : a ∉ S' := fun q => by
        have w0 : H a = none := (fr a q).2.1
        rw [w0] at w1
        cases w1
      refine ⟨by rw [frz_out n1]; exact y1, ?_⟩
      cases z : R' c with
      | none => exact absurd z y2
      | some o => rw [sub c o z]; simp
    · obtain ⟨p, e1, e2⟩ := z2.own i t' hi
      exact ⟨p, e1, e2.mono sub fun _ _ => rfl⟩
    · obtain ⟨y1, y2⟩ := z2.fr i t' hi a ha
      exact ⟨by rw [frz_out (ap i t' hi a ha)]; exact y1, y2⟩
end
/-- a def that changes its first m arguments, at hand -/
structure ClIO (P : Program) (w : World) (K : PySem.W.Frag) (mg : Str → Option Value) (base : Heap) (name : Str) (k m : Nat) (nn : Bool) (r : FIO) : Prop where
  ex : ∃ (f : Addr) (fd : FuncData) (ps : List Str) (n : Nat), mg name = some (.ref f) ∧ PySem.W.keepIn K (.ref f) = true ∧ Binds K fd ps [] ∧ (∀ ts ds AQ, r ts ds AQ → m + ds.length = n) ∧ FnOk P w K mg base (L2.CX P w) k f fd ps (spIO K m n nn r)
theorem ClIO.mono {P : Program} {w : World} {K : PySem.W.Frag} {mg : Str → Option Value} {base : Heap} {name : Str} {j k m : Nat} {nn : Bool} {r : FIO} (c : ClIO P w K mg base name j m nn r) (h : j ≤ k) : ClIO P w K mg base name k m nn r := by
  obtain ⟨f, fd, ps, n, h1, h2, h3, h4, h5⟩ := c.ex
  exact ⟨f, fd, ps, n, h1, h2, h3, h4, h5.mono h⟩
/-- a class that may be made; its instance's fields by r -/
structure Mkr (P : Program) (w : World) (K : PySem.W.Frag) (mg : Str → Option Value) (base : Heap) (C : Str) (k : Nat) (r : FS) : Prop where
  cls : Cls K (He.ga K C)
  ex : ∃ (f : Addr) (fd : FuncData) (ps : List Str) (n : Nat) (io : FIO), mg C = some (.ref (He.ga K C)) ∧ Mk K (He.ga K C) f ∧ Binds K fd ps [] ∧ (∀ ts ds AQ, io ts ds AQ → 1 + ds.length = n) ∧ FnOk P w K mg base (L2.CX P w) k f fd ps (spIO K 1 n true io) ∧
    ∀ ds AQ AX, r ds AQ AX → io [.ins C [] []] ds (fun ts _ => ∃ t, ts = [t] ∧ AQ t)
theorem pass_E0 {X : Cx} : Passes (L2.CX X.prog X.w) X L2.E0 := fun _ _ _ _ _ _ _ h => by
  obtain ⟨_, _, _, _, _, _, _, _, _, _, _, _, z⟩ := h
  exact z.elim
section
variable {X : Cx} {W : WX} {e : Expr} {es : List Expr} {ra : RA} {p pos : Pos}
def rMake (r : FS) (ra : RA) : RE := fun ρ AQ AX => ra ρ (fun ts => r (T.ers ts) AQ (fun _ => False)) AX
theorem je_make {C : Str} {k : Nat} {r : FS} (c : Mkr X.prog X.w X.K X.mg X.base C k r) (hr : Room (k + 1) X.A) (hg : Gl X C) (ha : JA W X (e :: es) ra) (hdb : (C == ("__debug__" : Str)) = false := by decide)
    (he : starEach (e :: es) X.env = (false, eval e X.env) :: starEach es X.env := by rfl) (hpl : (backTo pos (starEach es X.env)).any (·.1) = false := by rfl) : JE W X (.Call (.Name C p) (e :: es) [] pos) (rMake r ra) := by
  obtain ⟨f, fd, ps, n, io, hm, M, hb, hn, F, hio⟩ := c.ex
  refine PE.imp (pe_make M F hr hg hm hb .nil pass_E0 ha hdb he hpl) fun σ H Q q => ?_
  obtain ⟨s, R, ρ, AQ, AX, I, q, kq, kx⟩ := q
  refine ⟨s, R, ρ, _, AX, I, q, fun R1 H1 ts vs S e q1 x dx hx hdx ne => ?_, kx⟩
  obtain ⟨R2, st, hv⟩ := e.frz I.so
  rw [List.append_nil]
  have kq2 := kq.step I.so st
  have same : Sub H1 (upd (upd H1 dx (.own x)) x (.ins (He.ga X.K C) dx [])) := fun a o h => by
    have n1 : a ≠ x := ne_of_none h hx
    have n2 : a ≠ dx := ne_of_none h hdx
    rw [upd_ne n1, upd_ne n2]
    exact h
  have z := hio _ _ _ q1
  refine ⟨s, R2, [.ins C [] []], [x], fun _ => [x], T.ers ts, vs, _, rfl, rfl, hn _ _ _ z, st.inH.trans same, StoOk.same st.sto same, st.sR, ⟨rfl, fun i t h => ?_, fun i t h => by simp, fun i j t t' hij hi hj => ?_, fun i t h a ha => ?_⟩, hv, z, ?_⟩
  · have hi : i = 0 := by
      have := (List.getElem?_eq_some_iff.mp h).1
      simp at this
      omega
    subst hi
    simp at h
    subst h
    refine ⟨x, rfl, ?_⟩
    simp only [OVal, OValL]
    exact ⟨x, dx, [], [], rfl, rfl, upd_same, rfl, rfl⟩
  · have h1 := (List.getElem?_eq_some_iff.mp hi).1
    have h2 := (List.getElem?_eq_some_iff.mp hj).1
    simp at h1 h2
    omega
  · have ea : a = x := by simpa using ha
    subst ea
    refine ⟨?_, fun z => ?_⟩
    · cases q : R2 a with
      | none => rfl
      | some o => rw [st.inH _ _ q] at hx; cases hx
    · obtain ⟨o, q⟩ := st.sto.there z
      rw [hx] at q
      cases q
  · rintro R' H' ts' Sf' sIO iok hl hfr d v vd hv' ⟨t, rfl, q⟩
    have ed := hv' rfl
    subst ed
    refine ⟨by simpa [Val] using vd, ?_⟩
    obtain ⟨p', e1, ov⟩ := iok.own 0 t rfl
    simp at e1
    subst e1
    have cx : ∀ a, a ∈ cells (fun _ => [x]) 1 → a = x := fun a h => by
      obtain ⟨_, _, h⟩ := cells_mem h
      simpa using h
    refine kq2 R' H' t (.ref x) (Sf' 0) ⟨⟨sIO.sub, sIO.inH, fun a h h0 => ?_, fun a o h hs => ?_, sIO.so, sIO.sR⟩, ov, iok.nd 0 t rfl, fun a ha => ⟨?_, (iok.fr 0 t rfl a ha).1⟩⟩ q
    · have := sIO.new a h h0
      cases q : H1 a with
      | none => rfl
      | some o => rw [same a o q] at this; cases this
    · refine sIO.same a o (same a o h) hs fun hc => ?_
      rw [cx a hc, hx] at h
      cases h
    · rcases hfr 0 (by omega) a ha with h | h
      · rw [cx a h]; exact hx
      · cases q : H1 a with
        | none => rfl
        | some o => rw [same a o q] at h; cases h
end
end AL

set_option Elab.async false
set_option linter.all false
set_option maxRecDepth 100000
set_option maxHeartbeats 4000000
/-! AL16: a call that changes two lists, as a statement -/
namespace AL
open PySem PySem.Spec PyProof.Rows L2
section
variable {K : PySem.W.Frag} {b : Bs} {R R' H H' : Hp} {Sf : Nat → List Addr} {σ : L2.St} {ρ : AS}
theorem SInv.io2 (I : SInv K b R Sf σ H ρ) {i j : Nat} (hij : i ≠ j) {t u : T} {p q : Addr} (hi : ρ[i]? = some (some t)) (hj : ρ[j]? = some (some u)) (pi : σ[i]? = some (some (.ref p))) (pj : σ[j]? = some (some (.ref q))) :
    IOk K b.s R H [t, u] [p, q] (fun k => if k = 0 then Sf i else Sf j) := by
  have two : ∀ {k : Nat} {x : T}, [t, u][k]? = some x → (k = 0 ∧ x = t) ∨ (k = 1 ∧ x = u) := fun {k x} h => by
    match k, h with
    | 0, h => exact .inl ⟨rfl, by simpa using h.symm⟩
    | 1, h => exact .inr ⟨rfl, by simpa using h.symm⟩
    | k + 2, h => simp at h
  refine ⟨rfl, fun k x h => ?_, fun k x h => ?_, fun k l x y hkl hk hl a => ?_, fun k x h a ha => ?_⟩
  · rcases two h with ⟨rfl, rfl⟩ | ⟨rfl, rfl⟩
    · obtain ⟨v, h1, h2⟩ := I.own i _ hi
      rw [pi] at h1
      cases h1
      exact ⟨p, rfl, by simpa using h2⟩
    · obtain ⟨v, h1, h2⟩ := I.own j _ hj
      rw [pj] at h1
      cases h1
      exact ⟨q, rfl, by simpa using h2⟩
  · rcases two h with ⟨rfl, rfl⟩ | ⟨rfl, rfl⟩
    · simpa using I.nd i _ hi
    · simpa using I.nd j _ hj
  · rcases two hk with ⟨rfl, rfl⟩ | ⟨rfl, rfl⟩ <;> rcases two hl with ⟨rfl, rfl⟩ | ⟨rfl, rfl⟩
    · exact absurd rfl hkl
    · simpa using I.dj i j _ _ hij hi hj a
    · simpa using I.dj j i _ _ (Ne.symm hij) hj hi a
    · exact absurd rfl hkl
  · rcases two h with ⟨rfl, rfl⟩ | ⟨rfl, rfl⟩
    · obtain ⟨z1, z2, _⟩ := I.fr i _ hi a (by simpa using ha)
      exact ⟨z1, z2⟩
    · obtain ⟨z1, z2, _⟩ := I.fr j _ hj a (by simpa using ha)
      exact ⟨z1, z2⟩
theorem SInv.io2_after (I : SInv K b R Sf σ H ρ) {i j : Nat} (ni : i ∉ b.ioA.map (·.1)) (nj : j ∉ b.ioA.map (·.1)) (hij : i ≠ j) {t u t' u' : T} {p q : Addr} {Sn : Nat → List Addr} (hi : ρ[i]? = some (some t)) (hj : ρ[j]? = some (some u)) (pi : σ[i]? = some (some (.ref p))) (pj : σ[j]? = some (some (.ref q)))
    (st : StepIO K b.s R H R' H' (cells (fun k => if k = 0 then Sf i else Sf j) 2)) (io : IOk K b.s R' H' [t', u'] [p, q] Sn) (fr : ∀ k, k < 2 → ∀ a ∈ Sn k, a ∈ cells (fun k => if k = 0 then Sf i else Sf j) 2 ∨ H a = none) :
    SInv K b R' (fun k => if k = i then Sn 0 else if k = j then Sn 1 else Sf k) σ H' ((ρ.set i (some t')).set j (some u')) := by
  have cm : ∀ {a : Addr}, a ∈ cells (fun k => if k = 0 then Sf i else Sf j) 2 → a ∈ Sf i ∨ a ∈ Sf j := fun {a} h => by
    obtain ⟨k, _, h⟩ := cells_mem h
    by_cases e : k = 0
    · rw [if_pos e] at h; exact .inl h
    · rw [if_neg e] at h; exact .inr h
  have li : i < ρ.length := (List.getElem?_eq_some_iff.mp hi).1
  have lj : j < ρ.length := (List.getElem?_eq_some_iff.mp hj).1
  have gi : ∀ {x : T}, ((ρ.set i (some t')).set j (some u'))[i]? = some (some x) → x = t' := fun {x} h => by
    rw [List.getElem?_set_ne (Ne.symm hij), List.getElem?_set_self li] at h
    simpa using h.symm
  have gj : ∀ {x : T}, ((ρ.set i (some t')).set j (some u'))[j]? = some (some x) → x = u' := fun {x} h => by
    rw [List.getElem?_set_self (by simpa using lj)] at h
    simpa using h.symm
  have gk : ∀ {k : Nat} {x : T}, k ≠ i → k ≠ j → ((ρ.set i (some t')).set j (some u'))[k]? = some (some x) → ρ[k]? = some (some x) := fun {k x} h1 h2 h => by
    rw [List.getElem?_set_ne (Ne.symm h2), List.getElem?_set_ne (Ne.symm h1)] at h
    exact h
  obtain ⟨p', e1, o1⟩ := io.own 0 t' rfl
  cases (show some p = some p' from e1)
  obtain ⟨q', e2, o2⟩ := io.own 1 u' rfl
  cases (show some q = some q' from e2)
  have apart : ∀ {k : Nat} {x : T}, k ≠ i → k ≠ j → ρ[k]? = some (some x) → ∀ a ∈ Sf k, a ∉ Sf i ∧ a ∉ Sf j := fun {k x} h1 h2 h a ha => ⟨I.dj k i x t h1 h hi a ha, I.dj k j x u h2 h hj a ha⟩
  -- the new cells are the old ones or fresh
  have src : ∀ k, k < 2 → ∀ a ∈ Sn k, (a ∈ Sf i ∨ a ∈ Sf j) ∨ H a = none := fun k hk a ha => (fr k hk a ha).imp cm id
  have djk : ∀ {k : Nat} {x : T}, k ≠ i → k ≠ j → ρ[k]? = some (some x) → ∀ l, l < 2 → ∀ a ∈ Sn l, a ∉ Sf k := fun {k x} h1 h2 h l hl a ha hb => by
    obtain ⟨z1, z2⟩ := apart h1 h2 h a hb
    rcases src l hl a ha with (z | z) | z
    · exact z1 z
    · exact z2 z
    · obtain ⟨o, y⟩ := I.there h a hb
      rw [z] at y
      cases y
  have h0 : ∀ k, k < 2 → ∀ a ∈ Sn k, b.H0 a = none := fun k hk a ha => by
    rcases src k hk a ha with (z | z) | z
    · exact (I.fr i _ hi a z).2.2.resolve_left fun y => ni y.1
    · exact (I.fr j _ hj a z).2.2.resolve_left fun y => nj y.1
    · cases q' : b.H0 a with
      | none => rfl
      | some o => exact absurd z (I.thr a (by rw [q']; simp))
  have x0 : ∀ {a : Addr}, (a ∈ Sf i ∨ a ∈ Sf j) → b.H0 a ≠ none → a ∈ b.X0 := fun {a} h h0 => by
    rcases h with h | h
    · rcases (I.fr i _ hi a h).2.2 with ⟨_, z⟩ | z
      · exact z
      · exact absurd z h0
    · rcases (I.fr j _ hj a h).2.2 with ⟨_, z⟩ | z
      · exact z
      · exact absurd z h0
  refine ⟨I.sub.trans st.sub, st.inH, fun a h h0 => ?_, fun a o h hs hx => ?_, fun a h => st.thr a (I.thr a h), st.so, st.sR, by simpa using I.len, fun k x h => ?_, fun k x h => ?_, fun k l x y hkl hk hl a => ?_, fun k x h a ha => ?_, I.io⟩
  · cases q : R a with
    | some o => exact I.new a (by rw [q]; simp) h0
    | none =>
      have z := st.new a h q
      cases q' : b.H0 a with
      | none => rfl
      | some o => exact absurd z (I.thr a (by rw [q']; simp))
  · refine st.same a o (I.same a o h hs hx) hs fun hc => hx (x0 (cm hc) (by rw [h]; simp))
  · by_cases h1 : k = i
    · subst h1
      rw [gi h]
      exact ⟨_, pi, by simpa using o1⟩
    · by_cases h2 : k = j
      · subst h2
        rw [gj h]
        exact ⟨_, pj, by simpa [h1] using o2⟩
      · obtain ⟨v, z1, z2⟩ := I.own k x (gk h1 h2 h)
        refine ⟨v, z1, ?_⟩
        simp only [if_neg h1, if_neg h2]
        refine z2.mono st.sub fun a ha => ?_
        obtain ⟨o, y⟩ := I.there (gk h1 h2 h) a ha
        obtain ⟨y1, y2⟩ := apart h1 h2 (gk h1 h2 h) a ha
        rw [y]
        exact st.same a o y (I.fr k x (gk h1 h2 h) a ha).2.1 fun hc => (cm hc).elim y1 y2
  · by_cases h1 : k = i
    · subst h1; simpa using io.nd 0 t' rfl
    · by_cases h2 : k = j
      · subst h2; simpa [h1] using io.nd 1 u' rfl
      · simpa [h1, h2] using I.nd k x (gk h1 h2 h)
  · have main : ∀ {k l : Nat} {x y : T}, k ≠ l → ((ρ.set i (some t')).set j (some u'))[k]? = some (some x) → ((ρ.set i (some t')).set j (some u'))[l]? = some (some y) → (k = i ∨ k = j) → (l ≠ i ∧ l ≠ j) → ∀ a, a ∈ (if k = i then Sn 0 else if k = j then Sn 1 else Sf k) → a ∉ (if l = i then Sn 0 else if l = j then Sn 1 else Sf l) := fun {k l x y} hkl hk hl h1 h2 a ha => by
      rw [if_neg h2.1, if_neg h2.2]
      rcases h1 with h1 | h1
      · rw [if_pos h1] at ha
        exact djk h2.1 h2.2 (gk h2.1 h2.2 hl) 0 (by omega) a ha
      · rw [if_neg (by rw [h1]; exact Ne.symm hij), if_pos h1] at ha
        exact djk h2.1 h2.2 (gk h2.1 h2.2 hl) 1 (by omega) a ha
    by_cases hk1 : k = i ∨ k = j
    · by_cases hl1 : l = i ∨ l = j
      · rcases hk1 with rfl | rfl <;> rcases hl1 with rfl | rfl
        · exact absurd rfl hkl
        · simp only [if_true, if_neg hkl.symm]
          exact io.dj 0 1 t' u' (by omega) rfl rfl a
        · simp only [if_true, if_neg hkl]
          exact io.dj 1 0 u' t' (by omega) rfl rfl a
        · exact absurd rfl hkl
      · exact main hkl hk hl hk1 (by simpa using hl1) a
    · by_cases hl1 : l = i ∨ l = j
      · exact fun h1 h2 => main (Ne.symm hkl) hl hk hl1 (by simpa using hk1) a h2 h1
      · have k1 : k ≠ i ∧ k ≠ j := by simpa using hk1
        have l1 : l ≠ i ∧ l ≠ j := by simpa using hl1
        rw [if_neg k1.1, if_neg k1.2, if_neg l1.1, if_neg l1.2]
        exact I.dj k l x y hkl (gk k1.1 k1.2 hk) (gk l1.1 l1.2 hl) a
  · by_cases h1 : k = i
    · subst h1
      simp only [if_true] at ha
      obtain ⟨z1, z2⟩ := io.fr 0 t' rfl a ha
      exact ⟨z1, z2, .inr (h0 0 (by omega) a ha)⟩
    · by_cases h2 : k = j
      · subst h2
        simp only [if_neg h1, if_true] at ha
        obtain ⟨z1, z2⟩ := io.fr 1 u' rfl a ha
        exact ⟨z1, z2, .inr (h0 1 (by omega) a ha)⟩
      · simp only [if_neg h1, if_neg h2] at ha
        obtain ⟨z1, z2, z3⟩ := I.fr k x (gk h1 h2 h) a ha
        refine ⟨?_, z2, z3⟩
        cases q : R' a with
        | none => rfl
        | some o =>
          obtain ⟨o', y⟩ := I.there (gk h1 h2 h) a ha
          rw [st.new a (by rw [q]; simp) z1] at y
          cases y
end
section
variable {X : Cx} {W : WX} {io : List Nat} {e : Expr} {es : List Expr} {ra : RA} {p p1 p2 cpos pos : Pos} {i j : Nat} {f x1 x2 : Str}
/-- f(x1, x2, ..) as a statement: x1, x2 are changed -/
def aIO2 (i j : Nat) (r : FIO) (ra : RA) : RS := fun A ρ => match ρ[i]?, ρ[j]? with
  | some (some (.lst t1)), some (some (.lst t2)) => ra (envF ρ) (fun ts => r [.lst t1, .lst t2] (T.ers ts) fun ts' _ => match ts' with
    | [t', u'] => A.nx ((ρ.set i (some t')).set j (some u'))
    | _ => False) (fun x => A.ex x ρ)
  | _, _ => False
theorem js_io2 {k : Nat} {nn : Bool} {r : FIO} (c : ClIO X.prog X.w X.K X.mg X.base f k 2 nn r) (i j : Nat) (hr : Room k X.A) (hg : Gl X f) (hij : i ≠ j) (ni : i ∉ io) (nj : j ∉ io) (hN1 : X.N[i]? = some x1) (hN2 : X.N[j]? = some x2) (ha : JA W X es ra)
    (hv1 : Vis X.env.scope x1 := by first | exact Or.inl rfl | exact Or.inr (Or.inl rfl) | exact Or.inr (Or.inr rfl)) (hv2 : Vis X.env.scope x2 := by first | exact Or.inl rfl | exact Or.inr (Or.inl rfl) | exact Or.inr (Or.inr rfl)) (hd1 : (x1 == ("__debug__" : Str)) = false := by decide) (hcd1 : (x1 == ("__classdict__" : Str)) = false := by decide)
    (hd2 : (x2 == ("__debug__" : Str)) = false := by decide) (hcd2 : (x2 == ("__classdict__" : Str)) = false := by decide) (hdb : (f == ("__debug__" : Str)) = false := by decide)
    (he1 : starEach (.Name x1 p1 :: .Name x2 p2 :: es) X.env = (false, eval (.Name x1 p1) X.env) :: starEach (.Name x2 p2 :: es) X.env := by rfl) (he2 : starEach (.Name x2 p2 :: es) X.env = (false, eval (.Name x2 p2) X.env) :: starEach es X.env := by rfl)
    (hpl : (backTo cpos (starEach (.Name x2 p2 :: es) X.env)).any (·.1) = false := by rfl) (hsw : swapsWith (.Call (.Name f p) (.Name x1 p1 :: .Name x2 p2 :: es) [] cpos) none pos.line X.env = pure false := by rfl) :
    JS io W X (.Expr (.Call (.Name f p) (.Name x1 p1 :: .Name x2 p2 :: es) [] cpos) pos) (aIO2 i j r ra) := by
  obtain ⟨fa, fd, ps, n, hm, hk, hb, hn, F⟩ := c.ex
  have pe : PE X (.Call (.Name f p) (.Name x1 p1 :: .Name x2 p2 :: es) [] cpos) (fun σ H Q => (tCons (tVar i) (tCons (tVar j) (cA X.K W ra))) σ H fun vs H1 => spIO X.K 2 n nn r vs H1 Q L2.E0) := by
    refine ⟨fun pins s σ H Q I h => ?_⟩
    refine wpAny_Call_Name_kw (ld_glob I hg hm ?_ hdb)
    refine PySem.W.callWith_K (h₀ := X.base) I.ok.mod.kin hk (thn ((pa_cons (pe_var hN1 hv1 hd1 hcd1) (pa_cons (pe_var hN2 hv2 hd2 hcd2) ha he2) he1).run cpos pins s σ H _ I h) fun us s1 ⟨vs, H1, I1, r, q⟩ => ⟨I1.kIn, ?_⟩) he1 hpl
    exact run_fnD (E := L2.E0) (dvs := []) (ds := []) F hr hb .nil (fun _ _ _ _ _ _ z => (passE0 (X := X) (pins := []) z).elim) I1 r (by rw [List.append_nil]; exact q)
  refine PS.imp (ps_expr pe hsw) fun D σ H z => ?_
  obtain ⟨b, R, Sf, ρ, A, hbio, I, z, S⟩ := z
  unfold aIO2 at z
  split at z
  · rename_i t1 t2 hi hj
    obtain ⟨p', vs1, S1, s1, _⟩ := I.lstAt hi
    obtain ⟨q', vs2, S2, s2, _⟩ := I.lstAt hj
    refine ⟨.ref p', s1, .ref q', s2, b.s, R, envF ρ, _, _, I.eF, z, fun R1 H1 ts vs S' e q1 => ?_, S.kxF I⟩
    obtain ⟨R2, st, hv⟩ := e.frz I.so
    have I2 := I.stepF st
    have nd : i ∉ b.ioA.map (·.1) := by rw [hbio]; exact ni
    have ndj : j ∉ b.ioA.map (·.1) := by rw [hbio]; exact nj
    refine ⟨b.s, R2, [.lst t1, .lst t2], [p', q'], _, T.ers ts, vs, _, rfl, rfl, hn _ _ _ q1, st.inH, st.sto, st.sR, I2.io2 hij hi hj s1 s2, hv, q1, ?_⟩
    rintro R' H' ts' Sn sIO iok hl hfr d v _ _ q3
    split at q3
    · rename_i t' u'
      exact S.nx _ _ _ _ _ (I2.io2_after nd ndj hij hi hj s1 s2 sIO iok hfr) q3
    · exact q3.elim
  · exact z.elim
end
end AL

set_option Elab.async false
set_option linter.all false
set_option maxRecDepth 100000
set_option maxHeartbeats 4000000
/-! AL17: the store of draws; the law; what is not reached -/
namespace AL
open PySem PySem.Spec PyProof.Rows L2
/-! ### what is not reached -/
section
variable {X : Cx} {W : WX} {io : List Nat} {e : Expr} {st : Stmt} {ss : List Stmt} {es : List Expr}
def rNev : RE := fun _ _ _ => False
def rNevT : RT := fun _ _ _ => False
def aNev : RS := fun _ _ => False
theorem je_nev : JE W X e rNev := ⟨fun _ _ _ _ _ _ q => by
  obtain ⟨_, _, _, _, _, _, q, _⟩ := q
  exact q.elim⟩
theorem jt_nev : JT W X e rNevT := ⟨fun _ _ _ _ _ _ q => by
  obtain ⟨_, _, _, _, _, _, q, _⟩ := q
  exact q.elim⟩
theorem jw_nev : JW W X e rNevT := ⟨fun _ _ _ _ _ _ _ q => by
  obtain ⟨_, _, _, _, _, _, q, _⟩ := q
  exact q.elim⟩
theorem js_nev : JS io W X st aNev := ⟨fun _ _ _ _ _ _ q => by
  obtain ⟨_, _, _, _, _, _, _, q, _⟩ := q
  exact q.elim⟩
theorem jss_nev : JSs io W X ss aNev := ⟨fun _ _ _ _ _ _ q => by
  obtain ⟨_, _, _, _, _, _, _, q, _⟩ := q
  exact q.elim⟩
end
/-! ### x or y, by truth -/
section
variable {X : Cx} {W : WX} {e e1 e2 : Expr} {a c : RE} {pos : Pos}
def rOrL (a c : RE) : RE := fun ρ AQ AX => a ρ (fun t => D.tru t.er fun k => if k = true then AQ t else c ρ AQ AX) AX
theorem je_orL {rest : List Expr} (h : JE W X e1 a) (h' : JE W X (.BoolOp .Or (e2 :: rest) pos) c) : JE W X (.BoolOp .Or (e1 :: e2 :: rest) pos) (rOrL a c) := by
  refine PE.imp (pe_orT h h') fun σ H Q q => ?_
  obtain ⟨s, R, ρ, AQ, AX, I, q, kq, kx⟩ := q
  refine ⟨s, R, ρ, _, AX, I, q, fun R1 H1 t v S e q1 => ?_, kx⟩
  obtain ⟨R2, st, hv⟩ := e.frz I.so
  obtain ⟨k, h1, h2⟩ := tru_val st.inH hv q1
  refine ⟨k, h1, ?_⟩
  cases k with
  | true => exact kq R1 H1 t v S e h2
  | false => exact ⟨s, R1, ρ, AQ, AX, I.step e.st, h2, kq.step I.so e.st, kx.step I.so e.st⟩
end
/-! ### a draw -/
def stoT (b : Option Addr) (ns : List Int) (i big cnt seed : Int) : T := .lst [.fz (.scr b ns), .fz (.int i), .fz (.int big), .fz (.int cnt), .fz (.int seed)]
def rTakeIO : FIO := fun ts ds AQ => ∃ b ns i big cnt seed m, ts = [stoT b ns i big cnt seed] ∧ ds = [.int m] ∧ ns.length ≤ 63 ∧ 0 ≤ i ∧ i ≤ ns.length ∧ 0 ≤ big ∧ m < 1073741824 ∧
  ∀ (i' big' cnt' r : Int), 0 ≤ i' → i' ≤ ns.length → 0 ≤ big' → (1 < m → 0 ≤ r ∧ r < m) → (m ≤ 1 → r = 0) → AQ [stoT b ns i' big' cnt' seed] (.int r)
def fTake : D → D → TQ → XQ → Prop := fun a b AQ _ => a = .sto ∧ ∃ m, b = .int m ∧ m < 1073741824 ∧ ∀ r, (1 < m → 0 ≤ r ∧ r < m) → (m ≤ 1 → r = 0) → AQ (.fz (.int r))
theorem take_sto {P : Program} {w : World} {K : PySem.W.Frag} {mg : Str → Option Value} {base : Heap} {k : Nat} {f : Addr} {fd : FuncData} {ps : List Str} (F : FnOk P w K mg base (L2.CX P w) k f fd ps (spIO K 1 2 false rTakeIO)) : FnOk P w K mg base (L2.CX P w) k f fd ps (spOf K 2 (fs2 fTake)) := by
  refine F.imp fun vs H Q E h => ?_
  obtain ⟨s, R, ds, AQ, AX, h1, h2, h3, h4, h5, h6, h7, _⟩ := h
  unfold fs2 at h6
  split at h6
  · rename_i x y
    obtain ⟨rfl, m, rfl, hm, q⟩ := h6
    obtain ⟨v1, v2, rfl, hv1, hv2⟩ := valL2 h5
    simp only [Val] at hv1 hv2
    obtain ⟨a, ha, rfl⟩ := hv1
    subst hv2
    obtain ⟨b, rfl⟩ := sa_some ha
    obtain ⟨ns, i, big, cnt, seed, e1, e2, e3, e4, e5, e6, e7⟩ := h3 a b rfl
    obtain ⟨r1, r2⟩ := h4 a b rfl
    have hb : R b = some (.lst (ns.map V.int)) := by
      cases z : R b with
      | none => exact absurd z r2
      | some o =>
        have := h2 b o z
        rw [e2] at this
        rw [this]
    refine ⟨none, R, [stoT (some b) ns i big cnt seed], [a], fun _ => [a], [.int m], [.int m], fun ts' d => ∃ (i' big' cnt' r : Int), ts' = [stoT (some b) ns i' big' cnt' seed] ∧ d = .int r ∧ 0 ≤ i' ∧ i' ≤ ns.length ∧ 0 ≤ big' ∧ (1 < m → 0 ≤ r ∧ r < m) ∧ (m ≤ 1 → r = 0), rfl, rfl, rfl, h2, (fun _ _ z => nomatch z), (fun _ _ z => nomatch z), ⟨rfl, fun j t h => ?_, fun j t h => by simp, fun j l t t' hjl hj hl => ?_, fun j t h c hc => ?_⟩, by simp [ValL, Val], ⟨some b, ns, i, big, cnt, seed, m, rfl, rfl, e4, e5, e6, e7, hm, fun i' big' cnt' r z1 z2 z3 z4 z5 => ⟨i', big', cnt', r, rfl, rfl, z1, z2, z3, z4, z5⟩⟩, ?_⟩
    · have hj := (List.getElem?_eq_some_iff.mp h).1
      simp at hj
      subst hj
      simp at h
      subst h
      refine ⟨a, rfl, ?_⟩
      simp only [stoT, OVal, OValL]
      refine ⟨a, _, [], rfl, rfl, e1, _, _, [], [], rfl, rfl, ⟨rfl, ?_⟩, _, _, [], [], rfl, rfl, ⟨rfl, by simp [Val]⟩, _, _, [], [], rfl, rfl, ⟨rfl, by simp [Val]⟩, _, _, [], [], rfl, rfl, ⟨rfl, by simp [Val]⟩, _, _, [], [], rfl, rfl, ⟨rfl, by simp [Val]⟩, rfl, rfl⟩
      simp only [Val]
      exact ⟨b, rfl, SqL.of hb, fun x z => by cases z; rfl⟩
    · have h1 := (List.getElem?_eq_some_iff.mp hj).1
      have h2 := (List.getElem?_eq_some_iff.mp hl).1
      simp at h1 h2
      omega
    · have ec : c = a := by simpa using hc
      subst ec
      exact ⟨r1, fun z => nomatch z⟩
    · rintro R' H' ts' Sf' sIO iok hl hfr d v vd _ ⟨i', big', cnt', r, rfl, rfl, z1, z2, z3, z4, z5⟩
      obtain ⟨p, ep, ov⟩ := iok.own 0 _ rfl
      cases (show some a = some p from ep)
      have fr := iok.fr 0 _ rfl
      simp only [stoT, OVal, OValL] at ov
      obtain ⟨p, vs, S', ep, eS, hp, w0, _, _, _, rfl, rfl, ⟨_, k0⟩, w1, _, _, _, rfl, rfl, ⟨_, k1⟩, w2, _, _, _, rfl, rfl, ⟨_, k2⟩, w3, _, _, _, rfl, rfl, ⟨_, k3⟩, w4, _, _, _, rfl, rfl, ⟨_, k4⟩, rfl, rfl⟩ := ov
      cases ep
      simp only [Val] at k0 k1 k2 k3 k4 vd
      obtain ⟨c, rfl, _, kc⟩ := k0
      have ec := kc b rfl
      subst ec k1 k2 k3 k4 vd
      have mem : ∀ c, c ∈ cells (fun _ => [a]) 1 → c = a := fun c h => by
        obtain ⟨_, _, h⟩ := cells_mem h
        simpa using h
      have hb' : H' b = some (.lst (ns.map V.int)) := sIO.same b _ e2 (fun z => nomatch z) fun z => e3 (mem b z).symm
      refine h7 R' H' (.fz (.int r)) _ [] ⟨⟨sIO.sub, sIO.inH, sIO.new, fun c o h hs => sIO.same c o h (fun z => nomatch z) fun z => hs (by rw [mem c z]; rfl), ?_, ?_⟩, oval_fz.mpr (by simp [Val]), .nil, fun c hc => (nomatch hc)⟩ (q r z4 z5)
      · intro a' b' z
        cases z
        exact ⟨ns, i', big', cnt', seed, hp, hb', e3, e4, z1, z2, z3⟩
      · intro a' b' z
        cases z
        refine ⟨(fr a (by rw [eS]; exact List.mem_cons_self ..)).1, ?_⟩
        rw [sIO.sub b _ hb]
        simp
  · exact h6.elim
/-! ### the law: its store is made first -/
def spLaw (K : PySem.W.Frag) : Sp := fun vs H Q _ => ∃ (a : Addr) (ns : List Int), vs = [.ref a] ∧ SqL K H a (ns.map V.int) ∧ ns.length ≤ 63 ∧ ∀ H', Q (.bl true) H'
abbrev lawEnds : AEnds := { nx := fun _ => False, rt := fun t _ => t.er = .bl true, ex := fun _ _ => False }
theorem ok_law {P : Program} {w : World} {K : PySem.W.Frag} {mg : Str → Option Value} {base : Heap} {name qual : Str} {params : Arguments} {st0 : Stmt} {rest : List Stmt} {scope : Scope} {dvs : List V} {kws : List (Str × V)} {f : Addr} {fd : FuncData}
    {N : List Str} {k : Nat} {r0 : RE} {a : RS} (F : FunD K name qual params (st0 :: rest) scope dvs kws f fd) (S : FnScope N ["script"] scope) (hN : 2 ≤ N.length)
    (h0 : ∀ (cdv : Value) (A : Around) (outer : List Env) (s : Shared) (H : Hp) (E : XK), Room k (A.deeper (envOfC qual scope s.heap.objs.size f cdv)) → JS [] (WD E) (cxOf (L2.CX P w) P w K mg base N qual scope f cdv A outer s H E) st0 (aSet 1 r0))
    (h1 : ∀ (cdv : Value) (A : Around) (outer : List Env) (s : Shared) (H : Hp) (E : XK), Room k (A.deeper (envOfC qual scope s.heap.objs.size f cdv)) → JSs [] (WD E) (cxOf (L2.CX P w) P w K mg base N qual scope f cdv A outer s H E) rest a)
    (hp0 : ∀ ns AQ, ns.length ≤ 63 → (∀ seed, AQ (.lst [.lst ((ns.map D.int).map .fz), .fz (.int 0), .fz (.int 0), .fz (.int 0), .fz (.int seed)])) → r0 (envF (ent N.length [.scr none ns])) AQ (fun _ => False))
    (hp1 : a lawEnds (none :: some (.fz .sto) :: List.replicate (N.length - 2) none)) : FnOk P w K mg base (L2.CX P w) (k + 1) f fd ["script"] (spLaw K) := by
  refine F.ok S (fun vs H Q E h => ?_) fun cdv A outer s H vs Q E hr h => ?_
  · obtain ⟨a, ns, rfl, _⟩ := h
    rfl
  obtain ⟨sa, ns, rfl, hS, hl, hQ⟩ := h
  refine ⟨_, pss_cons (h0 cdv A outer s H E hr) (h1 cdv A outer s H E hr), ?_⟩
  have hv : ValL K none H [.scr none ns] [V.ref sa] := by
    simp only [ValL, Val]
    exact ⟨_, [], rfl, ⟨sa, rfl, hS, fun _ z => nomatch z⟩, rfl⟩
  have I0 : SInv K ⟨none, H, H, [], []⟩ H (fun _ => []) (L2.start N [V.ref sa]) H (ent N.length [.scr none ns]) := start_inv (Sub.refl _) (fun _ _ z => nomatch z) (fun _ _ z => nomatch z) hv
  refine ⟨_, H, _, _, { nx := fun ρ => ∃ seed, ρ = (ent N.length [.scr none ns]).set 1 (some (.lst [.lst ((ns.map D.int).map .fz), .fz (.int 0), .fz (.int 0), .fz (.int 0), .fz (.int seed)])), rt := fun _ _ => False, ex := fun _ _ => False }, rfl, I0, hp0 ns _ hl fun seed => ⟨seed, rfl⟩, ⟨?_, fun _ _ _ _ _ _ z => z.elim, fun _ _ _ _ _ _ z => z.elim, fun _ _ _ _ _ _ _ _ _ _ _ _ z => z.elim, fun _ _ _ _ _ _ _ _ _ _ z => z.elim⟩⟩
  rintro R Sf σ H' ρ I ⟨seed, rfl⟩
  have hlen : 1 < (ent N.length [D.scr none ns]).length := by
    simp only [ent, List.length_append, List.length_map, List.length_replicate, List.length_singleton]
    omega
  have at1 : ((ent N.length [.scr none ns]).set 1 (some (.lst [.lst ((ns.map D.int).map .fz), .fz (.int 0), .fz (.int 0), .fz (.int 0), .fz (.int seed)])))[1]? = some (some (.lst [.lst ((ns.map D.int).map .fz), .fz (.int 0), .fz (.int 0), .fz (.int 0), .fz (.int seed)])) := List.getElem?_set_self hlen
  obtain ⟨v, hσ, ov⟩ := I.own 1 _ at1
  have nd := I.nd 1 _ at1
  have fr := I.fr 1 _ at1
  simp only [OVal, OValL] at ov
  obtain ⟨p, vs, S', rfl, eS, hp, w0, _, S1, _, rfl, rfl, ⟨q, us, S2, rfl, rfl, hq, hus⟩, w1, _, _, _, rfl, rfl, ⟨rfl, k1⟩, w2, _, _, _, rfl, rfl, ⟨rfl, k2⟩, w3, _, _, _, rfl, rfl, ⟨rfl, k3⟩, w4, _, _, _, rfl, rfl, ⟨rfl, k4⟩, rfl, rfl⟩ := ov
  simp only [Val] at k1 k2 k3 k4
  subst k1 k2 k3 k4
  have hus' : us = ns.map V.int := by
    have z : ValL K none R (T.ers ((ns.map D.int).map .fz)) us := hus.freeze (R' := R) (Sub.refl _) (fun a ha => by
      have fr1 : ∀ (ds : List D) (vs : List V) (S : List Addr), OValL K none R H' (ds.map .fz) vs S → S = [] := by
        intro ds
        induction ds with
        | nil => intro vs S h; simp only [List.map_nil, OValL] at h; exact h.2
        | cons d ds ih =>
          intro vs S h
          simp only [List.map_cons, OValL, OVal] at h
          obtain ⟨_, _, _, _, _, rfl, ⟨rfl, _⟩, h4⟩ := h
          rw [ih _ _ h4]
          rfl
      rw [fr1 _ _ _ hus] at ha
      cases ha)
    have e : T.ers ((ns.map D.int).map .fz) = ns.map D.int := by
      rw [T.ers_map, List.map_map]
      exact List.map_congr_left (fun _ _ => rfl) |>.trans (List.map_id _)
    rw [e] at z
    exact valL_ints_inv z
  subst hus'
  have eq1 : Sf 1 = p :: q :: S2 := by rw [eS]; simp
  have rp : R p = none := (fr p (by rw [eq1]; simp)).1
  have rq : R q = none := (fr q (by rw [eq1]; simp)).1
  have npq : p ≠ q := fun z => by
    rw [eq1, z] at nd
    simp at nd
  have sub : Sub (L2.upd R q (.lst (ns.map V.int))) H' := fun c o e => by
    by_cases z : c = q
    · subst z
      rw [upd_same] at e
      cases e
      exact hq
    · rw [upd_ne z] at e; exact I.inH _ _ e
  have sto : StoOk K H' (some (p, q)) := fun a' b' z => by
    cases z
    exact ⟨ns, 0, 0, 0, seed, hp, hq, npq, hl, by omega, by omega, by omega⟩
  have hσl : σ.length = N.length := by
    have := I.len
    rw [← this]
    simp only [ent, List.length_append, List.length_set, List.length_map, List.length_replicate, List.length_singleton]
    omega
  have only1 : ∀ {i : Nat} {t : T}, (none :: some (T.fz D.sto) :: List.replicate (N.length - 2) none : AS)[i]? = some (some t) → i = 1 ∧ t = .fz .sto := fun {i t} h => by
    match i, h with
    | 0, h => simp at h
    | 1, h => exact ⟨rfl, by simpa using h.symm⟩
    | i + 2, h =>
      simp only [List.getElem?_cons_succ, List.getElem?_replicate] at h
      split at h <;> cases h
  have I1 : SInv K ⟨some (p, q), H', L2.upd R q (.lst (ns.map V.int)), [], []⟩ (L2.upd R q (.lst (ns.map V.int))) (fun _ => []) σ H' (none :: some (.fz .sto) :: List.replicate (N.length - 2) none) := by
    refine ⟨Sub.refl _, sub, fun c h h0 => absurd h0 h, fun c o h _ _ => h, fun c h => h, sto, fun a' b' z => ?_, ?_, fun i t h => ?_, fun _ _ _ => .nil, fun _ _ _ _ _ _ _ c hc => (nomatch hc), fun _ _ _ c hc => (nomatch hc), fun _ z => (nomatch z)⟩
    · cases z
      refine ⟨by rw [upd_ne npq]; exact rp, by rw [upd_same]; simp⟩
    · rw [hσl]
      simp only [List.length_cons, List.length_replicate]
      omega
    · obtain ⟨rfl, rfl⟩ := only1 h
      refine ⟨.ref p, hσ, oval_fz.mpr ?_⟩
      simp only [Val]
      exact ⟨p, rfl, rfl⟩
  refine ⟨_, _, _, _, lawEnds, rfl, I1, hp1, ⟨fun _ _ _ _ _ _ z => z.elim, fun _ _ _ _ _ _ z => z.elim, fun _ _ _ _ _ _ z => z.elim, fun R3 Sf3 σ3 H3 ρ3 t v S I3 ov _ _ z => ?_, fun _ _ _ _ _ _ _ _ _ _ z => z.elim⟩⟩
  cases t with
  | fz d =>
    have ed : d = .bl true := z
    subst ed
    have ev : v = .bl true := by
      simp only [OVal, Val] at ov
      exact ov.2
    subst ev
    exact hQ H3
  | lst ts => simp [T.er] at z
  | tup ts => simp [T.er] at z
  | ins C ns ts => simp [T.er] at z
end AL

set_option Elab.async false
set_option linter.all false
set_option maxRecDepth 100000
set_option maxHeartbeats 4000000
/-! AL18: ranges read off what is owned; what the top says; loops by induction -/
namespace AL
open PySem PySem.Spec PyProof.Rows L2
theorem tk0 {X : Cx} : Takes X W0 := fun _ _ ⟨_, _, _, _, _, _, _, _, _, _, _, _, _, _, _, _, w⟩ => w.elim
theorem huR {k : Nat} {A : Around} (r : Room k A) : A.units + 64 < cLine := by have := r.un; omega
theorem huH {k : Nat} {A : Around} (r : L2H.RoomH k A) : A.units + 64 < cLine := by have := r.un; omega
theorem roomS {k j : Nat} {A : Around} {v : Option Value} (r : Room k A) (h : j ≤ k) : L2H.RoomH j (A.mark v) := by
  have q := L2H.roomH_of (r.mono h)
  exact ⟨q.dp, q.un⟩
/-! ### ranges -/
section
variable {X : Cx} {W : WX} {e e1 e2 e3 tg : Expr} {ra : RA} {pos p : Pos} {K : PySem.W.Frag}
/-- arguments that are ints: the walk does not lean on the region -/
theorem cIBN {g : List D → (List D → Prop) → Prop} {rr : List V → Hp → (It → Hp → Prop) → Prop} (o : ∀ s R H ds vs (AQ : List D → Prop) (Rr : It → Hp → Prop), Step K s R H R H → ValL K s R ds vs → g ds AQ → (∀ J es, (∀ R2, WalkD K s R2 J es) → AQ es → Rr J H) → rr vs H Rr) (σ : L2.St) (H : Hp) (Rr : It → Hp → Prop)
    (q : cIB K W (rIN g ra) σ H Rr) : cA K W ra σ H fun vs H1 => rr vs H1 Rr := by
  obtain ⟨s, R, ρ, AQ, AX, I, q, kq, kx⟩ := q
  refine ⟨s, R, ρ, _, AX, I, q, fun R1 H1 ts vs S e q1 => ?_, kx⟩
  obtain ⟨R2, st, hv⟩ := e.frz I.so
  exact o s R2 H1 _ vs AQ Rr (Step.stay st.inH st.sto st.sR) hv q1 fun J es w q2 => kq R2 H1 J es st w q2
theorem jib_range1 (hg : Gl X "range") (hm : X.mg "range" = none) (h : JA W X [e] ra) (hs : starEach [e] X.env = [(false, eval e X.env)] := by rfl) : JIB W X tg (.Call (.Name "range" p) [e] [] pos) (rIN gR1 ra) :=
  PI.imp (pi_range1 hg hm h hs) (cIBN (by
    intro s R H ds vs AQ Rr st hv q k
    unfold gR1 at q
    split at q
    · obtain ⟨v, rfl, h1⟩ := valL1 hv
      simp only [Val] at h1
      subst h1
      exact ⟨_, rfl, q.1.1, q.1.2, k _ _ (fun _ => walkD_range) q.2⟩
    · exact q.elim))
theorem jib_range2 (hg : Gl X "range") (hm : X.mg "range" = none) (h : JA W X [e1, e2] ra) (hs : starEach [e1, e2] X.env = [(false, eval e1 X.env), (false, eval e2 X.env)] := by rfl) (hs2 : starEach [e2] X.env = [(false, eval e2 X.env)] := by rfl) : JIB W X tg (.Call (.Name "range" p) [e1, e2] [] pos) (rIN gR2 ra) :=
  PI.imp (pi_range2 hg hm h hs hs2) (cIBN (by
    intro s R H ds vs AQ Rr st hv q k
    unfold gR2 at q
    split at q
    · obtain ⟨v, w, rfl, hv, hw⟩ := valL2 hv
      simp only [Val] at hv hw
      subst hv hw
      exact ⟨_, _, rfl, q.1, k _ _ (fun _ => walkD_range) q.2⟩
    · exact q.elim))
theorem jib_range3 (hg : Gl X "range") (hm : X.mg "range" = none) (h : JA W X [e1, e2, e3] ra) (hs : starEach [e1, e2, e3] X.env = (false, eval e1 X.env) :: starEach [e2, e3] X.env := by rfl) (hpl : (backTo pos (starEach [e2, e3] X.env)).any (·.1) = false := by rfl) : JIB W X tg (.Call (.Name "range" p) [e1, e2, e3] [] pos) (rIN gR3 ra) :=
  PI.imp (pi_range3 hg hm h hs hpl) (cIBN (by
    intro s R H ds vs AQ Rr st hv q k
    unfold gR3 at q
    split at q
    · obtain ⟨v, w, u, rfl, hv, hw, hu⟩ := valL3 hv
      simp only [Val] at hv hw hu
      subst hv hw hu
      obtain ⟨n, q1, q2⟩ := q
      exact ⟨_, _, _, n, rfl, q1, k _ _ (fun _ => walkD_rangeC) q2⟩
    · exact q.elim))
end
/-! ### a walk over a fresh list of plain values -/
section
variable {X : Cx} {W : WX} {e tg : Expr} {a : RE} {pos : Pos} {io : List Nat}
def cIP (K : PySem.W.Frag) (W : WX) (r : RE) : TI := fun σ H Rr => ∃ s R ρ AQ AX, EInv K s R H ρ σ ∧ r ρ AQ AX ∧ (∀ R' H' t v S, ERes K s R H R' H' t v S → AQ t → ∃ ds, t.er = .lst ds ∧ ∀ p, v = .ref p → Rr (Itl K p) H') ∧ KX K s R H W σ AX
theorem jip_list (h : JE W X e a) : PI X tg e (cIP X.K W a) := by
  refine PI.imp (pi_list h) fun σ H Q q => ?_
  obtain ⟨s, R, ρ, AQ, AX, I, q, kq, kx⟩ := q
  refine ⟨s, R, ρ, _, AX, I, q, fun R1 H1 t v S e q1 => ?_, kx⟩
  obtain ⟨ds, ed, q1⟩ := kq R1 H1 t v S e q1
  obtain ⟨R2, st, hv⟩ := e.frz I.so
  rw [ed] at hv
  simp only [Val] at hv
  obtain ⟨p, vs, rfl, hp, hvs⟩ := hv
  exact ⟨p, rfl, ⟨vs, SqL.of (st.inH _ _ hp)⟩, q1 p rfl⟩
def aForP (r : RE) (g : Tg) (body : RS) : RS := fun A ρ => r (envB ρ) (fun t => t.pure = true ∧ match t.er with
  | .lst ds => forGo g body A ds ρ
  | _ => False) (fun x => A.ex x ρ)
theorem SInv.extS {K : PySem.W.Frag} {b : Bs} {R H : Hp} {Sf : Nat → List Addr} {σ : L2.St} {ρ : AS} {S : List Addr} (I : SInv K b R Sf σ H ρ) (hH : ∀ a ∈ S, ∃ o, H a = some o) (h0 : ∀ a ∈ S, R a = none ∧ b.H0 a = none ∧ sa b.s ≠ some a) (hd : ∀ (j : Nat) (t' : T), ρ[j]? = some (some t') → ∀ a ∈ S, a ∉ Sf j) :
    SInv K b (frz R H S) Sf σ H ρ := by
  have sub : Sub R (frz R H S) := fun a o e => by
    by_cases q : a ∈ S
    · rw [(h0 a q).1] at e; cases e
    · rw [frz_out q]; exact e
  refine ⟨I.sub.trans sub, fun a o e => ?_, fun a e e0 => ?_, I.same, I.thr, I.so, fun a c e => ?_, I.len, fun i t q => ?_, I.nd, I.dj, fun i t q a ha => ?_, I.io⟩
  · by_cases q : a ∈ S
    · rw [frz_in q] at e; exact e
    · rw [frz_out q] at e; exact I.inH _ _ e
  · by_cases q : a ∈ S
    · exact (h0 a q).2.1
    · rw [frz_out q] at e; exact I.new a e e0
  · obtain ⟨z1, z2⟩ := I.sR a c e
    refine ⟨by rw [frz_out fun q => (h0 a q).2.2 (by rw [e]; rfl)]; exact z1, ?_⟩
    cases z : R c with
    | none => exact absurd z z2
    | some o => rw [sub c o z]; simp
  · obtain ⟨v, h1, h2⟩ := I.own i t q
    exact ⟨v, h1, h2.mono sub fun _ _ => rfl⟩
  · obtain ⟨z1, z2, z3⟩ := I.fr i t q a ha
    exact ⟨by rw [frz_out fun z => hd i t q a z ha]; exact z1, z2, z3⟩
theorem js_forP {g : Tg} {iter : Expr} {body : List Stmt} {rb : RS} (hp : PassesOwn (model X.prog X.w) X.A X.env X.xe) (hc : X.calm = true) (hi : JE W X iter a) (hg : PG X tg (cG X.K g)) (hb : JSs io W X body rb) (hio : ∀ i ∈ g.slots, i ∉ io := by decide)
    (hs : ∀ x, foldedSetIterable iter X.env x = pure x := by intro _; rfl) : JS io W X (.For tg iter body [] pos) (aForP a g rb) := PS.imp (ps_for hp hc (jip_list hi) hg hb hs) fun D σ H z => by
  obtain ⟨b, R, Sf, ρ, A, hbio, I, z, S⟩ := z
  refine ⟨b.s, _, envB ρ, _, _, I.eB, z, fun R1 H1 t v S1 e q1 => ?_, S.kxB I⟩
  obtain ⟨hpure, q1⟩ := q1
  split at q1
  · rename_i ds ed
    refine ⟨ds, ed, fun p ep => ?_⟩
    subst ep
    have I1 := I.stepB I.subB e.st
    obtain ⟨a1, a2⟩ := I.apart e
    have I2 := I1.extS (S := S1) e.val.there (fun a ha => by
      refine ⟨?_, (a1 a ha).2, (a1 a ha).1⟩
      cases z : R a with
      | none => rfl
      | some o =>
        have := e.st.sub a o (I.subB a o z)
        rw [(e.fresh a ha).2] at this
        cases this) fun j t' hj a ha => a2 j t' hj a ha
    have sub : Sub R (frz R H1 S1) := fun a o h => by
      by_cases q : a ∈ S1
      · have := e.st.sub a o (I.subB a o h)
        rw [(e.fresh a q).2] at this
        cases this
      · rw [frz_out q]; exact h
    have hv : Val X.K b.s (frz R H1 S1) t.er (.ref p) := (e.val.any (R' := R) hpure).freeze sub fun a ha => frz_in ha
    rw [ed] at hv
    simp only [Val] at hv
    obtain ⟨p', vs, ep, hp', hvs⟩ := hv
    cases ep
    obtain ⟨G, Y, wk, hG, hY⟩ := walkD_list hp' hvs
    have S1' := S.rebase I2
    refine for_it wk (fun i σ' H' => ∃ R' Sf' ρ', SInv X.K { b with R0 := frz R H1 S1 } R' Sf' σ' H' ρ' ∧ forGo g rb A (ds.drop i) ρ') ?_ ?_ ?_ ?_
    · exact ⟨_, Sf, ρ, I2.rebase, q1⟩
    · rintro i σ' H' hi ⟨R', Sf', ρ', I', _⟩
      exact hG H' (I'.sub.trans I'.inH)
    · rintro i x σ' Hi H' hi ⟨R', Sf', ρ', I', q⟩ y
      have hd : ds[i]? = some ds[i] := List.getElem?_eq_getElem hi
      rw [List.drop_eq_getElem_cons hi] at q
      generalize ds[i] = d at hd q
      obtain ⟨Rx, st2, hv⟩ := hY i x Hi H' R' d hd I'.sub (Step.stay I'.inH I'.so I'.sR) y
      unfold forGo at q
      split at q
      · rename_i bs hbs
        have I3 := I'.stepF st2
        refine ⟨b.s, Rx, d, bs, st2.inH, hv, hbs, fun us hus => ?_⟩
        obtain ⟨Sf2, I4⟩ := I3.setAll (fun p hp => by
          show p.1 ∉ b.ioA.map (·.1)
          rw [hbio]
          refine hio _ ?_
          rw [← Tg.bind_slots hbs]
          exact List.mem_map_of_mem hp) hus
        refine ⟨{ b with R0 := frz R H1 S1 }, Rx, Sf2, _, _, hbio, I4, q, ⟨?_, S1'.nx, ?_, S1'.rt, S1'.ex⟩⟩
        · intro R3 Sf3 σ3 H3 ρ3 J3 q3
          exact ⟨R3, Sf3, ρ3, J3, q3⟩
        · intro R3 Sf3 σ3 H3 ρ3 J3 q3
          exact ⟨R3, Sf3, ρ3, J3, q3⟩
      · exact q.elim
    · rintro σ' H' ⟨R', Sf', ρ', I', q⟩
      rw [List.drop_length] at q
      exact S1'.nx R' Sf' σ' H' ρ' I' q
  · exact q1.elim
end
/-! ### a comprehension's block -/
def blkB (N : List Str) (sc scope : Scope) (own : List (Str × Nat)) : Bool := scope.kind == .function && (scope.names.all fun y => scope.names.lookup y.1 == some y.2) && (own.all fun p => N[p.2]? == some p.1) &&
  (scope.names.all fun y => !(y.2 == .free) || (sc.names.lookup y.1 == some .cell || sc.names.lookup y.1 == some .free)) &&
  scope.names.all fun y => !(y.2 == .local || y.2 == .cell) || ((own.map (·.1)).contains y.1 || !N.contains y.1)
theorem blk_of {N : List Str} {sc scope : Scope} {own : List (Str × Nat)} (h : blkB N sc scope own = true) : BlkOk N sc scope own := by
  simp only [blkB, Bool.and_eq_true, List.all_eq_true, beq_iff_eq, Bool.or_eq_true, Bool.not_eq_true', List.contains_iff_mem] at h
  obtain ⟨⟨⟨⟨h1, h2⟩, h3⟩, h4⟩, h5⟩ := h
  refine ⟨h1, fun y hy => h2 y hy, fun p hp => h3 p hp, fun y hy e => ?_, fun y hy e => ?_⟩
  · rcases h4 y hy with z | z
    · rw [e] at z; simp at z
    · exact z
  · rcases h5 y hy with z | z
    · rcases e with e | e <;> (rw [e] at z; simp at z)
    · rcases z with z | z
      · exact .inl z
      · exact .inr (by simpa using z)
/-! ### what the top says -/
/-- the getter of a property -/
def gAd (K : PySem.W.Frag) (C f : Str) : Addr := match PySem.W.findIn K (.ref (He.ga K C)) f with
  | some (some (.ref p)) => (match PySem.W.recIn K p "property" with
    | some (.ref g :: _) => g
    | _ => 0)
  | _ => 0
def fnWA (K : PySem.W.Frag) (a : Addr) : He.FnW := match K.lookup a with
  | some ⟨_, _, .func fd, _⟩ => some (fd.name, fd.qualname, fd.params, fd.body, fd.scope, fd.globals, fd.closure, fd.builtins)
  | _ => none
structure DefP where
  C : Str
  f : Str
  qual : Str
  params : Arguments
  body : List Stmt
  scope : Scope
def DefP.val (d : DefP) : He.FnW := some (d.f, d.qual, d.params, .stmts d.body, d.scope, mainGlobals, [], builtinsNs)
def DefP.ok (K : PySem.W.Frag) (d : DefP) : Bool := (match PySem.W.findIn K (.ref (He.ga K d.C)) d.f with
  | some (some (.ref p)) => decide (PySem.W.specialIn K (.ref p) "__get__" = some (some (.builtin "property.__get__"))) && decide (PySem.W.takesIn K (.ref p) = some true) && (match PySem.W.recIn K p "property" with
    | some (.ref _ :: _) => true
    | _ => false)
  | _ => false) && PySem.W.keepIn K (.ref (gAd K d.C d.f)) && (match K.lookup (gAd K d.C d.f) with
  | some ⟨_, _, .func fd, _⟩ => PySem.W.codeIn K fd.code d.qual && (He.dflB K fd.defaults [] && He.kwdB K fd.kwdefaults [])
  | _ => false)
theorem DefP.prop {K : PySem.W.Frag} {d : DefP} (h : d.ok K = true) : ∃ p, PropOf K (He.ga K d.C) d.f p (gAd K d.C d.f) := by
  have h1 := (He.ba (He.ba (show ((_ && _) && _) = true from h)).1).1
  unfold gAd
  cases hp : PySem.W.findIn K (.ref (He.ga K d.C)) d.f with
  | none => rw [hp] at h1; cases h1
  | some o =>
    cases o with
    | none => rw [hp] at h1; cases h1
    | some v =>
      cases v with
      | ref p =>
        rw [hp] at h1
        obtain ⟨h2, h3⟩ := He.ba h1
        obtain ⟨h4, h5⟩ := He.ba h2
        dsimp only
        cases hr : PySem.W.recIn K p "property" with
        | none => rw [hr] at h3; cases h3
        | some l =>
          cases l with
          | nil => rw [hr] at h3; cases h3
          | cons g rest =>
            cases g with
            | ref g => exact ⟨p, hp, of_decide_eq_true h4, of_decide_eq_true h5, rest, hr⟩
            | _ => rw [hr] at h3; cases h3
      | _ => rw [hp] at h1; cases h1
theorem DefP.funD {K : PySem.W.Frag} {d : DefP} (e : fnWA K (gAd K d.C d.f) = d.val) (h : d.ok K = true) : ∃ fd, FunD K d.f d.qual d.params d.body d.scope [] [] (gAd K d.C d.f) fd := by
  obtain ⟨h0, c2⟩ := He.ba (show ((_ && _) && _) = true from h)
  have kp := (He.ba h0).2
  unfold fnWA at e
  cases q : K.lookup (gAd K d.C d.f) with
  | none =>
    rw [q] at c2
    cases c2
  | some o =>
    obtain ⟨oc, od, dt, osl⟩ := o
    rw [q] at c2 e
    cases dt with
    | func fd =>
      obtain ⟨n1, n2, n3, n4, n5, n6, n7, n8, n9, n10, n11, n12, n13, n14, n15⟩ := fd
      have e2 : (some (n1, n2, n3, n4, n5, n6, n7, n15) : He.FnW) = some (d.f, d.qual, d.params, .stmts d.body, d.scope, mainGlobals, [], builtinsNs) := e
      simp only [Option.some.injEq, Prod.mk.injEq] at e2
      obtain ⟨h1, h2, h3, h4, h5, h6, h7, h8⟩ := e2
      subst h1 h2 h3 h4 h5 h6 h7 h8
      have c3 : (PySem.W.codeIn K n13 d.qual && (He.dflB K n8 [] && He.kwdB K n9 [])) = true := c2
      obtain ⟨k1, k2⟩ := He.ba c3
      obtain ⟨k3, k4⟩ := He.ba k2
      exact ⟨_, ⟨oc, od, n8, n9, n10, n11, n12, n13, n14, osl, rfl, q, k1, He.dflB_ok k3, He.kwdB_ok k4⟩, kp⟩
    | _ => cases c2
/-- what an own exception class with an __init__ must say -/
def oexB (K : PySem.W.Frag) (C : Addr) : Bool := (match K.lookup C with
  | some ⟨.type "type", _, .cls cd, sl⟩ => (match cd.mro, sl.toList with
    | .ref C' :: bm, [_, _, _, _, some (.builtin n), _] => C' == C && n == "ValueError.__new__" && !cd.hasDel && cd.hasDict && PySem.HandSPX.refsVE bm
    | _, _ => false)
  | _ => false) && decide (PySem.W.findIn K (.ref C) "__setattr__" = some (some (.builtin "object.__setattr__"))) && decide (PySem.W.subIn K (.ref C) (.type "BaseException") = some true) && decide (PySem.W.typeIn K (.ref C) = some (.type "type")) && PySem.W.keepIn K (.ref C)
theorem oexB_ok {K : PySem.W.Frag} {C : Addr} (h : oexB K C = true) : OexC K C := by
  obtain ⟨h, h5⟩ := He.ba h
  obtain ⟨h, h4⟩ := He.ba h
  obtain ⟨h, h3⟩ := He.ba h
  obtain ⟨h, h2⟩ := He.ba h
  refine ⟨?_, of_decide_eq_true h2, of_decide_eq_true h3, of_decide_eq_true h4, h5⟩
  split at h
  · rename_i dd cd sl ho
    split at h
    · rename_i C' bm k0 k1 k2 k3 n k5 hm hs
      simp only [Bool.and_eq_true, beq_iff_eq, Bool.not_eq_true'] at h
      obtain ⟨⟨⟨⟨rfl, rfl⟩, hdel⟩, hdd⟩, hr⟩ := h
      obtain ⟨nm, bs, mro, ns, qn, hd, sn, sub, ab, col, del⟩ := cd
      dsimp only at hm hdel hdd
      subst hm hdel hdd
      have hsl : sl = #[k0, k1, k2, k3, some (.builtin "ValueError.__new__"), k5] := by
        obtain ⟨l⟩ := sl
        simp only at hs
        rw [hs]
      subst hsl
      exact ⟨nm, qn, ns, bs, bm, sn, sub, ab, col, dd, k0, k1, k2, k3, k5, ho, hr⟩
    · cases h
  · cases h
def excB (K : PySem.W.Frag) (D : Addr) : Bool := decide (PySem.W.findIn K (.ref D) "__getattribute__" = some (some (.builtin "BaseException.__getattribute__"))) && decide (PySem.W.findIn K (.ref D) "__getattr__" = some none) && decide (PySem.W.subIn K (.ref D) (.type "BaseException") = some true) && PySem.W.hasDictIn K D &&
  decide (PySem.W.findIn K (.ref D) "__class__" = some (some (.builtin "object.__class__"))) && decide (PySem.W.specialIn K (.builtin "object.__class__") "__get__" = some (some (.builtin "getset_descriptor.__get__"))) && decide (PySem.W.takesIn K (.builtin "object.__class__") = some true) && decide (PySem.W.mroIn K D (.type "object") = some true)
theorem excB_ok {K : PySem.W.Frag} {D : Addr} (h : excB K D = true) : ExcC K D := by
  obtain ⟨h, h8⟩ := He.ba h
  obtain ⟨h, h7⟩ := He.ba h
  obtain ⟨h, h6⟩ := He.ba h
  obtain ⟨h, h5⟩ := He.ba h
  obtain ⟨h, h4⟩ := He.ba h
  obtain ⟨h, h3⟩ := He.ba h
  obtain ⟨h1, h2⟩ := He.ba h
  exact ⟨of_decide_eq_true h1, of_decide_eq_true h2, of_decide_eq_true h3, h4, of_decide_eq_true h5, of_decide_eq_true h6, of_decide_eq_true h7, of_decide_eq_true h8⟩
abbrev AlP : Type := He.AlD × Bool × List He.FnW
def obsP (fa : List He.Fa) (fn : List He.DefD) (ps : List DefP) (ex : PySem.W.Frag → Bool) (K : PySem.W.Frag) : AlP := (He.obsD fa fn K, ex K && ps.all fun d => d.ok K, ps.map fun d => fnWA K (gAd K d.C d.f))
def valP (fn : List He.DefD) (ps : List DefP) : AlP := (He.valD fn, true, ps.map DefP.val)
def SaysP (fa : List He.Fa) (fn : List He.DefD) (ps : List DefP) (ex : PySem.W.Frag → Bool) (K : PySem.W.Frag) : Prop := obsP fa fn ps ex K = valP fn ps
def obsPG (n : Nat) (fa : List He.Fa) (fn : List He.DefD) (ps : List DefP) (ex : PySem.W.Frag → Bool) (g : Addr → Option Obj) : AlP := obsP fa fn ps ex (He.frG g (He.asD g n))
def hookP (n : Nat) (fa : List He.Fa) (fn : List He.DefD) (ps : List DefP) (ex : PySem.W.Frag → Bool) : PySem.W.Hook where
  α := AlP
  obs := fun s => obsPG n fa fn ps ex s.heap.get?
  val := fun _ => valP fn ps
  says := fun _ h => ∃ K : PySem.W.Frag, K.In h ∧ SaysP fa fn ps ex K
  of := fun _ _ e => ⟨_, He.frG_in, e⟩
  keeps := fun _ _ _ ⟨K, hK, c⟩ k => ⟨K, PySem.W.Frag.In.keeps hK k, c⟩
theorem obsPG_eq {n : Nat} {fa : List He.Fa} {fn : List He.DefD} {ps : List DefP} {ex : PySem.W.Frag → Bool} {g : Addr → Option Obj} {s : Shared} (h : ∀ a, g a = s.heap.get? a) : obsPG n fa fn ps ex g = (hookP n fa fn ps ex).obs s := by
  have e : g = s.heap.get? := funext h
  rw [e] <;> rfl
section
variable {fa : List He.Fa} {fn : List He.DefD} {ps : List DefP} {ex : PySem.W.Frag → Bool} {K : PySem.W.Frag}
theorem SaysP.d (c : SaysP fa fn ps ex K) : He.SaysD fa fn K := congrArg (fun z : AlP => z.1) c
theorem SaysP.more (c : SaysP fa fn ps ex K) : ex K = true := (He.ba (show (ex K && ps.all fun d => d.ok K) = true from congrArg (fun z : AlP => z.2.1) c)).1
theorem SaysP.prop (c : SaysP fa fn ps ex K) (i : Nat) {d : DefP} (h : ps[i]? = some d := by rfl) : (∃ p, PropOf K (He.ga K d.C) d.f p (gAd K d.C d.f)) ∧ ∃ fd, FunD K d.f d.qual d.params d.body d.scope [] [] (gAd K d.C d.f) fd := by
  have c1 := (He.ba (show (ex K && ps.all fun d => d.ok K) = true from congrArg (fun z : AlP => z.2.1) c)).2
  have ok := List.all_eq_true.mp c1 d (List.mem_of_getElem? h)
  have e : ps.map (fun d => fnWA K (gAd K d.C d.f)) = ps.map DefP.val := congrArg (fun z : AlP => z.2.2) c
  have e2 : (ps.map fun d => fnWA K (gAd K d.C d.f))[i]? = (ps.map DefP.val)[i]? := by rw [e]
  rw [List.getElem?_map, List.getElem?_map, h] at e2
  exact ⟨DefP.prop ok, DefP.funD (Option.some.inj e2) ok⟩
end
/-! ### loops -/
theorem forGo_ind {g : Tg} {body : RS} {A : AEnds} (P : List D → AS → Prop) (h0 : ∀ ρ, P [] ρ → A.nx ρ)
    (h1 : ∀ d ds ρ, P (d :: ds) ρ → (∀ ρ', P ds ρ' → forGo g body A ds ρ') → ∃ bs, g.bind d = some bs ∧ body { nx := forGo g body A ds, rt := A.rt, ex := A.ex, bk := A.nx, ct := forGo g body A ds } (setAll ρ (bs.map fun p => (p.1, .fz p.2)))) :
    ∀ ds ρ, P ds ρ → forGo g body A ds ρ
  | [], ρ, h => h0 ρ h
  | d :: ds, ρ, h => by
    obtain ⟨bs, e, q⟩ := h1 d ds ρ h (forGo_ind P h0 h1 ds)
    unfold forGo
    rw [e]
    exact q
theorem lcGo_ind {g : Tg} {tt : RT} {te : RE} {ρ : En} {AQ : TQ} (P : List D → List T → Prop) (h0 : ∀ acc, P [] acc → AQ (.lst acc))
    (h1 : ∀ d ds acc, P (d :: ds) acc → (∀ acc', P ds acc' → lcGo g tt te ρ AQ ds acc') → ∃ bs, g.bind d = some bs ∧ tt (setAll ρ bs) (fun b => if b = true then te (setAll ρ bs) (fun t => acc.length < 16777216 ∧ lcGo g tt te ρ AQ ds (acc ++ [t])) (fun _ => False) else lcGo g tt te ρ AQ ds acc) (fun _ => False)) :
    ∀ ds acc, P ds acc → lcGo g tt te ρ AQ ds acc
  | [], acc, h => h0 acc h
  | d :: ds, acc, h => by
    obtain ⟨bs, e, q⟩ := h1 d ds acc h (lcGo_ind P h0 h1 ds)
    unfold lcGo
    rw [e]
    exact q
end AL

set_option Elab.async false
set_option linter.all false
set_option maxRecDepth 100000
set_option maxHeartbeats 4000000
/-! AL19: the readings as plain statements -/
namespace AL
open PySem PySem.Spec PyProof.Rows L2
/-- a bool is handed on -/
def kB (BQ : Bool → Prop) : TQ := fun t => ∃ k, t = .fz (.bl k) ∧ BQ k
@[simp] theorem kB_fz {BQ : Bool → Prop} {k : Bool} : kB BQ (.fz (.bl k)) = BQ k := propext ⟨fun ⟨k', e, q⟩ => by cases e; exact q, fun q => ⟨k, rfl, q⟩⟩
/-- one of two ways -/
def kI (p q : Prop) : Bool → Prop := fun k => if k = true then p else q
@[simp] theorem kI_t {p q : Prop} : kI p q true = p := rfl
@[simp] theorem kI_f {p q : Prop} : kI p q false = q := rfl
theorem kI_yes {p q : Prop} {c : Prop} [Decidable c] (h : c) : kI p q (decide c) = p := by rw [decide_eq_true h]; rfl
theorem kI_no {p q : Prop} {c : Prop} [Decidable c] (h : ¬ c) : kI p q (decide c) = q := by rw [decide_eq_false h]; rfl
def oF : Option T → Option D
  | some (.fz d) => some d
  | _ => none
def oB : Option T → Option D
  | some t => some t.er
  | none => none
@[simp] theorem oF_fz {d : D} : oF (some (.fz d)) = some d := rfl
@[simp] theorem oF_none : oF none = none := rfl
@[simp] theorem oF_l {ts : List T} : oF (some (.lst ts)) = none := rfl
@[simp] theorem oF_t {ts : List T} : oF (some (.tup ts)) = none := rfl
@[simp] theorem oF_i {C : Str} {ns : List Str} {ts : List T} : oF (some (.ins C ns ts)) = none := rfl
@[simp] theorem oB_s {t : T} : oB (some t) = some t.er := rfl
@[simp] theorem oB_n : oB none = none := rfl
/-- a list's items are handed on -/
def onL (d : D) (f : List D → Prop) : Prop := match d with
  | .lst ds => f ds
  | _ => False
section
variable {A : AEnds} {ρ : AS} {a c : RS} {r r' ri : RE} {t t' : RT} {ra : RA} {i j : Nat} {AQ : TQ} {AX : XQ} {e : En} {BQ : Bool → Prop} {LQ : List T → Prop}
@[simp] theorem s_seq : aSeq a c A ρ = a { A with nx := c A } ρ := rfl
@[simp] theorem s_next : aNext A ρ = A.nx ρ := rfl
@[simp] theorem s_brk : aBrk A ρ = A.bk ρ := rfl
@[simp] theorem s_cnt : aCnt A ρ = A.ct ρ := rfl
@[simp] theorem s_set : aSet i r A ρ = r (envF ρ) (fun t => A.nx (ρ.set i (some t))) (fun x => A.ex x ρ) := rfl
@[simp] theorem s_setZ : aSetZ i r A ρ = r (envF ρ) (fun t => A.nx (ρ.set i (some (.fz t.er)))) (fun x => A.ex x ρ) := rfl
@[simp] theorem s_setB : aSetB i r A ρ = r (envB ρ) (fun t => t.pure = true ∧ A.nx (ρ.set i (some t))) (fun x => A.ex x ρ) := rfl
@[simp] theorem s_exp : aExp r A ρ = r (envB ρ) (fun _ => A.nx ρ) (fun x => A.ex x ρ) := rfl
@[simp] theorem s_ret : aRet r A ρ = r (envF ρ) (fun t => A.rt t ρ) (fun x => A.ex x ρ) := rfl
@[simp] theorem s_retB : aRetB r A ρ = r (envB ρ) (fun t => t.pure = true ∧ A.rt t ρ) (fun x => A.ex x ρ) := rfl
@[simp] theorem s_retN : aRetN A ρ = A.rt (.fz .non) ρ := rfl
@[simp] theorem s_if : aIf t a c A ρ = t (envB ρ) (kI (a A ρ) (c A ρ)) (fun x => A.ex x ρ) := rfl
@[simp] theorem s_drop : aDrop i a A ρ = a A (ρ.set i none) := rfl
theorem s_for {ri : RI} {g : Tg} : aFor ri g a A ρ = ri (envF ρ) (fun ds => forGo g a A ds ρ) (fun x => A.ex x ρ) := rfl
theorem s_forB {ri : RI} {g : Tg} : aForB ri g a A ρ = ri (envB ρ) (fun ds => forGo g a A ds ρ) (fun x => A.ex x ρ) := rfl
@[simp] theorem s_raise0 {x : Str} : aRaise0 x A ρ = A.ex ⟨x, []⟩ ρ := rfl
@[simp] theorem s_rD {d : D} : rD d e AQ AX = AQ (.fz d) := rfl
@[simp] theorem s_r1 {f : D → TQ → Prop} : r1 f r e AQ AX = r e (fun t => f t.er AQ) AX := rfl
@[simp] theorem s_r2 {f : D → D → TQ → Prop} : r2 f r r' e AQ AX = r e (fun t => r' e (fun u => f t.er u.er AQ) AX) AX := rfl
@[simp] theorem s_rN {f : List D → TQ → Prop} : rN f ra e AQ AX = ra e (fun ts => f (T.ers ts) AQ) AX := rfl
@[simp] theorem s_rNil : rNil e LQ AX = LQ [] := rfl
@[simp] theorem s_rCons : rCons r ra e LQ AX = r e (fun t => ra e (fun ts => LQ (t :: ts)) AX) AX := rfl
@[simp] theorem s_rLst : rLst ra e AQ AX = ra e (fun ts => ts.length ≤ 16777216 ∧ AQ (.lst ts)) AX := rfl
@[simp] theorem s_rTup : rTupD ra e AQ AX = ra e (fun ts => ts.length ≤ 16777216 ∧ AQ (.tup ts)) AX := rfl
@[simp] theorem s_rTB : rTB r e BQ AX = r e (kB BQ) AX := rfl
@[simp] theorem s_rNotT : rNotT t e BQ AX = t e (fun b => BQ (!b)) AX := rfl
@[simp] theorem s_rAnd : rAnd t t' e BQ AX = t e (kI (t' e BQ AX) (BQ false)) AX := rfl
@[simp] theorem s_rOr : rOr t t' e BQ AX = t e (kI (BQ true) (t' e BQ AX)) AX := rfl
@[simp] theorem s_rAndV : rAndV r r' e AQ AX = r e (kB (kI (r' e AQ AX) (AQ (.fz (.bl false))))) AX := rfl
@[simp] theorem s_rOrV : rOrV r r' e AQ AX = r e (kB (kI (AQ (.fz (.bl true))) (r' e AQ AX))) AX := rfl
@[simp] theorem s_rNotV : rNotV r e AQ AX = r e (kB fun k => AQ (.fz (.bl (!k)))) AX := rfl
@[simp] theorem s_rIf : rIf t r r' e AQ AX = t e (kI (r e AQ AX) (r' e AQ AX)) AX := rfl
@[simp] theorem s_rIsNon {n : Bool} : rIsNon n r e AQ AX = r e (fun t => AQ (.fz (.bl (if n then !t.er.isNon else t.er.isNon)))) AX := rfl
@[simp] theorem s_rYes : rYes e BQ AX = BQ true := rfl
@[simp] theorem s_rCall {f : FS} {dd : List D} : rCall f dd ra e AQ AX = ra e (fun ts => f (T.ers ts ++ dd) AQ AX) AX := rfl
@[simp] theorem s_rOrL : rOrL r r' e AQ AX = r e (fun t => D.tru t.er (kI (AQ t) (r' e AQ AX))) AX := rfl
@[simp] theorem s_rLc {ri : RI} {g : Tg} {vs : List Nat} : rLc ri g t r vs e AQ AX = ri e (fun ds => lcGo g t r (wp e vs) AQ ds []) AX := rfl
@[simp] theorem s_rIN {g : List D → (List D → Prop) → Prop} {DQ : List D → Prop} : rIN g ra e DQ AX = ra e (fun ts => g (T.ers ts) DQ) AX := rfl
@[simp] theorem s_rMake {f : FS} : rMake f ra e AQ AX = ra e (fun ts => f (T.ers ts) AQ (fun _ => False)) AX := rfl
@[simp] theorem s_rProp {C : Str} {f : FS} : rProp C f r e AQ AX = r e (fun t => D.isObj C t.er ∧ f [t.er] AQ (fun _ => False)) AX := rfl
@[simp] theorem s_rLstRg {f : En → (Int → Int → Prop) → XQ → Prop} : rLstRg f e AQ AX = f e (fun i j => RgOk i j ∧ AQ (.lst (((rgI i j).map D.int).map .fz))) AX := rfl
@[simp] theorem s_fs1 {f : D → TQ → XQ → Prop} {x : D} : fs1 f [x] AQ AX = f x AQ AX := rfl
@[simp] theorem s_fs2 {f : D → D → TQ → XQ → Prop} {x y : D} : fs2 f [x, y] AQ AX = f x y AQ AX := rfl
@[simp] theorem s_fs3 {f : D → D → D → TQ → XQ → Prop} {x y z : D} : fs3 f [x, y, z] AQ AX = f x y z AQ AX := rfl
@[simp] theorem s_fs4 {f : D → D → D → D → TQ → XQ → Prop} {x y z w : D} : fs4 f [x, y, z, w] AQ AX = f x y z w AQ AX := rfl
@[simp] theorem s_fs5 {f : D → D → D → D → D → TQ → XQ → Prop} {x y z w v : D} : fs5 f [x, y, z, w, v] AQ AX = f x y z w v AQ AX := rfl
@[simp] theorem s_fs6 {f : D → D → D → D → D → D → TQ → XQ → Prop} {x y z w v u : D} : fs6 f [x, y, z, w, v, u] AQ AX = f x y z w v u AQ AX := rfl
theorem s_var {d : D} (h : e[i]? = some (some d)) : rV i e AQ AX = AQ (.fz d) := by unfold rV; rw [h]
/-- a variable, by the slots' list -/
@[simp] theorem s_rV : rV i e AQ AX = match e[i]? with
  | some (some d) => AQ (.fz d)
  | _ => False := rfl
@[simp] theorem s_frz : aFrz i a A ρ = match ρ[i]? with
  | some (some t) => a A (ρ.set i (some (.fz t.er)))
  | _ => False := rfl
@[simp] theorem s_retV : aRetV i A ρ = match ρ[i]? with
  | some (some t) => A.rt t (ρ.set i none)
  | _ => False := rfl
theorem s_app : aApp i r A ρ = match ρ[i]? with
  | some (some (.lst ts)) => ts.length < 16777216 ∧ r (envB ρ) (fun t => t.pure = true ∧ A.nx (ρ.set i (some (.lst (ts ++ [t]))))) (fun x => A.ex x ρ)
  | _ => False := rfl
theorem s_appF : aAppF i r A ρ = match ρ[i]? with
  | some (some (.lst ts)) => ts.length < 16777216 ∧ r (envF ρ) (fun t => A.nx (ρ.set i (some (.lst (ts ++ [t]))))) (fun x => A.ex x ρ)
  | _ => False := rfl
theorem s_setIx : aSetIx i r ri A ρ = r (envB ρ) (fun t => t.er.scal = true ∧ match ρ[i]? with
  | some (some (.lst ts)) => ri (envB ρ) (fun u => match u.er with
    | .int k => (match ixN ts.length k with
      | some j => A.nx (ρ.set i (some (.lst (ts.set j (.fz t.er)))))
      | none => False)
    | _ => False) (fun x => A.ex x ρ)
  | _ => False) (fun x => A.ex x ρ) := rfl
@[simp] theorem s_setT {g : Tg} : aSetT g r A ρ = r (envF ρ) (fun t => match g.bind t.er with
  | some bs => A.nx (setAll ρ (bs.map fun p => (p.1, .fz p.2)))
  | none => False) (fun x => A.ex x ρ) := rfl
theorem s_fld {C f : Str} : aFld C f i r A ρ = r (envF ρ) (fun t => match ρ[i]? with
  | some (some (.ins C' ns ts)) => C' = C ∧ f ∉ ns ∧ ns.length = ts.length ∧ ns.length < 1000 ∧ A.nx (ρ.set i (some (.ins C (ns ++ [f]) (ts ++ [t]))))
  | _ => False) (fun x => A.ex x ρ) := rfl
@[simp] theorem s_raise1 {x fl : Str} : aRaise1 x fl r A ρ = r (envB ρ) (fun t => match t.er.sv with
  | some y => A.ex ⟨x, [(fl, y)]⟩ ρ
  | none => False) (fun x => A.ex x ρ) := rfl
@[simp] theorem s_try {ns : List Str} {rsu : Addr → Str → Option Addr → RS} : aTry i ns a rsu A ρ = a { A with ex := fun x ρ' => x.name ∈ ns ∧ ∀ p d, (x.fs = [] ∨ d ≠ none) → rsu p x.name d { A with nx := fun ρ2 => A.nx (ρ2.set i none), bk := fun ρ2 => A.bk (ρ2.set i none), ct := fun ρ2 => A.ct (ρ2.set i none), ex := fun _ _ => False } (ρ'.set i (some (.fz (.exn p d x.fs)))) } ρ := rfl
@[simp] theorem s_rFld {C f : Str} : rFld C f r e AQ AX = r e (fun t => match t.er with
  | .obj C' ns ds => C' = C ∧ (match ixOf f ns with
    | some i => (match ds[i]? with
      | some d => AQ (.fz d)
      | none => False)
    | none => False)
  | _ => False) AX := rfl
@[simp] theorem s_rPn {OQ : Option Int → Prop} : rPn e OQ AX = OQ none := rfl
@[simp] theorem s_rPs {OQ : Option Int → Prop} : rPs r e OQ AX = r e (fun t => match t.er with
  | .int i => OQ (some i)
  | _ => False) AX := rfl
@[simp] theorem s_rSl {lo hi : En → (Option Int → Prop) → XQ → Prop} : rSl r lo hi e AQ AX = r e (fun t => lo e (fun l => hi e (fun h => onL t.er fun ds => AQ (.lst ((cut ds l h).map .fz))) AX) AX) AX := rfl
@[simp] theorem onL_lst {ds : List D} {f : List D → Prop} : onL (.lst ds) f = f ds := rfl
@[simp] theorem s_rIList {DQ : List D → Prop} : rIList r e DQ AX = r e (fun t => match t.er with
  | .lst ds => DQ ds
  | .scr _ ns => DQ (ns.map .int)
  | _ => False) AX := rfl
@[simp] theorem s_rRg1 {IQ : Int → Int → Prop} : rRg1 r e IQ AX = r e (fun t => match t.er with
  | .int n => IQ 0 n
  | _ => False) AX := rfl
@[simp] theorem s_rRg2 {IQ : Int → Int → Prop} : rRg2 r r' e IQ AX = r e (fun t => r' e (fun u => match t.er, u.er with
  | .int m, .int n => IQ m n
  | _, _ => False) AX) AX := rfl
@[simp] theorem s_rIs {cs : List String} : rIs cs r e AQ AX = r e (fun t => match t.er.tyn with
  | some tn => AQ (.fz (.bl (isTys tn cs)))
  | none => False) AX := rfl
@[simp] theorem s_rIsX1 {p : Addr} {nm : Str} {d : Option Addr} {ns : List Str} {ans : Str → Bool} : rIsX1 p nm d ns ans r e AQ AX = (nm ∈ ns ∧ r e (fun t => (∃ fs, t.er = .exn p d fs) ∧ AQ (.fz (.bl (ans nm)))) AX) := rfl
@[simp] theorem s_rXf {p : Addr} {nm f : Str} {d : Option Addr} {ns : List Str} : rXf p nm d ns f r e AQ AX = (nm ∈ ns ∧ r e (fun t => ∃ fs i, t.er = .exn p d fs ∧ d ≠ none ∧ fs.lookup f = some (.int i) ∧ AQ (.fz (.int i))) AX) := rfl
@[simp] theorem s_rCallE {p : Addr} {nm : Str} {d : Option Addr} {f : FX} : rCallE p nm d f r e AQ AX = r e (fun t => ∃ fs, t.er = .exn p d fs ∧ (fs = [] ∨ d ≠ none) ∧ f ⟨nm, fs⟩ AQ) AX := rfl
theorem s_io2 {f : FIO} : aIO2 i j f ra A ρ = match ρ[i]?, ρ[j]? with
  | some (some (.lst t1)), some (some (.lst t2)) => ra (envF ρ) (fun ts => f [.lst t1, .lst t2] (T.ers ts) fun ts' _ => match ts' with
    | [t', u'] => A.nx ((ρ.set i (some t')).set j (some u'))
    | _ => False) (fun x => A.ex x ρ)
  | _, _ => False := rfl
/-! operations -/
@[simp] theorem s_add {x y : Int} : fAdd (.int x) (.int y) AQ = AQ (.fz (.int (x + y))) := rfl
@[simp] theorem s_cat {x y : List D} : fAdd (.lst x) (.lst y) AQ = (x.length + y.length ≤ 16777216 ∧ AQ (.lst ((x ++ y).map .fz))) := rfl
@[simp] theorem s_sub {x y : Int} : fSub (.int x) (.int y) AQ = AQ (.fz (.int (x - y))) := rfl
@[simp] theorem s_mul {x y : Int} : fMul (.int x) (.int y) AQ = (CMul x y ∧ AQ (.fz (.int (x * y)))) := rfl
@[simp] theorem s_rep {x : List D} {y : Int} : fMul (.lst x) (.int y) AQ = ((-(2 ^ 62) ≤ y ∧ y < 2 ^ 62 ∧ x.length * y.toNat ≤ 16777216) ∧ AQ (.lst ((rep x y).map .fz))) := rfl
@[simp] theorem s_div {x y : Int} : fDiv (.int x) (.int y) AQ = (CDiv x y ∧ AQ (.fz (.int (x / y)))) := rfl
@[simp] theorem s_mod {x y : Int} : fMod (.int x) (.int y) AQ = (0 < y ∧ AQ (.fz (.int (x % y)))) := rfl
theorem s_pow {x y : Int} : fPow (.int x) (.int y) AQ = (CPowW x y ∧ AQ (.fz (.int (x ^ y.toNat)))) := rfl
@[simp] theorem s_neg {x : Int} : fNeg (.int x) AQ = AQ (.fz (.int (-x))) := rfl
@[simp] theorem s_lt {x y : Int} : fLt (.int x) (.int y) AQ = AQ (.fz (.bl (decide (x < y)))) := rfl
@[simp] theorem s_le {x y : Int} : fLe (.int x) (.int y) AQ = AQ (.fz (.bl (decide (x ≤ y)))) := rfl
@[simp] theorem s_gt {x y : Int} : fGt (.int x) (.int y) AQ = AQ (.fz (.bl (decide (y < x)))) := rfl
@[simp] theorem s_ge {x y : Int} : fGe (.int x) (.int y) AQ = AQ (.fz (.bl (decide (y ≤ x)))) := rfl
@[simp] theorem s_eq {x y : Int} : fEq (.int x) (.int y) AQ = AQ (.fz (.bl (decide (x = y)))) := rfl
@[simp] theorem s_ne {x y : Int} : fNe (.int x) (.int y) AQ = AQ (.fz (.bl (!decide (x = y)))) := rfl
@[simp] theorem s_eqB {x y : Bool} : fEq (.bl x) (.bl y) AQ = AQ (.fz (.bl (decide (x = y)))) := rfl
@[simp] theorem s_eqS {x y : Str} : fEq (.str x) (.str y) AQ = AQ (.fz (.bl (decide (x = y)))) := rfl
@[simp] theorem s_in {n : Bool} {x : D} {y : List D} : fIn n x (.lst y) AQ = (x.flat = true ∧ y.all D.flat = true ∧ AQ (.fz (.bl (if n then !D.isin x y else D.isin x y)))) := rfl
@[simp] theorem s_len {x : List D} : fLen [.lst x] AQ = AQ (.fz (.int x.length)) := rfl
@[simp] theorem s_lenT {x : List D} : fLen [.tup x] AQ = AQ (.fz (.int x.length)) := rfl
@[simp] theorem s_lenC {b : Option Addr} {x : List Int} : fLen [.scr b x] AQ = AQ (.fz (.int x.length)) := rfl
@[simp] theorem s_abs {x : Int} : fAbs [.int x] AQ = AQ (.fz (.int (if x < 0 then -x else x))) := rfl
@[simp] theorem s_mm {f : Int → Int → Int} {x y : Int} : fMM f [.int x, .int y] AQ = AQ (.fz (.int (f x y))) := rfl
@[simp] theorem s_int {x : Int} : fInt [.int x] AQ = AQ (.fz (.int x)) := rfl
@[simp] theorem s_intB {x : Bool} : fInt [.bl x] AQ = AQ (.fz (.int (if x then 1 else 0))) := rfl
@[simp] theorem s_list {x : List D} : fList [.lst x] AQ = AQ (.lst (x.map .fz)) := rfl
@[simp] theorem s_listT {x : List D} : fList [.tup x] AQ = AQ (.lst (x.map .fz)) := rfl
@[simp] theorem s_listC {b : Option Addr} {x : List Int} : fList [.scr b x] AQ = AQ (.lst ((x.map D.int).map .fz)) := rfl
@[simp] theorem s_ints {g : List Int → TQ → Prop} {x : List Int} : fInts g [.lst (x.map .int)] AQ = g x AQ := by unfold fInts; dsimp only; rw [ints_map]
@[simp] theorem s_bls {g : List Bool → TQ → Prop} {x : List Bool} : fBls g [.lst (x.map .bl)] AQ = g x AQ := by unfold fBls; dsimp only; rw [bls_map]
@[simp] theorem s_sum {x : List Int} : gSum x AQ = AQ (.fz (.int x.sum)) := rfl
@[simp] theorem s_any {x : List Bool} : gAny x AQ = AQ (.fz (.bl (x.any id))) := rfl
@[simp] theorem s_all {x : List Bool} : gAll x AQ = AQ (.fz (.bl (x.all id))) := rfl
theorem s_ix {x : List D} {k : Int} {d : D} (h : atI x k = some d) : fIx (.lst x) (.int k) AQ = AQ (.fz d) := by unfold fIx; dsimp only; rw [h]
theorem s_ixT {x : List D} {k : Int} {d : D} (h : atI x k = some d) : fIx (.tup x) (.int k) AQ = AQ (.fz d) := by unfold fIx; dsimp only; rw [h]
@[simp] theorem s_ixT0 {x : D} {xs : List D} : fIx (.tup (x :: xs)) (.int 0) AQ = AQ (.fz x) := s_ixT (by simp [atI, ixN])
@[simp] theorem s_ixT1 {x y : D} {xs : List D} : fIx (.tup (x :: y :: xs)) (.int 1) AQ = AQ (.fz y) := s_ixT (by
  have h : (1 : Int) < (xs.length : Int) + 1 + 1 := by omega
  simp [atI, ixN, h])
@[simp] theorem s_ixT2 {x y z : D} {xs : List D} : fIx (.tup (x :: y :: z :: xs)) (.int 2) AQ = AQ (.fz z) := s_ixT (by
  have h : (2 : Int) < (xs.length : Int) + 1 + 1 + 1 := by omega
  simp [atI, ixN, h])
@[simp] theorem s_ixL0 {x : D} {xs : List D} : fIx (.lst (x :: xs)) (.int 0) AQ = AQ (.fz x) := s_ix (by simp [atI, ixN])
@[simp] theorem s_gR1 {n : Int} {DQ : List D → Prop} : gR1 [.int n] DQ = ((-(2 ^ 62) ≤ n ∧ n < 2 ^ 62) ∧ DQ (rngD 0 n.toNat)) := rfl
@[simp] theorem s_gR2 {m n : Int} {DQ : List D → Prop} : gR2 [.int m, .int n] DQ = ((-(2 ^ 62) ≤ m ∧ m < 2 ^ 62 ∧ -(2 ^ 62) ≤ n ∧ n < 2 ^ 62) ∧ DQ (rngD m (n - m).toNat)) := rfl
@[simp] theorem s_gR3 {m n c : Int} {DQ : List D → Prop} : gR3 [.int m, .int n, .int c] DQ = ∃ k, RgC m n c k ∧ DQ (rngC m c k) := rfl
@[simp] theorem s_gEnum {x : List D} {DQ : List D → Prop} : gEnum [.lst x] DQ = DQ (enumD x) := rfl
@[simp] theorem s_ers0 : T.ers [] = [] := rfl
@[simp] theorem s_ers {t : T} {ts : List T} : T.ers (t :: ts) = t.er :: T.ers ts := rfl
@[simp] theorem s_er {d : D} : (T.fz d).er = d := rfl
@[simp] theorem s_erT {ts : List T} : (T.tup ts).er = .tup (T.ers ts) := rfl
@[simp] theorem s_erI {C : Str} {ns : List Str} {ts : List T} : (T.ins C ns ts).er = .obj C ns (T.ers ts) := rfl
@[simp] theorem s_erL {ts : List T} : (T.lst ts).er = .lst (T.ers ts) := rfl
@[simp] theorem s_ersF {ds : List D} : T.ers (ds.map .fz) = ds := by rw [T.ers_map, List.map_map]; exact (List.map_congr_left fun _ _ => rfl).trans (List.map_id _)
@[simp] theorem s_sc1 {i : Int} : (D.int i).scal = true := rfl
@[simp] theorem s_sc2 {i : Bool} : (D.bl i).scal = true := rfl
@[simp] theorem s_sc3 {i : Str} : (D.str i).scal = true := rfl
@[simp] theorem s_sc4 : D.non.scal = true := rfl
@[simp] theorem s_flat {i : Int} : (D.int i).flat = true := rfl
@[simp] theorem s_pf {d : D} : (T.fz d).pure = d.scal := rfl
@[simp] theorem s_pl {ts : List T} : (T.lst ts).pure = T.pures ts := rfl
@[simp] theorem s_pt {ts : List T} : (T.tup ts).pure = T.pures ts := rfl
@[simp] theorem s_pi {C : Str} {ns : List Str} {ts : List T} : (T.ins C ns ts).pure = T.pures ts := rfl
@[simp] theorem s_ps0 : T.pures [] = true := rfl
@[simp] theorem s_ps {t : T} {ts : List T} : T.pures (t :: ts) = (t.pure && T.pures ts) := rfl
@[simp] theorem s_svI {i : Int} : (D.int i).sv = some (.int i) := rfl
@[simp] theorem s_isnon {i : Int} : (D.int i).isNon = false := rfl
@[simp] theorem s_isnon2 : D.non.isNon = true := rfl
@[simp] theorem s_bind {d : D} : Tg.bind (.nm i) d = some [(i, d)] := rfl
@[simp] theorem s_bindT {gs : List Tg} {ds : List D} : Tg.bind (.tp gs) (.tup ds) = Tg.binds gs ds := rfl
@[simp] theorem s_binds0 : Tg.binds [] [] = some [] := rfl
@[simp] theorem s_binds {g : Tg} {gs : List Tg} {d : D} {ds : List D} : Tg.binds (g :: gs) (d :: ds) = (Tg.bind g d).bind fun a => (Tg.binds gs ds).map fun b => a ++ b := rfl
@[simp] theorem s_setAll0 {α : Type} {l : List (Option α)} : setAll l [] = l := rfl
@[simp] theorem s_setAll {α : Type} {l : List (Option α)} {p : Nat × α} {ps : List (Nat × α)} : setAll l (p :: ps) = setAll (l.set p.1 (some p.2)) ps := rfl
@[simp] theorem s_wp0 : wp e [] = e := rfl
@[simp] theorem s_wp {vs : List Nat} : wp e (i :: vs) = (wp e vs).set i none := rfl
@[simp] theorem s_envF0 : envF [] = [] := rfl
@[simp] theorem s_envB0 : envB [] = [] := rfl
@[simp] theorem s_envF {x : Option T} {o : AS} : envF (x :: o) = oF x :: envF o := by
  cases x with
  | none => rfl
  | some t => cases t <;> rfl
@[simp] theorem s_envB {x : Option T} {o : AS} : envB (x :: o) = oB x :: envB o := by
  cases x <;> rfl
end
/-- a list of dI -/
def dI (xs : List Int) : D := .lst (xs.map .int)
def dII (xs : List (List Int)) : D := .lst (xs.map dI)
/-- .. owned -/
def tI (xs : List Int) : T := .lst ((xs.map .int).map .fz)
def tII (xs : List (List Int)) : T := .lst (xs.map tI)
@[simp] theorem tI_er {xs : List Int} : (tI xs).er = dI xs := by rw [tI, s_erL, s_ersF]; rfl
@[simp] theorem tII_er {xs : List (List Int)} : (tII xs).er = dII xs := by
  simp only [tII, dII, s_erL, T.ers_map, List.map_map]
  congr 1
  exact List.map_congr_left fun x _ => tI_er
theorem map_int_inj : ∀ {xs ys : List Int}, xs.map D.int = ys.map D.int → xs = ys
  | [], [], _ => rfl
  | [], _ :: _, h => by simp at h
  | _ :: _, [], h => by simp at h
  | x :: xs, y :: ys, h => by
    simp only [List.map_cons, List.cons.injEq, D.int.injEq] at h
    rw [h.1, map_int_inj h.2]
@[simp] theorem ints_inj {xs ys : List Int} : dI xs = dI ys ↔ xs = ys := ⟨fun h => by
  unfold dI at h
  exact map_int_inj (D.lst.inj h), fun h => by rw [h]⟩
theorem map_ints_inj : ∀ {xs ys : List (List Int)}, xs.map dI = ys.map dI → xs = ys
  | [], [], _ => rfl
  | [], _ :: _, h => by simp at h
  | _ :: _, [], h => by simp at h
  | x :: xs, y :: ys, h => by
    simp only [List.map_cons, List.cons.injEq, ints_inj] at h
    rw [h.1, map_ints_inj h.2]
@[simp] theorem intss_inj {xs ys : List (List Int)} : dII xs = dII ys ↔ xs = ys := ⟨fun h => by
  unfold dII at h
  exact map_ints_inj (D.lst.inj h), fun h => by rw [h]⟩
theorem pures_fz : ∀ {ds : List D}, (∀ d ∈ ds, d.scal = true) → T.pures (ds.map .fz) = true
  | [], _ => rfl
  | d :: ds, h => by
    simp only [List.map_cons, s_ps, s_pf, Bool.and_eq_true]
    exact ⟨h d (List.mem_cons_self ..), pures_fz fun x hx => h x (List.mem_cons_of_mem _ hx)⟩
@[simp] theorem tI_pure {xs : List Int} : (tI xs).pure = true := pures_fz fun d hd => by
  obtain ⟨i, _, rfl⟩ := List.mem_map.mp hd
  rfl
theorem pures_map {α : Type} {f : α → T} : ∀ {l : List α}, (∀ x ∈ l, (f x).pure = true) → T.pures (l.map f) = true
  | [], _ => rfl
  | x :: l, h => by
    simp only [List.map_cons, s_ps, Bool.and_eq_true]
    exact ⟨h x (List.mem_cons_self ..), pures_map fun y hy => h y (List.mem_cons_of_mem _ hy)⟩
@[simp] theorem tII_pure {xs : List (List Int)} : (tII xs).pure = true := pures_map fun x _ => tI_pure
@[simp] theorem oF_tI {xs : List Int} : oF (some (tI xs)) = none := rfl
section
variable {AQ : TQ}
@[simp] theorem s_len_ints {xs : List Int} : fLen [dI xs] AQ = AQ (.fz (.int xs.length)) := by simp [dI]
@[simp] theorem s_len_intss {xs : List (List Int)} : fLen [dII xs] AQ = AQ (.fz (.int xs.length)) := by simp [dII]
@[simp] theorem s_list_ints {xs : List Int} : fList [dI xs] AQ = AQ (tI xs) := by simp [dI, tI]
@[simp] theorem s_ints' {g : List Int → TQ → Prop} {x : List Int} : fInts g [dI x] AQ = g x AQ := s_ints
@[simp] theorem s_cat_ints {x y : List Int} : fAdd (dI x) (dI y) AQ = (x.length + y.length ≤ 16777216 ∧ AQ (tI (x ++ y))) := by simp [dI, tI]
theorem s_ix_ints {xs : List Int} {k : Int} (h0 : 0 ≤ k) (h1 : k < xs.length) : fIx (dI xs) (.int k) AQ = AQ (.fz (.int (xs.getD k.toNat 0))) := by
  have hk : k.toNat < xs.length := by omega
  refine s_ix ?_
  unfold atI ixN
  rw [List.length_map, if_pos h0, if_pos h1]
  simp only [Option.bind_some, List.getElem?_map, List.getElem?_eq_getElem hk, Option.map_some, List.getD_eq_getElem?_getD, Option.getD_some]
theorem s_ix_intss {xs : List (List Int)} {k : Int} (h0 : 0 ≤ k) (h1 : k < xs.length) : fIx (dII xs) (.int k) AQ = AQ (.fz (dI (xs.getD k.toNat []))) := by
  have hk : k.toNat < xs.length := by omega
  refine s_ix ?_
  unfold atI ixN
  rw [List.length_map, if_pos h0, if_pos h1]
  simp only [Option.bind_some, List.getElem?_map, List.getElem?_eq_getElem hk, Option.map_some, List.getD_eq_getElem?_getD, Option.getD_some]
end
end AL

set_option Elab.async false
set_option linter.all false
set_option maxRecDepth 100000
set_option maxHeartbeats 4000000
/-! AL20: accounts taken apart; more of the readings -/
namespace AL
open PySem PySem.Spec PyProof.Rows L2
section
variable {AQ : TQ} {AX : XQ} {ds : List D}
theorem fs1_el {f : D → TQ → XQ → Prop} (h : fs1 f ds AQ AX) : ∃ a, ds = [a] ∧ f a AQ AX := by
  unfold fs1 at h
  split at h
  · exact ⟨_, rfl, h⟩
  · exact h.elim
theorem fs2_el {f : D → D → TQ → XQ → Prop} (h : fs2 f ds AQ AX) : ∃ a b, ds = [a, b] ∧ f a b AQ AX := by
  unfold fs2 at h
  split at h
  · exact ⟨_, _, rfl, h⟩
  · exact h.elim
theorem fs3_el {f : D → D → D → TQ → XQ → Prop} (h : fs3 f ds AQ AX) : ∃ a b c, ds = [a, b, c] ∧ f a b c AQ AX := by
  unfold fs3 at h
  split at h
  · exact ⟨_, _, _, rfl, h⟩
  · exact h.elim
theorem fs4_el {f : D → D → D → D → TQ → XQ → Prop} (h : fs4 f ds AQ AX) : ∃ a b c d, ds = [a, b, c, d] ∧ f a b c d AQ AX := by
  unfold fs4 at h
  split at h
  · exact ⟨_, _, _, _, rfl, h⟩
  · exact h.elim
theorem fs5_el {f : D → D → D → D → D → TQ → XQ → Prop} (h : fs5 f ds AQ AX) : ∃ a b c d e, ds = [a, b, c, d, e] ∧ f a b c d e AQ AX := by
  unfold fs5 at h
  split at h
  · exact ⟨_, _, _, _, _, rfl, h⟩
  · exact h.elim
theorem fs6_el {f : D → D → D → D → D → D → TQ → XQ → Prop} (h : fs6 f ds AQ AX) : ∃ a b c d e g, ds = [a, b, c, d, e, g] ∧ f a b c d e g AQ AX := by
  unfold fs6 at h
  split at h
  · exact ⟨_, _, _, _, _, _, rfl, h⟩
  · exact h.elim
end
theorem in1 {f : D → TQ → XQ → Prop} {a : D} {AQ : TQ} {AX : XQ} (h : f a AQ AX) : fs1 f [a] AQ AX := h
theorem in2 {f : D → D → TQ → XQ → Prop} {a b : D} {AQ : TQ} {AX : XQ} (h : f a b AQ AX) : fs2 f [a, b] AQ AX := h
theorem in3 {f : D → D → D → TQ → XQ → Prop} {a b c : D} {AQ : TQ} {AX : XQ} (h : f a b c AQ AX) : fs3 f [a, b, c] AQ AX := h
theorem in4 {f : D → D → D → D → TQ → XQ → Prop} {a b c d : D} {AQ : TQ} {AX : XQ} (h : f a b c d AQ AX) : fs4 f [a, b, c, d] AQ AX := h
theorem in5 {f : D → D → D → D → D → TQ → XQ → Prop} {a b c d e : D} {AQ : TQ} {AX : XQ} (h : f a b c d e AQ AX) : fs5 f [a, b, c, d, e] AQ AX := h
theorem in6 {f : D → D → D → D → D → D → TQ → XQ → Prop} {a b c d e g : D} {AQ : TQ} {AX : XQ} (h : f a b c d e g AQ AX) : fs6 f [a, b, c, d, e, g] AQ AX := h
section
variable {A : AEnds} {ρ : AS} {e : En} {AQ : TQ} {AX : XQ} {BQ : Bool → Prop}
@[simp] theorem s_nev : aNev A ρ = False := rfl
@[simp] theorem s_rnev : rNev e AQ AX = False := rfl
@[simp] theorem s_rnevT : rNevT e BQ AX = False := rfl
@[simp] theorem s_ints0 : dI [] = .lst [] := rfl
@[simp] theorem s_fz_inj {d d' : D} : T.fz d = T.fz d' ↔ d = d' := ⟨fun h => by cases h; rfl, fun h => by rw [h]⟩
@[simp] theorem s_bl_inj {b b' : Bool} : D.bl b = D.bl b' ↔ b = b' := ⟨fun h => by cases h; rfl, fun h => by rw [h]⟩
@[simp] theorem s_listE {xs : List D} : T.ers (xs.map T.fz) = xs := s_ersF
end
/-! ### loops -/
section
variable {α : Type} {g : Tg} {body : RS} {A : AEnds}
theorem for_gen (ds : List D) (I : Nat → AS → Prop) (hend : ∀ ρ, I ds.length ρ → A.nx ρ)
    (hs : ∀ (rest : AS → Prop) (i : Nat) (d : D) (ρ : AS), ds[i]? = some d → I i ρ → (∀ ρ', I (i + 1) ρ' → rest ρ') → ∃ bs, g.bind d = some bs ∧ body { nx := rest, rt := A.rt, ex := A.ex, bk := A.nx, ct := rest } (setAll ρ (bs.map fun p => (p.1, .fz p.2)))) :
    ∀ (n k : Nat) (ρ : AS), n = ds.length - k → k ≤ ds.length → I k ρ → forGo g body A (ds.drop k) ρ
  | 0, k, ρ, hn, hk, h => by
    have e : k = ds.length := by omega
    subst e
    rw [List.drop_length]
    exact hend ρ h
  | n + 1, k, ρ, hn, hk, h => by
    have hk' : k < ds.length := by omega
    rw [List.drop_eq_getElem_cons hk']
    obtain ⟨bs, e, q⟩ := hs (forGo g body A (ds.drop (k + 1))) k ds[k] ρ (List.getElem?_eq_getElem hk') h fun ρ' h' => for_gen ds I hend hs n (k + 1) ρ' (by omega) (by omega) h'
    unfold forGo
    rw [e]
    exact q
theorem for_map {f : α → D} {xs : List α} {ρ : AS} (I : Nat → AS → Prop) (h0 : I 0 ρ) (hend : ∀ ρ, I xs.length ρ → A.nx ρ)
    (hs : ∀ (rest : AS → Prop) (i : Nat) (x : α) (ρ : AS), xs[i]? = some x → I i ρ → (∀ ρ', I (i + 1) ρ' → rest ρ') → ∃ bs, g.bind (f x) = some bs ∧ body { nx := rest, rt := A.rt, ex := A.ex, bk := A.nx, ct := rest } (setAll ρ (bs.map fun p => (p.1, .fz p.2)))) : forGo g body A (xs.map f) ρ := by
  have := for_gen (g := g) (body := body) (A := A) (xs.map f) I (by rw [List.length_map]; exact hend) (fun rest i d ρ hd h k => by
    rw [List.getElem?_map] at hd
    cases q : xs[i]? with
    | none => rw [q] at hd; cases hd
    | some x =>
      rw [q] at hd
      simp only [Option.map_some, Option.some.injEq] at hd
      subst hd
      exact hs rest i x ρ q h k) _ 0 ρ rfl (Nat.zero_le _) h0
  exact this
theorem enumD_get {f : α → D} {xs : List α} {i : Nat} {d : D} (h : (enumD (xs.map f))[i]? = some d) : ∃ x, xs[i]? = some x ∧ d = .tup [.int i, f x] := by
  unfold enumD at h
  rw [List.getElem?_map, List.getElem?_zipIdx, List.getElem?_map] at h
  cases q : xs[i]? with
  | none => rw [q] at h; cases h
  | some x =>
    rw [q] at h
    simp only [Option.map_some, Option.some.injEq] at h
    exact ⟨x, rfl, by rw [← h]; simp⟩
theorem enumD_length {ds : List D} : (enumD ds).length = ds.length := by simp [enumD]
theorem for_enum {f : α → D} {xs : List α} {ρ : AS} (I : Nat → AS → Prop) (h0 : I 0 ρ) (hend : ∀ ρ, I xs.length ρ → A.nx ρ)
    (hs : ∀ (rest : AS → Prop) (i : Nat) (x : α) (ρ : AS), xs[i]? = some x → I i ρ → (∀ ρ', I (i + 1) ρ' → rest ρ') → ∃ bs, g.bind (.tup [.int i, f x]) = some bs ∧ body { nx := rest, rt := A.rt, ex := A.ex, bk := A.nx, ct := rest } (setAll ρ (bs.map fun p => (p.1, .fz p.2)))) : forGo g body A (enumD (xs.map f)) ρ := by
  have := for_gen (g := g) (body := body) (A := A) (enumD (xs.map f)) I (by rw [enumD_length, List.length_map]; exact hend) (fun rest i d ρ hd h k => by
    obtain ⟨x, q, rfl⟩ := enumD_get hd
    exact hs rest i x ρ q h k) _ 0 ρ rfl (Nat.zero_le _) h0
  exact this
theorem for_rng {lo : Int} {n : Nat} {ρ : AS} (I : Nat → AS → Prop) (h0 : I 0 ρ) (hend : ∀ ρ, I n ρ → A.nx ρ)
    (hs : ∀ (rest : AS → Prop) (i : Nat) (ρ : AS), i < n → I i ρ → (∀ ρ', I (i + 1) ρ' → rest ρ') → ∃ bs, g.bind (.int (lo + i)) = some bs ∧ body { nx := rest, rt := A.rt, ex := A.ex, bk := A.nx, ct := rest } (setAll ρ (bs.map fun p => (p.1, .fz p.2)))) : forGo g body A (rngD lo n) ρ := by
  unfold rngD
  refine for_map (f := fun i : Nat => D.int (lo + i)) I h0 (by rw [List.length_range]; exact hend) fun rest i x ρ hx h k => ?_
  have hi : i < n := by simpa using (List.getElem?_eq_some_iff.mp hx).1
  rw [List.getElem?_range hi] at hx
  cases hx
  exact hs rest _ ρ hi h k
theorem for_rngC {lo c : Int} {n : Nat} {ρ : AS} (I : Nat → AS → Prop) (h0 : I 0 ρ) (hend : ∀ ρ, I n ρ → A.nx ρ)
    (hs : ∀ (rest : AS → Prop) (i : Nat) (ρ : AS), i < n → I i ρ → (∀ ρ', I (i + 1) ρ' → rest ρ') → ∃ bs, g.bind (.int (lo + i * c)) = some bs ∧ body { nx := rest, rt := A.rt, ex := A.ex, bk := A.nx, ct := rest } (setAll ρ (bs.map fun p => (p.1, .fz p.2)))) : forGo g body A (rngC lo c n) ρ := by
  unfold rngC
  refine for_map (f := fun i : Nat => D.int (lo + i * c)) I h0 (by rw [List.length_range]; exact hend) fun rest i x ρ hx h k => ?_
  have hi : i < n := by simpa using (List.getElem?_eq_some_iff.mp hx).1
  rw [List.getElem?_range hi] at hx
  cases hx
  exact hs rest _ ρ hi h k
end
section
variable {α : Type} {g : Tg} {tt : RT} {te : RE} {ρ : En} {AQ : TQ}
theorem lc_gen (ds : List D) (I : Nat → List T → Prop) (hend : ∀ acc, I ds.length acc → AQ (.lst acc))
    (hs : ∀ (rest : List T → Prop) (i : Nat) (d : D) (acc : List T), ds[i]? = some d → I i acc → (∀ acc', I (i + 1) acc' → rest acc') → ∃ bs, g.bind d = some bs ∧ tt (setAll ρ bs) (fun b => if b = true then te (setAll ρ bs) (fun t => acc.length < 16777216 ∧ rest (acc ++ [t])) (fun _ => False) else rest acc) (fun _ => False)) :
    ∀ (n k : Nat) (acc : List T), n = ds.length - k → k ≤ ds.length → I k acc → lcGo g tt te ρ AQ (ds.drop k) acc
  | 0, k, acc, hn, hk, h => by
    have e : k = ds.length := by omega
    subst e
    rw [List.drop_length]
    exact hend acc h
  | n + 1, k, acc, hn, hk, h => by
    have hk' : k < ds.length := by omega
    rw [List.drop_eq_getElem_cons hk']
    obtain ⟨bs, e, q⟩ := hs (fun acc => lcGo g tt te ρ AQ (ds.drop (k + 1)) acc) k ds[k] acc (List.getElem?_eq_getElem hk') h fun acc' h' => lc_gen ds I hend hs n (k + 1) acc' (by omega) (by omega) h'
    unfold lcGo
    rw [e]
    exact q
theorem lc_each {f : α → D} {xs : List α} (I : Nat → List T → Prop) (h0 : I 0 []) (hend : ∀ acc, I xs.length acc → AQ (.lst acc))
    (hs : ∀ (rest : List T → Prop) (i : Nat) (x : α) (acc : List T), xs[i]? = some x → I i acc → (∀ acc', I (i + 1) acc' → rest acc') → ∃ bs, g.bind (f x) = some bs ∧ tt (setAll ρ bs) (fun b => if b = true then te (setAll ρ bs) (fun t => acc.length < 16777216 ∧ rest (acc ++ [t])) (fun _ => False) else rest acc) (fun _ => False)) : lcGo g tt te ρ AQ (xs.map f) [] := by
  have := lc_gen (g := g) (tt := tt) (te := te) (ρ := ρ) (AQ := AQ) (xs.map f) I (by rw [List.length_map]; exact hend) (fun rest i d acc hd h k => by
    rw [List.getElem?_map] at hd
    cases q : xs[i]? with
    | none => rw [q] at hd; cases hd
    | some x =>
      rw [q] at hd
      simp only [Option.map_some, Option.some.injEq] at hd
      subst hd
      exact hs rest i x acc q h k) _ 0 [] rfl (Nat.zero_le _) h0
  exact this
theorem take_succ' {xs : List α} {i : Nat} {x : α} (h : xs[i]? = some x) : xs.take (i + 1) = xs.take i ++ [x] := by
  obtain ⟨hi, rfl⟩ := List.getElem?_eq_some_iff.mp h
  rw [List.take_add_one, List.getElem?_eq_getElem hi]
  rfl
/-- [t for x in xs if p]: nothing drawn -/
theorem lc_det {f : α → D} {xs : List α} (p : α → Bool) (t : α → T) (hz : xs.length < 16777216)
    (hs : ∀ x ∈ xs, ∃ bs, g.bind (f x) = some bs ∧ (∀ BQ : Bool → Prop, BQ (p x) → tt (setAll ρ bs) BQ (fun _ => False)) ∧ (p x = true → ∀ TQ' : TQ, TQ' (t x) → te (setAll ρ bs) TQ' (fun _ => False))) (q : AQ (.lst ((xs.filter p).map t))) : lcGo g tt te ρ AQ (xs.map f) [] := by
  refine lc_each (fun i acc => acc = ((xs.take i).filter p).map t) (by simp) (fun acc h => ?_) fun rest i x acc hx h k => ?_
  · subst h
    rw [List.take_length]
    exact q
  · subst h
    obtain ⟨bs, e, h1, h2⟩ := hs x (List.mem_of_getElem? hx)
    refine ⟨bs, e, h1 _ ?_⟩
    have hl : (((xs.take i).filter p).map t).length < 16777216 := by
      rw [List.length_map]
      have h3 := List.length_filter_le p (xs.take i)
      have h4 := List.length_take_le i xs
      have h5 : (xs.take i).length ≤ xs.length := by rw [List.length_take]; omega
      omega
    cases hp : p x with
    | true =>
      rw [if_pos rfl]
      refine h2 hp _ ⟨hl, k _ ?_⟩
      rw [take_succ' hx, List.filter_append, List.map_append]
      simp [hp]
    | false =>
      rw [if_neg Bool.false_ne_true]
      refine k _ ?_
      rw [take_succ' hx, List.filter_append, List.map_append]
      simp [hp]
/-- [t for x in xs] -/
theorem lc_map {f : α → D} {xs : List α} (t : α → T) (hz : xs.length < 16777216)
    (hs : ∀ x ∈ xs, ∃ bs, g.bind (f x) = some bs ∧ (∀ BQ : Bool → Prop, BQ true → tt (setAll ρ bs) BQ (fun _ => False)) ∧ ∀ TQ' : TQ, TQ' (t x) → te (setAll ρ bs) TQ' (fun _ => False)) (q : AQ (.lst (xs.map t))) : lcGo g tt te ρ AQ (xs.map f) [] :=
  lc_det (fun _ => true) t hz (fun x hx => by
    obtain ⟨bs, e, h1, h2⟩ := hs x hx
    exact ⟨bs, e, h1, fun _ => h2⟩) (by rw [List.filter_eq_self.mpr (fun _ _ => rfl)]; exact q)
/-- .. over enumerate -/
theorem enumD_map {f : α → D} {xs : List α} : enumD (xs.map f) = xs.zipIdx.map fun p => .tup [.int (p.2 : Nat), f p.1] := by
  unfold enumD
  rw [List.zipIdx_map, List.map_map]
  rfl
theorem rngD_map {lo : Int} {n : Nat} : rngD lo n = (List.range n).map fun i => D.int (lo + (i : Nat)) := rfl
end
end AL

set_option Elab.async false
set_option linter.all false
set_option maxRecDepth 100000
set_option maxHeartbeats 4000000
/-! AL21: variables read off the slots (as ↓ rules: the continuation is not looked at first) -/
namespace AL
open PySem PySem.Spec PyProof.Rows L2
section
variable {e : En} {ρ : AS} {AQ : TQ} {AX : XQ} {d : D} {t : T}
theorem v_F0 : rV 0 (envF (some (.fz d) :: ρ)) AQ AX = AQ (.fz d) := by simp only [s_rV, s_envF, oF_fz, List.getElem?_cons_succ, List.getElem?_cons_zero]
theorem v_B0 : rV 0 (envB (some t :: ρ)) AQ AX = AQ (.fz t.er) := by simp only [s_rV, s_envB, oB_s, List.getElem?_cons_succ, List.getElem?_cons_zero]
theorem v_0 : rV 0 (some d :: e) AQ AX = AQ (.fz d) := rfl
theorem v_F1 {x0 : Option T} : rV 1 (envF (x0 :: some (.fz d) :: ρ)) AQ AX = AQ (.fz d) := by simp only [s_rV, s_envF, oF_fz, List.getElem?_cons_succ, List.getElem?_cons_zero]
theorem v_B1 {x0 : Option T} : rV 1 (envB (x0 :: some t :: ρ)) AQ AX = AQ (.fz t.er) := by simp only [s_rV, s_envB, oB_s, List.getElem?_cons_succ, List.getElem?_cons_zero]
theorem v_1 {x0 : Option D} : rV 1 (x0 :: some d :: e) AQ AX = AQ (.fz d) := rfl
theorem v_F2 {x0 x1 : Option T} : rV 2 (envF (x0 :: x1 :: some (.fz d) :: ρ)) AQ AX = AQ (.fz d) := by simp only [s_rV, s_envF, oF_fz, List.getElem?_cons_succ, List.getElem?_cons_zero]
theorem v_B2 {x0 x1 : Option T} : rV 2 (envB (x0 :: x1 :: some t :: ρ)) AQ AX = AQ (.fz t.er) := by simp only [s_rV, s_envB, oB_s, List.getElem?_cons_succ, List.getElem?_cons_zero]
theorem v_2 {x0 x1 : Option D} : rV 2 (x0 :: x1 :: some d :: e) AQ AX = AQ (.fz d) := rfl
theorem v_F3 {x0 x1 x2 : Option T} : rV 3 (envF (x0 :: x1 :: x2 :: some (.fz d) :: ρ)) AQ AX = AQ (.fz d) := by simp only [s_rV, s_envF, oF_fz, List.getElem?_cons_succ, List.getElem?_cons_zero]
theorem v_B3 {x0 x1 x2 : Option T} : rV 3 (envB (x0 :: x1 :: x2 :: some t :: ρ)) AQ AX = AQ (.fz t.er) := by simp only [s_rV, s_envB, oB_s, List.getElem?_cons_succ, List.getElem?_cons_zero]
theorem v_3 {x0 x1 x2 : Option D} : rV 3 (x0 :: x1 :: x2 :: some d :: e) AQ AX = AQ (.fz d) := rfl
theorem v_F4 {x0 x1 x2 x3 : Option T} : rV 4 (envF (x0 :: x1 :: x2 :: x3 :: some (.fz d) :: ρ)) AQ AX = AQ (.fz d) := by simp only [s_rV, s_envF, oF_fz, List.getElem?_cons_succ, List.getElem?_cons_zero]
theorem v_B4 {x0 x1 x2 x3 : Option T} : rV 4 (envB (x0 :: x1 :: x2 :: x3 :: some t :: ρ)) AQ AX = AQ (.fz t.er) := by simp only [s_rV, s_envB, oB_s, List.getElem?_cons_succ, List.getElem?_cons_zero]
theorem v_4 {x0 x1 x2 x3 : Option D} : rV 4 (x0 :: x1 :: x2 :: x3 :: some d :: e) AQ AX = AQ (.fz d) := rfl
theorem v_F5 {x0 x1 x2 x3 x4 : Option T} : rV 5 (envF (x0 :: x1 :: x2 :: x3 :: x4 :: some (.fz d) :: ρ)) AQ AX = AQ (.fz d) := by simp only [s_rV, s_envF, oF_fz, List.getElem?_cons_succ, List.getElem?_cons_zero]
theorem v_B5 {x0 x1 x2 x3 x4 : Option T} : rV 5 (envB (x0 :: x1 :: x2 :: x3 :: x4 :: some t :: ρ)) AQ AX = AQ (.fz t.er) := by simp only [s_rV, s_envB, oB_s, List.getElem?_cons_succ, List.getElem?_cons_zero]
theorem v_5 {x0 x1 x2 x3 x4 : Option D} : rV 5 (x0 :: x1 :: x2 :: x3 :: x4 :: some d :: e) AQ AX = AQ (.fz d) := rfl
theorem v_F6 {x0 x1 x2 x3 x4 x5 : Option T} : rV 6 (envF (x0 :: x1 :: x2 :: x3 :: x4 :: x5 :: some (.fz d) :: ρ)) AQ AX = AQ (.fz d) := by simp only [s_rV, s_envF, oF_fz, List.getElem?_cons_succ, List.getElem?_cons_zero]
theorem v_B6 {x0 x1 x2 x3 x4 x5 : Option T} : rV 6 (envB (x0 :: x1 :: x2 :: x3 :: x4 :: x5 :: some t :: ρ)) AQ AX = AQ (.fz t.er) := by simp only [s_rV, s_envB, oB_s, List.getElem?_cons_succ, List.getElem?_cons_zero]
theorem v_6 {x0 x1 x2 x3 x4 x5 : Option D} : rV 6 (x0 :: x1 :: x2 :: x3 :: x4 :: x5 :: some d :: e) AQ AX = AQ (.fz d) := rfl
theorem v_F7 {x0 x1 x2 x3 x4 x5 x6 : Option T} : rV 7 (envF (x0 :: x1 :: x2 :: x3 :: x4 :: x5 :: x6 :: some (.fz d) :: ρ)) AQ AX = AQ (.fz d) := by simp only [s_rV, s_envF, oF_fz, List.getElem?_cons_succ, List.getElem?_cons_zero]
theorem v_B7 {x0 x1 x2 x3 x4 x5 x6 : Option T} : rV 7 (envB (x0 :: x1 :: x2 :: x3 :: x4 :: x5 :: x6 :: some t :: ρ)) AQ AX = AQ (.fz t.er) := by simp only [s_rV, s_envB, oB_s, List.getElem?_cons_succ, List.getElem?_cons_zero]
theorem v_7 {x0 x1 x2 x3 x4 x5 x6 : Option D} : rV 7 (x0 :: x1 :: x2 :: x3 :: x4 :: x5 :: x6 :: some d :: e) AQ AX = AQ (.fz d) := rfl
theorem v_F8 {x0 x1 x2 x3 x4 x5 x6 x7 : Option T} : rV 8 (envF (x0 :: x1 :: x2 :: x3 :: x4 :: x5 :: x6 :: x7 :: some (.fz d) :: ρ)) AQ AX = AQ (.fz d) := by simp only [s_rV, s_envF, oF_fz, List.getElem?_cons_succ, List.getElem?_cons_zero]
theorem v_B8 {x0 x1 x2 x3 x4 x5 x6 x7 : Option T} : rV 8 (envB (x0 :: x1 :: x2 :: x3 :: x4 :: x5 :: x6 :: x7 :: some t :: ρ)) AQ AX = AQ (.fz t.er) := by simp only [s_rV, s_envB, oB_s, List.getElem?_cons_succ, List.getElem?_cons_zero]
theorem v_8 {x0 x1 x2 x3 x4 x5 x6 x7 : Option D} : rV 8 (x0 :: x1 :: x2 :: x3 :: x4 :: x5 :: x6 :: x7 :: some d :: e) AQ AX = AQ (.fz d) := rfl
theorem v_F9 {x0 x1 x2 x3 x4 x5 x6 x7 x8 : Option T} : rV 9 (envF (x0 :: x1 :: x2 :: x3 :: x4 :: x5 :: x6 :: x7 :: x8 :: some (.fz d) :: ρ)) AQ AX = AQ (.fz d) := by simp only [s_rV, s_envF, oF_fz, List.getElem?_cons_succ, List.getElem?_cons_zero]
theorem v_B9 {x0 x1 x2 x3 x4 x5 x6 x7 x8 : Option T} : rV 9 (envB (x0 :: x1 :: x2 :: x3 :: x4 :: x5 :: x6 :: x7 :: x8 :: some t :: ρ)) AQ AX = AQ (.fz t.er) := by simp only [s_rV, s_envB, oB_s, List.getElem?_cons_succ, List.getElem?_cons_zero]
theorem v_9 {x0 x1 x2 x3 x4 x5 x6 x7 x8 : Option D} : rV 9 (x0 :: x1 :: x2 :: x3 :: x4 :: x5 :: x6 :: x7 :: x8 :: some d :: e) AQ AX = AQ (.fz d) := rfl
theorem v_F10 {x0 x1 x2 x3 x4 x5 x6 x7 x8 x9 : Option T} : rV 10 (envF (x0 :: x1 :: x2 :: x3 :: x4 :: x5 :: x6 :: x7 :: x8 :: x9 :: some (.fz d) :: ρ)) AQ AX = AQ (.fz d) := by simp only [s_rV, s_envF, oF_fz, List.getElem?_cons_succ, List.getElem?_cons_zero]
theorem v_B10 {x0 x1 x2 x3 x4 x5 x6 x7 x8 x9 : Option T} : rV 10 (envB (x0 :: x1 :: x2 :: x3 :: x4 :: x5 :: x6 :: x7 :: x8 :: x9 :: some t :: ρ)) AQ AX = AQ (.fz t.er) := by simp only [s_rV, s_envB, oB_s, List.getElem?_cons_succ, List.getElem?_cons_zero]
theorem v_10 {x0 x1 x2 x3 x4 x5 x6 x7 x8 x9 : Option D} : rV 10 (x0 :: x1 :: x2 :: x3 :: x4 :: x5 :: x6 :: x7 :: x8 :: x9 :: some d :: e) AQ AX = AQ (.fz d) := rfl
theorem v_F11 {x0 x1 x2 x3 x4 x5 x6 x7 x8 x9 x10 : Option T} : rV 11 (envF (x0 :: x1 :: x2 :: x3 :: x4 :: x5 :: x6 :: x7 :: x8 :: x9 :: x10 :: some (.fz d) :: ρ)) AQ AX = AQ (.fz d) := by simp only [s_rV, s_envF, oF_fz, List.getElem?_cons_succ, List.getElem?_cons_zero]
theorem v_B11 {x0 x1 x2 x3 x4 x5 x6 x7 x8 x9 x10 : Option T} : rV 11 (envB (x0 :: x1 :: x2 :: x3 :: x4 :: x5 :: x6 :: x7 :: x8 :: x9 :: x10 :: some t :: ρ)) AQ AX = AQ (.fz t.er) := by simp only [s_rV, s_envB, oB_s, List.getElem?_cons_succ, List.getElem?_cons_zero]
theorem v_11 {x0 x1 x2 x3 x4 x5 x6 x7 x8 x9 x10 : Option D} : rV 11 (x0 :: x1 :: x2 :: x3 :: x4 :: x5 :: x6 :: x7 :: x8 :: x9 :: x10 :: some d :: e) AQ AX = AQ (.fz d) := rfl
theorem v_F12 {x0 x1 x2 x3 x4 x5 x6 x7 x8 x9 x10 x11 : Option T} : rV 12 (envF (x0 :: x1 :: x2 :: x3 :: x4 :: x5 :: x6 :: x7 :: x8 :: x9 :: x10 :: x11 :: some (.fz d) :: ρ)) AQ AX = AQ (.fz d) := by simp only [s_rV, s_envF, oF_fz, List.getElem?_cons_succ, List.getElem?_cons_zero]
theorem v_B12 {x0 x1 x2 x3 x4 x5 x6 x7 x8 x9 x10 x11 : Option T} : rV 12 (envB (x0 :: x1 :: x2 :: x3 :: x4 :: x5 :: x6 :: x7 :: x8 :: x9 :: x10 :: x11 :: some t :: ρ)) AQ AX = AQ (.fz t.er) := by simp only [s_rV, s_envB, oB_s, List.getElem?_cons_succ, List.getElem?_cons_zero]
theorem v_12 {x0 x1 x2 x3 x4 x5 x6 x7 x8 x9 x10 x11 : Option D} : rV 12 (x0 :: x1 :: x2 :: x3 :: x4 :: x5 :: x6 :: x7 :: x8 :: x9 :: x10 :: x11 :: some d :: e) AQ AX = AQ (.fz d) := rfl
theorem v_F13 {x0 x1 x2 x3 x4 x5 x6 x7 x8 x9 x10 x11 x12 : Option T} : rV 13 (envF (x0 :: x1 :: x2 :: x3 :: x4 :: x5 :: x6 :: x7 :: x8 :: x9 :: x10 :: x11 :: x12 :: some (.fz d) :: ρ)) AQ AX = AQ (.fz d) := by simp only [s_rV, s_envF, oF_fz, List.getElem?_cons_succ, List.getElem?_cons_zero]
theorem v_B13 {x0 x1 x2 x3 x4 x5 x6 x7 x8 x9 x10 x11 x12 : Option T} : rV 13 (envB (x0 :: x1 :: x2 :: x3 :: x4 :: x5 :: x6 :: x7 :: x8 :: x9 :: x10 :: x11 :: x12 :: some t :: ρ)) AQ AX = AQ (.fz t.er) := by simp only [s_rV, s_envB, oB_s, List.getElem?_cons_succ, List.getElem?_cons_zero]
theorem v_13 {x0 x1 x2 x3 x4 x5 x6 x7 x8 x9 x10 x11 x12 : Option D} : rV 13 (x0 :: x1 :: x2 :: x3 :: x4 :: x5 :: x6 :: x7 :: x8 :: x9 :: x10 :: x11 :: x12 :: some d :: e) AQ AX = AQ (.fz d) := rfl
theorem v_F14 {x0 x1 x2 x3 x4 x5 x6 x7 x8 x9 x10 x11 x12 x13 : Option T} : rV 14 (envF (x0 :: x1 :: x2 :: x3 :: x4 :: x5 :: x6 :: x7 :: x8 :: x9 :: x10 :: x11 :: x12 :: x13 :: some (.fz d) :: ρ)) AQ AX = AQ (.fz d) := by simp only [s_rV, s_envF, oF_fz, List.getElem?_cons_succ, List.getElem?_cons_zero]
theorem v_B14 {x0 x1 x2 x3 x4 x5 x6 x7 x8 x9 x10 x11 x12 x13 : Option T} : rV 14 (envB (x0 :: x1 :: x2 :: x3 :: x4 :: x5 :: x6 :: x7 :: x8 :: x9 :: x10 :: x11 :: x12 :: x13 :: some t :: ρ)) AQ AX = AQ (.fz t.er) := by simp only [s_rV, s_envB, oB_s, List.getElem?_cons_succ, List.getElem?_cons_zero]
theorem v_14 {x0 x1 x2 x3 x4 x5 x6 x7 x8 x9 x10 x11 x12 x13 : Option D} : rV 14 (x0 :: x1 :: x2 :: x3 :: x4 :: x5 :: x6 :: x7 :: x8 :: x9 :: x10 :: x11 :: x12 :: x13 :: some d :: e) AQ AX = AQ (.fz d) := rfl
theorem v_F15 {x0 x1 x2 x3 x4 x5 x6 x7 x8 x9 x10 x11 x12 x13 x14 : Option T} : rV 15 (envF (x0 :: x1 :: x2 :: x3 :: x4 :: x5 :: x6 :: x7 :: x8 :: x9 :: x10 :: x11 :: x12 :: x13 :: x14 :: some (.fz d) :: ρ)) AQ AX = AQ (.fz d) := by simp only [s_rV, s_envF, oF_fz, List.getElem?_cons_succ, List.getElem?_cons_zero]
theorem v_B15 {x0 x1 x2 x3 x4 x5 x6 x7 x8 x9 x10 x11 x12 x13 x14 : Option T} : rV 15 (envB (x0 :: x1 :: x2 :: x3 :: x4 :: x5 :: x6 :: x7 :: x8 :: x9 :: x10 :: x11 :: x12 :: x13 :: x14 :: some t :: ρ)) AQ AX = AQ (.fz t.er) := by simp only [s_rV, s_envB, oB_s, List.getElem?_cons_succ, List.getElem?_cons_zero]
theorem v_15 {x0 x1 x2 x3 x4 x5 x6 x7 x8 x9 x10 x11 x12 x13 x14 : Option D} : rV 15 (x0 :: x1 :: x2 :: x3 :: x4 :: x5 :: x6 :: x7 :: x8 :: x9 :: x10 :: x11 :: x12 :: x13 :: x14 :: some d :: e) AQ AX = AQ (.fz d) := rfl
theorem v_F16 {x0 x1 x2 x3 x4 x5 x6 x7 x8 x9 x10 x11 x12 x13 x14 x15 : Option T} : rV 16 (envF (x0 :: x1 :: x2 :: x3 :: x4 :: x5 :: x6 :: x7 :: x8 :: x9 :: x10 :: x11 :: x12 :: x13 :: x14 :: x15 :: some (.fz d) :: ρ)) AQ AX = AQ (.fz d) := by simp only [s_rV, s_envF, oF_fz, List.getElem?_cons_succ, List.getElem?_cons_zero]
theorem v_B16 {x0 x1 x2 x3 x4 x5 x6 x7 x8 x9 x10 x11 x12 x13 x14 x15 : Option T} : rV 16 (envB (x0 :: x1 :: x2 :: x3 :: x4 :: x5 :: x6 :: x7 :: x8 :: x9 :: x10 :: x11 :: x12 :: x13 :: x14 :: x15 :: some t :: ρ)) AQ AX = AQ (.fz t.er) := by simp only [s_rV, s_envB, oB_s, List.getElem?_cons_succ, List.getElem?_cons_zero]
theorem v_16 {x0 x1 x2 x3 x4 x5 x6 x7 x8 x9 x10 x11 x12 x13 x14 x15 : Option D} : rV 16 (x0 :: x1 :: x2 :: x3 :: x4 :: x5 :: x6 :: x7 :: x8 :: x9 :: x10 :: x11 :: x12 :: x13 :: x14 :: x15 :: some d :: e) AQ AX = AQ (.fz d) := rfl
theorem v_F17 {x0 x1 x2 x3 x4 x5 x6 x7 x8 x9 x10 x11 x12 x13 x14 x15 x16 : Option T} : rV 17 (envF (x0 :: x1 :: x2 :: x3 :: x4 :: x5 :: x6 :: x7 :: x8 :: x9 :: x10 :: x11 :: x12 :: x13 :: x14 :: x15 :: x16 :: some (.fz d) :: ρ)) AQ AX = AQ (.fz d) := by simp only [s_rV, s_envF, oF_fz, List.getElem?_cons_succ, List.getElem?_cons_zero]
theorem v_B17 {x0 x1 x2 x3 x4 x5 x6 x7 x8 x9 x10 x11 x12 x13 x14 x15 x16 : Option T} : rV 17 (envB (x0 :: x1 :: x2 :: x3 :: x4 :: x5 :: x6 :: x7 :: x8 :: x9 :: x10 :: x11 :: x12 :: x13 :: x14 :: x15 :: x16 :: some t :: ρ)) AQ AX = AQ (.fz t.er) := by simp only [s_rV, s_envB, oB_s, List.getElem?_cons_succ, List.getElem?_cons_zero]
theorem v_17 {x0 x1 x2 x3 x4 x5 x6 x7 x8 x9 x10 x11 x12 x13 x14 x15 x16 : Option D} : rV 17 (x0 :: x1 :: x2 :: x3 :: x4 :: x5 :: x6 :: x7 :: x8 :: x9 :: x10 :: x11 :: x12 :: x13 :: x14 :: x15 :: x16 :: some d :: e) AQ AX = AQ (.fz d) := rfl
theorem v_F18 {x0 x1 x2 x3 x4 x5 x6 x7 x8 x9 x10 x11 x12 x13 x14 x15 x16 x17 : Option T} : rV 18 (envF (x0 :: x1 :: x2 :: x3 :: x4 :: x5 :: x6 :: x7 :: x8 :: x9 :: x10 :: x11 :: x12 :: x13 :: x14 :: x15 :: x16 :: x17 :: some (.fz d) :: ρ)) AQ AX = AQ (.fz d) := by simp only [s_rV, s_envF, oF_fz, List.getElem?_cons_succ, List.getElem?_cons_zero]
theorem v_B18 {x0 x1 x2 x3 x4 x5 x6 x7 x8 x9 x10 x11 x12 x13 x14 x15 x16 x17 : Option T} : rV 18 (envB (x0 :: x1 :: x2 :: x3 :: x4 :: x5 :: x6 :: x7 :: x8 :: x9 :: x10 :: x11 :: x12 :: x13 :: x14 :: x15 :: x16 :: x17 :: some t :: ρ)) AQ AX = AQ (.fz t.er) := by simp only [s_rV, s_envB, oB_s, List.getElem?_cons_succ, List.getElem?_cons_zero]
theorem v_18 {x0 x1 x2 x3 x4 x5 x6 x7 x8 x9 x10 x11 x12 x13 x14 x15 x16 x17 : Option D} : rV 18 (x0 :: x1 :: x2 :: x3 :: x4 :: x5 :: x6 :: x7 :: x8 :: x9 :: x10 :: x11 :: x12 :: x13 :: x14 :: x15 :: x16 :: x17 :: some d :: e) AQ AX = AQ (.fz d) := rfl
theorem v_F19 {x0 x1 x2 x3 x4 x5 x6 x7 x8 x9 x10 x11 x12 x13 x14 x15 x16 x17 x18 : Option T} : rV 19 (envF (x0 :: x1 :: x2 :: x3 :: x4 :: x5 :: x6 :: x7 :: x8 :: x9 :: x10 :: x11 :: x12 :: x13 :: x14 :: x15 :: x16 :: x17 :: x18 :: some (.fz d) :: ρ)) AQ AX = AQ (.fz d) := by simp only [s_rV, s_envF, oF_fz, List.getElem?_cons_succ, List.getElem?_cons_zero]
theorem v_B19 {x0 x1 x2 x3 x4 x5 x6 x7 x8 x9 x10 x11 x12 x13 x14 x15 x16 x17 x18 : Option T} : rV 19 (envB (x0 :: x1 :: x2 :: x3 :: x4 :: x5 :: x6 :: x7 :: x8 :: x9 :: x10 :: x11 :: x12 :: x13 :: x14 :: x15 :: x16 :: x17 :: x18 :: some t :: ρ)) AQ AX = AQ (.fz t.er) := by simp only [s_rV, s_envB, oB_s, List.getElem?_cons_succ, List.getElem?_cons_zero]
theorem v_19 {x0 x1 x2 x3 x4 x5 x6 x7 x8 x9 x10 x11 x12 x13 x14 x15 x16 x17 x18 : Option D} : rV 19 (x0 :: x1 :: x2 :: x3 :: x4 :: x5 :: x6 :: x7 :: x8 :: x9 :: x10 :: x11 :: x12 :: x13 :: x14 :: x15 :: x16 :: x17 :: x18 :: some d :: e) AQ AX = AQ (.fz d) := rfl
theorem v_F20 {x0 x1 x2 x3 x4 x5 x6 x7 x8 x9 x10 x11 x12 x13 x14 x15 x16 x17 x18 x19 : Option T} : rV 20 (envF (x0 :: x1 :: x2 :: x3 :: x4 :: x5 :: x6 :: x7 :: x8 :: x9 :: x10 :: x11 :: x12 :: x13 :: x14 :: x15 :: x16 :: x17 :: x18 :: x19 :: some (.fz d) :: ρ)) AQ AX = AQ (.fz d) := by simp only [s_rV, s_envF, oF_fz, List.getElem?_cons_succ, List.getElem?_cons_zero]
theorem v_B20 {x0 x1 x2 x3 x4 x5 x6 x7 x8 x9 x10 x11 x12 x13 x14 x15 x16 x17 x18 x19 : Option T} : rV 20 (envB (x0 :: x1 :: x2 :: x3 :: x4 :: x5 :: x6 :: x7 :: x8 :: x9 :: x10 :: x11 :: x12 :: x13 :: x14 :: x15 :: x16 :: x17 :: x18 :: x19 :: some t :: ρ)) AQ AX = AQ (.fz t.er) := by simp only [s_rV, s_envB, oB_s, List.getElem?_cons_succ, List.getElem?_cons_zero]
theorem v_20 {x0 x1 x2 x3 x4 x5 x6 x7 x8 x9 x10 x11 x12 x13 x14 x15 x16 x17 x18 x19 : Option D} : rV 20 (x0 :: x1 :: x2 :: x3 :: x4 :: x5 :: x6 :: x7 :: x8 :: x9 :: x10 :: x11 :: x12 :: x13 :: x14 :: x15 :: x16 :: x17 :: x18 :: x19 :: some d :: e) AQ AX = AQ (.fz d) := rfl
theorem v_F21 {x0 x1 x2 x3 x4 x5 x6 x7 x8 x9 x10 x11 x12 x13 x14 x15 x16 x17 x18 x19 x20 : Option T} : rV 21 (envF (x0 :: x1 :: x2 :: x3 :: x4 :: x5 :: x6 :: x7 :: x8 :: x9 :: x10 :: x11 :: x12 :: x13 :: x14 :: x15 :: x16 :: x17 :: x18 :: x19 :: x20 :: some (.fz d) :: ρ)) AQ AX = AQ (.fz d) := by simp only [s_rV, s_envF, oF_fz, List.getElem?_cons_succ, List.getElem?_cons_zero]
theorem v_B21 {x0 x1 x2 x3 x4 x5 x6 x7 x8 x9 x10 x11 x12 x13 x14 x15 x16 x17 x18 x19 x20 : Option T} : rV 21 (envB (x0 :: x1 :: x2 :: x3 :: x4 :: x5 :: x6 :: x7 :: x8 :: x9 :: x10 :: x11 :: x12 :: x13 :: x14 :: x15 :: x16 :: x17 :: x18 :: x19 :: x20 :: some t :: ρ)) AQ AX = AQ (.fz t.er) := by simp only [s_rV, s_envB, oB_s, List.getElem?_cons_succ, List.getElem?_cons_zero]
theorem v_21 {x0 x1 x2 x3 x4 x5 x6 x7 x8 x9 x10 x11 x12 x13 x14 x15 x16 x17 x18 x19 x20 : Option D} : rV 21 (x0 :: x1 :: x2 :: x3 :: x4 :: x5 :: x6 :: x7 :: x8 :: x9 :: x10 :: x11 :: x12 :: x13 :: x14 :: x15 :: x16 :: x17 :: x18 :: x19 :: x20 :: some d :: e) AQ AX = AQ (.fz d) := rfl
theorem v_F22 {x0 x1 x2 x3 x4 x5 x6 x7 x8 x9 x10 x11 x12 x13 x14 x15 x16 x17 x18 x19 x20 x21 : Option T} : rV 22 (envF (x0 :: x1 :: x2 :: x3 :: x4 :: x5 :: x6 :: x7 :: x8 :: x9 :: x10 :: x11 :: x12 :: x13 :: x14 :: x15 :: x16 :: x17 :: x18 :: x19 :: x20 :: x21 :: some (.fz d) :: ρ)) AQ AX = AQ (.fz d) := by simp only [s_rV, s_envF, oF_fz, List.getElem?_cons_succ, List.getElem?_cons_zero]
theorem v_B22 {x0 x1 x2 x3 x4 x5 x6 x7 x8 x9 x10 x11 x12 x13 x14 x15 x16 x17 x18 x19 x20 x21 : Option T} : rV 22 (envB (x0 :: x1 :: x2 :: x3 :: x4 :: x5 :: x6 :: x7 :: x8 :: x9 :: x10 :: x11 :: x12 :: x13 :: x14 :: x15 :: x16 :: x17 :: x18 :: x19 :: x20 :: x21 :: some t :: ρ)) AQ AX = AQ (.fz t.er) := by simp only [s_rV, s_envB, oB_s, List.getElem?_cons_succ, List.getElem?_cons_zero]
theorem v_22 {x0 x1 x2 x3 x4 x5 x6 x7 x8 x9 x10 x11 x12 x13 x14 x15 x16 x17 x18 x19 x20 x21 : Option D} : rV 22 (x0 :: x1 :: x2 :: x3 :: x4 :: x5 :: x6 :: x7 :: x8 :: x9 :: x10 :: x11 :: x12 :: x13 :: x14 :: x15 :: x16 :: x17 :: x18 :: x19 :: x20 :: x21 :: some d :: e) AQ AX = AQ (.fz d) := rfl
theorem v_F23 {x0 x1 x2 x3 x4 x5 x6 x7 x8 x9 x10 x11 x12 x13 x14 x15 x16 x17 x18 x19 x20 x21 x22 : Option T} : rV 23 (envF (x0 :: x1 :: x2 :: x3 :: x4 :: x5 :: x6 :: x7 :: x8 :: x9 :: x10 :: x11 :: x12 :: x13 :: x14 :: x15 :: x16 :: x17 :: x18 :: x19 :: x20 :: x21 :: x22 :: some (.fz d) :: ρ)) AQ AX = AQ (.fz d) := by simp only [s_rV, s_envF, oF_fz, List.getElem?_cons_succ, List.getElem?_cons_zero]
theorem v_B23 {x0 x1 x2 x3 x4 x5 x6 x7 x8 x9 x10 x11 x12 x13 x14 x15 x16 x17 x18 x19 x20 x21 x22 : Option T} : rV 23 (envB (x0 :: x1 :: x2 :: x3 :: x4 :: x5 :: x6 :: x7 :: x8 :: x9 :: x10 :: x11 :: x12 :: x13 :: x14 :: x15 :: x16 :: x17 :: x18 :: x19 :: x20 :: x21 :: x22 :: some t :: ρ)) AQ AX = AQ (.fz t.er) := by simp only [s_rV, s_envB, oB_s, List.getElem?_cons_succ, List.getElem?_cons_zero]
theorem v_23 {x0 x1 x2 x3 x4 x5 x6 x7 x8 x9 x10 x11 x12 x13 x14 x15 x16 x17 x18 x19 x20 x21 x22 : Option D} : rV 23 (x0 :: x1 :: x2 :: x3 :: x4 :: x5 :: x6 :: x7 :: x8 :: x9 :: x10 :: x11 :: x12 :: x13 :: x14 :: x15 :: x16 :: x17 :: x18 :: x19 :: x20 :: x21 :: x22 :: some d :: e) AQ AX = AQ (.fz d) := rfl
end
end AL

set_option Elab.async false
set_option linter.all false
set_option maxRecDepth 100000
set_option maxHeartbeats 4000000
/-! AL22: the top's facts over a literal list of addresses; the run's equation from its parts -/
namespace AL
open PySem PySem.W PySem.Calls PySem.Spec PyProof.Rows L2
def obsLG (as : List Addr) (fa : List He.Fa) (fn : List He.DefD) (ps : List DefP) (ex : PySem.W.Frag → Bool) (g : Addr → Option Obj) : AlP := obsP fa fn ps ex (He.frG g as)
def hookL (as : List Addr) (fa : List He.Fa) (fn : List He.DefD) (ps : List DefP) (ex : PySem.W.Frag → Bool) : PySem.W.Hook where
  α := AlP
  obs := fun s => obsLG as fa fn ps ex s.heap.get?
  val := fun _ => valP fn ps
  says := fun _ h => ∃ K : PySem.W.Frag, K.In h ∧ SaysP fa fn ps ex K
  of := fun _ _ e => ⟨_, He.frG_in, e⟩
  keeps := fun _ _ _ ⟨K, hK, c⟩ k => ⟨K, PySem.W.Frag.In.keeps hK k, c⟩
theorem obsLG_eq {as : List Addr} {fa : List He.Fa} {fn : List He.DefD} {ps : List DefP} {ex : PySem.W.Frag → Bool} {g : Addr → Option Obj} {s : Shared} (h : ∀ a, g a = s.heap.get? a) : obsLG as fa fn ps ex g = (hookL as fa fn ps ex).obs s := by
  have e : g = s.heap.get? := funext h
  rw [e] <;> rfl
/-- the state's fragment -/
def frL (as : List Addr) (s : PySem.W.SharedT) : PySem.W.Frag := He.frG (HandSHeadRun.getT s) as
section
variable {α : Type} {o : Option PySem.W.SharedT} {s : PySem.W.SharedT}
theorem part {f : PySem.W.SharedT → α} {v : α} (h : o.map f = some v) (e : o = some s) : f s = v := by
  rw [e] at h
  exact Option.some.inj h
end
theorem run_parts {r : PySem.W.OpenRow} {q : Program} {as : List Addr} {fa : List He.Fa} {fn : List He.DefD} {ps : List DefP} {ex : PySem.W.Frag → Bool} {M : Nat} {loose : List PySem.Str} {w : World}
    (v1 : ∀ os : OsState, (HandSHeadRun.endF (HandSHeadRun.stepQ (HandSHeadRun.denQ HandSHeadRun.tabQ) r.prog w) M r.prog w os).map (fun s => HandSHeadRun.looksF r.prog (boot_heap w.params) s.abs) = some true)
    (v2 : ∀ os : OsState, (HandSHeadRun.endF (HandSHeadRun.stepQ (HandSHeadRun.denQ HandSHeadRun.tabQ) r.prog w) M r.prog w os).map (fun s => HandSHeadRun.seenQ q loose (importedModules r.prog.main.body) (fun s => PySem.W.xlAt q [] s && PySem.W.recOk r.toRowW.records s) s.abs) = some (openGood q loose))
    (v3 : ∀ os : OsState, (HandSHeadRun.endF (HandSHeadRun.stepQ (HandSHeadRun.denQ HandSHeadRun.tabQ) r.prog w) M r.prog w os).map (fun s => fa.all fun f => f.ok (frL as s)) = some true)
    (v4 : ∀ os : OsState, (HandSHeadRun.endF (HandSHeadRun.stepQ (HandSHeadRun.denQ HandSHeadRun.tabQ) r.prog w) M r.prog w os).map (fun s => (fn.all fun d => d.ok (frL as s), fn.map fun d => He.fnW (frL as s) d.at_)) = some (true, fn.map He.DefD.val))
    (v5 : ∀ os : OsState, (HandSHeadRun.endF (HandSHeadRun.stepQ (HandSHeadRun.denQ HandSHeadRun.tabQ) r.prog w) M r.prog w os).map (fun s => (ex (frL as s) && ps.all fun d => d.ok (frL as s), ps.map fun d => fnWA (frL as s) (gAd (frL as s) d.C d.f))) = some (true, ps.map DefP.val)) :
    HandSHeadRun.RunEq r q (hookL as fa fn ps ex) (fun s => obsLG as fa fn ps ex (HandSHeadRun.getT s)) M loose w := by
  intro os
  obtain ⟨s, hs, e1⟩ := Option.map_eq_some_iff.mp (v1 os)
  have e2 := part (v2 os) hs
  have e3 := part (v3 os) hs
  have e4 := part (v4 os) hs
  have e5 := part (v5 os) hs
  simp only [Prod.mk.injEq] at e4 e5
  rw [hs]
  show some (_, _, ((fa.all (fun f => f.ok (frL as s)) && fn.all (fun d => d.ok (frL as s)), fn.map fun d => He.fnW (frL as s) d.at_), ex (frL as s) && ps.all (fun d => d.ok (frL as s)), ps.map fun d => fnWA (frL as s) (gAd (frL as s) d.C d.f))) = some (_, _, ((true, fn.map He.DefD.val), true, ps.map DefP.val))
  rw [e1, e2, e3, e4.1, e4.2, e5.1, e5.2]
  rfl
end AL

set_option Elab.async false
set_option linter.all false
set_option maxRecDepth 100000
set_option maxHeartbeats 4000000
namespace K78
open PySem PySem.Spec PyProof.Rows L2 AL
/-! ### the things -/
/-- xs[i] -/
def gt (xs : List Int) (i : Int) : Int := xs.getD i.toNat 0
/-- the names that bear strokes -/
def stand (e : List Int) : List Int := (e.zipIdx.filter fun p => decide (0 < p.1)).map fun p => (p.2 : Int)
/-- pieces of a weaving, strikes -/
abbrev Pc := Int × Int
abbrev Sk := Int × Int × Int
def dPc (p : Pc) : D := .tup [.int p.1, .int p.2]
def dP (ws : List Pc) : D := .lst (ws.map dPc)
def tPc (p : Pc) : T := .tup [.fz (.int p.1), .fz (.int p.2)]
def tP (ws : List Pc) : T := .lst (ws.map tPc)
def dSk (s : Sk) : D := .tup [.int s.1, .int s.2.1, .int s.2.2]
def dS (ss : List Sk) : D := .lst (ss.map dSk)
def tSk (s : Sk) : T := .tup [.fz (.int s.1), .fz (.int s.2.1), .fz (.int s.2.2)]
def tS (ss : List Sk) : T := .lst (ss.map tSk)
/-- a moment -/
def momNs : List Str := ["own_ranks", "own_left", "own_bears", "own_total", "own_standing"]
def mD (r : List (List Int)) (l e : List Int) : D := .obj "Moment" momNs [dII r, dI l, dI e, .int l.sum, dI (stand e)]
def mT (r : List (List Int)) (l e : List Int) : T := .ins "Moment" momNs [tII r, tI l, tI e, .fz (.int l.sum), tI (stand e)]
structure Good (r : List (List Int)) (l e : List Int) : Prop where
  r1 : 1 ≤ r.length
  r8 : r.length ≤ 8
  b1 : 1 ≤ e.length
  b8 : e.length ≤ 8
  ll : l.length = r.length
  rl : ∀ row ∈ r, row.length = e.length
  rr : ∀ row ∈ r, ∀ x ∈ row, 0 ≤ x ∧ x ≤ 1000000
  la : ∀ x ∈ l, 0 ≤ x ∧ x ≤ 100000000000000
  ba : ∀ x ∈ e, 0 ≤ x ∧ x ≤ 100000000000000
  eq : l.sum = e.sum
/-- a piece is taken off -/
def cutL (l : List Int) (p : Pc) : Option (List Int) := if 0 ≤ p.1 ∧ p.1 < l.length ∧ 1 ≤ p.2 ∧ p.2 ≤ gt l p.1 then some (l.set p.1.toNat (gt l p.1 - p.2)) else none
def cuts : List Int → List Pc → Option (List Int)
  | l, [] => some l
  | l, p :: ps => (cutL l p).bind fun l' => cuts l' ps
def okS (l e : List Int) (s : Sk) : Prop := 0 ≤ s.1 ∧ s.1 < l.length ∧ 0 ≤ s.2.1 ∧ s.2.1 < e.length ∧ 1 ≤ s.2.2 ∧ s.2.2 ≤ gt l s.1 ∧ s.2.2 ≤ gt e s.2.1
instance {l e : List Int} {s : Sk} : Decidable (okS l e s) := by unfold okS; infer_instance
def hitL (l : List Int) (s : Sk) : List Int := l.set s.1.toNat (gt l s.1 - s.2.2)
def hitE (e : List Int) (s : Sk) : List Int := e.set s.2.1.toNat (gt e s.2.1 - s.2.2)
/-- strikes played: what is left, or which one is refused -/
def play : List Int → List Int → List Sk → Nat → Except Nat (List Int × List Int)
  | l, e, [], _ => .ok (l, e)
  | l, e, s :: ss, k => if okS l e s then play (hitL l s) (hitE e s) ss (k + 1) else .error k
/-- the first member that is out of place -/
def late (m : Int) : Option Int → Bool
  | some q => decide (m ≤ q)
  | none => false
def badFrom (al : List Int) : Option Int → List Int → Nat → Option Nat
  | _, [], _ => none
  | p, m :: ms, k => if (!al.contains m || late m p) = true then some k else badFrom al (some m) ms (k + 1)
def badSet (ms al : List Int) : Option Nat := badFrom al none ms 0
def outs (e ns : List Int) : List Int := (stand e).filter fun x => !ns.contains x
def outS (e ns : List Int) : Int := ((outs e ns).map (gt e)).sum
def ownOf (ws : List Pc) (band : List Int) : Int := ((ws.filter fun p => band.contains p.1).map (·.2)).sum - (match ws.getLast? with
  | some p => if band.contains p.1 then 1 else 0
  | none => 0)
def guard (e ns : List Int) : Int := match outs e ns with
  | x :: _ => x
  | [] => (stand e).headD 0
def iota (n : Nat) : List Int := (List.range n).map fun i : Nat => (i : Int)
def xAt (n : Str) (k : Nat) : XD := ⟨n, [("at", .int k)]⟩
def xOver : XD := ⟨"Over", []⟩
/-! ### the accounts -/
def r_check_sides : FS := fs2 fun a b AQ _ => ∃ p n : Int, a = .int p ∧ b = .int n ∧ 1 ≤ p ∧ p ≤ 8 ∧ 1 ≤ n ∧ n ≤ 8 ∧ AQ (.fz .non)
def r_check_amounts : FS := fs3 fun a b c AQ _ => ∃ (xs : List Int) (l h : Int), a = dI xs ∧ b = .int l ∧ c = .int h ∧ (∀ x ∈ xs, l ≤ x ∧ x ≤ h) ∧ AQ (.fz .non)
def r_Moment___init__ : FS := fs3 fun a b c AQ _ => ∃ r l e, a = dII r ∧ b = dI l ∧ c = dI e ∧ Good r l e ∧ AQ (mT r l e)
def io_Moment___init__ : FIO := fun ts ds AQ => ts = [.ins "Moment" [] []] ∧ ∃ r l e, ds = [dII r, dI l, dI e] ∧ Good r l e ∧ AQ [mT r l e] .non
def r_Moment_ranks : FS := fs1 fun a AQ _ => ∃ r l e, a = mD r l e ∧ r.length ≤ 1000 ∧ AQ (tII r)
def r_Moment_left : FS := fs1 fun a AQ _ => ∃ r l e, a = mD r l e ∧ AQ (tI l)
def r_Moment_bears : FS := fs1 fun a AQ _ => ∃ r l e, a = mD r l e ∧ AQ (tI e)
def r_Moment_standing : FS := fs1 fun a AQ _ => ∃ r l e, a = mD r l e ∧ AQ (tI (stand e))
def r_Moment_is_over : FS := fs1 fun a AQ _ => ∃ r l e, a = mD r l e ∧ AQ (.fz (.bl (decide (l.sum = 0))))
def r_rest_behind : FS := fs2 fun a b AQ _ => ∃ r l e ws l', a = mD r l e ∧ b = dP ws ∧ cuts l ws = some l' ∧ AQ (.fz (.int l'.sum))
def r_check_weaving : FS := fs2 fun a b AQ _ => ∃ r l e ws l', a = mD r l e ∧ b = dP ws ∧ cuts l ws = some l' ∧ l'.sum = 0 ∧ AQ (.fz .non)
def r_check_pieces : FS := fs1 fun a AQ _ => ∃ ws : List Pc, a = dP ws ∧ (∀ p ∈ ws, 0 ≤ p.1 ∧ 1 ≤ p.2) ∧ AQ (.fz .non)
def r_effective : FS := fs2 fun a b AQ _ => ∃ (ws : List Pc) (band : List Int), a = dP ws ∧ b = dI band ∧ ws.length < 1000 ∧ (∀ p ∈ ws, 0 ≤ p.1 ∧ 1 ≤ p.2) ∧ (∀ x ∈ band, 0 ≤ x) ∧ band.Pairwise (· < ·) ∧ AQ (.fz (.int (ownOf ws band)))
def r_check_strike : FS := fs4 fun a b c d AQ AX => ∃ (l e : List Int) (s : Sk) (k : Nat), a = dI l ∧ b = dI e ∧ c = dSk s ∧ d = .int k ∧ (okS l e s → AQ (.fz .non)) ∧ (¬ okS l e s → AX (xAt "BadStrike" k))
def r_take_strike : FIO := fun ts ds AQ => ∃ (l e : List Int) (s : Sk), ts = [tI l, tI e] ∧ ds = [dSk s] ∧ okS l e s ∧ AQ [tI (hitL l s), tI (hitE e s)] .non
def r_is_out : FS := fs3 fun a b c AQ _ => ∃ (row e : List Int) (x : Int), a = dI row ∧ b = dI e ∧ c = .int x ∧ row.length = e.length ∧ e.length ≤ 8 ∧ 0 ≤ x ∧ x < e.length ∧ ∀ k, AQ (.fz (.bl k))
def r_walk : FS := fs2 fun a b AQ AX => ∃ r l e ss, a = mD r l e ∧ b = dS ss ∧ Good r l e ∧ ss.length < 1000 ∧ (∀ l' e', play l e ss 0 = .ok (l', e') → ∀ mk : List Bool, AQ (.tup [.fz (.lst (mk.map .bl)), .fz (dI l'), .fz (dI e')])) ∧ ∀ k, play l e ss 0 = .error k → AX (xAt "BadStrike" k)
def r_behind : FS := fs2 fun a b AQ AX => ∃ r l e ss, a = mD r l e ∧ b = dS ss ∧ Good r l e ∧ ss.length < 1000 ∧ (∀ l' e', play l e ss 0 = .ok (l', e') → AQ (mT r l' e')) ∧ ∀ k, play l e ss 0 = .error k → AX (xAt "BadStrike" k)
def r_check_numbers : FS := fs3 fun a b c AQ AX => b = .non ∧ c = .non ∧ ∃ r l e, a = mD r l e ∧ (l.sum ≠ 0 → AQ (.fz .non)) ∧ (l.sum = 0 → AX xOver)
def r_check_set : FS := fs2 fun a b AQ AX => ∃ ms al, a = dI ms ∧ b = dI al ∧ (badSet ms al = none → AQ (.fz .non)) ∧ ∀ k, badSet ms al = some k → AX (xAt "BadSet" k)
def r_check_band : FS := fs2 fun a b AQ AX => ∃ r l e ms, a = mD r l e ∧ b = dI ms ∧ l.length ≤ 8 ∧ badSet ms (iota l.length) = none ∧ AQ (.fz .non)
def r_outside_names : FS := fs2 fun a b AQ _ => ∃ r l e ns, a = mD r l e ∧ b = dI ns ∧ e.length ≤ 8 ∧ AQ (tI (outs e ns))
def r_outside_strokes : FS := fs2 fun a b AQ _ => ∃ r l e ns, a = mD r l e ∧ b = dI ns ∧ e.length ≤ 8 ∧ AQ (.fz (.int (outS e ns)))
def r_can_force : FS := fs4 fun a b c d AQ _ => ∃ r l e ws l' band ns, a = mD r l e ∧ b = dP ws ∧ c = dI band ∧ d = dI ns ∧ Good r l e ∧ l.sum ≠ 0 ∧ ws.length < 1000 ∧ cuts l ws = some l' ∧ l'.sum = 0 ∧ badSet band (iota l.length) = none ∧ badSet ns (stand e) = none ∧ AQ (.fz (.bl (decide (outS e ns ≤ ownOf ws band))))
def r_guard_of : FS := fs2 fun a b AQ AX => ∃ r l e ns, a = mD r l e ∧ b = dI ns ∧ Good r l e ∧ (l.sum = 0 → AX xOver) ∧ (l.sum ≠ 0 → ∀ k, badSet ns (stand e) = some k → AX (xAt "BadSet" k)) ∧ (l.sum ≠ 0 → badSet ns (stand e) = none → AQ (.fz (.int (guard e ns))))
def r__law_mix : FS := fs2 fun a b AQ _ => ∃ x y : Int, a = .int x ∧ b = .int y ∧ ∀ r, 0 ≤ r → AQ (.fz (.int r))
def r__law_store : FS := fs1 fun a AQ _ => ∃ ns, a = .scr none ns ∧ ns.length ≤ 63 ∧ ∀ seed, AQ (.lst [.lst ((ns.map D.int).map .fz), .fz (.int 0), .fz (.int 0), .fz (.int 0), .fz (.int seed)])
def r__law_take : FS := fs2 fTake
def r__law_number : FS := fs2 fun a b AQ _ => a = .sto ∧ ∃ m : Int, b = .int m ∧ 1 ≤ m ∧ ∀ r, 0 ≤ r → r < m → AQ (.fz (.int r))
def rBetween : D → D → D → TQ → XQ → Prop := fun a b c AQ _ => a = .sto ∧ ∃ lo hi : Int, b = .int lo ∧ c = .int hi ∧ lo ≤ hi ∧ ∀ r, lo ≤ r → r ≤ hi → AQ (.fz (.int r))
def r__law_between : FS := fs3 rBetween
def r__law_near_ends : FS := fs3 rBetween
def r__law_pick : FS := fs2 fun a b AQ _ => a = .sto ∧ ∃ ds : List D, b = .lst ds ∧ ds ≠ [] ∧ ds.length < 1000000 ∧ ∀ d ∈ ds, AQ (.fz d)
def r__law_shuffled : FS := fs2 fun a b AQ _ => a = .sto ∧ ∃ xs : List Int, b = dI xs ∧ xs.length < 1000000 ∧ ∀ ys : List Int, ys.Perm xs → AQ (tI ys)
def r__law_some : FS := fs2 fun a b AQ _ => a = .sto ∧ ∃ xs : List Int, b = dI xs ∧ xs.length < 1000000 ∧ ∀ ys : List Int, ys.Sublist xs → AQ (tI ys)
/-! plain data of such a depth -/
mutual
def D.flatN : D → Nat → Bool
  | .non, _ | .bl _, _ | .int _, _ | .str _, _ => true
  | .lst ds, n + 1 | .tup ds, n + 1 => D.flatNs ds n && decide (ds.length < 1000000)
  | _, _ => false
def D.flatNs : List D → Nat → Bool
  | [], _ => true
  | d :: ds, n => D.flatN d n && D.flatNs ds n
end
def rn__law_same (n : Nat) : FS := fs2 fun a b AQ _ => a = b ∧ D.flatN a n = true ∧ AQ (.fz (.bl true))
def r__law_same : FS := rn__law_same 5
def r__law_parts : FS := fs4 fun a b c d AQ _ => a = .sto ∧ ∃ total many most : Int, b = .int total ∧ c = .int many ∧ d = .int most ∧ 0 ≤ many ∧ many ≤ 8 ∧ 0 ≤ most ∧ 0 ≤ total ∧ total ≤ most * many ∧
  ∀ zs : List Int, (zs.length : Int) = many → (∀ z ∈ zs, 0 ≤ z ∧ z ≤ most) → zs.sum = total → AQ (tI zs)
def r__law_standing : FS := fs1 fun a AQ _ => ∃ e, a = dI e ∧ e.length ≤ 8 ∧ AQ (tI (stand e))
def r__law_turns : FS := fs3 fun a b c AQ _ => a = .sto ∧ ∃ (l : List Int) (p : Int), b = dI l ∧ c = .int p ∧ l.length ≤ 8 ∧ (∀ x ∈ l, 0 ≤ x) ∧ 0 ≤ p ∧ p ≤ 100 ∧ ∀ (ws : List Pc) l', (ws.length : Int) ≤ p + 8 → cuts l ws = some l' → (∀ x ∈ l', x = 0) → AQ (tP ws)
def r__law_ranks : FS := fs3 fun a b c AQ _ => a = .sto ∧ ∃ (e : List Int) (k : Bool), b = dI e ∧ c = .bl k ∧ 1 ≤ e.length ∧ e.length ≤ 8 ∧ ∀ row : List Int, row.length = e.length → (∀ x ∈ row, 0 ≤ x ∧ x ≤ 1000000) → AQ (tI row)
def r__law_world : FS := fs4 fun a b c d AQ _ => a = .sto ∧ ∃ (most total : Int) (k : Bool), b = .int most ∧ c = .int total ∧ d = .bl k ∧ 1 ≤ most ∧ most ≤ 8 ∧ 1 ≤ total ∧ total ≤ 1000000000000000 ∧
  ∀ r l e, Good r l e → 0 < l.sum → AQ (.tup [.fz (dII r), .fz (dI l), .fz (dI e)])
def shp (r : List (List Int)) (l e : List Int) : D := .tup [dII r, dI l, dI e]
def r__law_made : FS := fs1 fun a AQ _ => ∃ r l e, a = shp r l e ∧ Good r l e ∧ AQ (mT r l e)
def r__law_kept : FS := fs2 fun a b AQ _ => ∃ r l e, a = mD r l e ∧ b = shp r l e ∧ r.length ≤ 8 ∧ l.length ≤ 8 ∧ e.length ≤ 8 ∧ (∀ row ∈ r, row.length ≤ 8) ∧ AQ (.fz (.bl true))
def nul (n : Nat) : List Int := List.replicate n 0
def r__law_ended : FS := fs1 fun a AQ _ => ∃ r l e, a = shp r l e ∧ Good r l e ∧ AQ (mT r (nul l.length) (nul e.length))
def r__law_odd : FS := fs2 fun a b AQ _ => a = .sto ∧ ∃ m : Int, b = .int m ∧ 1 ≤ m ∧ m ≤ 8 ∧ ∀ k, (k < 0 ∨ m ≤ k) → AQ (.fz (.int k))
def r__law_bent_set : FS := fs3 fun a b c AQ _ => a = .sto ∧ ∃ ms row : List Int, b = dI ms ∧ c = dI row ∧ row.length ≤ 8 ∧ ms.length ≤ 8 ∧ (∀ x ∈ row, 0 ≤ x ∧ x < 8) ∧ badSet ms row = none ∧ ∀ ms' k, ms'.length ≤ 9 → badSet ms' row = some k → AQ (.tup [tI ms', .fz (.int k)])
def r__law_refused : FX := fun x AQ => (x = xOver ∧ AQ (.fz (.tup [.str "Over"]))) ∨ (∃ k, x = xAt "BadSet" k ∧ AQ (.fz (.tup [.str "BadSet", .int k]))) ∨ ∃ k, x = xAt "BadStrike" k ∧ AQ (.fz (.tup [.str "BadStrike", .int k]))
def r__law_own : FS := fs2 fun a b AQ _ => ∃ (ws : List Pc) (band : List Int), a = dP ws ∧ b = dI band ∧ ws ≠ [] ∧ ws.length < 1000 ∧ AQ (.fz (.int (ownOf ws band)))
def r__law_near : FS := fs4 fun a b c d AQ _ => a = .sto ∧ ∃ (l : List Int) (ws : List Pc) (over : Int), b = dI l ∧ c = dP ws ∧ d = .int over ∧ l.length ≤ 8 ∧ ws ≠ [] ∧ ws.length < 1000 ∧ ∀ band, badSet band (iota l.length) = none → AQ (.fz (dI band))
def r__law_guard_due : FS := fs2 fun a b AQ _ => ∃ e ns, a = dI e ∧ b = dI ns ∧ e.length ≤ 8 ∧ stand e ≠ [] ∧ AQ (.fz (.int (guard e ns)))
def dTold (x : List D) : D := .tup (.str "told" :: x)
def dRef (n : Str) (xs : List D) : D := .tup [.str "refused", .tup (.str n :: xs)]
def r__law_guard : FS := fs2 fun a b AQ _ => ∃ r l e ns, a = mD r l e ∧ b = dI ns ∧ Good r l e ∧ ns.length ≤ 100 ∧ (l.sum = 0 → AQ (.fz (dRef "Over" []))) ∧ (l.sum ≠ 0 → ∀ k, badSet ns (stand e) = some k → AQ (.fz (dRef "BadSet" [.int k]))) ∧ (l.sum ≠ 0 → badSet ns (stand e) = none → AQ (.fz (dTold [.int (guard e ns)])))
def r__law_behind : FS := fs2 fun a b AQ _ => ∃ r l e ss, a = mD r l e ∧ b = dS ss ∧ Good r l e ∧ ss.length < 1000 ∧ (∀ l' e', play l e ss 0 = .ok (l', e') → AQ (.fz (dTold [dII r, dI l', dI e', .bl (decide (l'.sum = 0))]))) ∧ ∀ k, play l e ss 0 = .error k → AQ (.fz (dRef "BadStrike" [.int k]))
/-- who has a side's strokes ahead of the last one -/
def r__law_played : FS := fs6 fun a b c d s n AQ _ => a = .sto ∧ ∃ r l e ws l' side aim, b = shp r l e ∧ c = mD r l e ∧ d = dP ws ∧ s = dI side ∧ n = dI aim ∧ Good r l e ∧ 0 < l.sum ∧ ws.length < 80 ∧ cuts l ws = some l' ∧ (∀ x ∈ l', x = 0) ∧ badSet side (iota l.length) = none ∧ badSet aim (stand e) = none ∧ outS e aim ≤ ownOf ws side ∧
  ∀ (ss : List Sk) (s : Sk), ss.length < 980 → play l e (ss ++ [s]) 0 = .ok (nul l.length, nul e.length) → s.2.1 ∈ aim → AQ (tS (ss ++ [s]))
def r__law_refusals : FS := fs5 fun a b c d n AQ _ => a = .sto ∧ ∃ r l e ns ss l' e', b = shp r l e ∧ c = mD r l e ∧ d = dI ns ∧ n = dS ss ∧ Good r l e ∧ 0 < l.sum ∧ badSet ns (stand e) = none ∧ ss.length < 990 ∧ play l e ss 0 = .ok (l', e') ∧ AQ (.fz (.bl true))
end K78

set_option Elab.async false
set_option linter.all false
set_option maxRecDepth 100000
set_option maxHeartbeats 4000000
namespace K78
open PySem PySem.Spec PyProof.Rows L2 L2H AL

def xns0 : List Str := ["Over", "BadSet", "BadStrike"]
def xns : List Str := xns0
def xtup0 : List Str := ["BadLine", "Empty", "TooMany", "BadWord", "Doubled", "BadShare", "BadRanking", "BadRange", "BadPlace", "Unequal", "Unknown", "Fallen", "BadChooser", "TiedRanks", "BadWeaving", "BadStages", "BadOrder", "BadSize", "BadTable", "TooMuch", "BadSum", "Unfinished", "OutOfRank", "BadSpan", "NoBlock", "BadBargain", "NoPairing", "NotLast", "NotObtainable", "NotNear"]
def xtup1 : List Str := ["NoBottom", "Clash", "Shared", "Different", "LastName", "NoPost", "BadDeed", "BadStamp", "StampTaken", "NoDeed"]
def xtup : List Str := xtup0 ++ xtup1
def a_check_sides : RS := (aSeq (aIf (rOr (rTB (r2 fEq (rV 0) (rD (.int 0)))) (rTB (r2 fEq (rV 1) (rD (.int 0)))))
 (aSeq aNev
 aNext)
 aNext)
 (aSeq (aIf (rOr (rTB (r2 fGt (rV 0) (rD (.int 8)))) (rTB (r2 fGt (rV 1) (rD (.int 8)))))
 (aSeq aNev
 aNext)
 aNext)
 aNext))
def a_check_amounts : RS := (aSeq (aFor (rIN gEnum (rCons (rV 0) rNil)) (.tp [.nm 3, .nm 4])
 (aSeq (aIf (rOr (rTB (r2 fLt (rV 4) (rV 1))) (rTB (r2 fGt (rV 4) (rV 2))))
 (aSeq aNev
 aNext)
 aNext)
 aNext))
 aNext)
def a_Moment___init__ : RS := (aSeq (aExp (rCall r_check_sides [] (rCons (rN fLen (rCons (rV 1) rNil)) (rCons (rN fLen (rCons (rV 3) rNil)) rNil))))
 (aSeq (aExp (rCall r_check_amounts [] (rCons (r2 fAdd (rN fList (rCons (rV 2) rNil)) (rN fList (rCons (rV 3) rNil))) (rCons (rD (.int 0)) (rCons (rD (.int 100000000000000)) rNil)))))
 (aSeq (aFor (rIN gEnum (rCons (rV 1) rNil)) (.tp [.nm 4, .nm 5])
 (aSeq (aIf (rOr (rTB (r2 fLt (rN (fInts gMin) (rCons (rV 5) rNil)) (rD (.int 0)))) (rTB (r2 fGt (rN (fInts gMax) (rCons (rV 5) rNil)) (rD (.int 1000000)))))
 (aSeq aNev
 aNext)
 aNext)
 aNext))
 (aSeq (aIf (rTB (r2 fNe (rN (fInts gSum) (rCons (rV 2) rNil)) (rN (fInts gSum) (rCons (rV 3) rNil))))
 (aSeq aNev
 aNext)
 aNext)
 (aSeq (aFld "Moment" "own_ranks" 0 (rLc (rIList (rV 1)) (.nm 5) rYes (rN fList (rCons (rV 5) rNil)) [5]))
 (aSeq (aFld "Moment" "own_left" 0 (rN fList (rCons (rV 2) rNil)))
 (aSeq (aFld "Moment" "own_bears" 0 (rN fList (rCons (rV 3) rNil)))
 (aSeq (aFld "Moment" "own_total" 0 (rN (fInts gSum) (rCons (rV 2) rNil)))
 (aSeq (aFld "Moment" "own_standing" 0 (rLc (rIN gEnum (rCons (rV 3) rNil)) (.tp [.nm 6, .nm 7]) (rTB (r2 fGt (rV 7) (rD (.int 0)))) (rV 6) [6, 7]))
 aNext)))))))))
def a_Moment_ranks : RS := (aSeq (aRet (rLc (rIList (rFld "Moment" "own_ranks" (rV 0))) (.nm 1) rYes (rN fList (rCons (rV 1) rNil)) [1]))
 aNext)
def a_Moment_left : RS := (aSeq (aRet (rN fList (rCons (rFld "Moment" "own_left" (rV 0)) rNil)))
 aNext)
def a_Moment_bears : RS := (aSeq (aRet (rN fList (rCons (rFld "Moment" "own_bears" (rV 0)) rNil)))
 aNext)
def a_Moment_standing : RS := (aSeq (aRet (rN fList (rCons (rFld "Moment" "own_standing" (rV 0)) rNil)))
 aNext)
def a_Moment_is_over : RS := (aSeq (aRet (r2 fEq (rFld "Moment" "own_total" (rV 0)) (rD (.int 0))))
 aNext)
def a_rest_behind : RS := (aSeq (aSet 2 (rN fList (rCons (rProp "Moment" r_Moment_left (rV 0)) rNil)))
 (aSeq (aFor (rIN gEnum (rCons (rV 1) rNil)) (.tp [.nm 3, .tp [.nm 4, .nm 5]])
 (aSeq (aIf (rOr (rTB (r2 fLt (rV 4) (rD (.int 0)))) (rOr (rTB (r2 fGe (rV 4) (rN fLen (rCons (rV 2) rNil)))) (rOr (rTB (r2 fLt (rV 5) (rD (.int 1)))) (rTB (r2 fGt (rV 5) (r2 fIx (rV 2) (rV 4)))))))
 (aSeq aNev
 aNext)
 aNext)
 (aSeq (aSetIx 2 (r2 fSub (r2 fIx (rV 2) (rV 4)) (rV 5)) (rV 4))
 aNext)))
 (aFrz 2 (aSeq (aRet (rN (fInts gSum) (rCons (rV 2) rNil)))
 aNext))))
def a_check_weaving : RS := (aSeq (aIf (rTB (r2 fNe (rCall r_rest_behind [] (rCons (rV 0) (rCons (rV 1) rNil))) (rD (.int 0))))
 (aSeq aNev
 aNext)
 aNext)
 aNext)
def a_check_pieces : RS := (aSeq (aFor (rIN gEnum (rCons (rV 0) rNil)) (.tp [.nm 1, .tp [.nm 2, .nm 3]])
 (aSeq (aIf (rOr (rTB (r2 fLt (rV 2) (rD (.int 0)))) (rTB (r2 fLt (rV 3) (rD (.int 1)))))
 (aSeq aNev
 aNext)
 aNext)
 aNext))
 aNext)
def a_effective : RS := (aSeq (aExp (rCall r_check_pieces [] (rCons (rV 0) rNil)))
 (aSeq (aFor (rIN gEnum (rCons (rV 1) rNil)) (.tp [.nm 2, .nm 3])
 (aSeq (aIf (rOr (rTB (r2 fLt (rV 3) (rD (.int 0)))) (rAnd (rTB (r2 fGt (rV 2) (rD (.int 0)))) (rTB (r2 fLe (rV 3) (r2 fIx (rV 1) (r2 fSub (rV 2) (rD (.int 1))))))))
 (aSeq (aRaise1 "BadSet" "at" (rV 2))
 aNext)
 aNext)
 aNext))
 (aSeq (aSetZ 4 (rN (fInts gSum) (rCons (rLc (rIList (rV 0)) (.tp [.nm 3, .nm 5]) (rTB (r2 (fIn false) (rV 3) (rV 1))) (rV 5) [3, 5]) rNil)))
 (aSeq (aIf (rAnd (rTB (r2 fGt (rN fLen (rCons (rV 0) rNil)) (rD (.int 0)))) (rTB (r2 (fIn false) (r2 fIx (r2 fIx (rV 0) (r1 fNeg (rD (.int 1)))) (rD (.int 0))) (rV 1))))
 (aSeq (aRet (r2 fSub (rV 4) (rD (.int 1))))
 aNext)
 aNext)
 (aSeq (aRet (rV 4))
 aNext)))))
def a_check_strike : RS := (aSeq (aSetT (.tp [.nm 4, .nm 5, .nm 6]) (rV 2))
 (aSeq (aIf (rOr (rTB (r2 fLt (rV 4) (rD (.int 0)))) (rOr (rTB (r2 fGe (rV 4) (rN fLen (rCons (rV 0) rNil)))) (rOr (rTB (r2 fLt (rV 5) (rD (.int 0)))) (rTB (r2 fGe (rV 5) (rN fLen (rCons (rV 1) rNil)))))))
 (aSeq (aRaise1 "BadStrike" "at" (rV 3))
 aNext)
 aNext)
 (aSeq (aIf (rOr (rTB (r2 fLt (rV 6) (rD (.int 1)))) (rOr (rTB (r2 fGt (rV 6) (r2 fIx (rV 0) (rV 4)))) (rTB (r2 fGt (rV 6) (r2 fIx (rV 1) (rV 5))))))
 (aSeq (aRaise1 "BadStrike" "at" (rV 3))
 aNext)
 aNext)
 aNext)))
def a_take_strike : RS := (aSeq (aSetT (.tp [.nm 3, .nm 4, .nm 5]) (rV 2))
 (aSeq (aSetIx 0 (r2 fSub (r2 fIx (rV 0) (rV 3)) (rV 5)) (rV 3))
 (aSeq (aSetIx 1 (r2 fSub (r2 fIx (rV 1) (rV 4)) (rV 5)) (rV 4))
 aNext)))
def a_is_out : RS := (aSeq (aRet (rN (fBls gAny) (rCons (rLc (rIN gR1 (rCons (rN fLen (rCons (rV 1) rNil)) rNil)) (.nm 3) rYes (rAndV (r2 fGt (r2 fIx (rV 1) (rV 3)) (rD (.int 0))) (r2 fGt (r2 fIx (rV 0) (rV 3)) (r2 fIx (rV 0) (rV 2)))) [3]) rNil)))
 aNext)
def a_walk : RS := (aSeq (aSetZ 2 (rProp "Moment" r_Moment_ranks (rV 0)))
 (aSeq (aSet 3 (rN fList (rCons (rProp "Moment" r_Moment_left (rV 0)) rNil)))
 (aSeq (aSet 4 (rN fList (rCons (rProp "Moment" r_Moment_bears (rV 0)) rNil)))
 (aSeq (aSet 5 (rLst rNil))
 (aSeq (aFor (rIN gEnum (rCons (rV 1) rNil)) (.tp [.nm 6, .nm 7])
 (aSeq (aExp (rCall r_check_strike [] (rCons (rV 3) (rCons (rV 4) (rCons (rV 7) (rCons (rV 6) rNil))))))
 (aSeq (aApp 5 (rCall r_is_out [] (rCons (r2 fIx (rV 2) (r2 fIx (rV 7) (rD (.int 0)))) (rCons (rV 4) (rCons (r2 fIx (rV 7) (rD (.int 1))) rNil)))))
 (aSeq (aIO2 3 4 r_take_strike (rCons (rV 7) rNil))
 aNext))))
 (aFrz 5 (aFrz 4 (aFrz 3 (aSeq (aRet (rTupD (rCons (rV 5) (rCons (rV 3) (rCons (rV 4) rNil)))))
 aNext)))))))))
def a_behind : RS := (aSeq (aSetT (.tp [.nm 2, .nm 3, .nm 4]) (rCall r_walk [] (rCons (rV 0) (rCons (rV 1) rNil))))
 (aSeq (aRet (rMake r_Moment___init__ (rCons (rProp "Moment" r_Moment_ranks (rV 0)) (rCons (rV 3) (rCons (rV 4) rNil)))))
 aNext))
def a_check_numbers : RS := (aSeq (aSetZ 3 (rProp "Moment" r_Moment_bears (rV 0)))
 (aSeq (aIf (rAnd (rTB (rIsNon true (rV 1))) rNevT)
 (aSeq aNev
 aNext)
 aNext)
 (aSeq (aIf (rAnd (rTB (rIsNon true (rV 2))) rNevT)
 (aSeq aNev
 aNext)
 aNext)
 (aSeq (aIf (rTB (rProp "Moment" r_Moment_is_over (rV 0)))
 (aSeq (aRaise0 "Over")
 aNext)
 aNext)
 (aSeq (aIf (rAnd (rTB (rIsNon true (rV 2))) (rTB (r2 fEq (r2 fIx (rV 3) (rV 2)) (rD (.int 0)))))
 (aSeq aNev
 aNext)
 aNext)
 aNext)))))
def a_check_set : RS := (aSeq (aFor (rIN gEnum (rCons (rV 0) rNil)) (.tp [.nm 2, .nm 3])
 (aSeq (aIf (rOr (rTB (r2 (fIn true) (rV 3) (rV 1))) (rAnd (rTB (r2 fGt (rV 2) (rD (.int 0)))) (rTB (r2 fLe (rV 3) (r2 fIx (rV 0) (r2 fSub (rV 2) (rD (.int 1))))))))
 (aSeq (aRaise1 "BadSet" "at" (rV 2))
 aNext)
 aNext)
 aNext))
 aNext)
def a_check_band : RS := (aSeq (aExp (rCall r_check_set [] (rCons (rV 1) (rCons (rLstRg (rRg1 (rN fLen (rCons (rProp "Moment" r_Moment_left (rV 0)) rNil)))) rNil))))
 aNext)
def a_outside_names : RS := (aSeq (aRet (rLc (rIList (rProp "Moment" r_Moment_standing (rV 0))) (.nm 2) (rTB (r2 (fIn true) (rV 2) (rV 1))) (rV 2) [2]))
 aNext)
def a_outside_strokes : RS := (aSeq (aSetZ 2 (rProp "Moment" r_Moment_bears (rV 0)))
 (aSeq (aRet (rN (fInts gSum) (rCons (rLc (rIList (rCall r_outside_names [] (rCons (rV 0) (rCons (rV 1) rNil)))) (.nm 3) rYes (r2 fIx (rV 2) (rV 3)) [3]) rNil)))
 aNext))
def a_can_force : RS := (aSeq (aExp (rCall r_check_numbers [.non, .non] (rCons (rV 0) rNil)))
 (aSeq (aExp (rCall r_check_weaving [] (rCons (rV 0) (rCons (rV 1) rNil))))
 (aSeq (aExp (rCall r_check_band [] (rCons (rV 0) (rCons (rV 2) rNil))))
 (aSeq (aExp (rCall r_check_set [] (rCons (rV 3) (rCons (rProp "Moment" r_Moment_standing (rV 0)) rNil))))
 (aSeq (aRet (r2 fGe (rCall r_effective [] (rCons (rV 1) (rCons (rV 2) rNil))) (rCall r_outside_strokes [] (rCons (rV 0) (rCons (rV 3) rNil)))))
 aNext)))))
def a_guard_of : RS := (aSeq (aExp (rCall r_check_numbers [.non, .non] (rCons (rV 0) rNil)))
 (aSeq (aExp (rCall r_check_set [] (rCons (rV 1) (rCons (rProp "Moment" r_Moment_standing (rV 0)) rNil))))
 (aSeq (aSetZ 2 (rCall r_outside_names [] (rCons (rV 0) (rCons (rV 1) rNil))))
 (aSeq (aIf (rTB (r2 fGt (rN fLen (rCons (rV 2) rNil)) (rD (.int 0))))
 (aSeq (aRet (r2 fIx (rV 2) (rD (.int 0))))
 aNext)
 aNext)
 (aSeq (aRet (r2 fIx (rProp "Moment" r_Moment_standing (rV 0)) (rD (.int 0))))
 aNext)))))
def a__law_mix : RS := (aSeq (aSetZ 2 (r2 fMod (r2 fAdd (r2 fAdd (r2 fMul (r2 fMod (rN fInt (rCons (rV 0) rNil)) (rD (.int 2147483647))) (rD (.int 48271))) (r2 fMul (r2 fMod (rN fInt (rCons (rV 1) rNil)) (rD (.int 2147483647))) (rD (.int 69621)))) (rD (.int 12347))) (rD (.int 2147483647))))
 (aSeq (aSetZ 2 (r2 fMod (r2 fAdd (r2 fAdd (r2 fMul (rV 2) (rV 2)) (r2 fMul (rV 2) (rD (.int 40692)))) (rD (.int 1973))) (rD (.int 2147483629))))
 (aSeq (aSetZ 2 (r2 fMod (r2 fAdd (r2 fAdd (r2 fMul (rV 2) (rD (.int 16807))) (r2 fMul (r2 fMod (rN fInt (rCons (rV 1) rNil)) (rD (.int 1000003))) (rD (.int 30011)))) (rD (.int 5501))) (rD (.int 2147483587))))
 (aSeq (aRet (r2 fMod (r2 fAdd (r2 fAdd (r2 fMul (rV 2) (rV 2)) (r2 fMul (rV 2) (rD (.int 39373)))) (rD (.int 811))) (rD (.int 2147483563))))
 aNext))))
def a__law_store : RS := (aSeq (aSetZ 1 (rCall r__law_mix [] (rCons (rN fLen (rCons (rV 0) rNil)) (rCons (rD (.int 5)) rNil))))
 (aSeq (aFor (rIList (rV 0)) (.nm 2)
 (aSeq (aSetZ 1 (rCall r__law_mix [] (rCons (rV 1) (rCons (rV 2) rNil))))
 aNext))
 (aSeq (aRet (rLst (rCons (rN fList (rCons (rV 0) rNil)) (rCons (rD (.int 0)) (rCons (rD (.int 0)) (rCons (rD (.int 0)) (rCons (rV 1) rNil)))))))
 aNext)))
def a__law_take : RS := (aSeq (aIf (rTB (r2 fLe (rV 1) (rD (.int 1))))
 (aSeq (aRet (rD (.int 0)))
 aNext)
 aNext)
 (aSeq (aSetIx 0 (r2 fAdd (r2 fIx (rV 0) (rD (.int 3))) (rD (.int 1))) (rD (.int 3)))
 (aSeq (aIf (rAnd (rTB (r2 fEq (r2 fIx (rV 0) (rD (.int 2))) (rD (.int 0)))) (rTB (r2 fLt (r2 fIx (rV 0) (rD (.int 1))) (rN fLen (rCons (r2 fIx (rV 0) (rD (.int 0))) rNil)))))
 (aSeq (aSetB 2 (r2 fIx (r2 fIx (rV 0) (rD (.int 0))) (r2 fIx (rV 0) (rD (.int 1)))))
 (aFrz 2 (aSeq (aSetIx 0 (r2 fAdd (r2 fIx (rV 0) (rD (.int 1))) (rD (.int 1))) (rD (.int 1)))
 (aSeq (aIf (rTB (r2 fLt (rN fAbs (rCons (rV 2) rNil)) (r2 fPow (rD (.int 10)) (rD (.int 18)))))
 (aSeq (aRetB (r2 fMod (rN fInt (rCons (rCall r__law_mix [] (rCons (rV 2) (rCons (r2 fIx (rV 0) (rD (.int 3))) rNil))) rNil)) (rV 1)))
 aNext)
 aNext)
 (aSeq (aSetIx 0 (rN fAbs (rCons (rV 2) rNil)) (rD (.int 2)))
 aNext)))))
 aNext)
 (aSeq (aIf (rTB (r2 fGt (r2 fIx (rV 0) (rD (.int 2))) (rD (.int 0))))
 (aSeq (aSetB 3 (r2 fMod (rN fInt (rCons (r2 fIx (rV 0) (rD (.int 2))) rNil)) (rV 1)))
 (aFrz 3 (aSeq (aSetIx 0 (r2 fDiv (rN fInt (rCons (r2 fIx (rV 0) (rD (.int 2))) rNil)) (rV 1)) (rD (.int 2)))
 (aSeq (aRet (rV 3))
 aNext))))
 aNext)
 (aSeq (aRetB (r2 fMod (rN fInt (rCons (rCall r__law_mix [] (rCons (r2 fIx (rV 0) (rD (.int 4))) (rCons (r2 fIx (rV 0) (rD (.int 3))) rNil))) rNil)) (rV 1)))
 aNext)))))
def a__law_number : RS := (aSeq (aIf (rTB (r2 fLe (rV 1) (r2 fPow (rD (.int 10)) (rD (.int 6)))))
 (aSeq (aRet (rCall r__law_take [] (rCons (rV 0) (rCons (rV 1) rNil))))
 aNext)
 aNext)
 (aSeq (aSetZ 2 (rD (.int 0)))
 (aSeq (aSetZ 3 (rD (.int 1)))
 (aSeq (aFor (rIN gR1 (rCons (rD (.int 70)) rNil)) (.nm 4)
 (aSeq (aIf (rTB (r2 fGe (rV 3) (rV 1)))
 (aSeq aBrk
 aNext)
 aNext)
 (aSeq (aSetZ 2 (r2 fAdd (r2 fMul (rV 2) (r2 fPow (rD (.int 10)) (rD (.int 6)))) (rCall r__law_take [] (rCons (rV 0) (rCons (r2 fPow (rD (.int 10)) (rD (.int 6))) rNil)))))
 (aSeq (aSetZ 3 (r2 fMul (rV 3) (r2 fPow (rD (.int 10)) (rD (.int 6)))))
 aNext))))
 (aSeq (aRet (r2 fMod (rV 2) (rV 1)))
 aNext)))))
def a__law_between : RS := (aSeq (aRet (r2 fAdd (rV 1) (rCall r__law_number [] (rCons (rV 0) (rCons (r2 fAdd (r2 fSub (rV 2) (rV 1)) (rD (.int 1))) rNil)))))
 aNext)
def a__law_near_ends : RS := (aSeq (aSetZ 3 (rCall r__law_take [] (rCons (rV 0) (rCons (rD (.int 6)) rNil))))
 (aSeq (aIf (rTB (r2 fEq (rV 3) (rD (.int 0))))
 (aSeq (aRet (rV 1))
 aNext)
 aNext)
 (aSeq (aIf (rTB (r2 fEq (rV 3) (rD (.int 1))))
 (aSeq (aRet (rN (fMM fun i j => max i j) (rCons (rV 1) (rCons (rV 2) rNil))))
 aNext)
 aNext)
 (aSeq (aRet (rCall r__law_between [] (rCons (rV 0) (rCons (rV 1) (rCons (rV 2) rNil)))))
 aNext))))
def a__law_pick : RS := (aSeq (aRet (r2 fIx (rV 1) (rCall r__law_take [] (rCons (rV 0) (rCons (rN fLen (rCons (rV 1) rNil)) rNil)))))
 aNext)
def a__law_shuffled : RS := (aSeq (aSet 2 (rN fList (rCons (rV 1) rNil)))
 (aSeq (aForB (rIN gR3 (rCons (r2 fSub (rN fLen (rCons (rV 2) rNil)) (rD (.int 1))) (rCons (rD (.int 0)) (rCons (r1 fNeg (rD (.int 1))) rNil)))) (.nm 3)
 (aSeq (aSetZ 4 (rCall r__law_take [] (rCons (rV 0) (rCons (r2 fAdd (rV 3) (rD (.int 1))) rNil))))
 (aSeq (aSetB 5 (r2 fIx (rV 2) (rV 3)))
 (aFrz 5 (aSeq (aSetIx 2 (r2 fIx (rV 2) (rV 4)) (rV 3))
 (aSeq (aSetIx 2 (rV 5) (rV 4))
 aNext))))))
 (aSeq (aRetV 2)
 aNext)))
def a__law_some : RS := (aSeq (aSetZ 2 (rCall r__law_take [] (rCons (rV 0) (rCons (rD (.int 6)) rNil))))
 (aSeq (aIf (rTB (r2 fEq (rV 2) (rD (.int 0))))
 (aSeq (aRet (rLst rNil))
 aNext)
 aNext)
 (aSeq (aIf (rTB (r2 fEq (rV 2) (rD (.int 1))))
 (aSeq (aRet (rN fList (rCons (rV 1) rNil)))
 aNext)
 aNext)
 (aSeq (aIf (rAnd (rTB (r2 fEq (rV 2) (rD (.int 2)))) (rTB (r2 fGt (rN fLen (rCons (rV 1) rNil)) (rD (.int 0)))))
 (aSeq (aRet (rLst (rCons (rCall r__law_pick [] (rCons (rV 0) (rCons (rV 1) rNil))) rNil)))
 aNext)
 aNext)
 (aSeq (aRet (rLc (rIList (rV 1)) (.nm 3) (rTB (r2 fEq (rCall r__law_take [] (rCons (rV 0) (rCons (rD (.int 2)) rNil))) (rD (.int 1)))) (rV 3) [3]))
 aNext)))))
def a0__law_same : RS := (aSeq (aIf (rTB (rIsNon false (rV 1)))
 (aSeq (aRet (rIsNon false (rV 0)))
 aNext)
 aNext)
 (aSeq (aIf (rTB (rIs ["bool"] (rV 1)))
 (aSeq (aRet (rAndV (rIs ["bool"] (rV 0)) (r2 fEq (rV 0) (rV 1))))
 aNext)
 aNext)
 (aSeq (aIf (rTB (rIs ["int"] (rV 1)))
 (aSeq (aRet (rAndV (rIs ["int"] (rV 0)) (rAndV (rNotV (rIs ["bool"] (rV 0))) (r2 fEq (rV 0) (rV 1)))))
 aNext)
 aNext)
 (aSeq (aIf (rTB (rIs ["str"] (rV 1)))
 (aSeq (aRet (rAndV (rIs ["str"] (rV 0)) (r2 fEq (rV 0) (rV 1))))
 aNext)
 aNext)
 (aSeq (aIf (rAnd (rTB (rIs ["list"] (rV 1))) (rNotT (rTB (rIs ["list"] (rV 0)))))
 (aSeq (aRet (rD (.bl false)))
 aNext)
 aNext)
 (aSeq (aIf (rAnd (rTB (rIs ["tuple"] (rV 1))) (rNotT (rTB (rIs ["tuple"] (rV 0)))))
 (aSeq (aRet (rD (.bl false)))
 aNext)
 aNext)
 (aSeq (aIf (rOr (rNotT (rTB (rIs ["list", "tuple"] (rV 1)))) (rTB (r2 fNe (rN fLen (rCons (rV 0) rNil)) (rN fLen (rCons (rV 1) rNil)))))
 (aSeq (aRet (rD (.bl false)))
 aNext)
 aNext)
 (aSeq (aFor (rIN gR1 (rCons (rN fLen (rCons (rV 1) rNil)) rNil)) (.nm 2)
 (aSeq (aIf (rNotT rNevT)
 (aSeq (aRet (rD (.bl false)))
 aNext)
 aNext)
 aNext))
 (aSeq (aRet (rD (.bl true)))
 aNext)))))))))
def a__law_same (r__law_same : FS) : RS := (aSeq (aIf (rTB (rIsNon false (rV 1)))
 (aSeq (aRet (rIsNon false (rV 0)))
 aNext)
 aNext)
 (aSeq (aIf (rTB (rIs ["bool"] (rV 1)))
 (aSeq (aRet (rAndV (rIs ["bool"] (rV 0)) (r2 fEq (rV 0) (rV 1))))
 aNext)
 aNext)
 (aSeq (aIf (rTB (rIs ["int"] (rV 1)))
 (aSeq (aRet (rAndV (rIs ["int"] (rV 0)) (rAndV (rNotV (rIs ["bool"] (rV 0))) (r2 fEq (rV 0) (rV 1)))))
 aNext)
 aNext)
 (aSeq (aIf (rTB (rIs ["str"] (rV 1)))
 (aSeq (aRet (rAndV (rIs ["str"] (rV 0)) (r2 fEq (rV 0) (rV 1))))
 aNext)
 aNext)
 (aSeq (aIf (rAnd (rTB (rIs ["list"] (rV 1))) (rNotT (rTB (rIs ["list"] (rV 0)))))
 (aSeq (aRet (rD (.bl false)))
 aNext)
 aNext)
 (aSeq (aIf (rAnd (rTB (rIs ["tuple"] (rV 1))) (rNotT (rTB (rIs ["tuple"] (rV 0)))))
 (aSeq (aRet (rD (.bl false)))
 aNext)
 aNext)
 (aSeq (aIf (rOr (rNotT (rTB (rIs ["list", "tuple"] (rV 1)))) (rTB (r2 fNe (rN fLen (rCons (rV 0) rNil)) (rN fLen (rCons (rV 1) rNil)))))
 (aSeq (aRet (rD (.bl false)))
 aNext)
 aNext)
 (aSeq (aFor (rIN gR1 (rCons (rN fLen (rCons (rV 1) rNil)) rNil)) (.nm 2)
 (aSeq (aIf (rNotT (rTB (rCall r__law_same [] (rCons (r2 fIx (rV 0) (rV 2)) (rCons (r2 fIx (rV 1) (rV 2)) rNil)))))
 (aSeq (aRet (rD (.bl false)))
 aNext)
 aNext)
 aNext))
 (aSeq (aRet (rD (.bl true)))
 aNext)))))))))
def a__law_parts : RS := (aSeq (aSetZ 4 (rCall r__law_take [] (rCons (rV 0) (rCons (rD (.int 3)) rNil))))
 (aSeq (aSetZ 5 (rV 1))
 (aSeq (aSet 6 (rLst rNil))
 (aSeq (aFor (rIN gR1 (rCons (rV 2) rNil)) (.nm 7)
 (aSeq (aSetZ 8 (rN (fMM fun i j => max i j) (rCons (rD (.int 0)) (rCons (r2 fSub (rV 5) (r2 fMul (rV 3) (r2 fSub (r2 fSub (rV 2) (rD (.int 1))) (rV 7)))) rNil))))
 (aSeq (aSetZ 9 (rN (fMM fun i j => min i j) (rCons (rV 3) (rCons (rV 5) rNil))))
 (aSeq (aSetZ 10 (rV 9))
 (aSeq (aIf (rTB (r2 fEq (rV 4) (rD (.int 1))))
 (aSeq (aSetZ 10 (rN (fMM fun i j => max i j) (rCons (rV 8) (rCons (rN (fMM fun i j => min i j) (rCons (rV 9) (rCons (r2 fDiv (rV 5) (r2 fSub (rV 2) (rV 7))) rNil))) rNil))))
 aNext)
 aNext)
 (aSeq (aIf (rTB (r2 fEq (rV 4) (rD (.int 2))))
 (aSeq (aSetZ 10 (rCall r__law_between [] (rCons (rV 0) (rCons (rV 8) (rCons (rV 9) rNil)))))
 aNext)
 aNext)
 (aSeq (aApp 6 (rV 10))
 (aSeq (aSetZ 5 (r2 fSub (rV 5) (rV 10)))
 aNext))))))))
 (aFrz 6 (aSeq (aRet (rCall r__law_shuffled [] (rCons (rV 0) (rCons (rV 6) rNil))))
 aNext))))))
def a__law_standing : RS := (aSeq (aRet (rLc (rIN gR1 (rCons (rN fLen (rCons (rV 0) rNil)) rNil)) (.nm 1) (rTB (r2 fGt (r2 fIx (rV 0) (rV 1)) (rD (.int 0)))) (rV 1) [1]))
 aNext)
def a__law_turns : RS := (aSeq (aSet 3 (rN fList (rCons (rV 1) rNil)))
 (aSeq (aSetZ 4 (rCall r__law_take [] (rCons (rV 0) (rCons (rD (.int 4)) rNil))))
 (aSeq (aSet 5 (rLst rNil))
 (aSeq (aFor (rIN gR1 (rCons (rV 2) rNil)) (.nm 6)
 (aSeq (aSetB 7 (rLc (rIN gR1 (rCons (rN fLen (rCons (rV 3) rNil)) rNil)) (.nm 8) (rTB (r2 fGt (r2 fIx (rV 3) (rV 8)) (rD (.int 0)))) (rV 8) [8]))
 (aFrz 7 (aSeq (aIf (rTB (r2 fEq (rV 7) (rLst rNil)))
 (aSeq aBrk
 aNext)
 aNext)
 (aSeq (aSetZ 8 (rCall r__law_pick [] (rCons (rV 0) (rCons (rV 7) rNil))))
 (aSeq (aSetB 9 (r2 fIx (rV 3) (rV 8)))
 (aFrz 9 (aSeq (aIf (rTB (r2 fEq (rV 4) (rD (.int 0))))
 (aSeq (aSetZ 9 (rD (.int 1)))
 aNext)
 aNext)
 (aSeq (aIf (rTB (r2 fGe (rV 4) (rD (.int 2))))
 (aSeq (aSetB 9 (rCall r__law_near_ends [] (rCons (rV 0) (rCons (rD (.int 1)) (rCons (r2 fIx (rV 3) (rV 8)) rNil)))))
 (aFrz 9 aNext))
 aNext)
 (aSeq (aApp 5 (rTupD (rCons (rV 8) (rCons (rV 9) rNil))))
 (aSeq (aSetIx 3 (r2 fSub (r2 fIx (rV 3) (rV 8)) (rV 9)) (rV 8))
 aNext)))))))))))
 (aSeq (aForP (rCall r__law_shuffled [] (rCons (rV 0) (rCons (rLstRg (rRg1 (rN fLen (rCons (rV 3) rNil)))) rNil))) (.nm 8)
 (aSeq (aIf (rTB (r2 fGt (r2 fIx (rV 3) (rV 8)) (rD (.int 0))))
 (aSeq (aApp 5 (rTupD (rCons (rV 8) (rCons (r2 fIx (rV 3) (rV 8)) rNil))))
 aNext)
 aNext)
 aNext))
 (aSeq (aRetV 5)
 aNext))))))
def a__law_ranks : RS := (aSeq (aSetZ 3 (rCall r__law_pick [] (rCons (rV 0) (rCons (rLst (rCons (rD (.int 1)) (rCons (rD (.int 1)) (rCons (rD (.int 3)) (rCons (rD (.int 100000)) rNil))))) rNil))))
 (aSeq (aSetZ 4 (rCall r__law_pick [] (rCons (rV 0) (rCons (rLst (rCons (rD (.int 0)) (rCons (rD (.int 0)) (rCons (rD (.int 7)) (rCons (r2 fSub (rD (.int 1000000)) (r2 fMul (rD (.int 7)) (rV 3))) rNil))))) rNil))))
 (aSeq (aSetZ 5 (rN fLen (rCons (rV 1) rNil)))
 (aSeq (aIf (rNotT (rTB (rV 2)))
 (aSeq (aSetZ 5 (r2 fAdd (rD (.int 1)) (rCall r__law_take [] (rCons (rV 0) (rCons (rV 5) rNil)))))
 aNext)
 aNext)
 (aSeq (aSet 6 (rLc (rIList (rCall r__law_shuffled [] (rCons (rV 0) (rCons (rLstRg (rRg1 (rN fLen (rCons (rV 1) rNil)))) rNil)))) (.nm 7) rYes (r2 fAdd (rV 4) (r2 fMul (rV 3) (rN fInt (rCons (r2 fMod (rV 7) (rV 5)) rNil)))) [7]))
 (aSeq (aForB (rIN gR1 (rCons (rN fLen (rCons (rV 6) rNil)) rNil)) (.nm 8)
 (aSeq (aIf (rAnd (rTB (r2 fEq (r2 fIx (rV 1) (rV 8)) (rD (.int 0)))) (rTB (r2 fEq (rCall r__law_take [] (rCons (rV 0) (rCons (rD (.int 3)) rNil))) (rD (.int 0)))))
 (aSeq (aSetIx 6 (r2 fIx (rV 6) (rD (.int 0))) (rV 8))
 aNext)
 aNext)
 aNext))
 (aSeq (aRetV 6)
 aNext)))))))
def a__law_world : RS := (aSeq (aSetZ 4 (rN (fMM fun i j => min i j) (rCons (rV 1) (rCons (r2 fAdd (r2 fAdd (rD (.int 1)) (rCall r__law_take [] (rCons (rV 0) (rCons (rV 1) rNil)))) (rCall r__law_take [] (rCons (rV 0) (rCons (rD (.int 2)) rNil)))) rNil))))
 (aSeq (aSetZ 5 (rN (fMM fun i j => min i j) (rCons (rV 1) (rCons (r2 fAdd (r2 fAdd (rD (.int 1)) (rCall r__law_take [] (rCons (rV 0) (rCons (rV 1) rNil)))) (rCall r__law_take [] (rCons (rV 0) (rCons (rD (.int 2)) rNil)))) rNil))))
 (aSeq (aSetZ 6 (rOrL (rSl (rLc (rIN gR1 (rCons (rV 5) rNil)) (.nm 7) (rTB (r2 fGt (rCall r__law_take [] (rCons (rV 0) (rCons (rD (.int 5)) rNil))) (rD (.int 0)))) (rV 7) [7]) rPn (rPs (rV 2))) (rLst (rCons (rCall r__law_take [] (rCons (rV 0) (rCons (rV 5) rNil))) rNil))))
 (aSeq (aSetZ 8 (rCall r__law_near_ends [] (rCons (rV 0) (rCons (rN fLen (rCons (rV 6) rNil)) (rCons (rN (fMM fun i j => min i j) (rCons (rV 2) (rCons (r2 fMul (r2 fPow (rD (.int 10)) (rD (.int 14))) (rN (fMM fun i j => min i j) (rCons (rV 4) (rCons (rN fLen (rCons (rV 6) rNil)) rNil)))) rNil))) rNil)))))
 (aSeq (aSetZ 9 (rCall r__law_parts [] (rCons (rV 0) (rCons (r2 fSub (rV 8) (rN fLen (rCons (rV 6) rNil))) (rCons (rN fLen (rCons (rV 6) rNil)) (rCons (r2 fSub (r2 fPow (rD (.int 10)) (rD (.int 14))) (rD (.int 1))) rNil))))))
 (aSeq (aSet 10 (r2 fMul (rLst (rCons (rD (.int 0)) rNil)) (rV 5)))
 (aSeq (aFor (rIN gR1 (rCons (rN fLen (rCons (rV 6) rNil)) rNil)) (.nm 11)
 (aSeq (aSetIx 10 (r2 fAdd (rD (.int 1)) (r2 fIx (rV 9) (rV 11))) (r2 fIx (rV 6) (rV 11)))
 aNext))
 (aSeq (aSetZ 12 (rAndV (r2 fGt (rV 4) (rD (.int 1))) (rAndV (r2 fLe (rV 8) (r2 fPow (rD (.int 10)) (rD (.int 14)))) (r2 fGt (rCall r__law_take [] (rCons (rV 0) (rCons (rD (.int 3)) rNil))) (rD (.int 0))))))
 (aSeq (aSetZ 13 (rCall r__law_parts [] (rCons (rV 0) (rCons (rV 8) (rCons (rV 4) (rCons (rIf (rTB (rV 12)) (r2 fAdd (r2 fDiv (rV 8) (rD (.int 2))) (rD (.int 1))) (r2 fPow (rD (.int 10)) (rD (.int 14)))) rNil))))))
 (aSeq (aSetB 14 (rLc (rIN gR1 (rCons (rV 4) rNil)) (.nm 15) rYes (rCall r__law_ranks [] (rCons (rV 0) (rCons (rV 10) (rCons (rV 3) rNil)))) [15]))
 (aFrz 14 (aSeq (aIf (rTB (r2 fEq (rCall r__law_take [] (rCons (rV 0) (rCons (rD (.int 6)) rNil))) (rD (.int 0))))
 (aSeq (aSetZ 14 (rLc (rIN gR1 (rCons (rV 4) rNil)) (.nm 15) rYes (rN fList (rCons (r2 fIx (rV 14) (rD (.int 0))) rNil)) [15]))
 aNext)
 aNext)
 (aFrz 10 (aSeq (aRet (rTupD (rCons (rV 14) (rCons (rV 13) (rCons (rV 10) rNil)))))
 aNext))))))))))))))
def a__law_made : RS := (aSeq (aRet (rMake r_Moment___init__ (rCons (rLc (rIList (r2 fIx (rV 0) (rD (.int 0)))) (.nm 1) rYes (rN fList (rCons (rV 1) rNil)) [1]) (rCons (rN fList (rCons (r2 fIx (rV 0) (rD (.int 1))) rNil)) (rCons (rN fList (rCons (r2 fIx (rV 0) (rD (.int 2))) rNil)) rNil)))))
 aNext)
def a__law_kept : RS := (aSeq (aRet (rCall r__law_same [] (rCons (rLst (rCons (rProp "Moment" r_Moment_ranks (rV 0)) (rCons (rProp "Moment" r_Moment_left (rV 0)) (rCons (rProp "Moment" r_Moment_bears (rV 0)) rNil)))) (rCons (rLst (rCons (r2 fIx (rV 1) (rD (.int 0))) (rCons (r2 fIx (rV 1) (rD (.int 1))) (rCons (r2 fIx (rV 1) (rD (.int 2))) rNil)))) rNil))))
 aNext)
def a__law_ended : RS := (aSeq (aRet (rMake r_Moment___init__ (rCons (rLc (rIList (r2 fIx (rV 0) (rD (.int 0)))) (.nm 1) rYes (rN fList (rCons (rV 1) rNil)) [1]) (rCons (r2 fMul (rLst (rCons (rD (.int 0)) rNil)) (rN fLen (rCons (r2 fIx (rV 0) (rD (.int 1))) rNil))) (rCons (r2 fMul (rLst (rCons (rD (.int 0)) rNil)) (rN fLen (rCons (r2 fIx (rV 0) (rD (.int 2))) rNil))) rNil)))))
 aNext)
def a__law_odd : RS := (aSeq (aRet (rCall r__law_pick [] (rCons (rV 0) (rCons (rLst (rCons (rV 1) (rCons (r1 fNeg (rD (.int 1))) (rCons (r2 fAdd (r2 fAdd (rV 1) (rD (.int 1))) (rCall r__law_take [] (rCons (rV 0) (rCons (rD (.int 9)) rNil)))) (rCons (r2 fSub (r1 fNeg (rV 1)) (rD (.int 1))) (rCons (r1 fNeg (r2 fPow (rD (.int 10)) (rD (.int 20)))) (rCons (r2 fPow (r2 fPow (rD (.int 10)) (rD (.int 57))) (rD (.int 7))) rNil))))))) rNil))))
 aNext)
def a__law_bent_set : RS := (aSeq (aSetZ 3 (rCall r__law_take [] (rCons (rV 0) (rCons (r2 fAdd (rN fLen (rCons (rV 1) rNil)) (rD (.int 1))) rNil))))
 (aSeq (aSetZ 4 (rCall r__law_take [] (rCons (rV 0) (rCons (rD (.int 3)) rNil))))
 (aSeq (aIf (rAnd (rTB (r2 fEq (rV 4) (rD (.int 0)))) (rTB (r2 fLt (rV 3) (rN fLen (rCons (rV 1) rNil)))))
 (aSeq (aRet (rTupD (rCons (r2 fAdd (rSl (rV 1) rPn (rPs (r2 fAdd (rV 3) (rD (.int 1))))) (rSl (rV 1) (rPs (rV 3)) rPn)) (rCons (r2 fAdd (rV 3) (rD (.int 1))) rNil))))
 aNext)
 aNext)
 (aSeq (aIf (rAnd (rTB (r2 fEq (rV 4) (rD (.int 1)))) (rTB (r2 fLt (r2 fAdd (rV 3) (rD (.int 1))) (rN fLen (rCons (rV 1) rNil)))))
 (aSeq (aRet (rTupD (rCons (r2 fAdd (r2 fAdd (rSl (rV 1) rPn (rPs (rV 3))) (rLst (rCons (r2 fIx (rV 1) (r2 fAdd (rV 3) (rD (.int 1)))) (rCons (r2 fIx (rV 1) (rV 3)) rNil)))) (rSl (rV 1) (rPs (r2 fAdd (rV 3) (rD (.int 2)))) rPn)) (rCons (r2 fAdd (rV 3) (rD (.int 1))) rNil))))
 aNext)
 aNext)
 (aSeq (aSetZ 5 (r2 fAdd (rLc (rIN gR1 (rCons (rD (.int 9)) rNil)) (.nm 6) (rTB (r2 (fIn true) (rV 6) (rV 2))) (rV 6) [6]) (rLst (rCons (r1 fNeg (rD (.int 1))) (rCons (r1 fNeg (rD (.int 2))) (rCons (r1 fNeg (r2 fPow (rD (.int 10)) (rD (.int 20)))) (rCons (r2 fPow (rD (.int 10)) (rD (.int 20))) rNil)))))))
 (aSeq (aRet (rTupD (rCons (r2 fAdd (r2 fAdd (rSl (rV 1) rPn (rPs (rV 3))) (rLst (rCons (rCall r__law_pick [] (rCons (rV 0) (rCons (rV 5) rNil))) rNil))) (rSl (rV 1) (rPs (rV 3)) rPn)) (rCons (rV 3) rNil))))
 aNext))))))
def a__law_refused (ea : Addr) (nm : Str) (ed : Option Addr) : RS := (aSeq (aSet 1 (rLst rNil))
 (aSeq (aIf (rTB (rIsX1 ea nm ed xns (fun n => n == "Over") (rV 0)))
 (aSeq (aApp 1 (rTupD (rCons (rD (.str "Over")) rNil)))
 aNext)
 aNext)
 (aSeq (aIf (rTB (rIsX1 ea nm ed xns (fun n => n == "BadSet") (rV 0)))
 (aSeq (aApp 1 (rTupD (rCons (rD (.str "BadSet")) (rCons (rXf ea nm ed xns "at" (rV 0)) rNil))))
 aNext)
 aNext)
 (aSeq (aIf (rTB (rIsX1 ea nm ed xns (fun n => n == "BadStrike") (rV 0)))
 (aSeq (aApp 1 (rTupD (rCons (rD (.str "BadStrike")) (rCons (rXf ea nm ed xns "at" (rV 0)) rNil))))
 aNext)
 aNext)
 (aSeq (aIf (rTB (rIsX1 ea nm ed xns (fun n => xtup.contains n) (rV 0)))
 (aSeq (aApp 1 (rTupD (rCons (rD (.str "another class")) rNil)))
 aNext)
 aNext)
 (aSeq (aIf (rOr (rTB (r2 fNe (rN fLen (rCons (rV 1) rNil)) (rD (.int 1)))) (rNotT (rTB (rIsX1 ea nm ed xns (fun _ => true) (rV 0)))))
 (aSeq (aRet (rTupD (rCons (rD (.str "wrong class")) rNil)))
 aNext)
 aNext)
 (aFrz 1 (aSeq (aRet (r2 fIx (rV 1) (rD (.int 0))))
 aNext))))))))
def a__law_own : RS := (aSeq (aSetZ 2 (rN (fInts gSum) (rCons (rLc (rIList (rV 0)) (.nm 3) (rTB (r2 (fIn false) (r2 fIx (rV 3) (rD (.int 0))) (rV 1))) (r2 fIx (rV 3) (rD (.int 1))) [3]) rNil)))
 (aSeq (aIf (rTB (r2 (fIn false) (r2 fIx (r2 fIx (rV 0) (r1 fNeg (rD (.int 1)))) (rD (.int 0))) (rV 1)))
 (aSeq (aRet (r2 fSub (rV 2) (rD (.int 1))))
 aNext)
 aNext)
 (aSeq (aRet (rV 2))
 aNext)))
def a__law_near : RS := (aSeq (aSetZ 4 (rLst rNil))
 (aSeq (aFor (rIList (rCall r__law_shuffled [] (rCons (rV 0) (rCons (rLstRg (rRg1 (rN fLen (rCons (rV 1) rNil)))) rNil)))) (.nm 5)
 (aSeq (aSetZ 6 (rN (fInts gSort) (rCons (r2 fAdd (rV 4) (rLst (rCons (rV 5) rNil))) rNil)))
 (aSeq (aIf (rTB (r2 fLe (rCall r__law_own [] (rCons (rV 2) (rCons (rV 6) rNil))) (r2 fAdd (r2 fSub (r2 fAdd (rV 3) (rCall r__law_take [] (rCons (rV 0) (rCons (rD (.int 2)) rNil)))) (rD (.int 1))) (rCall r__law_take [] (rCons (rV 0) (rCons (rD (.int 2)) rNil))))))
 (aSeq (aSetZ 4 (rV 6))
 aNext)
 aNext)
 aNext)))
 (aSeq (aRet (rV 4))
 aNext)))
def a__law_guard_due : RS := (aSeq (aSetZ 2 (rCall r__law_standing [] (rCons (rV 0) rNil)))
 (aSeq (aSetZ 3 (rLc (rIList (rV 2)) (.nm 4) (rTB (r2 (fIn true) (rV 4) (rV 1))) (rV 4) [4]))
 (aSeq (aIf (rTB (r2 fNe (rV 3) (rLst rNil)))
 (aSeq (aRet (r2 fIx (rV 3) (rD (.int 0))))
 aNext)
 aNext)
 (aSeq (aRet (r2 fIx (rV 2) (rD (.int 0))))
 aNext))))
def a__law_guard : RS := (aSeq (aSetZ 2 (rN fList (rCons (rV 1) rNil)))
 (aSeq (aTry 4 xns (aSeq (aSetZ 3 (rTupD (rCons (rD (.str "told")) (rCons (rCall r_guard_of [] (rCons (rV 0) (rCons (rV 2) rNil))) rNil))))
 aNext)
 (fun ea nm ed => (aSeq (aSetZ 3 (rTupD (rCons (rD (.str "refused")) (rCons (rCallE ea nm ed r__law_refused (rV 4)) rNil))))
 aNext)))
 (aSeq (aIf (rNotT (rTB (rCall r__law_same [] (rCons (rV 2) (rCons (rV 1) rNil)))))
 (aSeq (aRet (rTupD (rCons (rD (.str "changed")) rNil)))
 aNext)
 aNext)
 (aSeq (aRet (rV 3))
 aNext))))
def a__law_behind : RS := (aSeq (aSetZ 2 (rN fList (rCons (rV 1) rNil)))
 (aSeq (aTry 5 xns (aSeq (aSetZ 3 (rCall r_behind [] (rCons (rV 0) (rCons (rV 2) rNil))))
 (aSeq (aSetZ 4 (rTupD (rCons (rD (.str "told")) (rCons (rProp "Moment" r_Moment_ranks (rV 3)) (rCons (rProp "Moment" r_Moment_left (rV 3)) (rCons (rProp "Moment" r_Moment_bears (rV 3)) (rCons (rProp "Moment" r_Moment_is_over (rV 3)) rNil)))))))
 aNext))
 (fun ea nm ed => (aSeq (aSetZ 4 (rTupD (rCons (rD (.str "refused")) (rCons (rCallE ea nm ed r__law_refused (rV 5)) rNil))))
 aNext)))
 (aSeq (aIf (rNotT (rTB (rCall r__law_same [] (rCons (rV 2) (rCons (rV 1) rNil)))))
 (aSeq (aRet (rTupD (rCons (rD (.str "changed")) rNil)))
 aNext)
 aNext)
 (aSeq (aRet (rV 4))
 aNext))))
def a__law_played : RS := (aSeq (aSet 6 (rN fList (rCons (r2 fIx (rV 1) (rD (.int 1))) rNil)))
 (aSeq (aSet 7 (rN fList (rCons (r2 fIx (rV 1) (rD (.int 2))) rNil)))
 (aSeq (aSetZ 8 (rV 2))
 (aSeq (aSet 9 (rLst rNil))
 (aSeq (aFor (rIList (rV 3)) (.nm 10)
 (aSeq (aSetZ 11 (r2 fIx (rV 10) (rD (.int 1))))
 (aSeq (aFor (rIN gR1 (rCons (rD (.int 12)) rNil)) (.nm 12)
 (aSeq (aIf (rTB (r2 fEq (rV 11) (rD (.int 0))))
 (aSeq aBrk
 aNext)
 aNext)
 (aSeq (aSetB 13 (rLc (rIList (rV 5)) (.nm 14) (rTB (r2 fGt (r2 fIx (rV 7) (rV 14)) (rD (.int 0)))) (rV 14) [14]))
 (aFrz 13 (aSeq (aSetB 14 (rCall r__law_guard_due [] (rCons (rV 7) (rCons (rV 13) rNil))))
 (aFrz 14 (aSeq (aIf (rAnd (rTB (r2 (fIn false) (r2 fIx (rV 10) (rD (.int 0))) (rV 4))) (rNotT (rTB (rCall r__law_same [] (rCons (rCall r__law_guard [] (rCons (rV 8) (rCons (rV 13) rNil))) (rCons (rTupD (rCons (rD (.str "told")) (rCons (rV 14) rNil))) rNil))))))
 (aSeq (aRet (rD .non))
 aNext)
 aNext)
 (aSeq (aIf (rTB (r2 (fIn true) (r2 fIx (rV 10) (rD (.int 0))) (rV 4)))
 (aSeq (aSetB 14 (rCall r__law_pick [] (rCons (rV 0) (rCons (rCall r__law_standing [] (rCons (rV 7) rNil)) rNil))))
 (aFrz 14 aNext))
 aNext)
 (aSeq (aSetB 15 (rN (fMM fun i j => min i j) (rCons (rV 11) (rCons (r2 fIx (rV 7) (rV 14)) rNil))))
 (aFrz 15 (aSeq (aIf (rTB (r2 fLt (rV 12) (rD (.int 2))))
 (aSeq (aSetZ 15 (rCall r__law_near_ends [] (rCons (rV 0) (rCons (rD (.int 1)) (rCons (rV 15) rNil)))))
 aNext)
 aNext)
 (aSeq (aSetZ 11 (r2 fSub (rV 11) (rV 15)))
 (aSeq (aSetIx 6 (r2 fSub (r2 fIx (rV 6) (r2 fIx (rV 10) (rD (.int 0)))) (rV 15)) (r2 fIx (rV 10) (rD (.int 0))))
 (aSeq (aSetIx 7 (r2 fSub (r2 fIx (rV 7) (rV 14)) (rV 15)) (rV 14))
 (aSeq (aApp 9 (rTupD (rCons (r2 fIx (rV 10) (rD (.int 0))) (rCons (rV 14) (rCons (rV 15) rNil)))))
 (aSeq (aIf (rNotT (rTB (rCall r__law_same [] (rCons (rCall r__law_behind [] (rCons (rV 8) (rCons (rSl (rV 9) (rPs (r1 fNeg (rD (.int 1)))) rPn) rNil))) (rCons (rTupD (rCons (rD (.str "told")) (rCons (r2 fIx (rV 1) (rD (.int 0))) (rCons (rV 6) (rCons (rV 7) (rCons (r2 fEq (rN (fInts gSum) (rCons (rV 7) rNil)) (rD (.int 0))) rNil)))))) rNil)))))
 (aSeq (aRet (rD .non))
 aNext)
 aNext)
 (aSeq (aSetB 8 (rCall r_behind [] (rCons (rV 8) (rCons (rSl (rV 9) (rPs (r1 fNeg (rD (.int 1)))) rPn) rNil))))
 (aFrz 8 aNext))))))))))))))))))
 aNext)))
 (aSeq (aRetV 9)
 aNext))))))
def a__law_refusals : RS := (aSeq (aSetZ 5 (rCall r__law_ended [] (rCons (rV 1) rNil)))
 (aSeq (aSetZ 6 (rCall r__law_bent_set [] (rCons (rV 0) (rCons (rV 3) (rCons (rCall r__law_standing [] (rCons (r2 fIx (rV 1) (rD (.int 2))) rNil)) rNil)))))
 (aSeq (aSetZ 7 (rCall r__law_take [] (rCons (rV 0) (rCons (r2 fAdd (rN fLen (rCons (rV 4) rNil)) (rD (.int 1))) rNil))))
 (aSeq (aSetZ 8 (rCall r__law_take [] (rCons (rV 0) (rCons (rN fLen (rCons (r2 fIx (rV 1) (rD (.int 1))) rNil)) rNil))))
 (aSeq (aSetZ 9 (rCall r__law_take [] (rCons (rV 0) (rCons (rN fLen (rCons (r2 fIx (rV 1) (rD (.int 2))) rNil)) rNil))))
 (aSeq (aSetZ 10 (rLst (rCons (rTupD (rCons (rV 8) (rCons (rV 9) (rCons (rD (.int 0)) rNil)))) (rCons (rTupD (rCons (rV 8) (rCons (rV 9) (rCons (r1 fNeg (rD (.int 1))) rNil)))) (rCons (rTupD (rCons (rV 8) (rCons (rV 9) (rCons (r2 fPow (rD (.int 10)) (rD (.int 20))) rNil)))) (rCons (rTupD (rCons (rCall r__law_odd [] (rCons (rV 0) (rCons (rN fLen (rCons (r2 fIx (rV 1) (rD (.int 1))) rNil)) rNil))) (rCons (rV 9) (rCons (rD (.int 1)) rNil)))) rNil))))))
 (aSeq (aSetZ 10 (r2 fAdd (rV 10) (rLst (rCons (rTupD (rCons (rV 8) (rCons (rCall r__law_odd [] (rCons (rV 0) (rCons (rN fLen (rCons (r2 fIx (rV 1) (rD (.int 2))) rNil)) rNil))) (rCons (rD (.int 1)) rNil)))) rNil))))
 (aSeq (aSetZ 11 (r2 fAdd (r2 fAdd (rSl (rV 4) rPn (rPs (rV 7))) (rLst (rCons (rCall r__law_pick [] (rCons (rV 0) (rCons (rV 10) rNil))) rNil))) (rSl (rV 4) (rPs (rV 7)) rPn)))
 (aSeq (aIf (rNotT (rTB (rCall r__law_same [] (rCons (rCall r__law_guard [] (rCons (rV 2) (rCons (r2 fIx (rV 6) (rD (.int 0))) rNil))) (rCons (rTupD (rCons (rD (.str "refused")) (rCons (rTupD (rCons (rD (.str "BadSet")) (rCons (r2 fIx (rV 6) (rD (.int 1))) rNil))) rNil))) rNil)))))
 (aSeq (aRet (rD (.bl false)))
 aNext)
 aNext)
 (aSeq (aIf (rNotT (rTB (rCall r__law_same [] (rCons (rCall r__law_guard [] (rCons (rV 5) (rCons (rLst rNil) rNil))) (rCons (rTupD (rCons (rD (.str "refused")) (rCons (rTupD (rCons (rD (.str "Over")) rNil)) rNil))) rNil)))))
 (aSeq (aRet (rD (.bl false)))
 aNext)
 aNext)
 (aSeq (aIf (rNotT (rTB (rCall r__law_same [] (rCons (rCall r__law_guard [] (rCons (rV 5) (rCons (r2 fIx (rV 6) (rD (.int 0))) rNil))) (rCons (rTupD (rCons (rD (.str "refused")) (rCons (rTupD (rCons (rD (.str "Over")) rNil)) rNil))) rNil)))))
 (aSeq (aRet (rD (.bl false)))
 aNext)
 aNext)
 (aSeq (aIf (rNotT (rTB (rCall r__law_same [] (rCons (rCall r__law_behind [] (rCons (rV 5) (rCons (rLst (rCons (rTupD (rCons (rV 8) (rCons (rV 9) (rCons (rD (.int 1)) rNil)))) rNil)) rNil))) (rCons (rTupD (rCons (rD (.str "refused")) (rCons (rTupD (rCons (rD (.str "BadStrike")) (rCons (rD (.int 0)) rNil))) rNil))) rNil)))))
 (aSeq (aRet (rD (.bl false)))
 aNext)
 aNext)
 (aSeq (aIf (rNotT (rTB (rCall r__law_same [] (rCons (rCall r__law_behind [] (rCons (rV 5) (rCons (rLst rNil) rNil))) (rCons (rTupD (rCons (rD (.str "told")) (rCons (r2 fIx (rV 1) (rD (.int 0))) (rCons (r2 fMul (rLst (rCons (rD (.int 0)) rNil)) (rN fLen (rCons (r2 fIx (rV 1) (rD (.int 1))) rNil))) (rCons (r2 fMul (rLst (rCons (rD (.int 0)) rNil)) (rN fLen (rCons (r2 fIx (rV 1) (rD (.int 2))) rNil))) (rCons (rD (.bl true)) rNil)))))) rNil)))))
 (aSeq (aRet (rD (.bl false)))
 aNext)
 aNext)
 (aSeq (aRet (rCall r__law_same [] (rCons (rCall r__law_behind [] (rCons (rV 2) (rCons (rV 11) rNil))) (rCons (rTupD (rCons (rD (.str "refused")) (rCons (rTupD (rCons (rD (.str "BadStrike")) (rCons (rV 7) rNil))) rNil))) rNil))))
 aNext))))))))))))))
def a_law0 : RE := (rCall r__law_store [] (rCons (rV 0) rNil))
def a_law : RS := (aSeq (aSetZ 2 (rCall r__law_take [] (rCons (rV 1) (rCons (rD (.int 12)) rNil))))
 (aSeq (aSetZ 3 (rCall r__law_world [] (rCons (rV 1) (rCons (r2 fIx (rLst (rCons (rD (.int 8)) (rCons (rD (.int 8)) (rCons (rD (.int 5)) rNil)))) (rN (fMM fun i j => min i j) (rCons (rV 2) (rCons (rD (.int 2)) rNil)))) (rCons (r2 fIx (rLst (rCons (r2 fPow (rD (.int 10)) (rD (.int 15))) (rCons (rD (.int 40)) (rCons (rD (.int 14)) rNil)))) (rN (fMM fun i j => min i j) (rCons (rV 2) (rCons (rD (.int 2)) rNil)))) (rCons (r2 fEq (rCall r__law_take [] (rCons (rV 1) (rCons (rD (.int 2)) rNil))) (rD (.int 0))) rNil))))))
 (aSeq (aSetZ 4 (rCall r__law_made [] (rCons (rV 3) rNil)))
 (aSeq (aSetZ 5 (rCall r__law_standing [] (rCons (r2 fIx (rV 3) (rD (.int 2))) rNil)))
 (aSeq (aSetZ 6 (rCall r__law_turns [] (rCons (rV 1) (rCons (r2 fIx (rV 3) (rD (.int 1))) (rCons (rCall r__law_take [] (rCons (rV 1) (rCons (rD (.int 8)) rNil))) rNil)))))
 (aSeq (aSetZ 7 (rCall r__law_some [] (rCons (rV 1) (rCons (rV 5) rNil))))
 (aSeq (aSetZ 8 (rN (fInts gSum) (rCons (rLc (rIList (rV 5)) (.nm 9) (rTB (r2 (fIn true) (rV 9) (rV 7))) (r2 fIx (r2 fIx (rV 3) (rD (.int 2))) (rV 9)) [9]) rNil)))
 (aSeq (aSetZ 10 (rCall r__law_some [] (rCons (rV 1) (rCons (rLstRg (rRg1 (rN fLen (rCons (r2 fIx (rV 3) (rD (.int 1))) rNil)))) rNil))))
 (aSeq (aIf (rTB (r2 fEq (rCall r__law_take [] (rCons (rV 1) (rCons (rD (.int 2)) rNil))) (rD (.int 0))))
 (aSeq (aSetZ 10 (rCall r__law_near [] (rCons (rV 1) (rCons (r2 fIx (rV 3) (rD (.int 1))) (rCons (rV 6) (rCons (rV 8) rNil))))))
 aNext)
 aNext)
 (aSeq (aSetZ 11 (r2 fGe (rCall r__law_own [] (rCons (rV 6) (rCons (rV 10) rNil))) (rV 8)))
 (aSeq (aIf (rNotT (rTB (rCall r__law_same [] (rCons (rCall r_can_force [] (rCons (rV 4) (rCons (rN fList (rCons (rV 6) rNil)) (rCons (rN fList (rCons (rV 10) rNil)) (rCons (rN fList (rCons (rV 7) rNil)) rNil))))) (rCons (rV 11) rNil)))))
 (aSeq (aRet (rD (.bl false)))
 aNext)
 aNext)
 (aSeq (aSetZ 12 (rN fList (rCons (rV 10) rNil)))
 (aSeq (aSetZ 13 (rN fList (rCons (rV 7) rNil)))
 (aSeq (aIf (rNotT (rTB (rV 11)))
 (aSeq (aSetZ 12 (rLc (rIN gR1 (rCons (rN fLen (rCons (r2 fIx (rV 3) (rD (.int 1))) rNil)) rNil)) (.nm 14) (rTB (r2 (fIn true) (rV 14) (rV 10))) (rV 14) [14]))
 (aSeq (aSetZ 13 (rLc (rIList (rV 5)) (.nm 9) (rTB (r2 (fIn true) (rV 9) (rV 7))) (rV 9) [9]))
 aNext))
 aNext)
 (aSeq (aSetZ 15 (rCall r__law_played [] (rCons (rV 1) (rCons (rV 3) (rCons (rV 4) (rCons (rV 6) (rCons (rV 12) (rCons (rV 13) rNil))))))))
 (aSeq (aIf (rOr (rTB (rIsNon false (rV 15))) (rTB (r2 (fIn true) (r2 fIx (r2 fIx (rV 15) (r1 fNeg (rD (.int 1)))) (rD (.int 1))) (rV 13))))
 (aSeq (aRet (rD (.bl false)))
 aNext)
 aNext)
 (aSeq (aSetZ 16 (rTupD (rCons (rD (.str "told")) (rCons (r2 fIx (rV 3) (rD (.int 0))) (rCons (r2 fMul (rLst (rCons (rD (.int 0)) rNil)) (rN fLen (rCons (r2 fIx (rV 3) (rD (.int 1))) rNil))) (rCons (r2 fMul (rLst (rCons (rD (.int 0)) rNil)) (rN fLen (rCons (r2 fIx (rV 3) (rD (.int 2))) rNil))) (rCons (rD (.bl true)) rNil)))))))
 (aSeq (aIf (rNotT (rTB (rCall r__law_same [] (rCons (rCall r__law_behind [] (rCons (rV 4) (rCons (rV 15) rNil))) (rCons (rV 16) rNil)))))
 (aSeq (aRet (rD (.bl false)))
 aNext)
 aNext)
 (aSeq (aFor (rIList (rLst (rCons (rCall r__law_some [] (rCons (rV 1) (rCons (rV 5) rNil))) (rCons (rLst rNil) (rCons (rV 5) (rCons (rV 7) rNil)))))) (.nm 17)
 (aSeq (aIf (rNotT (rTB (rCall r__law_same [] (rCons (rCall r__law_guard [] (rCons (rV 4) (rCons (rV 17) rNil))) (rCons (rTupD (rCons (rD (.str "told")) (rCons (rCall r__law_guard_due [] (rCons (r2 fIx (rV 3) (rD (.int 2))) (rCons (rV 17) rNil))) rNil))) rNil)))))
 (aSeq (aRet (rD (.bl false)))
 aNext)
 aNext)
 aNext))
 (aSeq (aRet (rAndV (rCall r__law_kept [] (rCons (rV 4) (rCons (rV 3) rNil))) (rCall r__law_refusals [] (rCons (rV 1) (rCons (rV 3) (rCons (rV 4) (rCons (rV 7) (rCons (rV 15) rNil))))))))
 aNext))))))))))))))))))))
end K78
set_option Elab.async false
set_option linter.all false
set_option maxRecDepth 100000
set_option maxHeartbeats 4000000
namespace K78
open PySem PySem.Spec PyProof.Rows L2 AL
/-! ### the things, read -/
section
variable {AQ : TQ} {AX : XQ} {BQ : Bool → Prop} {DQ : List D → Prop}
theorem ix_gt {xs : List Int} {k : Int} (h0 : 0 ≤ k) (h1 : k < xs.length) : fIx (dI xs) (.int k) AQ = AQ (.fz (.int (gt xs k))) := s_ix_ints h0 h1
@[simp] theorem gEnum_dI {xs : List Int} : gEnum [dI xs] DQ = DQ (enumD (xs.map D.int)) := rfl
@[simp] theorem gEnum_dII {xs : List (List Int)} : gEnum [dII xs] DQ = DQ (enumD (xs.map dI)) := rfl
@[simp] theorem gEnum_dP {xs : List Pc} : gEnum [dP xs] DQ = DQ (enumD (xs.map dPc)) := rfl
@[simp] theorem gEnum_dS {xs : List Sk} : gEnum [dS xs] DQ = DQ (enumD (xs.map dSk)) := rfl
@[simp] theorem len_dP {xs : List Pc} : fLen [dP xs] AQ = AQ (.fz (.int xs.length)) := by simp [dP]
@[simp] theorem len_dS {xs : List Sk} : fLen [dS xs] AQ = AQ (.fz (.int xs.length)) := by simp [dS]
@[simp] theorem mT_er {r : List (List Int)} {l e : List Int} : (mT r l e).er = mD r l e := by simp [mT, mD]
@[simp] theorem mT_pure {r : List (List Int)} {l e : List Int} : (mT r l e).pure = true := by simp [mT]
@[simp] theorem dPc_bind {a b : Tg} {p : Pc} : Tg.bind (.tp [a, b]) (dPc p) = (Tg.bind a (.int p.1)).bind fun x => ((Tg.bind b (.int p.2)).map fun y => y).map fun y => x ++ y := by
  simp [dPc]
@[simp] theorem mD_isObj {r : List (List Int)} {l e : List Int} : D.isObj "Moment" (mD r l e) := rfl
theorem isin_int (x : Int) : ∀ xs : List Int, D.isin (.int x) (xs.map D.int) = xs.contains x
  | [] => rfl
  | y :: ys => by
    have ih := isin_int x ys
    unfold D.isin at ih ⊢
    rw [List.map_cons, List.any_cons, ih, List.contains_cons]
    show (y == x || ys.contains x) = (x == y || ys.contains x)
    rw [BEq.comm]
theorem flat_ints (xs : List Int) : (xs.map D.int).all D.flat = true := by simp
@[simp] theorem in_dI {x : Int} {xs : List Int} : fIn false (.int x) (dI xs) AQ = AQ (.fz (.bl (xs.contains x))) := by
  unfold dI
  rw [s_in]
  simp [isin_int]
@[simp] theorem notin_dI {x : Int} {xs : List Int} : fIn true (.int x) (dI xs) AQ = AQ (.fz (.bl (!xs.contains x))) := by
  unfold dI
  rw [s_in]
  simp [isin_int]
@[simp] theorem ri_dI {xs : List Int} {f : List D → Prop} {g : List Int → Prop} : (match (motive := D → Prop) dI xs with
  | .lst ds => f ds
  | .scr _ ns => g ns
  | _ => False) = f (xs.map D.int) := rfl
end
@[simp] theorem ix1 : ixOf "own_ranks" momNs = some 0 := by decide +kernel
@[simp] theorem ix2 : ixOf "own_left" momNs = some 1 := by decide +kernel
@[simp] theorem ix3 : ixOf "own_bears" momNs = some 2 := by decide +kernel
@[simp] theorem ix4 : ixOf "own_total" momNs = some 3 := by decide +kernel
@[simp] theorem ix5 : ixOf "own_standing" momNs = some 4 := by decide +kernel
@[simp] theorem mD_inj {r r' : List (List Int)} {l l' e e' : List Int} : mD r l e = mD r' l' e' ↔ r = r' ∧ l = l' ∧ e = e' := ⟨fun h => by
  simp only [mD, D.obj.injEq, List.cons.injEq, intss_inj, ints_inj] at h
  exact ⟨h.2.2.1, h.2.2.2.1, h.2.2.2.2.1⟩, fun h => by rw [h.1, h.2.1, h.2.2]⟩
section
variable {AQ : TQ} {AX : XQ} {r : List (List Int)} {l e : List Int}
@[simp] theorem u_left : r_Moment_left [mD r l e] AQ AX ↔ AQ (tI l) := ⟨fun h => by
  obtain ⟨r', l', e', h, q⟩ := h
  simp at h
  rw [h.2.1]
  exact q, fun q => ⟨r, l, e, rfl, q⟩⟩
@[simp] theorem u_bears : r_Moment_bears [mD r l e] AQ AX ↔ AQ (tI e) := ⟨fun h => by
  obtain ⟨r', l', e', h, q⟩ := h
  simp at h
  rw [h.2.2]
  exact q, fun q => ⟨r, l, e, rfl, q⟩⟩
@[simp] theorem u_stand : r_Moment_standing [mD r l e] AQ AX ↔ AQ (tI (stand e)) := ⟨fun h => by
  obtain ⟨r', l', e', h, q⟩ := h
  simp at h
  rw [h.2.2]
  exact q, fun q => ⟨r, l, e, rfl, q⟩⟩
@[simp] theorem u_over : r_Moment_is_over [mD r l e] AQ AX ↔ AQ (.fz (.bl (decide (l.sum = 0)))) := ⟨fun h => by
  obtain ⟨r', l', e', h, q⟩ := h
  simp at h
  rw [h.2.1]
  exact q, fun q => ⟨r, l, e, rfl, q⟩⟩
theorem u_ranks (h : r.length ≤ 1000) : r_Moment_ranks [mD r l e] AQ AX ↔ AQ (tII r) := ⟨fun h => by
  obtain ⟨r', l', e', h, _, q⟩ := h
  simp at h
  rw [h.1]
  exact q, fun q => ⟨r, l, e, rfl, h, q⟩⟩
end
/-! ### Moment -/
theorem pure_check_sides : ∀ ds AQ AX, r_check_sides ds AQ AX → a_check_sides (aEnds AQ AX) (ent 2 ds) := by
  intro ds AQ AX h
  obtain ⟨_, _, rfl, p, n, rfl, rfl, h1, h2, h3, h4, q⟩ := fs2_el h
  show a_check_sides (aEnds AQ AX) [some (.fz (.int p)), some (.fz (.int n))]
  have e1 : ¬ p = 0 := by omega
  have e2 : ¬ n = 0 := by omega
  have e3 : ¬ 8 < p := by omega
  have e4 : ¬ 8 < n := by omega
  simp [a_check_sides, e1, e2, e3, e4, q]
theorem pure_check_amounts : ∀ ds AQ AX, r_check_amounts ds AQ AX → a_check_amounts (aEnds AQ AX) (ent 5 ds) := by
  intro ds AQ AX h
  obtain ⟨_, _, _, rfl, xs, l, u, rfl, rfl, rfl, hx, q⟩ := fs3_el h
  show a_check_amounts (aEnds AQ AX) [some (.fz (dI xs)), some (.fz (.int l)), some (.fz (.int u)), none, none]
  simp only [a_check_amounts, s_seq, s_for]
  simp
  refine for_enum (fun i ρ => ∃ o p, ρ = [some (.fz (dI xs)), some (.fz (.int l)), some (.fz (.int u)), o, p]) ⟨_, _, rfl⟩ (fun ρ _ => q) ?_
  rintro rest i x ρ hi ⟨o, p, rfl⟩ k
  obtain ⟨h1, h2⟩ := hx x (List.mem_of_getElem? hi)
  have e1 : ¬ x < l := by omega
  have e2 : ¬ u < x := by omega
  refine ⟨_, rfl, ?_⟩
  simp [e1, e2]
  exact k _ ⟨_, _, rfl⟩
theorem pure_Moment_ranks : ∀ ds AQ AX, r_Moment_ranks ds AQ AX → a_Moment_ranks (aEnds AQ AX) (ent 2 ds) := by
  intro ds AQ AX h
  obtain ⟨_, rfl, r, l, e, rfl, hz, q⟩ := fs1_el h
  show a_Moment_ranks (aEnds AQ AX) [some (.fz (mD r l e)), none]
  simp [a_Moment_ranks, mD, dII]
  refine lc_map tI (by omega) (fun x _ => ⟨_, rfl, fun BQ h => h, fun TQ' h => ?_⟩) (by simpa [tII] using q)
  simpa using h
theorem pure_Moment_left : ∀ ds AQ AX, r_Moment_left ds AQ AX → a_Moment_left (aEnds AQ AX) (ent 1 ds) := by
  intro ds AQ AX h
  obtain ⟨_, rfl, r, l, e, rfl, q⟩ := fs1_el h
  show a_Moment_left (aEnds AQ AX) [some (.fz (mD r l e))]
  simp [a_Moment_left, mD, q]
theorem pure_Moment_bears : ∀ ds AQ AX, r_Moment_bears ds AQ AX → a_Moment_bears (aEnds AQ AX) (ent 1 ds) := by
  intro ds AQ AX h
  obtain ⟨_, rfl, r, l, e, rfl, q⟩ := fs1_el h
  show a_Moment_bears (aEnds AQ AX) [some (.fz (mD r l e))]
  simp [a_Moment_bears, mD, q]
theorem pure_Moment_standing : ∀ ds AQ AX, r_Moment_standing ds AQ AX → a_Moment_standing (aEnds AQ AX) (ent 1 ds) := by
  intro ds AQ AX h
  obtain ⟨_, rfl, r, l, e, rfl, q⟩ := fs1_el h
  show a_Moment_standing (aEnds AQ AX) [some (.fz (mD r l e))]
  simp [a_Moment_standing, mD, q]
theorem pure_Moment_is_over : ∀ ds AQ AX, r_Moment_is_over ds AQ AX → a_Moment_is_over (aEnds AQ AX) (ent 1 ds) := by
  intro ds AQ AX h
  obtain ⟨_, rfl, r, l, e, rfl, q⟩ := fs1_el h
  show a_Moment_is_over (aEnds AQ AX) [some (.fz (mD r l e))]
  simp [a_Moment_is_over, mD, q]
end K78

set_option Elab.async false
set_option linter.all false
set_option maxRecDepth 100000
set_option maxHeartbeats 4000000
namespace K78
open PySem PySem.Spec PyProof.Rows L2 AL
section
variable {A : AEnds} {ρ : AS} {i : Nat} {r ri : RE}
theorem ixN_of {n : Nat} {k : Int} (h0 : 0 ≤ k) (h1 : k < n) : ixN n k = some k.toNat := by
  unfold ixN
  rw [if_pos h0, if_pos h1]
/-- xs[k] = v, ints -/
theorem do_setIx {xs : List Int} {k v : Int} (hρ : ρ[i]? = some (some (tI xs))) (hr : ∀ TQ' : TQ, TQ' (.fz (.int v)) → r (envB ρ) TQ' (fun x => A.ex x ρ)) (hk : ∀ TQ' : TQ, TQ' (.fz (.int k)) → ri (envB ρ) TQ' (fun x => A.ex x ρ))
    (h0 : 0 ≤ k) (h1 : k < xs.length) (q : A.nx (ρ.set i (some (tI (xs.set k.toNat v))))) : aSetIx i r ri A ρ := by
  rw [s_setIx]
  refine hr _ ⟨rfl, ?_⟩
  rw [hρ]
  dsimp only [tI]
  refine hk _ ?_
  dsimp only [s_er]
  rw [List.length_map, List.length_map, ixN_of h0 h1]
  dsimp only
  have e : ((xs.map D.int).map T.fz).set k.toNat (.fz (.int v)) = ((xs.set k.toNat v).map D.int).map T.fz := by
    rw [List.map_set, List.map_set]
  rw [e]
  exact q
/-- x.append(e) -/
theorem do_app {ts : List T} {t : T} (hρ : ρ[i]? = some (some (.lst ts))) (hz : ts.length < 16777216) (ht : t.pure = true) (hr : ∀ TQ' : TQ, TQ' t → r (envB ρ) TQ' (fun x => A.ex x ρ)) (q : A.nx (ρ.set i (some (.lst (ts ++ [t]))))) : aApp i r A ρ := by
  rw [s_app, hρ]
  exact ⟨hz, hr _ ⟨ht, q⟩⟩
end
theorem cuts_append : ∀ {ws vs : List Pc} {l : List Int}, cuts l (ws ++ vs) = (cuts l ws).bind fun l' => cuts l' vs
  | [], _, _ => rfl
  | p :: ws, vs, l => by
    show ((cutL l p).bind fun l' => cuts l' (ws ++ vs)) = ((cutL l p).bind fun l' => cuts l' ws).bind fun l' => cuts l' vs
    cases h : cutL l p with
    | none => rfl
    | some l1 => exact cuts_append (ws := ws) (vs := vs) (l := l1)
theorem cuts_at {l l' : List Int} {ws : List Pc} (h : cuts l ws = some l') {i : Nat} {p : Pc} (hp : ws[i]? = some p) : ∃ l1 l2, cuts l (ws.take i) = some l1 ∧ cutL l1 p = some l2 ∧ cuts l (ws.take (i + 1)) = some l2 := by
  have e : ws = ws.take (i + 1) ++ ws.drop (i + 1) := (List.take_append_drop _ _).symm
  rw [e, cuts_append] at h
  have e2 : ws.take (i + 1) = ws.take i ++ [p] := take_succ' hp
  rw [e2, cuts_append] at h ⊢
  cases h1 : cuts l (ws.take i) with
  | none => rw [h1] at h; cases h
  | some l1 =>
    rw [h1] at h
    simp only [Option.bind_some] at h ⊢
    cases h2 : cutL l1 p with
    | none => rw [show cuts l1 [p] = none by unfold cuts; rw [h2]; rfl] at h; cases h
    | some l2 =>
      have e3 : cuts l1 [p] = some l2 := by unfold cuts; rw [h2]; rfl
      exact ⟨l1, l2, rfl, h2, e3⟩
theorem cutL_some {l l' : List Int} {p : Pc} (h : cutL l p = some l') : (0 ≤ p.1 ∧ p.1 < l.length ∧ 1 ≤ p.2 ∧ p.2 ≤ gt l p.1) ∧ l' = l.set p.1.toNat (gt l p.1 - p.2) := by
  unfold cutL at h
  split at h
  · rename_i c
    simp only [Option.some.injEq] at h
    exact ⟨c, h.symm⟩
  · cases h
theorem cuts_len : ∀ {ws : List Pc} {l l' : List Int}, cuts l ws = some l' → l'.length = l.length
  | [], l, l', h => by
    unfold cuts at h
    cases h
    rfl
  | p :: ws, l, l', h => by
    unfold cuts at h
    cases h1 : cutL l p with
    | none => rw [h1] at h; cases h
    | some l1 =>
      rw [h1] at h
      rw [cuts_len h, (cutL_some h1).2, List.length_set]
theorem pure_rest_behind : ∀ ds AQ AX, r_rest_behind ds AQ AX → a_rest_behind (aEnds AQ AX) (ent 6 ds) := by
  intro ds AQ AX h
  obtain ⟨_, _, rfl, r, l, e, ws, l', rfl, rfl, hc, q⟩ := fs2_el h
  show a_rest_behind (aEnds AQ AX) [some (.fz (mD r l e)), some (.fz (dP ws)), none, none, none, none]
  simp only [a_rest_behind, s_seq]
  simp [s_for]
  refine for_enum (fun i ρ => ∃ l1 o p u, cuts l (ws.take i) = some l1 ∧ ρ = [some (.fz (mD r l e)), some (.fz (dP ws)), some (tI l1), o, p, u]) ⟨l, _, _, _, rfl, rfl⟩ ?_ ?_
  · rintro ρ ⟨l1, o, p, u, h1, rfl⟩
    rw [List.take_length, hc] at h1
    cases h1
    simpa using q
  · rintro rest i w ρ hi ⟨l1, o, p, u, h1, rfl⟩ k
    obtain ⟨l1', l2, h2, h3, h4⟩ := cuts_at hc hi
    rw [h1] at h2
    cases h2
    obtain ⟨⟨c1, c2, c3, c4⟩, rfl⟩ := cutL_some h3
    have e1 : ¬ w.1 < 0 := by omega
    have e2 : ¬ (l1.length : Int) ≤ w.1 := by omega
    have e3 : ¬ w.2 < 1 := by omega
    have e4 : ¬ gt l1 w.1 < w.2 := by omega
    refine ⟨[(3, .int i), (4, .int w.1), (5, .int w.2)], rfl, ?_⟩
    simp only [s_seq, s_if]
    simp [e1, e2, e3, ix_gt c1 c2, e4]
    refine do_setIx (k := w.1) (v := gt l1 w.1 - w.2) rfl (fun TQ' h => ?_) (fun TQ' h => ?_) c1 c2 (k _ ⟨_, _, _, _, h4, rfl⟩)
    · simpa [ix_gt c1 c2] using h
    · simpa using h
theorem pure_check_weaving : ∀ ds AQ AX, r_check_weaving ds AQ AX → a_check_weaving (aEnds AQ AX) (ent 2 ds) := by
  intro ds AQ AX h
  obtain ⟨_, _, rfl, r, l, e, ws, l', rfl, rfl, hc, hz, q⟩ := fs2_el h
  show a_check_weaving (aEnds AQ AX) [some (.fz (mD r l e)), some (.fz (dP ws))]
  simp [a_check_weaving]
  refine in2 ?_
  refine ⟨r, l, e, ws, l', rfl, rfl, hc, ?_⟩
  simp [hz, q]
theorem pure_check_pieces : ∀ ds AQ AX, r_check_pieces ds AQ AX → a_check_pieces (aEnds AQ AX) (ent 4 ds) := by
  intro ds AQ AX h
  obtain ⟨_, rfl, ws, rfl, hw, q⟩ := fs1_el h
  show a_check_pieces (aEnds AQ AX) [some (.fz (dP ws)), none, none, none]
  simp only [a_check_pieces, s_seq, s_for]
  simp
  refine for_enum (fun i ρ => ∃ o p u, ρ = [some (.fz (dP ws)), o, p, u]) ⟨_, _, _, rfl⟩ (fun ρ _ => q) ?_
  rintro rest i w ρ hi ⟨o, p, u, rfl⟩ k
  obtain ⟨h1, h2⟩ := hw w (List.mem_of_getElem? hi)
  have e1 : ¬ w.1 < 0 := by omega
  have e2 : ¬ w.2 < 1 := by omega
  refine ⟨[(1, .int i), (2, .int w.1), (3, .int w.2)], rfl, ?_⟩
  simp [e1, e2]
  exact k _ ⟨_, _, _, rfl⟩
end K78

set_option Elab.async false
set_option linter.all false
set_option maxRecDepth 100000
set_option maxHeartbeats 4000000
namespace K78
open PySem PySem.Spec PyProof.Rows L2 AL
theorem ers_fint {α : Type} {g : α → Int} {L : List α} : T.ers (L.map fun w => T.fz (.int (g w))) = (L.map g).map D.int := by
  rw [T.ers_map, List.map_map, List.map_map]
  rfl
theorem ers_tPc {L : List Pc} : T.ers (L.map tPc) = L.map dPc := by
  rw [T.ers_map, List.map_map]
  rfl
theorem ers_tSk {L : List Sk} : T.ers (L.map tSk) = L.map dSk := by
  rw [T.ers_map, List.map_map]
  rfl
@[simp] theorem tP_er {L : List Pc} : (tP L).er = dP L := by rw [tP, s_erL, ers_tPc]; rfl
@[simp] theorem tS_er {L : List Sk} : (tS L).er = dS L := by rw [tS, s_erL, ers_tSk]; rfl
theorem ix_last {xs : List D} {d : D} {AQ : TQ} (h : xs.getLast? = some d) : fIx (.lst xs) (.int (-1)) AQ = AQ (.fz d) := by
  have hn : xs ≠ [] := fun z => by rw [z] at h; cases h
  have hl : 0 < xs.length := List.length_pos_iff.mpr hn
  refine s_ix ?_
  unfold atI ixN
  rw [if_neg (by omega), if_pos (by omega)]
  have e : ((-1 : Int) + (xs.length : Int)).toNat = xs.length - 1 := by omega
  simp only [Option.bind_some, e]
  rw [← List.getLast?_eq_getElem?]
  exact h
theorem ix_lastP {ws : List Pc} {p : Pc} {AQ : TQ} (h : ws.getLast? = some p) : fIx (dP ws) (.int (-1)) AQ = AQ (.fz (dPc p)) := ix_last (by rw [List.getLast?_map, h]; rfl)
theorem pure_effective : ∀ ds AQ AX, r_effective ds AQ AX → a_effective (aEnds AQ AX) (ent 6 ds) := by
  intro ds AQ AX h
  obtain ⟨_, _, rfl, ws, band, rfl, rfl, hz, hw, hb, hs, q⟩ := fs2_el h
  show a_effective (aEnds AQ AX) [some (.fz (dP ws)), some (.fz (dI band)), none, none, none, none]
  simp only [a_effective, s_seq]
  simp [s_for]
  refine in1 ⟨ws, rfl, hw, ?_⟩
  refine for_enum (fun i ρ => ∃ o p, ρ = [some (.fz (dP ws)), some (.fz (dI band)), o, p, none, none]) ⟨_, _, rfl⟩ ?_ ?_
  · rintro ρ ⟨o, p, rfl⟩
    simp [dP]
    refine lc_det (f := dPc) (fun w => band.contains w.1) (fun w => .fz (.int w.2)) (by omega) (fun w _ => ⟨[(3, .int w.1), (5, .int w.2)], rfl, fun BQ h => ?_, fun _ TQ' h => ?_⟩) ?_
    · simpa using h
    · simpa using h
    · have e : T.ers ((ws.filter fun w => band.contains w.1).map fun w => T.fz (.int w.2)) = ((ws.filter fun w => band.contains w.1).map (·.2)).map D.int := ers_fint
      simp only [s_erL, e]
      rw [show (D.lst ((((ws.filter fun w => band.contains w.1).map (·.2)).map D.int))) = dI ((ws.filter fun w => band.contains w.1).map (·.2)) from rfl]
      simp
      rw [show D.lst (ws.map dPc) = dP ws from rfl]
      cases hlast : ws.getLast? with
      | none =>
        have hn : ws = [] := by simpa using hlast
        subst hn
        simpa [ownOf] using q
      | some p =>
        have hpos : ¬ ws = [] := fun z => by rw [z] at hlast; cases hlast
        have hl : 0 < ws.length := List.length_pos_iff.mpr hpos
        simp [hl, ix_lastP hlast, dPc]
        unfold ownOf at q
        rw [hlast] at q
        dsimp only at q
        by_cases c : p.1 ∈ band
        · simp [c] at q ⊢
          exact q
        · simp [c] at q ⊢
          exact q
  · rintro rest i x ρ hi ⟨o, p, rfl⟩ k
    have h1 := hb x (List.mem_of_getElem? hi)
    have e1 : ¬ x < 0 := by omega
    refine ⟨[(2, .int i), (3, .int x)], rfl, ?_⟩
    simp [e1]
    by_cases c : 0 < (i : Int)
    · have hil : i < band.length := (List.getElem?_eq_some_iff.mp hi).1
      have c1 : 0 < i := by omega
      have e2 : ¬ x ≤ gt band ((i : Int) - 1) := by
        have hp : (i : Int) - 1 = ((i - 1 : Nat) : Int) := by omega
        have hi2 : band[i]? = some x := hi
        have g1 : gt band ((i : Int) - 1) = band[i - 1] := by
          rw [hp]
          simp only [gt, Int.toNat_natCast, List.getD_eq_getElem?_getD]
          rw [List.getElem?_eq_getElem (by omega)]
          rfl
        have g2 : band[i] = x := (List.getElem?_eq_some_iff.mp hi).2
        have g3 := List.pairwise_iff_getElem.mp hs (i - 1) i (by omega) hil (by omega)
        rw [g1]
        omega
      simp [c1, ix_gt (show 0 ≤ (i : Int) - 1 by omega) (show (i : Int) - 1 < band.length by omega), e2]
      exact k _ ⟨_, _, rfl⟩
    · have c1 : ¬ 0 < i := by omega
      simp [c1]
      exact k _ ⟨_, _, rfl⟩
theorem dSk_bind {a b c : Nat} {s : Sk} : Tg.bind (.tp [.nm a, .nm b, .nm c]) (dSk s) = some [(a, .int s.1), (b, .int s.2.1), (c, .int s.2.2)] := rfl
theorem pure_check_strike : ∀ ds AQ AX, r_check_strike ds AQ AX → a_check_strike (aEnds AQ AX) (ent 7 ds) := by
  intro ds AQ AX h
  obtain ⟨_, _, _, _, rfl, l, e, s, k, rfl, rfl, rfl, rfl, q1, q2⟩ := fs4_el h
  show a_check_strike (aEnds AQ AX) [some (.fz (dI l)), some (.fz (dI e)), some (.fz (dSk s)), some (.fz (.int k)), none, none, none]
  simp only [a_check_strike, s_seq]
  simp [dSk_bind]
  by_cases c1 : s.1 < 0
  · simp [c1]
    exact q2 fun z => by have := z.1; omega
  by_cases c2 : (l.length : Int) ≤ s.1
  · simp [c1, c2]
    exact q2 fun z => by have := z.2.1; omega
  by_cases c3 : s.2.1 < 0
  · simp [c1, c2, c3]
    exact q2 fun z => by have := z.2.2.1; omega
  by_cases c4 : (e.length : Int) ≤ s.2.1
  · simp [c1, c2, c3, c4]
    exact q2 fun z => by have := z.2.2.2.1; omega
  have i1 := @ix_gt (xs := l) (k := s.1)
  by_cases c5 : s.2.2 < 1
  · simp [c1, c2, c3, c4, c5]
    exact q2 fun z => by have := z.2.2.2.2.1; omega
  have x1 : ∀ {Q : TQ}, fIx (dI l) (.int s.1) Q = Q (.fz (.int (gt l s.1))) := fun {Q} => ix_gt (by omega) (by omega)
  have x2 : ∀ {Q : TQ}, fIx (dI e) (.int s.2.1) Q = Q (.fz (.int (gt e s.2.1))) := fun {Q} => ix_gt (by omega) (by omega)
  by_cases c6 : gt l s.1 < s.2.2
  · simp [c1, c2, c3, c4, c5, x1, c6]
    exact q2 fun z => by have := z.2.2.2.2.2.1; omega
  by_cases c7 : gt e s.2.1 < s.2.2
  · simp [c1, c2, c3, c4, c5, x1, c6, x2, c7]
    exact q2 fun z => by have := z.2.2.2.2.2.2; omega
  simp [c1, c2, c3, c4, c5, x1, c6, x2, c7]
  exact q1 ⟨by omega, by omega, by omega, by omega, by omega, by omega, by omega⟩
theorem pure_take_strike : ∀ ts ds AQ, r_take_strike ts ds AQ → ts.length = 2 → a_take_strike (ioEnds 2 true AQ) (entIO 6 ts ds) := by
  intro ts ds AQ h _
  obtain ⟨l, e, s, rfl, rfl, ok, q⟩ := h
  obtain ⟨o1, o2, o3, o4, o5, o6, o7⟩ := ok
  show a_take_strike (ioEnds 2 true AQ) [some (tI l), some (tI e), some (.fz (dSk s)), none, none, none]
  simp only [a_take_strike, s_seq]
  simp [dSk_bind]
  refine do_setIx (k := s.1) (v := gt l s.1 - s.2.2) rfl (fun TQ' h => ?_) (fun TQ' h => ?_) o1 o2 ?_
  · simpa [ix_gt o1 o2] using h
  · simpa using h
  simp only [s_seq]
  refine do_setIx (k := s.2.1) (v := gt e s.2.1 - s.2.2) rfl (fun TQ' h => ?_) (fun TQ' h => ?_) o3 o4 ?_
  · simpa [ix_gt o3 o4] using h
  · simpa using h
  exact ⟨[tI (hitL l s), tI (hitE e s)], rfl, rfl, q⟩
theorem ion_take_strike : ∀ ts ds AQ, r_take_strike ts ds AQ → 2 + ds.length = 3 := by
  intro ts ds AQ h
  obtain ⟨l, e, s, rfl, rfl, ok, q⟩ := h
  rfl
theorem pure_is_out : ∀ ds AQ AX, r_is_out ds AQ AX → a_is_out (aEnds AQ AX) (ent 4 ds) := by
  intro ds AQ AX h
  obtain ⟨_, _, _, rfl, row, e, x, rfl, rfl, rfl, hl, h8, h0, h1, q⟩ := fs3_el h
  show a_is_out (aEnds AQ AX) [some (.fz (dI row)), some (.fz (dI e)), some (.fz (.int x)), none]
  simp [a_is_out]
  refine ⟨by omega, ?_⟩
  rw [rngD_map]
  refine lc_map (fun i : Nat => .fz (.bl (decide (0 < gt e i) && decide (gt row x < gt row i)))) (by rw [List.length_range]; omega) (fun i hi => ⟨[(3, .int (0 + (i : Nat)))], rfl, fun BQ h => h, fun TQ' h => ?_⟩) ?_
  · have hi' : i < e.length := by simpa using hi
    have x1 : ∀ {Q : TQ}, fIx (dI e) (.int (i : Nat)) Q = Q (.fz (.int (gt e i))) := fun {Q} => ix_gt (by omega) (by omega)
    have x2 : ∀ {Q : TQ}, fIx (dI row) (.int (i : Nat)) Q = Q (.fz (.int (gt row i))) := fun {Q} => ix_gt (by omega) (by omega)
    have x3 : ∀ {Q : TQ}, fIx (dI row) (.int x) Q = Q (.fz (.int (gt row x))) := fun {Q} => ix_gt (by omega) (by omega)
    simp [x1, x2, x3]
    by_cases c : 0 < gt e i
    · simpa [c] using h
    · simpa [c] using h
  · have e1 : T.ers ((List.range e.length).map fun i : Nat => T.fz (.bl (decide (0 < gt e i) && decide (gt row x < gt row i)))) = ((List.range e.length).map fun i : Nat => (decide (0 < gt e i) && decide (gt row x < gt row i))).map D.bl := by
      rw [T.ers_map, List.map_map, List.map_map]
      rfl
    simp only [s_erL, e1]
    simp only [s_bls, s_any]
    exact q _
end K78

set_option Elab.async false
set_option linter.all false
set_option maxRecDepth 100000
set_option maxHeartbeats 4000000
namespace K78
open PySem PySem.Spec PyProof.Rows L2 AL
section
variable {A : AEnds} {ρ : AS} {i j : Nat} {r : RE} {ra : RA}
theorem do_app2 {ts : List T} (hρ : ρ[i]? = some (some (.lst ts))) (hz : ts.length < 16777216) (q : r (envB ρ) (fun t => t.pure = true ∧ A.nx (ρ.set i (some (.lst (ts ++ [t]))))) (fun x => A.ex x ρ)) : aApp i r A ρ := by
  rw [s_app, hρ]
  exact ⟨hz, q⟩
theorem do_io2 {f : FIO} {xs ys : List Int} (h1 : ρ[i]? = some (some (tI xs))) (h2 : ρ[j]? = some (some (tI ys))) (q : ra (envF ρ) (fun ts => f [tI xs, tI ys] (T.ers ts) fun ts' _ => match ts' with
    | [t', u'] => A.nx ((ρ.set i (some t')).set j (some u'))
    | _ => False) (fun x => A.ex x ρ)) : aIO2 i j f ra A ρ := by
  rw [s_io2, h1, h2]
  exact q
end
def tBs (mk : List Bool) : List T := mk.map fun b => .fz (.bl b)
theorem tBs_ers {mk : List Bool} : T.ers (tBs mk) = mk.map D.bl := by
  unfold tBs
  rw [T.ers_map, List.map_map]
  rfl
theorem tBs_snoc {mk : List Bool} {b : Bool} : tBs mk ++ [T.fz (.bl b)] = tBs (mk ++ [b]) := by
  unfold tBs
  rw [List.map_append]
  rfl
theorem tBs_len {mk : List Bool} : (tBs mk).length = mk.length := by simp [tBs]
theorem hitL_len {l : List Int} {s : Sk} : (hitL l s).length = l.length := by simp [hitL]
theorem hitE_len {e : List Int} {s : Sk} : (hitE e s).length = e.length := by simp [hitE]
theorem gt_dII {r : List (List Int)} {k : Int} {AQ : TQ} (h0 : 0 ≤ k) (h1 : k < r.length) : ∃ row ∈ r, fIx (dII r) (.int k) AQ = AQ (.fz (dI row)) := by
  have hk : k.toNat < r.length := by omega
  refine ⟨r[k.toNat], List.getElem_mem hk, ?_⟩
  rw [s_ix_intss h0 h1]
  simp only [List.getD_eq_getElem?_getD, List.getElem?_eq_getElem hk, Option.getD_some]
theorem pure_walk : ∀ ds AQ AX, r_walk ds AQ AX → a_walk (aEnds AQ AX) (ent 8 ds) := by
  intro ds AQ AX h
  obtain ⟨_, _, rfl, r, l, e, ss, rfl, rfl, g, hz, q1, q2⟩ := fs2_el h
  show a_walk (aEnds AQ AX) [some (.fz (mD r l e)), some (.fz (dS ss)), none, none, none, none, none, none]
  simp only [a_walk, s_seq]
  have hr : r.length ≤ 1000 := by have := g.r8; omega
  simp [u_ranks hr, s_for]
  refine for_enum (fun i ρ => ∃ li ei, ∃ mk : List Bool, ∃ o p, play l e ss 0 = play li ei (ss.drop i) i ∧ li.length = l.length ∧ ei.length = e.length ∧ mk.length = i ∧
    ρ = [some (.fz (mD r l e)), some (.fz (dS ss)), some (.fz (dII r)), some (tI li), some (tI ei), some (.lst (tBs mk)), o, p]) ⟨l, e, [], _, _, rfl, rfl, rfl, rfl, rfl⟩ ?_ ?_
  · rintro ρ ⟨li, ei, mk, o, p, h1, h2, h3, h4, rfl⟩
    rw [List.drop_length] at h1
    have := q1 li ei h1 mk
    simp
    rw [tBs_ers]
    exact this
  · rintro rest i s ρ hi ⟨li, ei, mk, o, p, h1, h2, h3, h4, rfl⟩ k
    have hil : i < ss.length := (List.getElem?_eq_some_iff.mp hi).1
    have hd : ss.drop i = s :: ss.drop (i + 1) := by
      rw [List.drop_eq_getElem_cons hil, (List.getElem?_eq_some_iff.mp hi).2]
    rw [hd] at h1
    refine ⟨[(6, .int i), (7, dSk s)], rfl, ?_⟩
    simp only [s_seq]
    simp
    refine in4 ⟨li, ei, s, i, rfl, rfl, rfl, rfl, fun ok => ?_, fun nok => ?_⟩
    · have h1' : play l e ss 0 = play (hitL li s) (hitE ei s) (ss.drop (i + 1)) (i + 1) := by
        rw [h1]
        show (if okS li ei s then _ else _) = _
        rw [if_pos ok]
      obtain ⟨o1, o2, o3, o4, o5, o6, o7⟩ := ok
      have hll := g.ll
      refine do_app2 (ts := tBs mk) rfl (by rw [tBs_len]; omega) ?_
      obtain ⟨row, hrow, ex⟩ := gt_dII (r := r) (k := s.1) (AQ := fun _ => True) o1 (by omega)
      have hk : s.1.toNat < r.length := by omega
      have x1 : ∀ {Q : TQ}, fIx (dII r) (.int s.1) Q = Q (.fz (dI (r[s.1.toNat]))) := fun {Q} => by
        rw [s_ix_intss o1 (by omega)]
        simp only [List.getD_eq_getElem?_getD, List.getElem?_eq_getElem hk, Option.getD_some]
      simp [dSk, x1]
      refine in3 ⟨_, ei, s.2.1, rfl, rfl, rfl, ?_, by have := g.b8; omega, o3, o4, fun b => ?_⟩
      · rw [g.rl _ (List.getElem_mem hk), h3]
      simp
      refine do_io2 (xs := li) (ys := ei) rfl rfl ?_
      simp
      refine ⟨li, ei, s, rfl, rfl, ⟨o1, o2, o3, o4, o5, o6, o7⟩, ?_⟩
      refine k _ ⟨hitL li s, hitE ei s, mk ++ [b], some (.fz (.int i)), some (.fz (dSk s)), h1', by rw [hitL_len, h2], by rw [hitE_len, h3], by simp [h4], ?_⟩
      rw [← tBs_snoc]
      rfl
    · refine q2 i ?_
      rw [h1]
      show (if okS li ei s then _ else _) = _
      rw [if_neg nok]
end K78

set_option Elab.async false
set_option linter.all false
set_option maxRecDepth 100000
set_option maxHeartbeats 4000000
namespace K78
open PySem PySem.Spec PyProof.Rows L2 AL
section
variable {A : AEnds} {ρ : AS} {i j : Nat} {r : RE}
theorem do_fld {C f : Str} {ns : List Str} {ts : List T} (hρ : ρ[i]? = some (some (.ins C ns ts))) (hn : f ∉ ns) (hl : ns.length = ts.length) (hz : ns.length < 1000) (q : r (envF ρ) (fun t => A.nx (ρ.set i (some (.ins C (ns ++ [f]) (ts ++ [t]))))) (fun x => A.ex x ρ)) : aFld C f i r A ρ := by
  rw [s_fld, hρ]
  have e : (fun t => (match (some (some (T.ins C ns ts)) : Option (Option T)) with
    | some (some (.ins C' ns ts)) => C' = C ∧ f ∉ ns ∧ ns.length = ts.length ∧ ns.length < 1000 ∧ A.nx (ρ.set i (some (.ins C (ns ++ [f]) (ts ++ [t]))))
    | _ => False)) = fun t => A.nx (ρ.set i (some (.ins C (ns ++ [f]) (ts ++ [t])))) := by
    funext t
    exact propext ⟨fun h => h.2.2.2.2, fun h => ⟨rfl, hn, hl, hz, h⟩⟩
  rw [e]
  exact q
end
theorem pure_Moment___init__ : ∀ ts ds AQ, io_Moment___init__ ts ds AQ → ts.length = 1 → a_Moment___init__ (ioEnds 1 true AQ) (entIO 8 ts ds) := by
  intro ts ds AQ h _
  obtain ⟨rfl, r, l, e, rfl, g, q⟩ := h
  show a_Moment___init__ (ioEnds 1 true AQ) [some (.ins "Moment" [] []), some (.fz (dII r)), some (.fz (dI l)), some (.fz (dI e)), none, none, none, none]
  obtain ⟨g1, g2, g3, g4, g5, g6, g7, g8, g9, g10⟩ := g
  simp only [a_Moment___init__, s_seq]
  simp
  refine in2 ⟨r.length, e.length, rfl, rfl, by omega, by omega, by omega, by omega, ?_⟩
  refine ⟨by omega, in3 ⟨l ++ e, 0, 100000000000000, rfl, rfl, rfl, fun x hx => ?_, ?_⟩⟩
  · rcases List.mem_append.mp hx with h | h
    · exact g8 x h
    · exact g9 x h
  simp [s_for]
  refine for_enum (fun i ρ => ∃ o p, ρ = [some (.ins "Moment" [] []), some (.fz (dII r)), some (.fz (dI l)), some (.fz (dI e)), o, p, none, none]) ⟨_, _, rfl⟩ ?_ ?_
  · rintro ρ ⟨o, p, rfl⟩
    simp [g10]
    refine do_fld (ns := []) (ts := []) rfl (by simp) rfl (by decide) ?_
    simp
    refine lc_map tI (by omega) (fun x _ => ⟨[(5, dI x)], rfl, fun BQ h => h, fun TQ' h => by simpa using h⟩) ?_
    refine do_fld (ns := ["own_ranks"]) (ts := [tII r]) rfl (by decide +kernel) rfl (by decide) ?_
    simp
    refine do_fld (ns := ["own_ranks", "own_left"]) (ts := [tII r, tI l]) rfl (by decide +kernel) rfl (by decide) ?_
    simp
    refine do_fld (ns := ["own_ranks", "own_left", "own_bears"]) (ts := [tII r, tI l, tI e]) rfl (by decide +kernel) rfl (by decide) ?_
    simp
    refine do_fld (ns := ["own_ranks", "own_left", "own_bears", "own_total"]) (ts := [tII r, tI l, tI e, .fz (.int l.sum)]) (by simp [g10]) (by decide +kernel) rfl (by decide) ?_
    simp
    rw [enumD_map]
    refine lc_det (f := fun p : Int × Nat => .tup [.int (p.2 : Nat), .int p.1]) (fun p => decide (0 < p.1)) (fun p => .fz (.int (p.2 : Nat))) (by rw [List.length_zipIdx]; omega) (fun x _ => ⟨[(6, .int (x.2 : Nat)), (7, .int x.1)], rfl, fun BQ h => by simpa using h, fun _ TQ' h => by simpa using h⟩) ?_
    have es : T.lst ((e.zipIdx.filter fun p => decide (0 < p.1)).map fun p => T.fz (.int (p.2 : Nat))) = tI (stand e) := by
      unfold tI stand
      rw [List.map_map, List.map_map]
      rfl
    refine ⟨[mT r l e], rfl, ?_, q⟩
    rw [es]
    rfl
  · rintro rest i row ρ hi ⟨o, p, rfl⟩ k
    have hrow := List.mem_of_getElem? hi
    have hl := g6 row hrow
    refine ⟨[(4, .int i), (5, dI row)], rfl, ?_⟩
    simp only [s_seq]
    simp
    refine ⟨by omega, fun m hm _ => ?_⟩
    have e1 : ¬ m < 0 := by have := (g7 row hrow m hm).1; omega
    simp [e1]
    refine ⟨by omega, fun n hn _ => ?_⟩
    have e2 : ¬ 1000000 < n := by have := (g7 row hrow n hn).2; omega
    simp [e2]
    exact k _ ⟨_, _, rfl⟩
end K78

set_option Elab.async false
set_option linter.all false
set_option maxRecDepth 100000
set_option maxHeartbeats 4000000
namespace K78
open PySem PySem.Spec PyProof.Rows L2 AL
theorem ion_Moment___init__ : ∀ ts ds AQ, io_Moment___init__ ts ds AQ → 1 + ds.length = 4 := by
  intro ts ds AQ h
  obtain ⟨_, r, l, e, rfl, _⟩ := h
  rfl
theorem iof_Moment___init__ : ∀ ds AQ AX, r_Moment___init__ ds AQ AX → io_Moment___init__ [.ins "Moment" [] []] ds (fun ts _ => ∃ t, ts = [t] ∧ AQ t) := by
  intro ds AQ AX h
  obtain ⟨_, _, _, rfl, r, l, e, rfl, rfl, rfl, g, q⟩ := fs3_el h
  exact ⟨rfl, r, l, e, rfl, g, _, rfl, q⟩
theorem sum_set : ∀ {xs : List Int} {i : Nat} {v : Int}, i < xs.length → (xs.set i v).sum = xs.sum - xs.getD i 0 + v
  | [], i, v, h => by simp at h
  | x :: xs, 0, v, h => by simp; omega
  | x :: xs, i + 1, v, h => by
    have ih := sum_set (xs := xs) (i := i) (v := v) (by simpa using h)
    simp only [List.set_cons_succ, List.sum_cons, ih, List.getD_cons_succ]
    omega
theorem gt_mem {xs : List Int} {k : Int} (h0 : 0 ≤ k) (h1 : k < xs.length) : gt xs k ∈ xs := by
  have hk : k.toNat < xs.length := by omega
  unfold gt
  rw [List.getD_eq_getElem?_getD, List.getElem?_eq_getElem hk]
  exact List.getElem_mem hk
theorem good_hit {r : List (List Int)} {l e : List Int} {s : Sk} (g : Good r l e) (ok : okS l e s) : Good r (hitL l s) (hitE e s) := by
  obtain ⟨o1, o2, o3, o4, o5, o6, o7⟩ := ok
  have k1 : s.1.toNat < l.length := by omega
  have k2 : s.2.1.toNat < e.length := by omega
  refine ⟨g.r1, g.r8, by rw [hitE_len]; exact g.b1, by rw [hitE_len]; exact g.b8, by rw [hitL_len]; exact g.ll, fun row h => by rw [hitE_len]; exact g.rl row h, g.rr, fun x hx => ?_, fun x hx => ?_, ?_⟩
  · rcases List.mem_or_eq_of_mem_set hx with h | h
    · exact g.la x h
    · have := g.la _ (gt_mem o1 o2)
      omega
  · rcases List.mem_or_eq_of_mem_set hx with h | h
    · exact g.ba x h
    · have := g.ba _ (gt_mem o3 o4)
      omega
  · unfold hitL hitE
    rw [sum_set k1, sum_set k2, g.eq]
    show e.sum - gt l s.1 + (gt l s.1 - s.2.2) = e.sum - gt e s.2.1 + (gt e s.2.1 - s.2.2)
    omega
theorem play_good {r : List (List Int)} : ∀ {ss : List Sk} {l e l' e' : List Int} {k : Nat}, Good r l e → play l e ss k = .ok (l', e') → Good r l' e'
  | [], l, e, l', e', k, g, h => by
    unfold play at h
    cases h
    exact g
  | s :: ss, l, e, l', e', k, g, h => by
    unfold play at h
    split at h
    · rename_i ok
      exact play_good (good_hit g ok) h
    · cases h
theorem pure_behind : ∀ ds AQ AX, r_behind ds AQ AX → a_behind (aEnds AQ AX) (ent 5 ds) := by
  intro ds AQ AX h
  obtain ⟨_, _, rfl, r, l, e, ss, rfl, rfl, g, hz, q1, q2⟩ := fs2_el h
  show a_behind (aEnds AQ AX) [some (.fz (mD r l e)), some (.fz (dS ss)), none, none, none]
  simp only [a_behind, s_seq]
  simp
  refine in2 ⟨r, l, e, ss, rfl, rfl, g, hz, fun l' e' hp mk => ?_, fun k hk => q2 k hk⟩
  have hr : r.length ≤ 1000 := by have := g.r8; omega
  simp [u_ranks hr]
  exact in3 ⟨r, l', e', rfl, rfl, rfl, play_good g hp, q1 l' e' hp⟩
theorem pure_check_numbers : ∀ ds AQ AX, r_check_numbers ds AQ AX → a_check_numbers (aEnds AQ AX) (ent 4 ds) := by
  intro ds AQ AX h
  obtain ⟨_, _, _, rfl, rfl, rfl, r, l, e, rfl, q1, q2⟩ := fs3_el h
  show a_check_numbers (aEnds AQ AX) [some (.fz (mD r l e)), some (.fz .non), some (.fz .non), none]
  simp only [a_check_numbers, s_seq]
  simp
  by_cases c : l.sum = 0
  · simp [c]
    exact q2 c
  · simp [c]
    exact q1 c
end K78

set_option Elab.async false
set_option linter.all false
set_option maxRecDepth 100000
set_option maxHeartbeats 4000000
namespace K78
open PySem PySem.Spec PyProof.Rows L2 AL
def prev (ms : List Int) : Nat → Option Int
  | 0 => none
  | i + 1 => ms[i]?
theorem gt_nat {xs : List Int} {i : Nat} {x : Int} (h : xs[i]? = some x) : gt xs (i : Nat) = x := by
  unfold gt
  rw [Int.toNat_natCast, List.getD_eq_getElem?_getD, h]
  rfl
theorem pure_check_set : ∀ ds AQ AX, r_check_set ds AQ AX → a_check_set (aEnds AQ AX) (ent 4 ds) := by
  intro ds AQ AX h
  obtain ⟨_, _, rfl, ms, al, rfl, rfl, q1, q2⟩ := fs2_el h
  show a_check_set (aEnds AQ AX) [some (.fz (dI ms)), some (.fz (dI al)), none, none]
  simp only [a_check_set, s_seq, s_for]
  simp
  refine for_enum (fun i ρ => ∃ o p, badSet ms al = badFrom al (prev ms i) (ms.drop i) i ∧ ρ = [some (.fz (dI ms)), some (.fz (dI al)), o, p]) ⟨_, _, rfl, rfl⟩ ?_ ?_
  · rintro ρ ⟨o, p, h1, rfl⟩
    rw [List.drop_length] at h1
    exact q1 h1
  · rintro rest i x ρ hi ⟨o, p, h1, rfl⟩ k
    have hil : i < ms.length := (List.getElem?_eq_some_iff.mp hi).1
    have hd : ms.drop i = x :: ms.drop (i + 1) := by
      rw [List.drop_eq_getElem_cons hil, (List.getElem?_eq_some_iff.mp hi).2]
    rw [hd] at h1
    unfold badFrom at h1
    refine ⟨[(2, .int i), (3, .int x)], rfl, ?_⟩
    simp only [s_seq]
    simp
    by_cases c1 : x ∈ al
    · have c1' : al.contains x = true := by simpa using c1
      cases i with
      | zero =>
        simp [prev, c1, late] at h1
        simp [c1]
        refine k _ ⟨_, _, ?_, rfl⟩
        rw [h1]
        show _ = badFrom al (ms[0]?) (ms.drop 1) 1
        rw [hi, List.drop_one]
      | succ j =>
        have hj : ms[j]? = some ms[j] := List.getElem?_eq_getElem (by omega)
        have e1 : ((j + 1 : Nat) : Int) - 1 = (j : Nat) := by omega
        have x1 : ∀ {Q : TQ}, fIx (dI ms) (.int ((j : Nat) : Int)) Q = Q (.fz (.int ms[j])) := fun {Q} => by
          rw [ix_gt (by omega) (by omega), gt_nat hj]
        have e2 : ((j : Int) + 1 - 1) = (j : Nat) := by omega
        have pos : (0 : Int) < (j : Int) + 1 := by omega
        simp only [prev, hj] at h1
        by_cases c2 : x ≤ ms[j]
        · simp [c1, c2, late] at h1
          simp [c1, pos, e2, x1, c2]
          exact q2 _ h1
        · simp [c1, c2, late] at h1
          simp [c1, pos, e2, x1, c2]
          exact k _ ⟨_, _, by rw [h1]; simp [prev, hi], rfl⟩
    · simp [c1] at h1
      simp [c1]
      exact q2 _ h1
theorem pure_check_band : ∀ ds AQ AX, r_check_band ds AQ AX → a_check_band (aEnds AQ AX) (ent 2 ds) := by
  intro ds AQ AX h
  obtain ⟨_, _, rfl, r, l, e, ms, rfl, rfl, hz, hb, q⟩ := fs2_el h
  show a_check_band (aEnds AQ AX) [some (.fz (mD r l e)), some (.fz (dI ms))]
  simp [a_check_band]
  refine ⟨RgOk.of_le (by omega) (by omega) (by omega) (by omega), in2 ⟨ms, iota l.length, rfl, ?_, fun _ => q, fun k hk => ?_⟩⟩
  · simp [rgI, iota, dI]
    rw [T.ers_map, List.map_map]
    rfl
  · rw [hb] at hk
    cases hk
end K78

set_option Elab.async false
set_option linter.all false
set_option maxRecDepth 100000
set_option maxHeartbeats 4000000
namespace K78
open PySem PySem.Spec PyProof.Rows L2 AL
theorem mem_stand {e : List Int} {x : Int} (h : x ∈ stand e) : 0 ≤ x ∧ x < e.length ∧ 0 < gt e x := by
  unfold stand at h
  obtain ⟨p, hp, rfl⟩ := List.mem_map.mp h
  obtain ⟨h1, h2⟩ := List.mem_filter.mp hp
  have h3 := List.mem_zipIdx_iff_getElem?.mp h1
  have hi : p.2 < e.length := (List.getElem?_eq_some_iff.mp h3).1
  refine ⟨by omega, by omega, ?_⟩
  rw [gt_nat h3]
  simpa using h2
theorem stand_mem {e : List Int} {i : Nat} {x : Int} (h : e[i]? = some x) (hx : 0 < x) : (i : Int) ∈ stand e := by
  unfold stand
  refine List.mem_map.mpr ⟨(x, i), List.mem_filter.mpr ⟨List.mem_zipIdx_iff_getElem?.mpr h, by simpa using hx⟩, rfl⟩
theorem stand_len {e : List Int} : (stand e).length ≤ e.length := by
  unfold stand
  rw [List.length_map]
  have h1 := List.length_filter_le (fun p : Int × Nat => decide (0 < p.1)) e.zipIdx
  rw [List.length_zipIdx] at h1
  exact h1
theorem pos_stand {e : List Int} (h : ∀ x ∈ e, 0 ≤ x) (hs : e.sum ≠ 0) : stand e ≠ [] := by
  intro hn
  refine hs ?_
  have all0 : ∀ x ∈ e, x = 0 := fun x hx => by
    obtain ⟨i, hi⟩ := List.getElem?_of_mem hx
    have h1 := h x hx
    by_cases c : 0 < x
    · have := stand_mem hi c
      rw [hn] at this
      cases this
    · omega
  clear hs hn h
  induction e with
  | nil => rfl
  | cons a e ih =>
    rw [List.sum_cons, all0 a (List.mem_cons_self ..), ih fun x hx => all0 x (List.mem_cons_of_mem _ hx)]
    rfl
theorem tI_map {xs : List Int} : T.lst (xs.map fun x => T.fz (.int x)) = tI xs := by
  unfold tI
  rw [List.map_map]
  rfl
theorem pure_outside_names : ∀ ds AQ AX, r_outside_names ds AQ AX → a_outside_names (aEnds AQ AX) (ent 3 ds) := by
  intro ds AQ AX h
  obtain ⟨_, _, rfl, r, l, e, ns, rfl, rfl, hz, q⟩ := fs2_el h
  show a_outside_names (aEnds AQ AX) [some (.fz (mD r l e)), some (.fz (dI ns)), none]
  simp [a_outside_names]
  have hl := stand_len (e := e)
  refine lc_det (f := D.int) (fun x => !ns.contains x) (fun x => .fz (.int x)) (by omega) (fun x _ => ⟨[(2, .int x)], rfl, fun BQ h => by simpa using h, fun _ TQ' h => by simpa using h⟩) ?_
  rw [tI_map]
  exact q
theorem pure_outside_strokes : ∀ ds AQ AX, r_outside_strokes ds AQ AX → a_outside_strokes (aEnds AQ AX) (ent 4 ds) := by
  intro ds AQ AX h
  obtain ⟨_, _, rfl, r, l, e, ns, rfl, rfl, hz, q⟩ := fs2_el h
  show a_outside_strokes (aEnds AQ AX) [some (.fz (mD r l e)), some (.fz (dI ns)), none, none]
  simp only [a_outside_strokes, s_seq]
  simp
  refine in2 ⟨r, l, e, ns, rfl, rfl, hz, ?_⟩
  simp
  have hl := stand_len (e := e)
  have hl2 : (outs e ns).length ≤ (stand e).length := List.length_filter_le _ _
  refine lc_map (f := D.int) (fun x => .fz (.int (gt e x))) (by omega) (fun x hx => ⟨[(3, .int x)], rfl, fun BQ h => h, fun TQ' h => ?_⟩) ?_
  · obtain ⟨m1, m2, _⟩ := mem_stand (List.mem_filter.mp hx).1
    simpa [ix_gt m1 m2] using h
  · have e1 : T.ers ((outs e ns).map fun x => T.fz (.int (gt e x))) = ((outs e ns).map (gt e)).map D.int := ers_fint
    simp only [s_erL, e1]
    rw [show D.lst (((outs e ns).map (gt e)).map D.int) = dI ((outs e ns).map (gt e)) from rfl, s_ints', s_sum]
    exact q
theorem ix0 {xs : List Int} {x : Int} {ys : List Int} {AQ : TQ} (h : xs = x :: ys) : fIx (dI xs) (.int 0) AQ = AQ (.fz (.int x)) := by
  subst h
  exact s_ixL0
theorem pure_guard_of : ∀ ds AQ AX, r_guard_of ds AQ AX → a_guard_of (aEnds AQ AX) (ent 3 ds) := by
  intro ds AQ AX h
  obtain ⟨_, _, rfl, r, l, e, ns, rfl, rfl, g, q1, q2, q3⟩ := fs2_el h
  show a_guard_of (aEnds AQ AX) [some (.fz (mD r l e)), some (.fz (dI ns)), none]
  simp only [a_guard_of, s_seq]
  simp
  refine in3 ⟨rfl, rfl, r, l, e, rfl, fun c => ?_, fun c => q1 c⟩
  refine in2 ⟨ns, stand e, rfl, rfl, fun hb => ?_, fun k hk => q2 c k hk⟩
  refine in2 ⟨r, l, e, ns, rfl, rfl, g.b8, ?_⟩
  have q := q3 c hb
  unfold guard at q
  cases ho : outs e ns with
  | nil =>
    rw [ho] at q
    have hs := pos_stand (fun x hx => (g.ba x hx).1) (by rw [← g.eq]; exact c)
    obtain ⟨y, ys, hy⟩ := List.exists_cons_of_ne_nil hs
    rw [hy] at q
    simp only [s_if, s_next]
    simp
    rw [ix0 hy]
    exact q
  | cons x xs =>
    rw [ho] at q
    have pos : (0 : Int) < (xs.length : Int) + 1 := by omega
    simp [pos, ix0 rfl]
    exact q
end K78

set_option Elab.async false
set_option linter.all false
set_option maxRecDepth 100000
set_option maxHeartbeats 4000000
namespace K78
open PySem PySem.Spec PyProof.Rows L2 AL
theorem badFrom_cons {al : List Int} {p : Option Int} {m : Int} {ms : List Int} {k : Nat} : badFrom al p (m :: ms) k = if (!al.contains m || late m p) = true then some k else badFrom al (some m) ms (k + 1) := rfl
theorem badFrom_none {al : List Int} : ∀ {ms : List Int} {p : Option Int} {k : Nat}, badFrom al p ms k = none → (∀ m ∈ ms, m ∈ al) ∧ ms.Pairwise (· < ·) ∧ ∀ q, p = some q → ∀ m ∈ ms, q < m
  | [], p, k, _ => ⟨fun _ h => (nomatch h), List.Pairwise.nil, fun _ _ _ h => (nomatch h)⟩
  | m :: ms, p, k, h => by
    rw [badFrom_cons] at h
    by_cases c : (!al.contains m || late m p) = true
    · rw [if_pos c] at h
      cases h
    · rw [if_neg c] at h
      obtain ⟨h1, h2, h3⟩ := badFrom_none h
      have c1 : al.contains m = true := by
        cases z : al.contains m with
        | true => rfl
        | false => exact absurd (by rw [z]; rfl) c
      have hm : m ∈ al := by simpa using c1
      have hp : ∀ q, p = some q → q < m := fun q e => by
        subst e
        by_cases z : m ≤ q
        · exact absurd (by simp [late, z]) c
        · omega
      refine ⟨fun x hx => ?_, List.pairwise_cons.mpr ⟨fun x hx => h3 m rfl x hx, h2⟩, fun q e x hx => ?_⟩
      · rcases List.mem_cons.mp hx with rfl | hx
        · exact hm
        · exact h1 x hx
      · rcases List.mem_cons.mp hx with rfl | hx
        · exact hp q e
        · have := hp q e
          have := h3 m rfl x hx
          omega
theorem badFrom_of {al : List Int} : ∀ {ms : List Int} {p : Option Int} {k : Nat}, (∀ m ∈ ms, m ∈ al) → ms.Pairwise (· < ·) → (∀ q, p = some q → ∀ m ∈ ms, q < m) → badFrom al p ms k = none
  | [], p, k, _, _, _ => rfl
  | m :: ms, p, k, h1, h2, h3 => by
    obtain ⟨h4, h5⟩ := List.pairwise_cons.mp h2
    have hm : al.contains m = true := by simpa using h1 m (List.mem_cons_self ..)
    have c : (!al.contains m || late m p) = false := by
      rw [hm]
      cases p with
      | none => rfl
      | some q =>
        have := h3 q rfl m (List.mem_cons_self ..)
        simp [late]
        omega
    rw [badFrom_cons, c, if_neg (by simp)]
    exact badFrom_of (fun x hx => h1 x (List.mem_cons_of_mem _ hx)) h5 fun q e x hx => by cases e; exact h4 x hx
theorem mem_iota {n : Nat} {x : Int} : x ∈ iota n ↔ 0 ≤ x ∧ x < n := by
  unfold iota
  simp only [List.mem_map, List.mem_range]
  exact ⟨fun ⟨i, h, e⟩ => by omega, fun h => ⟨x.toNat, by omega, by omega⟩⟩
theorem cuts_pos : ∀ {ws : List Pc} {l l' : List Int}, cuts l ws = some l' → ∀ p ∈ ws, 0 ≤ p.1 ∧ 1 ≤ p.2
  | [], _, _, _ => fun _ h => nomatch h
  | w :: ws, l, l', h => by
    unfold cuts at h
    cases h1 : cutL l w with
    | none => rw [h1] at h; cases h
    | some l1 =>
      rw [h1] at h
      intro p hp
      rcases List.mem_cons.mp hp with rfl | hp
      · obtain ⟨c, _⟩ := cutL_some h1
        exact ⟨c.1, c.2.2.1⟩
      · exact cuts_pos h p hp
theorem pure_can_force : ∀ ds AQ AX, r_can_force ds AQ AX → a_can_force (aEnds AQ AX) (ent 4 ds) := by
  intro ds AQ AX h
  obtain ⟨_, _, _, _, rfl, r, l, e, ws, l', band, ns, rfl, rfl, rfl, rfl, g, hs, hz, hc, hl', hb, hn, q⟩ := fs4_el h
  show a_can_force (aEnds AQ AX) [some (.fz (mD r l e)), some (.fz (dP ws)), some (.fz (dI band)), some (.fz (dI ns))]
  simp only [a_can_force, s_seq]
  simp
  refine in3 ⟨rfl, rfl, r, l, e, rfl, fun _ => ?_, fun c => absurd c hs⟩
  refine in2 ⟨r, l, e, ws, l', rfl, rfl, hc, hl', ?_⟩
  refine in2 ⟨r, l, e, band, rfl, rfl, by have := g.ll; have := g.r8; omega, hb, ?_⟩
  refine in2 ⟨ns, stand e, rfl, rfl, fun _ => ?_, fun k hk => by rw [hn] at hk; cases hk⟩
  obtain ⟨b1, b2, _⟩ := badFrom_none hb
  refine in2 ⟨ws, band, rfl, rfl, hz, cuts_pos hc, fun x hx => (mem_iota.mp (b1 x hx)).1, b2, ?_⟩
  refine in2 ⟨r, l, e, ns, rfl, rfl, g.b8, ?_⟩
  simpa using q
/-! ### draws -/
theorem pure__law_mix : ∀ ds AQ AX, r__law_mix ds AQ AX → a__law_mix (aEnds AQ AX) (ent 3 ds) := by
  intro ds AQ AX h
  obtain ⟨_, _, rfl, x, y, rfl, rfl, q⟩ := fs2_el h
  show a__law_mix (aEnds AQ AX) [some (.fz (.int x)), some (.fz (.int y)), none]
  have m : ∀ {a b : Int}, (-(2 ^ 64) < b ∧ b < 2 ^ 64) → CMul a b := fun h => .inr h
  have m' : ∀ {a b : Int}, (-(2 ^ 64) < a ∧ a < 2 ^ 64) → CMul a b := fun h => .inl h
  have md : ∀ {a b : Int}, 0 < b → b < 2 ^ 63 → (-(2 ^ 64) < a % b ∧ a % b < 2 ^ 64) := fun {a b} h0 h1 => by
    have h2 := Int.emod_nonneg a (show b ≠ 0 by omega)
    have h3 := Int.emod_lt_of_pos a h0
    omega
  simp only [a__law_mix, s_seq]
  simp
  refine ⟨m ⟨by decide, by decide⟩, m ⟨by decide, by decide⟩, m (md (by decide) (by decide)), m ⟨by decide, by decide⟩, m ⟨by decide, by decide⟩, m ⟨by decide, by decide⟩, m (md (by decide) (by decide)), m ⟨by decide, by decide⟩, ?_⟩
  exact q _ (Int.emod_nonneg _ (by decide))
theorem pure__law_store : ∀ ds AQ AX, r__law_store ds AQ AX → a__law_store (aEnds AQ AX) (ent 3 ds) := by
  intro ds AQ AX h
  obtain ⟨_, rfl, ns, rfl, hz, q⟩ := fs1_el h
  show a__law_store (aEnds AQ AX) [some (.fz (.scr none ns)), none, none]
  simp only [a__law_store, s_seq]
  simp
  refine in2 ⟨_, _, rfl, rfl, fun s0 _ => ?_⟩
  simp [s_for]
  refine for_map (f := D.int) (fun i ρ => ∃ s o, ρ = [some (.fz (.scr none ns)), some (.fz (.int s)), o]) ⟨_, _, rfl⟩ ?_ ?_
  · rintro ρ ⟨s, o, rfl⟩
    simp
    have := q s
    rw [List.map_map] at this
    exact this
  · rintro rest i x ρ hi ⟨s, o, rfl⟩ k
    refine ⟨[(2, .int x)], rfl, ?_⟩
    simp only [s_seq]
    simp
    exact in2 ⟨s, x, rfl, rfl, fun t _ => k _ ⟨t, _, rfl⟩⟩
end K78

set_option Elab.async false
set_option linter.all false
set_option maxRecDepth 100000
set_option maxHeartbeats 4000000
namespace K78
open PySem PySem.Spec PyProof.Rows L2 AL
section
variable {A : AEnds} {ρ : AS} {i : Nat} {r ri : RE}
theorem do_setIxG {ts : List T} {d : D} {k : Int} {j : Nat} (hρ : ρ[i]? = some (some (.lst ts))) (hd : d.scal = true) (hj : ixN ts.length k = some j) (hr : ∀ TQ' : TQ, TQ' (.fz d) → r (envB ρ) TQ' (fun x => A.ex x ρ)) (hk : ∀ TQ' : TQ, TQ' (.fz (.int k)) → ri (envB ρ) TQ' (fun x => A.ex x ρ))
    (q : A.nx (ρ.set i (some (.lst (ts.set j (.fz d)))))) : aSetIx i r ri A ρ := by
  rw [s_setIx]
  refine hr _ ⟨hd, ?_⟩
  rw [hρ]
  dsimp only
  refine hk _ ?_
  dsimp only [s_er]
  rw [hj]
  exact q
end
section
variable {AQ : TQ} {a b c d e : D} {k : Option Addr} {ns : List Int}
theorem sx0 : fIx (.lst [a, b, c, d, e]) (.int 0) AQ = AQ (.fz a) := s_ix rfl
theorem sx1 : fIx (.lst [a, b, c, d, e]) (.int 1) AQ = AQ (.fz b) := s_ix rfl
theorem sx2 : fIx (.lst [a, b, c, d, e]) (.int 2) AQ = AQ (.fz c) := s_ix rfl
theorem sx3 : fIx (.lst [a, b, c, d, e]) (.int 3) AQ = AQ (.fz d) := s_ix rfl
theorem sx4 : fIx (.lst [a, b, c, d, e]) (.int 4) AQ = AQ (.fz e) := s_ix rfl
theorem scr_ix {i : Int} (h0 : 0 ≤ i) (h1 : i < ns.length) : ∃ x, fIx (.scr k ns) (.int i) AQ = AQ (.fz (.int x)) := by
  have hk : i.toNat < ns.length := by omega
  refine ⟨ns[i.toNat], ?_⟩
  unfold fIx atI
  dsimp only
  rw [ixN_of h0 h1]
  simp only [Option.bind_some, List.getElem?_eq_getElem hk]
end
theorem pure__law_take : ∀ ts ds AQ, rTakeIO ts ds AQ → ts.length = 1 → a__law_take (ioEnds 1 false AQ) (entIO 4 ts ds) := by
  intro ts ds AQ h _
  obtain ⟨b, ns, i, big, cnt, seed, m, rfl, rfl, hz, hi0, hi1, hb, hm, q⟩ := h
  show a__law_take (ioEnds 1 false AQ) [some (stoT b ns i big cnt seed), some (.fz (.int m)), none, none]
  have fin : ∀ (i' big' cnt' r : Int) (o p : Option T), 0 ≤ i' → i' ≤ ns.length → 0 ≤ big' → (1 < m → 0 ≤ r ∧ r < m) → (m ≤ 1 → r = 0) → ∃ ts' : List T, ts'.length = 1 ∧ ([some (stoT b ns i' big' cnt' seed), some (.fz (.int m)), o, p] : AS).take 1 = ts'.map some ∧ AQ ts' (.int r) :=
    fun i' big' cnt' r o p h1 h2 h3 h4 h5 => ⟨[stoT b ns i' big' cnt' seed], rfl, rfl, q i' big' cnt' r h1 h2 h3 h4 h5⟩
  simp only [a__law_take, s_seq]
  simp
  by_cases c1 : m ≤ 1
  · simp [c1]
    exact ⟨[_], rfl, rfl, q i big cnt 0 hi0 hi1 hb (fun h => by omega) fun _ => rfl⟩
  have m1 : 1 < m := by omega
  have md : ∀ x : Int, 0 ≤ x % m ∧ x % m < m := fun x => ⟨Int.emod_nonneg _ (by omega), Int.emod_lt_of_pos _ (by omega)⟩
  simp [c1]
  refine do_setIxG (ts := [.fz (.scr b ns), .fz (.int i), .fz (.int big), .fz (.int cnt), .fz (.int seed)]) (d := .int (cnt + 1)) (k := 3) (j := 3) rfl rfl rfl (fun TQ' h => ?_) (fun TQ' h => by simpa using h) ?_
  · simp [stoT, sx3]
    exact h
  -- behind the inner part: what is left of the body at any store
  have tail : ∀ (i' big' : Int) (o : Option T), 0 ≤ i' → i' ≤ ns.length → 0 ≤ big' →
      (aSeq (aIf (rTB (r2 fGt (r2 fIx (rV 0) (rD (.int 2))) (rD (.int 0))))
        (aSeq (aSetB 3 (r2 fMod (rN fInt (rCons (r2 fIx (rV 0) (rD (.int 2))) rNil)) (rV 1)))
        (aFrz 3 (aSeq (aSetIx 0 (r2 fDiv (rN fInt (rCons (r2 fIx (rV 0) (rD (.int 2))) rNil)) (rV 1)) (rD (.int 2)))
        (aSeq (aRet (rV 3)) aNext)))) aNext)
        (aSeq (aRetB (r2 fMod (rN fInt (rCons (rCall r__law_mix [] (rCons (r2 fIx (rV 0) (rD (.int 4))) (rCons (r2 fIx (rV 0) (rD (.int 3))) rNil))) rNil)) (rV 1))) aNext))
        (ioEnds 1 false AQ) [some (stoT b ns i' big' (cnt + 1) seed), some (.fz (.int m)), o, none] := by
    intro i' big' o h1 h2 h3
    have hm0 : 0 < m := by omega
    by_cases c : 0 < big'
    · simp [stoT, sx2, c, hm0]
      refine do_setIxG (ts := [.fz (.scr b ns), .fz (.int i'), .fz (.int big'), .fz (.int (cnt + 1)), .fz (.int seed)]) (d := .int (big' / m)) (k := 2) (j := 2) rfl rfl rfl (fun TQ' h => ?_) (fun TQ' h => by simpa using h) ?_
      · simp [sx2]
        exact ⟨⟨hm0, hm⟩, h⟩
      simp
      exact ⟨[stoT b ns i' (big' / m) (cnt + 1) seed], rfl, rfl, q i' (big' / m) (cnt + 1) (big' % m) h1 h2 (Int.ediv_nonneg h3 (by omega)) (fun _ => md big') fun h => by omega⟩
    · simp [stoT, sx2, c]
      simp [sx4, sx3]
      refine in2 ⟨_, _, rfl, rfl, fun r0 hr0 => ?_⟩
      simp [hm0]
      exact ⟨[stoT b ns i' big' (cnt + 1) seed], rfl, rfl, q i' big' (cnt + 1) (r0 % m) h1 h2 h3 (fun _ => md r0) fun h => by omega⟩
  have hm0 : 0 < m := by omega
  by_cases c2 : big = 0
  · by_cases c3 : i < ns.length
    · have hk : i.toNat < ns.length := by omega
      have sx : ∀ {Q : TQ}, fIx (.scr b ns) (.int i) Q = Q (.fz (.int ns[i.toNat])) := fun {Q} => by
        unfold fIx atI
        dsimp only
        rw [ixN_of hi0 c3]
        simp only [Option.bind_some, List.getElem?_eq_getElem hk]
      generalize ns[i.toNat] = cell at sx
      simp [sx2, sx1, sx0, c2, c3, sx]
      refine do_setIxG (ts := [.fz (.scr b ns), .fz (.int i), .fz (.int 0), .fz (.int (cnt + 1)), .fz (.int seed)]) (d := .int (i + 1)) (k := 1) (j := 1) rfl rfl rfl (fun TQ' h => ?_) (fun TQ' h => by simpa using h) ?_
      · simp [sx1]
        exact h
      simp
      refine ⟨⟨by decide, by decide⟩, ?_⟩
      by_cases c4 : (if cell < 0 then -cell else cell) < 1000000000000000000
      · simp [c4, sx3]
        refine in2 ⟨_, _, rfl, rfl, fun r0 hr0 => ?_⟩
        simp [hm0]
        exact ⟨[stoT b ns (i + 1) 0 (cnt + 1) seed], rfl, rfl, q (i + 1) 0 (cnt + 1) (r0 % m) (by omega) (by omega) (by omega) (fun _ => md r0) fun h => by omega⟩
      · simp [c4]
        refine do_setIxG (ts := [.fz (.scr b ns), .fz (.int (i + 1)), .fz (.int 0), .fz (.int (cnt + 1)), .fz (.int seed)]) (d := .int (if cell < 0 then -cell else cell)) (k := 2) (j := 2) rfl rfl rfl (fun TQ' h => ?_) (fun TQ' h => by simpa using h) ?_
        · simp
          exact h
        exact tail (i + 1) (if cell < 0 then -cell else cell) _ (by omega) (by omega) (by split <;> omega)
    · have t := tail i 0 none hi0 hi1 (by omega)
      simp [stoT, sx2] at t
      simp [sx2, sx1, sx0, c2, c3]
      exact t
  · have t := tail i big none hi0 hi1 hb
    simp [stoT, sx2] at t
    simp [sx2, c2]
    exact t
end K78

set_option Elab.async false
set_option linter.all false
set_option maxRecDepth 100000
set_option maxHeartbeats 4000000
namespace K78
open PySem PySem.Spec PyProof.Rows L2 AL
theorem p6 : CPowW 10 6 := ⟨by decide, by decide +kernel⟩
theorem pure__law_between : ∀ ds AQ AX, r__law_between ds AQ AX → a__law_between (aEnds AQ AX) (ent 3 ds) := by
  intro ds AQ AX h
  obtain ⟨_, _, _, rfl, rfl, lo, hi, rfl, rfl, hl, q⟩ := fs3_el h
  show a__law_between (aEnds AQ AX) [some (.fz .sto), some (.fz (.int lo)), some (.fz (.int hi))]
  simp [a__law_between]
  refine in2 ⟨rfl, _, rfl, by omega, fun r h1 h2 => ?_⟩
  simp
  exact q _ (by omega) (by omega)
theorem pure__law_near_ends : ∀ ds AQ AX, r__law_near_ends ds AQ AX → a__law_near_ends (aEnds AQ AX) (ent 4 ds) := by
  intro ds AQ AX h
  obtain ⟨_, _, _, rfl, rfl, lo, hi, rfl, rfl, hl, q⟩ := fs3_el h
  show a__law_near_ends (aEnds AQ AX) [some (.fz .sto), some (.fz (.int lo)), some (.fz (.int hi)), none]
  simp only [a__law_near_ends, s_seq]
  simp
  refine in2 ⟨rfl, 6, rfl, by decide, fun r _ _ => ?_⟩
  simp
  by_cases c1 : r = 0
  · simp [c1]
    exact q lo (by omega) (by omega)
  by_cases c2 : r = 1
  · simp [c2]
    exact q _ (by omega) (by omega)
  · simp [c1, c2]
    exact in3 ⟨rfl, lo, hi, rfl, rfl, hl, q⟩
theorem pure__law_pick : ∀ ds AQ AX, r__law_pick ds AQ AX → a__law_pick (aEnds AQ AX) (ent 2 ds) := by
  intro ds AQ AX h
  obtain ⟨_, _, rfl, rfl, xs, rfl, hne, hz, q⟩ := fs2_el h
  show a__law_pick (aEnds AQ AX) [some (.fz .sto), some (.fz (.lst xs))]
  simp [a__law_pick]
  have hl : 0 < xs.length := List.length_pos_iff.mpr hne
  refine in2 ⟨rfl, _, rfl, by omega, fun r h1 h2 => ?_⟩
  have hr : 0 ≤ r ∧ r < xs.length := by
    by_cases c : 1 < (xs.length : Int)
    · exact h1 c
    · have := h2 (by omega)
      omega
  have hk : r.toNat < xs.length := by omega
  simp
  rw [s_ix (d := xs[r.toNat]) (by unfold atI; rw [ixN_of hr.1 hr.2]; simp [List.getElem?_eq_getElem hk])]
  exact q _ (List.getElem_mem hk)
end K78

set_option Elab.async false
set_option linter.all false
set_option maxRecDepth 100000
set_option maxHeartbeats 4000000
namespace K78
open PySem PySem.Spec PyProof.Rows L2 AL
theorem f6 {AQ : TQ} : fPow (.int 10) (.int 6) AQ = AQ (.fz (.int 1000000)) := by
  rw [s_pow]
  exact propext ⟨fun h => h.2, fun h => ⟨p6, h⟩⟩
theorem pure__law_number : ∀ ds AQ AX, r__law_number ds AQ AX → a__law_number (aEnds AQ AX) (ent 5 ds) := by
  intro ds AQ AX h
  obtain ⟨_, _, rfl, rfl, m, rfl, hm, q⟩ := fs2_el h
  show a__law_number (aEnds AQ AX) [some (.fz .sto), some (.fz (.int m)), none, none, none]
  have hm0 : 0 < m := by omega
  have fin : ∀ w : Int, AQ (.fz (.int (w % m))) := fun w => q _ (Int.emod_nonneg _ (by omega)) (Int.emod_lt_of_pos _ (by omega))
  simp only [a__law_number, s_seq, s_if, s_rTB, s_r2, s_rV, s_rD, s_envB, oB_s, oB_n, s_envB0, s_er, List.getElem?_cons_succ, List.getElem?_cons_zero, f6, s_le, kB_fz]
  by_cases c : m ≤ 1000000
  · rw [kI_yes c]
    show r__law_take [D.sto, D.int m] (fun t => AQ t) (fun x => AX x)
    refine in2 ⟨rfl, m, rfl, by omega, fun r h1 h2 => ?_⟩
    by_cases c1 : 1 < m
    · exact q r (h1 c1).1 (h1 c1).2
    · have := h2 (by omega)
      exact q r (by omega) (by omega)
  · rw [kI_no c]
    simp only [s_next, s_seq, s_setZ, s_rD, s_er, s_for, List.set_cons_succ, List.set_cons_zero]
    show ((-(2 ^ 62) ≤ (70 : Int) ∧ (70 : Int) < 2 ^ 62) ∧ forGo _ _ _ (rngD 0 (70 : Int).toNat) _)
    refine ⟨⟨by decide, by decide⟩, ?_⟩
    refine for_rng (fun i ρ => ∃ w r o, ρ = [some (.fz .sto), some (.fz (.int m)), some (.fz (.int w)), some (.fz (.int r)), o]) ⟨_, _, _, rfl⟩ ?_ ?_
    · rintro ρ ⟨w, r, o, rfl⟩
      exact ⟨hm0, fin w⟩
    · rintro rest i ρ hi ⟨w, r, o, rfl⟩ k
      refine ⟨[(4, .int (0 + (i : Nat)))], rfl, ?_⟩
      simp only [s_seq, s_if, s_rTB, s_r2, s_rV, s_envB, oB_s, oB_n, s_envB0, s_er, List.getElem?_cons_succ, List.getElem?_cons_zero, s_ge, kB_fz, List.map_cons, List.map_nil, s_setAll, s_setAll0, List.set_cons_succ, List.set_cons_zero]
      by_cases c2 : m ≤ r
      · rw [kI_yes c2]
        exact ⟨hm0, fin w⟩
      · rw [kI_no c2]
        simp only [s_next, s_seq, s_setZ, s_r2, s_rV, s_rD, s_envF, oF_fz, s_envF0, s_er, List.getElem?_cons_succ, List.getElem?_cons_zero, f6, s_mul, s_rCall, s_rCons, s_rNil, s_ers, s_ers0, List.append_nil, List.set_cons_succ, List.set_cons_zero]
        refine ⟨.inr ⟨by decide, by decide⟩, in2 ⟨rfl, 1000000, rfl, by decide, fun t h1 h2 => ?_⟩⟩
        exact ⟨.inr ⟨by decide, by decide⟩, k _ ⟨_, _, _, rfl⟩⟩
end K78

set_option Elab.async false
set_option linter.all false
set_option maxRecDepth 100000
set_option maxHeartbeats 4000000
namespace K78
open PySem PySem.Spec PyProof.Rows L2 AL
theorem do_take {m : Int} {AQ : TQ} {AX : XQ} (h1 : 1 ≤ m) (h2 : m < 1073741824) (q : ∀ r, 0 ≤ r → r < m → AQ (.fz (.int r))) : r__law_take [.sto, .int m] AQ AX := in2 ⟨rfl, m, rfl, h2, fun r a b => by
  by_cases c : 1 < m
  · exact q r (a c).1 (a c).2
  · have := b (by omega)
    exact q r (by omega) (by omega)⟩
theorem gt_get {xs : List Int} {k : Int} (h : k.toNat < xs.length) : gt xs k = xs[k.toNat] := by
  unfold gt
  simp [List.getD_eq_getElem?_getD, List.getElem?_eq_getElem h]
theorem pure__law_shuffled : ∀ ds AQ AX, r__law_shuffled ds AQ AX → a__law_shuffled (aEnds AQ AX) (ent 6 ds) := by
  intro ds AQ AX h
  obtain ⟨_, _, rfl, rfl, xs, rfl, hz, q⟩ := fs2_el h
  show a__law_shuffled (aEnds AQ AX) [some (.fz .sto), some (.fz (dI xs)), none, none, none, none]
  simp only [a__law_shuffled, s_seq]
  simp [s_forB]
  refine ⟨((xs.length : Int) - 1 - 0).toNat, RgC.neg (by omega) (by omega) (by omega) (by omega), ?_⟩
  refine for_rngC (fun i ρ => ∃ ys o p u, ys.Perm xs ∧ ρ = [some (.fz .sto), some (.fz (dI xs)), some (tI ys), o, p, u]) ⟨xs, _, _, _, List.Perm.refl _, rfl⟩ ?_ ?_
  · rintro ρ ⟨ys, o, p, u, hp, rfl⟩
    simpa using q ys hp
  · rintro rest i ρ hi ⟨ys, o, p, u, hp, rfl⟩ k
    have hl := hp.length_eq
    refine ⟨[(3, .int ((xs.length : Int) - 1 + i * (-1)))], rfl, ?_⟩
    have hk : ((xs.length : Int) - 1 + i * (-1)) = ((xs.length - 1 - i : Nat) : Int) := by omega
    rw [hk]
    have hk2 : xs.length - 1 - i < ys.length := by omega
    generalize xs.length - 1 - i = j at hk2
    simp only [s_seq]
    simp
    refine do_take (by omega) (by omega) fun r h1 h2 => ?_
    have hr : r.toNat < ys.length := by omega
    simp [ix_gt (xs := ys) (k := j) (by omega) (by omega)]
    refine do_setIx (xs := ys) (k := j) (v := gt ys r) rfl (fun TQ' h => ?_) (fun TQ' h => by simpa using h) (by omega) (by omega) ?_
    · simpa [ix_gt (xs := ys) (k := r) (by omega) (by omega)] using h
    simp only [s_seq]
    refine do_setIx (xs := ys.set j (gt ys r)) (k := r) (v := gt ys j) rfl (fun TQ' h => by simpa using h) (fun TQ' h => by simpa using h) (by omega) (by simp; omega) ?_
    refine k _ ⟨(ys.set j (gt ys r)).set r.toNat (gt ys j), _, _, _, ?_, rfl⟩
    rw [gt_get hr, gt_get (k := j) (by simpa using hk2)]
    exact (List.set_set_perm hk2 hr).trans hp
end K78

set_option Elab.async false
set_option linter.all false
set_option maxRecDepth 100000
set_option maxHeartbeats 4000000
namespace K78
open PySem PySem.Spec PyProof.Rows L2 AL
theorem pure__law_some : ∀ ds AQ AX, r__law_some ds AQ AX → a__law_some (aEnds AQ AX) (ent 4 ds) := by
  intro ds AQ AX h
  obtain ⟨_, _, rfl, rfl, xs, rfl, hz, q⟩ := fs2_el h
  show a__law_some (aEnds AQ AX) [some (.fz .sto), some (.fz (dI xs)), none, none]
  simp only [a__law_some, s_seq]
  simp
  refine do_take (by omega) (by omega) fun r h1 h2 => ?_
  simp
  by_cases c1 : r = 0
  · simp [c1]
    exact q [] (List.nil_sublist _)
  by_cases c2 : r = 1
  · simp [c2]
    exact q xs (List.Sublist.refl _)
  have fin : lcGo (.nm 3) (rTB (r2 fEq (rCall r__law_take [] (rCons (rV 0) (rCons (rD (.int 2)) rNil))) (rD (.int 1)))) (rV 3) [some .sto, some (dI xs), some (.int r), none] (fun t => AQ t) (xs.map D.int) [] := by
    refine lc_each (fun i acc => ∃ ys : List Int, ys.Sublist (xs.take i) ∧ acc = (ys.map D.int).map T.fz) ⟨[], List.nil_sublist _, rfl⟩ ?_ ?_
    · rintro acc ⟨ys, hs, rfl⟩
      rw [List.take_length] at hs
      exact q ys hs
    · rintro rest i x acc hx ⟨ys, hs, rfl⟩ k
      refine ⟨[(3, .int x)], rfl, ?_⟩
      simp
      refine do_take (by omega) (by omega) fun r h1 h2 => ?_
      have hl := hs.length_le
      have hl2 := List.length_take_le i xs
      have hl3 : (xs.take i).length ≤ xs.length := by rw [List.length_take]; omega
      by_cases c : r = 1
      · simp [c]
        refine ⟨by omega, k _ ⟨ys ++ [x], ?_, by simp⟩⟩
        rw [take_succ' hx]
        exact hs.append (List.Sublist.refl _)
      · simp [c]
        refine k _ ⟨ys, ?_, by simp⟩
        rw [take_succ' hx]
        exact hs.trans (List.sublist_append_left _ _)
  by_cases c3 : r = 2
  · cases xs with
    | nil =>
      subst c3
      simp
      exact fin
    | cons x xs =>
      have pos : (0 : Int) < (xs.length : Int) + 1 := by omega
      simp [c3, pos]
      refine in2 ⟨rfl, _, rfl, by simp, by simpa using hz, fun d hd => ?_⟩
      obtain ⟨y, hy, rfl⟩ := List.mem_map.mp hd
      exact q [y] (List.singleton_sublist.mpr hy)
  · simp [c1, c2, c3]
    exact fin
end K78

set_option Elab.async false
set_option linter.all false
set_option maxRecDepth 100000
set_option maxHeartbeats 4000000
namespace K78
open PySem PySem.Spec PyProof.Rows L2 AL
theorem ity_1 : isTys "bool" ["bool"] = true := by decide +kernel
theorem ity_2 : isTys "int" ["bool"] = false := by decide +kernel
theorem ity_3 : isTys "int" ["int"] = true := by decide +kernel
theorem ity_4 : isTys "str" ["bool"] = false := by decide +kernel
theorem ity_5 : isTys "str" ["int"] = false := by decide +kernel
theorem ity_6 : isTys "str" ["str"] = true := by decide +kernel
theorem ity_7 : isTys "list" ["bool"] = false := by decide +kernel
theorem ity_8 : isTys "list" ["int"] = false := by decide +kernel
theorem ity_9 : isTys "list" ["str"] = false := by decide +kernel
theorem ity_10 : isTys "list" ["list"] = true := by decide +kernel
theorem ity_11 : isTys "list" ["tuple"] = false := by decide +kernel
theorem ity_12 : isTys "list" ["list", "tuple"] = true := by decide +kernel
theorem ity_13 : isTys "tuple" ["bool"] = false := by decide +kernel
theorem ity_14 : isTys "tuple" ["int"] = false := by decide +kernel
theorem ity_15 : isTys "tuple" ["str"] = false := by decide +kernel
theorem ity_16 : isTys "tuple" ["list"] = false := by decide +kernel
theorem ity_17 : isTys "tuple" ["tuple"] = true := by decide +kernel
theorem ity_18 : isTys "tuple" ["list", "tuple"] = true := by decide +kernel
@[simp] theorem nn1 {b : Bool} : (D.bl b).isNon = false := rfl
@[simp] theorem nn2 {b : Str} : (D.str b).isNon = false := rfl
@[simp] theorem nn3 {b : List D} : (D.lst b).isNon = false := rfl
@[simp] theorem nn4 {b : List D} : (D.tup b).isNon = false := rfl
@[simp] theorem tn0 : D.non.tyn = some "NoneType" := rfl
@[simp] theorem tn1 {b : Bool} : (D.bl b).tyn = some "bool" := rfl
@[simp] theorem tn2 {b : Int} : (D.int b).tyn = some "int" := rfl
@[simp] theorem tn3 {b : Str} : (D.str b).tyn = some "str" := rfl
@[simp] theorem tn4 {b : List D} : (D.lst b).tyn = some "list" := rfl
@[simp] theorem tn5 {b : List D} : (D.tup b).tyn = some "tuple" := rfl
theorem flatNs_mem {n : Nat} : ∀ {ds : List D}, D.flatNs ds n = true → ∀ d ∈ ds, D.flatN d n = true
  | [], _, _, h => by cases h
  | d :: ds, h, x, hx => by
    unfold D.flatNs at h
    rw [Bool.and_eq_true] at h
    rcases List.mem_cons.mp hx with rfl | hx
    · exact h.1
    · exact flatNs_mem h.2 x hx
theorem ix_at {ds : List D} {i : Nat} {AQ : TQ} (h : i < ds.length) : fIx (.lst ds) (.int (0 + (i : Nat))) AQ = AQ (.fz ds[i]) := s_ix (by
  unfold atI
  rw [ixN_of (by omega) (by omega)]
  simp [List.getElem?_eq_getElem h])
theorem ix_atT {ds : List D} {i : Nat} {AQ : TQ} (h : i < ds.length) : fIx (.tup ds) (.int (0 + (i : Nat))) AQ = AQ (.fz ds[i]) := s_ixT (by
  unfold atI
  rw [ixN_of (by omega) (by omega)]
  simp [List.getElem?_eq_getElem h])
theorem pure0__law_same : ∀ ds AQ AX, rn__law_same 0 ds AQ AX → a0__law_same (aEnds AQ AX) (ent 3 ds) := by
  intro ds AQ AX h
  obtain ⟨a, _, rfl, rfl, hf, q⟩ := fs2_el h
  show a0__law_same (aEnds AQ AX) [some (.fz a), some (.fz a), none]
  cases a with
  | non => simp [a0__law_same]; exact q
  | bl b => simp [a0__law_same, ity_1]; exact q
  | int i => simp [a0__law_same, ity_2, ity_3]; exact q
  | str s => simp [a0__law_same, ity_4, ity_5, ity_6]; exact q
  | lst ds => simp [D.flatN] at hf
  | tup ds => simp [D.flatN] at hf
  | ty _ => simp [D.flatN] at hf
  | sto => simp [D.flatN] at hf
  | scr _ _ => simp [D.flatN] at hf
  | obj _ _ _ => simp [D.flatN] at hf
  | exn _ _ _ => simp [D.flatN] at hf
theorem puren__law_same : ∀ n ds AQ AX, rn__law_same (n + 1) ds AQ AX → a__law_same (rn__law_same n) (aEnds AQ AX) (ent 3 ds) := by
  intro n ds AQ AX h
  obtain ⟨a, _, rfl, rfl, hf, q⟩ := fs2_el h
  show a__law_same (rn__law_same n) (aEnds AQ AX) [some (.fz a), some (.fz a), none]
  cases a with
  | non => simp [a__law_same]; exact q
  | bl b => simp [a__law_same, ity_1]; exact q
  | int i => simp [a__law_same, ity_2, ity_3]; exact q
  | str s => simp [a__law_same, ity_4, ity_5, ity_6]; exact q
  | lst ds =>
    simp only [D.flatN, Bool.and_eq_true, decide_eq_true_eq] at hf
    simp only [a__law_same, s_seq]
    simp [ity_7, ity_8, ity_9, ity_10, ity_11, ity_12, s_for]
    refine ⟨by omega, for_rng (fun i ρ => ∃ o, ρ = [some (.fz (.lst ds)), some (.fz (.lst ds)), o]) ⟨_, rfl⟩ ?_ ?_⟩
    · rintro ρ ⟨o, rfl⟩
      exact q
    · rintro rest i ρ hi ⟨o, rfl⟩ k
      refine ⟨[(2, .int (0 + (i : Nat)))], rfl, ?_⟩
      simp only [s_seq, s_if, List.map_cons, List.map_nil, s_setAll, s_setAll0, s_rNotT, s_rTB, s_rCall, s_rCons, s_rNil, s_r2, s_rV, s_envB, oB_s, s_envB0, s_er, s_ers, s_ers0, List.set_cons_succ, List.set_cons_zero, List.getElem?_cons_succ, List.getElem?_cons_zero, ix_at hi, List.append_nil]
      refine in2 ⟨rfl, flatNs_mem hf.1 _ (List.getElem_mem hi), ?_⟩
      simp
      exact k _ ⟨_, rfl⟩
  | tup ds =>
    simp only [D.flatN, Bool.and_eq_true, decide_eq_true_eq] at hf
    simp only [a__law_same, s_seq]
    simp [ity_13, ity_14, ity_15, ity_16, ity_17, ity_18, s_for]
    refine ⟨by omega, for_rng (fun i ρ => ∃ o, ρ = [some (.fz (.tup ds)), some (.fz (.tup ds)), o]) ⟨_, rfl⟩ ?_ ?_⟩
    · rintro ρ ⟨o, rfl⟩
      exact q
    · rintro rest i ρ hi ⟨o, rfl⟩ k
      refine ⟨[(2, .int (0 + (i : Nat)))], rfl, ?_⟩
      simp only [s_seq, s_if, List.map_cons, List.map_nil, s_setAll, s_setAll0, s_rNotT, s_rTB, s_rCall, s_rCons, s_rNil, s_r2, s_rV, s_envB, oB_s, s_envB0, s_er, s_ers, s_ers0, List.set_cons_succ, List.set_cons_zero, List.getElem?_cons_succ, List.getElem?_cons_zero, ix_atT hi, List.append_nil]
      refine in2 ⟨rfl, flatNs_mem hf.1 _ (List.getElem_mem hi), ?_⟩
      simp
      exact k _ ⟨_, rfl⟩
  | ty _ => simp [D.flatN] at hf
  | sto => simp [D.flatN] at hf
  | scr _ _ => simp [D.flatN] at hf
  | obj _ _ _ => simp [D.flatN] at hf
  | exn _ _ _ => simp [D.flatN] at hf
end K78

set_option Elab.async false
set_option linter.all false
set_option maxRecDepth 100000
set_option maxHeartbeats 4000000
namespace K78
open PySem PySem.Spec PyProof.Rows L2 AL
theorem stand_take {e : List Int} : ∀ n : Nat, n ≤ e.length → ((e.take n).zipIdx.filter fun p => decide (0 < p.1)).map (fun p => (p.2 : Int)) = ((List.range n).filter fun i : Nat => decide (0 < gt e i)).map fun i : Nat => (i : Int)
  | 0, _ => rfl
  | n + 1, h => by
    have hn : n < e.length := by omega
    have hx : e[n]? = some e[n] := List.getElem?_eq_getElem hn
    have hl : (e.take n).length = n := by rw [List.length_take]; omega
    rw [take_succ' hx, List.zipIdx_append, List.filter_append, List.map_append, stand_take n (by omega), List.range_succ, List.filter_append, List.map_append, hl]
    congr 1
    have hg : gt e n = e[n] := gt_nat hx
    by_cases c : 0 < e[n]
    · simp [hg, c]
    · simp [hg, c]
theorem stand_eq {e : List Int} : stand e = ((List.range e.length).filter fun i : Nat => decide (0 < gt e i)).map fun i : Nat => (i : Int) := by
  have h := stand_take (e := e) e.length (Nat.le_refl _)
  rw [List.take_length] at h
  exact h
theorem tI_map' {α : Type} {xs : List α} {g : α → Int} : T.lst (xs.map fun x => T.fz (.int (g x))) = tI (xs.map g) := by
  unfold tI
  rw [List.map_map, List.map_map]
  rfl
theorem pure__law_standing : ∀ ds AQ AX, r__law_standing ds AQ AX → a__law_standing (aEnds AQ AX) (ent 2 ds) := by
  intro ds AQ AX h
  obtain ⟨_, rfl, e, rfl, h8, q⟩ := fs1_el h
  show a__law_standing (aEnds AQ AX) [some (.fz (dI e)), none]
  simp [a__law_standing]
  refine ⟨by omega, ?_⟩
  rw [rngD_map]
  refine lc_det (f := fun i : Nat => D.int (0 + (i : Nat))) (fun i : Nat => decide (0 < gt e i)) (fun i : Nat => .fz (.int i)) (by rw [List.length_range]; omega) (fun i hi => ⟨[(1, .int (0 + (i : Nat)))], rfl, fun BQ h => ?_, fun _ TQ' h => ?_⟩) ?_
  · have hi' : i < e.length := by simpa using hi
    have x1 : ∀ {Q : TQ}, fIx (dI e) (.int (i : Nat)) Q = Q (.fz (.int (gt e i))) := fun {Q} => ix_gt (by omega) (by omega)
    simpa [x1] using h
  · simpa using h
  · rw [tI_map', ← stand_eq]
    exact q
theorem perm_sum {xs ys : List Int} (h : xs.Perm ys) : xs.sum = ys.sum := by
  induction h with
  | nil => rfl
  | cons x _ ih => rw [List.sum_cons, List.sum_cons, ih]
  | swap x y l => simp only [List.sum_cons]; omega
  | trans _ _ i j => rw [i, j]
theorem pure__law_parts : ∀ ds AQ AX, r__law_parts ds AQ AX → a__law_parts (aEnds AQ AX) (ent 11 ds) := by
  intro ds AQ AX h
  obtain ⟨_, _, _, _, rfl, rfl, total, many, most, rfl, rfl, rfl, m0, m8, p0, t0, tm, q⟩ := fs4_el h
  show a__law_parts (aEnds AQ AX) [some (.fz .sto), some (.fz (.int total)), some (.fz (.int many)), some (.fz (.int most)), none, none, none, none, none, none, none]
  simp only [a__law_parts, s_seq]
  simp
  refine do_take (by omega) (by omega) fun kd _ _ => ?_
  simp [s_for]
  refine ⟨by omega, for_rng (fun i ρ => ∃ (re : Int) (row : List Int) (o1 o2 o3 o4 : Option T), ρ = [some (.fz .sto), some (.fz (.int total)), some (.fz (.int many)), some (.fz (.int most)), some (.fz (.int kd)), some (.fz (.int re)), some (tI row), o1, o2, o3, o4] ∧ row.length = i ∧ (∀ z ∈ row, 0 ≤ z ∧ z ≤ most) ∧ row.sum = total - re ∧ 0 ≤ re ∧ re ≤ most * (many - i))
    ⟨total, [], none, none, none, none, rfl, rfl, (fun _ h => nomatch h), by simp, t0, by simpa using tm⟩ ?_ ?_⟩
  · rintro ρ ⟨re, row, o1, o2, o3, o4, rfl, hl, hz, hs, h0, h1⟩
    have e1 : many - (many.toNat : Int) = 0 := by omega
    rw [e1, Int.mul_zero] at h1
    simp
    refine in2 ⟨rfl, row, rfl, by omega, fun ys hp => ?_⟩
    refine q ys (by rw [hp.length_eq]; omega) (fun z hz' => hz z (hp.mem_iff.mp hz')) ?_
    rw [perm_sum hp]
    omega
  · rintro rest i ρ hi ⟨re, row, o1, o2, o3, o4, rfl, hl, hz, hs, h0, h1⟩ k
    refine ⟨[(7, .int (0 + (i : Nat)))], rfl, ?_⟩
    have e1 : most * (many - (i : Int)) = most * (many - 1 - i) + most := by
      rw [show many - (i : Int) = (many - 1 - i) + 1 by omega, Int.mul_add, Int.mul_one]
    have e2 : many - ((i + 1 : Nat) : Int) = many - 1 - i := by omega
    have hP : 0 ≤ most * (many - 1 - (i : Int)) := Int.mul_nonneg p0 (by omega)
    rw [e1] at h1
    have fin : ∀ (p : Int) (o2 o3 : Option T), max 0 (re - most * (many - 1 - (i : Int))) ≤ p → p ≤ min most re → rest [some (.fz .sto), some (.fz (.int total)), some (.fz (.int many)), some (.fz (.int most)), some (.fz (.int kd)), some (.fz (.int (re - p))), some (tI (row ++ [p])), some (.fz (.int i)), o2, o3, some (.fz (.int p))] := by
      intro p o2 o3 hp1 hp2
      refine k _ ⟨re - p, row ++ [p], _, _, _, _, rfl, by simp [hl], fun z hz' => ?_, ?_, by omega, ?_⟩
      · rcases List.mem_append.mp hz' with h | h
        · exact hz z h
        · have : z = p := by simpa using h
          omega
      · rw [List.sum_append, hs]
        simp
        omega
      · rw [e2]
        omega
    have cm : CMul most (many - 1 - (i : Int)) := .inr ⟨by omega, by omega⟩
    have lh : max 0 (re - most * (many - 1 - (i : Int))) ≤ min most re := by omega
    simp only [s_seq]
    simp
    refine ⟨cm, ?_⟩
    have done : ∀ (p : Int), max 0 (re - most * (many - 1 - (i : Int))) ≤ p → p ≤ min most re → (aSeq (aApp 6 (rV 10)) (aSeq (aSetZ 5 (r2 fSub (rV 5) (rV 10))) aNext)) { nx := rest, rt := fun t _ => AQ t, ex := fun x _ => AX x, bk := rest, ct := rest } [some (.fz .sto), some (.fz (.int total)), some (.fz (.int many)), some (.fz (.int most)), some (.fz (.int kd)), some (.fz (.int re)), some (tI row), some (.fz (.int i)), some (.fz (.int (max 0 (re - most * (many - 1 - (i : Int)))))), some (.fz (.int (min most re))), some (.fz (.int p))] := by
      intro p hp1 hp2
      simp only [s_seq]
      refine do_app (ts := (row.map D.int).map T.fz) (t := .fz (.int p)) rfl (by simp; omega) rfl (fun TQ' h => by simpa using h) ?_
      simp
      have := fin p (some (.fz (.int (max 0 (re - most * (many - 1 - (i : Int))))))) (some (.fz (.int (min most re)))) hp1 hp2
      simpa [tI] using this
    by_cases c1 : kd = 1
    · subst c1
      simp
      refine ⟨⟨by omega, by omega⟩, ?_⟩
      exact done _ (by omega) (by omega)
    by_cases c2 : kd = 2
    · subst c2
      simp
      refine in3 ⟨rfl, _, _, rfl, rfl, lh, fun r h1 h2 => ?_⟩
      simp
      exact done r h1 h2
    · simp [c1, c2]
      exact done _ lh (by omega)
end K78

set_option Elab.async false
set_option linter.all false
set_option maxRecDepth 100000
set_option maxHeartbeats 4000000
namespace K78
open PySem PySem.Spec PyProof.Rows L2 AL
/-! ints compared as data -/
theorem dats_ints : ∀ xs : List Int, D.dats (xs.map D.int) = true
  | [] => rfl
  | x :: xs => by simp [D.dats, D.dat, dats_ints xs]
theorem lay_ints : ∀ xs : List Int, PyData.canLayAll0 (D.pys (xs.map D.int)) = true
  | [] => rfl
  | x :: xs => by simp [D.pys, D.py, PyData.canLayAll0, PyData.canLay0, lay_ints xs]
theorem dep_ints : ∀ xs : List Int, PyData.depthAll (D.pys (xs.map D.int)) ≤ 1
  | [] => by simp [D.pys, PyData.depthAll]
  | x :: xs => by
    have ih := dep_ints xs
    simp [D.pys, D.py, PyData.depthAll, PyData.depth]
    omega
theorem shp_ints {xs : List Int} : (dI xs).shp := by
  refine ⟨by simp [dI, D.dat, dats_ints], ?_⟩
  have := dep_ints xs
  simp [dI, D.py, SeqAt.shaped, PyData.canLay0, lay_ints, PyData.depth]
  omega
theorem eqE {xs : List Int} {AQ : TQ} (q : AQ (.fz (.bl (decide (xs = []))))) : fEq (dI xs) (.lst []) AQ := by
  refine ⟨shp_ints, shp_ints (xs := []), ?_⟩
  cases xs with
  | nil => exact q
  | cons x xs => exact q
theorem neE {xs : List Int} {AQ : TQ} (q : AQ (.fz (.bl (!decide (xs = []))))) : fNe (dI xs) (.lst []) AQ := by
  refine ⟨shp_ints, shp_ints (xs := []), ?_⟩
  cases xs with
  | nil => exact q
  | cons x xs => exact q
end K78

set_option Elab.async false
set_option linter.all false
set_option maxRecDepth 100000
set_option maxHeartbeats 4000000
namespace K78
open PySem PySem.Spec PyProof.Rows L2 AL
theorem cuts_snoc {l g g' : List Int} {ws : List Pc} {p : Pc} (h : cuts l ws = some g) (h' : cutL g p = some g') : cuts l (ws ++ [p]) = some g' := by
  rw [cuts_append, h]
  show cuts g [p] = _
  unfold cuts
  rw [h']
  rfl
theorem cutL_of {l : List Int} {v m : Int} (h0 : 0 ≤ v) (h1 : v < l.length) (h2 : 1 ≤ m) (h3 : m ≤ gt l v) : cutL l (v, m) = some (l.set v.toNat (gt l v - m)) := by
  unfold cutL
  rw [if_pos ⟨h0, h1, h2, h3⟩]
theorem tP_snoc {ws : List Pc} {p : Pc} : T.lst (ws.map tPc ++ [tPc p]) = tP (ws ++ [p]) := by simp [tP]
theorem lc_stand {ρ : En} {g : List Int} {i j : Nat} {AQ : TQ} (hj : j < ρ.length) (hi : i ≠ j) (hρ : ρ[i]? = some (some (dI g))) (hz : g.length ≤ 1000) (q : AQ (tI (stand g))) :
    lcGo (.nm j) (rTB (r2 fGt (r2 fIx (rV i) (rV j)) (rD (.int 0)))) (rV j) ρ AQ (rngD 0 g.length) [] := by
  rw [rngD_map]
  refine lc_det (f := fun k : Nat => D.int (0 + (k : Nat))) (fun k : Nat => decide (0 < gt g k)) (fun k : Nat => .fz (.int k)) (by rw [List.length_range]; omega) (fun k hk => ⟨[(j, .int (0 + (k : Nat)))], rfl, fun BQ h => ?_, fun _ TQ' h => ?_⟩) ?_
  · have hk' : k < g.length := by simpa using hk
    have x1 : ∀ {Q : TQ}, fIx (dI g) (.int (k : Nat)) Q = Q (.fz (.int (gt g k))) := fun {Q} => ix_gt (by omega) (by omega)
    simp [List.getElem?_set_ne hi.symm, hρ, List.getElem?_set_self hj, x1]
    exact h
  · simp [List.getElem?_set_self hj]
    simpa using h
  · rw [tI_map', ← stand_eq]
    exact q
theorem for_rngB {g : Tg} {body : RS} {A : AEnds} {lo : Int} {n : Nat} {ρ : AS} (I : Nat → AS → Prop) (h0 : I 0 ρ) (hend : ∀ i ρ, i ≤ n → I i ρ → A.nx ρ)
    (hs : ∀ (rest brk : AS → Prop) (i : Nat) (ρ : AS), i < n → I i ρ → (∀ ρ', I (i + 1) ρ' → rest ρ') → (∀ i ρ', i ≤ n → I i ρ' → brk ρ') → ∃ bs, g.bind (.int (lo + i)) = some bs ∧ body { nx := rest, rt := A.rt, ex := A.ex, bk := brk, ct := rest } (setAll ρ (bs.map fun p => (p.1, .fz p.2)))) : forGo g body A (rngD lo n) ρ :=
  for_rng I h0 (fun ρ h => hend n ρ (Nat.le_refl _) h) fun rest i ρ hi h k => hs rest A.nx i ρ hi h k hend
theorem iota_rgI {n : Nat} : (T.ers (((rgI 0 (n : Int)).map D.int).map T.fz)) = (iota n).map D.int := by
  rw [s_ersF]
  simp [rgI, iota]
theorem set_gt_same {g : List Int} {i : Nat} {x : Int} (h : i < g.length) : gt (g.set i x) i = x := gt_nat (List.getElem?_set_self h)
theorem set_gt_ne {g : List Int} {i j : Nat} {x : Int} (h : i ≠ j) : gt (g.set i x) j = gt g j := by
  unfold gt
  simp [List.getD_eq_getElem?_getD, List.getElem?_set_ne h]
theorem iota_nodup {n : Nat} : (iota n).Nodup := by
  unfold iota
  refine List.pairwise_map.mpr (List.nodup_range.imp fun h => ?_)
  omega
theorem pure__law_turns : ∀ ds AQ AX, r__law_turns ds AQ AX → a__law_turns (aEnds AQ AX) (ent 10 ds) := by
  intro ds AQ AX h
  obtain ⟨_, _, _, rfl, rfl, l, p, rfl, rfl, h8, hl, p0, p1, q⟩ := fs3_el h
  show a__law_turns (aEnds AQ AX) [some (.fz .sto), some (.fz (dI l)), some (.fz (.int p)), none, none, none, none, none, none, none]
  simp only [a__law_turns, s_seq]
  simp
  refine do_take (by omega) (by omega) fun kd _ _ => ?_
  simp [s_for]
  refine ⟨by omega, for_rngB (fun i ρ => ∃ (g : List Int) (ws : List Pc) (o1 o2 o3 o4 : Option T), ρ = [some (.fz .sto), some (.fz (dI l)), some (.fz (.int p)), some (tI g), some (.fz (.int kd)), some (tP ws), o1, o2, o3, o4] ∧ cuts l ws = some g ∧ (∀ x ∈ g, 0 ≤ x) ∧ ws.length ≤ i)
    ⟨l, [], none, none, none, none, rfl, rfl, hl, by simp⟩ ?_ ?_⟩
  · rintro i ρ hi ⟨g, ws, o1, o2, o3, o4, rfl, hc, hg, hw⟩
    have gl := cuts_len hc
    show aSeq _ _ _ _
    simp only [s_seq]
    unfold aForP
    simp
    refine ⟨RgOk.of_le (by omega) (by omega) (by omega) (by omega), ?_⟩
    have e0 : D.lst (T.ers (List.map (T.fz ∘ D.int) (rgI 0 g.length))) = dI (iota g.length) := by
      rw [← List.map_map, s_ersF]
      simp [rgI, iota, dI]
    refine in2 ⟨rfl, iota g.length, e0, by simp [iota]; omega, fun ys hp => ?_⟩
    have nd : ys.Nodup := hp.nodup_iff.mpr iota_nodup
    have hy : ys.length = g.length := by rw [hp.length_eq]; simp [iota]
    simp
    refine for_map (f := D.int) (fun i ρ => ∃ (li : List Int) (ws : List Pc) (o : Option T), ρ = [some (.fz .sto), some (.fz (dI l)), some (.fz (.int p)), some (tI g), some (.fz (.int kd)), some (tP ws), o1, o2, o, o4] ∧ cuts l ws = some li ∧ li.length = g.length ∧ (∀ k : Nat, k < g.length → gt li k = if (k : Int) ∈ ys.take i then 0 else gt g k) ∧ ws.length ≤ p.toNat + i)
      ⟨g, ws, _, rfl, hc, rfl, fun k hk => by simp, by omega⟩ ?_ ?_
    · rintro ρ ⟨li, ws, o, rfl, hc, hl2, hk, hw⟩
      simp [tP]
      refine q ws li (by omega) hc fun x hx => ?_
      obtain ⟨j, hj⟩ := List.getElem?_of_mem hx
      have hjl : j < li.length := (List.getElem?_eq_some_iff.mp hj).1
      have := hk j (by omega)
      rw [gt_nat hj, List.take_length, if_pos (hp.mem_iff.mpr (mem_iota.mpr ⟨by omega, by omega⟩))] at this
      exact this
    · rintro rest i x ρ hi ⟨li, ws, o, rfl, hc, hl2, hk, hw⟩ kk
      have hxm : x ∈ iota g.length := hp.mem_iff.mp (List.mem_of_getElem? hi)
      obtain ⟨x0, x9⟩ := mem_iota.mp hxm
      have hil : i < ys.length := (List.getElem?_eq_some_iff.mp hi).1
      have hnot : x ∉ ys.take i := fun z => by
        obtain ⟨j, hj⟩ := List.getElem?_of_mem z
        have hj2 : j < (ys.take i).length := (List.getElem?_eq_some_iff.mp hj).1
        rw [List.length_take] at hj2
        rw [List.getElem?_take_of_lt (by omega)] at hj
        have h1 := (List.getElem?_eq_some_iff.mp hj).2
        have h2 := (List.getElem?_eq_some_iff.mp hi).2
        exact List.pairwise_iff_getElem.mp nd j i (by omega) hil (by omega) (h1.trans h2.symm)
      obtain ⟨m, rfl⟩ : ∃ m : Nat, x = m := ⟨x.toNat, by omega⟩
      have hg0 : gt li m = gt g m := by rw [hk m (by omega), if_neg hnot]
      have x1 : ∀ {Q : TQ}, fIx (dI g) (.int (m : Nat)) Q = Q (.fz (.int (gt g m))) := fun {Q} => ix_gt (by omega) (by omega)
      refine ⟨[(8, .int (m : Nat))], rfl, ?_⟩
      simp only [s_seq]
      simp [x1]
      have hgm : 0 ≤ gt g m := hg _ (gt_mem (by omega) (by omega))
      by_cases c : 0 < gt g m
      · simp [c]
        refine do_app (ts := ws.map tPc) (t := tPc (m, gt g m)) rfl (by simp; omega) rfl (fun TQ' h => ?_) ?_
        · simpa [tPc, x1] using h
        rw [tP_snoc]
        refine kk _ ⟨_, _, _, rfl, cuts_snoc hc (cutL_of (by omega) (by omega) (by omega) (by omega)), by simp [hl2], fun k hk' => ?_, by simp; omega⟩
        rw [take_succ' hi]
        by_cases e : k = m
        · subst e
          simp [set_gt_same (show k < li.length by omega), hg0]
        · have e' : ¬ (k : Int) = m := by omega
          rw [Int.toNat_natCast, set_gt_ne (Ne.symm e), hk k hk']
          simp [e']
      · simp [c]
        refine kk _ ⟨_, _, _, rfl, hc, hl2, fun k hk' => ?_, by omega⟩
        rw [take_succ' hi]
        by_cases e : k = m
        · subst e
          simp [hg0]
          omega
        · have e' : ¬ (k : Int) = m := by omega
          rw [hk k hk']
          simp [e']
  · rintro rest brk i ρ hi ⟨g, ws, o1, o2, o3, o4, rfl, hc, hg, hw⟩ k kb
    have gl := cuts_len hc
    refine ⟨[(6, .int (0 + (i : Nat)))], rfl, ?_⟩
    simp only [s_seq]
    simp
    refine ⟨by omega, lc_stand (by simp) (by simp) rfl (by omega) ?_⟩
    simp
    refine eqE ?_
    simp
    by_cases c : stand g = []
    · simp [c]
      exact kb i _ (by omega) ⟨g, ws, _, _, _, _, rfl, hc, hg, hw⟩
    simp [c]
    refine in2 ⟨rfl, _, rfl, by simpa using c, by have := stand_len (e := g); simp; omega, fun d hd => ?_⟩
    obtain ⟨v, hv, rfl⟩ := List.mem_map.mp hd
    obtain ⟨v0, v1, v2⟩ := mem_stand hv
    have x1 : ∀ {Q : TQ}, fIx (dI g) (.int v) Q = Q (.fz (.int (gt g v))) := fun {Q} => ix_gt v0 v1
    have done : ∀ m : Int, 1 ≤ m → m ≤ gt g v → (aSeq (aApp 5 (rTupD (rCons (rV 8) (rCons (rV 9) rNil)))) (aSeq (aSetIx 3 (r2 fSub (r2 fIx (rV 3) (rV 8)) (rV 9)) (rV 8)) aNext)) { nx := rest, rt := fun t _ => AQ t, ex := fun x _ => AX x, bk := brk, ct := rest } [some (.fz .sto), some (.fz (dI l)), some (.fz (.int p)), some (tI g), some (.fz (.int kd)), some (tP ws), some (.fz (.int i)), some (.fz (dI (stand g))), some (.fz (.int v)), some (.fz (.int m))] := by
      intro m m1 m2
      simp only [s_seq]
      refine do_app (ts := ws.map tPc) (t := tPc (v, m)) rfl (by simp; omega) rfl (fun TQ' h => ?_) ?_
      · simpa [tPc] using h
      rw [tP_snoc]
      simp only [s_seq]
      refine do_setIx (xs := g) (k := v) (v := gt g v - m) rfl (fun TQ' h => ?_) (fun TQ' h => by simpa using h) v0 v1 ?_
      · simpa [x1] using h
      refine k _ ⟨_, _, _, _, _, _, rfl, cuts_snoc hc (cutL_of v0 v1 m1 m2), fun x hx => ?_, by simp; omega⟩
      rcases List.mem_or_eq_of_mem_set hx with h | h
      · exact hg x h
      · omega
    simp [x1]
    by_cases c1 : kd = 0
    · subst c1
      simp
      exact done 1 (by omega) (by omega)
    by_cases c2 : 2 ≤ kd
    · simp [c1, c2, x1]
      refine in3 ⟨rfl, _, _, rfl, rfl, by omega, fun m m1 m2 => ?_⟩
      simp
      exact done m m1 m2
    · simp [c1, c2]
      exact done _ (by omega) (by omega)
end K78

set_option Elab.async false
set_option linter.all false
set_option maxRecDepth 100000
set_option maxHeartbeats 4000000
namespace K78
open PySem PySem.Spec PyProof.Rows L2 AL
theorem pure__law_ranks : ∀ ds AQ AX, r__law_ranks ds AQ AX → a__law_ranks (aEnds AQ AX) (ent 9 ds) := by
  intro ds AQ AX h
  obtain ⟨_, _, _, rfl, rfl, e, k, rfl, rfl, e1, e8, q⟩ := fs3_el h
  show a__law_ranks (aEnds AQ AX) [some (.fz .sto), some (.fz (dI e)), some (.fz (.bl k)), none, none, none, none, none, none]
  simp only [a__law_ranks, s_seq]
  simp
  refine in2 ⟨rfl, _, rfl, by simp, by simp, fun d hd => ?_⟩
  obtain ⟨st, rfl, s1, s2⟩ : ∃ s : Int, d = .int s ∧ 1 ≤ s ∧ s ≤ 100000 := by
    simp only [List.mem_cons, List.not_mem_nil, or_false] at hd
    rcases hd with rfl | rfl | rfl | rfl <;> exact ⟨_, rfl, by decide, by decide⟩
  simp
  refine ⟨.inl ⟨by decide, by decide⟩, in2 ⟨rfl, _, rfl, by simp, by simp, fun d hd => ?_⟩⟩
  obtain ⟨le, rfl, l1, l2⟩ : ∃ s : Int, d = .int s ∧ 0 ≤ s ∧ s + 7 * st ≤ 1000000 := by
    simp only [List.mem_cons, List.not_mem_nil, or_false] at hd
    rcases hd with rfl | rfl | rfl | rfl <;> exact ⟨_, rfl, by omega, by omega⟩
  have fin : ∀ lv : Int, 1 ≤ lv → lv ≤ 8 → ((aSeq (aSet 6 (rLc (rIList (rCall r__law_shuffled [] (rCons (rV 0) (rCons (rLstRg (rRg1 (rN fLen (rCons (rV 1) rNil)))) rNil)))) (.nm 7) rYes (r2 fAdd (rV 4) (r2 fMul (rV 3) (rN fInt (rCons (r2 fMod (rV 7) (rV 5)) rNil)))) [7])) (aSeq (aForB (rIN gR1 (rCons (rN fLen (rCons (rV 6) rNil)) rNil)) (.nm 8) (aSeq (aIf (rAnd (rTB (r2 fEq (r2 fIx (rV 1) (rV 8)) (rD (.int 0)))) (rTB (r2 fEq (rCall r__law_take [] (rCons (rV 0) (rCons (rD (.int 3)) rNil))) (rD (.int 0))))) (aSeq (aSetIx 6 (r2 fIx (rV 6) (rD (.int 0))) (rV 8)) aNext) aNext) aNext)) (aSeq (aRetV 6) aNext)))) (aEnds AQ AX) [some (.fz .sto), some (.fz (dI e)), some (.fz (.bl k)), some (.fz (.int st)), some (.fz (.int le)), some (.fz (.int lv)), none, none, none] := by
    intro lv v1 v2
    simp only [s_seq]
    simp
    refine ⟨RgOk.of_le (by omega) (by omega) (by omega) (by omega), ?_⟩
    refine in2 ⟨rfl, rgI 0 e.length, by rw [← List.map_map, s_ersF]; rfl, by simp [rgI]; omega, fun ys hp => ?_⟩
    have hy : ys.length = e.length := by rw [hp.length_eq]; simp [rgI]
    simp
    refine lc_map (f := D.int) (fun y => .fz (.int (le + st * (y % lv)))) (by omega) (fun y _ => ⟨[(7, .int y)], rfl, fun BQ h => h, fun TQ' h => ?_⟩) ?_
    · simp
      exact ⟨by omega, .inl ⟨by omega, by omega⟩, h⟩
    rw [tI_map']
    have ok : ∀ y : Int, 0 ≤ le + st * (y % lv) ∧ le + st * (y % lv) ≤ 1000000 := fun y => by
      have h1 := Int.emod_nonneg y (show lv ≠ 0 by omega)
      have h2 := Int.emod_lt_of_pos y (show 0 < lv by omega)
      have h3 : 0 ≤ st * (y % lv) := Int.mul_nonneg (by omega) h1
      have h4 : st * (y % lv) ≤ st * 7 := Int.mul_le_mul_of_nonneg_left (by omega) (by omega)
      omega
    simp [s_forB, hy]
    refine ⟨by omega, for_rng (fun i ρ => ∃ (row : List Int) (o : Option T), ρ = [some (.fz .sto), some (.fz (dI e)), some (.fz (.bl k)), some (.fz (.int st)), some (.fz (.int le)), some (.fz (.int lv)), some (tI row), none, o] ∧ row.length = e.length ∧ ∀ x ∈ row, 0 ≤ x ∧ x ≤ 1000000) ⟨_, _, rfl, by simp [hy], fun x hx => ?_⟩ ?_ ?_⟩
    · obtain ⟨y, _, rfl⟩ := List.mem_map.mp hx
      exact ok y
    · rintro ρ ⟨row, o, rfl, h1, h2⟩
      simp
      exact q row h1 h2
    · rintro rest i ρ hi ⟨row, o, rfl, h1, h2⟩ kk
      refine ⟨[(8, .int (0 + (i : Nat)))], rfl, ?_⟩
      have x1 : ∀ {Q : TQ}, fIx (dI e) (.int (i : Nat)) Q = Q (.fz (.int (gt e i))) := fun {Q} => ix_gt (by omega) (by omega)
      simp only [s_seq]
      simp [x1]
      by_cases c : gt e i = 0
      · simp [c]
        refine do_take (by omega) (by omega) fun r _ _ => ?_
        simp
        by_cases c2 : r = 0
        · simp [c2]
          have x2 : ∀ {Q : TQ}, fIx (dI row) (.int 0) Q = Q (.fz (.int (gt row 0))) := fun {Q} => ix_gt (by omega) (by omega)
          refine do_setIx (xs := row) (k := i) (v := gt row 0) rfl (fun TQ' h => ?_) (fun TQ' h => by simpa using h) (by omega) (by omega) ?_
          · simpa [x2] using h
          refine kk _ ⟨_, _, rfl, by simp [h1], fun x hx => ?_⟩
          rcases List.mem_or_eq_of_mem_set hx with h | h
          · exact h2 x h
          · rw [h]
            exact h2 _ (gt_mem (by omega) (by omega))
        · simp [c2]
          exact kk _ ⟨_, _, rfl, h1, h2⟩
      · simp [c]
        exact kk _ ⟨_, _, rfl, h1, h2⟩
  cases k with
  | true =>
    simpa using fin e.length (by omega) (by omega)
  | false =>
    simp
    refine do_take (by omega) (by omega) fun r _ _ => ?_
    simpa using fin (1 + r) (by omega) (by omega)
end K78

set_option Elab.async false
set_option linter.all false
set_option maxRecDepth 100000
set_option maxHeartbeats 4000000
namespace K78
open PySem PySem.Spec PyProof.Rows L2 AL
/-! slices -/
theorem cut_hi {α : Type} {xs : List α} {t : Int} (h : 0 ≤ t) : AL.cut xs none (some t) = xs.take t.toNat := by
  unfold AL.cut HT.sIx
  simp only [show ¬ t < 0 by omega, if_false, List.drop_zero, Nat.sub_zero]
  rw [List.take_eq_take_iff]
  omega
theorem cut_lo {α : Type} {xs : List α} {t : Int} (h : 0 ≤ t) : AL.cut xs (some t) none = xs.drop t.toNat := by
  unfold AL.cut HT.sIx
  simp only [show ¬ t < 0 by omega, if_false]
  by_cases c : t.toNat ≤ xs.length
  · rw [Nat.min_eq_left c]
    exact List.take_of_length_le (by rw [List.length_drop]; omega)
  · rw [Nat.min_eq_right (by omega), Nat.sub_self, List.take_zero, List.drop_of_length_le (by omega)]
theorem cut_last {α : Type} {xs : List α} {x : α} : AL.cut (xs ++ [x]) (some (-1)) none = [x] := by
  unfold AL.cut HT.sIx
  simp only [show (-1 : Int) < 0 by omega, if_true, List.length_append, List.length_cons, List.length_nil]
  have e : (-1 + ((xs.length + (0 + 1) : Nat) : Int)).toNat = xs.length := by omega
  rw [e, List.drop_left]
  exact List.take_of_length_le (by simp)
@[simp] theorem f14 {AQ : TQ} : fPow (.int 10) (.int 14) AQ = AQ (.fz (.int 100000000000000)) := by
  rw [s_pow]
  exact propext ⟨fun h => h.2, fun h => ⟨⟨by decide, by decide +kernel⟩, h⟩⟩
theorem cut_map {α β : Type} {f : α → β} {xs : List α} {a b : Option Int} : AL.cut (xs.map f) a b = (AL.cut xs a b).map f := by
  unfold AL.cut
  rw [List.length_map, List.map_take, List.map_drop]
theorem rep0 {n : Nat} : rep [D.int 0] (n : Int) = (nul n).map D.int := by
  unfold rep nul
  rw [Int.toNat_natCast]
  induction n with
  | zero => rfl
  | succ n ih => rw [List.replicate_succ, List.flatten_cons, ih, List.replicate_succ]; rfl
theorem nul_len {n : Nat} : (nul n).length = n := by simp [nul]
theorem nul_mem {n : Nat} {x : Int} (h : x ∈ nul n) : x = 0 := (List.mem_replicate.mp h).2
theorem nul_sum {n : Nat} : (nul n).sum = 0 := by
  induction n with
  | zero => rfl
  | succ n ih =>
    show ((0 : Int) :: nul n).sum = 0
    rw [List.sum_cons, ih]
    rfl
theorem nul_gt {n : Nat} {k : Int} : gt (nul n) k = 0 := by
  unfold gt nul
  rw [List.getD_eq_getElem?_getD, List.getElem?_replicate]
  split <;> rfl
theorem iota_pw {n : Nat} : (iota n).Pairwise (· < ·) := by
  unfold iota
  refine List.pairwise_map.mpr (List.pairwise_lt_range.imp fun h => ?_)
  omega
theorem gt_set_ne {b : List Int} {i j : Int} {x : Int} (h0 : 0 ≤ i) (h1 : 0 ≤ j) (h : i ≠ j) : gt (b.set i.toNat x) j = gt b j := by
  unfold gt
  rw [List.getD_eq_getElem?_getD, List.getD_eq_getElem?_getD, List.getElem?_set_ne (by omega)]
theorem tII_map {xs : List (List Int)} : T.lst (xs.map tI) = tII xs := rfl
theorem asc_len : ∀ {xs : List Int} {a b : Int}, xs.Pairwise (· < ·) → (∀ x ∈ xs, a ≤ x ∧ x < b) → xs.length ≤ (b - a).toNat
  | [], _, _, _, _ => Nat.zero_le _
  | x :: xs, a, b, hp, hm => by
    obtain ⟨h1, h2⟩ := List.pairwise_cons.mp hp
    have h3 := hm x (List.mem_cons_self ..)
    have := asc_len (a := x + 1) (b := b) h2 fun y hy => ⟨by have := h1 y hy; omega, (hm y (List.mem_cons_of_mem _ hy)).2⟩
    rw [List.length_cons]
    omega
theorem pure__law_world : ∀ ds AQ AX, r__law_world ds AQ AX → a__law_world (aEnds AQ AX) (ent 16 ds) := by
  intro ds AQ AX h
  obtain ⟨_, _, _, _, rfl, rfl, most, total, k, rfl, rfl, rfl, m1, m8, t1, t2, q⟩ := fs4_el h
  show a__law_world (aEnds AQ AX) [some (.fz .sto), some (.fz (.int most)), some (.fz (.int total)), some (.fz (.bl k)), none, none, none, none, none, none, none, none, none, none, none, none]
  -- behind standing
  have fin : ∀ (pa na : Int) (st : List Int), 1 ≤ pa → pa ≤ 8 → 1 ≤ na → na ≤ 8 → st ≠ [] → st.Pairwise (· < ·) → (∀ x ∈ st, 0 ≤ x ∧ x < na) → st.length ≤ total → ((aSeq (aSetZ 8 (rCall r__law_near_ends [] (rCons (rV 0) (rCons (rN fLen (rCons (rV 6) rNil)) (rCons (rN (fMM fun i j => min i j) (rCons (rV 2) (rCons (r2 fMul (r2 fPow (rD (.int 10)) (rD (.int 14))) (rN (fMM fun i j => min i j) (rCons (rV 4) (rCons (rN fLen (rCons (rV 6) rNil)) rNil)))) rNil))) rNil))))) (aSeq (aSetZ 9 (rCall r__law_parts [] (rCons (rV 0) (rCons (r2 fSub (rV 8) (rN fLen (rCons (rV 6) rNil))) (rCons (rN fLen (rCons (rV 6) rNil)) (rCons (r2 fSub (r2 fPow (rD (.int 10)) (rD (.int 14))) (rD (.int 1))) rNil)))))) (aSeq (aSet 10 (r2 fMul (rLst (rCons (rD (.int 0)) rNil)) (rV 5))) (aSeq (aFor (rIN gR1 (rCons (rN fLen (rCons (rV 6) rNil)) rNil)) (.nm 11) (aSeq (aSetIx 10 (r2 fAdd (rD (.int 1)) (r2 fIx (rV 9) (rV 11))) (r2 fIx (rV 6) (rV 11))) aNext)) (aSeq (aSetZ 12 (rAndV (r2 fGt (rV 4) (rD (.int 1))) (rAndV (r2 fLe (rV 8) (r2 fPow (rD (.int 10)) (rD (.int 14)))) (r2 fGt (rCall r__law_take [] (rCons (rV 0) (rCons (rD (.int 3)) rNil))) (rD (.int 0)))))) (aSeq (aSetZ 13 (rCall r__law_parts [] (rCons (rV 0) (rCons (rV 8) (rCons (rV 4) (rCons (rIf (rTB (rV 12)) (r2 fAdd (r2 fDiv (rV 8) (rD (.int 2))) (rD (.int 1))) (r2 fPow (rD (.int 10)) (rD (.int 14)))) rNil)))))) (aSeq (aSetB 14 (rLc (rIN gR1 (rCons (rV 4) rNil)) (.nm 15) rYes (rCall r__law_ranks [] (rCons (rV 0) (rCons (rV 10) (rCons (rV 3) rNil)))) [15])) (aFrz 14 (aSeq (aIf (rTB (r2 fEq (rCall r__law_take [] (rCons (rV 0) (rCons (rD (.int 6)) rNil))) (rD (.int 0)))) (aSeq (aSetZ 14 (rLc (rIN gR1 (rCons (rV 4) rNil)) (.nm 15) rYes (rN fList (rCons (r2 fIx (rV 14) (rD (.int 0))) rNil)) [15])) aNext) aNext) (aFrz 10 (aSeq (aRet (rTupD (rCons (rV 14) (rCons (rV 13) (rCons (rV 10) rNil))))) aNext)))))))))))) (aEnds AQ AX) [some (.fz .sto), some (.fz (.int most)), some (.fz (.int total)), some (.fz (.bl k)), some (.fz (.int pa)), some (.fz (.int na)), some (.fz (dI st)), none, none, none, none, none, none, none, none, none] := by
    intro pa na st pa1 pa8 na1 na8 sne spw smem slen
    obtain ⟨n, rfl⟩ : ∃ n : Nat, na = n := ⟨na.toNat, by omega⟩
    obtain ⟨np, rfl⟩ : ∃ n : Nat, pa = n := ⟨pa.toNat, by omega⟩
    have sl : 1 ≤ st.length := List.length_pos_iff.mpr sne
    have sl8 : st.length ≤ 8 := by
      have h1 := asc_len spw smem
      omega
    simp only [s_seq]
    simp
    refine ⟨.inl ⟨by decide, by decide⟩, in3 ⟨rfl, _, _, rfl, rfl, by omega, fun s s1 s2 => ?_⟩⟩
    simp
    have s3 : s ≤ total := by omega
    have s4 : s ≤ 100000000000000 * np := by omega
    have s5 : s ≤ 100000000000000 * st.length := by omega
    refine in4 ⟨rfl, s - st.length, st.length, 99999999999999, rfl, rfl, rfl, by omega, by omega, by decide, by omega, by omega, fun zs zl zb zsum => ?_⟩
    simp [rep0, s_for]
    refine ⟨by omega, by omega, ?_⟩
    have tn : T.lst (List.map (T.fz ∘ D.int) (nul n)) = tI (nul n) := by rw [← List.map_map]; rfl
    rw [tn]
    refine for_rng (fun i ρ => ∃ (b : List Int) (o : Option T), ρ = [some (.fz .sto), some (.fz (.int most)), some (.fz (.int total)), some (.fz (.bl k)), some (.fz (.int np)), some (.fz (.int n)), some (.fz (dI st)), none, some (.fz (.int s)), some (.fz (dI zs)), some (tI b), o, none, none, none, none] ∧
      b.length = n ∧ (∀ x ∈ b, 0 ≤ x ∧ x ≤ 100000000000000) ∧ b.sum = i + (zs.take i).sum ∧ ∀ j : Nat, i ≤ j → j < st.length → gt b (gt st j) = 0) ⟨nul n, none, rfl, nul_len, fun x hx => by rw [nul_mem hx]; decide, by rw [nul_sum]; simp, fun j _ _ => nul_gt⟩ ?_ ?_
    · rintro ρ ⟨b, o, rfl, b1, b2, b3, b4⟩
      have bs : b.sum = s := by
        rw [b3, List.take_of_length_le (by omega)]
        omega
      have fin2 : ∀ (ev : Bool) (lf : List Int), lf.length = np → (∀ x ∈ lf, 0 ≤ x ∧ x ≤ 100000000000000) → lf.sum = s → ((aSeq (aSetB 14 (rLc (rIN gR1 (rCons (rV 4) rNil)) (.nm 15) rYes (rCall r__law_ranks [] (rCons (rV 0) (rCons (rV 10) (rCons (rV 3) rNil)))) [15])) (aFrz 14 (aSeq (aIf (rTB (r2 fEq (rCall r__law_take [] (rCons (rV 0) (rCons (rD (.int 6)) rNil))) (rD (.int 0)))) (aSeq (aSetZ 14 (rLc (rIN gR1 (rCons (rV 4) rNil)) (.nm 15) rYes (rN fList (rCons (r2 fIx (rV 14) (rD (.int 0))) rNil)) [15])) aNext) aNext) (aFrz 10 (aSeq (aRet (rTupD (rCons (rV 14) (rCons (rV 13) (rCons (rV 10) rNil))))) aNext)))))) (aEnds AQ AX) [some (.fz .sto), some (.fz (.int most)), some (.fz (.int total)), some (.fz (.bl k)), some (.fz (.int np)), some (.fz (.int n)), some (.fz (dI st)), none, some (.fz (.int s)), some (.fz (dI zs)), some (tI b), o, some (.fz (.bl ev)), some (.fz (dI lf)), none, none] := by
        intro ev lf l1 l2 l3
        simp only [s_seq]
        simp
        refine ⟨by omega, ?_⟩
        rw [rngD_map]
        refine lc_each (f := fun i : Nat => D.int (0 + (i : Nat))) (fun i acc => ∃ rows : List (List Int), acc = rows.map tI ∧ rows.length = i ∧ ∀ row ∈ rows, row.length = n ∧ ∀ x ∈ row, 0 ≤ x ∧ x ≤ 1000000) ⟨[], rfl, rfl, fun _ h => nomatch h⟩ ?_ ?_
        · rintro acc ⟨rows, rfl, h1, h2⟩
          rw [List.length_range] at h1
          have good : ∀ rows : List (List Int), rows.length = np → (∀ row ∈ rows, row.length = n ∧ ∀ x ∈ row, 0 ≤ x ∧ x ≤ 1000000) → AQ (.tup [.fz (dII rows), .fz (dI lf), .fz (dI b)]) := fun rows h1 h2 =>
            q rows lf b ⟨by omega, by omega, by omega, by omega, by omega, fun row hr => by rw [(h2 row hr).1, b1], fun row hr => (h2 row hr).2, l2, b2, by rw [l3, bs]⟩ (by omega)
          rw [tII_map]
          refine ⟨tII_pure, ?_⟩
          refine do_take (by omega) (by omega) fun d _ _ => ?_
          simp
          by_cases c : d = 0
          · simp [c]
            refine ⟨by omega, ?_⟩
            have hr0 : 0 < rows.length := by omega
            refine lc_map (fun _ => tI rows[0]) (by rw [List.length_range]; omega) (fun i _ => ⟨[(15, .int (i : Nat))], rfl, fun BQ h => h, fun TQ' h => ?_⟩) ?_
            · simp
              rw [s_ix_intss (by omega) (by omega)]
              simp [List.getD_eq_getElem?_getD, List.getElem?_eq_getElem hr0]
              exact h
            · have e : T.lst ((List.range np).map fun _ => tI rows[0]) = tII ((List.range np).map fun _ => rows[0]) := by
                unfold tII
                rw [List.map_map]
                rfl
              rw [e, tII_er]
              refine good _ (by simp) fun row hr => ?_
              obtain ⟨_, _, rfl⟩ := List.mem_map.mp hr
              exact h2 _ (List.getElem_mem hr0)
          · simp [c]
            exact good rows h1 h2
        · rintro rest i x acc hx ⟨rows, rfl, h1, h2⟩ kk
          have hi : i < np := by simpa using (List.getElem?_eq_some_iff.mp hx).1
          refine ⟨[(15, .int (0 + (x : Nat)))], rfl, ?_⟩
          simp
          refine in3 ⟨rfl, b, k, rfl, rfl, by omega, by omega, fun row r1 r2 => ?_⟩
          refine ⟨by omega, kk _ ⟨rows ++ [row], by simp, by simp [h1], fun r hr => ?_⟩⟩
          rcases List.mem_append.mp hr with h | h
          · exact h2 r h
          · have : r = row := by simpa using h
            subst this
            exact ⟨by omega, r2⟩
      have part : ∀ (ev : Bool) (m : Int), 0 ≤ m → m ≤ 100000000000000 → s ≤ m * np → r__law_parts [.sto, .int s, .int np, .int m] (fun t => ((aSeq (aSetB 14 (rLc (rIN gR1 (rCons (rV 4) rNil)) (.nm 15) rYes (rCall r__law_ranks [] (rCons (rV 0) (rCons (rV 10) (rCons (rV 3) rNil)))) [15])) (aFrz 14 (aSeq (aIf (rTB (r2 fEq (rCall r__law_take [] (rCons (rV 0) (rCons (rD (.int 6)) rNil))) (rD (.int 0)))) (aSeq (aSetZ 14 (rLc (rIN gR1 (rCons (rV 4) rNil)) (.nm 15) rYes (rN fList (rCons (r2 fIx (rV 14) (rD (.int 0))) rNil)) [15])) aNext) aNext) (aFrz 10 (aSeq (aRet (rTupD (rCons (rV 14) (rCons (rV 13) (rCons (rV 10) rNil))))) aNext)))))) (aEnds AQ AX) [some (.fz .sto), some (.fz (.int most)), some (.fz (.int total)), some (.fz (.bl k)), some (.fz (.int np)), some (.fz (.int n)), some (.fz (dI st)), none, some (.fz (.int s)), some (.fz (dI zs)), some (tI b), o, some (.fz (.bl ev)), some (.fz t.er), none, none]) (fun x => AX x) := by
        intro ev m hm hm2 hs
        refine in4 ⟨rfl, s, np, m, rfl, rfl, rfl, by omega, by omega, hm, by omega, hs, fun lf l1 l2 l3 => ?_⟩
        simp only [tI_er]
        exact fin2 ev lf (by omega) (fun x hx => by have := l2 x hx; omega) l3
      simp
      by_cases c1 : (1 : Int) < np
      · by_cases c2 : s ≤ 100000000000000
        · simp [c1, c2]
          refine do_take (by omega) (by omega) fun d d0 _ => ?_
          have e1 : s ≤ (s / 2 + 1) * np := by
            have h1 : (s / 2 + 1) * 2 ≤ (s / 2 + 1) * np := Int.mul_le_mul_of_nonneg_left (by omega) (by omega)
            omega
          by_cases c3 : 0 < d
          · simp [c3]
            refine ⟨⟨by decide, by decide⟩, ?_⟩
            simpa using part true (s / 2 + 1) (by omega) (by omega) e1
          · simp [c3]
            simpa using part false 100000000000000 (by omega) (by omega) s4
        · simp [c1, c2]
          simpa using part false 100000000000000 (by omega) (by omega) s4
      · simp [c1]
        simpa using part false 100000000000000 (by omega) (by omega) s4
    · rintro rest i ρ hi ⟨b, o, rfl, b1, b2, b3, b4⟩ kk
      refine ⟨[(11, .int (0 + (i : Nat)))], rfl, ?_⟩
      simp only [s_seq]
      simp
      have hz : zs.length = st.length := by omega
      have hzi : zs[i]? = some zs[i] := List.getElem?_eq_getElem (by omega)
      have hsi : st[i]? = some st[i] := List.getElem?_eq_getElem (by omega)
      have x1 : ∀ {Q : TQ}, fIx (dI st) (.int (i : Nat)) Q = Q (.fz (.int (gt st i))) := fun {Q} => ix_gt (by omega) (by omega)
      have x2 : ∀ {Q : TQ}, fIx (dI zs) (.int (i : Nat)) Q = Q (.fz (.int (gt zs i))) := fun {Q} => ix_gt (by omega) (by omega)
      have hm := smem (gt st i) (gt_mem (by omega) (by omega))
      have hzb := zb (gt zs i) (gt_mem (by omega) (by omega))
      refine do_setIx (xs := b) (k := gt st i) (v := 1 + gt zs i) rfl (fun TQ' h => ?_) (fun TQ' h => ?_) hm.1 (by omega) ?_
      · simpa [x2] using h
      · simpa [x1] using h
      refine kk _ ⟨_, _, rfl, by simp [b1], fun x hx => ?_, ?_, fun j j1 j2 => ?_⟩
      · rcases List.mem_or_eq_of_mem_set hx with h | h
        · exact b2 x h
        · omega
      · have b5 := b4 i (Nat.le_refl _) (by omega)
        unfold gt at b5
        rw [sum_set (by omega), b3, take_succ' hzi, List.sum_append]
        have b6 : gt zs i = zs[i] := gt_nat hzi
        have b7 : b.getD (gt st i).toNat 0 = 0 := b5
        rw [b7, b6]
        simp
        omega
      · have h1 := List.pairwise_iff_getElem.mp spw i j (by omega) j2 (by omega)
        have g1 : gt st i = st[i] := gt_nat hsi
        have g2 : gt st j = st[j] := gt_nat (List.getElem?_eq_getElem j2)
        have hm2 := smem (gt st j) (gt_mem (by omega) (by omega))
        rw [gt_set_ne hm.1 hm2.1 (by omega)]
        exact b4 j (by omega) j2
  unfold a__law_world
  generalize ((aSeq (aSetZ 8 (rCall r__law_near_ends [] (rCons (rV 0) (rCons (rN fLen (rCons (rV 6) rNil)) (rCons (rN (fMM fun i j => min i j) (rCons (rV 2) (rCons (r2 fMul (r2 fPow (rD (.int 10)) (rD (.int 14))) (rN (fMM fun i j => min i j) (rCons (rV 4) (rCons (rN fLen (rCons (rV 6) rNil)) rNil)))) rNil))) rNil))))) (aSeq (aSetZ 9 (rCall r__law_parts [] (rCons (rV 0) (rCons (r2 fSub (rV 8) (rN fLen (rCons (rV 6) rNil))) (rCons (rN fLen (rCons (rV 6) rNil)) (rCons (r2 fSub (r2 fPow (rD (.int 10)) (rD (.int 14))) (rD (.int 1))) rNil)))))) (aSeq (aSet 10 (r2 fMul (rLst (rCons (rD (.int 0)) rNil)) (rV 5))) (aSeq (aFor (rIN gR1 (rCons (rN fLen (rCons (rV 6) rNil)) rNil)) (.nm 11) (aSeq (aSetIx 10 (r2 fAdd (rD (.int 1)) (r2 fIx (rV 9) (rV 11))) (r2 fIx (rV 6) (rV 11))) aNext)) (aSeq (aSetZ 12 (rAndV (r2 fGt (rV 4) (rD (.int 1))) (rAndV (r2 fLe (rV 8) (r2 fPow (rD (.int 10)) (rD (.int 14)))) (r2 fGt (rCall r__law_take [] (rCons (rV 0) (rCons (rD (.int 3)) rNil))) (rD (.int 0)))))) (aSeq (aSetZ 13 (rCall r__law_parts [] (rCons (rV 0) (rCons (rV 8) (rCons (rV 4) (rCons (rIf (rTB (rV 12)) (r2 fAdd (r2 fDiv (rV 8) (rD (.int 2))) (rD (.int 1))) (r2 fPow (rD (.int 10)) (rD (.int 14)))) rNil)))))) (aSeq (aSetB 14 (rLc (rIN gR1 (rCons (rV 4) rNil)) (.nm 15) rYes (rCall r__law_ranks [] (rCons (rV 0) (rCons (rV 10) (rCons (rV 3) rNil)))) [15])) (aFrz 14 (aSeq (aIf (rTB (r2 fEq (rCall r__law_take [] (rCons (rV 0) (rCons (rD (.int 6)) rNil))) (rD (.int 0)))) (aSeq (aSetZ 14 (rLc (rIN gR1 (rCons (rV 4) rNil)) (.nm 15) rYes (rN fList (rCons (r2 fIx (rV 14) (rD (.int 0))) rNil)) [15])) aNext) aNext) (aFrz 10 (aSeq (aRet (rTupD (rCons (rV 14) (rCons (rV 13) (rCons (rV 10) rNil))))) aNext)))))))))))) = R at fin ⊢
  simp only [s_seq]
  simp
  refine do_take (by omega) (by omega) fun d1 _ _ => ?_
  refine do_take (by omega) (by omega) fun d2 _ _ => ?_
  simp
  refine do_take (by omega) (by omega) fun d3 _ _ => ?_
  refine do_take (by omega) (by omega) fun d4 _ _ => ?_
  simp
  obtain ⟨pa, hpa⟩ : ∃ pa, pa = min most (1 + d1 + d2) := ⟨_, rfl⟩
  obtain ⟨na, hna⟩ : ∃ na, na = min most (1 + d3 + d4) := ⟨_, rfl⟩
  rw [← hpa, ← hna]
  have pa1 : 1 ≤ pa := by omega
  have pa8 : pa ≤ 8 := by omega
  have na1 : 1 ≤ na := by omega
  have na8 : na ≤ 8 := by omega
  clear hpa hna
  refine ⟨by omega, ?_⟩
  rw [rngD_map]
  obtain ⟨n, rfl⟩ : ∃ n : Nat, na = n := ⟨na.toNat, by omega⟩
  refine lc_each (f := fun i : Nat => D.int (0 + (i : Nat))) (fun i acc => ∃ ys : List Int, acc = (ys.map D.int).map T.fz ∧ ys.Sublist ((iota n).take i)) ⟨[], rfl, List.nil_sublist _⟩ ?_ ?_
  · rintro acc ⟨ys, rfl, hs⟩
    have hs : ys.Sublist (iota n) := hs.trans (List.take_sublist _ _)
    simp
    rw [← List.map_map, s_ersF, cut_map, cut_hi (by omega)]
    have ht : (ys.take total.toNat).Sublist (iota n) := (List.take_sublist _ _).trans hs
    cases hz : ys.take total.toNat with
    | nil =>
      simp [D.tru]
      refine do_take (by omega) (by omega) fun d _ _ => ?_
      exact fin pa n [d] pa1 pa8 na1 na8 (by simp) (by simp) (by simpa using ⟨by omega, by omega⟩) (by simpa using t1)
    | cons y zs =>
      rw [← hz]
      have hl := List.length_take_le total.toNat ys
      have he : (List.map D.int (List.take total.toNat ys)).isEmpty = false := by rw [hz]; rfl
      simp only [s_er, s_erL, s_ersF, D.tru, he, Bool.not_false, kI_t]
      exact fin pa n (ys.take total.toNat) pa1 pa8 na1 na8 (by rw [hz]; simp) (iota_pw.sublist ht) (fun x hx => mem_iota.mp (ht.subset hx)) (by omega)
  · rintro rest i x acc hx ⟨ys, rfl, hs⟩ kk
    have hi : i < n := by simpa using (List.getElem?_eq_some_iff.mp hx).1
    rw [List.getElem?_range (by simpa using hi)] at hx
    cases hx
    refine ⟨[(7, .int (0 + (i : Nat)))], rfl, ?_⟩
    have hii : (iota n)[i]? = some (i : Int) := by
      unfold iota
      rw [List.getElem?_map, List.getElem?_range hi]
      rfl
    simp
    refine do_take (by omega) (by omega) fun d _ _ => ?_
    simp
    by_cases c : 0 < d
    · have hl := hs.length_le
      rw [List.length_take] at hl
      simp [c]
      refine ⟨by omega, kk _ ⟨ys ++ [(i : Int)], by simp, ?_⟩⟩
      rw [take_succ' hii]
      exact hs.append (List.Sublist.refl _)
    · simp [c]
      refine kk _ ⟨ys, by simp, ?_⟩
      rw [take_succ' hii]
      exact hs.trans (List.sublist_append_left _ _)
end K78

set_option Elab.async false
set_option linter.all false
set_option maxRecDepth 100000
set_option maxHeartbeats 4000000
namespace K78
open PySem PySem.Spec PyProof.Rows L2 AL
def b20 : Int := 100000000000000000000
@[simp] theorem f20 {AQ : TQ} : fPow (.int 10) (.int 20) AQ = AQ (.fz (.int b20)) := by
  rw [s_pow]
  exact propext ⟨fun h => h.2, fun h => ⟨⟨by decide, by decide +kernel⟩, h⟩⟩
theorem fbig : ∃ b : Int, 8 ≤ b ∧ ∀ (e : En) (AQ : TQ) (AX : XQ), AQ (.fz (.int b)) → (r2 fPow (r2 fPow (rD (.int 10)) (rD (.int 57))) (rD (.int 7))) e AQ AX := by
  refine ⟨(10 ^ 57) ^ 7, by decide +kernel, fun e AQ AX h => ?_⟩
  show fPow (.int 10) (.int 57) (fun t => fPow t.er (.int 7) AQ)
  rw [s_pow, s_er, s_pow]
  exact ⟨⟨by decide, by decide +kernel⟩, ⟨by decide, by decide +kernel⟩, h⟩
theorem pure__law_made : ∀ ds AQ AX, r__law_made ds AQ AX → a__law_made (aEnds AQ AX) (ent 2 ds) := by
  intro ds AQ AX h
  obtain ⟨_, rfl, r, l, e, rfl, g, q⟩ := fs1_el h
  show a__law_made (aEnds AQ AX) [some (.fz (shp r l e)), none]
  simp [a__law_made, shp, dII]
  have := g.r8
  refine lc_map tI (by omega) (fun x _ => ⟨[(1, dI x)], rfl, fun BQ h => h, fun TQ' h => by simpa using h⟩) ?_
  rw [tII_map, tII_er]
  exact in3 ⟨r, l, e, rfl, rfl, rfl, g, q⟩
theorem flatN_ints {n : Nat} : ∀ {xs : List Int}, D.flatNs (xs.map D.int) n = true
  | [] => rfl
  | x :: xs => by
    rw [List.map_cons]
    unfold D.flatNs
    rw [flatN_ints]
    cases n <;> rfl
theorem flat_dI {n : Nat} {xs : List Int} (h : xs.length < 1000000) : D.flatN (dI xs) (n + 1) = true := by
  show D.flatN (.lst (xs.map D.int)) (n + 1) = true
  unfold D.flatN
  rw [flatN_ints]
  simpa using h
theorem flatNs_of {n : Nat} : ∀ {ds : List D}, (∀ d ∈ ds, D.flatN d n = true) → D.flatNs ds n = true
  | [], _ => rfl
  | d :: ds, h => by
    unfold D.flatNs
    rw [h d (List.mem_cons_self ..), flatNs_of fun x hx => h x (List.mem_cons_of_mem _ hx)]
    rfl
theorem flat_dII {n : Nat} {xs : List (List Int)} (h : xs.length < 1000000) (h2 : ∀ x ∈ xs, x.length < 1000000) : D.flatN (dII xs) (n + 2) = true := by
  show D.flatN (.lst (xs.map dI)) (n + 2) = true
  unfold D.flatN
  rw [flatNs_of fun d hd => by
    obtain ⟨x, hx, rfl⟩ := List.mem_map.mp hd
    exact flat_dI (h2 x hx)]
  simpa using h
theorem flat_lst {n : Nat} {ds : List D} (h : ds.length < 1000000) (h2 : ∀ d ∈ ds, D.flatN d n = true) : D.flatN (.lst ds) (n + 1) = true := by
  unfold D.flatN
  rw [flatNs_of h2]
  simpa using h
theorem flat_tup {n : Nat} {ds : List D} (h : ds.length < 1000000) (h2 : ∀ d ∈ ds, D.flatN d n = true) : D.flatN (.tup ds) (n + 1) = true := by
  unfold D.flatN
  rw [flatNs_of h2]
  simpa using h
theorem pure__law_kept : ∀ ds AQ AX, r__law_kept ds AQ AX → a__law_kept (aEnds AQ AX) (ent 2 ds) := by
  intro ds AQ AX h
  obtain ⟨_, _, rfl, r, l, e, rfl, rfl, h1, h2, h3, h4, q⟩ := fs2_el h
  show a__law_kept (aEnds AQ AX) [some (.fz (mD r l e)), some (.fz (shp r l e))]
  have hr : r.length ≤ 1000 := by omega
  simp [a__law_kept, shp, u_ranks hr]
  show rn__law_same 5 _ _ _
  refine in2 ⟨rfl, flat_lst (by simp) ?_, q⟩
  intro d hd
  simp only [List.mem_cons, List.not_mem_nil, or_false] at hd
  rcases hd with rfl | rfl | rfl
  · exact flat_dII (by omega) fun x hx => by have := h4 x hx; omega
  · exact flat_dI (by omega)
  · exact flat_dI (by omega)
theorem pure__law_ended : ∀ ds AQ AX, r__law_ended ds AQ AX → a__law_ended (aEnds AQ AX) (ent 2 ds) := by
  intro ds AQ AX h
  obtain ⟨_, rfl, r, l, e, rfl, g, q⟩ := fs1_el h
  show a__law_ended (aEnds AQ AX) [some (.fz (shp r l e)), none]
  have := g.r8
  have := g.b8
  have := g.ll
  simp [a__law_ended, shp, dII, rep0]
  refine lc_map tI (by omega) (fun x _ => ⟨[(1, dI x)], rfl, fun BQ h => h, fun TQ' h => by simpa using h⟩) ?_
  rw [tII_map, tII_er]
  have z : ∀ n : Nat, T.ers (List.map (T.fz ∘ D.int) (nul n)) = (nul n).map D.int := fun n => by rw [← List.map_map, s_ersF]
  refine ⟨⟨by omega, by omega⟩, ⟨by omega, by omega⟩, in3 ⟨r, nul l.length, nul e.length, rfl, rfl, rfl, ?_, q⟩⟩
  exact ⟨g.r1, g.r8, by rw [nul_len]; exact g.b1, by rw [nul_len]; exact g.b8, by rw [nul_len]; exact g.ll, fun row h => by rw [nul_len]; exact g.rl row h, g.rr, fun x hx => by rw [nul_mem hx]; decide, fun x hx => by rw [nul_mem hx]; decide, by rw [nul_sum, nul_sum]⟩
theorem pure__law_odd : ∀ ds AQ AX, r__law_odd ds AQ AX → a__law_odd (aEnds AQ AX) (ent 2 ds) := by
  intro ds AQ AX h
  obtain ⟨_, _, rfl, rfl, m, rfl, m1, m8, q⟩ := fs2_el h
  show a__law_odd (aEnds AQ AX) [some (.fz .sto), some (.fz (.int m))]
  obtain ⟨bg, h3, hf⟩ := fbig
  unfold a__law_odd
  have hC : ∀ (e : En) (AQ : TQ) (AX : XQ), AQ (.fz (.int (-b20))) → (r1 fNeg (r2 fPow (rD (.int 10)) (rD (.int 20)))) e AQ AX := fun e AQ AX h => by
    show fPow (.int 10) (.int 20) (fun t => fNeg t.er AQ)
    rw [f20]
    exact h
  generalize (r2 fPow (r2 fPow (rD (.int 10)) (rD (.int 57))) (rD (.int 7))) = B at hf ⊢
  generalize (r1 fNeg (r2 fPow (rD (.int 10)) (rD (.int 20)))) = C at hC ⊢
  simp only [s_seq, s_ret, s_rCall, s_rCons, s_rNil, s_rLst, s_r1, s_r2, s_rV, s_rD, s_envF, oF_fz, s_envF0, s_er, s_ers, s_ers0, List.getElem?_cons_succ, List.getElem?_cons_zero, s_add, s_neg, s_sub]
  refine do_take (by omega) (by omega) fun d _ _ => ?_
  simp only [s_er, s_add]
  refine hC _ _ _ (hf _ _ _ ⟨(by decide : 6 ≤ 16777216), ?_⟩)
  refine in2 ⟨rfl, [.int m, .int (-1), .int (m + 1 + d), .int (-m - 1), .int (-b20), .int bg], rfl, List.cons_ne_nil _ _, (by decide : 6 < 1000000), fun x hx => ?_⟩
  simp only [List.mem_cons, List.not_mem_nil, or_false] at hx
  rcases hx with rfl | rfl | rfl | rfl | rfl | rfl
  · exact q _ (.inr (by omega))
  · exact q _ (.inl (by omega))
  · exact q _ (.inr (by omega))
  · exact q _ (.inl (by omega))
  · exact q _ (.inl (by unfold b20; omega))
  · exact q _ (.inr (by omega))
theorem bad_at {al : List Int} {x : Int} {post : List Int} : ∀ {pre : List Int} {p : Option Int} {k : Nat}, badFrom al p pre k = none → (x ∉ al ∨ ∃ y, (pre.getLast?).or p = some y ∧ x ≤ y) → badFrom al p (pre ++ x :: post) k = some (k + pre.length)
  | [], p, k, _, h => by
    rw [List.nil_append, badFrom_cons, if_pos]
    · rfl
    rcases h with h | ⟨y, h1, h2⟩
    · simp [h]
    · have h1 : p = some y := by simpa using h1
      subst h1
      simp [late, h2]
  | m :: pre, p, k, hn, h => by
    rw [badFrom_cons] at hn
    rw [List.cons_append, badFrom_cons]
    by_cases c : (!al.contains m || late m p) = true
    · rw [if_pos c] at hn
      cases hn
    · rw [if_neg c] at hn ⊢
      rw [bad_at hn ?_, List.length_cons]
      · congr 1
        omega
      rcases h with h | ⟨y, h1, h2⟩
      · exact .inl h
      · refine .inr ⟨y, ?_, h2⟩
        cases pre with
        | nil => simpa using h1
        | cons a b =>
          rw [List.getLast?_cons_cons] at h1
          cases hq : (a :: b).getLast? with
          | none => simp at hq
          | some z =>
            rw [hq] at h1
            simpa using h1
@[simp] theorem sl_dI {xs : List Int} {f : List D → Prop} : onL (dI xs) f = f (xs.map D.int) := rfl
@[simp] theorem ers_app : ∀ {xs ys : List T}, T.ers (xs ++ ys) = T.ers xs ++ T.ers ys := by
  intro xs ys
  rw [T.ers_map, T.ers_map, T.ers_map, List.map_append]
@[simp] theorem ers_take {xs : List T} {k : Nat} : T.ers (xs.take k) = (T.ers xs).take k := by
  rw [T.ers_map, T.ers_map, List.map_take]
@[simp] theorem ers_drop {xs : List T} {k : Nat} : T.ers (xs.drop k) = (T.ers xs).drop k := by
  rw [T.ers_map, T.ers_map, List.map_drop]
@[simp] theorem ers_fzc {α : Type} {f : α → D} {xs : List α} : T.ers (xs.map (T.fz ∘ f)) = xs.map f := by
  rw [T.ers_map, List.map_map]
  rfl
@[simp] theorem ers_len {xs : List T} : (T.ers xs).length = xs.length := by
  rw [T.ers_map, List.length_map]
theorem bad_pre {al ms : List Int} (h : badSet ms al = none) {xs : List Int} (hs : xs.Sublist ms) : badFrom al none xs 0 = none := by
  obtain ⟨h1, h2, _⟩ := badFrom_none h
  exact badFrom_of (fun x hx => h1 x (hs.subset hx)) (h2.sublist hs) fun q e => nomatch e
theorem pure__law_bent_set : ∀ ds AQ AX, r__law_bent_set ds AQ AX → a__law_bent_set (aEnds AQ AX) (ent 7 ds) := by
  intro ds AQ AX h
  obtain ⟨_, _, _, rfl, rfl, ms, row, rfl, rfl, h8, m8, hr, hb, q⟩ := fs3_el h
  show a__law_bent_set (aEnds AQ AX) [some (.fz .sto), some (.fz (dI ms)), some (.fz (dI row)), none, none, none, none]
  obtain ⟨_, hpw, _⟩ := badFrom_none hb
  -- a strange one
  have fin : ∀ (at_ kd : Int), 0 ≤ at_ → at_ ≤ ms.length → ((aSeq (aSetZ 5 (r2 fAdd (rLc (rIN gR1 (rCons (rD (.int 9)) rNil)) (.nm 6) (rTB (r2 (fIn true) (rV 6) (rV 2))) (rV 6) [6]) (rLst (rCons (r1 fNeg (rD (.int 1))) (rCons (r1 fNeg (rD (.int 2))) (rCons (r1 fNeg (r2 fPow (rD (.int 10)) (rD (.int 20)))) (rCons (r2 fPow (rD (.int 10)) (rD (.int 20))) rNil))))))) (aSeq (aRet (rTupD (rCons (r2 fAdd (r2 fAdd (rSl (rV 1) rPn (rPs (rV 3))) (rLst (rCons (rCall r__law_pick [] (rCons (rV 0) (rCons (rV 5) rNil))) rNil))) (rSl (rV 1) (rPs (rV 3)) rPn)) (rCons (rV 3) rNil)))) aNext))) (aEnds AQ AX) [some (.fz .sto), some (.fz (dI ms)), some (.fz (dI row)), some (.fz (.int at_)), some (.fz (.int kd)), none, none] := by
    intro at_ kd a0 a1
    simp only [s_seq]
    simp
    rw [rngD_map]
    refine lc_det (f := fun i : Nat => D.int (0 + (i : Nat))) (fun i : Nat => !row.contains (i : Int)) (fun i : Nat => .fz (.int i)) (by simp) (fun i _ => ⟨[(6, .int (0 + (i : Nat)))], rfl, fun BQ h => by simpa using h, fun _ TQ' h => by simpa using h⟩) ?_
    rw [tI_map']
    generalize hz : ((List.range 9).filter fun i : Nat => !row.contains (i : Int)).map (fun i : Nat => (i : Int)) = zs
    have hz1 : ∀ z ∈ zs, z ∉ row := fun z hz2 => by
      rw [← hz] at hz2
      obtain ⟨i, hi, rfl⟩ := List.mem_map.mp hz2
      simpa using (List.mem_filter.mp hi).2
    have hz2 : zs.length ≤ 9 := by
      rw [← hz, List.length_map]
      exact Nat.le_trans (List.length_filter_le _ _) (by simp)
    have e4 : D.lst [D.int (-1), D.int (-2), D.int (-b20), D.int b20] = dI [-1, -2, -b20, b20] := rfl
    simp only [s_er, tI_er, e4, s_cat_ints]
    simp
    refine ⟨by omega, in2 ⟨rfl, _, rfl, by simp, by simp; omega, fun d hd => ?_⟩⟩
    obtain ⟨z, hzm, rfl⟩ := List.mem_map.mp hd
    have hnot : z ∉ row := by
      rcases List.mem_append.mp hzm with h | h
      · exact hz1 z h
      · intro hc
        have := hr z hc
        simp only [List.mem_cons, List.not_mem_nil, or_false, b20] at h
        omega
    simp [cut_hi a0, cut_lo a0]
    refine ⟨by omega, by omega, ?_⟩
    have e6 : ((at_.toNat : Nat) : Int) = at_ := by omega
    have hq := q (ms.take at_.toNat ++ z :: ms.drop at_.toNat) at_.toNat (by simp; omega) (by
      have := bad_at (al := row) (x := z) (post := ms.drop at_.toNat) (bad_pre hb (List.take_sublist at_.toNat ms)) (.inl hnot)
      rw [List.length_take, Nat.zero_add, Nat.min_eq_left (by omega)] at this
      exact this)
    rw [e6] at hq
    simpa [tI] using hq
  unfold a__law_bent_set
  generalize ((aSeq (aSetZ 5 (r2 fAdd (rLc (rIN gR1 (rCons (rD (.int 9)) rNil)) (.nm 6) (rTB (r2 (fIn true) (rV 6) (rV 2))) (rV 6) [6]) (rLst (rCons (r1 fNeg (rD (.int 1))) (rCons (r1 fNeg (rD (.int 2))) (rCons (r1 fNeg (r2 fPow (rD (.int 10)) (rD (.int 20)))) (rCons (r2 fPow (rD (.int 10)) (rD (.int 20))) rNil))))))) (aSeq (aRet (rTupD (rCons (r2 fAdd (r2 fAdd (rSl (rV 1) rPn (rPs (rV 3))) (rLst (rCons (rCall r__law_pick [] (rCons (rV 0) (rCons (rV 5) rNil))) rNil))) (rSl (rV 1) (rPs (rV 3)) rPn)) (rCons (rV 3) rNil)))) aNext))) = R at fin ⊢
  simp only [s_seq]
  simp
  refine do_take (by omega) (by omega) fun at_ a0 a1 => ?_
  refine do_take (by omega) (by omega) fun kd _ _ => ?_
  have a2 : at_ ≤ ms.length := by omega
  have e6 : ((at_.toNat : Nat) : Int) = at_ := by omega
  simp
  by_cases c : kd = 0
  · subst c
    by_cases c1 : at_ < ms.length
    · simp [c1, cut_hi (show 0 ≤ at_ + 1 by omega), cut_lo a0]
      obtain ⟨i, rfl⟩ : ∃ i : Nat, at_ = i := ⟨at_.toNat, by omega⟩
      have e1 : ((i : Int) + 1).toNat = i + 1 := by omega
      have hi : i < ms.length := by omega
      have hx : ms[i]? = some ms[i] := List.getElem?_eq_getElem hi
      refine ⟨by omega, ?_⟩
      have hq := q (ms.take (i + 1) ++ ms.drop i) (i + 1) (by simp; omega) (by
        have := bad_at (al := row) (x := ms[i]) (post := ms.drop (i + 1)) (bad_pre hb (List.take_sublist (i + 1) ms)) (.inr ⟨ms[i], by rw [take_succ' hx, List.getLast?_concat]; rfl, by omega⟩)
        rw [List.length_take, Nat.zero_add, Nat.min_eq_left (by omega), ← List.drop_eq_getElem_cons hi] at this
        exact this)
      rw [e1]
      simpa [tI] using hq
    · simp [c1]
      exact fin at_ 0 a0 a2
  by_cases c2 : kd = 1
  · subst c2
    by_cases c1 : at_ + 1 < ms.length
    · simp [c1, cut_hi a0, cut_lo (show 0 ≤ at_ + 2 by omega)]
      obtain ⟨i, rfl⟩ : ∃ i : Nat, at_ = i := ⟨at_.toNat, by omega⟩
      have e1 : ((i : Int) + 2).toNat = i + 2 := by omega
      have hi : i < ms.length := by omega
      have hi1 : i + 1 < ms.length := by omega
      have hx : ms[i]? = some ms[i] := List.getElem?_eq_getElem hi
      have hx1 : ms[i + 1]? = some ms[i + 1] := List.getElem?_eq_getElem hi1
      rw [ix_gt (by omega) (by omega), ix_gt (by omega) (by omega)]
      refine ⟨by omega, by omega, ?_⟩
      have sub : (ms.take i ++ [ms[i + 1]]).Sublist ms := by
        have e : ms = ms.take i ++ ms[i] :: ms[i + 1] :: ms.drop (i + 2) := by
          rw [← List.drop_eq_getElem_cons hi1, ← List.drop_eq_getElem_cons hi, List.take_append_drop]
        have e2 : (ms.take i ++ ms[i] :: ms[i + 1] :: ms.drop (i + 2)).Sublist ms := by rw [← e]; exact List.Sublist.refl _
        refine List.Sublist.trans ?_ e2
        exact (List.Sublist.refl _).append (List.Sublist.cons _ (List.Sublist.cons_cons _ (List.nil_sublist _)))
      have hlt := List.pairwise_iff_getElem.mp hpw i (i + 1) hi hi1 (by omega)
      have hq := q (ms.take i ++ ms[i + 1] :: ms[i] :: ms.drop (i + 2)) (i + 1) (by simp; omega) (by
        have := bad_at (al := row) (x := ms[i]) (post := ms.drop (i + 2)) (bad_pre hb sub) (.inr ⟨ms[i + 1], by simp, by omega⟩)
        rw [List.append_assoc] at this
        rw [List.length_append, List.length_take, Nat.zero_add, Nat.min_eq_left (by omega)] at this
        exact this)
      have g1 : gt ms (i : Nat) = ms[i] := gt_nat hx
      have g2 : gt ms ((i : Nat) + 1) = ms[i + 1] := gt_nat (i := i + 1) hx1
      rw [e1, g1, g2]
      simpa [tI] using hq
    · simp [c1]
      exact fin at_ 1 a0 a2
  · simp [c, c2]
    exact fin at_ kd a0 a2
end K78

set_option Elab.async false
set_option linter.all false
set_option maxRecDepth 100000
set_option maxHeartbeats 4000000
namespace K78
open PySem PySem.Spec PyProof.Rows L2 AL
theorem xn1 : ("Over" : Str) ∈ xns := by decide +kernel
theorem xn2 : ("BadSet" : Str) ∈ xns := by decide +kernel
theorem xn3 : ("BadStrike" : Str) ∈ xns := by decide +kernel
theorem xe12 : (("Over" : Str) == "BadSet") = false := by decide +kernel
theorem xe13 : (("Over" : Str) == "BadStrike") = false := by decide +kernel
theorem xe21 : (("BadSet" : Str) == "Over") = false := by decide +kernel
theorem xe23 : (("BadSet" : Str) == "BadStrike") = false := by decide +kernel
theorem xe31 : (("BadStrike" : Str) == "Over") = false := by decide +kernel
theorem xe32 : (("BadStrike" : Str) == "BadSet") = false := by decide +kernel
theorem xe11 : (("Over" : Str) == "Over") = true := by decide +kernel
theorem xe22 : (("BadSet" : Str) == "BadSet") = true := by decide +kernel
theorem xe33 : (("BadStrike" : Str) == "BadStrike") = true := by decide +kernel
theorem xt1 : ¬ ("Over" : Str) ∈ xtup := by decide +kernel
theorem xt2 : ¬ ("BadSet" : Str) ∈ xtup := by decide +kernel
theorem xt3 : ¬ ("BadStrike" : Str) ∈ xtup := by decide +kernel
theorem xlk {v : V} : List.lookup ("at" : Str) [(("at" : Str), v)] = some v := by
  rw [List.lookup_cons]
  rw [show (("at" : Str) == "at") = true by decide +kernel]
theorem exI {p : Addr} {d : Option Addr} {fs : List (Str × V)} {P : Prop} (h : P) : (∃ fs', D.exn p d fs = .exn p d fs') ∧ P := ⟨⟨fs, rfl⟩, h⟩
@[simp] theorem exq {p : Addr} {d : Option Addr} {fs : List (Str × V)} : (∃ fs', D.exn p d fs = .exn p d fs') = True := eq_true ⟨fs, rfl⟩
theorem pure__law_refused : ∀ p nm d fs AQ, r__law_refused ⟨nm, fs⟩ AQ → (fs = [] ∨ d ≠ none) → a__law_refused p nm d (aEnds AQ fun _ => False) (ent 2 [.exn p d fs]) := by
  intro p nm d fs AQ h hd
  show a__law_refused p nm d (aEnds AQ fun _ => False) [some (.fz (.exn p d fs)), none]
  have ap : ∀ {A : AEnds} {ρ : AS} {r : RE}, ρ[1]? = some (some (.lst [])) → r (envB ρ) (fun t => t.pure = true ∧ A.nx (ρ.set 1 (some (.lst [t])))) (fun x => A.ex x ρ) → aApp 1 r A ρ := fun {A ρ r} h q => by
    rw [s_app, h]
    exact ⟨by decide, q⟩
  rcases h with ⟨e, q⟩ | ⟨k, e, q⟩ | ⟨k, e, q⟩
  · obtain ⟨rfl, rfl⟩ : nm = "Over" ∧ fs = [] := by simpa [xOver] using e
    simp only [a__law_refused, s_seq, s_if]
    simp [xn1, xe11, xe12, xe13, xt1]
    refine ap rfl ?_
    simp [xn1, xe11, xe12, xe13, xt1]
    exact q
  · obtain ⟨rfl, rfl⟩ : nm = "BadSet" ∧ fs = [(("at" : Str), V.int k)] := by simpa [xAt] using e
    have hd2 : d ≠ none := by simpa using hd
    simp only [a__law_refused, s_seq, s_if]
    simp [xn2, xe21, xe22, xe23, xt2]
    refine ap rfl ?_
    simp [xn2, xe21, xe22, xe23, xt2]
    exact ⟨hd2, q⟩
  · obtain ⟨rfl, rfl⟩ : nm = "BadStrike" ∧ fs = [(("at" : Str), V.int k)] := by simpa [xAt] using e
    have hd2 : d ≠ none := by simpa using hd
    simp only [a__law_refused, s_seq, s_if]
    simp [xn3, xe31, xe32, xe33, xt3]
    refine ap rfl ?_
    simp [xn3, xe31, xe32, xe33, xt3]
    exact ⟨hd2, q⟩
theorem pure__law_own : ∀ ds AQ AX, r__law_own ds AQ AX → a__law_own (aEnds AQ AX) (ent 4 ds) := by
  intro ds AQ AX h
  obtain ⟨_, _, rfl, ws, band, rfl, rfl, hne, hz, q⟩ := fs2_el h
  show a__law_own (aEnds AQ AX) [some (.fz (dP ws)), some (.fz (dI band)), none, none]
  simp only [a__law_own, s_seq]
  simp [dP]
  refine lc_det (f := dPc) (fun w => band.contains w.1) (fun w => .fz (.int w.2)) (by omega) (fun w _ => ⟨[(3, dPc w)], rfl, fun BQ h => ?_, fun _ TQ' h => ?_⟩) ?_
  · simpa [dPc] using h
  · simpa [dPc] using h
  · have e : T.ers ((ws.filter fun w => band.contains w.1).map fun w => T.fz (.int w.2)) = ((ws.filter fun w => band.contains w.1).map (·.2)).map D.int := ers_fint
    simp only [s_erL, e]
    rw [show (D.lst ((((ws.filter fun w => band.contains w.1).map (·.2)).map D.int))) = dI ((ws.filter fun w => band.contains w.1).map (·.2)) from rfl]
    simp
    rw [show D.lst (ws.map dPc) = dP ws from rfl]
    cases hlast : ws.getLast? with
    | none => exact absurd (by simpa using hlast) hne
    | some p =>
      unfold ownOf at q
      rw [hlast] at q
      dsimp only at q
      simp [ix_lastP hlast, dPc]
      by_cases c : p.1 ∈ band
      · simp [c] at q ⊢
        exact q
      · simp [c] at q ⊢
        exact q
theorem asc_of {xs : List Int} (h : xs.Pairwise (· ≤ ·)) (n : xs.Nodup) : xs.Pairwise (· < ·) := (h.and n).imp fun h => by omega
theorem pure__law_near : ∀ ds AQ AX, r__law_near ds AQ AX → a__law_near (aEnds AQ AX) (ent 7 ds) := by
  intro ds AQ AX h
  obtain ⟨_, _, _, _, rfl, rfl, l, ws, over, rfl, rfl, rfl, h8, hne, hz, q⟩ := fs4_el h
  show a__law_near (aEnds AQ AX) [some (.fz .sto), some (.fz (dI l)), some (.fz (dP ws)), some (.fz (.int over)), none, none, none]
  simp only [a__law_near, s_seq]
  simp [s_for]
  refine ⟨RgOk.of_le (by omega) (by omega) (by omega) (by omega), ?_⟩
  have e0 : D.lst (rgI 0 l.length |>.map D.int) = dI (iota l.length) := by simp [rgI, iota, dI]
  refine in2 ⟨rfl, iota l.length, e0, by simp [iota]; omega, fun ys hp => ?_⟩
  have nd : ys.Nodup := hp.nodup_iff.mpr iota_nodup
  simp
  refine for_map (f := D.int) (fun i ρ => ∃ (fd : List Int) (o1 o2 : Option T), ρ = [some (.fz .sto), some (.fz (dI l)), some (.fz (dP ws)), some (.fz (.int over)), some (.fz (dI fd)), o1, o2] ∧ fd.Pairwise (· < ·) ∧ (∀ x ∈ fd, x ∈ ys.take i) ∧ fd.length ≤ i) ⟨[], _, _, rfl, .nil, fun _ h => (nomatch h), by simp⟩ ?_ ?_
  · rintro ρ ⟨fd, o1, o2, rfl, h1, h2, _⟩
    simp
    refine q fd (badFrom_of (fun x hx => hp.mem_iff.mp ?_) h1 fun q e => nomatch e)
    have := h2 x hx
    rwa [List.take_length] at this
  · rintro rest i x ρ hi ⟨fd, o1, o2, rfl, h1, h2, h3⟩ kk
    have hil : i < ys.length := (List.getElem?_eq_some_iff.mp hi).1
    have hyl : ys.length = l.length := by rw [hp.length_eq]; simp [iota]
    have hnot : x ∉ ys.take i := fun z => by
      obtain ⟨j, hj⟩ := List.getElem?_of_mem z
      have hj2 : j < (ys.take i).length := (List.getElem?_eq_some_iff.mp hj).1
      rw [List.length_take] at hj2
      rw [List.getElem?_take_of_lt (by omega)] at hj
      have h1 := (List.getElem?_eq_some_iff.mp hj).2
      have h2 := (List.getElem?_eq_some_iff.mp hi).2
      exact List.pairwise_iff_getElem.mp nd j i (by omega) hil (by omega) (h1.trans h2.symm)
    refine ⟨[(5, .int x)], rfl, ?_⟩
    simp only [s_seq]
    have e1 : D.lst [D.int x] = dI [x] := rfl
    simp [e1]
    refine ⟨by omega, fun zs hzp hzs => ?_⟩
    have znd : zs.Nodup := hzp.nodup_iff.mpr (by
      refine List.nodup_append.mpr ⟨h1.imp fun h => by omega, by simp, fun a ha b hb => ?_⟩
      have : b = x := by simpa using hb
      subst this
      intro e
      subst e
      exact hnot (h2 a ha))
    have zl : zs.length = fd.length + 1 := by rw [hzp.length_eq]; simp
    simp
    refine in2 ⟨ws, zs, rfl, rfl, hne, hz, ?_⟩
    refine do_take (by omega) (by omega) fun d1 _ _ => ?_
    simp only [s_er, s_add, s_sub]
    refine do_take (by omega) (by omega) fun d2 _ _ => ?_
    simp
    by_cases c : ownOf ws zs ≤ over + d1 - 1 + d2
    · simp [c]
      refine kk _ ⟨zs, _, _, rfl, asc_of hzs znd, fun y hy => ?_, by omega⟩
      rw [take_succ' hi]
      rcases List.mem_append.mp (hzp.mem_iff.mp hy) with h | h
      · exact List.mem_append_left _ (h2 y h)
      · exact List.mem_append_right _ h
    · simp [c]
      refine kk _ ⟨fd, _, _, rfl, h1, fun y hy => ?_, by omega⟩
      rw [take_succ' hi]
      exact List.mem_append_left _ (h2 y hy)
theorem pure__law_guard_due : ∀ ds AQ AX, r__law_guard_due ds AQ AX → a__law_guard_due (aEnds AQ AX) (ent 5 ds) := by
  intro ds AQ AX h
  obtain ⟨_, _, rfl, e, ns, rfl, rfl, h8, hs, q⟩ := fs2_el h
  show a__law_guard_due (aEnds AQ AX) [some (.fz (dI e)), some (.fz (dI ns)), none, none, none]
  simp only [a__law_guard_due, s_seq]
  simp
  refine in1 ⟨e, rfl, h8, ?_⟩
  simp
  have hl := stand_len (e := e)
  refine lc_det (f := D.int) (fun x => !ns.contains x) (fun x => .fz (.int x)) (by omega) (fun x _ => ⟨[(4, .int x)], rfl, fun BQ h => by simpa using h, fun _ TQ' h => by simpa using h⟩) ?_
  rw [tI_map, tI_er]
  refine neE ?_
  unfold guard outs at q
  cases ho : (stand e).filter fun x => !ns.contains x with
  | nil =>
    rw [ho] at q
    obtain ⟨y, ys, hy⟩ := List.exists_cons_of_ne_nil hs
    rw [hy] at q
    simp
    rw [ix0 hy]
    exact q
  | cons x xs =>
    rw [ho] at q
    simp [ix0 rfl]
    exact q
end K78

set_option Elab.async false
set_option linter.all false
set_option maxRecDepth 100000
set_option maxHeartbeats 4000000
namespace K78
open PySem PySem.Spec PyProof.Rows L2 AL
theorem pure__law_guard : ∀ ds AQ AX, r__law_guard ds AQ AX → a__law_guard (aEnds AQ AX) (ent 5 ds) := by
  intro ds AQ AX h
  obtain ⟨_, _, rfl, r, l, e, ns, rfl, rfl, g, hz, q1, q2, q3⟩ := fs2_el h
  show a__law_guard (aEnds AQ AX) [some (.fz (mD r l e)), some (.fz (dI ns)), none, none, none]
  have fin : ∀ d : D, AQ (.fz d) → ((aSeq (aIf (rNotT (rTB (rCall r__law_same [] (rCons (rV 2) (rCons (rV 1) rNil))))) (aSeq (aRet (rTupD (rCons (rD (.str "changed")) rNil))) aNext) aNext) (aSeq (aRet (rV 3)) aNext))) (aEnds AQ AX) [some (.fz (mD r l e)), some (.fz (dI ns)), some (.fz (dI ns)), some (.fz d), none] := by
    intro d hd
    simp only [s_seq]
    simp
    show rn__law_same 5 _ _ _
    refine in2 ⟨rfl, flat_dI (by omega), ?_⟩
    simp
    exact hd
  unfold a__law_guard
  generalize ((aSeq (aIf (rNotT (rTB (rCall r__law_same [] (rCons (rV 2) (rCons (rV 1) rNil))))) (aSeq (aRet (rTupD (rCons (rD (.str "changed")) rNil))) aNext) aNext) (aSeq (aRet (rV 3)) aNext))) = R at fin ⊢
  simp only [s_seq]
  simp
  refine in2 ⟨r, l, e, ns, rfl, rfl, g, fun c => ?_, fun c k hk => ?_, fun c hb => ?_⟩
  · refine ⟨xn1, fun d hd => ⟨hd, ?_⟩⟩
    refine .inl ⟨rfl, ?_⟩
    simp
    exact fin _ (q1 c)
  · refine ⟨xn2, fun d hd => ⟨hd, ?_⟩⟩
    refine .inr (.inl ⟨k, rfl, ?_⟩)
    simp
    exact fin _ (q2 c k hk)
  · simp
    exact fin _ (q3 c hb)
theorem flat_dSk {n : Nat} {s : Sk} : D.flatN (dSk s) (n + 1) = true := flat_tup (by simp) fun d hd => by
  simp only [List.mem_cons, List.not_mem_nil, or_false] at hd
  rcases hd with rfl | rfl | rfl <;> cases n <;> rfl
theorem flat_dS {n : Nat} {ss : List Sk} (h : ss.length < 1000000) : D.flatN (dS ss) (n + 2) = true := flat_lst (by simpa using h) fun d hd => by
  obtain ⟨s, _, rfl⟩ := List.mem_map.mp hd
  exact flat_dSk
theorem dS_list {ss : List Sk} {AQ : TQ} : fList [dS ss] AQ = AQ (.lst ((ss.map dSk).map .fz)) := rfl
theorem dS_er {ss : List Sk} : (T.lst ((ss.map dSk).map .fz)).er = dS ss := by rw [s_erL, s_ersF]; rfl
theorem pure__law_behind : ∀ ds AQ AX, r__law_behind ds AQ AX → a__law_behind (aEnds AQ AX) (ent 6 ds) := by
  intro ds AQ AX h
  obtain ⟨_, _, rfl, r, l, e, ss, rfl, rfl, g, hz, q1, q2⟩ := fs2_el h
  show a__law_behind (aEnds AQ AX) [some (.fz (mD r l e)), some (.fz (dS ss)), none, none, none, none]
  have fin : ∀ (d : D) (o : Option T), AQ (.fz d) → ((aSeq (aIf (rNotT (rTB (rCall r__law_same [] (rCons (rV 2) (rCons (rV 1) rNil))))) (aSeq (aRet (rTupD (rCons (rD (.str "changed")) rNil))) aNext) aNext) (aSeq (aRet (rV 4)) aNext))) (aEnds AQ AX) [some (.fz (mD r l e)), some (.fz (dS ss)), some (.fz (dS ss)), o, some (.fz d), none] := by
    intro d o hd
    simp only [s_seq]
    simp
    show rn__law_same 5 _ _ _
    refine in2 ⟨rfl, flat_dS (by omega), ?_⟩
    simp
    exact hd
  unfold a__law_behind
  generalize ((aSeq (aIf (rNotT (rTB (rCall r__law_same [] (rCons (rV 2) (rCons (rV 1) rNil))))) (aSeq (aRet (rTupD (rCons (rD (.str "changed")) rNil))) aNext) aNext) (aSeq (aRet (rV 4)) aNext))) = R at fin ⊢
  simp only [s_seq]
  simp only [s_setZ, s_rN, s_rCons, s_rV, s_envF, oF_fz, s_er, List.getElem?_cons_succ, List.getElem?_cons_zero, s_rNil, s_ers, s_ers0, dS_list, dS_er, List.set_cons_succ, List.set_cons_zero]
  simp
  refine in2 ⟨r, l, e, ss, rfl, rfl, g, hz, fun l' e' hp => ?_, fun k hk => ?_⟩
  · have hr : r.length ≤ 1000 := by have := g.r8; omega
    simp [u_ranks hr]
    exact fin _ _ (q1 l' e' hp)
  · refine ⟨xn3, fun d hd => ⟨hd, ?_⟩⟩
    refine .inr (.inr ⟨k, rfl, ?_⟩)
    simp
    exact fin _ _ (q2 k hk)
end K78

set_option Elab.async false
set_option linter.all false
set_option maxRecDepth 100000
set_option maxHeartbeats 4000000
namespace K78
open PySem PySem.Spec PyProof.Rows L2 AL
/-! sums by places -/
def wsum (f : Nat → Bool) : List Int → Nat → Int
  | [], _ => 0
  | x :: xs, k => (if f k = true then x else 0) + wsum f xs (k + 1)
theorem wsum_set {f : Nat → Bool} : ∀ {xs : List Int} {i k : Nat} {v : Int}, i < xs.length → wsum f (xs.set i v) k = wsum f xs k + if f (k + i) = true then v - xs.getD i 0 else 0
  | [], i, k, v, h => by simp at h
  | x :: xs, 0, k, v, h => by
    simp only [List.set_cons_zero, wsum, Nat.add_zero, List.getD_cons_zero]
    split <;> omega
  | x :: xs, i + 1, k, v, h => by
    have ih := wsum_set (f := f) (xs := xs) (i := i) (k := k + 1) (v := v) (by simpa using h)
    simp only [List.set_cons_succ, wsum, ih, List.getD_cons_succ]
    rw [show k + 1 + i = k + (i + 1) by omega]
    omega
theorem wsum_zip {f : Nat → Bool} : ∀ {xs : List Int} {k : Nat}, (∀ x ∈ xs, 0 ≤ x) → (((xs.zipIdx k).filter fun p => decide (0 < p.1) && f p.2).map fun p => p.1).sum = wsum f xs k
  | [], k, _ => rfl
  | x :: xs, k, h => by
    have ih := wsum_zip (f := f) (xs := xs) (k := k + 1) fun y hy => h y (List.mem_cons_of_mem _ hy)
    have hx := h x (List.mem_cons_self ..)
    rw [List.zipIdx_cons, List.filter_cons]
    unfold wsum
    by_cases c : 0 < x
    · by_cases d : f k = true
      · simp only [c, d, decide_true, Bool.and_true, if_true, List.map_cons, List.sum_cons, ih]
      · have d : f k = false := by simpa using d
        simp only [c, d, decide_true, Bool.true_and, Bool.false_eq_true, if_false, ih]
        omega
    · have e : x = 0 := by omega
      subst e
      simp only [Int.lt_irrefl, decide_false, Bool.false_and, Bool.false_eq_true, if_false, ih]
      split <;> omega
theorem outS_eq {e aim : List Int} (h : ∀ x ∈ e, 0 ≤ x) : outS e aim = wsum (fun i => !aim.contains (i : Int)) e 0 := by
  rw [← wsum_zip h]
  unfold outS outs stand
  rw [List.filter_map, List.map_map, List.filter_filter]
  congr 1
  have e1 : (fun a : Int × Nat => ((fun x => !aim.contains x) ∘ fun p : Int × Nat => (p.2 : Int)) a && decide (0 < a.1)) = fun p : Int × Nat => decide (0 < p.1) && !aim.contains (p.2 : Int) := by
    funext p
    exact Bool.and_comm _ _
  rw [e1]
  refine List.map_congr_left fun p hp => ?_
  have h1 := (List.mem_filter.mp hp).1
  exact gt_nat (List.mem_zipIdx_iff_getElem?.mp h1)
theorem outS_hit {b aim : List Int} {x p : Int} (h : ∀ y ∈ b, 0 ≤ y) (h0 : 0 ≤ x) (h1 : x < b.length) (hp : p ≤ gt b x) : outS (b.set x.toNat (gt b x - p)) aim = outS b aim - if x ∈ aim then 0 else p := by
  have h' : ∀ y ∈ b.set x.toNat (gt b x - p), 0 ≤ y := fun y hy => by
    rcases List.mem_or_eq_of_mem_set hy with z | z
    · exact h y z
    · omega
  rw [outS_eq h, outS_eq h', wsum_set (by omega)]
  have e : ((0 + x.toNat : Nat) : Int) = x := by omega
  simp only [e]
  have g : b.getD x.toNat 0 = gt b x := rfl
  rw [g]
  by_cases c : x ∈ aim
  · simp [c]
  · simp [c]
    omega
theorem sum_ge : ∀ {xs : List Int}, (∀ x ∈ xs, 0 ≤ x) → 0 ≤ xs.sum ∧ ∀ x ∈ xs, x ≤ xs.sum
  | [], _ => ⟨by simp, fun _ h => nomatch h⟩
  | x :: xs, h => by
    obtain ⟨h1, h2⟩ := sum_ge (xs := xs) fun y hy => h y (List.mem_cons_of_mem _ hy)
    have h3 := h x (List.mem_cons_self ..)
    rw [List.sum_cons]
    refine ⟨by omega, fun y hy => ?_⟩
    rcases List.mem_cons.mp hy with rfl | hy
    · omega
    · have := h2 y hy
      omega
theorem outS_ge {b aim : List Int} {x : Int} (h : ∀ y ∈ b, 0 ≤ y) (hx : x ∈ outs b aim) : gt b x ≤ outS b aim := by
  refine (sum_ge fun y hy => ?_).2 _ (List.mem_map_of_mem hx)
  obtain ⟨z, hz, rfl⟩ := List.mem_map.mp hy
  obtain ⟨z0, z1, _⟩ := mem_stand (List.mem_filter.mp hz).1
  exact h _ (gt_mem z0 z1)
/-! a side's own strokes -/
theorem own_cons {q w : Pc} {ws : List Pc} {band : List Int} : ownOf (q :: w :: ws) band = (if q.1 ∈ band then q.2 else 0) + ownOf (w :: ws) band := by
  unfold ownOf
  rw [List.getLast?_cons_cons, List.filter_cons]
  by_cases c : q.1 ∈ band
  · simp [c]
    omega
  · simp [c]
theorem own_one {q : Pc} {band : List Int} : ownOf [q] band = if q.1 ∈ band then q.2 - 1 else 0 := by
  unfold ownOf
  by_cases c : q.1 ∈ band
  · simp [c]
  · simp [c]
theorem own_nn {band : List Int} : ∀ {ws : List Pc}, (∀ p ∈ ws, 1 ≤ p.2) → ws ≠ [] → 0 ≤ ownOf ws band
  | [], _, h => absurd rfl h
  | [q], h, _ => by
    have := h q (List.mem_cons_self ..)
    rw [own_one]
    split <;> omega
  | q :: w :: ws, h, _ => by
    have h1 := h q (List.mem_cons_self ..)
    have h2 := own_nn (band := band) (ws := w :: ws) (fun p hp => h p (List.mem_cons_of_mem _ hp)) (by simp)
    rw [own_cons]
    split <;> omega
/-! one strike -/
def rem (v m : Int) (rest : List Pc) : List Pc := if m = 0 then rest else (v, m) :: rest
theorem rem_own {v m p : Int} {rest : List Pc} {band : List Int} (hne : rem v (m - p) rest ≠ []) : ownOf (rem v (m - p) rest) band = ownOf ((v, m) :: rest) band - if v ∈ band then p else 0 := by
  unfold rem at hne ⊢
  by_cases c : m - p = 0
  · rw [if_pos c] at hne ⊢
    obtain ⟨w, ws, rfl⟩ := List.exists_cons_of_ne_nil hne
    rw [own_cons]
    dsimp only
    split <;> omega
  · rw [if_neg c]
    cases rest with
    | nil =>
      rw [own_one, own_one]
      dsimp only
      split <;> omega
    | cons w ws =>
      rw [own_cons, own_cons]
      dsimp only
      split <;> omega
theorem rem_cuts {g l' : List Int} {v m p : Int} {rest : List Pc} (h : cuts g ((v, m) :: rest) = some l') (p1 : 1 ≤ p) (p2 : p ≤ m) : cuts (g.set v.toNat (gt g v - p)) (rem v (m - p) rest) = some l' := by
  have h0 : (cutL g (v, m)).bind (fun l' => cuts l' rest) = some l' := h
  cases hc : cutL g (v, m) with
  | none => rw [hc] at h0; cases h0
  | some g1 =>
    rw [hc] at h0
    obtain ⟨⟨c1, c2, c3, c4⟩, e⟩ := cutL_some hc
    dsimp only at c1 c2 c3 c4 e
    subst e
    unfold rem
    by_cases c : m - p = 0
    · rw [if_pos c]
      have : p = m := by omega
      subst this
      exact h0
    · rw [if_neg c]
      have gg : gt (g.set v.toNat (gt g v - p)) v = gt g v - p := by
        have h1 := set_gt_same (g := g) (i := v.toNat) (x := gt g v - p) (by omega)
        rwa [show ((v.toNat : Nat) : Int) = v by omega] at h1
      show (cutL (g.set v.toNat (gt g v - p)) (v, m - p)).bind (fun l' => cuts l' rest) = some l'
      rw [cutL_of c1 (by rw [List.length_set]; exact c2) (by omega) (by omega), gg, List.set_set]
      rw [show gt g v - p - (m - p) = gt g v - m by omega]
      exact h0
theorem play_snoc {s : Sk} : ∀ {ss : List Sk} {l e g b : List Int} {k : Nat}, play l e ss k = .ok (g, b) → okS g b s → play l e (ss ++ [s]) k = .ok (hitL g s, hitE b s)
  | [], l, e, g, b, k, h, ok => by
    have h' : (Except.ok (l, e) : Except Nat (List Int × List Int)) = .ok (g, b) := h
    simp only [Except.ok.injEq, Prod.mk.injEq] at h'
    obtain ⟨rfl, rfl⟩ := h'
    show (if okS l e s then play (hitL l s) (hitE e s) [] (k + 1) else .error k) = _
    rw [if_pos ok]
    rfl
  | t :: ss, l, e, g, b, k, h, ok => by
    have h' : (if okS l e t then play (hitL l t) (hitE e t) ss (k + 1) else .error k) = .ok (g, b) := h
    show (if okS l e t then play (hitL l t) (hitE e t) (ss ++ [s]) (k + 1) else .error k) = _
    by_cases c : okS l e t
    · rw [if_pos c] at h' ⊢
      exact play_snoc h' ok
    · rw [if_neg c] at h'
      cases h'
structure Inv (l e : List Int) (r : List (List Int)) (side aim : List Int) (g b : List Int) (ss : List Sk) (todo : List Pc) : Prop where
  good : Good r g b
  pl : play l e ss 0 = .ok (g, b)
  ct : ∃ l', cuts g todo = some l' ∧ ∀ x ∈ l', x = 0
  own : todo ≠ [] → outS b aim ≤ ownOf todo side
  fin : todo = [] → ∃ s, ss.getLast? = some s ∧ s.2.1 ∈ aim
theorem Inv.piece {l e : List Int} {r : List (List Int)} {side aim g b : List Int} {ss : List Sk} {v m : Int} {rest : List Pc} (I : Inv l e r side aim g b ss ((v, m) :: rest)) : 0 ≤ v ∧ v < g.length ∧ 1 ≤ m ∧ m ≤ gt g v := by
  obtain ⟨l', h, _⟩ := I.ct
  have h0 : (cutL g (v, m)).bind (fun l' => cuts l' rest) = some l' := h
  cases hc : cutL g (v, m) with
  | none => rw [hc] at h0; cases h0
  | some g1 => exact (cutL_some hc).1
theorem Inv.stands {l e : List Int} {r : List (List Int)} {side aim g b : List Int} {ss : List Sk} {v m : Int} {rest : List Pc} (I : Inv l e r side aim g b ss ((v, m) :: rest)) : g.sum ≠ 0 ∧ stand b ≠ [] := by
  obtain ⟨h0, h1, h2, h3⟩ := I.piece
  have h4 := (sum_ge fun x hx => (I.good.la x hx).1).2 _ (gt_mem h0 h1)
  have h5 : g.sum ≠ 0 := by omega
  exact ⟨h5, pos_stand (fun x hx => (I.good.ba x hx).1) (by rw [← I.good.eq]; exact h5)⟩
theorem Inv.step {l e : List Int} {r : List (List Int)} {side aim g b : List Int} {ss : List Sk} {v m : Int} {rest : List Pc} (I : Inv l e r side aim g b ss ((v, m) :: rest)) {x p : Int} (hx : x ∈ stand b) (p1 : 1 ≤ p) (p2 : p ≤ m) (p3 : p ≤ gt b x) (hs : v ∈ side → x = guard b aim) :
    okS g b (v, x, p) ∧ Inv l e r side aim (hitL g (v, x, p)) (hitE b (v, x, p)) (ss ++ [(v, x, p)]) (rem v (m - p) rest) := by
  obtain ⟨v0, v1, m1, m2⟩ := I.piece
  obtain ⟨x0, x1, x2⟩ := mem_stand hx
  have ok : okS g b (v, x, p) := ⟨v0, v1, x0, x1, p1, by show p ≤ gt g v; omega, p3⟩
  have bnn : ∀ y ∈ b, 0 ≤ y := fun y hy => (I.good.ba y hy).1
  obtain ⟨l', hct, hz⟩ := I.ct
  have hct' := rem_cuts hct p1 p2
  have own0 := I.own (by simp)
  refine ⟨ok, good_hit I.good ok, play_snoc I.pl ok, ⟨l', hct', hz⟩, fun hne => ?_, fun hnil => ?_⟩
  · show outS (b.set x.toNat (gt b x - p)) aim ≤ _
    rw [outS_hit bnn x0 x1 p3, rem_own hne]
    by_cases cv : v ∈ side
    · rw [if_pos cv]
      by_cases cx : x ∈ aim
      · rw [if_pos cx]
        have nn := own_nn (band := side) (fun q hq => (cuts_pos hct' q hq).2) hne
        rw [rem_own hne, if_pos cv] at nn
        have ho : outs b aim = [] := by
          cases ho : outs b aim with
          | nil => rfl
          | cons y ys =>
            have hg := hs cv
            unfold guard at hg
            rw [ho] at hg
            have hy : y ∈ outs b aim := by rw [ho]; exact List.mem_cons_self ..
            have := (List.mem_filter.mp hy).2
            have hg : x = y := hg
            rw [← hg] at this
            simp [cx] at this
        have : outS b aim = 0 := by unfold outS; rw [ho]; rfl
        omega
      · rw [if_neg cx]
        omega
    · rw [if_neg cv]
      split <;> omega
  · refine ⟨(v, x, p), by simp, ?_⟩
    unfold rem at hnil
    by_cases c : m - p = 0
    · rw [if_pos c] at hnil
      subst hnil
      rw [own_one] at own0
      by_cases cx : x ∈ aim
      · exact cx
      · have := outS_ge (aim := aim) bnn (x := x) (List.mem_filter.mpr ⟨hx, by simpa using cx⟩)
        dsimp only at own0
        split at own0 <;> omega
    · rw [if_neg c] at hnil
      cases hnil
theorem stand_fall {b : List Int} {x v : Int} (hx : x ∈ stand b) (hv : v = 0) : (stand (b.set x.toNat v)).length + 1 ≤ (stand b).length := by
  subst hv
  obtain ⟨x0, x1, x2⟩ := mem_stand hx
  have e : stand (b.set x.toNat 0) = (stand b).filter fun y => decide (y ≠ x) := by
    rw [stand_eq, stand_eq, List.filter_map, List.filter_filter, List.length_set]
    congr 1
    refine List.filter_congr fun i hi => ?_
    by_cases c : i = x.toNat
    · subst c
      have h1 := set_gt_same (g := b) (i := x.toNat) (x := 0) (by omega)
      have e0 : ((x.toNat : Nat) : Int) = x := by omega
      rw [e0] at h1 ⊢
      simp [h1]
      intro h
      omega
    · rw [set_gt_ne (Ne.symm c)]
      have : ¬ (i : Int) = x := by omega
      simp [this]
  rw [e]
  have := List.length_filter_lt_length_iff_exists.mpr (⟨x, hx, by simp⟩ : ∃ y ∈ stand b, ¬ (decide (y ≠ x)) = true)
  omega
/-- what is aimed at, cut to the names that stand -/
theorem outs_cut {b aim : List Int} : outs b (aim.filter fun x => decide (0 < gt b x)) = outs b aim := by
  unfold outs
  refine List.filter_congr fun x hx => ?_
  obtain ⟨_, _, h⟩ := mem_stand hx
  simp [h]
theorem guard_cut {b aim : List Int} : guard b (aim.filter fun x => decide (0 < gt b x)) = guard b aim := by
  unfold guard
  rw [outs_cut]
theorem guard_mem {b aim : List Int} (h : stand b ≠ []) : guard b aim ∈ stand b := by
  unfold guard
  cases ho : outs b aim with
  | nil =>
    obtain ⟨y, ys, hy⟩ := List.exists_cons_of_ne_nil h
    rw [hy]
    exact List.mem_cons_self ..
  | cons x xs =>
    have : x ∈ outs b aim := by rw [ho]; exact List.mem_cons_self ..
    exact (List.mem_filter.mp this).1
end K78

set_option Elab.async false
set_option linter.all false
set_option maxRecDepth 100000
set_option maxHeartbeats 4000000
namespace K78
open PySem PySem.Spec PyProof.Rows L2 AL
theorem for_rngE {g : Tg} {body : RS} {A : AEnds} {lo : Int} {n : Nat} {ρ : AS} (I : Nat → AS → Prop) (h0 : I 0 ρ) (hend : ∀ ρ, I n ρ → A.nx ρ)
    (hs : ∀ (rest brk : AS → Prop) (i : Nat) (ρ : AS), i < n → I i ρ → (∀ ρ', I (i + 1) ρ' → rest ρ') → (∀ ρ', I n ρ' → brk ρ') → ∃ bs, g.bind (.int (lo + i)) = some bs ∧ body { nx := rest, rt := A.rt, ex := A.ex, bk := brk, ct := rest } (setAll ρ (bs.map fun p => (p.1, .fz p.2)))) : forGo g body A (rngD lo n) ρ :=
  for_rng I h0 hend fun rest i ρ hi h k => hs rest A.nx i ρ hi h k hend
theorem tS_snoc {ss : List Sk} {s : Sk} : T.lst (ss.map tSk ++ [tSk s]) = tS (ss ++ [s]) := by simp [tS]
theorem tS_pure {ss : List Sk} : (tS ss).pure = true := pures_map fun x _ => rfl
@[simp] theorem sl_dS {xs : List Sk} {f : List D → Prop} : onL (dS xs) f = f (xs.map dSk) := rfl
theorem pure__law_played : ∀ ds AQ AX, r__law_played ds AQ AX → a__law_played (aEnds AQ AX) (ent 16 ds) := by
  intro ds AQ AX h
  obtain ⟨_, _, _, _, _, _, rfl, rfl, r, l, e, ws, l', side, aim, rfl, rfl, rfl, rfl, rfl, good, lpos, wlen, hct, hz, hside, haim, hown, q⟩ := fs6_el h
  show a__law_played (aEnds AQ AX) [some (.fz .sto), some (.fz (shp r l e)), some (.fz (mD r l e)), some (.fz (dP ws)), some (.fz (dI side)), some (.fz (dI aim)), none, none, none, none, none, none, none, none, none, none]
  obtain ⟨am1, am2, _⟩ := badFrom_none haim
  have aml : aim.length ≤ 8 := by
    have h1 := asc_len (a := 0) (b := e.length) am2 fun x hx => by
      obtain ⟨x0, x1, _⟩ := mem_stand (am1 x hx)
      exact ⟨x0, x1⟩
    have := good.b8
    omega
  have x0 : ∀ {Q : TQ}, fIx (shp r l e) (.int 0) Q = Q (.fz (dII r)) := fun {Q} => s_ixT0
  have x1 : ∀ {Q : TQ}, fIx (shp r l e) (.int 1) Q = Q (.fz (dI l)) := fun {Q} => s_ixT1
  have x2 : ∀ {Q : TQ}, fIx (shp r l e) (.int 2) Q = Q (.fz (dI e)) := fun {Q} => s_ixT2
  simp only [a__law_played, s_seq]
  simp [x1, x2, s_for]
  refine for_map (f := dPc) (fun i ρ => ∃ (g b : List Int) (ss : List Sk) (o1 o2 o3 o4 o5 o6 : Option T), ρ = [some (.fz .sto), some (.fz (shp r l e)), some (.fz (mD r l e)), some (.fz (dP ws)), some (.fz (dI side)), some (.fz (dI aim)), some (tI g), some (tI b), some (.fz (mD r g b)), some (tS ss), o1, o2, o3, o4, o5, o6] ∧ Inv l e r side aim g b ss (ws.drop i) ∧ ss.length ≤ 12 * i)
    ⟨l, e, [], none, none, none, none, none, none, rfl, ⟨good, rfl, ⟨l', hct, hz⟩, fun _ => hown, fun hn => ?_⟩, by simp⟩ ?_ ?_
  · exfalso
    have hn : ws = [] := by simpa using hn
    subst hn
    have e1 : l = l' := by
      have : some l = some l' := hct
      simpa using this
    subst e1
    have : ∀ {xs : List Int}, (∀ x ∈ xs, x = 0) → xs.sum = 0 := fun {xs} => by
      induction xs with
      | nil => intro _; rfl
      | cons a xs ih =>
        intro h
        rw [List.sum_cons, h a (List.mem_cons_self ..), ih fun x hx => h x (List.mem_cons_of_mem _ hx)]
        rfl
    have := this hz
    omega
  · rintro ρ ⟨g, b, ss, o1, o2, o3, o4, o5, o6, rfl, I, hl⟩
    rw [List.drop_length] at I
    obtain ⟨s, hs, hsa⟩ := I.fin rfl
    obtain ⟨ss', rfl⟩ := List.getLast?_eq_some_iff.mp hs
    obtain ⟨g', hg, hgz⟩ := I.ct
    have e1 : g = g' := by
      have : some g = some g' := hg
      simpa using this
    subst e1
    have nl : ∀ {xs : List Int}, (∀ x ∈ xs, x = 0) → xs = nul xs.length := fun {xs} h => List.eq_replicate_iff.mpr ⟨rfl, h⟩
    have gn := nl hgz
    have gs : g.sum = 0 := by rw [gn, nul_sum]
    have bn := nl (xs := b) fun x hx => by
      have h1 := (sum_ge fun y hy => (I.good.ba y hy).1).2 x hx
      have h2 := (I.good.ba x hx).1
      have h3 := I.good.eq
      omega
    have pl := I.pl
    have e2 : g.length = l.length := by rw [I.good.ll, good.ll]
    have e3 : b.length = e.length := by
      obtain ⟨row, hrow⟩ := List.exists_mem_of_ne_nil r (by intro z; have := good.r1; rw [z] at this; simp at this)
      rw [← I.good.rl row hrow, ← good.rl row hrow]
    rw [gn, bn, e2, e3] at pl
    simp
    exact q ss' s (by simp at hl; omega) pl hsa
  · rintro rest i w ρ hi ⟨g, b, ss, o1, o2, o3, o4, o5, o6, rfl, I, hl⟩ kk
    obtain ⟨v, mw⟩ := w
    have hil : i < ws.length := (List.getElem?_eq_some_iff.mp hi).1
    have hd : ws.drop i = (v, mw) :: ws.drop (i + 1) := by
      rw [List.drop_eq_getElem_cons hil, (List.getElem?_eq_some_iff.mp hi).2]
    rw [hd] at I
    refine ⟨[(10, dPc (v, mw))], rfl, ?_⟩
    simp only [s_seq]
    have y0 : ∀ {Q : TQ}, fIx (dPc (v, mw)) (.int 0) Q = Q (.fz (.int v)) := fun {Q} => s_ixT0
    have y1 : ∀ {Q : TQ}, fIx (dPc (v, mw)) (.int 1) Q = Q (.fz (.int mw)) := fun {Q} => s_ixT1
    simp [y1, s_for]
    obtain ⟨v0, v1, m1, m2⟩ := I.piece
    refine for_rngE (fun k ρ => ∃ (g b : List Int) (ss : List Sk) (m : Int) (o3 o4 o5 o6 : Option T), ρ = [some (.fz .sto), some (.fz (shp r l e)), some (.fz (mD r l e)), some (.fz (dP ws)), some (.fz (dI side)), some (.fz (dI aim)), some (tI g), some (tI b), some (.fz (mD r g b)), some (tS ss), some (.fz (dPc (v, mw))), some (.fz (.int m)), o3, o4, o5, o6] ∧ Inv l e r side aim g b ss (rem v m (ws.drop (i + 1))) ∧ ss.length ≤ 12 * i + k ∧ (m = 0 ∨ (stand b).length + k ≤ 10))
      ⟨g, b, ss, mw, o3, o4, o5, o6, rfl, ?_, by omega, .inr ?_⟩ ?_ ?_
    · unfold rem
      rw [if_neg (by omega)]
      exact I
    · have h1 := stand_len (e := b)
      have h2 := I.good.b8
      omega
    · rintro ρ ⟨g, b, ss, m, o3, o4, o5, o6, rfl, I, hl, hm⟩
      have hm0 : m = 0 := by omega
      subst hm0
      exact kk _ ⟨g, b, ss, _, _, _, _, _, _, rfl, I, by omega⟩
    clear I m1 m2 hl
    clear hd
    rintro rest2 brk k ρ hk ⟨g, b, ss, m, o3, o4, o5, o6, rfl, I, hl, hm⟩ k2 kb
    refine ⟨[(12, .int (0 + (k : Nat)))], rfl, ?_⟩
    by_cases c : m = 0
    · subst c
      simp only [s_seq]
      simp
      exact kb _ ⟨g, b, ss, 0, _, _, _, _, rfl, I, by omega, .inl rfl⟩
    have Ir := I
    unfold rem at I
    rw [if_neg c] at I
    obtain ⟨_, v2, m1, m2⟩ := I.piece
    obtain ⟨gs, hst⟩ := I.stands
    have b8 := I.good.b8
    have g8 := I.good.r8
    have gll := I.good.ll
    have hcg : guard b (aim.filter fun x => decide (0 < gt b x)) = guard b aim := guard_cut
    have gmem : guard b aim ∈ stand b := guard_mem hst
    have hrr : r.length ≤ 1000 := by omega
    have fin2 : ∀ (x p : Int), x ∈ stand b → 1 ≤ p → p ≤ m → p ≤ gt b x → (v ∈ side → x = guard b aim) → (k < 2 ∨ p = min m (gt b x)) → ((aSeq (aSetZ 11 (r2 fSub (rV 11) (rV 15))) (aSeq (aSetIx 6 (r2 fSub (r2 fIx (rV 6) (r2 fIx (rV 10) (rD (.int 0)))) (rV 15)) (r2 fIx (rV 10) (rD (.int 0)))) (aSeq (aSetIx 7 (r2 fSub (r2 fIx (rV 7) (rV 14)) (rV 15)) (rV 14)) (aSeq (aApp 9 (rTupD (rCons (r2 fIx (rV 10) (rD (.int 0))) (rCons (rV 14) (rCons (rV 15) rNil))))) (aSeq (aIf (rNotT (rTB (rCall r__law_same [] (rCons (rCall r__law_behind [] (rCons (rV 8) (rCons (rSl (rV 9) (rPs (r1 fNeg (rD (.int 1)))) rPn) rNil))) (rCons (rTupD (rCons (rD (.str "told")) (rCons (r2 fIx (rV 1) (rD (.int 0))) (rCons (rV 6) (rCons (rV 7) (rCons (r2 fEq (rN (fInts gSum) (rCons (rV 7) rNil)) (rD (.int 0))) rNil)))))) rNil))))) (aSeq (aRet (rD .non)) aNext) aNext) (aSeq (aSetB 8 (rCall r_behind [] (rCons (rV 8) (rCons (rSl (rV 9) (rPs (r1 fNeg (rD (.int 1)))) rPn) rNil)))) (aFrz 8 aNext)))))))) { nx := rest2, rt := fun t _ => AQ t, ex := fun x _ => AX x, bk := brk, ct := rest2 }
        [some (.fz .sto), some (.fz (shp r l e)), some (.fz (mD r l e)), some (.fz (dP ws)), some (.fz (dI side)), some (.fz (dI aim)), some (tI g), some (tI b), some (.fz (mD r g b)), some (tS ss), some (.fz (dPc (v, mw))), some (.fz (.int m)), some (.fz (.int k)), some (.fz (dI (aim.filter fun x => decide (0 < gt b x)))), some (.fz (.int x)), some (.fz (.int p))] := by
      intro x p hx p1 p2 p3 hs hp
      obtain ⟨ok, I'⟩ := I.step hx p1 p2 p3 hs
      obtain ⟨xx0, xx1, xx2⟩ := mem_stand hx
      have z1 : ∀ {Q : TQ}, fIx (dI g) (.int v) Q = Q (.fz (.int (gt g v))) := fun {Q} => ix_gt v0 v2
      have z2 : ∀ {Q : TQ}, fIx (dI b) (.int x) Q = Q (.fz (.int (gt b x))) := fun {Q} => ix_gt xx0 xx1
      have pl1 : play g b [(v, x, p)] 0 = .ok (hitL g (v, x, p), hitE b (v, x, p)) := by
        show (if okS g b (v, x, p) then _ else _) = _
        rw [if_pos ok]
        rfl
      simp only [s_seq]
      simp
      refine do_setIx (xs := g) (k := v) (v := gt g v - p) rfl (fun TQ' h => ?_) (fun TQ' h => ?_) v0 v2 ?_
      · simpa [y0, z1] using h
      · simpa [y0] using h
      simp only [s_seq]
      refine do_setIx (xs := b) (k := x) (v := gt b x - p) rfl (fun TQ' h => ?_) (fun TQ' h => by simpa using h) xx0 xx1 ?_
      · simpa [z2] using h
      simp only [s_seq]
      refine do_app (ts := ss.map tSk) (t := tSk (v, x, p)) rfl (by simp; omega) rfl (fun TQ' h => ?_) ?_
      · simpa [tSk, y0] using h
      rw [tS_snoc]
      have cl : AL.cut ((ss ++ [(v, x, p)]).map dSk) (some (-1)) none = [dSk (v, x, p)] := by
        rw [List.map_append]
        exact cut_last
      have ed : D.lst [dSk (v, x, p)] = dS [(v, x, p)] := rfl
      simp only [s_seq, s_if]
      simp only [s_rNotT, s_rTB, s_rCall, s_rCons, s_rV, s_rSl, s_rPs, s_rPn, s_r1, s_rD, s_neg, s_envB, oB_s, oB_n, s_envB0, s_er, List.getElem?_cons_succ, List.getElem?_cons_zero, List.set_cons_succ, List.set_cons_zero, s_rNil, s_ers, s_ers0, tS_er, sl_dS, cl, List.map_cons, List.map_nil, s_erL, List.append_nil, ed]
      have hb : ∀ {Q : TQ} {X : XQ}, (Q (mT r (hitL g (v, x, p)) (hitE b (v, x, p)))) → r_behind [mD r g b, dS [(v, x, p)]] Q X := fun {Q X} hq => in2 ⟨r, g, b, [(v, x, p)], rfl, rfl, I.good, by simp, fun gg bb hpl => by
        rw [pl1] at hpl
        simp only [Except.ok.injEq, Prod.mk.injEq] at hpl
        obtain ⟨rfl, rfl⟩ := hpl
        exact hq, fun kx hk => by rw [pl1] at hk; cases hk⟩
      refine in2 ⟨r, g, b, [(v, x, p)], rfl, rfl, I.good, by simp, fun gg bb hpl => ?_, fun kx hk => by rw [pl1] at hk; cases hk⟩
      rw [pl1] at hpl
      simp only [Except.ok.injEq, Prod.mk.injEq] at hpl
      obtain ⟨rfl, rfl⟩ := hpl
      have er1 : dI (g.set v.toNat (gt g v - p)) = dI (hitL g (v, x, p)) := rfl
      have er2 : dI (b.set x.toNat (gt b x - p)) = dI (hitE b (v, x, p)) := rfl
      simp only [s_rTup, s_rCons, s_rD, s_r2, s_rV, s_rN, s_rNil, s_er, s_ers, s_ers0, List.getElem?_cons_succ, List.getElem?_cons_zero, x0, tI_er, er1, er2, s_ints', s_sum, s_eq, s_erT]
      refine ⟨by simp, ?_⟩
      show rn__law_same 5 _ _ _
      refine in2 ⟨?_, flat_tup (by simp) fun d hd => ?_, ?_⟩
      · rw [← I'.good.eq]
        rfl
      · simp only [List.mem_cons, List.not_mem_nil, or_false] at hd
        rcases hd with rfl | rfl | rfl | rfl | rfl
        · rfl
        · exact flat_dII (by omega) fun y hy => by rw [I.good.rl y hy]; omega
        · exact flat_dI (by rw [hitL_len]; omega)
        · exact flat_dI (by rw [hitE_len]; omega)
        · rfl
      simp only [kB_fz, Bool.not_true, kI_f, s_next]
      simp only [s_seq, s_setB, s_rCall, s_rCons, s_rV, s_rSl, s_rPs, s_rPn, s_r1, s_rD, s_neg, s_envB, oB_s, oB_n, s_envB0, s_er, List.getElem?_cons_succ, List.getElem?_cons_zero, List.set_cons_succ, List.set_cons_zero, s_rNil, s_ers, s_ers0, tS_er, sl_dS, cl, List.map_cons, List.map_nil, s_erL, List.append_nil, ed]
      refine hb ⟨mT_pure, ?_⟩
      simp only [s_frz, List.getElem?_cons_succ, List.getElem?_cons_zero, List.set_cons_succ, List.set_cons_zero, mT_er, s_next]
      refine k2 _ ⟨_, _, _, _, _, _, _, _, rfl, I', by simp; omega, ?_⟩
      by_cases ck : k < 2
      · right
        have h1 := stand_len (e := b.set x.toNat (gt b x - p))
        rw [List.length_set] at h1
        omega
      · have hp := hp.resolve_left ck
        by_cases cm : m ≤ gt b x
        · left
          omega
        · right
          have h1 := stand_fall hx (v := gt b x - p) (by omega)
          omega
    have fin1 : ∀ x : Int, x ∈ stand b → (v ∈ side → x = guard b aim) → ((aSeq (aSetB 15 (rN (fMM fun i j => min i j) (rCons (rV 11) (rCons (r2 fIx (rV 7) (rV 14)) rNil)))) (aFrz 15 (aSeq (aIf (rTB (r2 fLt (rV 12) (rD (.int 2)))) (aSeq (aSetZ 15 (rCall r__law_near_ends [] (rCons (rV 0) (rCons (rD (.int 1)) (rCons (rV 15) rNil))))) aNext) aNext) (aSeq (aSetZ 11 (r2 fSub (rV 11) (rV 15))) (aSeq (aSetIx 6 (r2 fSub (r2 fIx (rV 6) (r2 fIx (rV 10) (rD (.int 0)))) (rV 15)) (r2 fIx (rV 10) (rD (.int 0)))) (aSeq (aSetIx 7 (r2 fSub (r2 fIx (rV 7) (rV 14)) (rV 15)) (rV 14)) (aSeq (aApp 9 (rTupD (rCons (r2 fIx (rV 10) (rD (.int 0))) (rCons (rV 14) (rCons (rV 15) rNil))))) (aSeq (aIf (rNotT (rTB (rCall r__law_same [] (rCons (rCall r__law_behind [] (rCons (rV 8) (rCons (rSl (rV 9) (rPs (r1 fNeg (rD (.int 1)))) rPn) rNil))) (rCons (rTupD (rCons (rD (.str "told")) (rCons (r2 fIx (rV 1) (rD (.int 0))) (rCons (rV 6) (rCons (rV 7) (rCons (r2 fEq (rN (fInts gSum) (rCons (rV 7) rNil)) (rD (.int 0))) rNil)))))) rNil))))) (aSeq (aRet (rD .non)) aNext) aNext) (aSeq (aSetB 8 (rCall r_behind [] (rCons (rV 8) (rCons (rSl (rV 9) (rPs (r1 fNeg (rD (.int 1)))) rPn) rNil)))) (aFrz 8 aNext))))))))))) { nx := rest2, rt := fun t _ => AQ t, ex := fun x _ => AX x, bk := brk, ct := rest2 }
        [some (.fz .sto), some (.fz (shp r l e)), some (.fz (mD r l e)), some (.fz (dP ws)), some (.fz (dI side)), some (.fz (dI aim)), some (tI g), some (tI b), some (.fz (mD r g b)), some (tS ss), some (.fz (dPc (v, mw))), some (.fz (.int m)), some (.fz (.int k)), some (.fz (dI (aim.filter fun x => decide (0 < gt b x)))), some (.fz (.int x)), o6] := by
      intro x hx hs
      obtain ⟨xx0, xx1, xx2⟩ := mem_stand hx
      have z2 : ∀ {Q : TQ}, fIx (dI b) (.int x) Q = Q (.fz (.int (gt b x))) := fun {Q} => ix_gt xx0 xx1
      generalize ((aSeq (aSetZ 11 (r2 fSub (rV 11) (rV 15))) (aSeq (aSetIx 6 (r2 fSub (r2 fIx (rV 6) (r2 fIx (rV 10) (rD (.int 0)))) (rV 15)) (r2 fIx (rV 10) (rD (.int 0)))) (aSeq (aSetIx 7 (r2 fSub (r2 fIx (rV 7) (rV 14)) (rV 15)) (rV 14)) (aSeq (aApp 9 (rTupD (rCons (r2 fIx (rV 10) (rD (.int 0))) (rCons (rV 14) (rCons (rV 15) rNil))))) (aSeq (aIf (rNotT (rTB (rCall r__law_same [] (rCons (rCall r__law_behind [] (rCons (rV 8) (rCons (rSl (rV 9) (rPs (r1 fNeg (rD (.int 1)))) rPn) rNil))) (rCons (rTupD (rCons (rD (.str "told")) (rCons (r2 fIx (rV 1) (rD (.int 0))) (rCons (rV 6) (rCons (rV 7) (rCons (r2 fEq (rN (fInts gSum) (rCons (rV 7) rNil)) (rD (.int 0))) rNil)))))) rNil))))) (aSeq (aRet (rD .non)) aNext) aNext) (aSeq (aSetB 8 (rCall r_behind [] (rCons (rV 8) (rCons (rSl (rV 9) (rPs (r1 fNeg (rD (.int 1)))) rPn) rNil)))) (aFrz 8 aNext)))))))) = R at fin2 ⊢
      simp only [s_seq]
      simp [z2]
      by_cases ck : (k : Int) < 2
      · simp [ck]
        refine in3 ⟨rfl, _, _, rfl, rfl, by omega, fun p p1 p2 => ?_⟩
        simp
        exact fin2 x p hx p1 (by omega) (by omega) hs (.inl (by omega))
      · simp [ck]
        exact fin2 x _ hx (by omega) (by omega) (by omega) hs (.inr rfl)
    clear fin2
    generalize ((aSeq (aSetB 15 (rN (fMM fun i j => min i j) (rCons (rV 11) (rCons (r2 fIx (rV 7) (rV 14)) rNil)))) (aFrz 15 (aSeq (aIf (rTB (r2 fLt (rV 12) (rD (.int 2)))) (aSeq (aSetZ 15 (rCall r__law_near_ends [] (rCons (rV 0) (rCons (rD (.int 1)) (rCons (rV 15) rNil))))) aNext) aNext) (aSeq (aSetZ 11 (r2 fSub (rV 11) (rV 15))) (aSeq (aSetIx 6 (r2 fSub (r2 fIx (rV 6) (r2 fIx (rV 10) (rD (.int 0)))) (rV 15)) (r2 fIx (rV 10) (rD (.int 0)))) (aSeq (aSetIx 7 (r2 fSub (r2 fIx (rV 7) (rV 14)) (rV 15)) (rV 14)) (aSeq (aApp 9 (rTupD (rCons (r2 fIx (rV 10) (rD (.int 0))) (rCons (rV 14) (rCons (rV 15) rNil))))) (aSeq (aIf (rNotT (rTB (rCall r__law_same [] (rCons (rCall r__law_behind [] (rCons (rV 8) (rCons (rSl (rV 9) (rPs (r1 fNeg (rD (.int 1)))) rPn) rNil))) (rCons (rTupD (rCons (rD (.str "told")) (rCons (r2 fIx (rV 1) (rD (.int 0))) (rCons (rV 6) (rCons (rV 7) (rCons (r2 fEq (rN (fInts gSum) (rCons (rV 7) rNil)) (rD (.int 0))) rNil)))))) rNil))))) (aSeq (aRet (rD .non)) aNext) aNext) (aSeq (aSetB 8 (rCall r_behind [] (rCons (rV 8) (rCons (rSl (rV 9) (rPs (r1 fNeg (rD (.int 1)))) rPn) rNil)))) (aFrz 8 aNext))))))))))) = R at fin1 ⊢
    simp only [s_seq]
    simp [c]
    refine lc_det (f := D.int) (fun x => decide (0 < gt b x)) (fun x => .fz (.int x)) (by omega) (fun x hx => ⟨[(14, .int x)], rfl, fun BQ h => ?_, fun _ TQ' h => by simpa using h⟩) ?_
    · obtain ⟨q1, q2, _⟩ := mem_stand (am1 x hx)
      have e3 : b.length = e.length := by
        obtain ⟨row, hrow⟩ := List.exists_mem_of_ne_nil r (by intro z; have := good.r1; rw [z] at this; simp at this)
        rw [← I.good.rl row hrow, ← good.rl row hrow]
      have z2 : ∀ {Q : TQ}, fIx (dI b) (.int x) Q = Q (.fz (.int (gt b x))) := fun {Q} => ix_gt q1 (by omega)
      simpa [z2] using h
    rw [tI_map]
    refine ⟨tI_pure, ?_⟩
    have e3 : b.length = e.length := by
      obtain ⟨row, hrow⟩ := List.exists_mem_of_ne_nil r (by intro z; have := good.r1; rw [z] at this; simp at this)
      rw [← I.good.rl row hrow, ← good.rl row hrow]
    have hcb : badSet (aim.filter fun x => decide (0 < gt b x)) (stand b) = none := badFrom_of (fun x hx => by
      obtain ⟨hx1, hx2⟩ := List.mem_filter.mp hx
      obtain ⟨q1, q2, _⟩ := mem_stand (am1 x hx1)
      have h1 : b[x.toNat]? = some (gt b x) := by
        rw [gt_get (by omega)]
        exact List.getElem?_eq_getElem (by omega)
      have := stand_mem h1 (by simpa using hx2)
      rwa [show ((x.toNat : Nat) : Int) = x by omega] at this) (am2.sublist List.filter_sublist) fun q e => nomatch e
    have hcl : (aim.filter fun x => decide (0 < gt b x)).length ≤ 8 := Nat.le_trans (List.length_filter_le _ _) aml
    simp only [tI_er]
    refine in2 ⟨b, _, rfl, rfl, b8, hst, ⟨rfl, ?_⟩⟩
    rw [hcg]
    simp only [s_er, y0, in_dI, notin_dI, kB_fz]
    by_cases cv : v ∈ side
    · have hc : side.contains v = true := by simpa using cv
      simp only [hc, kI_t, Bool.not_true, kI_f]
      refine in2 ⟨r, g, b, _, rfl, rfl, I.good, by omega, fun z => absurd z gs, (fun _ kx hk => by rw [hcb] at hk; cases hk), fun _ _ => ?_⟩
      rw [hcg]
      show rn__law_same 5 _ _ _
      refine in2 ⟨rfl, flat_tup (by simp) fun d hd => ?_, ?_⟩
      · simp only [List.mem_cons, List.not_mem_nil, or_false] at hd
        rcases hd with rfl | rfl <;> rfl
      simp only [kB_fz, Bool.not_true, kI_f]
      exact fin1 _ gmem fun _ => rfl
    · have hc : side.contains v = false := by simpa using cv
      simp only [hc, kI_t, Bool.not_false, kI_f]
      refine in1 ⟨b, rfl, b8, ?_⟩
      simp only [tI_er]
      refine in2 ⟨rfl, _, rfl, by simpa using hst, by have := stand_len (e := b); simp; omega, fun d hd => ?_⟩
      obtain ⟨x, hx, rfl⟩ := List.mem_map.mp hd
      exact ⟨rfl, fin1 x hx fun z => absurd z cv⟩
end K78

set_option Elab.async false
set_option linter.all false
set_option maxRecDepth 100000
set_option maxHeartbeats 4000000
namespace K78
open PySem PySem.Spec PyProof.Rows L2 AL
theorem play_bad {s : Sk} {post : List Sk} : ∀ {pre : List Sk} {l e g b : List Int} {k : Nat}, play l e pre k = .ok (g, b) → ¬ okS g b s → play l e (pre ++ s :: post) k = .error (k + pre.length)
  | [], l, e, g, b, k, h, nok => by
    have h' : (Except.ok (l, e) : Except Nat (List Int × List Int)) = .ok (g, b) := h
    simp only [Except.ok.injEq, Prod.mk.injEq] at h'
    obtain ⟨rfl, rfl⟩ := h'
    show (if okS l e s then play (hitL l s) (hitE e s) post (k + 1) else .error k) = _
    rw [if_neg nok]
    rfl
  | t :: pre, l, e, g, b, k, h, nok => by
    have h' : (if okS l e t then play (hitL l t) (hitE e t) pre (k + 1) else .error k) = .ok (g, b) := h
    show (if okS l e t then play (hitL l t) (hitE e t) (pre ++ s :: post) (k + 1) else .error k) = _
    by_cases c : okS l e t
    · rw [if_pos c] at h' ⊢
      rw [play_bad h' nok, List.length_cons]
      congr 1
      omega
    · rw [if_neg c] at h'
      cases h'
theorem play_pre {post : List Sk} {x : List Int × List Int} : ∀ {pre : List Sk} {l e : List Int} {k : Nat}, play l e (pre ++ post) k = .ok x → ∃ g b, play l e pre k = .ok (g, b)
  | [], l, e, k, _ => ⟨l, e, rfl⟩
  | t :: pre, l, e, k, h => by
    have h' : (if okS l e t then play (hitL l t) (hitE e t) (pre ++ post) (k + 1) else .error k) = .ok x := h
    by_cases c : okS l e t
    · rw [if_pos c] at h'
      obtain ⟨g, b, h2⟩ := play_pre h'
      refine ⟨g, b, ?_⟩
      show (if okS l e t then play (hitL l t) (hitE e t) pre (k + 1) else .error k) = _
      rw [if_pos c]
      exact h2
    · rw [if_neg c] at h'
      cases h'
theorem good_len {r : List (List Int)} {l e g b : List Int} (h : Good r l e) (h' : Good r g b) : g.length = l.length ∧ b.length = e.length := by
  obtain ⟨row, hrow⟩ := List.exists_mem_of_ne_nil r (by intro z; have := h.r1; rw [z] at this; simp at this)
  exact ⟨by rw [h'.ll, h.ll], by rw [← h'.rl row hrow, ← h.rl row hrow]⟩
theorem good_nul {r : List (List Int)} {l e : List Int} (g : Good r l e) : Good r (nul l.length) (nul e.length) := ⟨g.r1, g.r8, by rw [nul_len]; exact g.b1, by rw [nul_len]; exact g.b8, by rw [nul_len]; exact g.ll, fun row h => by rw [nul_len]; exact g.rl row h, g.rr, fun x hx => by rw [nul_mem hx]; decide, fun x hx => by rw [nul_mem hx]; decide, by rw [nul_sum, nul_sum]⟩
theorem in_same {a b : D} {AQ : TQ} {AX : XQ} (e : a = b) (h : D.flatN a 5 = true) (q : AQ (.fz (.bl true))) : r__law_same [a, b] AQ AX := by
  show rn__law_same 5 _ _ _
  exact in2 ⟨e, h, q⟩
theorem flat_ref {n : Str} : D.flatN (dRef n []) 5 = true := rfl
theorem flat_refI {n : Str} {k : Int} : D.flatN (dRef n [.int k]) 5 = true := rfl
theorem in_g1 {r : List (List Int)} {l e ns : List Int} {AQ : TQ} {AX : XQ} {k : Nat} (g : Good r l e) (hz : ns.length ≤ 100) (h0 : l.sum ≠ 0) (hk : badSet ns (stand e) = some k) (q : AQ (.fz (dRef "BadSet" [.int k]))) : r__law_guard [mD r l e, dI ns] AQ AX :=
  in2 ⟨r, l, e, ns, rfl, rfl, g, hz, fun z => absurd z h0, fun _ k' h' => by
    rw [hk] at h'
    cases h'
    exact q, fun _ h' => by rw [hk] at h'; cases h'⟩
theorem in_g0 {r : List (List Int)} {l e ns : List Int} {AQ : TQ} {AX : XQ} (g : Good r l e) (hz : ns.length ≤ 100) (h0 : l.sum = 0) (q : AQ (.fz (dRef "Over" []))) : r__law_guard [mD r l e, dI ns] AQ AX :=
  in2 ⟨r, l, e, ns, rfl, rfl, g, hz, fun _ => q, fun z => absurd h0 z, fun z => absurd h0 z⟩
theorem in_g2 {r : List (List Int)} {l e ns : List Int} {AQ : TQ} {AX : XQ} (g : Good r l e) (hz : ns.length ≤ 100) (h0 : l.sum ≠ 0) (hk : badSet ns (stand e) = none) (q : AQ (.fz (dTold [.int (guard e ns)]))) : r__law_guard [mD r l e, dI ns] AQ AX :=
  in2 ⟨r, l, e, ns, rfl, rfl, g, hz, fun z => absurd z h0, (fun _ k' h' => by rw [hk] at h'; cases h'), fun _ _ => q⟩
theorem in_be {r : List (List Int)} {l e : List Int} {ss : List Sk} {AQ : TQ} {AX : XQ} {k : Nat} (g : Good r l e) (hz : ss.length < 1000) (hk : play l e ss 0 = .error k) (q : AQ (.fz (dRef "BadStrike" [.int k]))) : r__law_behind [mD r l e, dS ss] AQ AX :=
  in2 ⟨r, l, e, ss, rfl, rfl, g, hz, (fun l' e' h' => by rw [hk] at h'; cases h'), fun k' h' => by
    rw [hk] at h'
    cases h'
    exact q⟩
theorem in_bo {r : List (List Int)} {l e l' e' : List Int} {ss : List Sk} {AQ : TQ} {AX : XQ} (g : Good r l e) (hz : ss.length < 1000) (hk : play l e ss 0 = .ok (l', e')) (q : AQ (.fz (dTold [dII r, dI l', dI e', .bl (decide (l'.sum = 0))]))) : r__law_behind [mD r l e, dS ss] AQ AX :=
  in2 ⟨r, l, e, ss, rfl, rfl, g, hz, (fun l2 e2 h' => by
    rw [hk] at h'
    simp only [Except.ok.injEq, Prod.mk.injEq] at h'
    obtain ⟨rfl, rfl⟩ := h'
    exact q), fun k' h' => by rw [hk] at h'; cases h'⟩
theorem flat_told {r : List (List Int)} {l e : List Int} {k : Bool} (hr : r.length < 1000000) (hrow : ∀ x ∈ r, x.length < 1000000) (hl : l.length < 1000000) (he : e.length < 1000000) : D.flatN (dTold [dII r, dI l, dI e, .bl k]) 5 = true := by
  refine flat_tup (by simp) fun d hd => ?_
  simp only [List.mem_cons, List.not_mem_nil, or_false] at hd
  rcases hd with rfl | rfl | rfl | rfl | rfl
  · rfl
  · exact flat_dII hr hrow
  · exact flat_dI hl
  · exact flat_dI he
  · rfl
theorem pure__law_refusals : ∀ ds AQ AX, r__law_refusals ds AQ AX → a__law_refusals (aEnds AQ AX) (ent 12 ds) := by
  intro ds AQ AX h
  obtain ⟨_, _, _, _, _, rfl, rfl, r, l, e, ns, ss, l', e', rfl, rfl, rfl, rfl, good, lpos, hns, hsl, hpl, q⟩ := fs5_el h
  show a__law_refusals (aEnds AQ AX) [some (.fz .sto), some (.fz (shp r l e)), some (.fz (mD r l e)), some (.fz (dI ns)), some (.fz (dS ss)), none, none, none, none, none, none, none]
  have x0 : ∀ {Q : TQ}, fIx (shp r l e) (.int 0) Q = Q (.fz (dII r)) := fun {Q} => s_ixT0
  have x1 : ∀ {Q : TQ}, fIx (shp r l e) (.int 1) Q = Q (.fz (dI l)) := fun {Q} => s_ixT1
  have x2 : ∀ {Q : TQ}, fIx (shp r l e) (.int 2) Q = Q (.fz (dI e)) := fun {Q} => s_ixT2
  have g0 := good_nul good
  have b8 := good.b8
  have r8 := good.r8
  have ll := good.ll
  have b1 := good.b1
  have rr1 := good.r1
  have fin : ∀ (wh : List Int) (k : Nat) (rows : List Sk) (at_ : Nat) (v x : Int) (dB : D), wh.length ≤ 9 → badSet wh (stand e) = some k → rows.length < 1000 → play l e rows 0 = .error at_ → ((aSeq (aIf (rNotT (rTB (rCall r__law_same [] (rCons (rCall r__law_guard [] (rCons (rV 2) (rCons (r2 fIx (rV 6) (rD (.int 0))) rNil))) (rCons (rTupD (rCons (rD (.str "refused")) (rCons (rTupD (rCons (rD (.str "BadSet")) (rCons (r2 fIx (rV 6) (rD (.int 1))) rNil))) rNil))) rNil))))) (aSeq (aRet (rD (.bl false))) aNext) aNext) (aSeq (aIf (rNotT (rTB (rCall r__law_same [] (rCons (rCall r__law_guard [] (rCons (rV 5) (rCons (rLst rNil) rNil))) (rCons (rTupD (rCons (rD (.str "refused")) (rCons (rTupD (rCons (rD (.str "Over")) rNil)) rNil))) rNil))))) (aSeq (aRet (rD (.bl false))) aNext) aNext) (aSeq (aIf (rNotT (rTB (rCall r__law_same [] (rCons (rCall r__law_guard [] (rCons (rV 5) (rCons (r2 fIx (rV 6) (rD (.int 0))) rNil))) (rCons (rTupD (rCons (rD (.str "refused")) (rCons (rTupD (rCons (rD (.str "Over")) rNil)) rNil))) rNil))))) (aSeq (aRet (rD (.bl false))) aNext) aNext) (aSeq (aIf (rNotT (rTB (rCall r__law_same [] (rCons (rCall r__law_behind [] (rCons (rV 5) (rCons (rLst (rCons (rTupD (rCons (rV 8) (rCons (rV 9) (rCons (rD (.int 1)) rNil)))) rNil)) rNil))) (rCons (rTupD (rCons (rD (.str "refused")) (rCons (rTupD (rCons (rD (.str "BadStrike")) (rCons (rD (.int 0)) rNil))) rNil))) rNil))))) (aSeq (aRet (rD (.bl false))) aNext) aNext) (aSeq (aIf (rNotT (rTB (rCall r__law_same [] (rCons (rCall r__law_behind [] (rCons (rV 5) (rCons (rLst rNil) rNil))) (rCons (rTupD (rCons (rD (.str "told")) (rCons (r2 fIx (rV 1) (rD (.int 0))) (rCons (r2 fMul (rLst (rCons (rD (.int 0)) rNil)) (rN fLen (rCons (r2 fIx (rV 1) (rD (.int 1))) rNil))) (rCons (r2 fMul (rLst (rCons (rD (.int 0)) rNil)) (rN fLen (rCons (r2 fIx (rV 1) (rD (.int 2))) rNil))) (rCons (rD (.bl true)) rNil)))))) rNil))))) (aSeq (aRet (rD (.bl false))) aNext) aNext) (aSeq (aRet (rCall r__law_same [] (rCons (rCall r__law_behind [] (rCons (rV 2) (rCons (rV 11) rNil))) (rCons (rTupD (rCons (rD (.str "refused")) (rCons (rTupD (rCons (rD (.str "BadStrike")) (rCons (rV 7) rNil))) rNil))) rNil)))) aNext))))))) (aEnds AQ AX) [some (.fz .sto), some (.fz (shp r l e)), some (.fz (mD r l e)), some (.fz (dI ns)), some (.fz (dS ss)), some (.fz (mD r (nul l.length) (nul e.length))), some (.fz (.tup [dI wh, .int k])), some (.fz (.int at_)), some (.fz (.int v)), some (.fz (.int x)), some (.fz dB), some (.fz (dS rows))] := by
    intro wh k rows at_ v x dB h1 h2 h3 h4
    have n0 : ¬ okS (nul l.length) (nul e.length) (v, x, 1) := fun z => by
      have h6 := z.2.2.2.2.2.1
      rw [nul_gt] at h6
      have h7 : (1 : Int) ≤ 0 := h6
      omega
    have p1 : play (nul l.length) (nul e.length) [(v, x, 1)] 0 = .error 0 := by
      show (if okS _ _ _ then _ else _) = _
      rw [if_neg n0]
    have t1 : (D.bl true) = .bl (decide ((nul l.length).sum = 0)) := by rw [nul_sum]; rfl
    have fl : D.flatN (dTold [dII r, dI (nul l.length), dI (nul e.length), .bl (decide ((nul l.length).sum = 0))]) 5 = true := flat_told (by omega) (fun y hy => by rw [good.rl y hy]; omega) (by rw [nul_len]; omega) (by rw [nul_len]; omega)
    have z : ∀ n : Nat, T.lst (((nul n).map D.int).map T.fz) = tI (nul n) := fun n => rfl
    simp only [↓s_seq, ↓s_if, ↓s_ret, ↓s_setZ, ↓s_setB, ↓s_frz, ↓s_rNotT, ↓s_rTB, ↓s_rCall, ↓s_rCons, ↓v_F0, ↓v_B0, ↓v_0, ↓v_F1, ↓v_B1, ↓v_1, ↓v_F2, ↓v_B2, ↓v_2, ↓v_F3, ↓v_B3, ↓v_3, ↓v_F4, ↓v_B4, ↓v_4, ↓v_F5, ↓v_B5, ↓v_5, ↓v_F6, ↓v_B6, ↓v_6, ↓v_F7, ↓v_B7, ↓v_7, ↓v_F8, ↓v_B8, ↓v_8, ↓v_F9, ↓v_B9, ↓v_9, ↓v_F10, ↓v_B10, ↓v_10, ↓v_F11, ↓v_B11, ↓v_11, ↓v_F12, ↓v_B12, ↓v_12, ↓v_F13, ↓v_B13, ↓v_13, ↓v_F14, ↓v_B14, ↓v_14, ↓v_F15, ↓v_B15, ↓v_15, ↓v_F16, ↓v_B16, ↓v_16, ↓v_F17, ↓v_B17, ↓v_17, ↓v_F18, ↓v_B18, ↓v_18, ↓v_F19, ↓v_B19, ↓v_19, ↓v_F20, ↓v_B20, ↓v_20, ↓v_F21, ↓v_B21, ↓v_21, ↓v_F22, ↓v_B22, ↓v_22, ↓v_F23, ↓v_B23, ↓v_23, ↓s_rD, ↓s_r1, ↓s_r2, ↓s_rN, ↓s_rNil, ↓s_rTup, ↓s_rLst, ↓s_rSl, onL_lst, ↓s_rPs, ↓s_rPn, s_envB, s_envF, oF_fz, oB_s, oB_n, oF_none, s_envB0, s_envF0, s_er, s_ers, s_ers0, s_erT, s_erL, List.getElem?_cons_succ, List.getElem?_cons_zero, List.set_cons_succ, List.set_cons_zero, List.append_nil, ↓kB_fz, kI_t, kI_f, ↓s_next, tI_er, s_ixT0, s_ixT1]
    refine in_g1 good (by omega) (by omega) h2 ⟨by simp, by simp, in_same rfl flat_refI ?_⟩
    simp only [↓s_seq, ↓s_if, ↓s_ret, ↓s_setZ, ↓s_setB, ↓s_frz, ↓s_rNotT, ↓s_rTB, ↓s_rCall, ↓s_rCons, ↓v_F0, ↓v_B0, ↓v_0, ↓v_F1, ↓v_B1, ↓v_1, ↓v_F2, ↓v_B2, ↓v_2, ↓v_F3, ↓v_B3, ↓v_3, ↓v_F4, ↓v_B4, ↓v_4, ↓v_F5, ↓v_B5, ↓v_5, ↓v_F6, ↓v_B6, ↓v_6, ↓v_F7, ↓v_B7, ↓v_7, ↓v_F8, ↓v_B8, ↓v_8, ↓v_F9, ↓v_B9, ↓v_9, ↓v_F10, ↓v_B10, ↓v_10, ↓v_F11, ↓v_B11, ↓v_11, ↓v_F12, ↓v_B12, ↓v_12, ↓v_F13, ↓v_B13, ↓v_13, ↓v_F14, ↓v_B14, ↓v_14, ↓v_F15, ↓v_B15, ↓v_15, ↓v_F16, ↓v_B16, ↓v_16, ↓v_F17, ↓v_B17, ↓v_17, ↓v_F18, ↓v_B18, ↓v_18, ↓v_F19, ↓v_B19, ↓v_19, ↓v_F20, ↓v_B20, ↓v_20, ↓v_F21, ↓v_B21, ↓v_21, ↓v_F22, ↓v_B22, ↓v_22, ↓v_F23, ↓v_B23, ↓v_23, ↓s_rD, ↓s_r1, ↓s_r2, ↓s_rN, ↓s_rNil, ↓s_rTup, ↓s_rLst, ↓s_rSl, onL_lst, ↓s_rPs, ↓s_rPn, s_envB, s_envF, oF_fz, oB_s, oB_n, oF_none, s_envB0, s_envF0, s_er, s_ers, s_ers0, s_erT, s_erL, List.getElem?_cons_succ, List.getElem?_cons_zero, List.set_cons_succ, List.set_cons_zero, List.append_nil, ↓kB_fz, kI_t, kI_f, ↓s_next, tI_er, Bool.not_true]
    refine ⟨by simp, in_g0 (ns := []) g0 (by simp) nul_sum ⟨by simp, by simp, in_same rfl flat_ref ?_⟩⟩
    simp only [↓s_seq, ↓s_if, ↓s_ret, ↓s_setZ, ↓s_setB, ↓s_frz, ↓s_rNotT, ↓s_rTB, ↓s_rCall, ↓s_rCons, ↓v_F0, ↓v_B0, ↓v_0, ↓v_F1, ↓v_B1, ↓v_1, ↓v_F2, ↓v_B2, ↓v_2, ↓v_F3, ↓v_B3, ↓v_3, ↓v_F4, ↓v_B4, ↓v_4, ↓v_F5, ↓v_B5, ↓v_5, ↓v_F6, ↓v_B6, ↓v_6, ↓v_F7, ↓v_B7, ↓v_7, ↓v_F8, ↓v_B8, ↓v_8, ↓v_F9, ↓v_B9, ↓v_9, ↓v_F10, ↓v_B10, ↓v_10, ↓v_F11, ↓v_B11, ↓v_11, ↓v_F12, ↓v_B12, ↓v_12, ↓v_F13, ↓v_B13, ↓v_13, ↓v_F14, ↓v_B14, ↓v_14, ↓v_F15, ↓v_B15, ↓v_15, ↓v_F16, ↓v_B16, ↓v_16, ↓v_F17, ↓v_B17, ↓v_17, ↓v_F18, ↓v_B18, ↓v_18, ↓v_F19, ↓v_B19, ↓v_19, ↓v_F20, ↓v_B20, ↓v_20, ↓v_F21, ↓v_B21, ↓v_21, ↓v_F22, ↓v_B22, ↓v_22, ↓v_F23, ↓v_B23, ↓v_23, ↓s_rD, ↓s_r1, ↓s_r2, ↓s_rN, ↓s_rNil, ↓s_rTup, ↓s_rLst, ↓s_rSl, onL_lst, ↓s_rPs, ↓s_rPn, s_envB, s_envF, oF_fz, oB_s, oB_n, oF_none, s_envB0, s_envF0, s_er, s_ers, s_ers0, s_erT, s_erL, List.getElem?_cons_succ, List.getElem?_cons_zero, List.set_cons_succ, List.set_cons_zero, List.append_nil, ↓kB_fz, kI_t, kI_f, ↓s_next, tI_er, Bool.not_true, s_ixT0]
    refine in_g0 g0 (by omega) nul_sum ⟨by simp, by simp, in_same rfl flat_ref ?_⟩
    simp only [↓s_seq, ↓s_if, ↓s_ret, ↓s_setZ, ↓s_setB, ↓s_frz, ↓s_rNotT, ↓s_rTB, ↓s_rCall, ↓s_rCons, ↓v_F0, ↓v_B0, ↓v_0, ↓v_F1, ↓v_B1, ↓v_1, ↓v_F2, ↓v_B2, ↓v_2, ↓v_F3, ↓v_B3, ↓v_3, ↓v_F4, ↓v_B4, ↓v_4, ↓v_F5, ↓v_B5, ↓v_5, ↓v_F6, ↓v_B6, ↓v_6, ↓v_F7, ↓v_B7, ↓v_7, ↓v_F8, ↓v_B8, ↓v_8, ↓v_F9, ↓v_B9, ↓v_9, ↓v_F10, ↓v_B10, ↓v_10, ↓v_F11, ↓v_B11, ↓v_11, ↓v_F12, ↓v_B12, ↓v_12, ↓v_F13, ↓v_B13, ↓v_13, ↓v_F14, ↓v_B14, ↓v_14, ↓v_F15, ↓v_B15, ↓v_15, ↓v_F16, ↓v_B16, ↓v_16, ↓v_F17, ↓v_B17, ↓v_17, ↓v_F18, ↓v_B18, ↓v_18, ↓v_F19, ↓v_B19, ↓v_19, ↓v_F20, ↓v_B20, ↓v_20, ↓v_F21, ↓v_B21, ↓v_21, ↓v_F22, ↓v_B22, ↓v_22, ↓v_F23, ↓v_B23, ↓v_23, ↓s_rD, ↓s_r1, ↓s_r2, ↓s_rN, ↓s_rNil, ↓s_rTup, ↓s_rLst, ↓s_rSl, onL_lst, ↓s_rPs, ↓s_rPn, s_envB, s_envF, oF_fz, oB_s, oB_n, oF_none, s_envB0, s_envF0, s_er, s_ers, s_ers0, s_erT, s_erL, List.getElem?_cons_succ, List.getElem?_cons_zero, List.set_cons_succ, List.set_cons_zero, List.append_nil, ↓kB_fz, kI_t, kI_f, ↓s_next, tI_er, Bool.not_true]
    refine ⟨by simp, by simp, in_be (ss := [(v, x, 1)]) (k := 0) g0 (by simp) p1 ⟨by simp, by simp, in_same rfl flat_refI ?_⟩⟩
    simp only [↓s_seq, ↓s_if, ↓s_ret, ↓s_setZ, ↓s_setB, ↓s_frz, ↓s_rNotT, ↓s_rTB, ↓s_rCall, ↓s_rCons, ↓v_F0, ↓v_B0, ↓v_0, ↓v_F1, ↓v_B1, ↓v_1, ↓v_F2, ↓v_B2, ↓v_2, ↓v_F3, ↓v_B3, ↓v_3, ↓v_F4, ↓v_B4, ↓v_4, ↓v_F5, ↓v_B5, ↓v_5, ↓v_F6, ↓v_B6, ↓v_6, ↓v_F7, ↓v_B7, ↓v_7, ↓v_F8, ↓v_B8, ↓v_8, ↓v_F9, ↓v_B9, ↓v_9, ↓v_F10, ↓v_B10, ↓v_10, ↓v_F11, ↓v_B11, ↓v_11, ↓v_F12, ↓v_B12, ↓v_12, ↓v_F13, ↓v_B13, ↓v_13, ↓v_F14, ↓v_B14, ↓v_14, ↓v_F15, ↓v_B15, ↓v_15, ↓v_F16, ↓v_B16, ↓v_16, ↓v_F17, ↓v_B17, ↓v_17, ↓v_F18, ↓v_B18, ↓v_18, ↓v_F19, ↓v_B19, ↓v_19, ↓v_F20, ↓v_B20, ↓v_20, ↓v_F21, ↓v_B21, ↓v_21, ↓v_F22, ↓v_B22, ↓v_22, ↓v_F23, ↓v_B23, ↓v_23, ↓s_rD, ↓s_r1, ↓s_r2, ↓s_rN, ↓s_rNil, ↓s_rTup, ↓s_rLst, ↓s_rSl, onL_lst, ↓s_rPs, ↓s_rPn, s_envB, s_envF, oF_fz, oB_s, oB_n, oF_none, s_envB0, s_envF0, s_er, s_ers, s_ers0, s_erT, s_erL, List.getElem?_cons_succ, List.getElem?_cons_zero, List.set_cons_succ, List.set_cons_zero, List.append_nil, ↓kB_fz, kI_t, kI_f, ↓s_next, tI_er, Bool.not_true]
    refine ⟨by simp, in_bo (ss := []) (l' := nul l.length) (e' := nul e.length) g0 (by simp) rfl ?_⟩
    simp only [↓s_seq, ↓s_if, ↓s_ret, ↓s_setZ, ↓s_setB, ↓s_frz, ↓s_rNotT, ↓s_rTB, ↓s_rCall, ↓s_rCons, ↓v_F0, ↓v_B0, ↓v_0, ↓v_F1, ↓v_B1, ↓v_1, ↓v_F2, ↓v_B2, ↓v_2, ↓v_F3, ↓v_B3, ↓v_3, ↓v_F4, ↓v_B4, ↓v_4, ↓v_F5, ↓v_B5, ↓v_5, ↓v_F6, ↓v_B6, ↓v_6, ↓v_F7, ↓v_B7, ↓v_7, ↓v_F8, ↓v_B8, ↓v_8, ↓v_F9, ↓v_B9, ↓v_9, ↓v_F10, ↓v_B10, ↓v_10, ↓v_F11, ↓v_B11, ↓v_11, ↓v_F12, ↓v_B12, ↓v_12, ↓v_F13, ↓v_B13, ↓v_13, ↓v_F14, ↓v_B14, ↓v_14, ↓v_F15, ↓v_B15, ↓v_15, ↓v_F16, ↓v_B16, ↓v_16, ↓v_F17, ↓v_B17, ↓v_17, ↓v_F18, ↓v_B18, ↓v_18, ↓v_F19, ↓v_B19, ↓v_19, ↓v_F20, ↓v_B20, ↓v_20, ↓v_F21, ↓v_B21, ↓v_21, ↓v_F22, ↓v_B22, ↓v_22, ↓v_F23, ↓v_B23, ↓v_23, ↓s_rD, ↓s_r1, ↓s_r2, ↓s_rN, ↓s_rNil, ↓s_rTup, ↓s_rLst, ↓s_rSl, onL_lst, ↓s_rPs, ↓s_rPn, s_envB, s_envF, oF_fz, oB_s, oB_n, oF_none, s_envB0, s_envF0, s_er, s_ers, s_ers0, s_erT, s_erL, List.getElem?_cons_succ, List.getElem?_cons_zero, List.set_cons_succ, List.set_cons_zero, List.append_nil, ↓kB_fz, kI_t, kI_f, ↓s_next, tI_er, x0, x1, x2, s_len_ints, s_rep, rep0, z, List.length_cons, List.length_nil]
    refine ⟨by omega, ⟨by omega, by omega, by omega⟩, by omega, ⟨by omega, by omega, by omega⟩, by omega, in_same ?_ fl ?_⟩
    · rw [t1]
      rfl
    simp only [↓s_seq, ↓s_if, ↓s_ret, ↓s_setZ, ↓s_setB, ↓s_frz, ↓s_rNotT, ↓s_rTB, ↓s_rCall, ↓s_rCons, ↓v_F0, ↓v_B0, ↓v_0, ↓v_F1, ↓v_B1, ↓v_1, ↓v_F2, ↓v_B2, ↓v_2, ↓v_F3, ↓v_B3, ↓v_3, ↓v_F4, ↓v_B4, ↓v_4, ↓v_F5, ↓v_B5, ↓v_5, ↓v_F6, ↓v_B6, ↓v_6, ↓v_F7, ↓v_B7, ↓v_7, ↓v_F8, ↓v_B8, ↓v_8, ↓v_F9, ↓v_B9, ↓v_9, ↓v_F10, ↓v_B10, ↓v_10, ↓v_F11, ↓v_B11, ↓v_11, ↓v_F12, ↓v_B12, ↓v_12, ↓v_F13, ↓v_B13, ↓v_13, ↓v_F14, ↓v_B14, ↓v_14, ↓v_F15, ↓v_B15, ↓v_15, ↓v_F16, ↓v_B16, ↓v_16, ↓v_F17, ↓v_B17, ↓v_17, ↓v_F18, ↓v_B18, ↓v_18, ↓v_F19, ↓v_B19, ↓v_19, ↓v_F20, ↓v_B20, ↓v_20, ↓v_F21, ↓v_B21, ↓v_21, ↓v_F22, ↓v_B22, ↓v_22, ↓v_F23, ↓v_B23, ↓v_23, ↓s_rD, ↓s_r1, ↓s_r2, ↓s_rN, ↓s_rNil, ↓s_rTup, ↓s_rLst, ↓s_rSl, onL_lst, ↓s_rPs, ↓s_rPn, s_envB, s_envF, oF_fz, oB_s, oB_n, oF_none, s_envB0, s_envF0, s_er, s_ers, s_ers0, s_erT, s_erL, List.getElem?_cons_succ, List.getElem?_cons_zero, List.set_cons_succ, List.set_cons_zero, List.append_nil, ↓kB_fz, kI_t, kI_f, ↓s_next, tI_er, Bool.not_true]
    exact in_be good h3 h4 ⟨by simp, by simp, in_same rfl flat_refI q⟩
  unfold a__law_refusals
  generalize ((aSeq (aIf (rNotT (rTB (rCall r__law_same [] (rCons (rCall r__law_guard [] (rCons (rV 2) (rCons (r2 fIx (rV 6) (rD (.int 0))) rNil))) (rCons (rTupD (rCons (rD (.str "refused")) (rCons (rTupD (rCons (rD (.str "BadSet")) (rCons (r2 fIx (rV 6) (rD (.int 1))) rNil))) rNil))) rNil))))) (aSeq (aRet (rD (.bl false))) aNext) aNext) (aSeq (aIf (rNotT (rTB (rCall r__law_same [] (rCons (rCall r__law_guard [] (rCons (rV 5) (rCons (rLst rNil) rNil))) (rCons (rTupD (rCons (rD (.str "refused")) (rCons (rTupD (rCons (rD (.str "Over")) rNil)) rNil))) rNil))))) (aSeq (aRet (rD (.bl false))) aNext) aNext) (aSeq (aIf (rNotT (rTB (rCall r__law_same [] (rCons (rCall r__law_guard [] (rCons (rV 5) (rCons (r2 fIx (rV 6) (rD (.int 0))) rNil))) (rCons (rTupD (rCons (rD (.str "refused")) (rCons (rTupD (rCons (rD (.str "Over")) rNil)) rNil))) rNil))))) (aSeq (aRet (rD (.bl false))) aNext) aNext) (aSeq (aIf (rNotT (rTB (rCall r__law_same [] (rCons (rCall r__law_behind [] (rCons (rV 5) (rCons (rLst (rCons (rTupD (rCons (rV 8) (rCons (rV 9) (rCons (rD (.int 1)) rNil)))) rNil)) rNil))) (rCons (rTupD (rCons (rD (.str "refused")) (rCons (rTupD (rCons (rD (.str "BadStrike")) (rCons (rD (.int 0)) rNil))) rNil))) rNil))))) (aSeq (aRet (rD (.bl false))) aNext) aNext) (aSeq (aIf (rNotT (rTB (rCall r__law_same [] (rCons (rCall r__law_behind [] (rCons (rV 5) (rCons (rLst rNil) rNil))) (rCons (rTupD (rCons (rD (.str "told")) (rCons (r2 fIx (rV 1) (rD (.int 0))) (rCons (r2 fMul (rLst (rCons (rD (.int 0)) rNil)) (rN fLen (rCons (r2 fIx (rV 1) (rD (.int 1))) rNil))) (rCons (r2 fMul (rLst (rCons (rD (.int 0)) rNil)) (rN fLen (rCons (r2 fIx (rV 1) (rD (.int 2))) rNil))) (rCons (rD (.bl true)) rNil)))))) rNil))))) (aSeq (aRet (rD (.bl false))) aNext) aNext) (aSeq (aRet (rCall r__law_same [] (rCons (rCall r__law_behind [] (rCons (rV 2) (rCons (rV 11) rNil))) (rCons (rTupD (rCons (rD (.str "refused")) (rCons (rTupD (rCons (rD (.str "BadStrike")) (rCons (rV 7) rNil))) rNil))) rNil)))) aNext))))))) = R at fin ⊢
  have hC : ∀ (e : En) (AQ : TQ) (AX : XQ), AQ (.fz (.int b20)) → (r2 fPow (rD (.int 10)) (rD (.int 20))) e AQ AX := fun e AQ AX h => by
    show fPow (.int 10) (.int 20) AQ
    rw [f20]
    exact h
  generalize (r2 fPow (rD (.int 10)) (rD (.int 20))) = C at hC ⊢
  have sl := stand_len (e := e)
  obtain ⟨nm1, nm2, _⟩ := badFrom_none hns
  have nl : ns.length ≤ 8 := by
    have h1 := asc_len (a := 0) (b := e.length) nm2 fun x hx => by
      obtain ⟨x0, x1, _⟩ := mem_stand (nm1 x hx)
      exact ⟨x0, x1⟩
    omega
  simp only [↓s_seq, ↓s_if, ↓s_ret, ↓s_setZ, ↓s_setB, ↓s_frz, ↓s_rNotT, ↓s_rTB, ↓s_rCall, ↓s_rCons, ↓v_F0, ↓v_B0, ↓v_0, ↓v_F1, ↓v_B1, ↓v_1, ↓v_F2, ↓v_B2, ↓v_2, ↓v_F3, ↓v_B3, ↓v_3, ↓v_F4, ↓v_B4, ↓v_4, ↓v_F5, ↓v_B5, ↓v_5, ↓v_F6, ↓v_B6, ↓v_6, ↓v_F7, ↓v_B7, ↓v_7, ↓v_F8, ↓v_B8, ↓v_8, ↓v_F9, ↓v_B9, ↓v_9, ↓v_F10, ↓v_B10, ↓v_10, ↓v_F11, ↓v_B11, ↓v_11, ↓v_F12, ↓v_B12, ↓v_12, ↓v_F13, ↓v_B13, ↓v_13, ↓v_F14, ↓v_B14, ↓v_14, ↓v_F15, ↓v_B15, ↓v_15, ↓v_F16, ↓v_B16, ↓v_16, ↓v_F17, ↓v_B17, ↓v_17, ↓v_F18, ↓v_B18, ↓v_18, ↓v_F19, ↓v_B19, ↓v_19, ↓v_F20, ↓v_B20, ↓v_20, ↓v_F21, ↓v_B21, ↓v_21, ↓v_F22, ↓v_B22, ↓v_22, ↓v_F23, ↓v_B23, ↓v_23, ↓s_rD, ↓s_r1, ↓s_r2, ↓s_rN, ↓s_rNil, ↓s_rTup, ↓s_rLst, ↓s_rSl, onL_lst, ↓s_rPs, ↓s_rPn, s_envB, s_envF, oF_fz, oB_s, oB_n, oF_none, s_envB0, s_envF0, s_er, s_ers, s_ers0, s_erT, s_erL, List.getElem?_cons_succ, List.getElem?_cons_zero, List.set_cons_succ, List.set_cons_zero, List.append_nil, ↓kB_fz, kI_t, kI_f, ↓s_next, tI_er, x1, x2]
  refine in1 ⟨r, l, e, rfl, good, ?_⟩
  refine in1 ⟨e, rfl, b8, ?_⟩
  simp only [↓s_seq, ↓s_if, ↓s_ret, ↓s_setZ, ↓s_setB, ↓s_frz, ↓s_rNotT, ↓s_rTB, ↓s_rCall, ↓s_rCons, ↓v_F0, ↓v_B0, ↓v_0, ↓v_F1, ↓v_B1, ↓v_1, ↓v_F2, ↓v_B2, ↓v_2, ↓v_F3, ↓v_B3, ↓v_3, ↓v_F4, ↓v_B4, ↓v_4, ↓v_F5, ↓v_B5, ↓v_5, ↓v_F6, ↓v_B6, ↓v_6, ↓v_F7, ↓v_B7, ↓v_7, ↓v_F8, ↓v_B8, ↓v_8, ↓v_F9, ↓v_B9, ↓v_9, ↓v_F10, ↓v_B10, ↓v_10, ↓v_F11, ↓v_B11, ↓v_11, ↓v_F12, ↓v_B12, ↓v_12, ↓v_F13, ↓v_B13, ↓v_13, ↓v_F14, ↓v_B14, ↓v_14, ↓v_F15, ↓v_B15, ↓v_15, ↓v_F16, ↓v_B16, ↓v_16, ↓v_F17, ↓v_B17, ↓v_17, ↓v_F18, ↓v_B18, ↓v_18, ↓v_F19, ↓v_B19, ↓v_19, ↓v_F20, ↓v_B20, ↓v_20, ↓v_F21, ↓v_B21, ↓v_21, ↓v_F22, ↓v_B22, ↓v_22, ↓v_F23, ↓v_B23, ↓v_23, ↓s_rD, ↓s_r1, ↓s_r2, ↓s_rN, ↓s_rNil, ↓s_rTup, ↓s_rLst, ↓s_rSl, onL_lst, ↓s_rPs, ↓s_rPn, s_envB, s_envF, oF_fz, oB_s, oB_n, oF_none, s_envB0, s_envF0, s_er, s_ers, s_ers0, s_erT, s_erL, List.getElem?_cons_succ, List.getElem?_cons_zero, List.set_cons_succ, List.set_cons_zero, List.append_nil, ↓kB_fz, kI_t, kI_f, ↓s_next, tI_er]
  refine in3 ⟨rfl, ns, stand e, rfl, rfl, by omega, nl, fun x hx => ?_, hns, fun wh k wl wb => ?_⟩
  · obtain ⟨q1, q2, _⟩ := mem_stand hx
    omega
  simp only [↓s_seq, ↓s_if, ↓s_ret, ↓s_setZ, ↓s_setB, ↓s_frz, ↓s_rNotT, ↓s_rTB, ↓s_rCall, ↓s_rCons, ↓v_F0, ↓v_B0, ↓v_0, ↓v_F1, ↓v_B1, ↓v_1, ↓v_F2, ↓v_B2, ↓v_2, ↓v_F3, ↓v_B3, ↓v_3, ↓v_F4, ↓v_B4, ↓v_4, ↓v_F5, ↓v_B5, ↓v_5, ↓v_F6, ↓v_B6, ↓v_6, ↓v_F7, ↓v_B7, ↓v_7, ↓v_F8, ↓v_B8, ↓v_8, ↓v_F9, ↓v_B9, ↓v_9, ↓v_F10, ↓v_B10, ↓v_10, ↓v_F11, ↓v_B11, ↓v_11, ↓v_F12, ↓v_B12, ↓v_12, ↓v_F13, ↓v_B13, ↓v_13, ↓v_F14, ↓v_B14, ↓v_14, ↓v_F15, ↓v_B15, ↓v_15, ↓v_F16, ↓v_B16, ↓v_16, ↓v_F17, ↓v_B17, ↓v_17, ↓v_F18, ↓v_B18, ↓v_18, ↓v_F19, ↓v_B19, ↓v_19, ↓v_F20, ↓v_B20, ↓v_20, ↓v_F21, ↓v_B21, ↓v_21, ↓v_F22, ↓v_B22, ↓v_22, ↓v_F23, ↓v_B23, ↓v_23, ↓s_rD, ↓s_r1, ↓s_r2, ↓s_rN, ↓s_rNil, ↓s_rTup, ↓s_rLst, ↓s_rSl, onL_lst, ↓s_rPs, ↓s_rPn, s_envB, s_envF, oF_fz, oB_s, oB_n, oF_none, s_envB0, s_envF0, s_er, s_ers, s_ers0, s_erT, s_erL, List.getElem?_cons_succ, List.getElem?_cons_zero, List.set_cons_succ, List.set_cons_zero, List.append_nil, ↓kB_fz, kI_t, kI_f, ↓s_next, tI_er, len_dS, s_len_ints, s_add, mT_er]
  refine do_take (by omega) (by omega) fun at_ a0 a1 => ?_
  refine do_take (by omega) (by omega) fun v v0 v1 => ?_
  refine do_take (by omega) (by omega) fun x xx0 xx1 => ?_
  simp only [↓s_seq, ↓s_if, ↓s_ret, ↓s_setZ, ↓s_setB, ↓s_frz, ↓s_rNotT, ↓s_rTB, ↓s_rCall, ↓s_rCons, ↓v_F0, ↓v_B0, ↓v_0, ↓v_F1, ↓v_B1, ↓v_1, ↓v_F2, ↓v_B2, ↓v_2, ↓v_F3, ↓v_B3, ↓v_3, ↓v_F4, ↓v_B4, ↓v_4, ↓v_F5, ↓v_B5, ↓v_5, ↓v_F6, ↓v_B6, ↓v_6, ↓v_F7, ↓v_B7, ↓v_7, ↓v_F8, ↓v_B8, ↓v_8, ↓v_F9, ↓v_B9, ↓v_9, ↓v_F10, ↓v_B10, ↓v_10, ↓v_F11, ↓v_B11, ↓v_11, ↓v_F12, ↓v_B12, ↓v_12, ↓v_F13, ↓v_B13, ↓v_13, ↓v_F14, ↓v_B14, ↓v_14, ↓v_F15, ↓v_B15, ↓v_15, ↓v_F16, ↓v_B16, ↓v_16, ↓v_F17, ↓v_B17, ↓v_17, ↓v_F18, ↓v_B18, ↓v_18, ↓v_F19, ↓v_B19, ↓v_19, ↓v_F20, ↓v_B20, ↓v_20, ↓v_F21, ↓v_B21, ↓v_21, ↓v_F22, ↓v_B22, ↓v_22, ↓v_F23, ↓v_B23, ↓v_23, ↓s_rD, ↓s_r1, ↓s_r2, ↓s_rN, ↓s_rNil, ↓s_rTup, ↓s_rLst, ↓s_rSl, onL_lst, ↓s_rPs, ↓s_rPn, s_envB, s_envF, oF_fz, oB_s, oB_n, oF_none, s_envB0, s_envF0, s_er, s_ers, s_ers0, s_erT, s_erL, List.getElem?_cons_succ, List.getElem?_cons_zero, List.set_cons_succ, List.set_cons_zero, List.append_nil, ↓kB_fz, kI_t, kI_f, ↓s_next, tI_er, s_neg]
  refine ⟨by simp, by simp, hC _ _ _ ?_⟩
  simp only [↓s_seq, ↓s_if, ↓s_ret, ↓s_setZ, ↓s_setB, ↓s_frz, ↓s_rNotT, ↓s_rTB, ↓s_rCall, ↓s_rCons, ↓v_F0, ↓v_B0, ↓v_0, ↓v_F1, ↓v_B1, ↓v_1, ↓v_F2, ↓v_B2, ↓v_2, ↓v_F3, ↓v_B3, ↓v_3, ↓v_F4, ↓v_B4, ↓v_4, ↓v_F5, ↓v_B5, ↓v_5, ↓v_F6, ↓v_B6, ↓v_6, ↓v_F7, ↓v_B7, ↓v_7, ↓v_F8, ↓v_B8, ↓v_8, ↓v_F9, ↓v_B9, ↓v_9, ↓v_F10, ↓v_B10, ↓v_10, ↓v_F11, ↓v_B11, ↓v_11, ↓v_F12, ↓v_B12, ↓v_12, ↓v_F13, ↓v_B13, ↓v_13, ↓v_F14, ↓v_B14, ↓v_14, ↓v_F15, ↓v_B15, ↓v_15, ↓v_F16, ↓v_B16, ↓v_16, ↓v_F17, ↓v_B17, ↓v_17, ↓v_F18, ↓v_B18, ↓v_18, ↓v_F19, ↓v_B19, ↓v_19, ↓v_F20, ↓v_B20, ↓v_20, ↓v_F21, ↓v_B21, ↓v_21, ↓v_F22, ↓v_B22, ↓v_22, ↓v_F23, ↓v_B23, ↓v_23, ↓s_rD, ↓s_r1, ↓s_r2, ↓s_rN, ↓s_rNil, ↓s_rTup, ↓s_rLst, ↓s_rSl, onL_lst, ↓s_rPs, ↓s_rPn, s_envB, s_envF, oF_fz, oB_s, oB_n, oF_none, s_envB0, s_envF0, s_er, s_ers, s_ers0, s_erT, s_erL, List.getElem?_cons_succ, List.getElem?_cons_zero, List.set_cons_succ, List.set_cons_zero, List.append_nil, ↓kB_fz, kI_t, kI_f, ↓s_next, tI_er]
  refine ⟨by simp, in2 ⟨rfl, l.length, rfl, by omega, by omega, fun k1 hk1 => ⟨by simp, by simp, in2 ⟨rfl, e.length, rfl, by omega, by omega, fun k2 hk2 => ⟨by simp, by simp, ?_⟩⟩⟩⟩⟩
  simp only [↓s_seq, ↓s_if, ↓s_ret, ↓s_setZ, ↓s_setB, ↓s_frz, ↓s_rNotT, ↓s_rTB, ↓s_rCall, ↓s_rCons, ↓v_F0, ↓v_B0, ↓v_0, ↓v_F1, ↓v_B1, ↓v_1, ↓v_F2, ↓v_B2, ↓v_2, ↓v_F3, ↓v_B3, ↓v_3, ↓v_F4, ↓v_B4, ↓v_4, ↓v_F5, ↓v_B5, ↓v_5, ↓v_F6, ↓v_B6, ↓v_6, ↓v_F7, ↓v_B7, ↓v_7, ↓v_F8, ↓v_B8, ↓v_8, ↓v_F9, ↓v_B9, ↓v_9, ↓v_F10, ↓v_B10, ↓v_10, ↓v_F11, ↓v_B11, ↓v_11, ↓v_F12, ↓v_B12, ↓v_12, ↓v_F13, ↓v_B13, ↓v_13, ↓v_F14, ↓v_B14, ↓v_14, ↓v_F15, ↓v_B15, ↓v_15, ↓v_F16, ↓v_B16, ↓v_16, ↓v_F17, ↓v_B17, ↓v_17, ↓v_F18, ↓v_B18, ↓v_18, ↓v_F19, ↓v_B19, ↓v_19, ↓v_F20, ↓v_B20, ↓v_20, ↓v_F21, ↓v_B21, ↓v_21, ↓v_F22, ↓v_B22, ↓v_22, ↓v_F23, ↓v_B23, ↓v_23, ↓s_rD, ↓s_r1, ↓s_r2, ↓s_rN, ↓s_rNil, ↓s_rTup, ↓s_rLst, ↓s_rSl, onL_lst, ↓s_rPs, ↓s_rPn, s_envB, s_envF, oF_fz, oB_s, oB_n, oF_none, s_envB0, s_envF0, s_er, s_ers, s_ers0, s_erT, s_erL, List.getElem?_cons_succ, List.getElem?_cons_zero, List.set_cons_succ, List.set_cons_zero, List.append_nil, ↓kB_fz, kI_t, kI_f, ↓s_next, tI_er, s_cat, sl_dS, s_ersF]
  refine ⟨by simp, in2 ⟨rfl, _, rfl, by simp, by simp, fun d hd => ?_⟩⟩
  obtain ⟨s, rfl, hsk⟩ : ∃ s : Sk, d = dSk s ∧ ∀ g b, Good r g b → ¬ okS g b s := by
    simp only [List.mem_append, List.mem_cons, List.not_mem_nil, or_false] at hd
    rcases hd with (rfl | rfl | rfl | rfl) | rfl
    · exact ⟨(v, x, 0), rfl, fun g b hg ok => absurd ok.2.2.2.2.1 (by show ¬ (1 : Int) ≤ 0; omega)⟩
    · exact ⟨(v, x, -1), rfl, fun g b hg ok => absurd ok.2.2.2.2.1 (by show ¬ (1 : Int) ≤ -1; omega)⟩
    · refine ⟨(v, x, b20), rfl, fun g b hg ok => ?_⟩
      have h1 : b20 ≤ gt g v := ok.2.2.2.2.2.1
      have h2 := hg.la _ (gt_mem (xs := g) (k := v) ok.1 ok.2.1)
      unfold b20 at h1
      omega
    · refine ⟨(k1, x, 1), rfl, fun g b hg ok => ?_⟩
      have h1 : 0 ≤ k1 := ok.1
      have h2 : k1 < g.length := ok.2.1
      have h3 := (good_len good hg).1
      omega
    · refine ⟨(v, k2, 1), rfl, fun g b hg ok => ?_⟩
      have h1 : 0 ≤ k2 := ok.2.2.1
      have h2 : k2 < b.length := ok.2.2.2.1
      have h3 := (good_len good hg).2
      omega
  obtain ⟨n, rfl⟩ : ∃ n : Nat, at_ = n := ⟨at_.toNat, by omega⟩
  have hpl2 : play l e (ss.take n ++ ss.drop n) 0 = .ok (l', e') := by rw [List.take_append_drop]; exact hpl
  obtain ⟨g, b, hgb⟩ := play_pre hpl2
  have perr := play_bad (post := ss.drop n) hgb (hsk g b (play_good good hgb))
  rw [List.length_take, Nat.zero_add, Nat.min_eq_left (by omega)] at perr
  rw [cut_hi (by omega), cut_lo (by omega), Int.toNat_natCast]
  have e1 : List.map dSk (ss.take n) ++ [dSk s] ++ List.map dSk (ss.drop n) = (ss.take n ++ s :: ss.drop n).map dSk := by simp
  simp only [↓s_seq, ↓s_if, ↓s_ret, ↓s_setZ, ↓s_setB, ↓s_frz, ↓s_rNotT, ↓s_rTB, ↓s_rCall, ↓s_rCons, ↓v_F0, ↓v_B0, ↓v_0, ↓v_F1, ↓v_B1, ↓v_1, ↓v_F2, ↓v_B2, ↓v_2, ↓v_F3, ↓v_B3, ↓v_3, ↓v_F4, ↓v_B4, ↓v_4, ↓v_F5, ↓v_B5, ↓v_5, ↓v_F6, ↓v_B6, ↓v_6, ↓v_F7, ↓v_B7, ↓v_7, ↓v_F8, ↓v_B8, ↓v_8, ↓v_F9, ↓v_B9, ↓v_9, ↓v_F10, ↓v_B10, ↓v_10, ↓v_F11, ↓v_B11, ↓v_11, ↓v_F12, ↓v_B12, ↓v_12, ↓v_F13, ↓v_B13, ↓v_13, ↓v_F14, ↓v_B14, ↓v_14, ↓v_F15, ↓v_B15, ↓v_15, ↓v_F16, ↓v_B16, ↓v_16, ↓v_F17, ↓v_B17, ↓v_17, ↓v_F18, ↓v_B18, ↓v_18, ↓v_F19, ↓v_B19, ↓v_19, ↓v_F20, ↓v_B20, ↓v_20, ↓v_F21, ↓v_B21, ↓v_21, ↓v_F22, ↓v_B22, ↓v_22, ↓v_F23, ↓v_B23, ↓v_23, ↓s_rD, ↓s_r1, ↓s_r2, ↓s_rN, ↓s_rNil, ↓s_rTup, ↓s_rLst, ↓s_rSl, onL_lst, ↓s_rPs, ↓s_rPn, s_envB, s_envF, oF_fz, oB_s, oB_n, oF_none, s_envB0, s_envF0, s_er, s_ers, s_ers0, s_erT, s_erL, List.getElem?_cons_succ, List.getElem?_cons_zero, List.set_cons_succ, List.set_cons_zero, List.append_nil, ↓kB_fz, kI_t, kI_f, ↓s_next, tI_er, s_cat, sl_dS, s_ersF, ← List.map_take, ← List.map_drop, e1]
  refine ⟨by simp, by simp; omega, by simp; omega, ?_⟩
  exact fin wh k _ n v x _ wl wb (by simp; omega) perr
end K78

set_option Elab.async false
set_option linter.all false
set_option maxRecDepth 100000
set_option maxHeartbeats 4000000
namespace K78
open PySem PySem.Spec PyProof.Rows L2 AL
theorem cuts_sum : ∀ {ws : List Pc} {l l' : List Int}, cuts l ws = some l' → l.sum = (ws.map (·.2)).sum + l'.sum
  | [], l, l', h => by
    have : l = l' := by
      have h' : some l = some l' := h
      simpa using h'
    rw [this]
    simp
  | p :: ws, l, l', h => by
    have h0 : (cutL l p).bind (fun l' => cuts l' ws) = some l' := h
    cases hc : cutL l p with
    | none => rw [hc] at h0; cases h0
    | some g =>
      rw [hc] at h0
      obtain ⟨⟨c1, c2, c3, c4⟩, e⟩ := cutL_some hc
      have ih := cuts_sum h0
      rw [e, sum_set (by omega)] at ih
      have g1 : l.getD p.1.toNat 0 = gt l p.1 := rfl
      rw [g1] at ih
      rw [List.map_cons, List.sum_cons]
      omega
theorem cuts_in : ∀ {ws : List Pc} {l l' : List Int}, cuts l ws = some l' → ∀ p ∈ ws, 0 ≤ p.1 ∧ p.1 < l.length
  | [], _, _, _, _, h => nomatch h
  | w :: ws, l, l', h, p, hp => by
    have h0 : (cutL l w).bind (fun l' => cuts l' ws) = some l' := h
    cases hc : cutL l w with
    | none => rw [hc] at h0; cases h0
    | some g =>
      rw [hc] at h0
      obtain ⟨⟨c1, c2, c3, c4⟩, e⟩ := cutL_some hc
      rcases List.mem_cons.mp hp with rfl | hp
      · exact ⟨c1, c2⟩
      · have := cuts_in h0 p hp
        rw [e, List.length_set] at this
        exact this
theorem own_compl {n : Nat} {band other : List Int} (hb : ∀ x : Int, 0 ≤ x → x < n → (x ∈ other ↔ ¬ x ∈ band)) : ∀ {ws : List Pc}, ws ≠ [] → (∀ p ∈ ws, 0 ≤ p.1 ∧ p.1 < n) → ownOf ws band + ownOf ws other = (ws.map (·.2)).sum - 1
  | [], h, _ => absurd rfl h
  | [q], _, h => by
    have h1 := h q (List.mem_cons_self ..)
    have h2 := hb q.1 h1.1 h1.2
    rw [own_one, own_one]
    by_cases c : q.1 ∈ band
    · have c2 : ¬ q.1 ∈ other := fun z => (h2.mp z) c
      simp [c, c2]
    · have c2 : q.1 ∈ other := h2.mpr c
      simp [c, c2]
  | q :: w :: ws, _, h => by
    have h1 := h q (List.mem_cons_self ..)
    have h2 := hb q.1 h1.1 h1.2
    have ih := own_compl hb (ws := w :: ws) (by simp) fun p hp => h p (List.mem_cons_of_mem _ hp)
    rw [own_cons, own_cons, List.map_cons, List.sum_cons]
    by_cases c : q.1 ∈ band
    · have c2 : ¬ q.1 ∈ other := fun z => (h2.mp z) c
      rw [if_pos c, if_neg c2]
      omega
    · have c2 : q.1 ∈ other := h2.mpr c
      rw [if_neg c, if_pos c2]
      omega
theorem sum_split {α : Type} {f : α → Int} {p : α → Bool} : ∀ {L : List α}, ((L.filter p).map f).sum + ((L.filter fun x => !p x).map f).sum = (L.map f).sum
  | [] => rfl
  | x :: L => by
    have ih := sum_split (f := f) (p := p) (L := L)
    rw [List.filter_cons, List.filter_cons, List.map_cons, List.sum_cons]
    cases h : p x
    · simp
      omega
    · simp
      omega
theorem wsum_all : ∀ {xs : List Int} {k : Nat}, wsum (fun _ => true) xs k = xs.sum
  | [], _ => rfl
  | x :: xs, k => by
    simp only [wsum, if_true, List.sum_cons, wsum_all]
theorem stand_sum {e : List Int} (h : ∀ x ∈ e, 0 ≤ x) : ((stand e).map (gt e)).sum = e.sum := by
  have h1 := outS_eq (aim := []) h
  have h2 : (fun i : Nat => !([] : List Int).contains (i : Int)) = fun _ => true := by funext i; rfl
  rw [h2, wsum_all] at h1
  rw [← h1]
  unfold outS outs
  rw [List.filter_eq_self.mpr (by intro x _; rfl)]
theorem outS_compl {e ns : List Int} (h : ∀ x ∈ e, 0 ≤ x) : outS e ns + outS e ((stand e).filter fun x => !ns.contains x) = e.sum := by
  rw [← stand_sum h, ← sum_split (p := fun x => !ns.contains x)]
  unfold outS outs
  congr 3
  refine List.filter_congr fun x hx => ?_
  by_cases c : x ∈ ns
  · simp [c]
  · simp [c, hx]
theorem stand_pw {e : List Int} : (stand e).Pairwise (· < ·) := by
  rw [stand_eq]
  refine List.pairwise_map.mpr ((List.pairwise_lt_range.filter _).imp fun h => ?_)
  omega
theorem bad_sub {al xs : List Int} (h : al.Pairwise (· < ·)) (hs : xs.Sublist al) : badSet xs al = none := badFrom_of (fun x hx => hs.subset hx) (h.sublist hs) fun q e => nomatch e
theorem f15 : ∀ (e : En) (AQ : TQ) (AX : XQ), AQ (.fz (.int 1000000000000000)) → (r2 fPow (rD (.int 10)) (rD (.int 15))) e AQ AX := fun e AQ AX h => by
  show fPow (.int 10) (.int 15) AQ
  rw [s_pow]
  exact ⟨⟨by decide, by decide +kernel⟩, h⟩
section
variable {r : List (List Int)} {l e : List Int} {ws : List Pc} {ns : List Int}
/-- behind the strikes -/
theorem law4 (g : Good r l e) (hp : 0 < l.sum) (hns : badSet ns (stand e) = none) {ss : List Sk} (hsl : ss.length < 990) (hpl : play l e ss 0 = .ok (nul l.length, nul e.length)) (kd : Int) (band side aim : List Int) (can : Bool) (o9 o14 : Option T) :
    ((aSeq (aSetZ 16 (rTupD (rCons (rD (.str "told")) (rCons (r2 fIx (rV 3) (rD (.int 0))) (rCons (r2 fMul (rLst (rCons (rD (.int 0)) rNil)) (rN fLen (rCons (r2 fIx (rV 3) (rD (.int 1))) rNil))) (rCons (r2 fMul (rLst (rCons (rD (.int 0)) rNil)) (rN fLen (rCons (r2 fIx (rV 3) (rD (.int 2))) rNil))) (rCons (rD (.bl true)) rNil))))))) (aSeq (aIf (rNotT (rTB (rCall r__law_same [] (rCons (rCall r__law_behind [] (rCons (rV 4) (rCons (rV 15) rNil))) (rCons (rV 16) rNil))))) (aSeq (aRet (rD (.bl false))) aNext) aNext) (aSeq (aFor (rIList (rLst (rCons (rCall r__law_some [] (rCons (rV 1) (rCons (rV 5) rNil))) (rCons (rLst rNil) (rCons (rV 5) (rCons (rV 7) rNil)))))) (.nm 17) (aSeq (aIf (rNotT (rTB (rCall r__law_same [] (rCons (rCall r__law_guard [] (rCons (rV 4) (rCons (rV 17) rNil))) (rCons (rTupD (rCons (rD (.str "told")) (rCons (rCall r__law_guard_due [] (rCons (r2 fIx (rV 3) (rD (.int 2))) (rCons (rV 17) rNil))) rNil))) rNil))))) (aSeq (aRet (rD (.bl false))) aNext) aNext) aNext)) (aSeq (aRet (rAndV (rCall r__law_kept [] (rCons (rV 4) (rCons (rV 3) rNil))) (rCall r__law_refusals [] (rCons (rV 1) (rCons (rV 3) (rCons (rV 4) (rCons (rV 7) (rCons (rV 15) rNil)))))))) aNext))))) lawEnds [none, some (.fz .sto), some (.fz (.int kd)), some (.fz (shp r l e)), some (.fz (mD r l e)), some (.fz (dI (stand e))), some (.fz (dP ws)), some (.fz (dI ns)), some (.fz (.int (outS e ns))), o9, some (.fz (dI band)), some (.fz (.bl can)), some (.fz (dI side)), some (.fz (dI aim)), o14, some (.fz (dS ss)), none, none] := by
  have x0 : ∀ {Q : TQ}, fIx (shp r l e) (.int 0) Q = Q (.fz (dII r)) := fun {Q} => s_ixT0
  have x1 : ∀ {Q : TQ}, fIx (shp r l e) (.int 1) Q = Q (.fz (dI l)) := fun {Q} => s_ixT1
  have x2 : ∀ {Q : TQ}, fIx (shp r l e) (.int 2) Q = Q (.fz (dI e)) := fun {Q} => s_ixT2
  have b8 := g.b8
  have r8 := g.r8
  have ll := g.ll
  have hls : l.sum ≠ 0 := by omega
  have hst : stand e ≠ [] := pos_stand (fun x hx => (g.ba x hx).1) (by rw [← g.eq]; exact hls)
  have slen := stand_len (e := e)
  have z : ∀ n : Nat, T.lst (((nul n).map D.int).map T.fz) = tI (nul n) := fun n => rfl
  have t1 : (D.bl true) = .bl (decide ((nul l.length).sum = 0)) := by rw [nul_sum]; rfl
  have fl : D.flatN (dTold [dII r, dI (nul l.length), dI (nul e.length), .bl (decide ((nul l.length).sum = 0))]) 5 = true := flat_told (by omega) (fun y hy => by rw [g.rl y hy]; omega) (by rw [nul_len]; omega) (by rw [nul_len]; omega)
  simp only [↓s_seq, ↓s_if, ↓s_ret, ↓s_setZ, ↓s_setB, ↓s_frz, ↓s_rNotT, ↓s_rTB, ↓s_rCall, ↓s_rCons, ↓v_F0, ↓v_B0, ↓v_0, ↓v_F1, ↓v_B1, ↓v_1, ↓v_F2, ↓v_B2, ↓v_2, ↓v_F3, ↓v_B3, ↓v_3, ↓v_F4, ↓v_B4, ↓v_4, ↓v_F5, ↓v_B5, ↓v_5, ↓v_F6, ↓v_B6, ↓v_6, ↓v_F7, ↓v_B7, ↓v_7, ↓v_F8, ↓v_B8, ↓v_8, ↓v_F9, ↓v_B9, ↓v_9, ↓v_F10, ↓v_B10, ↓v_10, ↓v_F11, ↓v_B11, ↓v_11, ↓v_F12, ↓v_B12, ↓v_12, ↓v_F13, ↓v_B13, ↓v_13, ↓v_F14, ↓v_B14, ↓v_14, ↓v_F15, ↓v_B15, ↓v_15, ↓v_F16, ↓v_B16, ↓v_16, ↓v_F17, ↓v_B17, ↓v_17, ↓v_F18, ↓v_B18, ↓v_18, ↓v_F19, ↓v_B19, ↓v_19, ↓v_F20, ↓v_B20, ↓v_20, ↓v_F21, ↓v_B21, ↓v_21, ↓v_F22, ↓v_B22, ↓v_22, ↓v_F23, ↓v_B23, ↓v_23, ↓s_rD, ↓s_r1, ↓s_r2, ↓s_rN, ↓s_rNil, ↓s_rTup, ↓s_rLst, ↓s_rSl, onL_lst, ↓s_rPs, ↓s_rPn, s_envB, s_envF, oF_fz, oB_s, oB_n, oF_none, s_envB0, s_envF0, s_er, s_ers, s_ers0, s_erT, s_erL, List.getElem?_cons_succ, List.getElem?_cons_zero, List.set_cons_succ, List.set_cons_zero, List.append_nil, ↓kB_fz, kI_t, kI_f, ↓s_next, tI_er, x0, x1, x2, s_len_ints, s_rep, rep0, z, List.length_cons, List.length_nil]
  refine ⟨by omega, ⟨by omega, by omega, by omega⟩, by omega, ⟨by omega, by omega, by omega⟩, by omega, in_bo g (by omega) hpl ?_⟩
  simp only [↓s_seq, ↓s_if, ↓s_ret, ↓s_setZ, ↓s_setB, ↓s_frz, ↓s_rNotT, ↓s_rTB, ↓s_rCall, ↓s_rCons, ↓v_F0, ↓v_B0, ↓v_0, ↓v_F1, ↓v_B1, ↓v_1, ↓v_F2, ↓v_B2, ↓v_2, ↓v_F3, ↓v_B3, ↓v_3, ↓v_F4, ↓v_B4, ↓v_4, ↓v_F5, ↓v_B5, ↓v_5, ↓v_F6, ↓v_B6, ↓v_6, ↓v_F7, ↓v_B7, ↓v_7, ↓v_F8, ↓v_B8, ↓v_8, ↓v_F9, ↓v_B9, ↓v_9, ↓v_F10, ↓v_B10, ↓v_10, ↓v_F11, ↓v_B11, ↓v_11, ↓v_F12, ↓v_B12, ↓v_12, ↓v_F13, ↓v_B13, ↓v_13, ↓v_F14, ↓v_B14, ↓v_14, ↓v_F15, ↓v_B15, ↓v_15, ↓v_F16, ↓v_B16, ↓v_16, ↓v_F17, ↓v_B17, ↓v_17, ↓v_F18, ↓v_B18, ↓v_18, ↓v_F19, ↓v_B19, ↓v_19, ↓v_F20, ↓v_B20, ↓v_20, ↓v_F21, ↓v_B21, ↓v_21, ↓v_F22, ↓v_B22, ↓v_22, ↓v_F23, ↓v_B23, ↓v_23, ↓s_rD, ↓s_r1, ↓s_r2, ↓s_rN, ↓s_rNil, ↓s_rTup, ↓s_rLst, ↓s_rSl, onL_lst, ↓s_rPs, ↓s_rPn, s_envB, s_envF, oF_fz, oB_s, oB_n, oF_none, s_envB0, s_envF0, s_er, s_ers, s_ers0, s_erT, s_erL, List.getElem?_cons_succ, List.getElem?_cons_zero, List.set_cons_succ, List.set_cons_zero, List.append_nil, ↓kB_fz, kI_t, kI_f, ↓s_next, tI_er]
  refine in_same ?_ fl ?_
  · rw [t1]
    rfl
  simp only [kB_fz, Bool.not_true, kI_f]
  simp only [↓s_for, ↓s_rIList]
  simp only [↓s_rLst, ↓s_rCons, ↓s_rCall]
  simp only [↓v_F1]
  simp only [↓v_F5]
  simp only [↓v_F7]
  simp only [↓s_rNil]
  refine in2 ⟨rfl, stand e, rfl, by omega, fun ys hys => ?_⟩
  refine ⟨by simp, by simp, ?_⟩
  show forGo _ _ _ [(tI ys).er, D.lst [], dI (stand e), dI ns] _
  rw [tI_er]
  refine for_map (f := dI) (xs := [ys, [], stand e, ns]) (fun i ρ => ∃ o17, ρ = [none, some (.fz .sto), some (.fz (.int kd)), some (.fz (shp r l e)), some (.fz (mD r l e)), some (.fz (dI (stand e))), some (.fz (dP ws)), some (.fz (dI ns)), some (.fz (.int (outS e ns))), o9, some (.fz (dI band)), some (.fz (.bl can)), some (.fz (dI side)), some (.fz (dI aim)), o14, some (.fz (dS ss)), some (.fz (.tup [.str "told", dII r, dI (nul l.length), dI (nul e.length), .bl true])), o17]) ⟨_, rfl⟩ ?_ ?_
  · rintro ρ ⟨o17, rfl⟩
    simp only [↓s_seq, ↓s_if, ↓s_ret, ↓s_setZ, ↓s_setB, ↓s_frz, ↓s_rNotT, ↓s_rTB, ↓s_rCall, ↓s_rCons, ↓v_F0, ↓v_B0, ↓v_0, ↓v_F1, ↓v_B1, ↓v_1, ↓v_F2, ↓v_B2, ↓v_2, ↓v_F3, ↓v_B3, ↓v_3, ↓v_F4, ↓v_B4, ↓v_4, ↓v_F5, ↓v_B5, ↓v_5, ↓v_F6, ↓v_B6, ↓v_6, ↓v_F7, ↓v_B7, ↓v_7, ↓v_F8, ↓v_B8, ↓v_8, ↓v_F9, ↓v_B9, ↓v_9, ↓v_F10, ↓v_B10, ↓v_10, ↓v_F11, ↓v_B11, ↓v_11, ↓v_F12, ↓v_B12, ↓v_12, ↓v_F13, ↓v_B13, ↓v_13, ↓v_F14, ↓v_B14, ↓v_14, ↓v_F15, ↓v_B15, ↓v_15, ↓v_F16, ↓v_B16, ↓v_16, ↓v_F17, ↓v_B17, ↓v_17, ↓v_F18, ↓v_B18, ↓v_18, ↓v_F19, ↓v_B19, ↓v_19, ↓v_F20, ↓v_B20, ↓v_20, ↓v_F21, ↓v_B21, ↓v_21, ↓v_F22, ↓v_B22, ↓v_22, ↓v_F23, ↓v_B23, ↓v_23, ↓s_rD, ↓s_r1, ↓s_r2, ↓s_rN, ↓s_rNil, ↓s_rTup, ↓s_rLst, ↓s_rSl, onL_lst, ↓s_rPs, ↓s_rPn, s_envB, s_envF, oF_fz, oB_s, oB_n, oF_none, s_envB0, s_envF0, s_er, s_ers, s_ers0, s_erT, s_erL, List.getElem?_cons_succ, List.getElem?_cons_zero, List.set_cons_succ, List.set_cons_zero, List.append_nil, ↓kB_fz, kI_t, kI_f, ↓s_next, tI_er, ↓s_rAndV]
    refine in2 ⟨r, l, e, rfl, rfl, r8, by omega, b8, fun row hr => by rw [g.rl row hr]; exact b8, ?_⟩
    simp only [↓s_seq, ↓s_if, ↓s_ret, ↓s_setZ, ↓s_setB, ↓s_frz, ↓s_rNotT, ↓s_rTB, ↓s_rCall, ↓s_rCons, ↓v_F0, ↓v_B0, ↓v_0, ↓v_F1, ↓v_B1, ↓v_1, ↓v_F2, ↓v_B2, ↓v_2, ↓v_F3, ↓v_B3, ↓v_3, ↓v_F4, ↓v_B4, ↓v_4, ↓v_F5, ↓v_B5, ↓v_5, ↓v_F6, ↓v_B6, ↓v_6, ↓v_F7, ↓v_B7, ↓v_7, ↓v_F8, ↓v_B8, ↓v_8, ↓v_F9, ↓v_B9, ↓v_9, ↓v_F10, ↓v_B10, ↓v_10, ↓v_F11, ↓v_B11, ↓v_11, ↓v_F12, ↓v_B12, ↓v_12, ↓v_F13, ↓v_B13, ↓v_13, ↓v_F14, ↓v_B14, ↓v_14, ↓v_F15, ↓v_B15, ↓v_15, ↓v_F16, ↓v_B16, ↓v_16, ↓v_F17, ↓v_B17, ↓v_17, ↓v_F18, ↓v_B18, ↓v_18, ↓v_F19, ↓v_B19, ↓v_19, ↓v_F20, ↓v_B20, ↓v_20, ↓v_F21, ↓v_B21, ↓v_21, ↓v_F22, ↓v_B22, ↓v_22, ↓v_F23, ↓v_B23, ↓v_23, ↓s_rD, ↓s_r1, ↓s_r2, ↓s_rN, ↓s_rNil, ↓s_rTup, ↓s_rLst, ↓s_rSl, onL_lst, ↓s_rPs, ↓s_rPn, s_envB, s_envF, oF_fz, oB_s, oB_n, oF_none, s_envB0, s_envF0, s_er, s_ers, s_ers0, s_erT, s_erL, List.getElem?_cons_succ, List.getElem?_cons_zero, List.set_cons_succ, List.set_cons_zero, List.append_nil, ↓kB_fz, kI_t, kI_f, ↓s_next, tI_er]
    exact in5 ⟨rfl, r, l, e, ns, ss, _, _, rfl, rfl, rfl, rfl, g, hp, hns, hsl, hpl, rfl⟩
  · rintro rest i row ρ hi ⟨o17, rfl⟩ k
    refine ⟨[(17, dI row)], rfl, ?_⟩
    have hm := List.mem_of_getElem? hi
    have hb : badSet row (stand e) = none := by
      simp only [List.mem_cons, List.not_mem_nil, or_false] at hm
      rcases hm with rfl | rfl | rfl | rfl
      · exact bad_sub stand_pw hys
      · rfl
      · exact bad_sub stand_pw (List.Sublist.refl _)
      · exact hns
    obtain ⟨h1, h2, _⟩ := badFrom_none hb
    have hl : row.length ≤ 8 := by
      have h3 := asc_len (a := 0) (b := e.length) h2 fun x hx => by
        obtain ⟨x0, x1, _⟩ := mem_stand (h1 x hx)
        exact ⟨x0, x1⟩
      omega
    simp only [↓s_seq, ↓s_if, ↓s_ret, ↓s_setZ, ↓s_setB, ↓s_frz, ↓s_rNotT, ↓s_rTB, ↓s_rCall, ↓s_rCons, ↓v_F0, ↓v_B0, ↓v_0, ↓v_F1, ↓v_B1, ↓v_1, ↓v_F2, ↓v_B2, ↓v_2, ↓v_F3, ↓v_B3, ↓v_3, ↓v_F4, ↓v_B4, ↓v_4, ↓v_F5, ↓v_B5, ↓v_5, ↓v_F6, ↓v_B6, ↓v_6, ↓v_F7, ↓v_B7, ↓v_7, ↓v_F8, ↓v_B8, ↓v_8, ↓v_F9, ↓v_B9, ↓v_9, ↓v_F10, ↓v_B10, ↓v_10, ↓v_F11, ↓v_B11, ↓v_11, ↓v_F12, ↓v_B12, ↓v_12, ↓v_F13, ↓v_B13, ↓v_13, ↓v_F14, ↓v_B14, ↓v_14, ↓v_F15, ↓v_B15, ↓v_15, ↓v_F16, ↓v_B16, ↓v_16, ↓v_F17, ↓v_B17, ↓v_17, ↓v_F18, ↓v_B18, ↓v_18, ↓v_F19, ↓v_B19, ↓v_19, ↓v_F20, ↓v_B20, ↓v_20, ↓v_F21, ↓v_B21, ↓v_21, ↓v_F22, ↓v_B22, ↓v_22, ↓v_F23, ↓v_B23, ↓v_23, ↓s_rD, ↓s_r1, ↓s_r2, ↓s_rN, ↓s_rNil, ↓s_rTup, ↓s_rLst, ↓s_rSl, onL_lst, ↓s_rPs, ↓s_rPn, s_envB, s_envF, oF_fz, oB_s, oB_n, oF_none, s_envB0, s_envF0, s_er, s_ers, s_ers0, s_erT, s_erL, List.getElem?_cons_succ, List.getElem?_cons_zero, List.set_cons_succ, List.set_cons_zero, List.append_nil, ↓kB_fz, kI_t, kI_f, ↓s_next, tI_er, List.map_cons, List.map_nil, s_setAll, s_setAll0, x2]
    refine in_g2 g (by omega) hls hb ?_
    refine in2 ⟨e, row, rfl, rfl, b8, hst, ?_⟩
    simp only [↓s_seq, ↓s_if, ↓s_ret, ↓s_setZ, ↓s_setB, ↓s_frz, ↓s_rNotT, ↓s_rTB, ↓s_rCall, ↓s_rCons, ↓v_F0, ↓v_B0, ↓v_0, ↓v_F1, ↓v_B1, ↓v_1, ↓v_F2, ↓v_B2, ↓v_2, ↓v_F3, ↓v_B3, ↓v_3, ↓v_F4, ↓v_B4, ↓v_4, ↓v_F5, ↓v_B5, ↓v_5, ↓v_F6, ↓v_B6, ↓v_6, ↓v_F7, ↓v_B7, ↓v_7, ↓v_F8, ↓v_B8, ↓v_8, ↓v_F9, ↓v_B9, ↓v_9, ↓v_F10, ↓v_B10, ↓v_10, ↓v_F11, ↓v_B11, ↓v_11, ↓v_F12, ↓v_B12, ↓v_12, ↓v_F13, ↓v_B13, ↓v_13, ↓v_F14, ↓v_B14, ↓v_14, ↓v_F15, ↓v_B15, ↓v_15, ↓v_F16, ↓v_B16, ↓v_16, ↓v_F17, ↓v_B17, ↓v_17, ↓v_F18, ↓v_B18, ↓v_18, ↓v_F19, ↓v_B19, ↓v_19, ↓v_F20, ↓v_B20, ↓v_20, ↓v_F21, ↓v_B21, ↓v_21, ↓v_F22, ↓v_B22, ↓v_22, ↓v_F23, ↓v_B23, ↓v_23, ↓s_rD, ↓s_r1, ↓s_r2, ↓s_rN, ↓s_rNil, ↓s_rTup, ↓s_rLst, ↓s_rSl, onL_lst, ↓s_rPs, ↓s_rPn, s_envB, s_envF, oF_fz, oB_s, oB_n, oF_none, s_envB0, s_envF0, s_er, s_ers, s_ers0, s_erT, s_erL, List.getElem?_cons_succ, List.getElem?_cons_zero, List.set_cons_succ, List.set_cons_zero, List.append_nil, ↓kB_fz, kI_t, kI_f, ↓s_next, tI_er]
    refine ⟨by simp, in_same rfl (flat_tup (by simp) fun d hd => ?_) ?_⟩
    · simp only [List.mem_cons, List.not_mem_nil, or_false] at hd
      rcases hd with rfl | rfl <;> rfl
    simp only [↓s_seq, ↓s_if, ↓s_ret, ↓s_setZ, ↓s_setB, ↓s_frz, ↓s_rNotT, ↓s_rTB, ↓s_rCall, ↓s_rCons, ↓v_F0, ↓v_B0, ↓v_0, ↓v_F1, ↓v_B1, ↓v_1, ↓v_F2, ↓v_B2, ↓v_2, ↓v_F3, ↓v_B3, ↓v_3, ↓v_F4, ↓v_B4, ↓v_4, ↓v_F5, ↓v_B5, ↓v_5, ↓v_F6, ↓v_B6, ↓v_6, ↓v_F7, ↓v_B7, ↓v_7, ↓v_F8, ↓v_B8, ↓v_8, ↓v_F9, ↓v_B9, ↓v_9, ↓v_F10, ↓v_B10, ↓v_10, ↓v_F11, ↓v_B11, ↓v_11, ↓v_F12, ↓v_B12, ↓v_12, ↓v_F13, ↓v_B13, ↓v_13, ↓v_F14, ↓v_B14, ↓v_14, ↓v_F15, ↓v_B15, ↓v_15, ↓v_F16, ↓v_B16, ↓v_16, ↓v_F17, ↓v_B17, ↓v_17, ↓v_F18, ↓v_B18, ↓v_18, ↓v_F19, ↓v_B19, ↓v_19, ↓v_F20, ↓v_B20, ↓v_20, ↓v_F21, ↓v_B21, ↓v_21, ↓v_F22, ↓v_B22, ↓v_22, ↓v_F23, ↓v_B23, ↓v_23, ↓s_rD, ↓s_r1, ↓s_r2, ↓s_rN, ↓s_rNil, ↓s_rTup, ↓s_rLst, ↓s_rSl, onL_lst, ↓s_rPs, ↓s_rPn, s_envB, s_envF, oF_fz, oB_s, oB_n, oF_none, s_envB0, s_envF0, s_er, s_ers, s_ers0, s_erT, s_erL, List.getElem?_cons_succ, List.getElem?_cons_zero, List.set_cons_succ, List.set_cons_zero, List.append_nil, ↓kB_fz, kI_t, kI_f, ↓s_next, tI_er, Bool.not_true]
    exact k _ ⟨_, rfl⟩
end
end K78

set_option Elab.async false
set_option linter.all false
set_option maxRecDepth 100000
set_option maxHeartbeats 4000000
namespace K78
open PySem PySem.Spec PyProof.Rows L2 AL
section
variable {r : List (List Int)} {l e : List Int} {ws : List Pc} {ns : List Int}
theorem ix_lastS {ss : List Sk} {s : Sk} {AQ : TQ} : fIx (dS (ss ++ [s])) (.int (-1)) AQ = AQ (.fz (dSk s)) := ix_last (by rw [List.getLast?_map, List.getLast?_concat]; rfl)
/-- the play -/
theorem law3 (g : Good r l e) (hp : 0 < l.sum) (hns : badSet ns (stand e) = none) {l' : List Int} (hw : ws.length < 80) (hc : cuts l ws = some l') (hz : ∀ x ∈ l', x = 0) {side aim : List Int} (hs : badSet side (iota l.length) = none) (ha : badSet aim (stand e) = none) (ho : outS e aim ≤ ownOf ws side) (kd : Int) (band : List Int) (can : Bool) (o9 o14 : Option T) :
    ((aSeq (aSetZ 15 (rCall r__law_played [] (rCons (rV 1) (rCons (rV 3) (rCons (rV 4) (rCons (rV 6) (rCons (rV 12) (rCons (rV 13) rNil)))))))) (aSeq (aIf (rOr (rTB (rIsNon false (rV 15))) (rTB (r2 (fIn true) (r2 fIx (r2 fIx (rV 15) (r1 fNeg (rD (.int 1)))) (rD (.int 1))) (rV 13)))) (aSeq (aRet (rD (.bl false))) aNext) aNext) (aSeq (aSetZ 16 (rTupD (rCons (rD (.str "told")) (rCons (r2 fIx (rV 3) (rD (.int 0))) (rCons (r2 fMul (rLst (rCons (rD (.int 0)) rNil)) (rN fLen (rCons (r2 fIx (rV 3) (rD (.int 1))) rNil))) (rCons (r2 fMul (rLst (rCons (rD (.int 0)) rNil)) (rN fLen (rCons (r2 fIx (rV 3) (rD (.int 2))) rNil))) (rCons (rD (.bl true)) rNil))))))) (aSeq (aIf (rNotT (rTB (rCall r__law_same [] (rCons (rCall r__law_behind [] (rCons (rV 4) (rCons (rV 15) rNil))) (rCons (rV 16) rNil))))) (aSeq (aRet (rD (.bl false))) aNext) aNext) (aSeq (aFor (rIList (rLst (rCons (rCall r__law_some [] (rCons (rV 1) (rCons (rV 5) rNil))) (rCons (rLst rNil) (rCons (rV 5) (rCons (rV 7) rNil)))))) (.nm 17) (aSeq (aIf (rNotT (rTB (rCall r__law_same [] (rCons (rCall r__law_guard [] (rCons (rV 4) (rCons (rV 17) rNil))) (rCons (rTupD (rCons (rD (.str "told")) (rCons (rCall r__law_guard_due [] (rCons (r2 fIx (rV 3) (rD (.int 2))) (rCons (rV 17) rNil))) rNil))) rNil))))) (aSeq (aRet (rD (.bl false))) aNext) aNext) aNext)) (aSeq (aRet (rAndV (rCall r__law_kept [] (rCons (rV 4) (rCons (rV 3) rNil))) (rCall r__law_refusals [] (rCons (rV 1) (rCons (rV 3) (rCons (rV 4) (rCons (rV 7) (rCons (rV 15) rNil)))))))) aNext))))))) lawEnds [none, some (.fz .sto), some (.fz (.int kd)), some (.fz (shp r l e)), some (.fz (mD r l e)), some (.fz (dI (stand e))), some (.fz (dP ws)), some (.fz (dI ns)), some (.fz (.int (outS e ns))), o9, some (.fz (dI band)), some (.fz (.bl can)), some (.fz (dI side)), some (.fz (dI aim)), o14, none, none, none] := by
  have fin := fun ss h1 h2 => law4 g hp hns (ss := ss) h1 h2 kd band side aim can o9 o14 (ws := ws)
  generalize ((aSeq (aSetZ 16 (rTupD (rCons (rD (.str "told")) (rCons (r2 fIx (rV 3) (rD (.int 0))) (rCons (r2 fMul (rLst (rCons (rD (.int 0)) rNil)) (rN fLen (rCons (r2 fIx (rV 3) (rD (.int 1))) rNil))) (rCons (r2 fMul (rLst (rCons (rD (.int 0)) rNil)) (rN fLen (rCons (r2 fIx (rV 3) (rD (.int 2))) rNil))) (rCons (rD (.bl true)) rNil))))))) (aSeq (aIf (rNotT (rTB (rCall r__law_same [] (rCons (rCall r__law_behind [] (rCons (rV 4) (rCons (rV 15) rNil))) (rCons (rV 16) rNil))))) (aSeq (aRet (rD (.bl false))) aNext) aNext) (aSeq (aFor (rIList (rLst (rCons (rCall r__law_some [] (rCons (rV 1) (rCons (rV 5) rNil))) (rCons (rLst rNil) (rCons (rV 5) (rCons (rV 7) rNil)))))) (.nm 17) (aSeq (aIf (rNotT (rTB (rCall r__law_same [] (rCons (rCall r__law_guard [] (rCons (rV 4) (rCons (rV 17) rNil))) (rCons (rTupD (rCons (rD (.str "told")) (rCons (rCall r__law_guard_due [] (rCons (r2 fIx (rV 3) (rD (.int 2))) (rCons (rV 17) rNil))) rNil))) rNil))))) (aSeq (aRet (rD (.bl false))) aNext) aNext) aNext)) (aSeq (aRet (rAndV (rCall r__law_kept [] (rCons (rV 4) (rCons (rV 3) rNil))) (rCall r__law_refusals [] (rCons (rV 1) (rCons (rV 3) (rCons (rV 4) (rCons (rV 7) (rCons (rV 15) rNil)))))))) aNext))))) = R at fin ⊢
  simp only [↓s_seq, ↓s_if, ↓s_ret, ↓s_setZ, ↓s_setB, ↓s_frz, ↓s_rNotT, ↓s_rTB, ↓s_rCall, ↓s_rCons, ↓v_F0, ↓v_B0, ↓v_0, ↓v_F1, ↓v_B1, ↓v_1, ↓v_F2, ↓v_B2, ↓v_2, ↓v_F3, ↓v_B3, ↓v_3, ↓v_F4, ↓v_B4, ↓v_4, ↓v_F5, ↓v_B5, ↓v_5, ↓v_F6, ↓v_B6, ↓v_6, ↓v_F7, ↓v_B7, ↓v_7, ↓v_F8, ↓v_B8, ↓v_8, ↓v_F9, ↓v_B9, ↓v_9, ↓v_F10, ↓v_B10, ↓v_10, ↓v_F11, ↓v_B11, ↓v_11, ↓v_F12, ↓v_B12, ↓v_12, ↓v_F13, ↓v_B13, ↓v_13, ↓v_F14, ↓v_B14, ↓v_14, ↓v_F15, ↓v_B15, ↓v_15, ↓v_F16, ↓v_B16, ↓v_16, ↓v_F17, ↓v_B17, ↓v_17, ↓v_F18, ↓v_B18, ↓v_18, ↓v_F19, ↓v_B19, ↓v_19, ↓v_F20, ↓v_B20, ↓v_20, ↓v_F21, ↓v_B21, ↓v_21, ↓v_F22, ↓v_B22, ↓v_22, ↓v_F23, ↓v_B23, ↓v_23, ↓s_rD, ↓s_r1, ↓s_r2, ↓s_rN, ↓s_rNil, ↓s_rTup, ↓s_rLst, ↓s_rSl, onL_lst, ↓s_rPs, ↓s_rPn, s_envB, s_envF, oF_fz, oB_s, oB_n, oF_none, s_envB0, s_envF0, s_er, s_ers, s_ers0, s_erT, s_erL, List.getElem?_cons_succ, List.getElem?_cons_zero, List.set_cons_succ, List.set_cons_zero, List.append_nil, ↓kB_fz, kI_t, kI_f, ↓s_next, tI_er]
  refine in6 ⟨rfl, r, l, e, ws, l', side, aim, rfl, rfl, rfl, rfl, rfl, g, hp, hw, hc, hz, hs, ha, ho, fun ss s hss hpl hsa => ?_⟩
  simp only [↓s_rOr, ↓s_rIsNon, ↓s_seq, ↓s_if, ↓s_ret, ↓s_setZ, ↓s_setB, ↓s_frz, ↓s_rNotT, ↓s_rTB, ↓s_rCall, ↓s_rCons, ↓v_F0, ↓v_B0, ↓v_0, ↓v_F1, ↓v_B1, ↓v_1, ↓v_F2, ↓v_B2, ↓v_2, ↓v_F3, ↓v_B3, ↓v_3, ↓v_F4, ↓v_B4, ↓v_4, ↓v_F5, ↓v_B5, ↓v_5, ↓v_F6, ↓v_B6, ↓v_6, ↓v_F7, ↓v_B7, ↓v_7, ↓v_F8, ↓v_B8, ↓v_8, ↓v_F9, ↓v_B9, ↓v_9, ↓v_F10, ↓v_B10, ↓v_10, ↓v_F11, ↓v_B11, ↓v_11, ↓v_F12, ↓v_B12, ↓v_12, ↓v_F13, ↓v_B13, ↓v_13, ↓v_F14, ↓v_B14, ↓v_14, ↓v_F15, ↓v_B15, ↓v_15, ↓v_F16, ↓v_B16, ↓v_16, ↓v_F17, ↓v_B17, ↓v_17, ↓v_F18, ↓v_B18, ↓v_18, ↓v_F19, ↓v_B19, ↓v_19, ↓v_F20, ↓v_B20, ↓v_20, ↓v_F21, ↓v_B21, ↓v_21, ↓v_F22, ↓v_B22, ↓v_22, ↓v_F23, ↓v_B23, ↓v_23, ↓s_rD, ↓s_r1, ↓s_r2, ↓s_rN, ↓s_rNil, ↓s_rTup, ↓s_rLst, ↓s_rSl, onL_lst, ↓s_rPs, ↓s_rPn, s_envB, s_envF, oF_fz, oB_s, oB_n, oF_none, s_envB0, s_envF0, s_er, s_ers, s_ers0, s_erT, s_erL, List.getElem?_cons_succ, List.getElem?_cons_zero, List.set_cons_succ, List.set_cons_zero, List.append_nil, ↓kB_fz, kI_t, kI_f, ↓s_next, tI_er, tS_er, s_neg]
  have hcn : aim.contains s.2.1 = true := by simpa using hsa
  have y1 : ∀ {Q : TQ}, fIx (dSk s) (.int 1) Q = Q (.fz (.int s.2.1)) := fun {Q} => s_ixT1
  simp only [ix_lastS, y1, s_er, notin_dI, hcn, kB_fz, Bool.not_true, kI_f]
  have hd : D.isNon (dS (ss ++ [s])) = false := rfl
  simp only [hd, kI_f, Bool.false_eq_true, if_false]
  exact fin (ss ++ [s]) (by simp; omega) hpl
end
end K78

set_option Elab.async false
set_option linter.all false
set_option maxRecDepth 100000
set_option maxHeartbeats 4000000
namespace K78
open PySem PySem.Spec PyProof.Rows L2 AL
section
variable {r : List (List Int)} {l e : List Int} {ws : List Pc} {ns : List Int}
theorem dP_list {ws : List Pc} {AQ : TQ} : fList [dP ws] AQ = AQ (.lst ((ws.map dPc).map .fz)) := rfl
theorem dP_er {ws : List Pc} : (T.lst ((ws.map dPc).map .fz)).er = dP ws := by rw [s_erL, s_ersF]; rfl
theorem iota_len {n : Nat} : (iota n).length = n := by simp [iota]
theorem iota_filter {n : Nat} {p : Int → Bool} : (iota n).filter p = ((List.range n).filter fun i : Nat => p (i : Int)).map fun i : Nat => (i : Int) := by
  unfold iota
  rw [List.filter_map]
  rfl
theorem z0 : ∀ {xs : List Int}, (∀ x ∈ xs, x = 0) → xs.sum = 0
  | [], _ => rfl
  | a :: xs, h => by
    rw [List.sum_cons, h a (List.mem_cons_self ..), z0 fun x hx => h x (List.mem_cons_of_mem _ hx)]
    rfl
/-- who forces -/
theorem law2b (g : Good r l e) (hp : 0 < l.sum) (hns : badSet ns (stand e) = none) {l' : List Int} (hw : ws.length < 80) (hc : cuts l ws = some l') (hz : ∀ x ∈ l', x = 0) {band : List Int} (hb : badSet band (iota l.length) = none) (kd : Int) (o9 : Option T) :
    ((aSeq (aSetZ 12 (rN fList (rCons (rV 10) rNil))) (aSeq (aSetZ 13 (rN fList (rCons (rV 7) rNil))) (aSeq (aIf (rNotT (rTB (rV 11))) (aSeq (aSetZ 12 (rLc (rIN gR1 (rCons (rN fLen (rCons (r2 fIx (rV 3) (rD (.int 1))) rNil)) rNil)) (.nm 14) (rTB (r2 (fIn true) (rV 14) (rV 10))) (rV 14) [14])) (aSeq (aSetZ 13 (rLc (rIList (rV 5)) (.nm 9) (rTB (r2 (fIn true) (rV 9) (rV 7))) (rV 9) [9])) aNext)) aNext) (aSeq (aSetZ 15 (rCall r__law_played [] (rCons (rV 1) (rCons (rV 3) (rCons (rV 4) (rCons (rV 6) (rCons (rV 12) (rCons (rV 13) rNil)))))))) (aSeq (aIf (rOr (rTB (rIsNon false (rV 15))) (rTB (r2 (fIn true) (r2 fIx (r2 fIx (rV 15) (r1 fNeg (rD (.int 1)))) (rD (.int 1))) (rV 13)))) (aSeq (aRet (rD (.bl false))) aNext) aNext) (aSeq (aSetZ 16 (rTupD (rCons (rD (.str "told")) (rCons (r2 fIx (rV 3) (rD (.int 0))) (rCons (r2 fMul (rLst (rCons (rD (.int 0)) rNil)) (rN fLen (rCons (r2 fIx (rV 3) (rD (.int 1))) rNil))) (rCons (r2 fMul (rLst (rCons (rD (.int 0)) rNil)) (rN fLen (rCons (r2 fIx (rV 3) (rD (.int 2))) rNil))) (rCons (rD (.bl true)) rNil))))))) (aSeq (aIf (rNotT (rTB (rCall r__law_same [] (rCons (rCall r__law_behind [] (rCons (rV 4) (rCons (rV 15) rNil))) (rCons (rV 16) rNil))))) (aSeq (aRet (rD (.bl false))) aNext) aNext) (aSeq (aFor (rIList (rLst (rCons (rCall r__law_some [] (rCons (rV 1) (rCons (rV 5) rNil))) (rCons (rLst rNil) (rCons (rV 5) (rCons (rV 7) rNil)))))) (.nm 17) (aSeq (aIf (rNotT (rTB (rCall r__law_same [] (rCons (rCall r__law_guard [] (rCons (rV 4) (rCons (rV 17) rNil))) (rCons (rTupD (rCons (rD (.str "told")) (rCons (rCall r__law_guard_due [] (rCons (r2 fIx (rV 3) (rD (.int 2))) (rCons (rV 17) rNil))) rNil))) rNil))))) (aSeq (aRet (rD (.bl false))) aNext) aNext) aNext)) (aSeq (aRet (rAndV (rCall r__law_kept [] (rCons (rV 4) (rCons (rV 3) rNil))) (rCall r__law_refusals [] (rCons (rV 1) (rCons (rV 3) (rCons (rV 4) (rCons (rV 7) (rCons (rV 15) rNil)))))))) aNext)))))))))) lawEnds [none, some (.fz .sto), some (.fz (.int kd)), some (.fz (shp r l e)), some (.fz (mD r l e)), some (.fz (dI (stand e))), some (.fz (dP ws)), some (.fz (dI ns)), some (.fz (.int (outS e ns))), o9, some (.fz (dI band)), some (.fz (.bl (decide (outS e ns ≤ ownOf ws band)))), none, none, none, none, none, none] := by
  have fin := fun (side aim : List Int) h1 h2 h3 can o9 o14 => law3 g hp hns hw hc hz (side := side) (aim := aim) h1 h2 h3 kd band can o9 o14
  have x1 : ∀ {Q : TQ}, fIx (shp r l e) (.int 1) Q = Q (.fz (dI l)) := fun {Q} => s_ixT1
  have b8 := g.b8
  have r8 := g.r8
  have ll := g.ll
  have hsum := cuts_sum hc
  have hl0 := z0 hz
  have hne : ws ≠ [] := fun h => by
    subst h
    simp at hsum
    omega
  generalize ((aSeq (aSetZ 15 (rCall r__law_played [] (rCons (rV 1) (rCons (rV 3) (rCons (rV 4) (rCons (rV 6) (rCons (rV 12) (rCons (rV 13) rNil)))))))) (aSeq (aIf (rOr (rTB (rIsNon false (rV 15))) (rTB (r2 (fIn true) (r2 fIx (r2 fIx (rV 15) (r1 fNeg (rD (.int 1)))) (rD (.int 1))) (rV 13)))) (aSeq (aRet (rD (.bl false))) aNext) aNext) (aSeq (aSetZ 16 (rTupD (rCons (rD (.str "told")) (rCons (r2 fIx (rV 3) (rD (.int 0))) (rCons (r2 fMul (rLst (rCons (rD (.int 0)) rNil)) (rN fLen (rCons (r2 fIx (rV 3) (rD (.int 1))) rNil))) (rCons (r2 fMul (rLst (rCons (rD (.int 0)) rNil)) (rN fLen (rCons (r2 fIx (rV 3) (rD (.int 2))) rNil))) (rCons (rD (.bl true)) rNil))))))) (aSeq (aIf (rNotT (rTB (rCall r__law_same [] (rCons (rCall r__law_behind [] (rCons (rV 4) (rCons (rV 15) rNil))) (rCons (rV 16) rNil))))) (aSeq (aRet (rD (.bl false))) aNext) aNext) (aSeq (aFor (rIList (rLst (rCons (rCall r__law_some [] (rCons (rV 1) (rCons (rV 5) rNil))) (rCons (rLst rNil) (rCons (rV 5) (rCons (rV 7) rNil)))))) (.nm 17) (aSeq (aIf (rNotT (rTB (rCall r__law_same [] (rCons (rCall r__law_guard [] (rCons (rV 4) (rCons (rV 17) rNil))) (rCons (rTupD (rCons (rD (.str "told")) (rCons (rCall r__law_guard_due [] (rCons (r2 fIx (rV 3) (rD (.int 2))) (rCons (rV 17) rNil))) rNil))) rNil))))) (aSeq (aRet (rD (.bl false))) aNext) aNext) aNext)) (aSeq (aRet (rAndV (rCall r__law_kept [] (rCons (rV 4) (rCons (rV 3) rNil))) (rCall r__law_refusals [] (rCons (rV 1) (rCons (rV 3) (rCons (rV 4) (rCons (rV 7) (rCons (rV 15) rNil)))))))) aNext))))))) = R at fin ⊢
  simp only [↓s_seq, ↓s_setZ, ↓s_rN, ↓s_rCons, ↓v_F10, ↓s_rNil, s_er, s_ers, s_ers0, s_list_ints, tI_er, List.set_cons_succ, List.set_cons_zero]
  simp only [↓v_F7, s_er, s_list_ints, tI_er, ↓s_if, ↓s_rNotT, ↓s_rTB, ↓v_B11, kB_fz]
  by_cases c : outS e ns ≤ ownOf ws band
  · have e1 : decide (outS e ns ≤ ownOf ws band) = true := decide_eq_true c
    simp only [e1, Bool.not_true, kI_f, s_next]
    exact fin band ns hb hns c true o9 none
  · have e1 : decide (outS e ns ≤ ownOf ws band) = false := decide_eq_false c
    simp only [e1, Bool.not_false, kI_t]
    simp only [↓s_seq, ↓s_if, ↓s_ret, ↓s_setZ, ↓s_setB, ↓s_frz, ↓s_rNotT, ↓s_rTB, ↓s_rCall, ↓s_rCons, ↓v_F0, ↓v_B0, ↓v_0, ↓v_F1, ↓v_B1, ↓v_1, ↓v_F2, ↓v_B2, ↓v_2, ↓v_F3, ↓v_B3, ↓v_3, ↓v_F4, ↓v_B4, ↓v_4, ↓v_F5, ↓v_B5, ↓v_5, ↓v_F6, ↓v_B6, ↓v_6, ↓v_F7, ↓v_B7, ↓v_7, ↓v_F8, ↓v_B8, ↓v_8, ↓v_F9, ↓v_B9, ↓v_9, ↓v_F10, ↓v_B10, ↓v_10, ↓v_F11, ↓v_B11, ↓v_11, ↓v_F12, ↓v_B12, ↓v_12, ↓v_F13, ↓v_B13, ↓v_13, ↓v_F14, ↓v_B14, ↓v_14, ↓v_F15, ↓v_B15, ↓v_15, ↓v_F16, ↓v_B16, ↓v_16, ↓v_F17, ↓v_B17, ↓v_17, ↓v_F18, ↓v_B18, ↓v_18, ↓v_F19, ↓v_B19, ↓v_19, ↓v_F20, ↓v_B20, ↓v_20, ↓v_F21, ↓v_B21, ↓v_21, ↓v_F22, ↓v_B22, ↓v_22, ↓v_F23, ↓v_B23, ↓v_23, ↓s_rD, ↓s_r1, ↓s_r2, ↓s_rN, ↓s_rNil, ↓s_rTup, ↓s_rLst, ↓s_rSl, onL_lst, ↓s_rPs, ↓s_rPn, s_envB, s_envF, oF_fz, oB_s, oB_n, oF_none, s_envB0, s_envF0, s_er, s_ers, s_ers0, s_erT, s_erL, List.getElem?_cons_succ, List.getElem?_cons_zero, List.set_cons_succ, List.set_cons_zero, List.append_nil, ↓kB_fz, kI_t, kI_f, ↓s_next, tI_er, ↓s_rLc, ↓s_rIN, x1, s_len_ints, s_gR1, Int.toNat_natCast]
    refine ⟨by omega, ?_⟩
    rw [rngD_map]
    refine lc_det (f := fun i : Nat => D.int (0 + (i : Nat))) (fun i : Nat => !band.contains (i : Int)) (fun i : Nat => .fz (.int i)) (by rw [List.length_range]; omega) (fun i _ => ⟨[(14, .int (0 + (i : Nat)))], rfl, fun BQ h => by simpa using h, fun _ TQ' h => by simpa using h⟩) ?_
    rw [tI_map', ← iota_filter (p := fun x => !band.contains x)]
    simp only [↓s_seq, ↓s_if, ↓s_ret, ↓s_setZ, ↓s_setB, ↓s_frz, ↓s_rNotT, ↓s_rTB, ↓s_rCall, ↓s_rCons, ↓v_F0, ↓v_B0, ↓v_0, ↓v_F1, ↓v_B1, ↓v_1, ↓v_F2, ↓v_B2, ↓v_2, ↓v_F3, ↓v_B3, ↓v_3, ↓v_F4, ↓v_B4, ↓v_4, ↓v_F5, ↓v_B5, ↓v_5, ↓v_F6, ↓v_B6, ↓v_6, ↓v_F7, ↓v_B7, ↓v_7, ↓v_F8, ↓v_B8, ↓v_8, ↓v_F9, ↓v_B9, ↓v_9, ↓v_F10, ↓v_B10, ↓v_10, ↓v_F11, ↓v_B11, ↓v_11, ↓v_F12, ↓v_B12, ↓v_12, ↓v_F13, ↓v_B13, ↓v_13, ↓v_F14, ↓v_B14, ↓v_14, ↓v_F15, ↓v_B15, ↓v_15, ↓v_F16, ↓v_B16, ↓v_16, ↓v_F17, ↓v_B17, ↓v_17, ↓v_F18, ↓v_B18, ↓v_18, ↓v_F19, ↓v_B19, ↓v_19, ↓v_F20, ↓v_B20, ↓v_20, ↓v_F21, ↓v_B21, ↓v_21, ↓v_F22, ↓v_B22, ↓v_22, ↓v_F23, ↓v_B23, ↓v_23, ↓s_rD, ↓s_r1, ↓s_r2, ↓s_rN, ↓s_rNil, ↓s_rTup, ↓s_rLst, ↓s_rSl, onL_lst, ↓s_rPs, ↓s_rPn, s_envB, s_envF, oF_fz, oB_s, oB_n, oF_none, s_envB0, s_envF0, s_er, s_ers, s_ers0, s_erT, s_erL, List.getElem?_cons_succ, List.getElem?_cons_zero, List.set_cons_succ, List.set_cons_zero, List.append_nil, ↓kB_fz, kI_t, kI_f, ↓s_next, tI_er, ↓s_rLc, ↓s_rIList]
    have sl := stand_len (e := e)
    refine lc_det (f := D.int) (fun x => !ns.contains x) (fun x => .fz (.int x)) (by omega) (fun x _ => ⟨[(9, .int x)], rfl, fun BQ h => by simpa using h, fun _ TQ' h => by simpa using h⟩) ?_
    rw [tI_map]
    simp only [↓s_seq, ↓s_if, ↓s_ret, ↓s_setZ, ↓s_setB, ↓s_frz, ↓s_rNotT, ↓s_rTB, ↓s_rCall, ↓s_rCons, ↓v_F0, ↓v_B0, ↓v_0, ↓v_F1, ↓v_B1, ↓v_1, ↓v_F2, ↓v_B2, ↓v_2, ↓v_F3, ↓v_B3, ↓v_3, ↓v_F4, ↓v_B4, ↓v_4, ↓v_F5, ↓v_B5, ↓v_5, ↓v_F6, ↓v_B6, ↓v_6, ↓v_F7, ↓v_B7, ↓v_7, ↓v_F8, ↓v_B8, ↓v_8, ↓v_F9, ↓v_B9, ↓v_9, ↓v_F10, ↓v_B10, ↓v_10, ↓v_F11, ↓v_B11, ↓v_11, ↓v_F12, ↓v_B12, ↓v_12, ↓v_F13, ↓v_B13, ↓v_13, ↓v_F14, ↓v_B14, ↓v_14, ↓v_F15, ↓v_B15, ↓v_15, ↓v_F16, ↓v_B16, ↓v_16, ↓v_F17, ↓v_B17, ↓v_17, ↓v_F18, ↓v_B18, ↓v_18, ↓v_F19, ↓v_B19, ↓v_19, ↓v_F20, ↓v_B20, ↓v_20, ↓v_F21, ↓v_B21, ↓v_21, ↓v_F22, ↓v_B22, ↓v_22, ↓v_F23, ↓v_B23, ↓v_23, ↓s_rD, ↓s_r1, ↓s_r2, ↓s_rN, ↓s_rNil, ↓s_rTup, ↓s_rLst, ↓s_rSl, onL_lst, ↓s_rPs, ↓s_rPn, s_envB, s_envF, oF_fz, oB_s, oB_n, oF_none, s_envB0, s_envF0, s_er, s_ers, s_ers0, s_erT, s_erL, List.getElem?_cons_succ, List.getElem?_cons_zero, List.set_cons_succ, List.set_cons_zero, List.append_nil, ↓kB_fz, kI_t, kI_f, ↓s_next, tI_er]
    refine fin ((iota l.length).filter fun x => !band.contains x) ((stand e).filter fun x => !ns.contains x) (bad_sub iota_pw List.filter_sublist) (bad_sub stand_pw List.filter_sublist) ?_ false o9 none
    have h1 := own_compl (n := l.length) (band := band) (other := (iota l.length).filter fun x => !band.contains x) (fun x hx0 hx1 => by
      rw [List.mem_filter]
      simp [mem_iota, hx0, hx1]) hne (cuts_in hc)
    have h2 := outS_compl (ns := ns) fun x hx => (g.ba x hx).1
    have h3 := g.eq
    omega
theorem law2 (g : Good r l e) (hp : 0 < l.sum) (hns : badSet ns (stand e) = none) {l' : List Int} (hw : ws.length < 80) (hc : cuts l ws = some l') (hz : ∀ x ∈ l', x = 0) {band : List Int} (hb : badSet band (iota l.length) = none) (kd : Int) (o9 : Option T) :
    ((aSeq (aSetZ 11 (r2 fGe (rCall r__law_own [] (rCons (rV 6) (rCons (rV 10) rNil))) (rV 8))) (aSeq (aIf (rNotT (rTB (rCall r__law_same [] (rCons (rCall r_can_force [] (rCons (rV 4) (rCons (rN fList (rCons (rV 6) rNil)) (rCons (rN fList (rCons (rV 10) rNil)) (rCons (rN fList (rCons (rV 7) rNil)) rNil))))) (rCons (rV 11) rNil))))) (aSeq (aRet (rD (.bl false))) aNext) aNext) (aSeq (aSetZ 12 (rN fList (rCons (rV 10) rNil))) (aSeq (aSetZ 13 (rN fList (rCons (rV 7) rNil))) (aSeq (aIf (rNotT (rTB (rV 11))) (aSeq (aSetZ 12 (rLc (rIN gR1 (rCons (rN fLen (rCons (r2 fIx (rV 3) (rD (.int 1))) rNil)) rNil)) (.nm 14) (rTB (r2 (fIn true) (rV 14) (rV 10))) (rV 14) [14])) (aSeq (aSetZ 13 (rLc (rIList (rV 5)) (.nm 9) (rTB (r2 (fIn true) (rV 9) (rV 7))) (rV 9) [9])) aNext)) aNext) (aSeq (aSetZ 15 (rCall r__law_played [] (rCons (rV 1) (rCons (rV 3) (rCons (rV 4) (rCons (rV 6) (rCons (rV 12) (rCons (rV 13) rNil)))))))) (aSeq (aIf (rOr (rTB (rIsNon false (rV 15))) (rTB (r2 (fIn true) (r2 fIx (r2 fIx (rV 15) (r1 fNeg (rD (.int 1)))) (rD (.int 1))) (rV 13)))) (aSeq (aRet (rD (.bl false))) aNext) aNext) (aSeq (aSetZ 16 (rTupD (rCons (rD (.str "told")) (rCons (r2 fIx (rV 3) (rD (.int 0))) (rCons (r2 fMul (rLst (rCons (rD (.int 0)) rNil)) (rN fLen (rCons (r2 fIx (rV 3) (rD (.int 1))) rNil))) (rCons (r2 fMul (rLst (rCons (rD (.int 0)) rNil)) (rN fLen (rCons (r2 fIx (rV 3) (rD (.int 2))) rNil))) (rCons (rD (.bl true)) rNil))))))) (aSeq (aIf (rNotT (rTB (rCall r__law_same [] (rCons (rCall r__law_behind [] (rCons (rV 4) (rCons (rV 15) rNil))) (rCons (rV 16) rNil))))) (aSeq (aRet (rD (.bl false))) aNext) aNext) (aSeq (aFor (rIList (rLst (rCons (rCall r__law_some [] (rCons (rV 1) (rCons (rV 5) rNil))) (rCons (rLst rNil) (rCons (rV 5) (rCons (rV 7) rNil)))))) (.nm 17) (aSeq (aIf (rNotT (rTB (rCall r__law_same [] (rCons (rCall r__law_guard [] (rCons (rV 4) (rCons (rV 17) rNil))) (rCons (rTupD (rCons (rD (.str "told")) (rCons (rCall r__law_guard_due [] (rCons (r2 fIx (rV 3) (rD (.int 2))) (rCons (rV 17) rNil))) rNil))) rNil))))) (aSeq (aRet (rD (.bl false))) aNext) aNext) aNext)) (aSeq (aRet (rAndV (rCall r__law_kept [] (rCons (rV 4) (rCons (rV 3) rNil))) (rCall r__law_refusals [] (rCons (rV 1) (rCons (rV 3) (rCons (rV 4) (rCons (rV 7) (rCons (rV 15) rNil)))))))) aNext)))))))))))) lawEnds [none, some (.fz .sto), some (.fz (.int kd)), some (.fz (shp r l e)), some (.fz (mD r l e)), some (.fz (dI (stand e))), some (.fz (dP ws)), some (.fz (dI ns)), some (.fz (.int (outS e ns))), o9, some (.fz (dI band)), none, none, none, none, none, none, none] := by
  have fin := law2b g hp hns hw hc hz hb kd o9
  have hls : l.sum ≠ 0 := by omega
  have hsum := cuts_sum hc
  have hl0 := z0 hz
  have hne : ws ≠ [] := fun h => by
    subst h
    simp at hsum
    omega
  generalize ((aSeq (aSetZ 12 (rN fList (rCons (rV 10) rNil))) (aSeq (aSetZ 13 (rN fList (rCons (rV 7) rNil))) (aSeq (aIf (rNotT (rTB (rV 11))) (aSeq (aSetZ 12 (rLc (rIN gR1 (rCons (rN fLen (rCons (r2 fIx (rV 3) (rD (.int 1))) rNil)) rNil)) (.nm 14) (rTB (r2 (fIn true) (rV 14) (rV 10))) (rV 14) [14])) (aSeq (aSetZ 13 (rLc (rIList (rV 5)) (.nm 9) (rTB (r2 (fIn true) (rV 9) (rV 7))) (rV 9) [9])) aNext)) aNext) (aSeq (aSetZ 15 (rCall r__law_played [] (rCons (rV 1) (rCons (rV 3) (rCons (rV 4) (rCons (rV 6) (rCons (rV 12) (rCons (rV 13) rNil)))))))) (aSeq (aIf (rOr (rTB (rIsNon false (rV 15))) (rTB (r2 (fIn true) (r2 fIx (r2 fIx (rV 15) (r1 fNeg (rD (.int 1)))) (rD (.int 1))) (rV 13)))) (aSeq (aRet (rD (.bl false))) aNext) aNext) (aSeq (aSetZ 16 (rTupD (rCons (rD (.str "told")) (rCons (r2 fIx (rV 3) (rD (.int 0))) (rCons (r2 fMul (rLst (rCons (rD (.int 0)) rNil)) (rN fLen (rCons (r2 fIx (rV 3) (rD (.int 1))) rNil))) (rCons (r2 fMul (rLst (rCons (rD (.int 0)) rNil)) (rN fLen (rCons (r2 fIx (rV 3) (rD (.int 2))) rNil))) (rCons (rD (.bl true)) rNil))))))) (aSeq (aIf (rNotT (rTB (rCall r__law_same [] (rCons (rCall r__law_behind [] (rCons (rV 4) (rCons (rV 15) rNil))) (rCons (rV 16) rNil))))) (aSeq (aRet (rD (.bl false))) aNext) aNext) (aSeq (aFor (rIList (rLst (rCons (rCall r__law_some [] (rCons (rV 1) (rCons (rV 5) rNil))) (rCons (rLst rNil) (rCons (rV 5) (rCons (rV 7) rNil)))))) (.nm 17) (aSeq (aIf (rNotT (rTB (rCall r__law_same [] (rCons (rCall r__law_guard [] (rCons (rV 4) (rCons (rV 17) rNil))) (rCons (rTupD (rCons (rD (.str "told")) (rCons (rCall r__law_guard_due [] (rCons (r2 fIx (rV 3) (rD (.int 2))) (rCons (rV 17) rNil))) rNil))) rNil))))) (aSeq (aRet (rD (.bl false))) aNext) aNext) aNext)) (aSeq (aRet (rAndV (rCall r__law_kept [] (rCons (rV 4) (rCons (rV 3) rNil))) (rCall r__law_refusals [] (rCons (rV 1) (rCons (rV 3) (rCons (rV 4) (rCons (rV 7) (rCons (rV 15) rNil)))))))) aNext)))))))))) = R at fin ⊢
  simp only [↓s_seq, ↓s_setZ, ↓s_r2, ↓s_rCall, ↓s_rCons, ↓s_rNil, ↓v_F6, ↓v_F10, s_er, s_ers, s_ers0, List.append_nil]
  refine in2 ⟨ws, band, rfl, rfl, hne, by omega, ?_⟩
  simp only [↓v_F8, s_er, s_ge, List.set_cons_succ, List.set_cons_zero]
  simp only [↓s_if, ↓s_rNotT, ↓s_rTB, ↓s_rCall, ↓s_rCons, ↓s_rNil, ↓s_rN, ↓v_B4, ↓v_B6, ↓v_B7, ↓v_B10, ↓v_B11, s_er, s_ers, s_ers0, List.append_nil, dP_list, s_list_ints, tI_er, s_erL, s_ersF]
  refine in4 ⟨r, l, e, ws, l', band, ns, rfl, rfl, rfl, rfl, g, hls, by omega, hc, hl0, hb, hns, ?_⟩
  refine in_same rfl rfl ?_
  simp only [kB_fz, Bool.not_true, kI_f, s_next]
  exact fin
end
end K78

set_option Elab.async false
set_option linter.all false
set_option maxRecDepth 100000
set_option maxHeartbeats 4000000
namespace K78
open PySem PySem.Spec PyProof.Rows L2 AL
section
variable {r : List (List Int)} {l e : List Int} {ws : List Pc} {ns : List Int}
theorem law1c (g : Good r l e) (hp : 0 < l.sum) (hns : badSet ns (stand e) = none) {l' : List Int} (hw : ws.length < 80) (hc : cuts l ws = some l') (hz : ∀ x ∈ l', x = 0) (kd : Int) :
    ((aSeq (aSetZ 10 (rCall r__law_some [] (rCons (rV 1) (rCons (rLstRg (rRg1 (rN fLen (rCons (r2 fIx (rV 3) (rD (.int 1))) rNil)))) rNil)))) (aSeq (aIf (rTB (r2 fEq (rCall r__law_take [] (rCons (rV 1) (rCons (rD (.int 2)) rNil))) (rD (.int 0)))) (aSeq (aSetZ 10 (rCall r__law_near [] (rCons (rV 1) (rCons (r2 fIx (rV 3) (rD (.int 1))) (rCons (rV 6) (rCons (rV 8) rNil)))))) aNext) aNext) (aSeq (aSetZ 11 (r2 fGe (rCall r__law_own [] (rCons (rV 6) (rCons (rV 10) rNil))) (rV 8))) (aSeq (aIf (rNotT (rTB (rCall r__law_same [] (rCons (rCall r_can_force [] (rCons (rV 4) (rCons (rN fList (rCons (rV 6) rNil)) (rCons (rN fList (rCons (rV 10) rNil)) (rCons (rN fList (rCons (rV 7) rNil)) rNil))))) (rCons (rV 11) rNil))))) (aSeq (aRet (rD (.bl false))) aNext) aNext) (aSeq (aSetZ 12 (rN fList (rCons (rV 10) rNil))) (aSeq (aSetZ 13 (rN fList (rCons (rV 7) rNil))) (aSeq (aIf (rNotT (rTB (rV 11))) (aSeq (aSetZ 12 (rLc (rIN gR1 (rCons (rN fLen (rCons (r2 fIx (rV 3) (rD (.int 1))) rNil)) rNil)) (.nm 14) (rTB (r2 (fIn true) (rV 14) (rV 10))) (rV 14) [14])) (aSeq (aSetZ 13 (rLc (rIList (rV 5)) (.nm 9) (rTB (r2 (fIn true) (rV 9) (rV 7))) (rV 9) [9])) aNext)) aNext) (aSeq (aSetZ 15 (rCall r__law_played [] (rCons (rV 1) (rCons (rV 3) (rCons (rV 4) (rCons (rV 6) (rCons (rV 12) (rCons (rV 13) rNil)))))))) (aSeq (aIf (rOr (rTB (rIsNon false (rV 15))) (rTB (r2 (fIn true) (r2 fIx (r2 fIx (rV 15) (r1 fNeg (rD (.int 1)))) (rD (.int 1))) (rV 13)))) (aSeq (aRet (rD (.bl false))) aNext) aNext) (aSeq (aSetZ 16 (rTupD (rCons (rD (.str "told")) (rCons (r2 fIx (rV 3) (rD (.int 0))) (rCons (r2 fMul (rLst (rCons (rD (.int 0)) rNil)) (rN fLen (rCons (r2 fIx (rV 3) (rD (.int 1))) rNil))) (rCons (r2 fMul (rLst (rCons (rD (.int 0)) rNil)) (rN fLen (rCons (r2 fIx (rV 3) (rD (.int 2))) rNil))) (rCons (rD (.bl true)) rNil))))))) (aSeq (aIf (rNotT (rTB (rCall r__law_same [] (rCons (rCall r__law_behind [] (rCons (rV 4) (rCons (rV 15) rNil))) (rCons (rV 16) rNil))))) (aSeq (aRet (rD (.bl false))) aNext) aNext) (aSeq (aFor (rIList (rLst (rCons (rCall r__law_some [] (rCons (rV 1) (rCons (rV 5) rNil))) (rCons (rLst rNil) (rCons (rV 5) (rCons (rV 7) rNil)))))) (.nm 17) (aSeq (aIf (rNotT (rTB (rCall r__law_same [] (rCons (rCall r__law_guard [] (rCons (rV 4) (rCons (rV 17) rNil))) (rCons (rTupD (rCons (rD (.str "told")) (rCons (rCall r__law_guard_due [] (rCons (r2 fIx (rV 3) (rD (.int 2))) (rCons (rV 17) rNil))) rNil))) rNil))))) (aSeq (aRet (rD (.bl false))) aNext) aNext) aNext)) (aSeq (aRet (rAndV (rCall r__law_kept [] (rCons (rV 4) (rCons (rV 3) rNil))) (rCall r__law_refusals [] (rCons (rV 1) (rCons (rV 3) (rCons (rV 4) (rCons (rV 7) (rCons (rV 15) rNil)))))))) aNext)))))))))))))) lawEnds [none, some (.fz .sto), some (.fz (.int kd)), some (.fz (shp r l e)), some (.fz (mD r l e)), some (.fz (dI (stand e))), some (.fz (dP ws)), some (.fz (dI ns)), some (.fz (.int (outS e ns))), none, none, none, none, none, none, none, none, none] := by
  have fin := fun (band : List Int) hb => law2 g hp hns hw hc hz (band := band) hb kd none
  have x1 : ∀ {Q : TQ}, fIx (shp r l e) (.int 1) Q = Q (.fz (dI l)) := fun {Q} => s_ixT1
  have r8 := g.r8
  have ll := g.ll
  have hsum := cuts_sum hc
  have hl0 := z0 hz
  have hne : ws ≠ [] := fun h => by
    subst h
    simp at hsum
    omega
  generalize ((aSeq (aSetZ 11 (r2 fGe (rCall r__law_own [] (rCons (rV 6) (rCons (rV 10) rNil))) (rV 8))) (aSeq (aIf (rNotT (rTB (rCall r__law_same [] (rCons (rCall r_can_force [] (rCons (rV 4) (rCons (rN fList (rCons (rV 6) rNil)) (rCons (rN fList (rCons (rV 10) rNil)) (rCons (rN fList (rCons (rV 7) rNil)) rNil))))) (rCons (rV 11) rNil))))) (aSeq (aRet (rD (.bl false))) aNext) aNext) (aSeq (aSetZ 12 (rN fList (rCons (rV 10) rNil))) (aSeq (aSetZ 13 (rN fList (rCons (rV 7) rNil))) (aSeq (aIf (rNotT (rTB (rV 11))) (aSeq (aSetZ 12 (rLc (rIN gR1 (rCons (rN fLen (rCons (r2 fIx (rV 3) (rD (.int 1))) rNil)) rNil)) (.nm 14) (rTB (r2 (fIn true) (rV 14) (rV 10))) (rV 14) [14])) (aSeq (aSetZ 13 (rLc (rIList (rV 5)) (.nm 9) (rTB (r2 (fIn true) (rV 9) (rV 7))) (rV 9) [9])) aNext)) aNext) (aSeq (aSetZ 15 (rCall r__law_played [] (rCons (rV 1) (rCons (rV 3) (rCons (rV 4) (rCons (rV 6) (rCons (rV 12) (rCons (rV 13) rNil)))))))) (aSeq (aIf (rOr (rTB (rIsNon false (rV 15))) (rTB (r2 (fIn true) (r2 fIx (r2 fIx (rV 15) (r1 fNeg (rD (.int 1)))) (rD (.int 1))) (rV 13)))) (aSeq (aRet (rD (.bl false))) aNext) aNext) (aSeq (aSetZ 16 (rTupD (rCons (rD (.str "told")) (rCons (r2 fIx (rV 3) (rD (.int 0))) (rCons (r2 fMul (rLst (rCons (rD (.int 0)) rNil)) (rN fLen (rCons (r2 fIx (rV 3) (rD (.int 1))) rNil))) (rCons (r2 fMul (rLst (rCons (rD (.int 0)) rNil)) (rN fLen (rCons (r2 fIx (rV 3) (rD (.int 2))) rNil))) (rCons (rD (.bl true)) rNil))))))) (aSeq (aIf (rNotT (rTB (rCall r__law_same [] (rCons (rCall r__law_behind [] (rCons (rV 4) (rCons (rV 15) rNil))) (rCons (rV 16) rNil))))) (aSeq (aRet (rD (.bl false))) aNext) aNext) (aSeq (aFor (rIList (rLst (rCons (rCall r__law_some [] (rCons (rV 1) (rCons (rV 5) rNil))) (rCons (rLst rNil) (rCons (rV 5) (rCons (rV 7) rNil)))))) (.nm 17) (aSeq (aIf (rNotT (rTB (rCall r__law_same [] (rCons (rCall r__law_guard [] (rCons (rV 4) (rCons (rV 17) rNil))) (rCons (rTupD (rCons (rD (.str "told")) (rCons (rCall r__law_guard_due [] (rCons (r2 fIx (rV 3) (rD (.int 2))) (rCons (rV 17) rNil))) rNil))) rNil))))) (aSeq (aRet (rD (.bl false))) aNext) aNext) aNext)) (aSeq (aRet (rAndV (rCall r__law_kept [] (rCons (rV 4) (rCons (rV 3) rNil))) (rCall r__law_refusals [] (rCons (rV 1) (rCons (rV 3) (rCons (rV 4) (rCons (rV 7) (rCons (rV 15) rNil)))))))) aNext)))))))))))) = R at fin ⊢
  simp only [↓s_seq, ↓s_setZ, ↓s_rCall, ↓s_rCons, ↓s_rNil, ↓v_F1, ↓v_F3, ↓s_rLstRg, ↓s_rRg1, ↓s_rN, ↓s_r2, ↓s_rD, s_er, s_ers, s_ers0, List.append_nil, x1, s_len_ints]
  refine ⟨RgOk.of_le (by omega) (by omega) (by omega) (by omega), ?_⟩
  have e0 : (T.lst (((rgI 0 l.length).map D.int).map T.fz)).er = dI (iota l.length) := by rw [s_erL, s_ersF]; simp [rgI, iota, dI]
  simp only [e0]
  refine in2 ⟨rfl, iota l.length, rfl, by rw [iota_len]; omega, fun ys hys => ?_⟩
  have hb0 := bad_sub iota_pw hys
  simp only [tI_er, List.set_cons_succ, List.set_cons_zero]
  simp only [↓s_if, ↓s_rTB, ↓s_r2, ↓s_rCall, ↓s_rCons, ↓s_rNil, ↓v_B1, ↓s_rD, s_er, s_ers, s_ers0, List.append_nil]
  refine do_take (by omega) (by omega) fun d _ _ => ?_
  simp only [s_er, s_eq, kB_fz]
  by_cases c : d = 0
  · rw [kI_yes c]
    simp only [↓s_seq, ↓s_setZ, ↓s_r2, ↓s_rCall, ↓s_rCons, ↓s_rNil, ↓v_F1, ↓v_F3, ↓v_F6, ↓v_F8, ↓s_rD, s_er, s_ers, s_ers0, List.append_nil, x1]
    refine in4 ⟨rfl, l, ws, outS e ns, rfl, rfl, rfl, by omega, hne, by omega, fun band hb => ?_⟩
    simp only [s_er, List.set_cons_succ, List.set_cons_zero, s_next]
    exact fin band hb
  · rw [kI_no c]
    exact fin ys hb0
theorem law1b (g : Good r l e) (hp : 0 < l.sum) {l' : List Int} (hw : ws.length < 80) (hc : cuts l ws = some l') (hz : ∀ x ∈ l', x = 0) (kd : Int) :
    ((aSeq (aSetZ 7 (rCall r__law_some [] (rCons (rV 1) (rCons (rV 5) rNil)))) (aSeq (aSetZ 8 (rN (fInts gSum) (rCons (rLc (rIList (rV 5)) (.nm 9) (rTB (r2 (fIn true) (rV 9) (rV 7))) (r2 fIx (r2 fIx (rV 3) (rD (.int 2))) (rV 9)) [9]) rNil))) (aSeq (aSetZ 10 (rCall r__law_some [] (rCons (rV 1) (rCons (rLstRg (rRg1 (rN fLen (rCons (r2 fIx (rV 3) (rD (.int 1))) rNil)))) rNil)))) (aSeq (aIf (rTB (r2 fEq (rCall r__law_take [] (rCons (rV 1) (rCons (rD (.int 2)) rNil))) (rD (.int 0)))) (aSeq (aSetZ 10 (rCall r__law_near [] (rCons (rV 1) (rCons (r2 fIx (rV 3) (rD (.int 1))) (rCons (rV 6) (rCons (rV 8) rNil)))))) aNext) aNext) (aSeq (aSetZ 11 (r2 fGe (rCall r__law_own [] (rCons (rV 6) (rCons (rV 10) rNil))) (rV 8))) (aSeq (aIf (rNotT (rTB (rCall r__law_same [] (rCons (rCall r_can_force [] (rCons (rV 4) (rCons (rN fList (rCons (rV 6) rNil)) (rCons (rN fList (rCons (rV 10) rNil)) (rCons (rN fList (rCons (rV 7) rNil)) rNil))))) (rCons (rV 11) rNil))))) (aSeq (aRet (rD (.bl false))) aNext) aNext) (aSeq (aSetZ 12 (rN fList (rCons (rV 10) rNil))) (aSeq (aSetZ 13 (rN fList (rCons (rV 7) rNil))) (aSeq (aIf (rNotT (rTB (rV 11))) (aSeq (aSetZ 12 (rLc (rIN gR1 (rCons (rN fLen (rCons (r2 fIx (rV 3) (rD (.int 1))) rNil)) rNil)) (.nm 14) (rTB (r2 (fIn true) (rV 14) (rV 10))) (rV 14) [14])) (aSeq (aSetZ 13 (rLc (rIList (rV 5)) (.nm 9) (rTB (r2 (fIn true) (rV 9) (rV 7))) (rV 9) [9])) aNext)) aNext) (aSeq (aSetZ 15 (rCall r__law_played [] (rCons (rV 1) (rCons (rV 3) (rCons (rV 4) (rCons (rV 6) (rCons (rV 12) (rCons (rV 13) rNil)))))))) (aSeq (aIf (rOr (rTB (rIsNon false (rV 15))) (rTB (r2 (fIn true) (r2 fIx (r2 fIx (rV 15) (r1 fNeg (rD (.int 1)))) (rD (.int 1))) (rV 13)))) (aSeq (aRet (rD (.bl false))) aNext) aNext) (aSeq (aSetZ 16 (rTupD (rCons (rD (.str "told")) (rCons (r2 fIx (rV 3) (rD (.int 0))) (rCons (r2 fMul (rLst (rCons (rD (.int 0)) rNil)) (rN fLen (rCons (r2 fIx (rV 3) (rD (.int 1))) rNil))) (rCons (r2 fMul (rLst (rCons (rD (.int 0)) rNil)) (rN fLen (rCons (r2 fIx (rV 3) (rD (.int 2))) rNil))) (rCons (rD (.bl true)) rNil))))))) (aSeq (aIf (rNotT (rTB (rCall r__law_same [] (rCons (rCall r__law_behind [] (rCons (rV 4) (rCons (rV 15) rNil))) (rCons (rV 16) rNil))))) (aSeq (aRet (rD (.bl false))) aNext) aNext) (aSeq (aFor (rIList (rLst (rCons (rCall r__law_some [] (rCons (rV 1) (rCons (rV 5) rNil))) (rCons (rLst rNil) (rCons (rV 5) (rCons (rV 7) rNil)))))) (.nm 17) (aSeq (aIf (rNotT (rTB (rCall r__law_same [] (rCons (rCall r__law_guard [] (rCons (rV 4) (rCons (rV 17) rNil))) (rCons (rTupD (rCons (rD (.str "told")) (rCons (rCall r__law_guard_due [] (rCons (r2 fIx (rV 3) (rD (.int 2))) (rCons (rV 17) rNil))) rNil))) rNil))))) (aSeq (aRet (rD (.bl false))) aNext) aNext) aNext)) (aSeq (aRet (rAndV (rCall r__law_kept [] (rCons (rV 4) (rCons (rV 3) rNil))) (rCall r__law_refusals [] (rCons (rV 1) (rCons (rV 3) (rCons (rV 4) (rCons (rV 7) (rCons (rV 15) rNil)))))))) aNext)))))))))))))))) lawEnds [none, some (.fz .sto), some (.fz (.int kd)), some (.fz (shp r l e)), some (.fz (mD r l e)), some (.fz (dI (stand e))), some (.fz (dP ws)), none, none, none, none, none, none, none, none, none, none, none] := by
  have fin := fun (ns : List Int) hns => law1c g hp (ns := ns) hns hw hc hz kd
  have x2 : ∀ {Q : TQ}, fIx (shp r l e) (.int 2) Q = Q (.fz (dI e)) := fun {Q} => s_ixT2
  have b8 := g.b8
  have sl := stand_len (e := e)
  generalize ((aSeq (aSetZ 10 (rCall r__law_some [] (rCons (rV 1) (rCons (rLstRg (rRg1 (rN fLen (rCons (r2 fIx (rV 3) (rD (.int 1))) rNil)))) rNil)))) (aSeq (aIf (rTB (r2 fEq (rCall r__law_take [] (rCons (rV 1) (rCons (rD (.int 2)) rNil))) (rD (.int 0)))) (aSeq (aSetZ 10 (rCall r__law_near [] (rCons (rV 1) (rCons (r2 fIx (rV 3) (rD (.int 1))) (rCons (rV 6) (rCons (rV 8) rNil)))))) aNext) aNext) (aSeq (aSetZ 11 (r2 fGe (rCall r__law_own [] (rCons (rV 6) (rCons (rV 10) rNil))) (rV 8))) (aSeq (aIf (rNotT (rTB (rCall r__law_same [] (rCons (rCall r_can_force [] (rCons (rV 4) (rCons (rN fList (rCons (rV 6) rNil)) (rCons (rN fList (rCons (rV 10) rNil)) (rCons (rN fList (rCons (rV 7) rNil)) rNil))))) (rCons (rV 11) rNil))))) (aSeq (aRet (rD (.bl false))) aNext) aNext) (aSeq (aSetZ 12 (rN fList (rCons (rV 10) rNil))) (aSeq (aSetZ 13 (rN fList (rCons (rV 7) rNil))) (aSeq (aIf (rNotT (rTB (rV 11))) (aSeq (aSetZ 12 (rLc (rIN gR1 (rCons (rN fLen (rCons (r2 fIx (rV 3) (rD (.int 1))) rNil)) rNil)) (.nm 14) (rTB (r2 (fIn true) (rV 14) (rV 10))) (rV 14) [14])) (aSeq (aSetZ 13 (rLc (rIList (rV 5)) (.nm 9) (rTB (r2 (fIn true) (rV 9) (rV 7))) (rV 9) [9])) aNext)) aNext) (aSeq (aSetZ 15 (rCall r__law_played [] (rCons (rV 1) (rCons (rV 3) (rCons (rV 4) (rCons (rV 6) (rCons (rV 12) (rCons (rV 13) rNil)))))))) (aSeq (aIf (rOr (rTB (rIsNon false (rV 15))) (rTB (r2 (fIn true) (r2 fIx (r2 fIx (rV 15) (r1 fNeg (rD (.int 1)))) (rD (.int 1))) (rV 13)))) (aSeq (aRet (rD (.bl false))) aNext) aNext) (aSeq (aSetZ 16 (rTupD (rCons (rD (.str "told")) (rCons (r2 fIx (rV 3) (rD (.int 0))) (rCons (r2 fMul (rLst (rCons (rD (.int 0)) rNil)) (rN fLen (rCons (r2 fIx (rV 3) (rD (.int 1))) rNil))) (rCons (r2 fMul (rLst (rCons (rD (.int 0)) rNil)) (rN fLen (rCons (r2 fIx (rV 3) (rD (.int 2))) rNil))) (rCons (rD (.bl true)) rNil))))))) (aSeq (aIf (rNotT (rTB (rCall r__law_same [] (rCons (rCall r__law_behind [] (rCons (rV 4) (rCons (rV 15) rNil))) (rCons (rV 16) rNil))))) (aSeq (aRet (rD (.bl false))) aNext) aNext) (aSeq (aFor (rIList (rLst (rCons (rCall r__law_some [] (rCons (rV 1) (rCons (rV 5) rNil))) (rCons (rLst rNil) (rCons (rV 5) (rCons (rV 7) rNil)))))) (.nm 17) (aSeq (aIf (rNotT (rTB (rCall r__law_same [] (rCons (rCall r__law_guard [] (rCons (rV 4) (rCons (rV 17) rNil))) (rCons (rTupD (rCons (rD (.str "told")) (rCons (rCall r__law_guard_due [] (rCons (r2 fIx (rV 3) (rD (.int 2))) (rCons (rV 17) rNil))) rNil))) rNil))))) (aSeq (aRet (rD (.bl false))) aNext) aNext) aNext)) (aSeq (aRet (rAndV (rCall r__law_kept [] (rCons (rV 4) (rCons (rV 3) rNil))) (rCall r__law_refusals [] (rCons (rV 1) (rCons (rV 3) (rCons (rV 4) (rCons (rV 7) (rCons (rV 15) rNil)))))))) aNext)))))))))))))) = R at fin ⊢
  simp only [↓s_seq, ↓s_setZ, ↓s_rCall, ↓s_rCons, ↓s_rNil, ↓v_F1, ↓v_F5, s_er, s_ers, s_ers0, List.append_nil]
  refine in2 ⟨rfl, stand e, rfl, by omega, fun ns hys => ?_⟩
  have hns := bad_sub stand_pw hys
  simp only [tI_er, List.set_cons_succ, List.set_cons_zero]
  simp only [↓s_seq, ↓s_setZ, ↓s_rN, ↓s_rCons, ↓s_rNil, ↓s_rLc, ↓s_rIList, ↓v_F5, s_envF, oF_fz, oF_none, s_envF0, s_wp, s_wp0, List.set_cons_succ, List.set_cons_zero]
  refine lc_det (f := D.int) (fun x => !ns.contains x) (fun x => .fz (.int (gt e x))) (by omega) (fun x hx => ⟨[(9, .int x)], rfl, fun BQ h => by simpa using h, fun _ TQ' h => ?_⟩) ?_
  · obtain ⟨q1, q2, _⟩ := mem_stand hx
    simpa [x2, ix_gt q1 q2] using h
  have e1 : T.ers (((stand e).filter fun x => !ns.contains x).map fun x => T.fz (.int (gt e x))) = ((outs e ns).map (gt e)).map D.int := ers_fint
  simp only [s_ers, s_ers0, s_erL, e1]
  rw [show D.lst (((outs e ns).map (gt e)).map D.int) = dI ((outs e ns).map (gt e)) from rfl, s_ints', s_sum]
  simp only [s_er, List.set_cons_succ, List.set_cons_zero]
  exact fin ns hns
theorem law1a (g : Good r l e) (hp : 0 < l.sum) (kd : Int) :
    ((aSeq (aSetZ 4 (rCall r__law_made [] (rCons (rV 3) rNil))) (aSeq (aSetZ 5 (rCall r__law_standing [] (rCons (r2 fIx (rV 3) (rD (.int 2))) rNil))) (aSeq (aSetZ 6 (rCall r__law_turns [] (rCons (rV 1) (rCons (r2 fIx (rV 3) (rD (.int 1))) (rCons (rCall r__law_take [] (rCons (rV 1) (rCons (rD (.int 8)) rNil))) rNil))))) (aSeq (aSetZ 7 (rCall r__law_some [] (rCons (rV 1) (rCons (rV 5) rNil)))) (aSeq (aSetZ 8 (rN (fInts gSum) (rCons (rLc (rIList (rV 5)) (.nm 9) (rTB (r2 (fIn true) (rV 9) (rV 7))) (r2 fIx (r2 fIx (rV 3) (rD (.int 2))) (rV 9)) [9]) rNil))) (aSeq (aSetZ 10 (rCall r__law_some [] (rCons (rV 1) (rCons (rLstRg (rRg1 (rN fLen (rCons (r2 fIx (rV 3) (rD (.int 1))) rNil)))) rNil)))) (aSeq (aIf (rTB (r2 fEq (rCall r__law_take [] (rCons (rV 1) (rCons (rD (.int 2)) rNil))) (rD (.int 0)))) (aSeq (aSetZ 10 (rCall r__law_near [] (rCons (rV 1) (rCons (r2 fIx (rV 3) (rD (.int 1))) (rCons (rV 6) (rCons (rV 8) rNil)))))) aNext) aNext) (aSeq (aSetZ 11 (r2 fGe (rCall r__law_own [] (rCons (rV 6) (rCons (rV 10) rNil))) (rV 8))) (aSeq (aIf (rNotT (rTB (rCall r__law_same [] (rCons (rCall r_can_force [] (rCons (rV 4) (rCons (rN fList (rCons (rV 6) rNil)) (rCons (rN fList (rCons (rV 10) rNil)) (rCons (rN fList (rCons (rV 7) rNil)) rNil))))) (rCons (rV 11) rNil))))) (aSeq (aRet (rD (.bl false))) aNext) aNext) (aSeq (aSetZ 12 (rN fList (rCons (rV 10) rNil))) (aSeq (aSetZ 13 (rN fList (rCons (rV 7) rNil))) (aSeq (aIf (rNotT (rTB (rV 11))) (aSeq (aSetZ 12 (rLc (rIN gR1 (rCons (rN fLen (rCons (r2 fIx (rV 3) (rD (.int 1))) rNil)) rNil)) (.nm 14) (rTB (r2 (fIn true) (rV 14) (rV 10))) (rV 14) [14])) (aSeq (aSetZ 13 (rLc (rIList (rV 5)) (.nm 9) (rTB (r2 (fIn true) (rV 9) (rV 7))) (rV 9) [9])) aNext)) aNext) (aSeq (aSetZ 15 (rCall r__law_played [] (rCons (rV 1) (rCons (rV 3) (rCons (rV 4) (rCons (rV 6) (rCons (rV 12) (rCons (rV 13) rNil)))))))) (aSeq (aIf (rOr (rTB (rIsNon false (rV 15))) (rTB (r2 (fIn true) (r2 fIx (r2 fIx (rV 15) (r1 fNeg (rD (.int 1)))) (rD (.int 1))) (rV 13)))) (aSeq (aRet (rD (.bl false))) aNext) aNext) (aSeq (aSetZ 16 (rTupD (rCons (rD (.str "told")) (rCons (r2 fIx (rV 3) (rD (.int 0))) (rCons (r2 fMul (rLst (rCons (rD (.int 0)) rNil)) (rN fLen (rCons (r2 fIx (rV 3) (rD (.int 1))) rNil))) (rCons (r2 fMul (rLst (rCons (rD (.int 0)) rNil)) (rN fLen (rCons (r2 fIx (rV 3) (rD (.int 2))) rNil))) (rCons (rD (.bl true)) rNil))))))) (aSeq (aIf (rNotT (rTB (rCall r__law_same [] (rCons (rCall r__law_behind [] (rCons (rV 4) (rCons (rV 15) rNil))) (rCons (rV 16) rNil))))) (aSeq (aRet (rD (.bl false))) aNext) aNext) (aSeq (aFor (rIList (rLst (rCons (rCall r__law_some [] (rCons (rV 1) (rCons (rV 5) rNil))) (rCons (rLst rNil) (rCons (rV 5) (rCons (rV 7) rNil)))))) (.nm 17) (aSeq (aIf (rNotT (rTB (rCall r__law_same [] (rCons (rCall r__law_guard [] (rCons (rV 4) (rCons (rV 17) rNil))) (rCons (rTupD (rCons (rD (.str "told")) (rCons (rCall r__law_guard_due [] (rCons (r2 fIx (rV 3) (rD (.int 2))) (rCons (rV 17) rNil))) rNil))) rNil))))) (aSeq (aRet (rD (.bl false))) aNext) aNext) aNext)) (aSeq (aRet (rAndV (rCall r__law_kept [] (rCons (rV 4) (rCons (rV 3) rNil))) (rCall r__law_refusals [] (rCons (rV 1) (rCons (rV 3) (rCons (rV 4) (rCons (rV 7) (rCons (rV 15) rNil)))))))) aNext))))))))))))))))))) lawEnds [none, some (.fz .sto), some (.fz (.int kd)), some (.fz (shp r l e)), none, none, none, none, none, none, none, none, none, none, none, none, none, none] := by
  have fin := fun (ws : List Pc) (l' : List Int) hw hc hz => law1b g hp (ws := ws) (l' := l') hw hc hz kd
  have x1 : ∀ {Q : TQ}, fIx (shp r l e) (.int 1) Q = Q (.fz (dI l)) := fun {Q} => s_ixT1
  have x2 : ∀ {Q : TQ}, fIx (shp r l e) (.int 2) Q = Q (.fz (dI e)) := fun {Q} => s_ixT2
  have b8 := g.b8
  have r8 := g.r8
  have ll := g.ll
  generalize ((aSeq (aSetZ 7 (rCall r__law_some [] (rCons (rV 1) (rCons (rV 5) rNil)))) (aSeq (aSetZ 8 (rN (fInts gSum) (rCons (rLc (rIList (rV 5)) (.nm 9) (rTB (r2 (fIn true) (rV 9) (rV 7))) (r2 fIx (r2 fIx (rV 3) (rD (.int 2))) (rV 9)) [9]) rNil))) (aSeq (aSetZ 10 (rCall r__law_some [] (rCons (rV 1) (rCons (rLstRg (rRg1 (rN fLen (rCons (r2 fIx (rV 3) (rD (.int 1))) rNil)))) rNil)))) (aSeq (aIf (rTB (r2 fEq (rCall r__law_take [] (rCons (rV 1) (rCons (rD (.int 2)) rNil))) (rD (.int 0)))) (aSeq (aSetZ 10 (rCall r__law_near [] (rCons (rV 1) (rCons (r2 fIx (rV 3) (rD (.int 1))) (rCons (rV 6) (rCons (rV 8) rNil)))))) aNext) aNext) (aSeq (aSetZ 11 (r2 fGe (rCall r__law_own [] (rCons (rV 6) (rCons (rV 10) rNil))) (rV 8))) (aSeq (aIf (rNotT (rTB (rCall r__law_same [] (rCons (rCall r_can_force [] (rCons (rV 4) (rCons (rN fList (rCons (rV 6) rNil)) (rCons (rN fList (rCons (rV 10) rNil)) (rCons (rN fList (rCons (rV 7) rNil)) rNil))))) (rCons (rV 11) rNil))))) (aSeq (aRet (rD (.bl false))) aNext) aNext) (aSeq (aSetZ 12 (rN fList (rCons (rV 10) rNil))) (aSeq (aSetZ 13 (rN fList (rCons (rV 7) rNil))) (aSeq (aIf (rNotT (rTB (rV 11))) (aSeq (aSetZ 12 (rLc (rIN gR1 (rCons (rN fLen (rCons (r2 fIx (rV 3) (rD (.int 1))) rNil)) rNil)) (.nm 14) (rTB (r2 (fIn true) (rV 14) (rV 10))) (rV 14) [14])) (aSeq (aSetZ 13 (rLc (rIList (rV 5)) (.nm 9) (rTB (r2 (fIn true) (rV 9) (rV 7))) (rV 9) [9])) aNext)) aNext) (aSeq (aSetZ 15 (rCall r__law_played [] (rCons (rV 1) (rCons (rV 3) (rCons (rV 4) (rCons (rV 6) (rCons (rV 12) (rCons (rV 13) rNil)))))))) (aSeq (aIf (rOr (rTB (rIsNon false (rV 15))) (rTB (r2 (fIn true) (r2 fIx (r2 fIx (rV 15) (r1 fNeg (rD (.int 1)))) (rD (.int 1))) (rV 13)))) (aSeq (aRet (rD (.bl false))) aNext) aNext) (aSeq (aSetZ 16 (rTupD (rCons (rD (.str "told")) (rCons (r2 fIx (rV 3) (rD (.int 0))) (rCons (r2 fMul (rLst (rCons (rD (.int 0)) rNil)) (rN fLen (rCons (r2 fIx (rV 3) (rD (.int 1))) rNil))) (rCons (r2 fMul (rLst (rCons (rD (.int 0)) rNil)) (rN fLen (rCons (r2 fIx (rV 3) (rD (.int 2))) rNil))) (rCons (rD (.bl true)) rNil))))))) (aSeq (aIf (rNotT (rTB (rCall r__law_same [] (rCons (rCall r__law_behind [] (rCons (rV 4) (rCons (rV 15) rNil))) (rCons (rV 16) rNil))))) (aSeq (aRet (rD (.bl false))) aNext) aNext) (aSeq (aFor (rIList (rLst (rCons (rCall r__law_some [] (rCons (rV 1) (rCons (rV 5) rNil))) (rCons (rLst rNil) (rCons (rV 5) (rCons (rV 7) rNil)))))) (.nm 17) (aSeq (aIf (rNotT (rTB (rCall r__law_same [] (rCons (rCall r__law_guard [] (rCons (rV 4) (rCons (rV 17) rNil))) (rCons (rTupD (rCons (rD (.str "told")) (rCons (rCall r__law_guard_due [] (rCons (r2 fIx (rV 3) (rD (.int 2))) (rCons (rV 17) rNil))) rNil))) rNil))))) (aSeq (aRet (rD (.bl false))) aNext) aNext) aNext)) (aSeq (aRet (rAndV (rCall r__law_kept [] (rCons (rV 4) (rCons (rV 3) rNil))) (rCall r__law_refusals [] (rCons (rV 1) (rCons (rV 3) (rCons (rV 4) (rCons (rV 7) (rCons (rV 15) rNil)))))))) aNext)))))))))))))))) = R at fin ⊢
  simp only [↓s_seq, ↓s_setZ, ↓s_rCall, ↓s_rCons, ↓s_rNil, ↓v_F3, s_er, s_ers, s_ers0, List.append_nil]
  refine in1 ⟨r, l, e, rfl, g, ?_⟩
  simp only [mT_er, List.set_cons_succ, List.set_cons_zero]
  simp only [↓s_r2, ↓s_rD, ↓v_F3, s_er, x2]
  refine in1 ⟨e, rfl, b8, ?_⟩
  simp only [tI_er, List.set_cons_succ, List.set_cons_zero]
  simp only [↓v_F1, ↓v_F3, s_er, x1, ↓s_r2, ↓s_rD]
  refine do_take (by omega) (by omega) fun p p0 p1 => ?_
  simp only [s_er]
  refine in3 ⟨rfl, l, p, rfl, rfl, by omega, fun x hx => (g.la x hx).1, p0, by omega, fun ws l' hw hc hz => ?_⟩
  simp only [tP_er, List.set_cons_succ, List.set_cons_zero]
  exact fin ws l' (by omega) hc hz
end
theorem pure_law1 : a_law lawEnds (none :: some (.fz .sto) :: List.replicate 16 none) := by
  have fin := fun (r : List (List Int)) (l e : List Int) g hp kd => law1a (r := r) (l := l) (e := e) g hp kd
  show ((aSeq (aSetZ 2 (rCall r__law_take [] (rCons (rV 1) (rCons (rD (.int 12)) rNil)))) (aSeq (aSetZ 3 (rCall r__law_world [] (rCons (rV 1) (rCons (r2 fIx (rLst (rCons (rD (.int 8)) (rCons (rD (.int 8)) (rCons (rD (.int 5)) rNil)))) (rN (fMM fun i j => min i j) (rCons (rV 2) (rCons (rD (.int 2)) rNil)))) (rCons (r2 fIx (rLst (rCons (r2 fPow (rD (.int 10)) (rD (.int 15))) (rCons (rD (.int 40)) (rCons (rD (.int 14)) rNil)))) (rN (fMM fun i j => min i j) (rCons (rV 2) (rCons (rD (.int 2)) rNil)))) (rCons (r2 fEq (rCall r__law_take [] (rCons (rV 1) (rCons (rD (.int 2)) rNil))) (rD (.int 0))) rNil)))))) (aSeq (aSetZ 4 (rCall r__law_made [] (rCons (rV 3) rNil))) (aSeq (aSetZ 5 (rCall r__law_standing [] (rCons (r2 fIx (rV 3) (rD (.int 2))) rNil))) (aSeq (aSetZ 6 (rCall r__law_turns [] (rCons (rV 1) (rCons (r2 fIx (rV 3) (rD (.int 1))) (rCons (rCall r__law_take [] (rCons (rV 1) (rCons (rD (.int 8)) rNil))) rNil))))) (aSeq (aSetZ 7 (rCall r__law_some [] (rCons (rV 1) (rCons (rV 5) rNil)))) (aSeq (aSetZ 8 (rN (fInts gSum) (rCons (rLc (rIList (rV 5)) (.nm 9) (rTB (r2 (fIn true) (rV 9) (rV 7))) (r2 fIx (r2 fIx (rV 3) (rD (.int 2))) (rV 9)) [9]) rNil))) (aSeq (aSetZ 10 (rCall r__law_some [] (rCons (rV 1) (rCons (rLstRg (rRg1 (rN fLen (rCons (r2 fIx (rV 3) (rD (.int 1))) rNil)))) rNil)))) (aSeq (aIf (rTB (r2 fEq (rCall r__law_take [] (rCons (rV 1) (rCons (rD (.int 2)) rNil))) (rD (.int 0)))) (aSeq (aSetZ 10 (rCall r__law_near [] (rCons (rV 1) (rCons (r2 fIx (rV 3) (rD (.int 1))) (rCons (rV 6) (rCons (rV 8) rNil)))))) aNext) aNext) (aSeq (aSetZ 11 (r2 fGe (rCall r__law_own [] (rCons (rV 6) (rCons (rV 10) rNil))) (rV 8))) (aSeq (aIf (rNotT (rTB (rCall r__law_same [] (rCons (rCall r_can_force [] (rCons (rV 4) (rCons (rN fList (rCons (rV 6) rNil)) (rCons (rN fList (rCons (rV 10) rNil)) (rCons (rN fList (rCons (rV 7) rNil)) rNil))))) (rCons (rV 11) rNil))))) (aSeq (aRet (rD (.bl false))) aNext) aNext) (aSeq (aSetZ 12 (rN fList (rCons (rV 10) rNil))) (aSeq (aSetZ 13 (rN fList (rCons (rV 7) rNil))) (aSeq (aIf (rNotT (rTB (rV 11))) (aSeq (aSetZ 12 (rLc (rIN gR1 (rCons (rN fLen (rCons (r2 fIx (rV 3) (rD (.int 1))) rNil)) rNil)) (.nm 14) (rTB (r2 (fIn true) (rV 14) (rV 10))) (rV 14) [14])) (aSeq (aSetZ 13 (rLc (rIList (rV 5)) (.nm 9) (rTB (r2 (fIn true) (rV 9) (rV 7))) (rV 9) [9])) aNext)) aNext) (aSeq (aSetZ 15 (rCall r__law_played [] (rCons (rV 1) (rCons (rV 3) (rCons (rV 4) (rCons (rV 6) (rCons (rV 12) (rCons (rV 13) rNil)))))))) (aSeq (aIf (rOr (rTB (rIsNon false (rV 15))) (rTB (r2 (fIn true) (r2 fIx (r2 fIx (rV 15) (r1 fNeg (rD (.int 1)))) (rD (.int 1))) (rV 13)))) (aSeq (aRet (rD (.bl false))) aNext) aNext) (aSeq (aSetZ 16 (rTupD (rCons (rD (.str "told")) (rCons (r2 fIx (rV 3) (rD (.int 0))) (rCons (r2 fMul (rLst (rCons (rD (.int 0)) rNil)) (rN fLen (rCons (r2 fIx (rV 3) (rD (.int 1))) rNil))) (rCons (r2 fMul (rLst (rCons (rD (.int 0)) rNil)) (rN fLen (rCons (r2 fIx (rV 3) (rD (.int 2))) rNil))) (rCons (rD (.bl true)) rNil))))))) (aSeq (aIf (rNotT (rTB (rCall r__law_same [] (rCons (rCall r__law_behind [] (rCons (rV 4) (rCons (rV 15) rNil))) (rCons (rV 16) rNil))))) (aSeq (aRet (rD (.bl false))) aNext) aNext) (aSeq (aFor (rIList (rLst (rCons (rCall r__law_some [] (rCons (rV 1) (rCons (rV 5) rNil))) (rCons (rLst rNil) (rCons (rV 5) (rCons (rV 7) rNil)))))) (.nm 17) (aSeq (aIf (rNotT (rTB (rCall r__law_same [] (rCons (rCall r__law_guard [] (rCons (rV 4) (rCons (rV 17) rNil))) (rCons (rTupD (rCons (rD (.str "told")) (rCons (rCall r__law_guard_due [] (rCons (r2 fIx (rV 3) (rD (.int 2))) (rCons (rV 17) rNil))) rNil))) rNil))))) (aSeq (aRet (rD (.bl false))) aNext) aNext) aNext)) (aSeq (aRet (rAndV (rCall r__law_kept [] (rCons (rV 4) (rCons (rV 3) rNil))) (rCall r__law_refusals [] (rCons (rV 1) (rCons (rV 3) (rCons (rV 4) (rCons (rV 7) (rCons (rV 15) rNil)))))))) aNext))))))))))))))))))))) lawEnds [none, some (.fz .sto), none, none, none, none, none, none, none, none, none, none, none, none, none, none, none, none]
  have hC := f15
  generalize (r2 fPow (rD (.int 10)) (rD (.int 15))) = C at hC ⊢
  generalize ((aSeq (aSetZ 4 (rCall r__law_made [] (rCons (rV 3) rNil))) (aSeq (aSetZ 5 (rCall r__law_standing [] (rCons (r2 fIx (rV 3) (rD (.int 2))) rNil))) (aSeq (aSetZ 6 (rCall r__law_turns [] (rCons (rV 1) (rCons (r2 fIx (rV 3) (rD (.int 1))) (rCons (rCall r__law_take [] (rCons (rV 1) (rCons (rD (.int 8)) rNil))) rNil))))) (aSeq (aSetZ 7 (rCall r__law_some [] (rCons (rV 1) (rCons (rV 5) rNil)))) (aSeq (aSetZ 8 (rN (fInts gSum) (rCons (rLc (rIList (rV 5)) (.nm 9) (rTB (r2 (fIn true) (rV 9) (rV 7))) (r2 fIx (r2 fIx (rV 3) (rD (.int 2))) (rV 9)) [9]) rNil))) (aSeq (aSetZ 10 (rCall r__law_some [] (rCons (rV 1) (rCons (rLstRg (rRg1 (rN fLen (rCons (r2 fIx (rV 3) (rD (.int 1))) rNil)))) rNil)))) (aSeq (aIf (rTB (r2 fEq (rCall r__law_take [] (rCons (rV 1) (rCons (rD (.int 2)) rNil))) (rD (.int 0)))) (aSeq (aSetZ 10 (rCall r__law_near [] (rCons (rV 1) (rCons (r2 fIx (rV 3) (rD (.int 1))) (rCons (rV 6) (rCons (rV 8) rNil)))))) aNext) aNext) (aSeq (aSetZ 11 (r2 fGe (rCall r__law_own [] (rCons (rV 6) (rCons (rV 10) rNil))) (rV 8))) (aSeq (aIf (rNotT (rTB (rCall r__law_same [] (rCons (rCall r_can_force [] (rCons (rV 4) (rCons (rN fList (rCons (rV 6) rNil)) (rCons (rN fList (rCons (rV 10) rNil)) (rCons (rN fList (rCons (rV 7) rNil)) rNil))))) (rCons (rV 11) rNil))))) (aSeq (aRet (rD (.bl false))) aNext) aNext) (aSeq (aSetZ 12 (rN fList (rCons (rV 10) rNil))) (aSeq (aSetZ 13 (rN fList (rCons (rV 7) rNil))) (aSeq (aIf (rNotT (rTB (rV 11))) (aSeq (aSetZ 12 (rLc (rIN gR1 (rCons (rN fLen (rCons (r2 fIx (rV 3) (rD (.int 1))) rNil)) rNil)) (.nm 14) (rTB (r2 (fIn true) (rV 14) (rV 10))) (rV 14) [14])) (aSeq (aSetZ 13 (rLc (rIList (rV 5)) (.nm 9) (rTB (r2 (fIn true) (rV 9) (rV 7))) (rV 9) [9])) aNext)) aNext) (aSeq (aSetZ 15 (rCall r__law_played [] (rCons (rV 1) (rCons (rV 3) (rCons (rV 4) (rCons (rV 6) (rCons (rV 12) (rCons (rV 13) rNil)))))))) (aSeq (aIf (rOr (rTB (rIsNon false (rV 15))) (rTB (r2 (fIn true) (r2 fIx (r2 fIx (rV 15) (r1 fNeg (rD (.int 1)))) (rD (.int 1))) (rV 13)))) (aSeq (aRet (rD (.bl false))) aNext) aNext) (aSeq (aSetZ 16 (rTupD (rCons (rD (.str "told")) (rCons (r2 fIx (rV 3) (rD (.int 0))) (rCons (r2 fMul (rLst (rCons (rD (.int 0)) rNil)) (rN fLen (rCons (r2 fIx (rV 3) (rD (.int 1))) rNil))) (rCons (r2 fMul (rLst (rCons (rD (.int 0)) rNil)) (rN fLen (rCons (r2 fIx (rV 3) (rD (.int 2))) rNil))) (rCons (rD (.bl true)) rNil))))))) (aSeq (aIf (rNotT (rTB (rCall r__law_same [] (rCons (rCall r__law_behind [] (rCons (rV 4) (rCons (rV 15) rNil))) (rCons (rV 16) rNil))))) (aSeq (aRet (rD (.bl false))) aNext) aNext) (aSeq (aFor (rIList (rLst (rCons (rCall r__law_some [] (rCons (rV 1) (rCons (rV 5) rNil))) (rCons (rLst rNil) (rCons (rV 5) (rCons (rV 7) rNil)))))) (.nm 17) (aSeq (aIf (rNotT (rTB (rCall r__law_same [] (rCons (rCall r__law_guard [] (rCons (rV 4) (rCons (rV 17) rNil))) (rCons (rTupD (rCons (rD (.str "told")) (rCons (rCall r__law_guard_due [] (rCons (r2 fIx (rV 3) (rD (.int 2))) (rCons (rV 17) rNil))) rNil))) rNil))))) (aSeq (aRet (rD (.bl false))) aNext) aNext) aNext)) (aSeq (aRet (rAndV (rCall r__law_kept [] (rCons (rV 4) (rCons (rV 3) rNil))) (rCall r__law_refusals [] (rCons (rV 1) (rCons (rV 3) (rCons (rV 4) (rCons (rV 7) (rCons (rV 15) rNil)))))))) aNext))))))))))))))))))) = R at fin ⊢
  simp only [↓s_seq, ↓s_setZ, ↓s_rCall, ↓s_rCons, ↓s_rNil, ↓v_F1, ↓s_rD, s_er, s_ers, s_ers0, List.append_nil]
  refine do_take (by omega) (by omega) fun kd k0 k1 => ?_
  simp only [s_er, List.set_cons_succ, List.set_cons_zero]
  obtain ⟨m, hm, m0, m2⟩ : ∃ m : Int, min kd 2 = m ∧ 0 ≤ m ∧ m ≤ 2 := ⟨_, rfl, by omega, by omega⟩
  have ix3 : ∀ (a b c : Int) {Q : TQ}, (∀ x : Int, (x = a ∨ x = b ∨ x = c) → Q (.fz (.int x))) → fIx (.lst [.int a, .int b, .int c]) (.int m) Q := fun a b c Q hq => by
    rcases (by omega : m = 0 ∨ m = 1 ∨ m = 2) with rfl | rfl | rfl
    · rw [s_ix (d := .int a) rfl]; exact hq _ (.inl rfl)
    · rw [s_ix (d := .int b) rfl]; exact hq _ (.inr (.inl rfl))
    · rw [s_ix (d := .int c) rfl]; exact hq _ (.inr (.inr rfl))
  simp only [↓s_r2, ↓s_rLst, ↓s_rCons, ↓s_rNil, ↓s_rN, ↓v_F1, ↓v_F2, ↓s_rD, s_er, s_ers, s_ers0, s_erL, s_mm, hm]
  refine ⟨by simp, ix3 _ _ _ fun most hmost => hC _ _ _ ⟨by simp, ?_⟩⟩
  simp only [s_er, s_ers, s_ers0, s_erL]
  refine ix3 _ _ _ fun total htotal => ?_
  simp only [↓s_rCall, ↓s_rCons, ↓s_rNil, ↓v_F1, ↓s_rD, s_er, s_ers, s_ers0, List.append_nil]
  refine do_take (by omega) (by omega) fun d _ _ => ?_
  simp only [s_er, s_eq]
  refine in4 ⟨rfl, most, total, _, rfl, rfl, rfl, by omega, by omega, by omega, by omega, fun r l e g hp => ?_⟩
  simp only [s_erT, s_ers, s_ers0, s_er, List.set_cons_succ, List.set_cons_zero]
  exact fin r l e g hp kd
theorem pure_law0 : ∀ ns AQ, ns.length ≤ 63 → (∀ seed, AQ (.lst [.lst ((ns.map D.int).map .fz), .fz (.int 0), .fz (.int 0), .fz (.int 0), .fz (.int seed)])) → a_law0 (envF (ent 18 [.scr none ns])) AQ (fun _ => False) := by
  intro ns AQ hl q
  show r__law_store [.scr none ns] AQ (fun _ => False)
  exact in1 ⟨ns, rfl, hl, q⟩
end K78

set_option Elab.async false
set_option linter.all false
set_option maxRecDepth 100000
set_option maxHeartbeats 4000000
namespace K78
open PySem PySem.Spec PyProof.Rows L2 L2H AL

def top (i : Nat) : Stmt := PySem.Challenge.pw_lastnamed_k78_guards_force_their_set.main.body.getD i (.Pass ⟨0, 0, 0, 0⟩)
def clsB : Stmt → List Stmt
  | .ClassDef (body := b) .. => b
  | _ => []
def mth (st : Stmt) (j : Nat) : Stmt := (clsB st).getD j (.Pass ⟨0, 0, 0, 0⟩)
abbrev s_check_sides : Stmt := top 50
abbrev s_check_amounts : Stmt := top 51
abbrev s_Moment___init__ : Stmt := mth (top 53) 0
abbrev s_Moment_ranks : Stmt := mth (top 53) 3
abbrev s_Moment_left : Stmt := mth (top 53) 4
abbrev s_Moment_bears : Stmt := mth (top 53) 5
abbrev s_Moment_standing : Stmt := mth (top 53) 7
abbrev s_Moment_is_over : Stmt := mth (top 53) 8
abbrev s_rest_behind : Stmt := top 55
abbrev s_check_weaving : Stmt := top 56
abbrev s_check_pieces : Stmt := top 57
abbrev s_effective : Stmt := top 58
abbrev s_check_strike : Stmt := top 60
abbrev s_take_strike : Stmt := top 61
abbrev s_is_out : Stmt := top 63
abbrev s_walk : Stmt := top 64
abbrev s_behind : Stmt := top 65
abbrev s_check_numbers : Stmt := top 67
abbrev s_check_set : Stmt := top 69
abbrev s_check_band : Stmt := top 70
abbrev s_outside_names : Stmt := top 72
abbrev s_outside_strokes : Stmt := top 73
abbrev s_can_force : Stmt := top 74
abbrev s_guard_of : Stmt := top 75
abbrev s__law_mix : Stmt := top 77
abbrev s__law_store : Stmt := top 78
abbrev s__law_take : Stmt := top 79
abbrev s__law_number : Stmt := top 80
abbrev s__law_between : Stmt := top 81
abbrev s__law_near_ends : Stmt := top 82
abbrev s__law_pick : Stmt := top 83
abbrev s__law_shuffled : Stmt := top 84
abbrev s__law_some : Stmt := top 85
abbrev s__law_same : Stmt := top 86
abbrev s__law_parts : Stmt := top 87
abbrev s__law_standing : Stmt := top 88
abbrev s__law_turns : Stmt := top 89
abbrev s__law_ranks : Stmt := top 90
abbrev s__law_world : Stmt := top 91
abbrev s__law_made : Stmt := top 92
abbrev s__law_kept : Stmt := top 93
abbrev s__law_ended : Stmt := top 94
abbrev s__law_odd : Stmt := top 95
abbrev s__law_bent_set : Stmt := top 96
abbrev s__law_refused : Stmt := top 97
abbrev s__law_own : Stmt := top 98
abbrev s__law_near : Stmt := top 99
abbrev s__law_guard_due : Stmt := top 100
abbrev s__law_guard : Stmt := top 101
abbrev s__law_behind : Stmt := top 102
abbrev s__law_played : Stmt := top 103
abbrev s__law_refusals : Stmt := top 104
abbrev s_law : Stmt := top 105
abbrev s_BadSet_init : Stmt := mth (top 19) 0
abbrev s_BadStrike_init : Stmt := mth (top 26) 0
def d_check_sides : He.DefD := ⟨("check_sides", none), "check_sides", "check_sides", defArgs s_check_sides, defBody s_check_sides, defScope s_check_sides, [], []⟩
def d_check_amounts : He.DefD := ⟨("check_amounts", none), "check_amounts", "check_amounts", defArgs s_check_amounts, defBody s_check_amounts, defScope s_check_amounts, [], []⟩
def d_Moment___init__ : He.DefD := ⟨("Moment", some "__init__"), "__init__", "Moment.__init__", defArgs s_Moment___init__, defBody s_Moment___init__, defScope s_Moment___init__, [], []⟩
def d_rest_behind : He.DefD := ⟨("rest_behind", none), "rest_behind", "rest_behind", defArgs s_rest_behind, defBody s_rest_behind, defScope s_rest_behind, [], []⟩
def d_check_weaving : He.DefD := ⟨("check_weaving", none), "check_weaving", "check_weaving", defArgs s_check_weaving, defBody s_check_weaving, defScope s_check_weaving, [], []⟩
def d_check_pieces : He.DefD := ⟨("check_pieces", none), "check_pieces", "check_pieces", defArgs s_check_pieces, defBody s_check_pieces, defScope s_check_pieces, [], []⟩
def d_effective : He.DefD := ⟨("effective", none), "effective", "effective", defArgs s_effective, defBody s_effective, defScope s_effective, [], []⟩
def d_check_strike : He.DefD := ⟨("check_strike", none), "check_strike", "check_strike", defArgs s_check_strike, defBody s_check_strike, defScope s_check_strike, [], []⟩
def d_take_strike : He.DefD := ⟨("take_strike", none), "take_strike", "take_strike", defArgs s_take_strike, defBody s_take_strike, defScope s_take_strike, [], []⟩
def d_is_out : He.DefD := ⟨("is_out", none), "is_out", "is_out", defArgs s_is_out, defBody s_is_out, defScope s_is_out, [], []⟩
def d_walk : He.DefD := ⟨("walk", none), "walk", "walk", defArgs s_walk, defBody s_walk, defScope s_walk, [], []⟩
def d_behind : He.DefD := ⟨("behind", none), "behind", "behind", defArgs s_behind, defBody s_behind, defScope s_behind, [], []⟩
def d_check_numbers : He.DefD := ⟨("check_numbers", none), "check_numbers", "check_numbers", defArgs s_check_numbers, defBody s_check_numbers, defScope s_check_numbers, [], [("party", .non), ("name", .non)]⟩
def d_check_set : He.DefD := ⟨("check_set", none), "check_set", "check_set", defArgs s_check_set, defBody s_check_set, defScope s_check_set, [], []⟩
def d_check_band : He.DefD := ⟨("check_band", none), "check_band", "check_band", defArgs s_check_band, defBody s_check_band, defScope s_check_band, [], []⟩
def d_outside_names : He.DefD := ⟨("outside_names", none), "outside_names", "outside_names", defArgs s_outside_names, defBody s_outside_names, defScope s_outside_names, [], []⟩
def d_outside_strokes : He.DefD := ⟨("outside_strokes", none), "outside_strokes", "outside_strokes", defArgs s_outside_strokes, defBody s_outside_strokes, defScope s_outside_strokes, [], []⟩
def d_can_force : He.DefD := ⟨("can_force", none), "can_force", "can_force", defArgs s_can_force, defBody s_can_force, defScope s_can_force, [], []⟩
def d_guard_of : He.DefD := ⟨("guard_of", none), "guard_of", "guard_of", defArgs s_guard_of, defBody s_guard_of, defScope s_guard_of, [], []⟩
def d__law_mix : He.DefD := ⟨("_law_mix", none), "_law_mix", "_law_mix", defArgs s__law_mix, defBody s__law_mix, defScope s__law_mix, [], []⟩
def d__law_store : He.DefD := ⟨("_law_store", none), "_law_store", "_law_store", defArgs s__law_store, defBody s__law_store, defScope s__law_store, [], []⟩
def d__law_take : He.DefD := ⟨("_law_take", none), "_law_take", "_law_take", defArgs s__law_take, defBody s__law_take, defScope s__law_take, [], []⟩
def d__law_number : He.DefD := ⟨("_law_number", none), "_law_number", "_law_number", defArgs s__law_number, defBody s__law_number, defScope s__law_number, [], []⟩
def d__law_between : He.DefD := ⟨("_law_between", none), "_law_between", "_law_between", defArgs s__law_between, defBody s__law_between, defScope s__law_between, [], []⟩
def d__law_near_ends : He.DefD := ⟨("_law_near_ends", none), "_law_near_ends", "_law_near_ends", defArgs s__law_near_ends, defBody s__law_near_ends, defScope s__law_near_ends, [], []⟩
def d__law_pick : He.DefD := ⟨("_law_pick", none), "_law_pick", "_law_pick", defArgs s__law_pick, defBody s__law_pick, defScope s__law_pick, [], []⟩
def d__law_shuffled : He.DefD := ⟨("_law_shuffled", none), "_law_shuffled", "_law_shuffled", defArgs s__law_shuffled, defBody s__law_shuffled, defScope s__law_shuffled, [], []⟩
def d__law_some : He.DefD := ⟨("_law_some", none), "_law_some", "_law_some", defArgs s__law_some, defBody s__law_some, defScope s__law_some, [], []⟩
def d__law_same : He.DefD := ⟨("_law_same", none), "_law_same", "_law_same", defArgs s__law_same, defBody s__law_same, defScope s__law_same, [], []⟩
def d__law_parts : He.DefD := ⟨("_law_parts", none), "_law_parts", "_law_parts", defArgs s__law_parts, defBody s__law_parts, defScope s__law_parts, [], []⟩
def d__law_standing : He.DefD := ⟨("_law_standing", none), "_law_standing", "_law_standing", defArgs s__law_standing, defBody s__law_standing, defScope s__law_standing, [], []⟩
def d__law_turns : He.DefD := ⟨("_law_turns", none), "_law_turns", "_law_turns", defArgs s__law_turns, defBody s__law_turns, defScope s__law_turns, [], []⟩
def d__law_ranks : He.DefD := ⟨("_law_ranks", none), "_law_ranks", "_law_ranks", defArgs s__law_ranks, defBody s__law_ranks, defScope s__law_ranks, [], []⟩
def d__law_world : He.DefD := ⟨("_law_world", none), "_law_world", "_law_world", defArgs s__law_world, defBody s__law_world, defScope s__law_world, [], []⟩
def d__law_made : He.DefD := ⟨("_law_made", none), "_law_made", "_law_made", defArgs s__law_made, defBody s__law_made, defScope s__law_made, [], []⟩
def d__law_kept : He.DefD := ⟨("_law_kept", none), "_law_kept", "_law_kept", defArgs s__law_kept, defBody s__law_kept, defScope s__law_kept, [], []⟩
def d__law_ended : He.DefD := ⟨("_law_ended", none), "_law_ended", "_law_ended", defArgs s__law_ended, defBody s__law_ended, defScope s__law_ended, [], []⟩
def d__law_odd : He.DefD := ⟨("_law_odd", none), "_law_odd", "_law_odd", defArgs s__law_odd, defBody s__law_odd, defScope s__law_odd, [], []⟩
def d__law_bent_set : He.DefD := ⟨("_law_bent_set", none), "_law_bent_set", "_law_bent_set", defArgs s__law_bent_set, defBody s__law_bent_set, defScope s__law_bent_set, [], []⟩
def d__law_refused : He.DefD := ⟨("_law_refused", none), "_law_refused", "_law_refused", defArgs s__law_refused, defBody s__law_refused, defScope s__law_refused, [], []⟩
def d__law_own : He.DefD := ⟨("_law_own", none), "_law_own", "_law_own", defArgs s__law_own, defBody s__law_own, defScope s__law_own, [], []⟩
def d__law_near : He.DefD := ⟨("_law_near", none), "_law_near", "_law_near", defArgs s__law_near, defBody s__law_near, defScope s__law_near, [], []⟩
def d__law_guard_due : He.DefD := ⟨("_law_guard_due", none), "_law_guard_due", "_law_guard_due", defArgs s__law_guard_due, defBody s__law_guard_due, defScope s__law_guard_due, [], []⟩
def d__law_guard : He.DefD := ⟨("_law_guard", none), "_law_guard", "_law_guard", defArgs s__law_guard, defBody s__law_guard, defScope s__law_guard, [], []⟩
def d__law_behind : He.DefD := ⟨("_law_behind", none), "_law_behind", "_law_behind", defArgs s__law_behind, defBody s__law_behind, defScope s__law_behind, [], []⟩
def d__law_played : He.DefD := ⟨("_law_played", none), "_law_played", "_law_played", defArgs s__law_played, defBody s__law_played, defScope s__law_played, [], []⟩
def d__law_refusals : He.DefD := ⟨("_law_refusals", none), "_law_refusals", "_law_refusals", defArgs s__law_refusals, defBody s__law_refusals, defScope s__law_refusals, [], []⟩
def d_law : He.DefD := ⟨("law", none), "law", "law", defArgs s_law, defBody s_law, defScope s_law, [], []⟩
def d_BadSet_init : He.DefD := ⟨("BadSet", some "__init__"), "__init__", "BadSet.__init__", defArgs s_BadSet_init, defBody s_BadSet_init, defScope s_BadSet_init, [], []⟩
def d_BadStrike_init : He.DefD := ⟨("BadStrike", some "__init__"), "__init__", "BadStrike.__init__", defArgs s_BadStrike_init, defBody s_BadStrike_init, defScope s_BadStrike_init, [], []⟩
def fn : List He.DefD := [d_check_sides, d_check_amounts, d_Moment___init__, d_rest_behind, d_check_weaving, d_check_pieces, d_effective, d_check_strike, d_take_strike, d_is_out, d_walk, d_behind, d_check_numbers, d_check_set, d_check_band, d_outside_names, d_outside_strokes, d_can_force, d_guard_of, d__law_mix, d__law_store, d__law_take, d__law_number, d__law_between, d__law_near_ends, d__law_pick, d__law_shuffled, d__law_some, d__law_same, d__law_parts, d__law_standing, d__law_turns, d__law_ranks, d__law_world, d__law_made, d__law_kept, d__law_ended, d__law_odd, d__law_bent_set, d__law_refused, d__law_own, d__law_near, d__law_guard_due, d__law_guard, d__law_behind, d__law_played, d__law_refusals, d_law, d_BadSet_init, d_BadStrike_init]
def p_Moment_ranks : DefP := ⟨"Moment", "ranks", "Moment.ranks", defArgs s_Moment_ranks, defBody s_Moment_ranks, defScope s_Moment_ranks⟩
def p_Moment_left : DefP := ⟨"Moment", "left", "Moment.left", defArgs s_Moment_left, defBody s_Moment_left, defScope s_Moment_left⟩
def p_Moment_bears : DefP := ⟨"Moment", "bears", "Moment.bears", defArgs s_Moment_bears, defBody s_Moment_bears, defScope s_Moment_bears⟩
def p_Moment_standing : DefP := ⟨"Moment", "standing", "Moment.standing", defArgs s_Moment_standing, defBody s_Moment_standing, defScope s_Moment_standing⟩
def p_Moment_is_over : DefP := ⟨"Moment", "is_over", "Moment.is_over", defArgs s_Moment_is_over, defBody s_Moment_is_over, defScope s_Moment_is_over⟩
def pps : List DefP := [p_Moment_ranks, p_Moment_left, p_Moment_bears, p_Moment_standing, p_Moment_is_over]
def gls0 : List Str := ["check_sides", "check_amounts", "rest_behind", "check_weaving", "check_pieces", "effective", "check_strike", "take_strike", "is_out", "walk", "behind", "check_numbers", "check_set", "check_band", "outside_names", "outside_strokes", "can_force", "guard_of", "_law_mix", "_law_store", "_law_take", "_law_number", "_law_between", "_law_near_ends", "_law_pick", "_law_shuffled", "_law_some", "_law_same", "_law_parts", "_law_standing"]
def gls1 : List Str := ["_law_turns", "_law_ranks", "_law_world", "_law_made", "_law_kept", "_law_ended", "_law_odd", "_law_bent_set", "_law_refused", "_law_own", "_law_near", "_law_guard_due", "_law_guard", "_law_behind", "_law_played", "_law_refusals", "law", "Moment", "OfficeError", "BadLine", "Empty", "TooMany", "BadWord", "Doubled", "BadShare", "BadRanking", "BadRange", "BadPlace", "Unequal", "Unknown"]
def gls2 : List Str := ["Over", "Fallen", "BadChooser", "TiedRanks", "BadWeaving", "BadSet", "BadStages", "BadOrder", "BadSize", "BadTable", "TooMuch", "BadSum", "BadStrike", "Unfinished", "OutOfRank", "BadSpan", "NoBlock", "BadBargain", "NoPairing", "NotLast", "NotObtainable", "NotNear", "NoBottom", "Clash", "Shared", "Different", "LastName", "NoPost", "BadDeed", "BadStamp"]
def gls3 : List Str := ["StampTaken", "NoDeed"]
def gls : List Str := gls0 ++ gls1 ++ gls2 ++ gls3
def blts0 : List Str := ["len", "range", "list", "enumerate", "sum", "max", "min", "sorted", "any", "all", "int", "abs", "tuple", "isinstance", "bool", "str", "zip", "reversed", "ValueError", "dict"]
def blts : List Str := blts0
def flds : List Str := ["own_ranks", "own_left", "own_bears", "own_total", "own_standing"]
def xsin : List Str := ["Over", "BadSet", "BadStrike"]
def fa : List He.Fa := gls.map He.Fa.glo ++ blts.map He.Fa.free ++ ([.int "MOST_SIDE" 8, .int "MOST_RANK" 1000000, .int "MOST_STROKES" 100000000000000] ++ [.cls "Moment", .mkr "Moment"] ++ flds.map (He.Fa.noat "Moment") ++ [.exc "Over", .noat "Over" "at", .noat "BadSet" "at", .noat "BadStrike" "at", .meth "BadSet" "__init__", .meth "BadStrike" "__init__"]) ++ xns.map fun x => .exm x "OfficeError" true
def exF (K : PySem.W.Frag) : Bool := (xns.all fun n => excB K (He.ga K n) && xfB K (He.ga K n)) && (xns.all fun n => xsin.all fun x => decide (PySem.W.kitOne K (.ref (He.ga K n)) (.ref (He.ga K x)) = some (n == x))) &&
  (xns.all fun n => decide (PySem.W.kitAny K (.ref (He.ga K n)) (xtup.map fun x => Value.ref (He.ga K x)) = some (xtup.contains n))) && (xns.all fun n => decide (PySem.W.kitOne K (.ref (He.ga K n)) (.type "ValueError") = some true)) &&
  (xns.all fun n => decide (PySem.W.kitOne K (.ref (He.ga K n)) (.ref (He.ga K "OfficeError")) = some true)) && (xns.all fun n => decide (PySem.W.typeIn K (.ref (He.ga K n)) = some (.type "type")) && decide (PySem.W.subIn K (.ref (He.ga K n)) (.type "BaseException") = some true) && PySem.W.keepIn K (.ref (He.ga K n))) &&
  (["BadSet", "BadStrike"] : List Str).all fun x => oexB K (He.ga K x) && decide (PySem.W.typeIn K (.ref (He.ma K (He.ga K x) "__init__")) = some (.type "function"))
/-- what the top says, and where it lies -/
structure Txt (P : Program) (w : World) (K : PySem.W.Frag) (mg : Str → Option Value) (base : Heap) : Prop where
  says : SaysP fa fn pps exF K
  h : ∃ h : Heap, K.In h ∧ h.Ns mainGlobals mg
section
variable {P : Program} {w : World} {K : PySem.W.Frag} {mg : Str → Option Value} {base : Heap}
theorem Txt.fact (T : Txt P w K mg base) {f : He.Fa} (h : f ∈ fa) : f.ok K = true := by
  obtain ⟨i, e⟩ := List.getElem?_of_mem h
  exact T.says.d.fact i e
theorem Txt.gl (T : Txt P w K mg base) {x : Str} (h : x ∈ gls) : mg x = some (.ref (He.ga K x)) := by
  obtain ⟨hp, X, G⟩ := T.h
  exact He.glo_ok X G (T.fact (List.mem_append_left _ (List.mem_append_left _ (List.mem_append_left _ (List.mem_map_of_mem h)))))
theorem Txt.g (T : Txt P w K mg base) (i : Nat) {x : Str} (h : gls[i]? = some x := by rfl) : mg x = some (.ref (He.ga K x)) := T.gl (List.mem_of_getElem? h)
theorem Txt.f (T : Txt P w K mg base) (i : Nat) {x : Str} (h : blts[i]? = some x := by rfl) : mg x = none := by
  obtain ⟨hp, X, G⟩ := T.h
  exact He.free_ok X G (T.fact (List.mem_append_left _ (List.mem_append_left _ (List.mem_append_right _ (List.mem_map_of_mem (List.mem_of_getElem? h))))))
theorem Txt.gx (T : Txt P w K mg base) (i : Nat) {x : Str} (h : gls[49 + i]? = some x := by rfl) : mg x = some (.ref (He.ga K x)) := T.gl (List.mem_of_getElem? h)
theorem Txt.gOE (T : Txt P w K mg base) : mg "OfficeError" = some (.ref (He.ga K "OfficeError")) := T.g 48
theorem Txt.gC (T : Txt P w K mg base) : mg "Moment" = some (.ref (He.ga K "Moment")) := T.g 47
/-- a fact by its place -/
theorem Txt.at_ (T : Txt P w K mg base) (i : Nat) {f : He.Fa} (h : fa[i]? = some f := by rfl) : f.ok K = true := T.says.d.fact i h
theorem Txt.i_MOST_SIDE (T : Txt P w K mg base) : ∃ t, mg "MOST_SIDE" = some (.int 8 t) := by
  obtain ⟨hp, X, G⟩ := T.h
  exact He.int_ok X G (T.at_ 112 (f := .int "MOST_SIDE" 8))
theorem Txt.i_MOST_RANK (T : Txt P w K mg base) : ∃ t, mg "MOST_RANK" = some (.int 1000000 t) := by
  obtain ⟨hp, X, G⟩ := T.h
  exact He.int_ok X G (T.at_ 113 (f := .int "MOST_RANK" 1000000))
theorem Txt.i_MOST_STROKES (T : Txt P w K mg base) : ∃ t, mg "MOST_STROKES" = some (.int 100000000000000 t) := by
  obtain ⟨hp, X, G⟩ := T.h
  exact He.int_ok X G (T.at_ 114 (f := .int "MOST_STROKES" 100000000000000))
theorem Txt.cls (T : Txt P w K mg base) : Cls K (He.ga K "Moment") := He.cls_ok (T.at_ 115 (f := .cls "Moment"))
theorem Txt.mkr (T : Txt P w K mg base) : Mk K (He.ga K "Moment") (He.ma K (He.ga K "Moment") "__init__") := He.mkr_ok (T.at_ 116 (f := .mkr "Moment"))
theorem Txt.na (T : Txt P w K mg base) (i : Nat) {x : Str} (h : fa[117 + i]? = some (.noat "Moment" x) := by rfl) : NoAttr K (He.ga K "Moment") x := He.noat_ok (T.at_ (117 + i) h)
theorem Txt.xno_at (T : Txt P w K mg base) : ∀ n ∈ xns, PySem.W.findIn K (.ref (He.ga K n)) "at" = some none := fun n hn => by
  have h := hn
  simp only [xns, xns0, List.mem_cons, List.mem_append, List.not_mem_nil, or_false] at h
  rcases h with rfl | rfl | rfl
  · exact He.noat_ok (T.at_ 123 (f := .noat "Over" "at"))
  · exact He.noat_ok (T.at_ 124 (f := .noat "BadSet" "at"))
  · exact He.noat_ok (T.at_ 125 (f := .noat "BadStrike" "at"))
theorem Txt.cat (T : Txt P w K mg base) : ∀ m ∈ xns, PySem.W.exmOne K (.ref (He.ga K m)) (.ref (He.ga K "OfficeError")) = some true := fun m hm => He.exm_ok (x := m) (y := "OfficeError") (b := true) (T.fact (List.mem_append_right _ (List.mem_map.mpr ⟨m, hm, rfl⟩)))
theorem Txt.ex (T : Txt P w K mg base) : exF K = true := T.says.more
theorem Txt.ex1 (T : Txt P w K mg base) : (∀ n ∈ xns, excB K (He.ga K n) = true ∧ xfB K (He.ga K n) = true) ∧ (∀ n ∈ xns, ∀ x ∈ xsin, PySem.W.kitOne K (.ref (He.ga K n)) (.ref (He.ga K x)) = some (n == x)) ∧
    (∀ n ∈ xns, PySem.W.kitAny K (.ref (He.ga K n)) (xtup.map fun x => Value.ref (He.ga K x)) = some (xtup.contains n)) ∧ (∀ n ∈ xns, PySem.W.kitOne K (.ref (He.ga K n)) (.type "ValueError") = some true) ∧ (∀ n ∈ xns, PySem.W.kitOne K (.ref (He.ga K n)) (.ref (He.ga K "OfficeError")) = some true) ∧
    (∀ n ∈ xns, PySem.W.typeIn K (.ref (He.ga K n)) = some (.type "type") ∧ PySem.W.subIn K (.ref (He.ga K n)) (.type "BaseException") = some true ∧ PySem.W.keepIn K (.ref (He.ga K n)) = true) ∧
    ∀ x ∈ (["BadSet", "BadStrike"] : List Str), oexB K (He.ga K x) = true ∧ PySem.W.typeIn K (.ref (He.ma K (He.ga K x) "__init__")) = some (.type "function") := by
  have h := T.ex
  unfold exF at h
  simp only [Bool.and_eq_true, List.all_eq_true, decide_eq_true_eq] at h
  obtain ⟨⟨⟨⟨⟨⟨h1, h2⟩, h3⟩, h4⟩, h5⟩, h6⟩, h7⟩ := h
  exact ⟨h1, h2, h3, h4, h5, fun n hn => ⟨(h6 n hn).1.1, (h6 n hn).1.2, (h6 n hn).2⟩, h7⟩
theorem Txt.xnsOk (T : Txt P w K mg base) : XNs K xns := ⟨fun n hn => excB_ok (T.ex1.1 n hn).1, fun n hn => xfB_ok (T.ex1.1 n hn).2⟩
theorem Txt.isT (T : Txt P w K mg base) : ∀ n ∈ xns, PySem.W.kitAny K (.ref (He.ga K n)) (xtup.map fun x => Value.ref (He.ga K x)) = some (xtup.contains n) := T.ex1.2.2.1
theorem Txt.isV (T : Txt P w K mg base) : ∀ n ∈ xns, PySem.W.kitOne K (.ref (He.ga K n)) (.type "ValueError") = some true := T.ex1.2.2.2.1
theorem Txt.isO (T : Txt P w K mg base) : ∀ n ∈ xns, PySem.W.kitOne K (.ref (He.ga K n)) (.ref (He.ga K "OfficeError")) = some true := T.ex1.2.2.2.2.1
theorem Txt.is_Over (T : Txt P w K mg base) : ∀ n ∈ xns, PySem.W.kitOne K (.ref (He.ga K n)) (.ref (He.ga K "Over")) = some (n == ("Over" : Str)) := fun n hn => T.ex1.2.1 n hn "Over" (by decide)
theorem Txt.is_BadSet (T : Txt P w K mg base) : ∀ n ∈ xns, PySem.W.kitOne K (.ref (He.ga K n)) (.ref (He.ga K "BadSet")) = some (n == ("BadSet" : Str)) := fun n hn => T.ex1.2.1 n hn "BadSet" (by decide)
theorem Txt.is_BadStrike (T : Txt P w K mg base) : ∀ n ∈ xns, PySem.W.kitOne K (.ref (He.ga K n)) (.ref (He.ga K "BadStrike")) = some (n == ("BadStrike" : Str)) := fun n hn => T.ex1.2.1 n hn "BadStrike" (by decide)
theorem Txt.xn (T : Txt P w K mg base) {n : Str} (h : n ∈ xns) (hg : mg n = some (.ref (He.ga K n))) : XN K mg n := ⟨hg, (T.ex1.2.2.2.2.2.1 n h).2.2, (T.ex1.2.2.2.2.2.1 n h).2.1, (T.ex1.2.2.2.2.2.1 n h).1⟩
theorem Txt.x_Over (T : Txt P w K mg base) : XC0 K mg "Over" := ⟨T.xn (by decide) (T.gx 11), (He.exc_ok (T.at_ 122 (f := .exc "Over"))).1⟩
theorem S_BadSet_init : FnScope ["self", "at"] ["self", "at"] (defScope s_BadSet_init) := ⟨rfl, rfl, rfl, by decide +kernel, rfl, by decide +kernel, by decide +kernel⟩
theorem Txt.x_BadSet (T : Txt P w K mg base) : XC1 P w K mg base "BadSet" "at" := by
  obtain ⟨fd, F⟩ := T.says.d.def_ 48 (d := d_BadSet_init) rfl
  have z := T.ex1.2.2.2.2.2.2 "BadSet" (by decide)
  have m := He.meth_ok (T.at_ 126 (f := .meth "BadSet" "__init__"))
  refine ⟨T.xn (by decide) (T.gx 16), oexB_ok z.1, _, fd, _, m.at_, z.2, F.bindsN fun _ _ _ _ _ _ us hl => match us, hl with | [_, _], _ => rfl, ok_init1 F (oexB_ok z.1) (T.xno_at "BadSet" (by decide)) S_BadSet_init fun cdv A outer s H E => ?_⟩
  exact pss_one (ps_ost (pv 0) (pv 1))
theorem S_BadStrike_init : FnScope ["self", "at"] ["self", "at"] (defScope s_BadStrike_init) := ⟨rfl, rfl, rfl, by decide +kernel, rfl, by decide +kernel, by decide +kernel⟩
theorem Txt.x_BadStrike (T : Txt P w K mg base) : XC1 P w K mg base "BadStrike" "at" := by
  obtain ⟨fd, F⟩ := T.says.d.def_ 49 (d := d_BadStrike_init) rfl
  have z := T.ex1.2.2.2.2.2.2 "BadStrike" (by decide)
  have m := He.meth_ok (T.at_ 127 (f := .meth "BadStrike" "__init__"))
  refine ⟨T.xn (by decide) (T.gx 23), oexB_ok z.1, _, fd, _, m.at_, z.2, F.bindsN fun _ _ _ _ _ _ us hl => match us, hl with | [_, _], _ => rfl, ok_init1 F (oexB_ok z.1) (T.xno_at "BadStrike" (by decide)) S_BadStrike_init fun cdv A outer s H E => ?_⟩
  exact pss_one (ps_ost (pv 0) (pv 1))
theorem S_check_sides : FnScope ["parties", "names"] ["parties", "names"] (defScope s_check_sides) := ⟨rfl, rfl, rfl, by decide +kernel, rfl, by decide +kernel, by decide +kernel⟩
theorem S_check_amounts : FnScope ["amounts", "low", "high", "at", "amount"] ["amounts", "low", "high"] (defScope s_check_amounts) := ⟨rfl, rfl, rfl, by decide +kernel, rfl, by decide +kernel, by decide +kernel⟩
theorem S_Moment___init__ : FnScope ["self", "ranks", "left", "bears", "party", "row", "name", "strokes"] ["self", "ranks", "left", "bears"] (defScope s_Moment___init__) := ⟨rfl, rfl, rfl, by decide +kernel, rfl, by decide +kernel, by decide +kernel⟩
theorem S_Moment_ranks : FnScope ["self", "row"] ["self"] (defScope s_Moment_ranks) := ⟨rfl, rfl, rfl, by decide +kernel, rfl, by decide +kernel, by decide +kernel⟩
theorem S_Moment_left : FnScope ["self"] ["self"] (defScope s_Moment_left) := ⟨rfl, rfl, rfl, by decide +kernel, rfl, by decide +kernel, by decide +kernel⟩
theorem S_Moment_bears : FnScope ["self"] ["self"] (defScope s_Moment_bears) := ⟨rfl, rfl, rfl, by decide +kernel, rfl, by decide +kernel, by decide +kernel⟩
theorem S_Moment_standing : FnScope ["self"] ["self"] (defScope s_Moment_standing) := ⟨rfl, rfl, rfl, by decide +kernel, rfl, by decide +kernel, by decide +kernel⟩
theorem S_Moment_is_over : FnScope ["self"] ["self"] (defScope s_Moment_is_over) := ⟨rfl, rfl, rfl, by decide +kernel, rfl, by decide +kernel, by decide +kernel⟩
theorem S_rest_behind : FnScope ["moment", "weaving", "left", "at", "party", "many"] ["moment", "weaving"] (defScope s_rest_behind) := ⟨rfl, rfl, rfl, by decide +kernel, rfl, by decide +kernel, by decide +kernel⟩
theorem S_check_weaving : FnScope ["moment", "weaving"] ["moment", "weaving"] (defScope s_check_weaving) := ⟨rfl, rfl, rfl, by decide +kernel, rfl, by decide +kernel, by decide +kernel⟩
theorem S_check_pieces : FnScope ["weaving", "at", "party", "many"] ["weaving"] (defScope s_check_pieces) := ⟨rfl, rfl, rfl, by decide +kernel, rfl, by decide +kernel, by decide +kernel⟩
theorem S_effective : FnScope ["weaving", "band", "at", "party", "total", "many"] ["weaving", "band"] (defScope s_effective) := ⟨rfl, rfl, rfl, by decide +kernel, rfl, by decide +kernel, by decide +kernel⟩
theorem S_check_strike : FnScope ["left", "bears", "strike", "at", "party", "name", "many"] ["left", "bears", "strike", "at"] (defScope s_check_strike) := ⟨rfl, rfl, rfl, by decide +kernel, rfl, by decide +kernel, by decide +kernel⟩
theorem S_take_strike : FnScope ["left", "bears", "strike", "party", "name", "many"] ["left", "bears", "strike"] (defScope s_take_strike) := ⟨rfl, rfl, rfl, by decide +kernel, rfl, by decide +kernel, by decide +kernel⟩
theorem S_is_out : FnScope ["row", "bears", "name", "other"] ["row", "bears", "name"] (defScope s_is_out) := ⟨rfl, rfl, rfl, by decide +kernel, rfl, by decide +kernel, by decide +kernel⟩
theorem S_walk : FnScope ["moment", "strikes", "ranks", "left", "bears", "marks", "at", "strike"] ["moment", "strikes"] (defScope s_walk) := ⟨rfl, rfl, rfl, by decide +kernel, rfl, by decide +kernel, by decide +kernel⟩
theorem S_behind : FnScope ["moment", "strikes", "marks", "left", "bears"] ["moment", "strikes"] (defScope s_behind) := ⟨rfl, rfl, rfl, by decide +kernel, rfl, by decide +kernel, by decide +kernel⟩
theorem S_check_numbers : FnScope ["moment", "party", "name", "bears"] ["moment", "party", "name"] (defScope s_check_numbers) := ⟨rfl, rfl, rfl, by decide +kernel, rfl, by decide +kernel, by decide +kernel⟩
theorem S_check_set : FnScope ["members", "allowed", "at", "member"] ["members", "allowed"] (defScope s_check_set) := ⟨rfl, rfl, rfl, by decide +kernel, rfl, by decide +kernel, by decide +kernel⟩
theorem S_check_band : FnScope ["moment", "band"] ["moment", "band"] (defScope s_check_band) := ⟨rfl, rfl, rfl, by decide +kernel, rfl, by decide +kernel, by decide +kernel⟩
theorem S_outside_names : FnScope ["moment", "names", "name"] ["moment", "names"] (defScope s_outside_names) := ⟨rfl, rfl, rfl, by decide +kernel, rfl, by decide +kernel, by decide +kernel⟩
theorem S_outside_strokes : FnScope ["moment", "names", "bears", "name"] ["moment", "names"] (defScope s_outside_strokes) := ⟨rfl, rfl, rfl, by decide +kernel, rfl, by decide +kernel, by decide +kernel⟩
theorem S_can_force : FnScope ["moment", "weaving", "band", "names"] ["moment", "weaving", "band", "names"] (defScope s_can_force) := ⟨rfl, rfl, rfl, by decide +kernel, rfl, by decide +kernel, by decide +kernel⟩
theorem S_guard_of : FnScope ["moment", "names", "outside"] ["moment", "names"] (defScope s_guard_of) := ⟨rfl, rfl, rfl, by decide +kernel, rfl, by decide +kernel, by decide +kernel⟩
theorem S__law_mix : FnScope ["one", "two", "worth"] ["one", "two"] (defScope s__law_mix) := ⟨rfl, rfl, rfl, by decide +kernel, rfl, by decide +kernel, by decide +kernel⟩
theorem S__law_store : FnScope ["script", "seed", "cell"] ["script"] (defScope s__law_store) := ⟨rfl, rfl, rfl, by decide +kernel, rfl, by decide +kernel, by decide +kernel⟩
theorem S__law_take : FnScope ["store", "many", "cell", "digit"] ["store", "many"] (defScope s__law_take) := ⟨rfl, rfl, rfl, by decide +kernel, rfl, by decide +kernel, by decide +kernel⟩
theorem S__law_number : FnScope ["store", "many", "worth", "reach", "k"] ["store", "many"] (defScope s__law_number) := ⟨rfl, rfl, rfl, by decide +kernel, rfl, by decide +kernel, by decide +kernel⟩
theorem S__law_between : FnScope ["store", "low", "high"] ["store", "low", "high"] (defScope s__law_between) := ⟨rfl, rfl, rfl, by decide +kernel, rfl, by decide +kernel, by decide +kernel⟩
theorem S__law_near_ends : FnScope ["store", "low", "high", "kind"] ["store", "low", "high"] (defScope s__law_near_ends) := ⟨rfl, rfl, rfl, by decide +kernel, rfl, by decide +kernel, by decide +kernel⟩
theorem S__law_pick : FnScope ["store", "row"] ["store", "row"] (defScope s__law_pick) := ⟨rfl, rfl, rfl, by decide +kernel, rfl, by decide +kernel, by decide +kernel⟩
theorem S__law_shuffled : FnScope ["store", "row", "work", "k", "at", "held"] ["store", "row"] (defScope s__law_shuffled) := ⟨rfl, rfl, rfl, by decide +kernel, rfl, by decide +kernel, by decide +kernel⟩
theorem S__law_some : FnScope ["store", "row", "kind", "item"] ["store", "row"] (defScope s__law_some) := ⟨rfl, rfl, rfl, by decide +kernel, rfl, by decide +kernel, by decide +kernel⟩
theorem S__law_same : FnScope ["told", "due", "k"] ["told", "due"] (defScope s__law_same) := ⟨rfl, rfl, rfl, by decide +kernel, rfl, by decide +kernel, by decide +kernel⟩
theorem S__law_parts : FnScope ["store", "total", "many", "most", "kind", "rest_of", "row", "k", "low", "high", "part"] ["store", "total", "many", "most"] (defScope s__law_parts) := ⟨rfl, rfl, rfl, by decide +kernel, rfl, by decide +kernel, by decide +kernel⟩
theorem S__law_standing : FnScope ["bears", "x"] ["bears"] (defScope s__law_standing) := ⟨rfl, rfl, rfl, by decide +kernel, rfl, by decide +kernel, by decide +kernel⟩
theorem S__law_turns : FnScope ["store", "left", "pieces", "give", "kind", "turns", "k", "able", "v", "many"] ["store", "left", "pieces"] (defScope s__law_turns) := ⟨rfl, rfl, rfl, by decide +kernel, rfl, by decide +kernel, by decide +kernel⟩
theorem S__law_ranks : FnScope ["store", "bears", "strict", "step", "least", "levels", "row", "level", "x"] ["store", "bears", "strict"] (defScope s__law_ranks) := ⟨rfl, rfl, rfl, by decide +kernel, rfl, by decide +kernel, by decide +kernel⟩
theorem S__law_world : FnScope ["store", "most", "total", "strict", "parties", "names", "standing", "x", "strokes", "more", "bears", "k", "even", "left", "rows", "v"] ["store", "most", "total", "strict"] (defScope s__law_world) := ⟨rfl, rfl, rfl, by decide +kernel, rfl, by decide +kernel, by decide +kernel⟩
theorem S__law_made : FnScope ["shape", "row"] ["shape"] (defScope s__law_made) := ⟨rfl, rfl, rfl, by decide +kernel, rfl, by decide +kernel, by decide +kernel⟩
theorem S__law_kept : FnScope ["moment", "shape"] ["moment", "shape"] (defScope s__law_kept) := ⟨rfl, rfl, rfl, by decide +kernel, rfl, by decide +kernel, by decide +kernel⟩
theorem S__law_ended : FnScope ["shape", "row"] ["shape"] (defScope s__law_ended) := ⟨rfl, rfl, rfl, by decide +kernel, rfl, by decide +kernel, by decide +kernel⟩
theorem S__law_odd : FnScope ["store", "many"] ["store", "many"] (defScope s__law_odd) := ⟨rfl, rfl, rfl, by decide +kernel, rfl, by decide +kernel, by decide +kernel⟩
theorem S__law_bent_set : FnScope ["store", "members", "row", "at", "kind", "strange", "x"] ["store", "members", "row"] (defScope s__law_bent_set) := ⟨rfl, rfl, rfl, by decide +kernel, rfl, by decide +kernel, by decide +kernel⟩
theorem S__law_refused : FnScope ["caught", "told"] ["caught"] (defScope s__law_refused) := ⟨rfl, rfl, rfl, by decide +kernel, rfl, by decide +kernel, by decide +kernel⟩
theorem S__law_own : FnScope ["turns", "band", "own", "piece"] ["turns", "band"] (defScope s__law_own) := ⟨rfl, rfl, rfl, by decide +kernel, rfl, by decide +kernel, by decide +kernel⟩
theorem S__law_near : FnScope ["store", "left", "turns", "over", "found", "v", "more"] ["store", "left", "turns", "over"] (defScope s__law_near) := ⟨rfl, rfl, rfl, by decide +kernel, rfl, by decide +kernel, by decide +kernel⟩
theorem S__law_guard_due : FnScope ["bears", "some", "standing", "outside", "x"] ["bears", "some"] (defScope s__law_guard_due) := ⟨rfl, rfl, rfl, by decide +kernel, rfl, by decide +kernel, by decide +kernel⟩
theorem S__law_guard : FnScope ["moment", "some", "which", "told", "e"] ["moment", "some"] (defScope s__law_guard) := ⟨rfl, rfl, rfl, by decide +kernel, rfl, by decide +kernel, by decide +kernel⟩
theorem S__law_behind : FnScope ["moment", "strikes", "row", "now", "told", "e"] ["moment", "strikes"] (defScope s__law_behind) := ⟨rfl, rfl, rfl, by decide +kernel, rfl, by decide +kernel, by decide +kernel⟩
theorem S__law_played : FnScope ["store", "shape", "moment", "turns", "side", "some", "give", "bear", "now", "strikes", "piece", "many", "k", "cut", "x", "part"] ["store", "shape", "moment", "turns", "side", "some"] (defScope s__law_played) := ⟨rfl, rfl, rfl, by decide +kernel, rfl, by decide +kernel, by decide +kernel⟩
theorem S__law_refusals : FnScope ["store", "shape", "moment", "some", "strikes", "ended", "which", "at", "v", "x", "bad", "row"] ["store", "shape", "moment", "some", "strikes"] (defScope s__law_refusals) := ⟨rfl, rfl, rfl, by decide +kernel, rfl, by decide +kernel, by decide +kernel⟩
theorem S_law : FnScope ["script", "store", "kind", "shape", "moment", "standing", "turns", "some", "over", "x", "band", "can", "side", "aim", "v", "strikes", "done", "row"] ["script"] (defScope s_law) := ⟨rfl, rfl, rfl, by decide +kernel, rfl, by decide +kernel, by decide +kernel⟩
end
end K78
set_option Elab.async false
set_option linter.all false
set_option maxRecDepth 100000
set_option maxHeartbeats 0
namespace K78
open PySem PySem.W PySem.Calls PySem.Spec PyProof.Rows L2 L2H AL

def loose0 : List Str := ["_wall", "OfficeError", "BadLine", "Empty", "TooMany", "BadWord", "Doubled", "BadShare", "BadRanking", "BadRange", "BadPlace", "Unequal", "Unknown", "Over", "Fallen", "BadChooser", "TiedRanks", "BadWeaving", "BadSet", "BadStages", "BadOrder", "BadSize", "BadTable", "TooMuch", "BadSum", "BadStrike", "Unfinished", "OutOfRank", "BadSpan", "NoBlock"]
def loose1 : List Str := ["BadBargain", "NoPairing", "NotLast", "NotObtainable", "NotNear", "NoBottom", "Clash", "Shared", "Different", "LastName", "NoPost", "BadDeed", "BadStamp", "StampTaken", "NoDeed", "MOST_SIDE", "MOST_RANK", "MOST_STROKES", "check_sides", "check_amounts", "check_number", "Moment", "rest_behind", "check_weaving", "check_pieces", "effective", "check_strike", "take_strike", "is_out", "walk"]
def loose2 : List Str := ["behind", "check_numbers", "check_set", "check_band", "outside_names", "outside_strokes", "can_force", "guard_of", "_law_mix", "_law_store", "_law_take", "_law_number", "_law_between", "_law_near_ends", "_law_pick", "_law_shuffled", "_law_some", "_law_same", "_law_parts", "_law_standing", "_law_turns", "_law_ranks", "_law_world", "_law_made", "_law_kept", "_law_ended", "_law_odd", "_law_bent_set", "_law_refused", "_law_own"]
def loose3 : List Str := ["_law_near", "_law_guard_due", "_law_guard", "_law_behind", "_law_played", "_law_refusals"]
def loose : List Str := loose0 ++ loose1 ++ loose2 ++ loose3
def as0 : List Addr := [3, 6, 4, 21, 31, 51, 63, 82, 101, 120, 139, 158, 177, 196, 215, 234, 246, 265, 277, 296, 315, 334, 353, 372, 391, 410, 429, 448, 467, 486, 505, 524, 543, 562, 574, 593, 612, 631, 643, 662]
def as1 : List Addr := [681, 700, 712, 731, 743, 762, 781, 800, 809, 816, 823, 926, 937, 944, 951, 956, 963, 970, 975, 982, 989, 997, 1004, 1011, 1016, 1021, 1028, 1035, 1042, 1049, 1056, 1063, 1070, 1077, 1084, 1091, 1096, 1103, 1110, 1115]
def as2 : List Addr := [1120, 1125, 1130, 1135, 1142, 1147, 1154, 1159, 1166, 1171, 1178, 1183, 1190, 1197, 1202, 1209, 1214, 0, 20, 30, 50, 62, 81, 100, 119, 138, 157, 176, 195, 214, 233, 245, 264, 276, 295, 314, 333, 352, 371, 390]
def as3 : List Addr := [409, 428, 447, 466, 485, 504, 523, 542, 561, 573, 592, 611, 630, 642, 661, 680, 699, 711, 730, 742, 761, 780, 799, 808, 815, 822, 925, 936, 943, 950, 955, 962, 969, 974, 981, 988, 996, 990, 1003, 1010]
def as4 : List Addr := [1015, 1020, 1027, 1034, 1041, 1048, 1055, 1062, 1069, 1076, 1083, 1090, 1095, 1102, 1109, 1114, 1119, 1124, 1129, 1134, 1141, 1146, 1153, 1158, 1165, 1170, 1177, 1182, 1189, 1196, 1201, 1208, 1213, 15, 16, 17, 18, 19, 29, 32]
def as5 : List Addr := [48, 49, 61, 79, 80, 98, 99, 117, 118, 136, 137, 155, 156, 174, 175, 193, 194, 212, 213, 231, 232, 244, 262, 263, 275, 293, 294, 312, 313, 331, 332, 350, 351, 369, 370, 388, 389, 407, 408, 426]
def as6 : List Addr := [427, 445, 446, 464, 465, 483, 484, 502, 503, 521, 522, 540, 541, 559, 560, 572, 590, 591, 609, 610, 628, 629, 641, 659, 660, 678, 679, 697, 698, 710, 728, 729, 741, 759, 760, 778, 779, 797, 798, 803]
def as7 : List Addr := [804, 805, 806, 807, 810, 811, 812, 813, 814, 817, 818, 819, 820, 821, 835, 842, 849, 855, 863, 871, 879, 887, 895, 903, 910, 915, 923, 924, 927, 928, 931, 932, 933, 934, 935, 938, 939, 940, 941, 942]
def as8 : List Addr := [945, 946, 947, 948, 949, 952, 953, 954, 957, 958, 959, 960, 961, 964, 965, 966, 967, 968, 971, 972, 973, 976, 977, 978, 979, 980, 983, 984, 985, 986, 987, 991, 992, 993, 994, 995, 998, 999, 1000, 1001]
def as9 : List Addr := [1002, 1005, 1006, 1007, 1008, 1009, 1012, 1013, 1014, 1017, 1018, 1019, 1022, 1023, 1024, 1025, 1026, 1029, 1030, 1031, 1032, 1033, 1036, 1037, 1038, 1039, 1040, 1043, 1044, 1045, 1046, 1047, 1050, 1051, 1052, 1053, 1054, 1057, 1058, 1059]
def as10 : List Addr := [1060, 1061, 1064, 1065, 1066, 1067, 1068, 1071, 1072, 1073, 1074, 1075, 1078, 1079, 1080, 1081, 1082, 1085, 1086, 1087, 1088, 1089, 1092, 1093, 1094, 1097, 1098, 1099, 1100, 1101, 1104, 1105, 1106, 1107, 1108, 1111, 1112, 1113, 1116, 1117]
def as11 : List Addr := [1118, 1121, 1122, 1123, 1126, 1127, 1128, 1131, 1132, 1133, 1136, 1137, 1138, 1139, 1140, 1143, 1144, 1145, 1148, 1149, 1150, 1151, 1152, 1155, 1156, 1157, 1160, 1161, 1162, 1163, 1164, 1167, 1168, 1169, 1172, 1173, 1174, 1175, 1176, 1179]
def as12 : List Addr := [1180, 1181, 1184, 1185, 1186, 1187, 1188, 1191, 1192, 1193, 1194, 1195, 1198, 1199, 1200, 1203, 1204, 1205, 1206, 1207, 1210, 1211, 1212, 47, 78, 97, 116, 135, 154, 173, 192, 211, 230, 261, 292, 311, 330, 349, 368, 387]
def as13 : List Addr := [406, 425, 444, 463, 482, 501, 520, 539, 558, 589, 608, 627, 658, 677, 696, 727, 758, 777, 796, 834, 841, 848, 854, 862, 870, 878, 886, 894, 902, 909, 914, 922, 916, 42, 43, 44, 45, 46, 73, 74]
def as14 : List Addr := [75, 76, 77, 92, 93, 94, 95, 96, 111, 112, 113, 114, 115, 130, 131, 132, 133, 134, 149, 150, 151, 152, 153, 168, 169, 170, 171, 172, 187, 188, 189, 190, 191, 206, 207, 208, 209, 210, 225, 226]
def as15 : List Addr := [227, 228, 229, 256, 257, 258, 259, 260, 287, 288, 289, 290, 291, 306, 307, 308, 309, 310, 325, 326, 327, 328, 329, 344, 345, 346, 347, 348, 363, 364, 365, 366, 367, 382, 383, 384, 385, 386, 401, 402]
def as16 : List Addr := [403, 404, 405, 420, 421, 422, 423, 424, 439, 440, 441, 442, 443, 458, 459, 460, 461, 462, 477, 478, 479, 480, 481, 496, 497, 498, 499, 500, 515, 516, 517, 518, 519, 534, 535, 536, 537, 538, 553, 554]
def as17 : List Addr := [555, 556, 557, 584, 585, 586, 587, 588, 603, 604, 605, 606, 607, 622, 623, 624, 625, 626, 653, 654, 655, 656, 657, 672, 673, 674, 675, 676, 691, 692, 693, 694, 695, 722, 723, 724, 725, 726, 753, 754]
def as18 : List Addr := [755, 756, 757, 772, 773, 774, 775, 776, 791, 792, 793, 794, 795, 831, 832, 833, 836, 837, 838, 839, 840, 843, 844, 845, 846, 847, 853, 861, 869, 877, 885, 893, 901, 904, 905, 906, 907, 908, 911, 912]
def as19 : List Addr := [913, 917, 918, 919, 920, 921]
def asL : List Addr := as0 ++ as1 ++ as2 ++ as3 ++ as4 ++ as5 ++ as6 ++ as7 ++ as8 ++ as9 ++ as10 ++ as11 ++ as12 ++ as13 ++ as14 ++ as15 ++ as16 ++ as17 ++ as18 ++ as19
abbrev R : PySem.W.OpenRow := PySem.W.OpenLaw.row PySem.Challenge.rw_lastnamed_k78_guards_force_their_set
end K78
set_option Elab.async false
set_option linter.all false
set_option maxRecDepth 100000
set_option maxHeartbeats 4000000
namespace K78
open PySem PySem.Spec PyProof.Rows L2 L2H AL

section
variable {P : Program} {w : World} {K : PySem.W.Frag} {mg : Str → Option Value} {base : Heap}
theorem bind_check_numbers {K : PySem.W.Frag} {f : Addr} {fd : FuncData} (F : FunD K "check_numbers" "check_numbers" (defArgs s_check_numbers) (defBody s_check_numbers) (defScope s_check_numbers) [] [("party", .non), ("name", .non)] f fd) :
    ∃ ds, Vals [V.non, V.non] ds ∧ L2.Binds K fd ["moment", "party", "name"] ds := by
  refine F.binds0 1 (by simp) rfl fun D doc pm an cdv ct us ks hl hk => ?_
  match us, ks, hl, hk with
  | [u], [a, b], _, _ =>
    refine ⟨_, _, _, _, _, _, rfl, rfl, ?_⟩
    refine ⟨_, _, _, _, _, _, rfl, rfl, ?_⟩
    rfl
theorem dv_check_numbers {K : PySem.W.Frag} : ∀ s R, ValL K s R [.non, .non] [V.non, V.non] := fun _ _ => by simp [ValL, Val]
theorem ok_check_sides (T : Txt P w K mg base) : Cl P w K mg base "check_sides" 3 [] r_check_sides := by
  obtain ⟨fd, F⟩ := T.says.d.def_ 0 (d := d_check_sides) rfl
  refine cl_of (a := a_check_sides) F (T.g 0) (F.bindsN (ps := ["parties", "names"]) fun _ _ _ _ _ _ us hl => match us, hl with | [_, _], _ => rfl) S_check_sides ar2 rfl (fun cdv A outer s H E hr => ?_) pure_check_sides
  exact (js_cons (js_if (PW.pt (jw_or (jt_eq (huR hr) (je_var 0) je_int) (jw_or1 (jt_eq (huR hr) (je_var 1) je_int))))
 (js_cons js_nev
 js_nil)
 js_nil)
 (js_cons (js_if (PW.pt (jw_or (jt_gt (je_var 0) (je_gint rfl T.i_MOST_SIDE)) (jw_or1 (jt_gt (je_var 1) (je_gint rfl T.i_MOST_SIDE)))))
 (js_cons js_nev
 js_nil)
 js_nil)
 js_nil))
theorem ok_check_amounts (T : Txt P w K mg base) : Cl P w K mg base "check_amounts" 3 [] r_check_amounts := by
  obtain ⟨fd, F⟩ := T.says.d.def_ 1 (d := d_check_amounts) rfl
  refine cl_of (a := a_check_amounts) F (T.g 1) (F.bindsN (ps := ["amounts", "low", "high"]) fun _ _ _ _ _ _ us hl => match us, hl with | [_, _, _], _ => rfl) S_check_amounts ar3 rfl (fun cdv A outer s H E hr => ?_) pure_check_amounts
  exact (js_cons (js_for (passes_of rfl) rfl (ji_enum rfl (T.f 3) (ja_cons (je_var 0) ja_nil)) (jg_tup rfl (jgs_cons (jg_name S_check_amounts.nd) (jgs_cons (jg_name S_check_amounts.nd) jgs_nil)))
 (js_cons (js_if (PW.pt (jw_or (jt_lt (je_var 4) (je_var 1)) (jw_or1 (jt_gt (je_var 4) (je_var 2)))))
 (js_cons js_nev
 js_nil)
 js_nil)
 js_nil))
 js_nil)
theorem ok_Moment___init__ (T : Txt P w K mg base) : Mkr P w K mg base "Moment" 4 r_Moment___init__ := by
  obtain ⟨fd, F⟩ := T.says.d.def_ 2 (d := d_Moment___init__) rfl
  refine ⟨T.cls, _, fd, _, 4, io_Moment___init__, T.gC, T.mkr, (F.bindsN (ps := ["self", "ranks", "left", "bears"]) fun _ _ _ _ _ _ us hl => match us, hl with | [_, _, _, _], _ => rfl), ion_Moment___init__, ok_ofIO (m := 1) (n := 4) (nn := true) (a := a_Moment___init__) F S_Moment___init__ rfl (fun cdv A outer s H E hr => ?_) pure_Moment___init__, iof_Moment___init__⟩
  exact (js_cons (js_expr (je_call (ok_check_sides T) (takes_of rfl rfl rfl rfl) (hr.mono (by decide)) rfl (ja_cons (je_len rfl (T.f 0) (je_var 1)) (ja_cons (je_len rfl (T.f 0) (je_var 3)) ja_nil))))
 (js_cons (js_expr (je_call (ok_check_amounts T) (takes_of rfl rfl rfl rfl) (hr.mono (by decide)) rfl (ja_cons (je_add (je_list rfl (T.f 2) (je_var 2)) (je_list rfl (T.f 2) (je_var 3))) (ja_cons je_int (ja_cons (je_gint rfl T.i_MOST_STROKES) ja_nil)))))
 (js_cons (js_for (passes_of rfl) rfl (ji_enum rfl (T.f 3) (ja_cons (je_var 1) ja_nil)) (jg_tup rfl (jgs_cons (jg_name S_Moment___init__.nd) (jgs_cons (jg_name S_Moment___init__.nd) jgs_nil)))
 (js_cons (js_if (PW.pt (jw_or (jt_lt (je_min rfl rfl (T.f 6) (je_var 5)) je_int) (jw_or1 (jt_gt (je_max rfl rfl (T.f 5) (je_var 5)) (je_gint rfl T.i_MOST_RANK)))))
 (js_cons js_nev
 js_nil)
 js_nil)
 js_nil))
 (js_cons (js_if (jt_ne (huR hr) (je_sum rfl rfl (T.f 4) (je_var 2)) (je_sum rfl rfl (T.f 4) (je_var 3)))
 (js_cons js_nev
 js_nil)
 js_nil)
 (js_cons (js_fld 0 T.cls (T.na 0) rfl (je_lc rfl S_Moment___init__.nd (ji_list (je_var 1)) (own := [("row", 5)]) (blk_of (by kernel_rfl)) (by decide) (fun _ _ _ _ _ => (jg_name S_Moment___init__.nd)) (fun _ _ _ _ _ => jts_nil) (fun _ _ _ _ _ => (je_list rfl (T.f 2) (je_var 5)))))
 (js_cons (js_fld 0 T.cls (T.na 1) rfl (je_list rfl (T.f 2) (je_var 2)))
 (js_cons (js_fld 0 T.cls (T.na 2) rfl (je_list rfl (T.f 2) (je_var 3)))
 (js_cons (js_fld 0 T.cls (T.na 3) rfl (je_sum rfl rfl (T.f 4) (je_var 2)))
 (js_cons (js_fld 0 T.cls (T.na 4) rfl (je_lc rfl S_Moment___init__.nd (ji_enum rfl (T.f 3) (ja_cons (je_var 3) ja_nil)) (own := [("name", 6), ("strokes", 7)]) (blk_of (by kernel_rfl)) (by decide) (fun _ _ _ _ _ => (jg_tup rfl (jgs_cons (jg_name S_Moment___init__.nd) (jgs_cons (jg_name S_Moment___init__.nd) jgs_nil)))) (fun _ _ _ _ _ => (jts_one (jt_gt (je_var 7) je_int))) (fun _ _ _ _ _ => (je_var 6))))
 js_nil)))))))))
theorem ok_Moment_ranks (T : Txt P w K mg base) : Pr P w K mg base "Moment" "ranks" 1 r_Moment_ranks := by
  obtain ⟨⟨p, hp⟩, fd, F⟩ := T.says.prop 0 (d := p_Moment_ranks) rfl
  refine ⟨T.cls, p, _, fd, _, hp, (F.bindsN (ps := ["self"]) fun _ _ _ _ _ _ us hl => match us, hl with | [_], _ => rfl), ar1, ok_of (a := a_Moment_ranks) F S_Moment_ranks ar1 rfl (fun cdv A outer s H E hr => ?_) pure_Moment_ranks⟩
  exact (js_cons (js_ret (je_lc rfl S_Moment_ranks.nd (ji_list (je_fld T.cls (T.na 0) (je_var 0))) (own := [("row", 1)]) (blk_of (by kernel_rfl)) (by decide) (fun _ _ _ _ _ => (jg_name S_Moment_ranks.nd)) (fun _ _ _ _ _ => jts_nil) (fun _ _ _ _ _ => (je_list rfl (T.f 2) (je_var 1)))))
 js_nil)
theorem ok_Moment_left (T : Txt P w K mg base) : Pr P w K mg base "Moment" "left" 1 r_Moment_left := by
  obtain ⟨⟨p, hp⟩, fd, F⟩ := T.says.prop 1 (d := p_Moment_left) rfl
  refine ⟨T.cls, p, _, fd, _, hp, (F.bindsN (ps := ["self"]) fun _ _ _ _ _ _ us hl => match us, hl with | [_], _ => rfl), ar1, ok_of (a := a_Moment_left) F S_Moment_left ar1 rfl (fun cdv A outer s H E hr => ?_) pure_Moment_left⟩
  exact (js_cons (js_ret (je_list rfl (T.f 2) (je_fld T.cls (T.na 1) (je_var 0))))
 js_nil)
theorem ok_Moment_bears (T : Txt P w K mg base) : Pr P w K mg base "Moment" "bears" 1 r_Moment_bears := by
  obtain ⟨⟨p, hp⟩, fd, F⟩ := T.says.prop 2 (d := p_Moment_bears) rfl
  refine ⟨T.cls, p, _, fd, _, hp, (F.bindsN (ps := ["self"]) fun _ _ _ _ _ _ us hl => match us, hl with | [_], _ => rfl), ar1, ok_of (a := a_Moment_bears) F S_Moment_bears ar1 rfl (fun cdv A outer s H E hr => ?_) pure_Moment_bears⟩
  exact (js_cons (js_ret (je_list rfl (T.f 2) (je_fld T.cls (T.na 2) (je_var 0))))
 js_nil)
theorem ok_Moment_standing (T : Txt P w K mg base) : Pr P w K mg base "Moment" "standing" 1 r_Moment_standing := by
  obtain ⟨⟨p, hp⟩, fd, F⟩ := T.says.prop 3 (d := p_Moment_standing) rfl
  refine ⟨T.cls, p, _, fd, _, hp, (F.bindsN (ps := ["self"]) fun _ _ _ _ _ _ us hl => match us, hl with | [_], _ => rfl), ar1, ok_of (a := a_Moment_standing) F S_Moment_standing ar1 rfl (fun cdv A outer s H E hr => ?_) pure_Moment_standing⟩
  exact (js_cons (js_ret (je_list rfl (T.f 2) (je_fld T.cls (T.na 4) (je_var 0))))
 js_nil)
theorem ok_Moment_is_over (T : Txt P w K mg base) : Pr P w K mg base "Moment" "is_over" 1 r_Moment_is_over := by
  obtain ⟨⟨p, hp⟩, fd, F⟩ := T.says.prop 4 (d := p_Moment_is_over) rfl
  refine ⟨T.cls, p, _, fd, _, hp, (F.bindsN (ps := ["self"]) fun _ _ _ _ _ _ us hl => match us, hl with | [_], _ => rfl), ar1, ok_of (a := a_Moment_is_over) F S_Moment_is_over ar1 rfl (fun cdv A outer s H E hr => ?_) pure_Moment_is_over⟩
  exact (js_cons (js_ret (je_eq (huR hr) (je_fld T.cls (T.na 3) (je_var 0)) je_int))
 js_nil)
theorem ok_rest_behind (T : Txt P w K mg base) : Cl P w K mg base "rest_behind" 3 [] r_rest_behind := by
  obtain ⟨fd, F⟩ := T.says.d.def_ 3 (d := d_rest_behind) rfl
  refine cl_of (a := a_rest_behind) F (T.g 2) (F.bindsN (ps := ["moment", "weaving"]) fun _ _ _ _ _ _ us hl => match us, hl with | [_, _], _ => rfl) S_rest_behind ar2 rfl (fun cdv A outer s H E hr => ?_) pure_rest_behind
  exact (js_cons (js_set (jas 2 S_rest_behind.nd (je_list rfl (T.f 2) (je_prop (ok_Moment_left T) (hr.mono (by decide)) (je_var 0)))))
 (js_cons (js_for (passes_of rfl) rfl (ji_enum rfl (T.f 3) (ja_cons (je_var 1) ja_nil)) (jg_tup rfl (jgs_cons (jg_name S_rest_behind.nd) (jgs_cons (jg_tup rfl (jgs_cons (jg_name S_rest_behind.nd) (jgs_cons (jg_name S_rest_behind.nd) jgs_nil))) jgs_nil)))
 (js_cons (js_if (PW.pt (jw_or (jt_lt (je_var 4) je_int) (jw_or (jt_ge (je_var 4) (je_len rfl (T.f 0) (je_var 2))) (jw_or (jt_lt (je_var 5) je_int) (jw_or1 (jt_gt (je_var 5) (je_ix (je_var 2) (je_var 4))))))))
 (js_cons js_nev
 js_nil)
 js_nil)
 (js_cons (js_setIx 2 rfl (je_sub (je_ix (je_var 2) (je_var 4)) (je_var 5)) (je_var 4))
 js_nil)))
 (js_frz 2 (js_cons (js_ret (je_sum rfl rfl (T.f 4) (je_var 2)))
 js_nil))))
theorem ok_check_weaving (T : Txt P w K mg base) : Cl P w K mg base "check_weaving" 4 [] r_check_weaving := by
  obtain ⟨fd, F⟩ := T.says.d.def_ 4 (d := d_check_weaving) rfl
  refine cl_of (a := a_check_weaving) F (T.g 3) (F.bindsN (ps := ["moment", "weaving"]) fun _ _ _ _ _ _ us hl => match us, hl with | [_, _], _ => rfl) S_check_weaving ar2 rfl (fun cdv A outer s H E hr => ?_) pure_check_weaving
  exact (js_cons (js_if (jt_ne (huR hr) (je_call (ok_rest_behind T) (takes_of rfl rfl rfl rfl) (hr.mono (by decide)) rfl (ja_cons (je_var 0) (ja_cons (je_var 1) ja_nil))) je_int)
 (js_cons js_nev
 js_nil)
 js_nil)
 js_nil)
theorem ok_check_pieces (T : Txt P w K mg base) : Cl P w K mg base "check_pieces" 3 [] r_check_pieces := by
  obtain ⟨fd, F⟩ := T.says.d.def_ 5 (d := d_check_pieces) rfl
  refine cl_of (a := a_check_pieces) F (T.g 4) (F.bindsN (ps := ["weaving"]) fun _ _ _ _ _ _ us hl => match us, hl with | [_], _ => rfl) S_check_pieces ar1 rfl (fun cdv A outer s H E hr => ?_) pure_check_pieces
  exact (js_cons (js_for (passes_of rfl) rfl (ji_enum rfl (T.f 3) (ja_cons (je_var 0) ja_nil)) (jg_tup rfl (jgs_cons (jg_name S_check_pieces.nd) (jgs_cons (jg_tup rfl (jgs_cons (jg_name S_check_pieces.nd) (jgs_cons (jg_name S_check_pieces.nd) jgs_nil))) jgs_nil)))
 (js_cons (js_if (PW.pt (jw_or (jt_lt (je_var 2) je_int) (jw_or1 (jt_lt (je_var 3) je_int))))
 (js_cons js_nev
 js_nil)
 js_nil)
 js_nil))
 js_nil)
theorem ok_effective (T : Txt P w K mg base) : Cl P w K mg base "effective" 4 [] r_effective := by
  obtain ⟨fd, F⟩ := T.says.d.def_ 6 (d := d_effective) rfl
  refine cl_of (a := a_effective) F (T.g 5) (F.bindsN (ps := ["weaving", "band"]) fun _ _ _ _ _ _ us hl => match us, hl with | [_, _], _ => rfl) S_effective ar2 rfl (fun cdv A outer s H E hr => ?_) pure_effective
  exact (js_cons (js_expr (je_call (ok_check_pieces T) (takes_of rfl rfl rfl rfl) (hr.mono (by decide)) rfl (ja_cons (je_var 0) ja_nil)))
 (js_cons (js_for (passes_of rfl) rfl (ji_enum rfl (T.f 3) (ja_cons (je_var 1) ja_nil)) (jg_tup rfl (jgs_cons (jg_name S_effective.nd) (jgs_cons (jg_name S_effective.nd) jgs_nil)))
 (js_cons (js_if (PW.pt (jw_or (jt_lt (je_var 3) je_int) (jw_or1 (PW.pt (jw_and (jt_gt (je_var 2) je_int) (jw_and1 (jt_le (je_var 3) (je_ix (je_var 1) (je_sub (je_var 2) je_int)))))))))
 (js_cons (js_raise1 rfl (takes_of rfl rfl rfl rfl) (hr.mono (by decide)) (T.x_BadSet) rfl (je_var 2))
 js_nil)
 js_nil)
 js_nil))
 (js_cons (js_setZ (jas 4 S_effective.nd (je_sum rfl rfl (T.f 4) (je_lc rfl S_effective.nd (ji_list (je_var 0)) (own := [("party", 3), ("many", 5)]) (blk_of (by kernel_rfl)) (by decide) (fun _ _ _ _ _ => (jg_tup rfl (jgs_cons (jg_name S_effective.nd) (jgs_cons (jg_name S_effective.nd) jgs_nil)))) (fun _ _ _ _ _ => (jts_one (jt_in (je_var 3) (je_var 1)))) (fun _ _ _ _ _ => (je_var 5))))))
 (js_cons (js_if (PW.pt (jw_and (jt_gt (je_len rfl (T.f 0) (je_var 0)) je_int) (jw_and1 (jt_in (je_ix (je_ix (je_var 0) (je_neg je_int)) je_int) (je_var 1)))))
 (js_cons (js_ret (je_sub (je_var 4) je_int))
 js_nil)
 js_nil)
 (js_cons (js_ret (je_var 4))
 js_nil)))))
theorem ok_check_strike (T : Txt P w K mg base) : Cl P w K mg base "check_strike" 3 [] r_check_strike := by
  obtain ⟨fd, F⟩ := T.says.d.def_ 7 (d := d_check_strike) rfl
  refine cl_of (a := a_check_strike) F (T.g 6) (F.bindsN (ps := ["left", "bears", "strike", "at"]) fun _ _ _ _ _ _ us hl => match us, hl with | [_, _, _, _], _ => rfl) S_check_strike ar4 rfl (fun cdv A outer s H E hr => ?_) pure_check_strike
  exact (js_cons (js_setT (je_var 2) (jg_tup rfl (jgs_cons (jg_name S_check_strike.nd) (jgs_cons (jg_name S_check_strike.nd) (jgs_cons (jg_name S_check_strike.nd) jgs_nil)))))
 (js_cons (js_if (PW.pt (jw_or (jt_lt (je_var 4) je_int) (jw_or (jt_ge (je_var 4) (je_len rfl (T.f 0) (je_var 0))) (jw_or (jt_lt (je_var 5) je_int) (jw_or1 (jt_ge (je_var 5) (je_len rfl (T.f 0) (je_var 1))))))))
 (js_cons (js_raise1 rfl (takes_of rfl rfl rfl rfl) (hr.mono (by decide)) (T.x_BadStrike) rfl (je_var 3))
 js_nil)
 js_nil)
 (js_cons (js_if (PW.pt (jw_or (jt_lt (je_var 6) je_int) (jw_or (jt_gt (je_var 6) (je_ix (je_var 0) (je_var 4))) (jw_or1 (jt_gt (je_var 6) (je_ix (je_var 1) (je_var 5)))))))
 (js_cons (js_raise1 rfl (takes_of rfl rfl rfl rfl) (hr.mono (by decide)) (T.x_BadStrike) rfl (je_var 3))
 js_nil)
 js_nil)
 js_nil)))
theorem ok_take_strike (T : Txt P w K mg base) : ClIO P w K mg base "take_strike" 1 2 true r_take_strike := by
  obtain ⟨fd, F⟩ := T.says.d.def_ 8 (d := d_take_strike) rfl
  refine ⟨_, fd, _, 3, (T.g 7), F.kp, (F.bindsN (ps := ["left", "bears", "strike"]) fun _ _ _ _ _ _ us hl => match us, hl with | [_, _, _], _ => rfl), ion_take_strike, ok_ofIO (m := 2) (n := 3) (nn := true) (a := a_take_strike) F S_take_strike rfl (fun cdv A outer s H E hr => ?_) pure_take_strike⟩
  exact (js_cons (js_setT (je_var 2) (jg_tup rfl (jgs_cons (jg_name S_take_strike.nd) (jgs_cons (jg_name S_take_strike.nd) (jgs_cons (jg_name S_take_strike.nd) jgs_nil)))))
 (js_cons (js_setIx 0 rfl (je_sub (je_ix (je_var 0) (je_var 3)) (je_var 5)) (je_var 3))
 (js_cons (js_setIx 1 rfl (je_sub (je_ix (je_var 1) (je_var 4)) (je_var 5)) (je_var 4))
 js_nil)))
theorem ok_is_out (T : Txt P w K mg base) : Cl P w K mg base "is_out" 1 [] r_is_out := by
  obtain ⟨fd, F⟩ := T.says.d.def_ 9 (d := d_is_out) rfl
  refine cl_of (a := a_is_out) F (T.g 8) (F.bindsN (ps := ["row", "bears", "name"]) fun _ _ _ _ _ _ us hl => match us, hl with | [_, _, _], _ => rfl) S_is_out ar3 rfl (fun cdv A outer s H E hr => ?_) pure_is_out
  exact (js_cons (js_ret (je_any rfl rfl (T.f 8) (je_lc rfl S_is_out.nd (ji_range1 rfl (T.f 1) (ja_cons (je_len rfl (T.f 0) (je_var 1)) ja_nil)) (own := [("other", 3)]) (blk_of (by kernel_rfl)) (by decide) (fun _ _ _ _ _ => (jg_name S_is_out.nd)) (fun _ _ _ _ _ => jts_nil) (fun _ _ _ _ _ => (je_and (je_gt (je_ix (je_var 1) (je_var 3)) je_int) (je_one (je_gt (je_ix (je_var 0) (je_var 3)) (je_ix (je_var 0) (je_var 2)))))))))
 js_nil)
theorem ok_walk (T : Txt P w K mg base) : Cl P w K mg base "walk" 4 [] r_walk := by
  obtain ⟨fd, F⟩ := T.says.d.def_ 10 (d := d_walk) rfl
  refine cl_of (a := a_walk) F (T.g 9) (F.bindsN (ps := ["moment", "strikes"]) fun _ _ _ _ _ _ us hl => match us, hl with | [_, _], _ => rfl) S_walk ar2 rfl (fun cdv A outer s H E hr => ?_) pure_walk
  exact (js_cons (js_setZ (jas 2 S_walk.nd (je_prop (ok_Moment_ranks T) (hr.mono (by decide)) (je_var 0))))
 (js_cons (js_set (jas 3 S_walk.nd (je_list rfl (T.f 2) (je_prop (ok_Moment_left T) (hr.mono (by decide)) (je_var 0)))))
 (js_cons (js_set (jas 4 S_walk.nd (je_list rfl (T.f 2) (je_prop (ok_Moment_bears T) (hr.mono (by decide)) (je_var 0)))))
 (js_cons (js_set (jas 5 S_walk.nd (je_lst ja_nil)))
 (js_cons (js_for (passes_of rfl) rfl (ji_enum rfl (T.f 3) (ja_cons (je_var 1) ja_nil)) (jg_tup rfl (jgs_cons (jg_name S_walk.nd) (jgs_cons (jg_name S_walk.nd) jgs_nil)))
 (js_cons (js_expr (je_call (ok_check_strike T) (takes_of rfl rfl rfl rfl) (hr.mono (by decide)) rfl (ja_cons (je_var 3) (ja_cons (je_var 4) (ja_cons (je_var 7) (ja_cons (je_var 6) ja_nil))))))
 (js_cons (js_app 5 rfl (je_call (ok_is_out T) (takes_of rfl rfl rfl rfl) (hr.mono (by decide)) rfl (ja_cons (je_ix (je_var 2) (je_ix (je_var 7) je_int)) (ja_cons (je_var 4) (ja_cons (je_ix (je_var 7) je_int) ja_nil)))))
 (js_cons (js_io2 (ok_take_strike T) 3 4 (hr.mono (by decide)) rfl (by decide) (by decide) (by decide) rfl rfl (ja_cons (je_var 7) ja_nil))
 js_nil))))
 (js_frz 5 (js_frz 4 (js_frz 3 (js_cons (js_ret (je_tup (ja_cons (je_var 5) (ja_cons (je_var 3) (ja_cons (je_var 4) ja_nil)))))
 js_nil)))))))))
theorem ok_behind (T : Txt P w K mg base) : Cl P w K mg base "behind" 6 [] r_behind := by
  obtain ⟨fd, F⟩ := T.says.d.def_ 11 (d := d_behind) rfl
  refine cl_of (a := a_behind) F (T.g 10) (F.bindsN (ps := ["moment", "strikes"]) fun _ _ _ _ _ _ us hl => match us, hl with | [_, _], _ => rfl) S_behind ar2 rfl (fun cdv A outer s H E hr => ?_) pure_behind
  exact (js_cons (js_setT (je_call (ok_walk T) (takes_of rfl rfl rfl rfl) (hr.mono (by decide)) rfl (ja_cons (je_var 0) (ja_cons (je_var 1) ja_nil))) (jg_tup rfl (jgs_cons (jg_name S_behind.nd) (jgs_cons (jg_name S_behind.nd) (jgs_cons (jg_name S_behind.nd) jgs_nil)))))
 (js_cons (js_ret (je_make (ok_Moment___init__ T) (hr.mono (by decide)) rfl (ja_cons (je_prop (ok_Moment_ranks T) (hr.mono (by decide)) (je_var 0)) (ja_cons (je_var 3) (ja_cons (je_var 4) ja_nil)))))
 js_nil))
theorem ok_check_numbers (T : Txt P w K mg base) : Cl P w K mg base "check_numbers" 3 [.non, .non] r_check_numbers := by
  obtain ⟨fd, F⟩ := T.says.d.def_ 12 (d := d_check_numbers) rfl
  obtain ⟨ds, hds, hb⟩ := bind_check_numbers F
  refine ⟨_, fd, _, ds, _, 3, (T.g 11), F.kp, hb, hds, dv_check_numbers, ar3, ok_of (a := a_check_numbers) F S_check_numbers ar3 rfl (fun cdv A outer s H E hr => ?_) pure_check_numbers⟩
  exact (js_cons (js_setZ (jas 3 S_check_numbers.nd (je_prop (ok_Moment_bears T) (hr.mono (by decide)) (je_var 0))))
 (js_cons (js_if (PW.pt (jw_and (jt_notN (je_var 1)) (jw_and1 jt_nev)))
 (js_cons js_nev
 js_nil)
 js_nil)
 (js_cons (js_if (PW.pt (jw_and (jt_notN (je_var 2)) (jw_and1 jt_nev)))
 (js_cons js_nev
 js_nil)
 js_nil)
 (js_cons (js_if (jt_val (je_prop (ok_Moment_is_over T) (hr.mono (by decide)) (je_var 0)))
 (js_cons (js_raise0 rfl (takes_of rfl rfl rfl rfl) (T.x_Over) rfl)
 js_nil)
 js_nil)
 (js_cons (js_if (PW.pt (jw_and (jt_notN (je_var 2)) (jw_and1 (jt_eq (huR hr) (je_ix (je_var 3) (je_var 2)) je_int))))
 (js_cons js_nev
 js_nil)
 js_nil)
 js_nil)))))
theorem ok_check_set (T : Txt P w K mg base) : Cl P w K mg base "check_set" 3 [] r_check_set := by
  obtain ⟨fd, F⟩ := T.says.d.def_ 13 (d := d_check_set) rfl
  refine cl_of (a := a_check_set) F (T.g 12) (F.bindsN (ps := ["members", "allowed"]) fun _ _ _ _ _ _ us hl => match us, hl with | [_, _], _ => rfl) S_check_set ar2 rfl (fun cdv A outer s H E hr => ?_) pure_check_set
  exact (js_cons (js_for (passes_of rfl) rfl (ji_enum rfl (T.f 3) (ja_cons (je_var 0) ja_nil)) (jg_tup rfl (jgs_cons (jg_name S_check_set.nd) (jgs_cons (jg_name S_check_set.nd) jgs_nil)))
 (js_cons (js_if (PW.pt (jw_or (jt_notin (je_var 3) (je_var 1)) (jw_or1 (PW.pt (jw_and (jt_gt (je_var 2) je_int) (jw_and1 (jt_le (je_var 3) (je_ix (je_var 0) (je_sub (je_var 2) je_int)))))))))
 (js_cons (js_raise1 rfl (takes_of rfl rfl rfl rfl) (hr.mono (by decide)) (T.x_BadSet) rfl (je_var 2))
 js_nil)
 js_nil)
 js_nil))
 js_nil)
theorem ok_check_band (T : Txt P w K mg base) : Cl P w K mg base "check_band" 4 [] r_check_band := by
  obtain ⟨fd, F⟩ := T.says.d.def_ 14 (d := d_check_band) rfl
  refine cl_of (a := a_check_band) F (T.g 13) (F.bindsN (ps := ["moment", "band"]) fun _ _ _ _ _ _ us hl => match us, hl with | [_, _], _ => rfl) S_check_band ar2 rfl (fun cdv A outer s H E hr => ?_) pure_check_band
  exact (js_cons (js_expr (je_call (ok_check_set T) (takes_of rfl rfl rfl rfl) (hr.mono (by decide)) rfl (ja_cons (je_var 1) (ja_cons (je_listRg rfl rfl (T.f 2) (jr_1 rfl (T.f 1) (je_len rfl (T.f 0) (je_prop (ok_Moment_left T) (hr.mono (by decide)) (je_var 0))))) ja_nil))))
 js_nil)
theorem ok_outside_names (T : Txt P w K mg base) : Cl P w K mg base "outside_names" 3 [] r_outside_names := by
  obtain ⟨fd, F⟩ := T.says.d.def_ 15 (d := d_outside_names) rfl
  refine cl_of (a := a_outside_names) F (T.g 14) (F.bindsN (ps := ["moment", "names"]) fun _ _ _ _ _ _ us hl => match us, hl with | [_, _], _ => rfl) S_outside_names ar2 rfl (fun cdv A outer s H E hr => ?_) pure_outside_names
  exact (js_cons (js_ret (je_lc rfl S_outside_names.nd (ji_list (je_prop (ok_Moment_standing T) (hr.mono (by decide)) (je_var 0))) (own := [("name", 2)]) (blk_of (by kernel_rfl)) (by decide) (fun _ _ _ _ _ => (jg_name S_outside_names.nd)) (fun _ _ _ _ _ => (jts_one (jt_notin (je_var 2) (je_var 1)))) (fun _ _ _ _ _ => (je_var 2))))
 js_nil)
theorem ok_outside_strokes (T : Txt P w K mg base) : Cl P w K mg base "outside_strokes" 4 [] r_outside_strokes := by
  obtain ⟨fd, F⟩ := T.says.d.def_ 16 (d := d_outside_strokes) rfl
  refine cl_of (a := a_outside_strokes) F (T.g 15) (F.bindsN (ps := ["moment", "names"]) fun _ _ _ _ _ _ us hl => match us, hl with | [_, _], _ => rfl) S_outside_strokes ar2 rfl (fun cdv A outer s H E hr => ?_) pure_outside_strokes
  exact (js_cons (js_setZ (jas 2 S_outside_strokes.nd (je_prop (ok_Moment_bears T) (hr.mono (by decide)) (je_var 0))))
 (js_cons (js_ret (je_sum rfl rfl (T.f 4) (je_lc rfl S_outside_strokes.nd (ji_list (je_call (ok_outside_names T) (takes_of rfl rfl rfl rfl) (hr.mono (by decide)) rfl (ja_cons (je_var 0) (ja_cons (je_var 1) ja_nil)))) (own := [("name", 3)]) (blk_of (by kernel_rfl)) (by decide) (fun _ _ _ _ _ => (jg_name S_outside_strokes.nd)) (fun _ _ _ _ _ => jts_nil) (fun _ _ _ _ _ => (je_ix (je_var 2) (je_var 3))))))
 js_nil))
theorem ok_can_force (T : Txt P w K mg base) : Cl P w K mg base "can_force" 5 [] r_can_force := by
  obtain ⟨fd, F⟩ := T.says.d.def_ 17 (d := d_can_force) rfl
  refine cl_of (a := a_can_force) F (T.g 16) (F.bindsN (ps := ["moment", "weaving", "band", "names"]) fun _ _ _ _ _ _ us hl => match us, hl with | [_, _, _, _], _ => rfl) S_can_force ar4 rfl (fun cdv A outer s H E hr => ?_) pure_can_force
  exact (js_cons (js_expr (je_call (ok_check_numbers T) (takes_of rfl rfl rfl rfl) (hr.mono (by decide)) rfl (ja_cons (je_var 0) ja_nil)))
 (js_cons (js_expr (je_call (ok_check_weaving T) (takes_of rfl rfl rfl rfl) (hr.mono (by decide)) rfl (ja_cons (je_var 0) (ja_cons (je_var 1) ja_nil))))
 (js_cons (js_expr (je_call (ok_check_band T) (takes_of rfl rfl rfl rfl) (hr.mono (by decide)) rfl (ja_cons (je_var 0) (ja_cons (je_var 2) ja_nil))))
 (js_cons (js_expr (je_call (ok_check_set T) (takes_of rfl rfl rfl rfl) (hr.mono (by decide)) rfl (ja_cons (je_var 3) (ja_cons (je_prop (ok_Moment_standing T) (hr.mono (by decide)) (je_var 0)) ja_nil))))
 (js_cons (js_ret (je_ge (je_call (ok_effective T) (takes_of rfl rfl rfl rfl) (hr.mono (by decide)) rfl (ja_cons (je_var 1) (ja_cons (je_var 2) ja_nil))) (je_call (ok_outside_strokes T) (takes_of rfl rfl rfl rfl) (hr.mono (by decide)) rfl (ja_cons (je_var 0) (ja_cons (je_var 3) ja_nil)))))
 js_nil)))))
theorem ok_guard_of (T : Txt P w K mg base) : Cl P w K mg base "guard_of" 4 [] r_guard_of := by
  obtain ⟨fd, F⟩ := T.says.d.def_ 18 (d := d_guard_of) rfl
  refine cl_of (a := a_guard_of) F (T.g 17) (F.bindsN (ps := ["moment", "names"]) fun _ _ _ _ _ _ us hl => match us, hl with | [_, _], _ => rfl) S_guard_of ar2 rfl (fun cdv A outer s H E hr => ?_) pure_guard_of
  exact (js_cons (js_expr (je_call (ok_check_numbers T) (takes_of rfl rfl rfl rfl) (hr.mono (by decide)) rfl (ja_cons (je_var 0) ja_nil)))
 (js_cons (js_expr (je_call (ok_check_set T) (takes_of rfl rfl rfl rfl) (hr.mono (by decide)) rfl (ja_cons (je_var 1) (ja_cons (je_prop (ok_Moment_standing T) (hr.mono (by decide)) (je_var 0)) ja_nil))))
 (js_cons (js_setZ (jas 2 S_guard_of.nd (je_call (ok_outside_names T) (takes_of rfl rfl rfl rfl) (hr.mono (by decide)) rfl (ja_cons (je_var 0) (ja_cons (je_var 1) ja_nil)))))
 (js_cons (js_if (jt_gt (je_len rfl (T.f 0) (je_var 2)) je_int)
 (js_cons (js_ret (je_ix (je_var 2) je_int))
 js_nil)
 js_nil)
 (js_cons (js_ret (je_ix (je_prop (ok_Moment_standing T) (hr.mono (by decide)) (je_var 0)) je_int))
 js_nil)))))
theorem ok__law_mix (T : Txt P w K mg base) : Cl P w K mg base "_law_mix" 1 [] r__law_mix := by
  obtain ⟨fd, F⟩ := T.says.d.def_ 19 (d := d__law_mix) rfl
  refine cl_of (a := a__law_mix) F (T.g 18) (F.bindsN (ps := ["one", "two"]) fun _ _ _ _ _ _ us hl => match us, hl with | [_, _], _ => rfl) S__law_mix ar2 rfl (fun cdv A outer s H E hr => ?_) pure__law_mix
  exact (js_cons (js_setZ (jas 2 S__law_mix.nd (je_mod (je_add (je_add (je_mul (je_mod (je_toint rfl (T.f 10) (je_var 0)) je_int) je_int) (je_mul (je_mod (je_toint rfl (T.f 10) (je_var 1)) je_int) je_int)) je_int) je_int)))
 (js_cons (js_setZ (jas 2 S__law_mix.nd (je_mod (je_add (je_add (je_mul (je_var 2) (je_var 2)) (je_mul (je_var 2) je_int)) je_int) je_int)))
 (js_cons (js_setZ (jas 2 S__law_mix.nd (je_mod (je_add (je_add (je_mul (je_var 2) je_int) (je_mul (je_mod (je_toint rfl (T.f 10) (je_var 1)) je_int) je_int)) je_int) je_int)))
 (js_cons (js_ret (je_mod (je_add (je_add (je_mul (je_var 2) (je_var 2)) (je_mul (je_var 2) je_int)) je_int) je_int))
 js_nil))))
theorem ok__law_store (T : Txt P w K mg base) : Cl P w K mg base "_law_store" 2 [] r__law_store := by
  obtain ⟨fd, F⟩ := T.says.d.def_ 20 (d := d__law_store) rfl
  refine cl_of (a := a__law_store) F (T.g 19) (F.bindsN (ps := ["script"]) fun _ _ _ _ _ _ us hl => match us, hl with | [_], _ => rfl) S__law_store ar1 rfl (fun cdv A outer s H E hr => ?_) pure__law_store
  exact (js_cons (js_setZ (jas 1 S__law_store.nd (je_call (ok__law_mix T) (takes_of rfl rfl rfl rfl) (hr.mono (by decide)) rfl (ja_cons (je_len rfl (T.f 0) (je_var 0)) (ja_cons je_int ja_nil)))))
 (js_cons (js_for (passes_of rfl) rfl (ji_list (je_var 0)) (jg_name S__law_store.nd)
 (js_cons (js_setZ (jas 1 S__law_store.nd (je_call (ok__law_mix T) (takes_of rfl rfl rfl rfl) (hr.mono (by decide)) rfl (ja_cons (je_var 1) (ja_cons (je_var 2) ja_nil)))))
 js_nil))
 (js_cons (js_ret (je_lst (ja_cons (je_list rfl (T.f 2) (je_var 0)) (ja_cons je_int (ja_cons je_int (ja_cons je_int (ja_cons (je_var 1) ja_nil)))))))
 js_nil)))
theorem ok__law_take (T : Txt P w K mg base) : Cl P w K mg base "_law_take" 2 [] r__law_take := by
  obtain ⟨fd, F⟩ := T.says.d.def_ 21 (d := d__law_take) rfl
  refine ⟨_, fd, _, [], [], 2, (T.g 20), F.kp, (F.bindsN (ps := ["store", "many"]) fun _ _ _ _ _ _ us hl => match us, hl with | [_, _], _ => rfl), .nil, fun _ _ => by simp [ValL], ar2, take_sto (ok_ofIO (m := 1) (n := 2) (nn := false) (a := a__law_take) F S__law_take rfl (fun cdv A outer s H E hr => ?_) pure__law_take)⟩
  exact (js_cons (js_if (jt_le (je_var 1) je_int)
 (js_cons (js_ret je_int)
 js_nil)
 js_nil)
 (js_cons (js_setIx 0 rfl (je_add (je_ix (je_var 0) je_int) je_int) je_int)
 (js_cons (js_if (PW.pt (jw_and (jt_eq (huR hr) (je_ix (je_var 0) je_int) je_int) (jw_and1 (jt_lt (je_ix (je_var 0) je_int) (je_len rfl (T.f 0) (je_ix (je_var 0) je_int))))))
 (js_cons (js_setB (jas 2 S__law_take.nd (je_ix (je_ix (je_var 0) je_int) (je_ix (je_var 0) je_int))))
 (js_frz 2 (js_cons (js_setIx 0 rfl (je_add (je_ix (je_var 0) je_int) je_int) je_int)
 (js_cons (js_if (jt_lt (je_abs rfl (T.f 11) (je_var 2)) (je_pow je_int je_int))
 (js_cons (js_retB (je_mod (je_toint rfl (T.f 10) (je_call (ok__law_mix T) (takes_of rfl rfl rfl rfl) (hr.mono (by decide)) rfl (ja_cons (je_var 2) (ja_cons (je_ix (je_var 0) je_int) ja_nil)))) (je_var 1)))
 js_nil)
 js_nil)
 (js_cons (js_setIx 0 rfl (je_abs rfl (T.f 11) (je_var 2)) je_int)
 js_nil)))))
 js_nil)
 (js_cons (js_if (jt_gt (je_ix (je_var 0) je_int) je_int)
 (js_cons (js_setB (jas 3 S__law_take.nd (je_mod (je_toint rfl (T.f 10) (je_ix (je_var 0) je_int)) (je_var 1))))
 (js_frz 3 (js_cons (js_setIx 0 rfl (je_div (je_toint rfl (T.f 10) (je_ix (je_var 0) je_int)) (je_var 1)) je_int)
 (js_cons (js_ret (je_var 3))
 js_nil))))
 js_nil)
 (js_cons (js_retB (je_mod (je_toint rfl (T.f 10) (je_call (ok__law_mix T) (takes_of rfl rfl rfl rfl) (hr.mono (by decide)) rfl (ja_cons (je_ix (je_var 0) je_int) (ja_cons (je_ix (je_var 0) je_int) ja_nil)))) (je_var 1)))
 js_nil)))))
theorem ok__law_number (T : Txt P w K mg base) : Cl P w K mg base "_law_number" 3 [] r__law_number := by
  obtain ⟨fd, F⟩ := T.says.d.def_ 22 (d := d__law_number) rfl
  refine cl_of (a := a__law_number) F (T.g 21) (F.bindsN (ps := ["store", "many"]) fun _ _ _ _ _ _ us hl => match us, hl with | [_, _], _ => rfl) S__law_number ar2 rfl (fun cdv A outer s H E hr => ?_) pure__law_number
  exact (js_cons (js_if (jt_le (je_var 1) (je_pow je_int je_int))
 (js_cons (js_ret (je_call (ok__law_take T) (takes_of rfl rfl rfl rfl) (hr.mono (by decide)) rfl (ja_cons (je_var 0) (ja_cons (je_var 1) ja_nil))))
 js_nil)
 js_nil)
 (js_cons (js_setZ (jas 2 S__law_number.nd je_int))
 (js_cons (js_setZ (jas 3 S__law_number.nd je_int))
 (js_cons (js_for (passes_of rfl) rfl (ji_range1 rfl (T.f 1) (ja_cons je_int ja_nil)) (jg_name S__law_number.nd)
 (js_cons (js_if (jt_ge (je_var 3) (je_var 1))
 (js_cons js_break
 js_nil)
 js_nil)
 (js_cons (js_setZ (jas 2 S__law_number.nd (je_add (je_mul (je_var 2) (je_pow je_int je_int)) (je_call (ok__law_take T) (takes_of rfl rfl rfl rfl) (hr.mono (by decide)) rfl (ja_cons (je_var 0) (ja_cons (je_pow je_int je_int) ja_nil))))))
 (js_cons (js_setZ (jas 3 S__law_number.nd (je_mul (je_var 3) (je_pow je_int je_int))))
 js_nil))))
 (js_cons (js_ret (je_mod (je_var 2) (je_var 1)))
 js_nil)))))
theorem ok__law_between (T : Txt P w K mg base) : Cl P w K mg base "_law_between" 4 [] r__law_between := by
  obtain ⟨fd, F⟩ := T.says.d.def_ 23 (d := d__law_between) rfl
  refine cl_of (a := a__law_between) F (T.g 22) (F.bindsN (ps := ["store", "low", "high"]) fun _ _ _ _ _ _ us hl => match us, hl with | [_, _, _], _ => rfl) S__law_between ar3 rfl (fun cdv A outer s H E hr => ?_) pure__law_between
  exact (js_cons (js_ret (je_add (je_var 1) (je_call (ok__law_number T) (takes_of rfl rfl rfl rfl) (hr.mono (by decide)) rfl (ja_cons (je_var 0) (ja_cons (je_add (je_sub (je_var 2) (je_var 1)) je_int) ja_nil)))))
 js_nil)
theorem ok__law_near_ends (T : Txt P w K mg base) : Cl P w K mg base "_law_near_ends" 5 [] r__law_near_ends := by
  obtain ⟨fd, F⟩ := T.says.d.def_ 24 (d := d__law_near_ends) rfl
  refine cl_of (a := a__law_near_ends) F (T.g 23) (F.bindsN (ps := ["store", "low", "high"]) fun _ _ _ _ _ _ us hl => match us, hl with | [_, _, _], _ => rfl) S__law_near_ends ar3 rfl (fun cdv A outer s H E hr => ?_) pure__law_near_ends
  exact (js_cons (js_setZ (jas 3 S__law_near_ends.nd (je_call (ok__law_take T) (takes_of rfl rfl rfl rfl) (hr.mono (by decide)) rfl (ja_cons (je_var 0) (ja_cons je_int ja_nil)))))
 (js_cons (js_if (jt_eq (huR hr) (je_var 3) je_int)
 (js_cons (js_ret (je_var 1))
 js_nil)
 js_nil)
 (js_cons (js_if (jt_eq (huR hr) (je_var 3) je_int)
 (js_cons (js_ret (je_max2 rfl rfl (T.f 5) (je_var 1) (je_var 2)))
 js_nil)
 js_nil)
 (js_cons (js_ret (je_call (ok__law_between T) (takes_of rfl rfl rfl rfl) (hr.mono (by decide)) rfl (ja_cons (je_var 0) (ja_cons (je_var 1) (ja_cons (je_var 2) ja_nil)))))
 js_nil))))
theorem ok__law_pick (T : Txt P w K mg base) : Cl P w K mg base "_law_pick" 3 [] r__law_pick := by
  obtain ⟨fd, F⟩ := T.says.d.def_ 25 (d := d__law_pick) rfl
  refine cl_of (a := a__law_pick) F (T.g 24) (F.bindsN (ps := ["store", "row"]) fun _ _ _ _ _ _ us hl => match us, hl with | [_, _], _ => rfl) S__law_pick ar2 rfl (fun cdv A outer s H E hr => ?_) pure__law_pick
  exact (js_cons (js_ret (je_ix (je_var 1) (je_call (ok__law_take T) (takes_of rfl rfl rfl rfl) (hr.mono (by decide)) rfl (ja_cons (je_var 0) (ja_cons (je_len rfl (T.f 0) (je_var 1)) ja_nil)))))
 js_nil)
theorem ok__law_shuffled (T : Txt P w K mg base) : Cl P w K mg base "_law_shuffled" 3 [] r__law_shuffled := by
  obtain ⟨fd, F⟩ := T.says.d.def_ 26 (d := d__law_shuffled) rfl
  refine cl_of (a := a__law_shuffled) F (T.g 25) (F.bindsN (ps := ["store", "row"]) fun _ _ _ _ _ _ us hl => match us, hl with | [_, _], _ => rfl) S__law_shuffled ar2 rfl (fun cdv A outer s H E hr => ?_) pure__law_shuffled
  exact (js_cons (js_set (jas 2 S__law_shuffled.nd (je_list rfl (T.f 2) (je_var 1))))
 (js_cons (js_forB (passes_of rfl) rfl (jib_range3 rfl (T.f 1) (ja_cons (je_sub (je_len rfl (T.f 0) (je_var 2)) je_int) (ja_cons je_int (ja_cons (je_neg je_int) ja_nil)))) (jg_name S__law_shuffled.nd)
 (js_cons (js_setZ (jas 4 S__law_shuffled.nd (je_call (ok__law_take T) (takes_of rfl rfl rfl rfl) (hr.mono (by decide)) rfl (ja_cons (je_var 0) (ja_cons (je_add (je_var 3) je_int) ja_nil)))))
 (js_cons (js_setB (jas 5 S__law_shuffled.nd (je_ix (je_var 2) (je_var 3))))
 (js_frz 5 (js_cons (js_setIx 2 rfl (je_ix (je_var 2) (je_var 4)) (je_var 3))
 (js_cons (js_setIx 2 rfl (je_var 5) (je_var 4))
 js_nil))))))
 (js_cons (js_retV 2)
 js_nil)))
theorem ok__law_some (T : Txt P w K mg base) : Cl P w K mg base "_law_some" 4 [] r__law_some := by
  obtain ⟨fd, F⟩ := T.says.d.def_ 27 (d := d__law_some) rfl
  refine cl_of (a := a__law_some) F (T.g 26) (F.bindsN (ps := ["store", "row"]) fun _ _ _ _ _ _ us hl => match us, hl with | [_, _], _ => rfl) S__law_some ar2 rfl (fun cdv A outer s H E hr => ?_) pure__law_some
  exact (js_cons (js_setZ (jas 2 S__law_some.nd (je_call (ok__law_take T) (takes_of rfl rfl rfl rfl) (hr.mono (by decide)) rfl (ja_cons (je_var 0) (ja_cons je_int ja_nil)))))
 (js_cons (js_if (jt_eq (huR hr) (je_var 2) je_int)
 (js_cons (js_ret (je_lst ja_nil))
 js_nil)
 js_nil)
 (js_cons (js_if (jt_eq (huR hr) (je_var 2) je_int)
 (js_cons (js_ret (je_list rfl (T.f 2) (je_var 1)))
 js_nil)
 js_nil)
 (js_cons (js_if (PW.pt (jw_and (jt_eq (huR hr) (je_var 2) je_int) (jw_and1 (jt_gt (je_len rfl (T.f 0) (je_var 1)) je_int))))
 (js_cons (js_ret (je_lst (ja_cons (je_call (ok__law_pick T) (takes_of rfl rfl rfl rfl) (hr.mono (by decide)) rfl (ja_cons (je_var 0) (ja_cons (je_var 1) ja_nil))) ja_nil)))
 js_nil)
 js_nil)
 (js_cons (js_ret (je_lc rfl S__law_some.nd (ji_list (je_var 1)) (own := [("item", 3)]) (blk_of (by kernel_rfl)) (by decide) (fun _ _ _ _ _ => (jg_name S__law_some.nd)) (fun _ _ _ _ _ => (jts_one (jt_eq (huR hr) (je_call (ok__law_take T) tk0 (hr.mono (by decide)) rfl (ja_cons (je_var 0) (ja_cons je_int ja_nil))) je_int))) (fun _ _ _ _ _ => (je_var 3))))
 js_nil)))))
theorem okn__law_same (T : Txt P w K mg base) : ∀ n, Cl P w K mg base "_law_same" (n + 1) [] (rn__law_same n)
  | 0 => by
    obtain ⟨fd, F⟩ := T.says.d.def_ 28 (d := d__law_same) rfl
    refine cl_of (a := a0__law_same) F (T.g 27) (F.bindsN (ps := ["told", "due"]) fun _ _ _ _ _ _ us hl => match us, hl with | [_, _], _ => rfl) S__law_same ar2 rfl (fun cdv A outer s H E hr => ?_) pure0__law_same
    exact (js_cons (js_if (jt_isN (je_var 1))
 (js_cons (js_ret (je_isN (je_var 0)))
 js_nil)
 js_nil)
 (js_cons (js_if (jt_val (je_isI okTy_bool (by decide +kernel) (T.f 13) rfl (T.f 14) rfl (je_var 1)))
 (js_cons (js_ret (je_and (je_isI okTy_bool (by decide +kernel) (T.f 13) rfl (T.f 14) rfl (je_var 0)) (je_one (je_eq (huR hr) (je_var 0) (je_var 1)))))
 js_nil)
 js_nil)
 (js_cons (js_if (jt_val (je_isI okTy_int (by decide +kernel) (T.f 13) rfl (T.f 10) rfl (je_var 1)))
 (js_cons (js_ret (je_and (je_isI okTy_int (by decide +kernel) (T.f 13) rfl (T.f 10) rfl (je_var 0)) (je_and (je_not (je_isI okTy_bool (by decide +kernel) (T.f 13) rfl (T.f 14) rfl (je_var 0))) (je_one (je_eq (huR hr) (je_var 0) (je_var 1))))))
 js_nil)
 js_nil)
 (js_cons (js_if (jt_val (je_isI okTy_str (by decide +kernel) (T.f 13) rfl (T.f 15) rfl (je_var 1)))
 (js_cons (js_ret (je_and (je_isI okTy_str (by decide +kernel) (T.f 13) rfl (T.f 15) rfl (je_var 0)) (je_one (je_eq (huR hr) (je_var 0) (je_var 1)))))
 js_nil)
 js_nil)
 (js_cons (js_if (PW.pt (jw_and (jt_val (je_isI okTy_list (by decide +kernel) (T.f 13) rfl (T.f 2) rfl (je_var 1))) (jw_and1 (jt_not (jt_val (je_isI okTy_list (by decide +kernel) (T.f 13) rfl (T.f 2) rfl (je_var 0)))))))
 (js_cons (js_ret je_bl)
 js_nil)
 js_nil)
 (js_cons (js_if (PW.pt (jw_and (jt_val (je_isI okTy_tuple (by decide +kernel) (T.f 13) rfl (T.f 12) rfl (je_var 1))) (jw_and1 (jt_not (jt_val (je_isI okTy_tuple (by decide +kernel) (T.f 13) rfl (T.f 12) rfl (je_var 0)))))))
 (js_cons (js_ret je_bl)
 js_nil)
 js_nil)
 (js_cons (js_if (PW.pt (jw_or (jt_not (jt_val (je_isL (T.f 13) rfl (T.f 2) rfl (T.f 12) rfl (je_var 1)))) (jw_or1 (jt_ne (huR hr) (je_len rfl (T.f 0) (je_var 0)) (je_len rfl (T.f 0) (je_var 1))))))
 (js_cons (js_ret je_bl)
 js_nil)
 js_nil)
 (js_cons (js_for (passes_of rfl) rfl (ji_range1 rfl (T.f 1) (ja_cons (je_len rfl (T.f 0) (je_var 1)) ja_nil)) (jg_name S__law_same.nd)
 (js_cons (js_if (jt_not jt_nev)
 (js_cons (js_ret je_bl)
 js_nil)
 js_nil)
 js_nil))
 (js_cons (js_ret je_bl)
 js_nil)))))))))
  | n + 1 => by
    have c := okn__law_same T n
    obtain ⟨fd, F⟩ := T.says.d.def_ 28 (d := d__law_same) rfl
    refine cl_of (a := a__law_same (rn__law_same n)) F (T.g 27) (F.bindsN (ps := ["told", "due"]) fun _ _ _ _ _ _ us hl => match us, hl with | [_, _], _ => rfl) S__law_same ar2 rfl (fun cdv A outer s H E hr => ?_) (puren__law_same n)
    exact (js_cons (js_if (jt_isN (je_var 1))
 (js_cons (js_ret (je_isN (je_var 0)))
 js_nil)
 js_nil)
 (js_cons (js_if (jt_val (je_isI okTy_bool (by decide +kernel) (T.f 13) rfl (T.f 14) rfl (je_var 1)))
 (js_cons (js_ret (je_and (je_isI okTy_bool (by decide +kernel) (T.f 13) rfl (T.f 14) rfl (je_var 0)) (je_one (je_eq (huR hr) (je_var 0) (je_var 1)))))
 js_nil)
 js_nil)
 (js_cons (js_if (jt_val (je_isI okTy_int (by decide +kernel) (T.f 13) rfl (T.f 10) rfl (je_var 1)))
 (js_cons (js_ret (je_and (je_isI okTy_int (by decide +kernel) (T.f 13) rfl (T.f 10) rfl (je_var 0)) (je_and (je_not (je_isI okTy_bool (by decide +kernel) (T.f 13) rfl (T.f 14) rfl (je_var 0))) (je_one (je_eq (huR hr) (je_var 0) (je_var 1))))))
 js_nil)
 js_nil)
 (js_cons (js_if (jt_val (je_isI okTy_str (by decide +kernel) (T.f 13) rfl (T.f 15) rfl (je_var 1)))
 (js_cons (js_ret (je_and (je_isI okTy_str (by decide +kernel) (T.f 13) rfl (T.f 15) rfl (je_var 0)) (je_one (je_eq (huR hr) (je_var 0) (je_var 1)))))
 js_nil)
 js_nil)
 (js_cons (js_if (PW.pt (jw_and (jt_val (je_isI okTy_list (by decide +kernel) (T.f 13) rfl (T.f 2) rfl (je_var 1))) (jw_and1 (jt_not (jt_val (je_isI okTy_list (by decide +kernel) (T.f 13) rfl (T.f 2) rfl (je_var 0)))))))
 (js_cons (js_ret je_bl)
 js_nil)
 js_nil)
 (js_cons (js_if (PW.pt (jw_and (jt_val (je_isI okTy_tuple (by decide +kernel) (T.f 13) rfl (T.f 12) rfl (je_var 1))) (jw_and1 (jt_not (jt_val (je_isI okTy_tuple (by decide +kernel) (T.f 13) rfl (T.f 12) rfl (je_var 0)))))))
 (js_cons (js_ret je_bl)
 js_nil)
 js_nil)
 (js_cons (js_if (PW.pt (jw_or (jt_not (jt_val (je_isL (T.f 13) rfl (T.f 2) rfl (T.f 12) rfl (je_var 1)))) (jw_or1 (jt_ne (huR hr) (je_len rfl (T.f 0) (je_var 0)) (je_len rfl (T.f 0) (je_var 1))))))
 (js_cons (js_ret je_bl)
 js_nil)
 js_nil)
 (js_cons (js_for (passes_of rfl) rfl (ji_range1 rfl (T.f 1) (ja_cons (je_len rfl (T.f 0) (je_var 1)) ja_nil)) (jg_name S__law_same.nd)
 (js_cons (js_if (jt_not (jt_val (je_call c (takes_of rfl rfl rfl rfl) hr rfl (ja_cons (je_ix (je_var 0) (je_var 2)) (ja_cons (je_ix (je_var 1) (je_var 2)) ja_nil)))))
 (js_cons (js_ret je_bl)
 js_nil)
 js_nil)
 js_nil))
 (js_cons (js_ret je_bl)
 js_nil)))))))))
theorem ok__law_same (T : Txt P w K mg base) : Cl P w K mg base "_law_same" 6 [] r__law_same := okn__law_same T 5
theorem ok__law_parts (T : Txt P w K mg base) : Cl P w K mg base "_law_parts" 5 [] r__law_parts := by
  obtain ⟨fd, F⟩ := T.says.d.def_ 29 (d := d__law_parts) rfl
  refine cl_of (a := a__law_parts) F (T.g 28) (F.bindsN (ps := ["store", "total", "many", "most"]) fun _ _ _ _ _ _ us hl => match us, hl with | [_, _, _, _], _ => rfl) S__law_parts ar4 rfl (fun cdv A outer s H E hr => ?_) pure__law_parts
  exact (js_cons (js_setZ (jas 4 S__law_parts.nd (je_call (ok__law_take T) (takes_of rfl rfl rfl rfl) (hr.mono (by decide)) rfl (ja_cons (je_var 0) (ja_cons je_int ja_nil)))))
 (js_cons (js_setZ (jas 5 S__law_parts.nd (je_var 1)))
 (js_cons (js_set (jas 6 S__law_parts.nd (je_lst ja_nil)))
 (js_cons (js_for (passes_of rfl) rfl (ji_range1 rfl (T.f 1) (ja_cons (je_var 2) ja_nil)) (jg_name S__law_parts.nd)
 (js_cons (js_setZ (jas 8 S__law_parts.nd (je_max2 rfl rfl (T.f 5) je_int (je_sub (je_var 5) (je_mul (je_var 3) (je_sub (je_sub (je_var 2) je_int) (je_var 7)))))))
 (js_cons (js_setZ (jas 9 S__law_parts.nd (je_min2 rfl rfl (T.f 6) (je_var 3) (je_var 5))))
 (js_cons (js_setZ (jas 10 S__law_parts.nd (je_var 9)))
 (js_cons (js_if (jt_eq (huR hr) (je_var 4) je_int)
 (js_cons (js_setZ (jas 10 S__law_parts.nd (je_max2 rfl rfl (T.f 5) (je_var 8) (je_min2 rfl rfl (T.f 6) (je_var 9) (je_div (je_var 5) (je_sub (je_var 2) (je_var 7)))))))
 js_nil)
 js_nil)
 (js_cons (js_if (jt_eq (huR hr) (je_var 4) je_int)
 (js_cons (js_setZ (jas 10 S__law_parts.nd (je_call (ok__law_between T) (takes_of rfl rfl rfl rfl) (hr.mono (by decide)) rfl (ja_cons (je_var 0) (ja_cons (je_var 8) (ja_cons (je_var 9) ja_nil))))))
 js_nil)
 js_nil)
 (js_cons (js_app 6 rfl (je_var 10))
 (js_cons (js_setZ (jas 5 S__law_parts.nd (je_sub (je_var 5) (je_var 10))))
 js_nil))))))))
 (js_frz 6 (js_cons (js_ret (je_call (ok__law_shuffled T) (takes_of rfl rfl rfl rfl) (hr.mono (by decide)) rfl (ja_cons (je_var 0) (ja_cons (je_var 6) ja_nil))))
 js_nil))))))
theorem ok__law_standing (T : Txt P w K mg base) : Cl P w K mg base "_law_standing" 1 [] r__law_standing := by
  obtain ⟨fd, F⟩ := T.says.d.def_ 30 (d := d__law_standing) rfl
  refine cl_of (a := a__law_standing) F (T.g 29) (F.bindsN (ps := ["bears"]) fun _ _ _ _ _ _ us hl => match us, hl with | [_], _ => rfl) S__law_standing ar1 rfl (fun cdv A outer s H E hr => ?_) pure__law_standing
  exact (js_cons (js_ret (je_lc rfl S__law_standing.nd (ji_range1 rfl (T.f 1) (ja_cons (je_len rfl (T.f 0) (je_var 0)) ja_nil)) (own := [("x", 1)]) (blk_of (by kernel_rfl)) (by decide) (fun _ _ _ _ _ => (jg_name S__law_standing.nd)) (fun _ _ _ _ _ => (jts_one (jt_gt (je_ix (je_var 0) (je_var 1)) je_int))) (fun _ _ _ _ _ => (je_var 1))))
 js_nil)
theorem ok__law_turns (T : Txt P w K mg base) : Cl P w K mg base "_law_turns" 6 [] r__law_turns := by
  obtain ⟨fd, F⟩ := T.says.d.def_ 31 (d := d__law_turns) rfl
  refine cl_of (a := a__law_turns) F (T.g 30) (F.bindsN (ps := ["store", "left", "pieces"]) fun _ _ _ _ _ _ us hl => match us, hl with | [_, _, _], _ => rfl) S__law_turns ar3 rfl (fun cdv A outer s H E hr => ?_) pure__law_turns
  exact (js_cons (js_set (jas 3 S__law_turns.nd (je_list rfl (T.f 2) (je_var 1))))
 (js_cons (js_setZ (jas 4 S__law_turns.nd (je_call (ok__law_take T) (takes_of rfl rfl rfl rfl) (hr.mono (by decide)) rfl (ja_cons (je_var 0) (ja_cons je_int ja_nil)))))
 (js_cons (js_set (jas 5 S__law_turns.nd (je_lst ja_nil)))
 (js_cons (js_for (passes_of rfl) rfl (ji_range1 rfl (T.f 1) (ja_cons (je_var 2) ja_nil)) (jg_name S__law_turns.nd)
 (js_cons (js_setB (jas_lc 7 rfl S__law_turns.nd (ji_range1 rfl (T.f 1) (ja_cons (je_len rfl (T.f 0) (je_var 3)) ja_nil)) (own := [("v", 8)]) (blk_of (by kernel_rfl)) (by decide) (fun _ _ _ _ _ => (jg_name S__law_turns.nd)) (fun _ _ _ _ _ => (jts_one (jt_gt (je_ix (je_var 3) (je_var 8)) je_int))) (fun _ _ _ _ _ => (je_var 8))))
 (js_frz 7 (js_cons (js_if (jt_eq (huR hr) (je_var 7) (je_lst ja_nil))
 (js_cons js_break
 js_nil)
 js_nil)
 (js_cons (js_setZ (jas 8 S__law_turns.nd (je_call (ok__law_pick T) (takes_of rfl rfl rfl rfl) (hr.mono (by decide)) rfl (ja_cons (je_var 0) (ja_cons (je_var 7) ja_nil)))))
 (js_cons (js_setB (jas 9 S__law_turns.nd (je_ix (je_var 3) (je_var 8))))
 (js_frz 9 (js_cons (js_if (jt_eq (huR hr) (je_var 4) je_int)
 (js_cons (js_setZ (jas 9 S__law_turns.nd je_int))
 js_nil)
 js_nil)
 (js_cons (js_if (jt_ge (je_var 4) je_int)
 (js_cons (js_setB (jas 9 S__law_turns.nd (je_call (ok__law_near_ends T) (takes_of rfl rfl rfl rfl) (hr.mono (by decide)) rfl (ja_cons (je_var 0) (ja_cons je_int (ja_cons (je_ix (je_var 3) (je_var 8)) ja_nil))))))
 (js_frz 9 js_nil))
 js_nil)
 (js_cons (js_app 5 rfl (je_tup (ja_cons (je_var 8) (ja_cons (je_var 9) ja_nil))))
 (js_cons (js_setIx 3 rfl (je_sub (je_ix (je_var 3) (je_var 8)) (je_var 9)) (je_var 8))
 js_nil)))))))))))
 (js_cons (js_forP (passes_of rfl) rfl (je_call (ok__law_shuffled T) (takes_of rfl rfl rfl rfl) (hr.mono (by decide)) rfl (ja_cons (je_var 0) (ja_cons (je_listRg rfl rfl (T.f 2) (jr_1 rfl (T.f 1) (je_len rfl (T.f 0) (je_var 3)))) ja_nil))) (jg_name S__law_turns.nd)
 (js_cons (js_if (jt_gt (je_ix (je_var 3) (je_var 8)) je_int)
 (js_cons (js_app 5 rfl (je_tup (ja_cons (je_var 8) (ja_cons (je_ix (je_var 3) (je_var 8)) ja_nil))))
 js_nil)
 js_nil)
 js_nil))
 (js_cons (js_retV 5)
 js_nil))))))
theorem ok__law_ranks (T : Txt P w K mg base) : Cl P w K mg base "_law_ranks" 4 [] r__law_ranks := by
  obtain ⟨fd, F⟩ := T.says.d.def_ 32 (d := d__law_ranks) rfl
  refine cl_of (a := a__law_ranks) F (T.g 31) (F.bindsN (ps := ["store", "bears", "strict"]) fun _ _ _ _ _ _ us hl => match us, hl with | [_, _, _], _ => rfl) S__law_ranks ar3 rfl (fun cdv A outer s H E hr => ?_) pure__law_ranks
  exact (js_cons (js_setZ (jas 3 S__law_ranks.nd (je_call (ok__law_pick T) (takes_of rfl rfl rfl rfl) (hr.mono (by decide)) rfl (ja_cons (je_var 0) (ja_cons (je_lst (ja_cons je_int (ja_cons je_int (ja_cons je_int (ja_cons je_int ja_nil))))) ja_nil)))))
 (js_cons (js_setZ (jas 4 S__law_ranks.nd (je_call (ok__law_pick T) (takes_of rfl rfl rfl rfl) (hr.mono (by decide)) rfl (ja_cons (je_var 0) (ja_cons (je_lst (ja_cons je_int (ja_cons je_int (ja_cons je_int (ja_cons (je_sub je_int (je_mul je_int (je_var 3))) ja_nil))))) ja_nil)))))
 (js_cons (js_setZ (jas 5 S__law_ranks.nd (je_len rfl (T.f 0) (je_var 1))))
 (js_cons (js_if (jt_not (jt_val (je_var 2)))
 (js_cons (js_setZ (jas 5 S__law_ranks.nd (je_add je_int (je_call (ok__law_take T) (takes_of rfl rfl rfl rfl) (hr.mono (by decide)) rfl (ja_cons (je_var 0) (ja_cons (je_var 5) ja_nil))))))
 js_nil)
 js_nil)
 (js_cons (js_set (jas_lc 6 rfl S__law_ranks.nd (ji_list (je_call (ok__law_shuffled T) (takes_of rfl rfl rfl rfl) (hr.mono (by decide)) rfl (ja_cons (je_var 0) (ja_cons (je_listRg rfl rfl (T.f 2) (jr_1 rfl (T.f 1) (je_len rfl (T.f 0) (je_var 1)))) ja_nil)))) (own := [("level", 7)]) (blk_of (by kernel_rfl)) (by decide) (fun _ _ _ _ _ => (jg_name S__law_ranks.nd)) (fun _ _ _ _ _ => jts_nil) (fun _ _ _ _ _ => (je_add (je_var 4) (je_mul (je_var 3) (je_toint rfl (T.f 10) (je_mod (je_var 7) (je_var 5))))))))
 (js_cons (js_forB (passes_of rfl) rfl (jib_range1 rfl (T.f 1) (ja_cons (je_len rfl (T.f 0) (je_var 6)) ja_nil)) (jg_name S__law_ranks.nd)
 (js_cons (js_if (PW.pt (jw_and (jt_eq (huR hr) (je_ix (je_var 1) (je_var 8)) je_int) (jw_and1 (jt_eq (huR hr) (je_call (ok__law_take T) (takes_of rfl rfl rfl rfl) (hr.mono (by decide)) rfl (ja_cons (je_var 0) (ja_cons je_int ja_nil))) je_int))))
 (js_cons (js_setIx 6 rfl (je_ix (je_var 6) je_int) (je_var 8))
 js_nil)
 js_nil)
 js_nil))
 (js_cons (js_retV 6)
 js_nil)))))))
theorem ok__law_world (T : Txt P w K mg base) : Cl P w K mg base "_law_world" 6 [] r__law_world := by
  obtain ⟨fd, F⟩ := T.says.d.def_ 33 (d := d__law_world) rfl
  refine cl_of (a := a__law_world) F (T.g 32) (F.bindsN (ps := ["store", "most", "total", "strict"]) fun _ _ _ _ _ _ us hl => match us, hl with | [_, _, _, _], _ => rfl) S__law_world ar4 rfl (fun cdv A outer s H E hr => ?_) pure__law_world
  exact (js_cons (js_setZ (jas 4 S__law_world.nd (je_min2 rfl rfl (T.f 6) (je_var 1) (je_add (je_add je_int (je_call (ok__law_take T) (takes_of rfl rfl rfl rfl) (hr.mono (by decide)) rfl (ja_cons (je_var 0) (ja_cons (je_var 1) ja_nil)))) (je_call (ok__law_take T) (takes_of rfl rfl rfl rfl) (hr.mono (by decide)) rfl (ja_cons (je_var 0) (ja_cons je_int ja_nil)))))))
 (js_cons (js_setZ (jas 5 S__law_world.nd (je_min2 rfl rfl (T.f 6) (je_var 1) (je_add (je_add je_int (je_call (ok__law_take T) (takes_of rfl rfl rfl rfl) (hr.mono (by decide)) rfl (ja_cons (je_var 0) (ja_cons (je_var 1) ja_nil)))) (je_call (ok__law_take T) (takes_of rfl rfl rfl rfl) (hr.mono (by decide)) rfl (ja_cons (je_var 0) (ja_cons je_int ja_nil)))))))
 (js_cons (js_setZ (jas 6 S__law_world.nd (je_orL (je_slice (je_lc rfl S__law_world.nd (ji_range1 rfl (T.f 1) (ja_cons (je_var 5) ja_nil)) (own := [("x", 7)]) (blk_of (by kernel_rfl)) (by decide) (fun _ _ _ _ _ => (jg_name S__law_world.nd)) (fun _ _ _ _ _ => (jts_one (jt_gt (je_call (ok__law_take T) tk0 (hr.mono (by decide)) rfl (ja_cons (je_var 0) (ja_cons je_int ja_nil))) je_int))) (fun _ _ _ _ _ => (je_var 7))) jp_none (jp_some (je_var 2))) (je_one (je_lst (ja_cons (je_call (ok__law_take T) (takes_of rfl rfl rfl rfl) (hr.mono (by decide)) rfl (ja_cons (je_var 0) (ja_cons (je_var 5) ja_nil))) ja_nil))))))
 (js_cons (js_setZ (jas 8 S__law_world.nd (je_call (ok__law_near_ends T) (takes_of rfl rfl rfl rfl) (hr.mono (by decide)) rfl (ja_cons (je_var 0) (ja_cons (je_len rfl (T.f 0) (je_var 6)) (ja_cons (je_min2 rfl rfl (T.f 6) (je_var 2) (je_mul (je_pow je_int je_int) (je_min2 rfl rfl (T.f 6) (je_var 4) (je_len rfl (T.f 0) (je_var 6))))) ja_nil))))))
 (js_cons (js_setZ (jas 9 S__law_world.nd (je_call (ok__law_parts T) (takes_of rfl rfl rfl rfl) (hr.mono (by decide)) rfl (ja_cons (je_var 0) (ja_cons (je_sub (je_var 8) (je_len rfl (T.f 0) (je_var 6))) (ja_cons (je_len rfl (T.f 0) (je_var 6)) (ja_cons (je_sub (je_pow je_int je_int) je_int) ja_nil)))))))
 (js_cons (js_set (jas 10 S__law_world.nd (je_mul (je_lst (ja_cons je_int ja_nil)) (je_var 5))))
 (js_cons (js_for (passes_of rfl) rfl (ji_range1 rfl (T.f 1) (ja_cons (je_len rfl (T.f 0) (je_var 6)) ja_nil)) (jg_name S__law_world.nd)
 (js_cons (js_setIx 10 rfl (je_add je_int (je_ix (je_var 9) (je_var 11))) (je_ix (je_var 6) (je_var 11)))
 js_nil))
 (js_cons (js_setZ (jas 12 S__law_world.nd (je_and (je_gt (je_var 4) je_int) (je_and (je_le (je_var 8) (je_pow je_int je_int)) (je_one (je_gt (je_call (ok__law_take T) (takes_of rfl rfl rfl rfl) (hr.mono (by decide)) rfl (ja_cons (je_var 0) (ja_cons je_int ja_nil))) je_int))))))
 (js_cons (js_setZ (jas 13 S__law_world.nd (je_call (ok__law_parts T) (takes_of rfl rfl rfl rfl) (hr.mono (by decide)) rfl (ja_cons (je_var 0) (ja_cons (je_var 8) (ja_cons (je_var 4) (ja_cons (je_ifExp (jt_val (je_var 12)) (je_add (je_div (je_var 8) je_int) je_int) (je_pow je_int je_int)) ja_nil)))))))
 (js_cons (js_setB (jas 14 S__law_world.nd (je_lc rfl S__law_world.nd (ji_range1 rfl (T.f 1) (ja_cons (je_var 4) ja_nil)) (own := [("v", 15)]) (blk_of (by kernel_rfl)) (by decide) (fun _ _ _ _ _ => (jg_name S__law_world.nd)) (fun _ _ _ _ _ => jts_nil) (fun _ _ _ _ _ => (je_call (ok__law_ranks T) tk0 (hr.mono (by decide)) rfl (ja_cons (je_var 0) (ja_cons (je_var 10) (ja_cons (je_var 3) ja_nil))))))))
 (js_frz 14 (js_cons (js_if (jt_eq (huR hr) (je_call (ok__law_take T) (takes_of rfl rfl rfl rfl) (hr.mono (by decide)) rfl (ja_cons (je_var 0) (ja_cons je_int ja_nil))) je_int)
 (js_cons (js_setZ (jas 14 S__law_world.nd (je_lc rfl S__law_world.nd (ji_range1 rfl (T.f 1) (ja_cons (je_var 4) ja_nil)) (own := [("v", 15)]) (blk_of (by kernel_rfl)) (by decide) (fun _ _ _ _ _ => (jg_name S__law_world.nd)) (fun _ _ _ _ _ => jts_nil) (fun _ _ _ _ _ => (je_list rfl (T.f 2) (je_ix (je_var 14) je_int))))))
 js_nil)
 js_nil)
 (js_frz 10 (js_cons (js_ret (je_tup (ja_cons (je_var 14) (ja_cons (je_var 13) (ja_cons (je_var 10) ja_nil)))))
 js_nil))))))))))))))
theorem ok__law_made (T : Txt P w K mg base) : Cl P w K mg base "_law_made" 6 [] r__law_made := by
  obtain ⟨fd, F⟩ := T.says.d.def_ 34 (d := d__law_made) rfl
  refine cl_of (a := a__law_made) F (T.g 33) (F.bindsN (ps := ["shape"]) fun _ _ _ _ _ _ us hl => match us, hl with | [_], _ => rfl) S__law_made ar1 rfl (fun cdv A outer s H E hr => ?_) pure__law_made
  exact (js_cons (js_ret (je_make (ok_Moment___init__ T) (hr.mono (by decide)) rfl (ja_cons (je_lc rfl S__law_made.nd (ji_list (je_ix (je_var 0) je_int)) (own := [("row", 1)]) (blk_of (by kernel_rfl)) (by decide) (fun _ _ _ _ _ => (jg_name S__law_made.nd)) (fun _ _ _ _ _ => jts_nil) (fun _ _ _ _ _ => (je_list rfl (T.f 2) (je_var 1)))) (ja_cons (je_list rfl (T.f 2) (je_ix (je_var 0) je_int)) (ja_cons (je_list rfl (T.f 2) (je_ix (je_var 0) je_int)) ja_nil)))))
 js_nil)
theorem ok__law_kept (T : Txt P w K mg base) : Cl P w K mg base "_law_kept" 7 [] r__law_kept := by
  obtain ⟨fd, F⟩ := T.says.d.def_ 35 (d := d__law_kept) rfl
  refine cl_of (a := a__law_kept) F (T.g 34) (F.bindsN (ps := ["moment", "shape"]) fun _ _ _ _ _ _ us hl => match us, hl with | [_, _], _ => rfl) S__law_kept ar2 rfl (fun cdv A outer s H E hr => ?_) pure__law_kept
  exact (js_cons (js_ret (je_call (ok__law_same T) (takes_of rfl rfl rfl rfl) (hr.mono (by decide)) rfl (ja_cons (je_lst (ja_cons (je_prop (ok_Moment_ranks T) (hr.mono (by decide)) (je_var 0)) (ja_cons (je_prop (ok_Moment_left T) (hr.mono (by decide)) (je_var 0)) (ja_cons (je_prop (ok_Moment_bears T) (hr.mono (by decide)) (je_var 0)) ja_nil)))) (ja_cons (je_lst (ja_cons (je_ix (je_var 1) je_int) (ja_cons (je_ix (je_var 1) je_int) (ja_cons (je_ix (je_var 1) je_int) ja_nil)))) ja_nil))))
 js_nil)
theorem ok__law_ended (T : Txt P w K mg base) : Cl P w K mg base "_law_ended" 6 [] r__law_ended := by
  obtain ⟨fd, F⟩ := T.says.d.def_ 36 (d := d__law_ended) rfl
  refine cl_of (a := a__law_ended) F (T.g 35) (F.bindsN (ps := ["shape"]) fun _ _ _ _ _ _ us hl => match us, hl with | [_], _ => rfl) S__law_ended ar1 rfl (fun cdv A outer s H E hr => ?_) pure__law_ended
  exact (js_cons (js_ret (je_make (ok_Moment___init__ T) (hr.mono (by decide)) rfl (ja_cons (je_lc rfl S__law_ended.nd (ji_list (je_ix (je_var 0) je_int)) (own := [("row", 1)]) (blk_of (by kernel_rfl)) (by decide) (fun _ _ _ _ _ => (jg_name S__law_ended.nd)) (fun _ _ _ _ _ => jts_nil) (fun _ _ _ _ _ => (je_list rfl (T.f 2) (je_var 1)))) (ja_cons (je_mul (je_lst (ja_cons je_int ja_nil)) (je_len rfl (T.f 0) (je_ix (je_var 0) je_int))) (ja_cons (je_mul (je_lst (ja_cons je_int ja_nil)) (je_len rfl (T.f 0) (je_ix (je_var 0) je_int))) ja_nil)))))
 js_nil)
theorem ok__law_odd (T : Txt P w K mg base) : Cl P w K mg base "_law_odd" 4 [] r__law_odd := by
  obtain ⟨fd, F⟩ := T.says.d.def_ 37 (d := d__law_odd) rfl
  refine cl_of (a := a__law_odd) F (T.g 36) (F.bindsN (ps := ["store", "many"]) fun _ _ _ _ _ _ us hl => match us, hl with | [_, _], _ => rfl) S__law_odd ar2 rfl (fun cdv A outer s H E hr => ?_) pure__law_odd
  exact (js_cons (js_ret (je_call (ok__law_pick T) (takes_of rfl rfl rfl rfl) (hr.mono (by decide)) rfl (ja_cons (je_var 0) (ja_cons (je_lst (ja_cons (je_var 1) (ja_cons (je_neg je_int) (ja_cons (je_add (je_add (je_var 1) je_int) (je_call (ok__law_take T) (takes_of rfl rfl rfl rfl) (hr.mono (by decide)) rfl (ja_cons (je_var 0) (ja_cons je_int ja_nil)))) (ja_cons (je_sub (je_neg (je_var 1)) je_int) (ja_cons (je_neg (je_pow je_int je_int)) (ja_cons (je_pow (je_pow je_int je_int) je_int) ja_nil))))))) ja_nil))))
 js_nil)
theorem ok__law_bent_set (T : Txt P w K mg base) : Cl P w K mg base "_law_bent_set" 4 [] r__law_bent_set := by
  obtain ⟨fd, F⟩ := T.says.d.def_ 38 (d := d__law_bent_set) rfl
  refine cl_of (a := a__law_bent_set) F (T.g 37) (F.bindsN (ps := ["store", "members", "row"]) fun _ _ _ _ _ _ us hl => match us, hl with | [_, _, _], _ => rfl) S__law_bent_set ar3 rfl (fun cdv A outer s H E hr => ?_) pure__law_bent_set
  exact (js_cons (js_setZ (jas 3 S__law_bent_set.nd (je_call (ok__law_take T) (takes_of rfl rfl rfl rfl) (hr.mono (by decide)) rfl (ja_cons (je_var 0) (ja_cons (je_add (je_len rfl (T.f 0) (je_var 1)) je_int) ja_nil)))))
 (js_cons (js_setZ (jas 4 S__law_bent_set.nd (je_call (ok__law_take T) (takes_of rfl rfl rfl rfl) (hr.mono (by decide)) rfl (ja_cons (je_var 0) (ja_cons je_int ja_nil)))))
 (js_cons (js_if (PW.pt (jw_and (jt_eq (huR hr) (je_var 4) je_int) (jw_and1 (jt_lt (je_var 3) (je_len rfl (T.f 0) (je_var 1))))))
 (js_cons (js_ret (je_tup (ja_cons (je_add (je_slice (je_var 1) jp_none (jp_some (je_add (je_var 3) je_int))) (je_slice (je_var 1) (jp_some (je_var 3)) jp_none)) (ja_cons (je_add (je_var 3) je_int) ja_nil))))
 js_nil)
 js_nil)
 (js_cons (js_if (PW.pt (jw_and (jt_eq (huR hr) (je_var 4) je_int) (jw_and1 (jt_lt (je_add (je_var 3) je_int) (je_len rfl (T.f 0) (je_var 1))))))
 (js_cons (js_ret (je_tup (ja_cons (je_add (je_add (je_slice (je_var 1) jp_none (jp_some (je_var 3))) (je_lst (ja_cons (je_ix (je_var 1) (je_add (je_var 3) je_int)) (ja_cons (je_ix (je_var 1) (je_var 3)) ja_nil)))) (je_slice (je_var 1) (jp_some (je_add (je_var 3) je_int)) jp_none)) (ja_cons (je_add (je_var 3) je_int) ja_nil))))
 js_nil)
 js_nil)
 (js_cons (js_setZ (jas 5 S__law_bent_set.nd (je_add (je_lc rfl S__law_bent_set.nd (ji_range1 rfl (T.f 1) (ja_cons je_int ja_nil)) (own := [("x", 6)]) (blk_of (by kernel_rfl)) (by decide) (fun _ _ _ _ _ => (jg_name S__law_bent_set.nd)) (fun _ _ _ _ _ => (jts_one (jt_notin (je_var 6) (je_var 2)))) (fun _ _ _ _ _ => (je_var 6))) (je_lst (ja_cons (je_neg je_int) (ja_cons (je_neg je_int) (ja_cons (je_neg (je_pow je_int je_int)) (ja_cons (je_pow je_int je_int) ja_nil))))))))
 (js_cons (js_ret (je_tup (ja_cons (je_add (je_add (je_slice (je_var 1) jp_none (jp_some (je_var 3))) (je_lst (ja_cons (je_call (ok__law_pick T) (takes_of rfl rfl rfl rfl) (hr.mono (by decide)) rfl (ja_cons (je_var 0) (ja_cons (je_var 5) ja_nil))) ja_nil))) (je_slice (je_var 1) (jp_some (je_var 3)) jp_none)) (ja_cons (je_var 3) ja_nil))))
 js_nil))))))
theorem ok__law_refused (T : Txt P w K mg base) : ClE P w K mg base "_law_refused" 1 r__law_refused := by
  obtain ⟨fd, F⟩ := T.says.d.def_ 39 (d := d__law_refused) rfl
  refine ⟨_, fd, _, (T.g 38), F.kp, (F.bindsN (ps := ["caught"]) fun _ _ _ _ _ _ us hl => match us, hl with | [_], _ => rfl), ok_ofE (k := 0) (a := a__law_refused) F S__law_refused rfl (fun cdv A outer s H p nm ed hr ho => ?_) pure__law_refused⟩
  exact (js_cons (js_set (jas 1 S__law_refused.nd (je_lst ja_nil)))
 (js_cons (js_if (jt_val (je_isX1 (ans := fun n => n == "Over") T.xnsOk ho T.is_Over (.own _) (pe_glob rfl (T.gx 11) rfl) (T.f 13) rfl (je_var 0)))
 (js_cons (js_app 1 rfl (je_tup (ja_cons je_str ja_nil)))
 js_nil)
 js_nil)
 (js_cons (js_if (jt_val (je_isX1 (ans := fun n => n == "BadSet") T.xnsOk ho T.is_BadSet (.own _) (pe_glob rfl (T.gx 16) rfl) (T.f 13) rfl (je_var 0)))
 (js_cons (js_app 1 rfl (je_tup (ja_cons je_str (ja_cons (je_xf T.xnsOk ho (T.xno_at) (je_var 0)) ja_nil))))
 js_nil)
 js_nil)
 (js_cons (js_if (jt_val (je_isX1 (ans := fun n => n == "BadStrike") T.xnsOk ho T.is_BadStrike (.own _) (pe_glob rfl (T.gx 23) rfl) (T.f 13) rfl (je_var 0)))
 (js_cons (js_app 1 rfl (je_tup (ja_cons je_str (ja_cons (je_xf T.xnsOk ho (T.xno_at) (je_var 0)) ja_nil))))
 js_nil)
 js_nil)
 (js_cons (js_if (jt_val (je_isXT (ans := fun n => xtup.contains n) (xs := xtup) T.xnsOk ho T.isT (by decide) (.cons (T.gx 0) rfl (.cons (T.gx 1) rfl (.cons (T.gx 2) rfl (.cons (T.gx 3) rfl (.cons (T.gx 4) rfl (.cons (T.gx 5) rfl (.cons (T.gx 6) rfl (.cons (T.gx 7) rfl (.cons (T.gx 8) rfl (.cons (T.gx 9) rfl (.cons (T.gx 10) rfl (.cons (T.gx 12) rfl (.cons (T.gx 13) rfl (.cons (T.gx 14) rfl (.cons (T.gx 15) rfl (.cons (T.gx 17) rfl (.cons (T.gx 18) rfl (.cons (T.gx 19) rfl (.cons (T.gx 20) rfl (.cons (T.gx 21) rfl (.cons (T.gx 22) rfl (.cons (T.gx 24) rfl (.cons (T.gx 25) rfl (.cons (T.gx 26) rfl (.cons (T.gx 27) rfl (.cons (T.gx 28) rfl (.cons (T.gx 29) rfl (.cons (T.gx 30) rfl (.cons (T.gx 31) rfl (.cons (T.gx 32) rfl (.cons (T.gx 33) rfl (.cons (T.gx 34) rfl (.cons (T.gx 35) rfl (.cons (T.gx 36) rfl (.cons (T.gx 37) rfl (.cons (T.gx 38) rfl (.cons (T.gx 39) rfl (.cons (T.gx 40) rfl (.cons (T.gx 41) rfl (.cons (T.gx 42) rfl .nil)))))))))))))))))))))))))))))))))))))))) (T.f 13) rfl (je_var 0)))
 (js_cons (js_app 1 rfl (je_tup (ja_cons je_str ja_nil)))
 js_nil)
 js_nil)
 (js_cons (js_if (PW.pt (jw_or (jt_ne (huH hr) (je_len rfl (T.f 0) (je_var 1)) je_int) (jw_or1 (jt_not (jt_val (je_isX1 (ans := fun _ => true) T.xnsOk ho T.isV (.ty "ValueError") (pe_bltn rfl (T.f 18) (by decide +kernel) rfl) (T.f 13) rfl (je_var 0)))))))
 (js_cons (js_ret (je_tup (ja_cons je_str ja_nil)))
 js_nil)
 js_nil)
 (js_frz 1 (js_cons (js_ret (je_ix (je_var 1) je_int))
 js_nil))))))))
theorem ok__law_own (T : Txt P w K mg base) : Cl P w K mg base "_law_own" 1 [] r__law_own := by
  obtain ⟨fd, F⟩ := T.says.d.def_ 40 (d := d__law_own) rfl
  refine cl_of (a := a__law_own) F (T.g 39) (F.bindsN (ps := ["turns", "band"]) fun _ _ _ _ _ _ us hl => match us, hl with | [_, _], _ => rfl) S__law_own ar2 rfl (fun cdv A outer s H E hr => ?_) pure__law_own
  exact (js_cons (js_setZ (jas 2 S__law_own.nd (je_sum rfl rfl (T.f 4) (je_lc rfl S__law_own.nd (ji_list (je_var 0)) (own := [("piece", 3)]) (blk_of (by kernel_rfl)) (by decide) (fun _ _ _ _ _ => (jg_name S__law_own.nd)) (fun _ _ _ _ _ => (jts_one (jt_in (je_ix (je_var 3) je_int) (je_var 1)))) (fun _ _ _ _ _ => (je_ix (je_var 3) je_int))))))
 (js_cons (js_if (jt_in (je_ix (je_ix (je_var 0) (je_neg je_int)) je_int) (je_var 1))
 (js_cons (js_ret (je_sub (je_var 2) je_int))
 js_nil)
 js_nil)
 (js_cons (js_ret (je_var 2))
 js_nil)))
theorem ok__law_near (T : Txt P w K mg base) : Cl P w K mg base "_law_near" 4 [] r__law_near := by
  obtain ⟨fd, F⟩ := T.says.d.def_ 41 (d := d__law_near) rfl
  refine cl_of (a := a__law_near) F (T.g 40) (F.bindsN (ps := ["store", "left", "turns", "over"]) fun _ _ _ _ _ _ us hl => match us, hl with | [_, _, _, _], _ => rfl) S__law_near ar4 rfl (fun cdv A outer s H E hr => ?_) pure__law_near
  exact (js_cons (js_setZ (jas 4 S__law_near.nd (je_lst ja_nil)))
 (js_cons (js_for (passes_of rfl) rfl (ji_list (je_call (ok__law_shuffled T) (takes_of rfl rfl rfl rfl) (hr.mono (by decide)) rfl (ja_cons (je_var 0) (ja_cons (je_listRg rfl rfl (T.f 2) (jr_1 rfl (T.f 1) (je_len rfl (T.f 0) (je_var 1)))) ja_nil)))) (jg_name S__law_near.nd)
 (js_cons (js_setZ (jas 6 S__law_near.nd (je_sorted rfl (T.f 7) (je_add (je_var 4) (je_lst (ja_cons (je_var 5) ja_nil))))))
 (js_cons (js_if (jt_le (je_call (ok__law_own T) (takes_of rfl rfl rfl rfl) (hr.mono (by decide)) rfl (ja_cons (je_var 2) (ja_cons (je_var 6) ja_nil))) (je_add (je_sub (je_add (je_var 3) (je_call (ok__law_take T) (takes_of rfl rfl rfl rfl) (hr.mono (by decide)) rfl (ja_cons (je_var 0) (ja_cons je_int ja_nil)))) je_int) (je_call (ok__law_take T) (takes_of rfl rfl rfl rfl) (hr.mono (by decide)) rfl (ja_cons (je_var 0) (ja_cons je_int ja_nil)))))
 (js_cons (js_setZ (jas 4 S__law_near.nd (je_var 6)))
 js_nil)
 js_nil)
 js_nil)))
 (js_cons (js_ret (je_var 4))
 js_nil)))
theorem ok__law_guard_due (T : Txt P w K mg base) : Cl P w K mg base "_law_guard_due" 2 [] r__law_guard_due := by
  obtain ⟨fd, F⟩ := T.says.d.def_ 42 (d := d__law_guard_due) rfl
  refine cl_of (a := a__law_guard_due) F (T.g 41) (F.bindsN (ps := ["bears", "some"]) fun _ _ _ _ _ _ us hl => match us, hl with | [_, _], _ => rfl) S__law_guard_due ar2 rfl (fun cdv A outer s H E hr => ?_) pure__law_guard_due
  exact (js_cons (js_setZ (jas 2 S__law_guard_due.nd (je_call (ok__law_standing T) (takes_of rfl rfl rfl rfl) (hr.mono (by decide)) rfl (ja_cons (je_var 0) ja_nil))))
 (js_cons (js_setZ (jas_lc 3 rfl S__law_guard_due.nd (ji_list (je_var 2)) (own := [("x", 4)]) (blk_of (by kernel_rfl)) (by decide) (fun _ _ _ _ _ => (jg_name S__law_guard_due.nd)) (fun _ _ _ _ _ => (jts_one (jt_notin (je_var 4) (je_var 1)))) (fun _ _ _ _ _ => (je_var 4))))
 (js_cons (js_if (jt_ne (huR hr) (je_var 3) (je_lst ja_nil))
 (js_cons (js_ret (je_ix (je_var 3) je_int))
 js_nil)
 js_nil)
 (js_cons (js_ret (je_ix (je_var 2) je_int))
 js_nil))))
theorem ok__law_guard (T : Txt P w K mg base) : Cl P w K mg base "_law_guard" 7 [] r__law_guard := by
  obtain ⟨fd, F⟩ := T.says.d.def_ 43 (d := d__law_guard) rfl
  refine cl_of (a := a__law_guard) F (T.g 42) (F.bindsN (ps := ["moment", "some"]) fun _ _ _ _ _ _ us hl => match us, hl with | [_, _], _ => rfl) S__law_guard ar2 rfl (fun cdv A outer s H E hr => ?_) pure__law_guard
  exact (js_cons (js_setZ (jas 2 S__law_guard.nd (je_list rfl (T.f 2) (je_var 1))))
 (js_cons (js_try (i := 4) (ns := xns) rfl rfl S__law_guard.nd rfl rfl ⟨rfl, by decide, .inl T.gOE⟩ (takes_of rfl rfl rfl rfl) T.cat
 (fun _ _ _ tk hp => (js_cons (js_setZ (jas 3 S__law_guard.nd (je_tup (ja_cons je_str (ja_cons (je_call (ok_guard_of T) tk (hr.mono (by decide)) rfl (ja_cons (je_var 0) (ja_cons (je_var 2) ja_nil))) ja_nil)))))
 js_nil))
 (fun ea oe nm ed pn ho => (js_cons (js_setZ (jas 3 S__law_guard.nd (je_tup (ja_cons je_str (ja_cons (je_callE (ok__law_refused T) ho (roomS hr (by decide)) rfl (je_var 4)) ja_nil)))))
 js_nil)))
 (js_cons (js_if (jt_not (jt_val (je_call (ok__law_same T) (takes_of rfl rfl rfl rfl) (hr.mono (by decide)) rfl (ja_cons (je_var 2) (ja_cons (je_var 1) ja_nil)))))
 (js_cons (js_ret (je_tup (ja_cons je_str ja_nil)))
 js_nil)
 js_nil)
 (js_cons (js_ret (je_var 3))
 js_nil))))
theorem ok__law_behind (T : Txt P w K mg base) : Cl P w K mg base "_law_behind" 7 [] r__law_behind := by
  obtain ⟨fd, F⟩ := T.says.d.def_ 44 (d := d__law_behind) rfl
  refine cl_of (a := a__law_behind) F (T.g 43) (F.bindsN (ps := ["moment", "strikes"]) fun _ _ _ _ _ _ us hl => match us, hl with | [_, _], _ => rfl) S__law_behind ar2 rfl (fun cdv A outer s H E hr => ?_) pure__law_behind
  exact (js_cons (js_setZ (jas 2 S__law_behind.nd (je_list rfl (T.f 2) (je_var 1))))
 (js_cons (js_try (i := 5) (ns := xns) rfl rfl S__law_behind.nd rfl rfl ⟨rfl, by decide, .inl T.gOE⟩ (takes_of rfl rfl rfl rfl) T.cat
 (fun _ _ _ tk hp => (js_cons (js_setZ (jas 3 S__law_behind.nd (je_call (ok_behind T) tk (hr.mono (by decide)) rfl (ja_cons (je_var 0) (ja_cons (je_var 2) ja_nil)))))
 (js_cons (js_setZ (jas 4 S__law_behind.nd (je_tup (ja_cons je_str (ja_cons (je_prop (ok_Moment_ranks T) (hr.mono (by decide)) (je_var 3)) (ja_cons (je_prop (ok_Moment_left T) (hr.mono (by decide)) (je_var 3)) (ja_cons (je_prop (ok_Moment_bears T) (hr.mono (by decide)) (je_var 3)) (ja_cons (je_prop (ok_Moment_is_over T) (hr.mono (by decide)) (je_var 3)) ja_nil))))))))
 js_nil)))
 (fun ea oe nm ed pn ho => (js_cons (js_setZ (jas 4 S__law_behind.nd (je_tup (ja_cons je_str (ja_cons (je_callE (ok__law_refused T) ho (roomS hr (by decide)) rfl (je_var 5)) ja_nil)))))
 js_nil)))
 (js_cons (js_if (jt_not (jt_val (je_call (ok__law_same T) (takes_of rfl rfl rfl rfl) (hr.mono (by decide)) rfl (ja_cons (je_var 2) (ja_cons (je_var 1) ja_nil)))))
 (js_cons (js_ret (je_tup (ja_cons je_str ja_nil)))
 js_nil)
 js_nil)
 (js_cons (js_ret (je_var 4))
 js_nil))))
theorem ok__law_played (T : Txt P w K mg base) : Cl P w K mg base "_law_played" 8 [] r__law_played := by
  obtain ⟨fd, F⟩ := T.says.d.def_ 45 (d := d__law_played) rfl
  refine cl_of (a := a__law_played) F (T.g 44) (F.bindsN (ps := ["store", "shape", "moment", "turns", "side", "some"]) fun _ _ _ _ _ _ us hl => match us, hl with | [_, _, _, _, _, _], _ => rfl) S__law_played ar6 rfl (fun cdv A outer s H E hr => ?_) pure__law_played
  exact (js_cons (js_set (jas 6 S__law_played.nd (je_list rfl (T.f 2) (je_ix (je_var 1) je_int))))
 (js_cons (js_set (jas 7 S__law_played.nd (je_list rfl (T.f 2) (je_ix (je_var 1) je_int))))
 (js_cons (js_setZ (jas 8 S__law_played.nd (je_var 2)))
 (js_cons (js_set (jas 9 S__law_played.nd (je_lst ja_nil)))
 (js_cons (js_for (passes_of rfl) rfl (ji_list (je_var 3)) (jg_name S__law_played.nd)
 (js_cons (js_setZ (jas 11 S__law_played.nd (je_ix (je_var 10) je_int)))
 (js_cons (js_for (passes_of rfl) rfl (ji_range1 rfl (T.f 1) (ja_cons je_int ja_nil)) (jg_name S__law_played.nd)
 (js_cons (js_if (jt_eq (huR hr) (je_var 11) je_int)
 (js_cons js_break
 js_nil)
 js_nil)
 (js_cons (js_setB (jas_lc 13 rfl S__law_played.nd (ji_list (je_var 5)) (own := [("x", 14)]) (blk_of (by kernel_rfl)) (by decide) (fun _ _ _ _ _ => (jg_name S__law_played.nd)) (fun _ _ _ _ _ => (jts_one (jt_gt (je_ix (je_var 7) (je_var 14)) je_int))) (fun _ _ _ _ _ => (je_var 14))))
 (js_frz 13 (js_cons (js_setB (jas 14 S__law_played.nd (je_call (ok__law_guard_due T) (takes_of rfl rfl rfl rfl) (hr.mono (by decide)) rfl (ja_cons (je_var 7) (ja_cons (je_var 13) ja_nil)))))
 (js_frz 14 (js_cons (js_if (PW.pt (jw_and (jt_in (je_ix (je_var 10) je_int) (je_var 4)) (jw_and1 (jt_not (jt_val (je_call (ok__law_same T) (takes_of rfl rfl rfl rfl) (hr.mono (by decide)) rfl (ja_cons (je_call (ok__law_guard T) (takes_of rfl rfl rfl rfl) (hr.mono (by decide)) rfl (ja_cons (je_var 8) (ja_cons (je_var 13) ja_nil))) (ja_cons (je_tup (ja_cons je_str (ja_cons (je_var 14) ja_nil))) ja_nil))))))))
 (js_cons (js_ret je_non)
 js_nil)
 js_nil)
 (js_cons (js_if (jt_notin (je_ix (je_var 10) je_int) (je_var 4))
 (js_cons (js_setB (jas 14 S__law_played.nd (je_call (ok__law_pick T) (takes_of rfl rfl rfl rfl) (hr.mono (by decide)) rfl (ja_cons (je_var 0) (ja_cons (je_call (ok__law_standing T) (takes_of rfl rfl rfl rfl) (hr.mono (by decide)) rfl (ja_cons (je_var 7) ja_nil)) ja_nil)))))
 (js_frz 14 js_nil))
 js_nil)
 (js_cons (js_setB (jas 15 S__law_played.nd (je_min2 rfl rfl (T.f 6) (je_var 11) (je_ix (je_var 7) (je_var 14)))))
 (js_frz 15 (js_cons (js_if (jt_lt (je_var 12) je_int)
 (js_cons (js_setZ (jas 15 S__law_played.nd (je_call (ok__law_near_ends T) (takes_of rfl rfl rfl rfl) (hr.mono (by decide)) rfl (ja_cons (je_var 0) (ja_cons je_int (ja_cons (je_var 15) ja_nil))))))
 js_nil)
 js_nil)
 (js_cons (js_setZ (jas 11 S__law_played.nd (je_sub (je_var 11) (je_var 15))))
 (js_cons (js_setIx 6 rfl (je_sub (je_ix (je_var 6) (je_ix (je_var 10) je_int)) (je_var 15)) (je_ix (je_var 10) je_int))
 (js_cons (js_setIx 7 rfl (je_sub (je_ix (je_var 7) (je_var 14)) (je_var 15)) (je_var 14))
 (js_cons (js_app 9 rfl (je_tup (ja_cons (je_ix (je_var 10) je_int) (ja_cons (je_var 14) (ja_cons (je_var 15) ja_nil)))))
 (js_cons (js_if (jt_not (jt_val (je_call (ok__law_same T) (takes_of rfl rfl rfl rfl) (hr.mono (by decide)) rfl (ja_cons (je_call (ok__law_behind T) (takes_of rfl rfl rfl rfl) (hr.mono (by decide)) rfl (ja_cons (je_var 8) (ja_cons (je_slice (je_var 9) (jp_some (je_neg je_int)) jp_none) ja_nil))) (ja_cons (je_tup (ja_cons je_str (ja_cons (je_ix (je_var 1) je_int) (ja_cons (je_var 6) (ja_cons (je_var 7) (ja_cons (je_eq (huR hr) (je_sum rfl rfl (T.f 4) (je_var 7)) je_int) ja_nil)))))) ja_nil)))))
 (js_cons (js_ret je_non)
 js_nil)
 js_nil)
 (js_cons (js_setB (jas 8 S__law_played.nd (je_call (ok_behind T) (takes_of rfl rfl rfl rfl) (hr.mono (by decide)) rfl (ja_cons (je_var 8) (ja_cons (je_slice (je_var 9) (jp_some (je_neg je_int)) jp_none) ja_nil)))))
 (js_frz 8 js_nil))))))))))))))))))
 js_nil)))
 (js_cons (js_retV 9)
 js_nil))))))
theorem ok__law_refusals (T : Txt P w K mg base) : Cl P w K mg base "_law_refusals" 8 [] r__law_refusals := by
  obtain ⟨fd, F⟩ := T.says.d.def_ 46 (d := d__law_refusals) rfl
  refine cl_of (a := a__law_refusals) F (T.g 45) (F.bindsN (ps := ["store", "shape", "moment", "some", "strikes"]) fun _ _ _ _ _ _ us hl => match us, hl with | [_, _, _, _, _], _ => rfl) S__law_refusals ar5 rfl (fun cdv A outer s H E hr => ?_) pure__law_refusals
  exact (js_cons (js_setZ (jas 5 S__law_refusals.nd (je_call (ok__law_ended T) (takes_of rfl rfl rfl rfl) (hr.mono (by decide)) rfl (ja_cons (je_var 1) ja_nil))))
 (js_cons (js_setZ (jas 6 S__law_refusals.nd (je_call (ok__law_bent_set T) (takes_of rfl rfl rfl rfl) (hr.mono (by decide)) rfl (ja_cons (je_var 0) (ja_cons (je_var 3) (ja_cons (je_call (ok__law_standing T) (takes_of rfl rfl rfl rfl) (hr.mono (by decide)) rfl (ja_cons (je_ix (je_var 1) je_int) ja_nil)) ja_nil))))))
 (js_cons (js_setZ (jas 7 S__law_refusals.nd (je_call (ok__law_take T) (takes_of rfl rfl rfl rfl) (hr.mono (by decide)) rfl (ja_cons (je_var 0) (ja_cons (je_add (je_len rfl (T.f 0) (je_var 4)) je_int) ja_nil)))))
 (js_cons (js_setZ (jas 8 S__law_refusals.nd (je_call (ok__law_take T) (takes_of rfl rfl rfl rfl) (hr.mono (by decide)) rfl (ja_cons (je_var 0) (ja_cons (je_len rfl (T.f 0) (je_ix (je_var 1) je_int)) ja_nil)))))
 (js_cons (js_setZ (jas 9 S__law_refusals.nd (je_call (ok__law_take T) (takes_of rfl rfl rfl rfl) (hr.mono (by decide)) rfl (ja_cons (je_var 0) (ja_cons (je_len rfl (T.f 0) (je_ix (je_var 1) je_int)) ja_nil)))))
 (js_cons (js_setZ (jas 10 S__law_refusals.nd (je_lst (ja_cons (je_tup (ja_cons (je_var 8) (ja_cons (je_var 9) (ja_cons je_int ja_nil)))) (ja_cons (je_tup (ja_cons (je_var 8) (ja_cons (je_var 9) (ja_cons (je_neg je_int) ja_nil)))) (ja_cons (je_tup (ja_cons (je_var 8) (ja_cons (je_var 9) (ja_cons (je_pow je_int je_int) ja_nil)))) (ja_cons (je_tup (ja_cons (je_call (ok__law_odd T) (takes_of rfl rfl rfl rfl) (hr.mono (by decide)) rfl (ja_cons (je_var 0) (ja_cons (je_len rfl (T.f 0) (je_ix (je_var 1) je_int)) ja_nil))) (ja_cons (je_var 9) (ja_cons je_int ja_nil)))) ja_nil)))))))
 (js_cons (js_setZ (jas 10 S__law_refusals.nd (je_add (je_var 10) (je_lst (ja_cons (je_tup (ja_cons (je_var 8) (ja_cons (je_call (ok__law_odd T) (takes_of rfl rfl rfl rfl) (hr.mono (by decide)) rfl (ja_cons (je_var 0) (ja_cons (je_len rfl (T.f 0) (je_ix (je_var 1) je_int)) ja_nil))) (ja_cons je_int ja_nil)))) ja_nil)))))
 (js_cons (js_setZ (jas 11 S__law_refusals.nd (je_add (je_add (je_slice (je_var 4) jp_none (jp_some (je_var 7))) (je_lst (ja_cons (je_call (ok__law_pick T) (takes_of rfl rfl rfl rfl) (hr.mono (by decide)) rfl (ja_cons (je_var 0) (ja_cons (je_var 10) ja_nil))) ja_nil))) (je_slice (je_var 4) (jp_some (je_var 7)) jp_none))))
 (js_cons (js_if (jt_not (jt_val (je_call (ok__law_same T) (takes_of rfl rfl rfl rfl) (hr.mono (by decide)) rfl (ja_cons (je_call (ok__law_guard T) (takes_of rfl rfl rfl rfl) (hr.mono (by decide)) rfl (ja_cons (je_var 2) (ja_cons (je_ix (je_var 6) je_int) ja_nil))) (ja_cons (je_tup (ja_cons je_str (ja_cons (je_tup (ja_cons je_str (ja_cons (je_ix (je_var 6) je_int) ja_nil))) ja_nil))) ja_nil)))))
 (js_cons (js_ret je_bl)
 js_nil)
 js_nil)
 (js_cons (js_if (jt_not (jt_val (je_call (ok__law_same T) (takes_of rfl rfl rfl rfl) (hr.mono (by decide)) rfl (ja_cons (je_call (ok__law_guard T) (takes_of rfl rfl rfl rfl) (hr.mono (by decide)) rfl (ja_cons (je_var 5) (ja_cons (je_lst ja_nil) ja_nil))) (ja_cons (je_tup (ja_cons je_str (ja_cons (je_tup (ja_cons je_str ja_nil)) ja_nil))) ja_nil)))))
 (js_cons (js_ret je_bl)
 js_nil)
 js_nil)
 (js_cons (js_if (jt_not (jt_val (je_call (ok__law_same T) (takes_of rfl rfl rfl rfl) (hr.mono (by decide)) rfl (ja_cons (je_call (ok__law_guard T) (takes_of rfl rfl rfl rfl) (hr.mono (by decide)) rfl (ja_cons (je_var 5) (ja_cons (je_ix (je_var 6) je_int) ja_nil))) (ja_cons (je_tup (ja_cons je_str (ja_cons (je_tup (ja_cons je_str ja_nil)) ja_nil))) ja_nil)))))
 (js_cons (js_ret je_bl)
 js_nil)
 js_nil)
 (js_cons (js_if (jt_not (jt_val (je_call (ok__law_same T) (takes_of rfl rfl rfl rfl) (hr.mono (by decide)) rfl (ja_cons (je_call (ok__law_behind T) (takes_of rfl rfl rfl rfl) (hr.mono (by decide)) rfl (ja_cons (je_var 5) (ja_cons (je_lst (ja_cons (je_tup (ja_cons (je_var 8) (ja_cons (je_var 9) (ja_cons je_int ja_nil)))) ja_nil)) ja_nil))) (ja_cons (je_tup (ja_cons je_str (ja_cons (je_tup (ja_cons je_str (ja_cons je_int ja_nil))) ja_nil))) ja_nil)))))
 (js_cons (js_ret je_bl)
 js_nil)
 js_nil)
 (js_cons (js_if (jt_not (jt_val (je_call (ok__law_same T) (takes_of rfl rfl rfl rfl) (hr.mono (by decide)) rfl (ja_cons (je_call (ok__law_behind T) (takes_of rfl rfl rfl rfl) (hr.mono (by decide)) rfl (ja_cons (je_var 5) (ja_cons (je_lst ja_nil) ja_nil))) (ja_cons (je_tup (ja_cons je_str (ja_cons (je_ix (je_var 1) je_int) (ja_cons (je_mul (je_lst (ja_cons je_int ja_nil)) (je_len rfl (T.f 0) (je_ix (je_var 1) je_int))) (ja_cons (je_mul (je_lst (ja_cons je_int ja_nil)) (je_len rfl (T.f 0) (je_ix (je_var 1) je_int))) (ja_cons je_bl ja_nil)))))) ja_nil)))))
 (js_cons (js_ret je_bl)
 js_nil)
 js_nil)
 (js_cons (js_ret (je_call (ok__law_same T) (takes_of rfl rfl rfl rfl) (hr.mono (by decide)) rfl (ja_cons (je_call (ok__law_behind T) (takes_of rfl rfl rfl rfl) (hr.mono (by decide)) rfl (ja_cons (je_var 2) (ja_cons (je_var 11) ja_nil))) (ja_cons (je_tup (ja_cons je_str (ja_cons (je_tup (ja_cons je_str (ja_cons (je_var 7) ja_nil))) ja_nil))) ja_nil))))
 js_nil))))))))))))))
end
end K78
set_option Elab.async false
set_option linter.all false
set_option maxRecDepth 100000
set_option maxHeartbeats 0
namespace K78
open PySem PySem.W PySem.Calls PySem.Spec PyProof.Rows L2 L2H AL

theorem V1 (w : World) (os : OsState) : (HandSHeadRun.endF (HandSHeadRun.stepQ (HandSHeadRun.denQ HandSHeadRun.tabQ) R.prog w) 20000 R.prog w os).map (fun s => HandSHeadRun.looksF R.prog (boot_heap w.params) s.abs) = some true := by
  kernel_rfl
end K78
set_option Elab.async false
set_option linter.all false
set_option maxRecDepth 100000
set_option maxHeartbeats 0
namespace K78
open PySem PySem.W PySem.Calls PySem.Spec PyProof.Rows L2 L2H AL

theorem V2 (w : World) (os : OsState) : (HandSHeadRun.endF (HandSHeadRun.stepQ (HandSHeadRun.denQ HandSHeadRun.tabQ) R.prog w) 20000 R.prog w os).map (fun s => HandSHeadRun.seenQ (PySem.W.view R.prog [105]) loose (importedModules R.prog.main.body) (fun s => PySem.W.xlAt (PySem.W.view R.prog [105]) [] s && PySem.W.recOk R.toRowW.records s) s.abs) = some (openGood (PySem.W.view R.prog [105]) loose) := by
  kernel_rfl
end K78
set_option Elab.async false
set_option linter.all false
set_option maxRecDepth 100000
set_option maxHeartbeats 0
namespace K78
open PySem PySem.W PySem.Calls PySem.Spec PyProof.Rows L2 L2H AL

theorem V3 (w : World) (os : OsState) : (HandSHeadRun.endF (HandSHeadRun.stepQ (HandSHeadRun.denQ HandSHeadRun.tabQ) R.prog w) 20000 R.prog w os).map (fun s => fa.all fun f => f.ok (frL asL s)) = some true := by
  kernel_rfl
end K78
set_option Elab.async false
set_option linter.all false
set_option maxRecDepth 100000
set_option maxHeartbeats 0
namespace K78
open PySem PySem.W PySem.Calls PySem.Spec PyProof.Rows L2 L2H AL

theorem V4 (w : World) (os : OsState) : (HandSHeadRun.endF (HandSHeadRun.stepQ (HandSHeadRun.denQ HandSHeadRun.tabQ) R.prog w) 20000 R.prog w os).map (fun s => (fn.all fun d => d.ok (frL asL s), fn.map fun d => He.fnW (frL asL s) d.at_)) = some (true, fn.map He.DefD.val) := by
  kernel_rfl
end K78
set_option Elab.async false
set_option linter.all false
set_option maxRecDepth 100000
set_option maxHeartbeats 0
namespace K78
open PySem PySem.W PySem.Calls PySem.Spec PyProof.Rows L2 L2H AL

theorem V5 (w : World) (os : OsState) : (HandSHeadRun.endF (HandSHeadRun.stepQ (HandSHeadRun.denQ HandSHeadRun.tabQ) R.prog w) 20000 R.prog w os).map (fun s => (exF (frL asL s) && pps.all fun d => d.ok (frL asL s), pps.map fun d => fnWA (frL asL s) (gAd (frL asL s) d.C d.f))) = some (true, pps.map DefP.val) := by
  kernel_rfl
end K78
set_option Elab.async false
set_option linter.all false
set_option maxRecDepth 100000
set_option maxHeartbeats 0
namespace K78
open PySem PySem.W PySem.Calls PySem.Spec PyProof.Rows L2 L2H AL

theorem endW {l : PySem.W.OpenLaw} {n k : Nat} {q : Program} {loose : List Str} {XP : (Str → Option Value) → Heap → Prop} {YP : World → Heap → Prop} {d : DefRec} {x : Str} (h1 : l.most = some n) (h2 : n ≤ sizeLine) (h3 : d.params.defaults = []) (h4 : Room k callerA)
    (F : ∀ (w : World) (mg : Str → Option Value) (fa : Addr) (h : Heap), YP w h → h.Ns mainGlobals mg → mg d.name = some (.ref fa) → ∃ (K : PySem.W.Frag) (fd : FuncData) (sp : Sp), K.In h ∧ (∀ (s : Shared) (u : Value), BindsTo s fd ⟨[u], []⟩ [(x, u)]) ∧
      (∀ (H : Hp) (a : Addr) (ns : List Int), ns.length ≤ n → Only H → SqL K H a (ns.map V.int) → sp [.ref a] H (fun v _ => v = .bl true) fun _ _ _ => False) ∧ ∀ base : Heap, K.In base → base.Ns mainGlobals mg → FnOk l.prog w K mg base (L2.CX l.prog w) k fa fd [x] sp) :
    PySem.W.WalkO q loose XP YP l.row.toRowW d [] (fun f vs => PySem.call f vs) := by
  refine Att.attach_call h1 h3 fun wd t0 t1 mg mb fa o pm cd doc a vs ns G Y i1 i2 i3 i4 i5 i6 i7 i8 => ?_
  obtain ⟨K, fd, sp, j1, j2, j3, j4⟩ := F wd mg fa _ Y G.T.g i4
  refine law_call (CX := L2.CX l.prog wd) j1 G.T.g G.T.b G.T.builtins G.T.nolimit i8 i5 i6 (Nat.le_trans i7 h2) h4 j4 j2 (fun H a1 a2 => j3 H a ns i7 a1 a2) fun H e s' z => ?_
  obtain ⟨_, _, _, _, _, _, _, _, _, _, _, _, z⟩ := z
  exact z.elim
section
variable {P : Program} {w : World} {K : PySem.W.Frag} {mg : Str → Option Value} {base : Heap}
theorem okL (S : SaysP fa fn pps exF K) (hb : K.In base) (hg : base.Ns mainGlobals mg) : ∃ fd, (∀ (s : Shared) (v : Value), BindsTo s fd ⟨[v], []⟩ [("script", v)]) ∧ ∀ b : Heap, K.In b → b.Ns mainGlobals mg → FnOk P w K mg b (L2.CX P w) 9 (He.ga K "law") fd ["script"] (spLaw K) := by
  obtain ⟨fd, F⟩ := S.d.def_ 47 (d := d_law) rfl
  have bn := FunD.bindsA (ps := ["script"]) F fun _ _ _ _ _ _ us hl => match us, hl with | [_], _ => rfl
  refine ⟨fd, fun s v => bn s [v] rfl, fun b hb hg => ?_⟩
  have T : Txt P w K mg b := ⟨S, b, hb, hg⟩
  refine ok_law (N := ["script", "store", "kind", "shape", "moment", "standing", "turns", "some", "over", "x", "band", "can", "side", "aim", "v", "strikes", "done", "row"]) (k := 8) (r0 := a_law0) (a := a_law) F S_law (by decide) (fun cdv A outer s H E hr => ?_) (fun cdv A outer s H E hr => ?_) pure_law0 pure_law1
  · exact js_set (jas 1 S_law.nd (je_call (ok__law_store T) (takes_of rfl rfl rfl rfl) (hr.mono (by decide)) rfl (ja_cons (je_var 0) ja_nil)))
  · exact (js_cons (js_setZ (jas 2 S_law.nd (je_call (ok__law_take T) (takes_of rfl rfl rfl rfl) (hr.mono (by decide)) rfl (ja_cons (je_var 1) (ja_cons je_int ja_nil)))))
 (js_cons (js_setZ (jas 3 S_law.nd (je_call (ok__law_world T) (takes_of rfl rfl rfl rfl) (hr.mono (by decide)) rfl (ja_cons (je_var 1) (ja_cons (je_ix (je_lst (ja_cons je_int (ja_cons je_int (ja_cons je_int ja_nil)))) (je_min2 rfl rfl (T.f 6) (je_var 2) je_int)) (ja_cons (je_ix (je_lst (ja_cons (je_pow je_int je_int) (ja_cons je_int (ja_cons je_int ja_nil)))) (je_min2 rfl rfl (T.f 6) (je_var 2) je_int)) (ja_cons (je_eq (huR hr) (je_call (ok__law_take T) (takes_of rfl rfl rfl rfl) (hr.mono (by decide)) rfl (ja_cons (je_var 1) (ja_cons je_int ja_nil))) je_int) ja_nil)))))))
 (js_cons (js_setZ (jas 4 S_law.nd (je_call (ok__law_made T) (takes_of rfl rfl rfl rfl) (hr.mono (by decide)) rfl (ja_cons (je_var 3) ja_nil))))
 (js_cons (js_setZ (jas 5 S_law.nd (je_call (ok__law_standing T) (takes_of rfl rfl rfl rfl) (hr.mono (by decide)) rfl (ja_cons (je_ix (je_var 3) je_int) ja_nil))))
 (js_cons (js_setZ (jas 6 S_law.nd (je_call (ok__law_turns T) (takes_of rfl rfl rfl rfl) (hr.mono (by decide)) rfl (ja_cons (je_var 1) (ja_cons (je_ix (je_var 3) je_int) (ja_cons (je_call (ok__law_take T) (takes_of rfl rfl rfl rfl) (hr.mono (by decide)) rfl (ja_cons (je_var 1) (ja_cons je_int ja_nil))) ja_nil))))))
 (js_cons (js_setZ (jas 7 S_law.nd (je_call (ok__law_some T) (takes_of rfl rfl rfl rfl) (hr.mono (by decide)) rfl (ja_cons (je_var 1) (ja_cons (je_var 5) ja_nil)))))
 (js_cons (js_setZ (jas 8 S_law.nd (je_sum rfl rfl (T.f 4) (je_lc rfl S_law.nd (ji_list (je_var 5)) (own := [("x", 9)]) (blk_of (by kernel_rfl)) (by decide) (fun _ _ _ _ _ => (jg_name S_law.nd)) (fun _ _ _ _ _ => (jts_one (jt_notin (je_var 9) (je_var 7)))) (fun _ _ _ _ _ => (je_ix (je_ix (je_var 3) je_int) (je_var 9)))))))
 (js_cons (js_setZ (jas 10 S_law.nd (je_call (ok__law_some T) (takes_of rfl rfl rfl rfl) (hr.mono (by decide)) rfl (ja_cons (je_var 1) (ja_cons (je_listRg rfl rfl (T.f 2) (jr_1 rfl (T.f 1) (je_len rfl (T.f 0) (je_ix (je_var 3) je_int)))) ja_nil)))))
 (js_cons (js_if (jt_eq (huR hr) (je_call (ok__law_take T) (takes_of rfl rfl rfl rfl) (hr.mono (by decide)) rfl (ja_cons (je_var 1) (ja_cons je_int ja_nil))) je_int)
 (js_cons (js_setZ (jas 10 S_law.nd (je_call (ok__law_near T) (takes_of rfl rfl rfl rfl) (hr.mono (by decide)) rfl (ja_cons (je_var 1) (ja_cons (je_ix (je_var 3) je_int) (ja_cons (je_var 6) (ja_cons (je_var 8) ja_nil)))))))
 js_nil)
 js_nil)
 (js_cons (js_setZ (jas 11 S_law.nd (je_ge (je_call (ok__law_own T) (takes_of rfl rfl rfl rfl) (hr.mono (by decide)) rfl (ja_cons (je_var 6) (ja_cons (je_var 10) ja_nil))) (je_var 8))))
 (js_cons (js_if (jt_not (jt_val (je_call (ok__law_same T) (takes_of rfl rfl rfl rfl) (hr.mono (by decide)) rfl (ja_cons (je_call (ok_can_force T) (takes_of rfl rfl rfl rfl) (hr.mono (by decide)) rfl (ja_cons (je_var 4) (ja_cons (je_list rfl (T.f 2) (je_var 6)) (ja_cons (je_list rfl (T.f 2) (je_var 10)) (ja_cons (je_list rfl (T.f 2) (je_var 7)) ja_nil))))) (ja_cons (je_var 11) ja_nil)))))
 (js_cons (js_ret je_bl)
 js_nil)
 js_nil)
 (js_cons (js_setZ (jas 12 S_law.nd (je_list rfl (T.f 2) (je_var 10))))
 (js_cons (js_setZ (jas 13 S_law.nd (je_list rfl (T.f 2) (je_var 7))))
 (js_cons (js_if (jt_not (jt_val (je_var 11)))
 (js_cons (js_setZ (jas_lc 12 rfl S_law.nd (ji_range1 rfl (T.f 1) (ja_cons (je_len rfl (T.f 0) (je_ix (je_var 3) je_int)) ja_nil)) (own := [("v", 14)]) (blk_of (by kernel_rfl)) (by decide) (fun _ _ _ _ _ => (jg_name S_law.nd)) (fun _ _ _ _ _ => (jts_one (jt_notin (je_var 14) (je_var 10)))) (fun _ _ _ _ _ => (je_var 14))))
 (js_cons (js_setZ (jas_lc 13 rfl S_law.nd (ji_list (je_var 5)) (own := [("x", 9)]) (blk_of (by kernel_rfl)) (by decide) (fun _ _ _ _ _ => (jg_name S_law.nd)) (fun _ _ _ _ _ => (jts_one (jt_notin (je_var 9) (je_var 7)))) (fun _ _ _ _ _ => (je_var 9))))
 js_nil))
 js_nil)
 (js_cons (js_setZ (jas 15 S_law.nd (je_call (ok__law_played T) (takes_of rfl rfl rfl rfl) (hr.mono (by decide)) rfl (ja_cons (je_var 1) (ja_cons (je_var 3) (ja_cons (je_var 4) (ja_cons (je_var 6) (ja_cons (je_var 12) (ja_cons (je_var 13) ja_nil)))))))))
 (js_cons (js_if (PW.pt (jw_or (jt_isN (je_var 15)) (jw_or1 (jt_notin (je_ix (je_ix (je_var 15) (je_neg je_int)) je_int) (je_var 13)))))
 (js_cons (js_ret je_bl)
 js_nil)
 js_nil)
 (js_cons (js_setZ (jas 16 S_law.nd (je_tup (ja_cons je_str (ja_cons (je_ix (je_var 3) je_int) (ja_cons (je_mul (je_lst (ja_cons je_int ja_nil)) (je_len rfl (T.f 0) (je_ix (je_var 3) je_int))) (ja_cons (je_mul (je_lst (ja_cons je_int ja_nil)) (je_len rfl (T.f 0) (je_ix (je_var 3) je_int))) (ja_cons je_bl ja_nil))))))))
 (js_cons (js_if (jt_not (jt_val (je_call (ok__law_same T) (takes_of rfl rfl rfl rfl) (hr.mono (by decide)) rfl (ja_cons (je_call (ok__law_behind T) (takes_of rfl rfl rfl rfl) (hr.mono (by decide)) rfl (ja_cons (je_var 4) (ja_cons (je_var 15) ja_nil))) (ja_cons (je_var 16) ja_nil)))))
 (js_cons (js_ret je_bl)
 js_nil)
 js_nil)
 (js_cons (js_for (passes_of rfl) rfl (ji_list (je_lst (ja_cons (je_call (ok__law_some T) (takes_of rfl rfl rfl rfl) (hr.mono (by decide)) rfl (ja_cons (je_var 1) (ja_cons (je_var 5) ja_nil))) (ja_cons (je_lst ja_nil) (ja_cons (je_var 5) (ja_cons (je_var 7) ja_nil)))))) (jg_name S_law.nd)
 (js_cons (js_if (jt_not (jt_val (je_call (ok__law_same T) (takes_of rfl rfl rfl rfl) (hr.mono (by decide)) rfl (ja_cons (je_call (ok__law_guard T) (takes_of rfl rfl rfl rfl) (hr.mono (by decide)) rfl (ja_cons (je_var 4) (ja_cons (je_var 17) ja_nil))) (ja_cons (je_tup (ja_cons je_str (ja_cons (je_call (ok__law_guard_due T) (takes_of rfl rfl rfl rfl) (hr.mono (by decide)) rfl (ja_cons (je_ix (je_var 3) je_int) (ja_cons (je_var 17) ja_nil))) ja_nil))) ja_nil)))))
 (js_cons (js_ret je_bl)
 js_nil)
 js_nil)
 js_nil))
 (js_cons (js_ret (je_and (je_call (ok__law_kept T) (takes_of rfl rfl rfl rfl) (hr.mono (by decide)) rfl (ja_cons (je_var 4) (ja_cons (je_var 3) ja_nil))) (je_one (je_call (ok__law_refusals T) (takes_of rfl rfl rfl rfl) (hr.mono (by decide)) rfl (ja_cons (je_var 1) (ja_cons (je_var 3) (ja_cons (je_var 4) (ja_cons (je_var 7) (ja_cons (je_var 15) ja_nil)))))))))
 js_nil))))))))))))))))))))
end
def ob (s : PySem.W.SharedT) : AlP := obsLG asL fa fn pps exF (HandSHeadRun.getT s)
abbrev hk : PySem.W.Hook := hookL asL fa fn pps exF
theorem ob_eq (s : PySem.W.SharedT) : ob s = hk.obs s.abs := obsLG_eq (HandSHeadRun.getT_eq s)
theorem run (w : World) : HandSHeadRun.RunEq R (PySem.W.view R.prog [105]) hk ob 20000 loose w := run_parts (fun os => V1 w os) (fun os => V2 w os) (fun os => V3 w os) (fun os => V4 w os) (fun os => V5 w os)

theorem law_in : ("law" : Str) ∈ gls := by decide +kernel
end K78
open PySem PySem.W PySem.Calls PyProof.Rows
set_option maxHeartbeats 0 in
theorem PySem.Challenge.cw_lastnamed_k78_guards_force_their_set_holds : PySem.Challenge.rw_lastnamed_k78_guards_force_their_set.Holds := by
  w_on; o_law
  refine HandSHeadRun.head_any (r := K78.R) (q := view K78.R.prog [105]) (H := K78.hk) (ob := K78.ob) (M := 20000) (loose := K78.loose) (d := HandSHeadRun.topDef K78.R.prog 105) (kwd := []) K78.ob_eq
    (by kernel_rfl) (fun s => by kernel_rfl) K78.run (by kernel_rfl) (by kernel_rfl) (by kernel_rfl) (by rfl) (by first | assumption | decide +kernel) (by decide +kernel) ⟨rfl, rfl, rfl, rfl, rfl, by decide +kernel⟩ ?hw ?hc
  case hw => w_witness2
  case hc =>
    refine K78.endW (l := PySem.Challenge.rw_lastnamed_k78_guards_force_their_set) (n := 63) (k := 9) (x := "script") rfl (by decide) (by kernel_rfl) ⟨rfl, by decide, by decide⟩ ?F
    intro w mg fa h Y G m0
    obtain ⟨K, KX, c⟩ := Y
    have e0 : (HandSHeadRun.topDef K78.R.prog 105).name = ("law" : PySem.Str) := by kernel_rfl
    rw [e0] at m0
    have e1 := m0.symm.trans (He.glo_ok KX G (x := "law") ((⟨c, h, KX, G⟩ : K78.Txt K78.R.prog w K mg h).fact (List.mem_append_left _ (List.mem_append_left _ (List.mem_append_left _ (List.mem_map_of_mem (K78.law_in)))))))
    cases e1
    obtain ⟨fd, hb, hF⟩ := K78.okL (P := (PySem.Challenge.rw_lastnamed_k78_guards_force_their_set).prog) (w := w) c KX G
    exact ⟨K, fd, AL.spLaw K, KX, hb, fun H a ns hl _ hS => ⟨a, ns, rfl, hS, hl, fun _ => rfl⟩, hF⟩

