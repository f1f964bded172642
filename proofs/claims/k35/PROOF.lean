import PyProof.Rows.All
import Wide.All
import OpenK.AllK
import Wide.FinOn
import HandS.ForMost
import HandS.Flow
import HandS.Strs
import HandS.SetFor
import HandS.IsInst
import HandS.Style
import PySem.Challenge.RW_kinwork_k35_whole_numbers_of_societies_b
set_option Elab.async false
set_option linter.all false
set_option maxRecDepth 100000
set_option maxHeartbeats 4000000
/-! Kw1: pure data with ownership, how it stands in the abstract heap. -/
namespace Kw
open PySem L2

inductive Md where
  | fz | ow | dp | kw
  deriving DecidableEq

inductive D where
  | non
  | bl (b : Bool)
  | int (i : Int)
  | str (x : Str)
  | tup (xs : List D)
  | lst (m : Md) (xs : List D)
  | dict (m : Md) (t : Bool) (ks vs : List D)
  | obj (m : Md) (c : Nat) (ns : List Str) (vs : List D)

/-- shared, never changed: at its root -/
def D.isFz : D → Bool
  | .lst m _ => decide (m = .fz) || decide (m = .kw)
  | .dict m _ _ _ => decide (m = .fz)
  | .obj m _ _ _ => decide (m = .fz)
  | _ => true
mutual
def freeze : D → D
  | .lst .dp xs => .lst .fz (freezes xs)
  | .lst .kw xs => .lst .kw xs
  | .lst _ xs => .lst .fz xs
  | .dict .dp t ks vs => .dict .fz t ks (freezes vs)
  | .dict _ t ks vs => .dict .fz t ks vs
  | .obj .dp c ns vs => .obj .fz c ns (freezes vs)
  | .obj _ c ns vs => .obj .fz c ns vs
  | d => d
def freezes : List D → List D
  | [] => []
  | d :: ds => freeze d :: freezes ds
end
theorem freezes_eq : ∀ ds : List D, freezes ds = ds.map freeze
  | [] => by rw [freezes]; rfl
  | d :: ds => by rw [freezes, freezes_eq ds]; rfl
theorem freeze_fz {d : D} (h : d.isFz = true) : freeze d = d := by
  cases d with
  | lst m xs => cases m <;> first | rfl | (exact absurd h (by decide)) | (simp [D.isFz] at h)
  | dict m t ks vs => cases m <;> first | rfl | (simp [D.isFz] at h)
  | obj m c ns vs => cases m <;> first | rfl | (simp [D.isFz] at h)
  | _ => rfl
theorem isFz_freeze (d : D) : (freeze d).isFz = true := by
  cases d with
  | lst m xs => cases m <;> rfl
  | dict m t ks vs => cases m <;> rfl
  | obj m c ns vs => cases m <;> rfl
  | _ => rfl

/-- what stays through a law: the written part, the classes' addresses -/
structure KC where
  K : PySem.W.Frag
  cls : Nat → Addr

def kD : Key → D
  | .inl i => .int i
  | .inr x => .str x

mutual
/-- data that nobody changes: it stands in the frozen part I -/
inductive RF (C : KC) (I : Hp) : D → V → Prop
  | non : RF C I .non .non
  | bl (b : Bool) : RF C I (.bl b) (.bl b)
  | int (i : Int) : RF C I (.int i) (.int i)
  | str (x : Str) : RF C I (.str x) (.str x)
  | tup {a : Addr} {vs : List V} {ds : List D} : SqT C.K I a vs → RFs C I ds vs → RF C I (.tup ds) (.ref a)
  | lst {a : Addr} {vs : List V} {ds : List D} : Rd I a (.lst vs) → RFs C I ds vs → RF C I (.lst .fz ds) (.ref a)
  | lstK {a : Addr} {vs : List V} {ds : List D} : SqL C.K I a vs → RFs C I ds vs → RF C I (.lst .kw ds) (.ref a)
  | dK {a : Addr} {kvs : List (Key × V)} {ks vs : List D} : Rd I a (.dK kvs) → ks = kvs.map (fun p => kD p.1) → RFs C I vs (kvs.map (·.2)) → RF C I (.dict .fz false ks vs) (.ref a)
  | dT {a : Addr} {kvs : List (List Key × V)} {ks vs : List D} : I a = some (.dT kvs) → ks = kvs.map (fun p => .tup (p.1.map kD)) → RFs C I vs (kvs.map (·.2)) → RF C I (.dict .fz true ks vs) (.ref a)
  | obj {a dx : Addr} {c : Nat} {fs : List (Str × V)} {vs : List D} : I a = some (.ins (C.cls c) dx fs) → RFs C I vs (fs.map (·.2)) → RF C I (.obj .fz c (fs.map (·.1)) vs) (.ref a)
inductive RFs (C : KC) (I : Hp) : List D → List V → Prop
  | nil : RFs C I [] []
  | cons {d : D} {v : V} {ds : List D} {vs : List V} : RF C I d v → RFs C I ds vs → RFs C I (d :: ds) (v :: vs)
end

theorem RFs.length {C : KC} {I : Hp} : ∀ {ds : List D} {vs : List V}, RFs C I ds vs → ds.length = vs.length
  | _, _, .nil => rfl
  | _, _, .cons _ t => by simp [RFs.length t]
theorem RFs.get {C : KC} {I : Hp} : ∀ {ds : List D} {vs : List V} {i : Nat} {v : V}, RFs C I ds vs → vs[i]? = some v → ∃ d, ds[i]? = some d ∧ RF C I d v
  | _, _, _, _, .nil, e => by simp at e
  | _, _, 0, _, .cons r _, e => by simp at e; subst e; exact ⟨_, rfl, r⟩
  | _, _, i + 1, v, .cons _ t, e => by
    obtain ⟨u, h1, h2⟩ := RFs.get (i := i) (v := v) t (by simpa using e)
    exact ⟨u, by simpa using h1, h2⟩
theorem RFs.get' {C : KC} {I : Hp} : ∀ {ds : List D} {vs : List V} {i : Nat} {d : D}, RFs C I ds vs → ds[i]? = some d → ∃ v, vs[i]? = some v ∧ RF C I d v
  | _, _, _, _, .nil, e => by simp at e
  | _, _, 0, _, .cons r _, e => by simp at e; subst e; exact ⟨_, rfl, r⟩
  | _, _, i + 1, v, .cons _ t, e => by
    obtain ⟨u, h1, h2⟩ := RFs.get' (i := i) (d := v) t (by simpa using e)
    exact ⟨u, by simpa using h1, h2⟩
theorem RFs.append {C : KC} {I : Hp} : ∀ {ds es : List D} {vs us : List V}, RFs C I ds vs → RFs C I es us → RFs C I (ds ++ es) (vs ++ us)
  | _, _, _, _, .nil, s => s
  | _, _, _, _, .cons r t, s => .cons r (RFs.append t s)
theorem RFs.take {C : KC} {I : Hp} : ∀ {ds : List D} {vs : List V} (n : Nat), RFs C I ds vs → RFs C I (ds.take n) (vs.take n)
  | _, _, 0, _ => .nil
  | _, _, _ + 1, .nil => .nil
  | _, _, n + 1, .cons r t => .cons r (RFs.take n t)
theorem RFs.drop {C : KC} {I : Hp} : ∀ {ds : List D} {vs : List V} (n : Nat), RFs C I ds vs → RFs C I (ds.drop n) (vs.drop n)
  | _, _, 0, r => r
  | _, _, _ + 1, .nil => .nil
  | _, _, n + 1, .cons _ t => RFs.drop n t
theorem RFs.set {C : KC} {I : Hp} {d : D} {v : V} (r : RF C I d v) : ∀ {ds : List D} {vs : List V} (i : Nat), RFs C I ds vs → RFs C I (ds.set i d) (vs.set i v)
  | _, _, _, .nil => .nil
  | _, _, 0, .cons _ t => .cons r t
  | _, _, i + 1, .cons q t => .cons q (RFs.set r i t)
theorem RFs.eraseIdx {C : KC} {I : Hp} : ∀ {ds : List D} {vs : List V} (i : Nat), RFs C I ds vs → RFs C I (ds.eraseIdx i) (vs.eraseIdx i)
  | _, _, _, .nil => .nil
  | _, _, 0, .cons _ t => t
  | _, _, i + 1, .cons q t => .cons q (RFs.eraseIdx i t)
theorem RFs.reverse {C : KC} {I : Hp} : ∀ {ds : List D} {vs : List V}, RFs C I ds vs → RFs C I ds.reverse vs.reverse
  | _, _, .nil => .nil
  | _, _, .cons r t => by
    simp only [List.reverse_cons]
    exact (RFs.reverse t).append (.cons r .nil)
theorem RFs.dropLast {C : KC} {I : Hp} {ds : List D} {vs : List V} (h : RFs C I ds vs) : RFs C I ds.dropLast vs.dropLast := by
  rw [List.dropLast_eq_take, List.dropLast_eq_take, h.length]
  exact h.take _
theorem RFs.rep {C : KC} {I : Hp} {ds : List D} {vs : List V} (h : RFs C I ds vs) : ∀ k : Nat, RFs C I (List.replicate k ds).flatten (List.replicate k vs).flatten
  | 0 => .nil
  | k + 1 => by
    rw [List.replicate_succ, List.replicate_succ, List.flatten_cons, List.flatten_cons]
    exact h.append (RFs.rep h k)
theorem RFs.ints {C : KC} {I : Hp} : ∀ {ns : List Int} {vs : List V}, RFs C I (ns.map D.int) vs → vs = ns.map V.int
  | [], _, .nil => rfl
  | n :: ns, _, .cons r t => by
    cases r
    rw [List.map_cons, RFs.ints t]
theorem RFs.of_ints {C : KC} {I : Hp} : ∀ (ns : List Int), RFs C I (ns.map D.int) (ns.map V.int)
  | [] => .nil
  | n :: ns => .cons (.int n) (RFs.of_ints ns)

theorem Same.rd {I I' : Hp} (s : Same I I') {a : Addr} {u : HO} (r : Rd I a u) : Rd I' a u := by
  rcases r with r | ⟨o, r⟩
  · exact .inl (s _ _ r)
  · exact .inr ⟨o, s _ _ r⟩
theorem Same.seqT {K : PySem.W.Frag} {H H' : Hp} {a : Addr} {xs : List V} (e : Same H H') (h : SqT K H a xs) : SqT K H' a xs := by
  rcases h with h | h
  · exact .inl (Same.rd e h)
  · exact .inr h
mutual
theorem RF.mono {C : KC} {I I' : Hp} (s : Same I I') : ∀ {d : D} {v : V}, RF C I d v → RF C I' d v
  | _, _, .non => .non
  | _, _, .bl b => .bl b
  | _, _, .int i => .int i
  | _, _, .str x => .str x
  | _, _, .tup h t => .tup (Same.seqT s h) (RFs.mono s t)
  | _, _, .lst h t => .lst (Same.rd s h) (RFs.mono s t)
  | _, _, .lstK h t => .lstK (Same.seq s h) (RFs.mono s t)
  | _, _, .dK h e t => .dK (Same.rd s h) e (RFs.mono s t)
  | _, _, .dT h e t => .dT (s _ _ h) e (RFs.mono s t)
  | _, _, .obj h t => .obj (s _ _ h) (RFs.mono s t)
theorem RFs.mono {C : KC} {I I' : Hp} (s : Same I I') : ∀ {ds : List D} {vs : List V}, RFs C I ds vs → RFs C I' ds vs
  | _, _, .nil => .nil
  | _, _, .cons r t => .cons (RF.mono s r) (RFs.mono s t)
end
theorem RF.isFz {C : KC} {I : Hp} {d : D} {v : V} (h : RF C I d v) : d.isFz = true := by
  cases h <;> rfl

mutual
/-- data that may be owned: what stands at the addresses F belongs to it alone -/
inductive Rp (C : KC) (I H : Hp) : D → V → List Addr → Prop
  | fz {d : D} {v : V} : RF C I d v → Rp C I H d v []
  | lstO {a : Addr} {vs : List V} {ds : List D} : H a = some (.lst vs) → I a = none → RFs C I ds vs → Rp C I H (.lst .ow ds) (.ref a) [a]
  | lstD {a : Addr} {vs : List V} {ds : List D} {F : List Addr} : H a = some (.lst vs) → I a = none → Rps C I H ds vs F → a ∉ F → Rp C I H (.lst .dp ds) (.ref a) (a :: F)
  | dKO {a : Addr} {kvs : List (Key × V)} {ks vs : List D} : H a = some (.dK kvs) → I a = none → ks = kvs.map (fun p => kD p.1) → RFs C I vs (kvs.map (·.2)) → Rp C I H (.dict .ow false ks vs) (.ref a) [a]
  | dKD {a : Addr} {kvs : List (Key × V)} {ks vs : List D} {F : List Addr} : H a = some (.dK kvs) → I a = none → ks = kvs.map (fun p => kD p.1) → Rps C I H vs (kvs.map (·.2)) F → a ∉ F → Rp C I H (.dict .dp false ks vs) (.ref a) (a :: F)
  | dTO {a : Addr} {kvs : List (List Key × V)} {ks vs : List D} : H a = some (.dT kvs) → I a = none → ks = kvs.map (fun p => .tup (p.1.map kD)) → RFs C I vs (kvs.map (·.2)) → Rp C I H (.dict .ow true ks vs) (.ref a) [a]
  | dTD {a : Addr} {kvs : List (List Key × V)} {ks vs : List D} {F : List Addr} : H a = some (.dT kvs) → I a = none → ks = kvs.map (fun p => .tup (p.1.map kD)) → Rps C I H vs (kvs.map (·.2)) F → a ∉ F → Rp C I H (.dict .dp true ks vs) (.ref a) (a :: F)
  | objD {a dx : Addr} {c : Nat} {fs : List (Str × V)} {vs : List D} {F : List Addr} : H a = some (.ins (C.cls c) dx fs) → I a = none → Rps C I H vs (fs.map (·.2)) F → a ∉ F → Rp C I H (.obj .dp c (fs.map (·.1)) vs) (.ref a) (a :: F)
inductive Rps (C : KC) (I H : Hp) : List D → List V → List Addr → Prop
  | nil : Rps C I H [] [] []
  | cons {d : D} {v : V} {ds : List D} {vs : List V} {F G : List Addr} : Rp C I H d v F → Rps C I H ds vs G → (∀ a ∈ F, a ∉ G) → Rps C I H (d :: ds) (v :: vs) (F ++ G)
end

mutual
theorem Rp.live {C : KC} {I H : Hp} : ∀ {d : D} {v : V} {F : List Addr}, Rp C I H d v F → ∀ a ∈ F, H a ≠ none ∧ I a = none
  | _, _, _, .fz _ => fun a h => nomatch h
  | _, _, _, .lstO e n _ => fun a h => by
    obtain rfl : a = _ := List.mem_singleton.mp h
    exact ⟨(by rw [e]; simp), n⟩
  | _, _, _, .lstD e n t _ => fun a h => by
    rcases List.mem_cons.mp h with rfl | h
    · exact ⟨(by rw [e]; simp), n⟩
    · exact Rps.live t a h
  | _, _, _, .dKO e n _ _ => fun a h => by
    obtain rfl : a = _ := List.mem_singleton.mp h
    exact ⟨(by rw [e]; simp), n⟩
  | _, _, _, .dKD e n _ t _ => fun a h => by
    rcases List.mem_cons.mp h with rfl | h
    · exact ⟨(by rw [e]; simp), n⟩
    · exact Rps.live t a h
  | _, _, _, .dTO e n _ _ => fun a h => by
    obtain rfl : a = _ := List.mem_singleton.mp h
    exact ⟨(by rw [e]; simp), n⟩
  | _, _, _, .dTD e n _ t _ => fun a h => by
    rcases List.mem_cons.mp h with rfl | h
    · exact ⟨(by rw [e]; simp), n⟩
    · exact Rps.live t a h
  | _, _, _, .objD e n t _ => fun a h => by
    rcases List.mem_cons.mp h with rfl | h
    · exact ⟨(by rw [e]; simp), n⟩
    · exact Rps.live t a h
theorem Rps.live {C : KC} {I H : Hp} : ∀ {ds : List D} {vs : List V} {F : List Addr}, Rps C I H ds vs F → ∀ a ∈ F, H a ≠ none ∧ I a = none
  | _, _, _, .nil => fun a h => nomatch h
  | _, _, _, .cons r t _ => fun a h => by
    rcases List.mem_append.mp h with h | h
    · exact Rp.live r a h
    · exact Rps.live t a h
end

mutual
theorem Rp.step {C : KC} {I H I' H' : Hp} (s : Same I I') : ∀ {d : D} {v : V} {F : List Addr}, Rp C I H d v F → (∀ a ∈ F, H' a = H a ∧ I' a = none) → Rp C I' H' d v F
  | _, _, _, .fz r, _ => .fz (r.mono s)
  | _, _, _, .lstO e n t, k => .lstO ((k _ (List.mem_singleton.mpr rfl)).1.trans e) (k _ (List.mem_singleton.mpr rfl)).2 (t.mono s)
  | _, _, _, .lstD e n t na, k => .lstD ((k _ List.mem_cons_self).1.trans e) (k _ List.mem_cons_self).2 (Rps.step s t fun b hb => k b (List.mem_cons_of_mem _ hb)) na
  | _, _, _, .dKO e n q t, k => .dKO ((k _ (List.mem_singleton.mpr rfl)).1.trans e) (k _ (List.mem_singleton.mpr rfl)).2 q (t.mono s)
  | _, _, _, .dKD e n q t na, k => .dKD ((k _ List.mem_cons_self).1.trans e) (k _ List.mem_cons_self).2 q (Rps.step s t fun b hb => k b (List.mem_cons_of_mem _ hb)) na
  | _, _, _, .dTO e n q t, k => .dTO ((k _ (List.mem_singleton.mpr rfl)).1.trans e) (k _ (List.mem_singleton.mpr rfl)).2 q (t.mono s)
  | _, _, _, .dTD e n q t na, k => .dTD ((k _ List.mem_cons_self).1.trans e) (k _ List.mem_cons_self).2 q (Rps.step s t fun b hb => k b (List.mem_cons_of_mem _ hb)) na
  | _, _, _, .objD e n t na, k => .objD ((k _ List.mem_cons_self).1.trans e) (k _ List.mem_cons_self).2 (Rps.step s t fun b hb => k b (List.mem_cons_of_mem _ hb)) na
theorem Rps.step {C : KC} {I H I' H' : Hp} (s : Same I I') : ∀ {ds : List D} {vs : List V} {F : List Addr}, Rps C I H ds vs F → (∀ a ∈ F, H' a = H a ∧ I' a = none) → Rps C I' H' ds vs F
  | _, _, _, .nil, _ => .nil
  | _, _, _, .cons r t dj, k => .cons (Rp.step s r fun b hb => k b (List.mem_append_left _ hb)) (Rps.step s t fun b hb => k b (List.mem_append_right _ hb)) dj
end

/-- the frozen part with what stands at F put to it -/
def ext (I H : Hp) (F : List Addr) : Hp := fun a => if a ∈ F then H a else I a
theorem ext_same {I H : Hp} (s : Same I H) (F : List Addr) : Same I (ext I H F) := fun b o e => by
  unfold ext
  split
  · exact s b o e
  · exact e
theorem ext_sub {I H : Hp} (s : Same I H) (F : List Addr) : Same (ext I H F) H := fun b o e => by
  unfold ext at e
  split at e
  · exact e
  · exact s b o e
theorem ext_mono {I H : Hp} (s : Same I H) {F G : List Addr} (h : ∀ a ∈ F, a ∈ G) : Same (ext I H F) (ext I H G) := fun b o e => by
  unfold ext at e ⊢
  by_cases hg : b ∈ G
  · rw [if_pos hg]
    split at e
    · exact e
    · exact s b o e
  · rw [if_neg hg]
    rw [if_neg fun z => hg (h b z)] at e
    exact e
theorem ext_in {I H : Hp} {F : List Addr} {a : Addr} (h : a ∈ F) : ext I H F a = H a := by unfold ext; rw [if_pos h]
theorem ext_out {I H : Hp} {F : List Addr} {a : Addr} (h : a ∉ F) : ext I H F a = I a := by unfold ext; rw [if_neg h]
theorem ext_nil {I H : Hp} : ext I H [] = I := by funext a; exact ext_out (by simp)
mutual
theorem Rp.freeze {C : KC} {I H : Hp} (s : Same I H) : ∀ {d : D} {v : V} {F : List Addr}, Rp C I H d v F → RF C (ext I H F) (freeze d) v
  | _, _, _, .fz r => by
    rw [freeze_fz r.isFz, ext_nil]
    exact r
  | _, _, _, .lstO (a := a) e n t => .lst (.inl (by rw [ext_in (List.mem_singleton.mpr rfl)]; exact e)) (t.mono (ext_same s _))
  | _, _, _, .lstD (a := a) e n t na => by
    show RF C _ (D.lst .fz (freezes _)) _
    exact .lst (.inl (by rw [ext_in List.mem_cons_self]; exact e)) ((Rps.freeze s t).mono (ext_mono s fun b hb => List.mem_cons_of_mem _ hb))
  | _, _, _, .dKO e n q t => .dK (.inl (by rw [ext_in (List.mem_singleton.mpr rfl)]; exact e)) q (t.mono (ext_same s _))
  | _, _, _, .dKD e n q t na => by
    show RF C _ (D.dict .fz false _ (freezes _)) _
    exact .dK (.inl (by rw [ext_in List.mem_cons_self]; exact e)) q ((Rps.freeze s t).mono (ext_mono s fun b hb => List.mem_cons_of_mem _ hb))
  | _, _, _, .dTO e n q t => .dT (by rw [ext_in (List.mem_singleton.mpr rfl)]; exact e) q (t.mono (ext_same s _))
  | _, _, _, .dTD e n q t na => by
    show RF C _ (D.dict .fz true _ (freezes _)) _
    exact .dT (by rw [ext_in List.mem_cons_self]; exact e) q ((Rps.freeze s t).mono (ext_mono s fun b hb => List.mem_cons_of_mem _ hb))
  | _, _, _, .objD (dx := dx) e n t na => by
    show RF C _ (D.obj .fz _ _ (freezes _)) _
    exact .obj (dx := dx) (by rw [ext_in List.mem_cons_self]; exact e) ((Rps.freeze s t).mono (ext_mono s fun b hb => List.mem_cons_of_mem _ hb))
theorem Rps.freeze {C : KC} {I H : Hp} (s : Same I H) : ∀ {ds : List D} {vs : List V} {F : List Addr}, Rps C I H ds vs F → RFs C (ext I H F) (freezes ds) vs
  | _, _, _, .nil => .nil
  | _, _, _, .cons r t dj => .cons ((Rp.freeze s r).mono (ext_mono s fun b hb => List.mem_append_left _ hb)) ((Rps.freeze s t).mono (ext_mono s fun b hb => List.mem_append_right _ hb))
end

/-! ### the state: names' data -/
abbrev Nv := List (Option D)
abbrev Fp := Nat → List Addr
def Own (Fs : Fp) (a : Addr) : Prop := ∃ i, a ∈ Fs i
structure StOk (C : KC) (I H : Hp) (σ : St) (ρ : Nv) (Fs : Fp) : Prop where
  same : Same I H
  len : σ.length = ρ.length
  rep : ∀ i d, ρ[i]? = some (some d) → ∃ v, σ[i]? = some (some v) ∧ Rp C I H d v (Fs i)
  emp : ∀ i, (∀ d, ρ[i]? ≠ some (some d)) → Fs i = []
  dj : ∀ i j, i ≠ j → ∀ a ∈ Fs i, a ∉ Fs j

structure Step (I H : Hp) (O : Addr → Prop) (I' H' : Hp) (O' : Addr → Prop) : Prop where
  ii : Same I I'
  newI : ∀ a, I' a ≠ none → I a ≠ none ∨ O a ∨ H a = none
  newO : ∀ a, O' a → O a ∨ H a = none
  keep : ∀ a, H a ≠ none → ¬ O a → H' a = H a
theorem Step.refl (I H : Hp) (O : Addr → Prop) : Step I H O I H O := ⟨Same.refl _, fun _ h => .inl h, fun _ h => .inl h, fun _ _ _ => rfl⟩
theorem Step.trans {I H I1 H1 I2 H2 : Hp} {O O1 O2 : Addr → Prop} (a : Step I H O I1 H1 O1) (b : Step I1 H1 O1 I2 H2 O2) : Step I H O I2 H2 O2 where
  ii := Same.trans a.ii b.ii
  newI := fun c h => by
    have old : H1 c = none → O c ∨ H c = none := fun q => by
      by_cases hn : H c = none
      · exact .inr hn
      · by_cases ho : O c
        · exact .inl ho
        · have := a.keep c hn ho
          rw [q] at this
          exact absurd this.symm hn
    rcases b.newI c h with h | h | h
    · exact a.newI c h
    · exact .inr (a.newO c h)
    · exact .inr (old h)
  newO := fun c h => by
    rcases b.newO c h with h | h
    · exact a.newO c h
    · by_cases hn : H c = none
      · exact .inr hn
      · by_cases ho : O c
        · exact .inl ho
        · have := a.keep c hn ho
          rw [h] at this
          exact absurd this.symm hn
  keep := fun c hn ho => by
    have e := a.keep c hn ho
    have no1 : ¬ O1 c := fun q => (a.newO c q).elim ho hn
    exact (b.keep c (by rw [e]; exact hn) no1).trans e
theorem Step.weak {I H I' H' : Hp} {O O' O2 : Addr → Prop} (a : Step I H O I' H' O') (h : ∀ c, O2 c → O' c) : Step I H O I' H' O2 := ⟨a.ii, a.newI, fun c q => a.newO c (h c q), a.keep⟩
/-- what is held outside of O stays -/
theorem Step.held {C : KC} {I H I' H' : Hp} {O O' : Addr → Prop} (a : Step I H O I' H' O') {d : D} {v : V} {F : List Addr} (r : Rp C I H d v F) (h : ∀ c ∈ F, ¬ O c) : Rp C I' H' d v F := by
  refine r.step a.ii fun c hc => ?_
  obtain ⟨l, n⟩ := r.live c hc
  refine ⟨a.keep c l (h c hc), ?_⟩
  cases q : I' c with
  | none => rfl
  | some o =>
    rcases a.newI c (by rw [q]; simp) with z | z | z
    · exact absurd n z
    · exact absurd z (h c hc)
    · exact absurd z l
end Kw

set_option maxRecDepth 100000
set_option maxHeartbeats 4000000
/-! Kw2: the texts (X pure, E, T tests, S statements) and what they come to. -/
namespace Kw
open PySem L2

/-- a type, for isinstance -/
inductive Ty where
  | bool | int | str | list | tuple | dict | own (c : Nat)
  deriving DecidableEq

inductive Op where
  | add | sub | mul | fdiv | mod | pow | shl | neg
  | eq | ne | lt | le | gt | ge | isN | notN | isC (b : Bool) | notC (b : Bool) | mem | nmem
  | ix | fld (f : Str) | len | abs | int | bool_ | min2 | max2 | sum | minL | maxL | count | index
  | isi (t : Ty) | isiT (ts : List Ty)
  | cat | rep | sl (lo hi : Bool) | list | tuple | sorted | sset
  deriving DecidableEq

inductive X where
  | c (d : D)
  | v (i : Nat)
  | op (p : Op) (as : List X)
  | bool (w : Bool) (as : List X)
  | not_ (a : X)
  | ife (t a b : X)
  | chain (p q : Op) (a b c : X)

/-- a target -/
inductive Tg where
  | n (i : Nat)
  | t (ts : List Tg)

mutual
inductive E where
  | x (e : X)
  | v (i : Nat)
  | mv (i : Nat)
  | op (p : Op) (as : List E)
  | tup (as : List E)
  | lst (deep : Bool) (as : List E)
  | ife (t : T) (a b : E)
  | call (f : Nat) (as : List CA)
  | pop (i : Nat) (at_ : Option E)
  | comp (el : E) (tg : Tg) (src : Src) (ifs : List T) (own : List Nat)
  | bool (w : Bool) (es : List E)
  | not_ (e : E)
  | chain (p q : Op) (a b c : E)
  | comp2 (el : E) (tg : Tg) (src : Src) (ifs : List T) (tg1 : Tg) (src1 : Src) (ifs1 : List T) (own own1 : List Nat)
/-- an argument of a call: a name that is lent, what is shared, what is handed over -/
inductive CA where
  | s (i : Nat)
  | f (e : E)
  | t (e : E)
inductive T where
  | x (e : X)
  | e (e : E)
  | bool (w : Bool) (ts : List T)
  | not_ (t : T)
/-- what a for walks -/
inductive Src where
  | rng1 (b : E)
  | rng2 (a b : E)
  | rng3 (a b : E) (c : Int)
  | v (i : Nat)
  | val (e : E)
end

inductive S where
  | asg (i : Nat) (e : E)
  | par (i j : Nat) (a b : E)
  | unp (tg : Tg) (e : E)
  | aug (i : Nat) (p : Op) (e : E)
  | augL (i : Nat) (e : E)
  | setI (i : Nat) (k : X) (e : E)
  | augI (i : Nat) (k : X) (p : Op) (e : E)
  | append (i : Nat) (e : E)
  | reverse (i : Nat)
  | ex (e : E)
  | ife (t : T) (a b : List S)
  | whl (t : T) (b : List S)
  | for_ (tg : Tg) (src : Src) (b : List S)
  | ret (e : E)
  | retN
  | pass
  | brk
  | cont
  | never

/-! ### values of operations -/
mutual
def toPy : D → Option PyData
  | .non => some .none
  | .bl b => some (.bool b)
  | .int i => some (.int i)
  | .str x => some (.str x)
  | .tup xs => (toPys xs).map .tuple
  | .lst .fz xs => (toPys xs).map .list
  | .lst .ow xs => (toPys xs).map .list
  | .lst .kw xs => (toPys xs).map .list
  | .lst .dp xs => none
  | .dict _ _ _ _ => none
  | .obj _ _ _ _ => none
def toPys : List D → Option (List PyData)
  | [] => some []
  | d :: ds => match toPy d, toPys ds with
    | some p, some ps => some (p :: ps)
    | _, _ => none
end
def eqD (a b : D) : Option Bool :=
  match a, b with
  | .int i, .int j => some (decide (i = j))
  | .bl i, .bl j => some (decide (i = j))
  | _, _ => match toPy a, toPy b with
    | some p, some q => if SeqAt.shaped p = true ∧ SeqAt.shaped q = true then some (PyData.eqv p q) else none
    | _, _ => none
/-- the items of a list or tuple whose items are shared -/
def items? : D → Option (List D)
  | .lst .fz xs => some xs
  | .lst .ow xs => some xs
  | .lst .kw xs => some xs
  | .tup xs => some xs
  | _ => none
/-- the items of a list whose items are shared -/
def itemsL? : D → Option (List D)
  | .lst .fz xs => some xs
  | .lst .ow xs => some xs
  | .lst .kw xs => some xs
  | _ => none
def ints? : List D → Option (List Int)
  | [] => some []
  | .int i :: ds => match ints? ds with
    | some ns => some (i :: ns)
    | none => none
  | _ :: _ => none
def ixD (n : Nat) (i : Int) : Option Nat := if 0 ≤ i then (if i < n then some i.toNat else none) else if -(n : Int) ≤ i then some (i + n).toNat else none
def tyD : D → Option Ty
  | .non => none
  | .bl _ => some .bool
  | .int _ => some .int
  | .str _ => some .str
  | .tup _ => some .tuple
  | .lst _ _ => some .list
  | .dict _ _ _ _ => some .dict
  | .obj _ c _ _ => some (.own c)
def isiD (d : D) (t : Ty) : Bool := match tyD d with
  | some .bool => t == .bool || t == .int
  | some u => t == u
  | none => false
def small (i j : Int) : Bool := (decide (-(2 ^ 64) < i) && decide (i < 2 ^ 64)) || (decide (-(2 ^ 64) < j) && decide (j < 2 ^ 64))
/-- an ascending list without repeats of the same ints -/
def insI (k : Int) : List Int → List Int
  | [] => [k]
  | x :: xs => if k < x then k :: x :: xs else if k = x then x :: xs else x :: insI k xs
def setI (ns : List Int) : List Int := ns.foldl (fun acc k => insI k acc) []
def insS (k : Int) : List Int → List Int
  | [] => [k]
  | x :: xs => if k ≤ x then k :: x :: xs else x :: insS k xs
def sortI (ns : List Int) : List Int := ns.foldr insS []
def cutD {α : Type} (xs : List α) (lo hi : Option Int) : List α := (xs.drop (HT.sIx xs.length 0 lo)).take (HT.sIx xs.length xs.length hi - HT.sIx xs.length 0 lo)
def lineN : Nat := 16777216

def opAdd : D → D → Option D
  | .int a, .int b => some (.int (a + b))
  | .str a, .str b => if a.length + b.length ≤ lineN then some (.str (a ++ b)) else none
  | _, _ => none
def opSub : D → D → Option D
  | .int a, .int b => some (.int (a - b))
  | _, _ => none
def opMul : D → D → Option D
  | .int a, .int b => if small a b = true then some (.int (a * b)) else none
  | _, _ => none
def opFdiv : D → D → Option D
  | .int a, .int b => if b ≠ 0 ∧ b.natAbs.log2 < 9000 then some (.int (a.fdiv b)) else none
  | _, _ => none
def opMod : D → D → Option D
  | .int a, .int b => if b ≠ 0 then some (.int (a.fmod b)) else none
  | _, _ => none
def opPow : D → D → Option D
  | .int a, .int b => if 0 ≤ b ∧ b ≤ 1000000 ∧ a.natAbs < 2 ^ 64 then some (.int (a ^ b.toNat)) else none
  | _, _ => none
def opNeg : D → Option D
  | .int a => some (.int (-a))
  | _ => none
def opCmp (f : Int → Int → Bool) : D → D → Option D
  | .int a, .int b => some (.bl (f a b))
  | _, _ => none
def opIx : D → D → Option D
  | .lst _ xs, .int i => (ixD xs.length i).bind fun j => xs[j]?
  | .tup xs, .int i => (ixD xs.length i).bind fun j => xs[j]?
  | _, _ => none
def opLen : D → Option D
  | .lst _ xs => some (.int xs.length)
  | .tup xs => some (.int xs.length)
  | _ => none
def opAbs : D → Option D
  | .int a => some (.int (if a < 0 then -a else a))
  | _ => none
def opInt : D → Option D
  | .int a => some (.int a)
  | .bl b => some (.int (if b then 1 else 0))
  | _ => none
def opMin2 : D → D → Option D
  | .int a, .int b => some (.int (if b < a then b else a))
  | _, _ => none
def opMax2 : D → D → Option D
  | .int a, .int b => some (.int (if b > a then b else a))
  | _, _ => none
def opSum : D → Option D
  | .lst m xs => if m = .dp then none else match ints? xs with
    | some ns => some (.int ns.sum)
    | none => none
  | _ => none
def opCount : D → D → Option D
  | .lst m xs, .int k => if m = .dp then none else match ints? xs with
    | some ns => some (.int (ns.count k : Nat))
    | none => none
  | _, _ => none
def opCat : D → D → Option D
  | .lst m xs, .lst n ys => if m ≠ .dp ∧ n ≠ .dp ∧ m ≠ .kw ∧ n ≠ .kw ∧ xs.length + ys.length ≤ lineN then some (.lst .ow (xs ++ ys)) else none
  | _, _ => none
def opRep : D → D → Option D
  | .lst m xs, .int k => if m ≠ .dp ∧ m ≠ .kw ∧ -(2 ^ 63) ≤ k ∧ k < 2 ^ 63 ∧ xs.length * k.toNat ≤ lineN then some (.lst .ow (List.replicate k.toNat xs).flatten) else none
  | _, _ => none
def opSset : D → Option D
  | .lst m xs => if m = .dp then none else match ints? xs with
    | some ns => if ns.length < 64 then some (.lst .ow ((setI ns).map .int)) else none
    | none => none
  | _ => none
def opD : Op → List D → Option D
  | .add, [a, b] => opAdd a b
  | .sub, [a, b] => opSub a b
  | .mul, [a, b] => opMul a b
  | .fdiv, [a, b] => opFdiv a b
  | .mod, [a, b] => opMod a b
  | .pow, [a, b] => opPow a b
  | .neg, [a] => opNeg a
  | .eq, [a, b] => (eqD a b).map .bl
  | .ne, [a, b] => (eqD a b).map fun r => .bl (!r)
  | .lt, [a, b] => opCmp (fun a b => decide (a < b)) a b
  | .le, [a, b] => opCmp (fun a b => decide (a ≤ b)) a b
  | .gt, [a, b] => opCmp (fun a b => decide (b < a)) a b
  | .ge, [a, b] => opCmp (fun a b => decide (b ≤ a)) a b
  | .ix, [a, b] => opIx a b
  | .len, [a] => opLen a
  | .abs, [a] => opAbs a
  | .int, [a] => opInt a
  | .min2, [a, b] => opMin2 a b
  | .max2, [a, b] => opMax2 a b
  | .sum, [a] => opSum a
  | .count, [a, b] => opCount a b
  | .isi t, [a] => match tyD a with
    | some (.own _) => none
    | _ => some (.bl (isiD a t))
  | .cat, [a, b] => opCat a b
  | .rep, [a, b] => opRep a b
  | .sset, [a] => opSset a
  | _, _ => none
/-- operations that make nothing new -/
def Op.pure : Op → Bool
  | .isiT _ | .cat | .rep | .sl _ _ | .list | .tuple | .sorted | .sset => false
  | _ => true

def truth : D → Option Bool
  | .non => some false
  | .bl b => some b
  | .int i => some (i != 0)
  | .lst _ xs => some (!xs.isEmpty)
  | .tup xs => some (!xs.isEmpty)
  | .str x => if x.length ≤ lineN then some ((x.length : Int) != 0) else none
  | _ => none

mutual
def evX : X → Nv → Option D
  | .c d, _ => some d
  | .v i, ρ => (ρ[i]?).join
  | .op p as, ρ => if p.pure = true then (evXs as ρ).bind (opD p) else none
  | .bool w as, ρ => evB w as ρ
  | .not_ a, ρ => match evX a ρ with
    | some (.bl b) => some (.bl (!b))
    | _ => none
  | .ife t a b, ρ => match evX t ρ with
    | some (.bl true) => evX a ρ
    | some (.bl false) => evX b ρ
    | _ => none
  | .chain p q a b c, ρ => match evX a ρ, evX b ρ with
    | some x, some y => match opD p [x, y] with
      | some (.bl true) => match evX c ρ with
        | some z => opD q [y, z]
        | none => none
      | some (.bl false) => some (.bl false)
      | _ => none
    | _, _ => none
def evXs : List X → Nv → Option (List D)
  | [], _ => some []
  | a :: as, ρ => match evX a ρ, evXs as ρ with
    | some d, some ds => some (d :: ds)
    | _, _ => none
/-- and (w), or: all but the last are truths -/
def evB (w : Bool) : List X → Nv → Option D
  | [], _ => none
  | [a], ρ => evX a ρ
  | a :: b :: as, ρ => match evX a ρ with
    | some (.bl r) => if r = w then evB w (b :: as) ρ else some (.bl r)
    | _ => none
end

/-- what an argument of an operation is: a name, or a value -/
inductive AV where
  | s (i : Nat)
  | d (x : D)
def AV.get (ρ : Nv) : AV → Option D
  | .s i => (ρ[i]?).join
  | .d x => some x
def getAVs (ρ : Nv) : List AV → Option (List D)
  | [] => some []
  | a :: as => match a.get ρ, getAVs ρ as with
    | some d, some ds => some (d :: ds)
    | _, _ => none
def slotsOf : List AV → List Nat
  | [] => []
  | .s i :: as => i :: slotsOf as
  | .d _ :: as => slotsOf as
/-- behind a call: what was lent comes back -/
def setSlots (ρ : Nv) : List AV → List D → Nv
  | .s i :: as, d :: ds => setSlots (ρ.set i (some d)) as ds
  | .d _ :: as, _ :: ds => setSlots ρ as ds
  | _, _ => ρ

mutual
/-- a target takes a (shared) value -/
def bindT : Tg → D → Nv → Option Nv
  | .n i, d, ρ => if i < ρ.length then some (ρ.set i (some d)) else none
  | .t ts, .tup ds, ρ => bindTs ts ds ρ
  | .t _, _, _ => none
def bindTs : List Tg → List D → Nv → Option Nv
  | [], [], ρ => some ρ
  | t :: ts, d :: ds, ρ => match bindT t d ρ with
    | some ρ' => bindTs ts ds ρ'
    | none => none
  | _, _, _ => none
end

/-- what a for walks, when it begins: a name's list, or items that stand -/
inductive Its where
  | v (i : Nat)
  | l (xs : List D)
def rngD (lo hi c : Int) : Option (List D) :=
  if c = 1 ∧ -(2 ^ 62) ≤ lo ∧ lo < 2 ^ 62 ∧ -(2 ^ 62) ≤ hi ∧ hi < 2 ^ 62 then some ((List.range (hi - lo).toNat).map fun (k : Nat) => D.int (lo + k))
  else if c = -1 ∧ -(2 ^ 61) ≤ lo ∧ lo < 2 ^ 61 ∧ -(2 ^ 61) ≤ hi ∧ hi < 2 ^ 61 then some ((List.range (lo - hi).toNat).map fun (k : Nat) => D.int (lo + k * (-1)))
  else none

/-- a comprehension's loop over items -/
def compL (step : D → Nv → Option (Option D × Nv)) : List D → Nv → List D → Option (List D × Nv)
  | [], ρ, acc => some (acc, ρ)
  | x :: xs, ρ, acc => match step x ρ with
    | some (some d, ρ') => if acc.length < lineN then compL step xs ρ' (acc ++ [d]) else none
    | some (none, ρ') => compL step xs ρ' acc
    | none => none
/-- .. over a name's list as it stands at each turn -/
def compV (step : D → Nv → Option (Option D × Nv)) (i : Nat) : Nat → Nat → Nv → List D → Option (List D × Nv)
  | 0, _, _, _ => none
  | n + 1, k, ρ, acc => match (ρ[i]?).join with
    | some c => match itemsL? c with
      | some xs => match xs[k]? with
        | none => some (acc, ρ)
        | some x => match step x ρ with
          | some (some d, ρ') => if acc.length < lineN then compV step i n (k + 1) ρ' (acc ++ [d]) else none
          | some (none, ρ') => compV step i n (k + 1) ρ' acc
          | none => none
      | none => none
    | none => none
def wipeE (ρ : Nv) : List Nat → Nv
  | [] => ρ
  | v :: vs => (wipeE ρ vs).set v none
/-- behind a comprehension: its names are again what they were, where that is shared -/
def restE (ρ ρ2 : Nv) : List Nat → Nv
  | [] => ρ2
  | v :: vs => match (ρ[v]?).join with
    | some d => if d.isFz = true ∧ v < (restE ρ ρ2 vs).length then (restE ρ ρ2 vs).set v (some d) else restE ρ ρ2 vs
    | none => restE ρ ρ2 vs

structure Cal where
  call : Nat → List D → Option (D × List D)
  fuel : Nat

def isV : E → Option Nat
  | .v i => some i
  | _ => none

variable (G : Cal)
mutual
def evE : E → Nv → Option (D × Nv)
  | .x e, ρ => match evX e ρ with
    | some d => if d.isFz = true then some (d, ρ) else none
    | none => none
  | .v i, ρ => match (ρ[i]?).join with
    | some d => some (freeze d, ρ.set i (some (freeze d)))
    | none => none
  | .mv i, ρ => match (ρ[i]?).join with
    | some d => some (d, ρ.set i none)
    | none => none
  | .op p as, ρ => match evAs as ρ with
    | some (avs, ρ') => match getAVs ρ' avs with
      | some ds => match opD p ds with
        | some d => if p.pure = true ∧ d.isFz = false then none else some (d, ρ')
        | none => none
      | none => none
    | none => none
  | .tup as, ρ => match evFs as ρ with
    | some (ds, ρ') => if ds.length ≤ lineN then some (.tup ds, ρ') else none
    | none => none
  | .lst _ as, ρ => match evFs as ρ with
    | some (ds, ρ') => if ds.length ≤ lineN then some (.lst .ow ds, ρ') else none
    | none => none
  | .ife t a b, ρ => match evT t ρ with
    | some (true, ρ') => evE a ρ'
    | some (false, ρ') => evE b ρ'
    | none => none
  | .call f as, ρ => match evCs as ρ with
    | some (avs, ρ') => match getAVs ρ' avs with
      | some ds => match G.call f ds with
        | some (d, outs) => if (slotsOf avs).Nodup then some (d, setSlots ρ' avs outs) else none
        | none => none
      | none => none
    | none => none
  | .pop i none, ρ => match (ρ[i]?).join with
    | some (.lst .ow xs) => match xs.getLast? with
      | some d => some (d, ρ.set i (some (.lst .ow xs.dropLast)))
      | none => none
    | _ => none
  | .pop i (some a), ρ => match (ρ[i]?).join with
   | some (.lst .ow _) => match evE a ρ with
    | some (.int k, ρ') => match (ρ'[i]?).join with
      | some (.lst .ow xs) => if -(2 ^ 63) ≤ k ∧ k < 2 ^ 63 then match ixD xs.length k with
        | some j => match xs[j]? with
          | some d => some (d, ρ'.set i (some (.lst .ow (xs.eraseIdx j))))
          | none => none
        | none => none else none
      | _ => none
    | _ => none
   | _ => none
  | .comp el tg src ifs own, ρ => match evSrc src ρ with
    | some (its, ρ1) =>
      let step : D → Nv → Option (Option D × Nv) := fun x r => match bindT tg x (wipeE r own) with
        | some r1 => match evIfs ifs r1 with
          | some (true, r2) => match evE el r2 with
            | some (d, r3) => some (some (freeze d), r3)
            | none => none
          | some (false, r2) => some (none, r2)
          | none => none
        | none => none
      match (match its with | .l xs => compL step xs ρ1 [] | .v i => compV step i G.fuel 0 ρ1 []) with
      | some (ds, ρ2) => some (.lst .ow ds, restE ρ1 (wipeE ρ2 own) own)
      | none => none
    | none => none
  | .bool w es, ρ => evV w es ρ
  | .not_ e, ρ => match evE e ρ with
    | some (.bl b, ρ') => some (.bl (!b), ρ')
    | _ => none
  | .chain p q a b c, ρ => match evE a ρ with
    | some (x, ρ1) => match evE b ρ1 with
      | some (y, ρ2) => if x.isFz = true ∧ y.isFz = true then match opD p [x, y] with
        | some (.bl true) => match evE c ρ2 with
          | some (z, ρ3) => if z.isFz = true then match opD q [y, z] with
            | some d => some (d, ρ3)
            | none => none else none
          | none => none
        | some (.bl false) => some (.bl false, ρ2)
        | _ => none else none
      | none => none
    | none => none
  | .comp2 _ _ _ _ _ _ _ _ _, _ => none
/-- and (w), or, as a value: all but the last are truths -/
def evV (w : Bool) : List E → Nv → Option (D × Nv)
  | [], _ => none
  | [a], ρ => evE a ρ
  | a :: b :: as, ρ => match evE a ρ with
    | some (.bl r, ρ') => if r = w then evV w (b :: as) ρ' else some (.bl r, ρ')
    | _ => none
/-- arguments of an operation -/
def evAs : List E → Nv → Option (List AV × Nv)
  | [], ρ => some ([], ρ)
  | a :: as, ρ => match isV a with
    | some i => match (ρ[i]?).join with
      | some _ => match evAs as ρ with
        | some (avs, ρ'') => some (.s i :: avs, ρ'')
        | none => none
      | none => none
    | none => match evE a ρ with
      | some (d, ρ') => match evAs as ρ' with
        | some (avs, ρ'') => some (.d d :: avs, ρ'')
        | none => none
      | none => none
/-- values that are shared -/
def evFs : List E → Nv → Option (List D × Nv)
  | [], ρ => some ([], ρ)
  | a :: as, ρ => match evE a ρ with
    | some (d, ρ') => match evFs as ρ' with
      | some (ds, ρ'') => some (freeze d :: ds, ρ'')
      | none => none
    | none => none
/-- arguments of a call -/
def evCs : List CA → Nv → Option (List AV × Nv)
  | [], ρ => some ([], ρ)
  | a :: as, ρ => match evC a ρ with
    | some (av, ρ') => match evCs as ρ' with
      | some (avs, ρ'') => some (av :: avs, ρ'')
      | none => none
    | none => none
def evC : CA → Nv → Option (AV × Nv)
  | .s i, ρ => match (ρ[i]?).join with
    | some _ => some (.s i, ρ)
    | none => none
  | .f e, ρ => match evE e ρ with
    | some (d, ρ') => some (.d (freeze d), ρ')
    | none => none
  | .t e, ρ => match evE e ρ with
    | some (d, ρ') => some (.d d, ρ')
    | none => none
def evT : T → Nv → Option (Bool × Nv)
  | .x e, ρ => match evX e ρ with
    | some d => match truth d with
      | some b => some (b, ρ)
      | none => none
    | none => none
  | .e e, ρ => match evE e ρ with
    | some (d, ρ') => match truth d with
      | some b => some (b, ρ')
      | none => none
    | none => none
  | .bool w ts, ρ => evTs w ts ρ
  | .not_ t, ρ => match evT t ρ with
    | some (b, ρ') => some (!b, ρ')
    | none => none
def evTs (w : Bool) : List T → Nv → Option (Bool × Nv)
  | [], ρ => some (w, ρ)
  | t :: ts, ρ => match evT t ρ with
    | some (b, ρ') => if b = w then evTs w ts ρ' else some (b, ρ')
    | none => none
/-- a comprehension's tests: none or one -/
def evIfs : List T → Nv → Option (Bool × Nv)
  | [], ρ => some (true, ρ)
  | t :: _, ρ => evT t ρ
def evSrc : Src → Nv → Option (Its × Nv)
  | .rng1 b, ρ => match evE b ρ with
    | some (.int j, ρ') => (rngD 0 j 1).map fun xs => (.l xs, ρ')
    | _ => none
  | .rng2 a b, ρ => match evE a ρ with
    | some (.int i, ρ1) => match evE b ρ1 with
      | some (.int j, ρ2) => (rngD i j 1).map fun xs => (.l xs, ρ2)
      | _ => none
    | _ => none
  | .rng3 a b c, ρ => match evE a ρ with
    | some (.int i, ρ1) => match evE b ρ1 with
      | some (.int j, ρ2) => if c = -1 then (rngD i j c).map fun xs => (.l xs, ρ2) else none
      | _ => none
    | _ => none
  | .v i, ρ => match (ρ[i]?).join with
    | some c => match itemsL? c with
      | some _ => some (.v i, ρ)
      | none => none
    | none => none
  | .val e, ρ => match evE e ρ with
    | some (d, ρ') => (items? (freeze d)).map fun xs => (.l xs, ρ')
    | none => none
end

/-! ### statements -/
def augD : Op → D → D → Option D
  | .add, a, b => opAdd a b
  | .sub, a, b => opSub a b
  | .mul, a, b => opMul a b
  | _, _, _ => none
inductive Out where
  | nx (ρ : Nv)
  | rt (d : D) (ρ : Nv)
  | bk (ρ : Nv)
  | ct (ρ : Nv)
def forL (step : D → Nv → Option Out) : List D → Nv → Option Out
  | [], ρ => some (.nx ρ)
  | x :: xs, ρ => match step x ρ with
    | some (.nx ρ') => forL step xs ρ'
    | some (.ct ρ') => forL step xs ρ'
    | some (.bk ρ') => some (.nx ρ')
    | some (.rt d ρ') => some (.rt d ρ')
    | none => none
def forV (step : D → Nv → Option Out) (i : Nat) : Nat → Nat → Nv → Option Out
  | 0, _, _ => none
  | n + 1, k, ρ => match (ρ[i]?).join with
    | some c => match itemsL? c with
      | some xs => match xs[k]? with
        | none => some (.nx ρ)
        | some x => match step x ρ with
          | some (.nx ρ') => forV step i n (k + 1) ρ'
          | some (.ct ρ') => forV step i n (k + 1) ρ'
          | some (.bk ρ') => some (.nx ρ')
          | some (.rt d ρ') => some (.rt d ρ')
          | none => none
      | none => none
    | none => none
def whileL (test : Nv → Option (Bool × Nv)) (step : Nv → Option Out) : Nat → Nv → Option Out
  | 0, _ => none
  | n + 1, ρ => match test ρ with
    | some (true, ρ1) => match step ρ1 with
      | some (.nx ρ') => whileL test step n ρ'
      | some (.ct ρ') => whileL test step n ρ'
      | some (.bk ρ') => some (.nx ρ')
      | some (.rt d ρ') => some (.rt d ρ')
      | none => none
    | some (false, ρ1) => some (.nx ρ1)
    | none => none
mutual
def evS : S → Nv → Option Out
  | .asg i e, ρ => match evE G e ρ with
    | some (d, ρ') => if i < ρ'.length then some (.nx (ρ'.set i (some d))) else none
    | none => none
  | .par i j a b, ρ => match evE G a ρ with
    | some (x, ρ1) => match evE G b ρ1 with
      | some (y, ρ2) => if i < ρ2.length ∧ j < ρ2.length then some (.nx ((ρ2.set i (some x)).set j (some y))) else none
      | none => none
    | none => none
  | .unp tg e, ρ => match evE G e ρ with
    | some (d, ρ') => match bindT tg (freeze d) ρ' with
      | some r => some (.nx r)
      | none => none
    | none => none
  | .aug i p e, ρ => match (ρ[i]?).join with
    | some x => match evE G e ρ with
      | some (y, ρ') => match augD p x y with
        | some z => if i < ρ'.length then some (.nx (ρ'.set i (some z))) else none
        | none => none
      | none => none
    | none => none
  | .augL i e, ρ => match (ρ[i]?).join with
    | some (.lst .ow _) => match evE G e ρ with
      | some (d, ρ') => match (ρ'[i]?).join, freeze d with
        | some (.lst .ow xs), .lst .fz ys => if xs.length + ys.length ≤ lineN then some (.nx (ρ'.set i (some (.lst .ow (xs ++ ys))))) else none
        | _, _ => none
      | none => none
    | _ => none
  | .setI i k e, ρ => match evE G e ρ with
    | some (d, ρ') => match (ρ'[i]?).join, evX k ρ' with
      | some (.lst .ow xs), some (.int n) => match ixD xs.length n with
        | some j => some (.nx (ρ'.set i (some (.lst .ow (xs.set j (freeze d))))))
        | none => none
      | _, _ => none
    | none => none
  | .augI i k p e, ρ => match (ρ[i]?).join, evX k ρ with
    | some (.lst .ow xs), some (.int n) => match (ixD xs.length n).bind (fun j => xs[j]?) with
      | some x => match evE G e ρ with
        | some (y, ρ') => match augD p x y, (ρ'[i]?).join with
          | some z, some (.lst .ow ys) => match ixD ys.length n with
            | some j => some (.nx (ρ'.set i (some (.lst .ow (ys.set j z)))))
            | none => none
          | _, _ => none
        | none => none
      | none => none
    | _, _ => none
  | .append i e, ρ => match (ρ[i]?).join with
    | some (.lst .ow _) => match evE G e ρ with
      | some (d, ρ') => match (ρ'[i]?).join with
        | some (.lst .ow xs) => if xs.length < lineN then some (.nx (ρ'.set i (some (.lst .ow (xs ++ [freeze d]))))) else none
        | _ => none
      | none => none
    | _ => none
  | .reverse i, ρ => match (ρ[i]?).join with
    | some (.lst .ow xs) => some (.nx (ρ.set i (some (.lst .ow xs.reverse))))
    | _ => none
  | .ex e, ρ => match evE G e ρ with
    | some (_, ρ') => some (.nx ρ')
    | none => none
  | .ife t a b, ρ => match evT G t ρ with
    | some (true, ρ') => evSs a ρ'
    | some (false, ρ') => evSs b ρ'
    | none => none
  | .whl t b, ρ => whileL (evT G t) (evSs b) G.fuel ρ
  | .for_ tg src b, ρ => match evSrc G src ρ with
    | some (its, ρ1) =>
      let step : D → Nv → Option Out := fun x r => match bindT tg x r with
        | some r1 => evSs b r1
        | none => none
      match its with
      | .l xs => forL step xs ρ1
      | .v i => forV step i G.fuel 0 ρ1
    | none => none
  | .ret e, ρ => match evE G e ρ with
    | some (d, ρ') => some (.rt d ρ')
    | none => none
  | .retN, ρ => some (.rt .non ρ)
  | .pass, ρ => some (.nx ρ)
  | .brk, ρ => some (.bk ρ)
  | .cont, ρ => some (.ct ρ)
  | .never, _ => none
def evSs : List S → Nv → Option Out
  | [], ρ => some (.nx ρ)
  | s :: ss, ρ => match evS s ρ with
    | some (.nx ρ') => evSs ss ρ'
    | r => r
end

/-- a def: how many parameters, which are lent, how many names, its text -/
structure Df where
  lent : List Bool
  slots : Nat
  body : List S
/-- what the parameters hold at the end: those that are lent as they are, the others as they came -/
def outsOf (ρ : Nv) : List Bool → Nat → List D → Option (List D)
  | [], _, _ => some []
  | _ :: _, _, [] => none
  | b :: bs, i, d :: ds => match outsOf ρ bs (i + 1) ds with
    | some os => if b = true then (match (ρ[i]?).join with | some e => some (e :: os) | none => none) else some (d :: os)
    | none => none
/-- parameters that are not lent must come shared -/
def lentOk : List Bool → List D → Bool
  | [], [] => true
  | b :: bs, d :: ds => (b || d.isFz) && lentOk bs ds
  | _, _ => false
def evF (Φ : List Df) (fuel : Nat) : Nat → Nat → List D → Option (D × List D)
  | 0, _, _ => none
  | n + 1, f, ds => match Φ[f]? with
    | some fd => if lentOk fd.lent ds = true then
        match evSs ⟨evF Φ fuel n, fuel⟩ fd.body (ds.map some ++ List.replicate (fd.slots - ds.length) none) with
        | some (.rt d ρ) => (outsOf ρ fd.lent 0 ds).map fun outs => (d, outs)
        | some (.nx ρ) => (outsOf ρ fd.lent 0 ds).map fun outs => (.non, outs)
        | _ => none
      else none
    | none => none
end Kw

set_option maxRecDepth 100000
set_option maxHeartbeats 4000000
/-! Kw3: the operations by values. -/
namespace Kw
open PySem L2

theorem RF.rp_fz {C : KC} {I H : Hp} {d : D} {v : V} {F : List Addr} (h : Rp C I H d v F) (z : d.isFz = true) : RF C I d v ∧ F = [] := by
  cases h with
  | fz r => exact ⟨r, rfl⟩
  | lstO => simp [D.isFz] at z
  | lstD => simp [D.isFz] at z
  | dKO => simp [D.isFz] at z
  | dKD => simp [D.isFz] at z
  | dTO => simp [D.isFz] at z
  | dTD => simp [D.isFz] at z
  | objD => simp [D.isFz] at z
theorem Rp.int {C : KC} {I H : Hp} {i : Int} {v : V} {F : List Addr} (h : Rp C I H (.int i) v F) : v = .int i := by
  cases (RF.rp_fz h rfl).1; rfl
theorem Rp.bl {C : KC} {I H : Hp} {i : Bool} {v : V} {F : List Addr} (h : Rp C I H (.bl i) v F) : v = .bl i := by
  cases (RF.rp_fz h rfl).1; rfl
theorem Rp.str {C : KC} {I H : Hp} {i : Str} {v : V} {F : List Addr} (h : Rp C I H (.str i) v F) : v = .str i := by
  cases (RF.rp_fz h rfl).1; rfl
theorem Rp.non {C : KC} {I H : Hp} {v : V} {F : List Addr} (h : Rp C I H .non v F) : v = .non := by
  cases (RF.rp_fz h rfl).1; rfl
theorem Rp.tup {C : KC} {I H : Hp} {ds : List D} {v : V} {F : List Addr} (s : Same I H) (h : Rp C I H (.tup ds) v F) : ∃ a vs, v = .ref a ∧ SqT C.K H a vs ∧ RFs C I ds vs := by
  cases (RF.rp_fz h rfl).1 with
  | tup e t => exact ⟨_, _, rfl, Same.seqT s e, t⟩
/-- a list's places -/
theorem Rp.lst {C : KC} {I H : Hp} {m : Md} {ds : List D} {v : V} {F : List Addr} (s : Same I H) (h : Rp C I H (.lst m ds) v F) : ∃ (a : Addr) (vs : List V), v = .ref a ∧ SqL C.K H a vs ∧ ds.length = vs.length ∧
    (∀ (j : Nat) (d : D), ds[j]? = some d → ∃ u G, vs[j]? = some u ∧ Rp C I H d u G) ∧ (m ≠ .dp → RFs C I ds vs) := by
  have get : ∀ {ds : List D} {vs : List V} {F : List Addr}, Rps C I H ds vs F → ds.length = vs.length ∧ ∀ (j : Nat) (d : D), ds[j]? = some d → ∃ u G, vs[j]? = some u ∧ Rp C I H d u G := by
    intro ds
    induction ds with
    | nil => intro vs F t; cases t; exact ⟨rfl, fun j d e => by simp at e⟩
    | cons d ds ih =>
      intro vs F t
      cases t with
      | cons r t dj =>
        obtain ⟨l, g⟩ := ih t
        refine ⟨by simp [l], fun j e he => ?_⟩
        cases j with
        | zero => simp at he; subst he; exact ⟨_, _, rfl, r⟩
        | succ j => simpa using g j e (by simpa using he)
  cases h with
  | fz r =>
    cases r with
    | lst e t =>
      refine ⟨_, _, rfl, .inl (Same.rd s e), t.length, fun j d hj => ?_, fun _ => t⟩
      obtain ⟨u, h1, h2⟩ := t.get' hj
      exact ⟨u, [], h1, .fz h2⟩
    | lstK e t =>
      refine ⟨_, _, rfl, Same.seq s e, t.length, fun j d hj => ?_, fun _ => t⟩
      obtain ⟨u, h1, h2⟩ := t.get' hj
      exact ⟨u, [], h1, .fz h2⟩
  | lstO e n t =>
    refine ⟨_, _, rfl, SqL.of e, t.length, fun j d hj => ?_, fun _ => t⟩
    obtain ⟨u, h1, h2⟩ := t.get' hj
    exact ⟨u, [], h1, .fz h2⟩
  | lstD e n t na =>
    obtain ⟨l, g⟩ := get t
    exact ⟨_, _, rfl, SqL.of e, l, g, fun z => absurd rfl z⟩

inductive As (C : KC) (I H : Hp) : List D → List V → Prop
  | nil : As C I H [] []
  | cons {d : D} {v : V} {F : List Addr} {ds : List D} {vs : List V} : Rp C I H d v F → As C I H ds vs → As C I H (d :: ds) (v :: vs)

/-- what is wanted behind an operation that makes something new -/
def OPost (C : KC) (I H : Hp) (d : D) (Q : VK) : Prop :=
  ∀ I' H' v F, Same I I' → Same H H' → Same I' H' → (∀ a, I' a ≠ none → I a ≠ none ∨ H a = none) → (∀ a ∈ F, H a = none) → Rp C I' H' d v F → Q v H'
def rOp (C : KC) (p : Op) : List V → Hp → VK → Prop := fun vs H Q => ∃ I ds d, Same I H ∧ As C I H ds vs ∧ opD p ds = some d ∧
  (p.pure = true → ∀ v F, Rp C I H d v F → Q v H) ∧ (p.pure = false → OPost C I H d Q)

/-- a new list of shared things -/
theorem OPost.new {C : KC} {I H : Hp} {ds : List D} {vs : List V} {Q : VK} (s : Same I H) (r : RFs C I ds vs) (h : OPost C I H (.lst .ow ds) Q) : ∀ p, H p = none → Q (.ref p) (upd H p (.lst vs)) := fun p np => by
  have sH : Same H (upd H p (.lst vs)) := fun b o e => by rw [upd_ne (ne_of_none e np)]; exact e
  have ip : I p = none := s.free np
  exact h I _ _ [p] (Same.refl _) sH (Same.trans s sH) (fun a z => .inl z) (fun a ha => by rw [List.mem_singleton.mp ha]; exact np) (.lstO upd_same ip r)
/-- a new tuple -/
theorem OPost.newT {C : KC} {I H : Hp} {ds : List D} {vs : List V} {Q : VK} (s : Same I H) (r : RFs C I ds vs) (h : OPost C I H (.tup ds) Q) : ∀ p, H p = none → Q (.ref p) (upd H p (.tup vs)) := fun p np => by
  have sH : Same H (upd H p (.tup vs)) := fun b o e => by rw [upd_ne (ne_of_none e np)]; exact e
  have ip : I p = none := s.free np
  have sI : Same I (upd I p (.tup vs)) := fun b o e => by rw [upd_ne (ne_of_none e ip)]; exact e
  refine h (upd I p (.tup vs)) _ _ [] sI sH (fun b o e => ?_) (fun a z => ?_) (fun a ha => nomatch ha) (.fz (.tup (SqT.of upd_same) (r.mono sI)))
  · by_cases hb : b = p
    · subst hb; rw [upd_same] at e ⊢; exact e
    · rw [upd_ne hb] at e ⊢; exact s b o e
  · by_cases hb : a = p
    · subst hb; exact .inr np
    · rw [upd_ne hb] at z; exact .inl z
/-- a value that is no object -/
theorem OPost.val {C : KC} {I H : Hp} {d : D} {v : V} {Q : VK} (s : Same I H) (r : RF C I d v) (h : OPost C I H d Q) : Q v H :=
  h I H v [] (Same.refl _) (Same.refl _) s (fun _ z => .inl z) (fun _ z => nomatch z) (.fz r)

section
variable {X : Cx} {C : KC}
theorem OpR.imp {f : Value → Value → Sem Value} {r r' : R2} (h : OpR X f r) (k : ∀ x y H Q, r' x y H Q → r x y H Q) : OpR X f r' := fun pins s σ H x y v u Q I rx ry q => h pins s σ H x y v u Q I rx ry (k _ _ _ _ q)
theorem UnR.imp {f : Value → Sem Value} {r r' : V → Hp → VK → Prop} (h : UnR X f r) (k : ∀ x H Q, r' x H Q → r x H Q) : UnR X f r' := fun pins s σ H x v Q I rx q => h pins s σ H x v Q I rx (k _ _ _ q)
theorem CallR.imp {f : Value} {r r' : List V → Hp → VK → Prop} (h : CallR X f r) (k : ∀ x H Q, r' x H Q → r x H Q) : CallR X f r' := fun pins s σ H x v Q I rx q => h pins s σ H x v Q I rx (k _ _ _ q)
theorem MtR.imp {id : String} {r r' : V → List V → Hp → VK → Prop} (h : MtR X id r) (k : ∀ x xs H Q, r' x xs H Q → r x xs H Q) : MtR X id r' := fun pins s σ H x xs v us Q I rx rs q => h pins s σ H x xs v us Q I rx rs (k _ _ _ _ q)
theorem IxR.imp {r r' : R2} (h : IxR X r) (k : ∀ x y H Q, r' x y H Q → r x y H Q) : IxR X r' := fun value slice pins s σ H x y v u Q I rx ry q e => h value slice pins s σ H x y v u Q I rx ry (k _ _ _ _ q) e
theorem TruR.imp {r r' : V → Hp → (Bool → Hp → Prop) → Prop} (h : TruR X r) (k : ∀ x H Q, r' x H Q → r x H Q) : TruR X r' := fun pins s σ H x v Q I rx q => h pins s σ H x v Q I rx (k _ _ _ q)

theorem As.two {I H : Hp} {ds : List D} {x y : V} (h : As C I H ds [x, y]) : ∃ d e F G, ds = [d, e] ∧ Rp C I H d x F ∧ Rp C I H e y G := by
  cases h with
  | cons r t =>
    cases t with
    | cons r' t =>
      cases t
      exact ⟨_, _, _, _, rfl, r, r'⟩
theorem As.one {I H : Hp} {ds : List D} {x : V} (h : As C I H ds [x]) : ∃ d F, ds = [d] ∧ Rp C I H d x F := by
  cases h with
  | cons r t =>
    cases t
    exact ⟨_, _, rfl, r⟩

theorem sz_line : lineN = sizeLine := by rw [sizeLine_eq]; rfl

/-! ### ints -/
/-- an operation of two ints whose value is no object -/
theorem by_ii {f : Value → Value → Sem Value} {p : Op} {Cn : Int → Int → Prop} {g : Int → Int → V} (R : OpR X f (rI Cn g)) (hp : p.pure = true)
    (hg : ∀ d e r, opD p [d, e] = some r → ∃ i j, d = .int i ∧ e = .int j ∧ Cn i j ∧ ∀ I, RF C I r (g i j)) : OpR X f (fun x y => rOp C p [x, y]) := by
  refine OpR.imp R fun x y H Q h => ?_
  obtain ⟨I, ds, d, s, a, e, q, _⟩ := h
  obtain ⟨d1, d2, F, G, rfl, r1, r2⟩ := a.two
  obtain ⟨i, j, rfl, rfl, c, r⟩ := hg d1 d2 d e
  exact ⟨i, j, r1.int, r2.int, c, q hp _ [] (.fz (r I))⟩
theorem by_ii0 {f : Value → Value → Sem Value} {p : Op} {g : Int → Int → V} (R : OpR X f (rI0 g)) (hp : p.pure = true)
    (hg : ∀ d e r, opD p [d, e] = some r → ∃ i j, d = .int i ∧ e = .int j ∧ ∀ I, RF C I r (g i j)) : OpR X f (fun x y => rOp C p [x, y]) := by
  refine OpR.imp R fun x y H Q h => ?_
  obtain ⟨I, ds, d, s, a, e, q, _⟩ := h
  obtain ⟨d1, d2, F, G, rfl, r1, r2⟩ := a.two
  obtain ⟨i, j, rfl, rfl, r⟩ := hg d1 d2 d e
  exact ⟨i, j, r1.int, r2.int, q hp _ [] (.fz (r I))⟩

theorem bv_add : OpR X (binaryOp .Add) (fun x y => rOp C .add [x, y]) := by
  refine OpR.imp (OpR.or op_add op_add_str) fun x y H Q h => ?_
  obtain ⟨I, ds, d, s, a, e, q, _⟩ := h
  obtain ⟨d1, d2, F, G, rfl, r1, r2⟩ := a.two
  replace e : opAdd d1 d2 = some d := e
  unfold opAdd at e
  split at e
  · cases e
    exact .inl ⟨_, _, r1.int, r2.int, q rfl _ [] (.fz (.int _))⟩
  · split at e
    · rename_i hz
      cases e
      exact .inr ⟨_, _, r1.str, r2.str, by rw [← sz_line]; exact hz, q rfl _ [] (.fz (.str _))⟩
    · cases e
  · cases e
theorem bv_sub : OpR X (binaryOp .Sub) (fun x y => rOp C .sub [x, y]) := by_ii0 op_sub rfl fun d e r h => by
  replace h : opSub d e = some r := h
  unfold opSub at h
  split at h <;> cases h
  exact ⟨_, _, rfl, rfl, fun I => .int _⟩
theorem small_ok {i j : Int} (h : small i j = true) : CMul i j := by
  unfold small at h
  simp only [Bool.or_eq_true, Bool.and_eq_true, decide_eq_true_eq] at h
  exact h
theorem bv_mul : OpR X (binaryOp .Mult) (fun x y => rOp C .mul [x, y]) := by_ii op_mul rfl fun d e r h => by
  replace h : opMul d e = some r := h
  unfold opMul at h
  split at h
  · split at h <;> cases h
    rename_i hz
    exact ⟨_, _, rfl, rfl, small_ok hz, fun I => .int _⟩
  · cases h
theorem op_fdivL : OpR X (binaryOp .FloorDiv) (rI (fun _ j => j ≠ 0 ∧ j.natAbs.log2 < 9000) fun i j => .int (i.fdiv j)) := opI fun _ _ _ _ _ _ _ c k => PyProof.Rows.floordiv_int c.1 k (.inl (PyProof.noPylong_of_log2 c.2))
theorem bv_fdiv : OpR X (binaryOp .FloorDiv) (fun x y => rOp C .fdiv [x, y]) := by_ii op_fdivL rfl fun d e r h => by
  replace h : opFdiv d e = some r := h
  unfold opFdiv at h
  split at h
  · split at h <;> cases h
    rename_i hz
    exact ⟨_, _, rfl, rfl, hz, fun I => .int _⟩
  · cases h
theorem bv_mod : OpR X (binaryOp .Mod) (fun x y => rOp C .mod [x, y]) := by_ii op_modN rfl fun d e r h => by
  replace h : opMod d e = some r := h
  unfold opMod at h
  split at h
  · split at h <;> cases h
    rename_i hz
    exact ⟨_, _, rfl, rfl, hz, fun I => .int _⟩
  · cases h
theorem bv_pow : OpR X (binaryOp .Pow) (fun x y => rOp C .pow [x, y]) := by_ii op_pow rfl fun d e r h => by
  replace h : opPow d e = some r := h
  unfold opPow at h
  split at h
  · split at h <;> cases h
    rename_i hz
    exact ⟨_, _, rfl, rfl, hz, fun I => .int _⟩
  · cases h
theorem bv_neg : UnR X (unaryOp .USub) (fun x => rOp C .neg [x]) := by
  refine UnR.imp un_neg fun x H Q h => ?_
  obtain ⟨I, ds, d, s, a, e, q, _⟩ := h
  obtain ⟨d1, F, rfl, r1⟩ := a.one
  replace e : opNeg d1 = some d := e
  unfold opNeg at e
  split at e <;> cases e
  exact ⟨_, r1.int, q rfl _ [] (.fz (.int _))⟩
theorem by_cmp {f : Value → Value → Sem Value} {p : Op} {g : Int → Int → Bool} (R : OpR X f (rI0 fun i j => .bl (g i j))) (hp : p.pure = true) (hg : ∀ d e, opD p [d, e] = opCmp g d e) : OpR X f (fun x y => rOp C p [x, y]) := by_ii0 R hp fun d e r h => by
  rw [hg] at h
  unfold opCmp at h
  split at h <;> cases h
  exact ⟨_, _, rfl, rfl, fun I => .bl _⟩
theorem bv_lt : OpR X (compareOp .Lt) (fun x y => rOp C .lt [x, y]) := by_cmp op_lt rfl fun _ _ => rfl
theorem bv_le : OpR X (compareOp .LtE) (fun x y => rOp C .le [x, y]) := by_cmp op_le rfl fun _ _ => rfl
theorem bv_gt : OpR X (compareOp .Gt) (fun x y => rOp C .gt [x, y]) := by_cmp op_gt rfl fun _ _ => rfl
theorem bv_ge : OpR X (compareOp .GtE) (fun x y => rOp C .ge [x, y]) := by_cmp op_ge rfl fun _ _ => rfl

/-! ### == -/
mutual
theorem toPy_dp {C : KC} {I H : Hp} (s : Same I H) : ∀ {d : D} {v : V}, RF C I d v → ∀ {p : PyData}, toPy d = some p → Dp C.K H v p
  | _, _, .non, _, e => by cases e; exact .non
  | _, _, .bl b, _, e => by cases e; exact .bl b
  | _, _, .int i, _, e => by cases e; exact .int i
  | _, _, .str x, _, e => by cases e; exact .str x
  | _, _, .tup (ds := ds) h t, _, e => by
    unfold toPy at e
    cases q : toPys ds with
    | none => rw [q] at e; cases e
    | some ps =>
      rw [q] at e
      cases e
      exact .tup (Same.seqT s h) (toPys_dp s t q)
  | _, _, .lst (ds := ds) h t, _, e => by
    unfold toPy at e
    cases q : toPys ds with
    | none => rw [q] at e; cases e
    | some ps =>
      rw [q] at e
      cases e
      exact .lst (.inl (Same.rd s h)) (toPys_dp s t q)
  | _, _, .lstK (ds := ds) h t, _, e => by
    unfold toPy at e
    cases q : toPys ds with
    | none => rw [q] at e; cases e
    | some ps =>
      rw [q] at e
      cases e
      exact .lst (Same.seq s h) (toPys_dp s t q)
  | _, _, .dK h e' t, _, e => by unfold toPy at e; cases e
  | _, _, .dT h e' t, _, e => by unfold toPy at e; cases e
  | _, _, .obj h t, _, e => by unfold toPy at e; cases e
theorem toPys_dp {C : KC} {I H : Hp} (s : Same I H) : ∀ {ds : List D} {vs : List V}, RFs C I ds vs → ∀ {ps : List PyData}, toPys ds = some ps → DpAll C.K H vs ps
  | _, _, .nil, _, e => by unfold toPys at e; cases e; exact .nil
  | _, _, .cons (d := d) (ds := ds) r t, _, e => by
    unfold toPys at e
    cases q : toPy d with
    | none => rw [q] at e; cases e
    | some p =>
      cases q2 : toPys ds with
      | none => rw [q, q2] at e; cases e
      | some ps =>
        rw [q, q2] at e
        cases e
        exact .cons (toPy_dp s r q) (toPys_dp s t q2)
end
theorem toPy_rp {I H : Hp} (s : Same I H) {d : D} {v : V} {F : List Addr} (h : Rp C I H d v F) {p : PyData} (e : toPy d = some p) : Dp C.K H v p := by
  cases h with
  | fz r => exact toPy_dp s r e
  | lstO h0 n t =>
    rename_i a vs ds
    unfold toPy at e
    cases q : toPys ds with
    | none => rw [q] at e; cases e
    | some ps =>
      rw [q] at e
      cases e
      exact .lst (SqL.of h0) (toPys_dp s t q)
  | lstD => unfold toPy at e; cases e
  | dKO => unfold toPy at e; cases e
  | dKD => unfold toPy at e; cases e
  | dTO => unfold toPy at e; cases e
  | dTD => unfold toPy at e; cases e
  | objD => unfold toPy at e; cases e
/-- what eqD says is what the data say -/
theorem eqD_py {a b : D} {r : Bool} (h : eqD a b = some r) : ∃ p q, toPy a = some p ∧ toPy b = some q ∧ SeqAt.shaped p = true ∧ SeqAt.shaped q = true ∧ PyData.eqv p q = r := by
  unfold eqD at h
  split at h
  · cases h
    exact ⟨_, _, rfl, rfl, rfl, rfl, by unfold PyData.eqv; rw [Bool.beq_eq_decide_eq]⟩
  · cases h
    exact ⟨_, _, rfl, rfl, rfl, rfl, by unfold PyData.eqv; rw [Bool.beq_eq_decide_eq]⟩
  · split at h
    · split at h
      · rename_i h1 h2 h3
        cases h
        exact ⟨_, _, h1, h2, h3.1, h3.2, rfl⟩
      · cases h
    · cases h
theorem bv_eq (hu : X.A.units + 64 < cLine) (hK : X.K = C.K) : OpR X (compareOp .Eq) (fun x y => rOp C .eq [x, y]) := by
  refine OpR.imp (op_eqD hu) fun x y H Q h => ?_
  obtain ⟨I, ds, d, s, a, e, q, _⟩ := h
  obtain ⟨d1, d2, F, G, rfl, r1, r2⟩ := a.two
  replace e : (eqD d1 d2).map D.bl = some d := e
  cases z : eqD d1 d2 with
  | none => rw [z] at e; cases e
  | some r =>
    rw [z] at e
    cases e
    obtain ⟨p, p', e1, e2, s1, s2, e3⟩ := eqD_py z
    refine ⟨p, p', by rw [hK]; exact toPy_rp s r1 e1, by rw [hK]; exact toPy_rp s r2 e2, s1, s2, ?_⟩
    rw [e3]
    exact q rfl _ [] (.fz (.bl _))
theorem bv_ne (hu : X.A.units + 64 < cLine) (hK : X.K = C.K) : OpR X (compareOp .NotEq) (fun x y => rOp C .ne [x, y]) := by
  refine OpR.imp (op_neD hu) fun x y H Q h => ?_
  obtain ⟨I, ds, d, s, a, e, q, _⟩ := h
  obtain ⟨d1, d2, F, G, rfl, r1, r2⟩ := a.two
  replace e : (eqD d1 d2).map (fun r => D.bl (!r)) = some d := e
  cases z : eqD d1 d2 with
  | none => rw [z] at e; cases e
  | some r =>
    rw [z] at e
    cases e
    obtain ⟨p, p', e1, e2, s1, s2, e3⟩ := eqD_py z
    refine ⟨p, p', by rw [hK]; exact toPy_rp s r1 e1, by rw [hK]; exact toPy_rp s r2 e2, s1, s2, ?_⟩
    rw [e3]
    exact q rfl _ [] (.fz (.bl _))

/-! ### places, lengths -/
theorem ixD_ixN (n : Nat) (i : Int) : ixD n i = L2.ixN n i := rfl
theorem atI_of {α : Type} {xs : List α} {n : Nat} {i : Int} {j : Nat} {v : α} (hn : n = xs.length) (h : ixD n i = some j) (e : xs[j]? = some v) : L2.atI xs i = some v := by
  unfold L2.atI
  rw [← hn, ← ixD_ixN, h]
  exact e
theorem bv_ix (hK : X.K = C.K) : IxR X (fun x y => rOp C .ix [x, y]) := by
  refine IxR.imp ix_seq fun x y H Q h => ?_
  obtain ⟨I, ds, d, s, a, e, q, _⟩ := h
  obtain ⟨d1, d2, F, G, rfl, r1, r2⟩ := a.two
  replace e : opIx d1 d2 = some d := e
  unfold opIx at e
  split at e
  · rename_i m xs i
    cases z : ixD xs.length i with
    | none => rw [z] at e; cases e
    | some j =>
      rw [z] at e
      replace e : xs[j]? = some d := e
      obtain ⟨b, vs, rfl, hs, hl, hg, _⟩ := r1.lst s
      obtain ⟨u, G', hu, ru⟩ := hg j d e
      exact .inl ⟨b, vs, i, u, rfl, r2.int, by rw [hK]; exact hs, atI_of hl z hu, q rfl _ _ ru⟩
  · rename_i xs i
    cases z : ixD xs.length i with
    | none => rw [z] at e; cases e
    | some j =>
      rw [z] at e
      replace e : xs[j]? = some d := e
      obtain ⟨b, vs, rfl, hs, t⟩ := r1.tup s
      obtain ⟨u, hu, ru⟩ := t.get' e
      exact .inr (.inl ⟨b, vs, i, u, rfl, r2.int, by rw [hK]; exact hs, atI_of t.length z hu, q rfl _ _ (.fz ru)⟩)
  · cases e
theorem rOp_one {p : Op} {xs : List V} {H : Hp} {Q : VK} (h0 : opD p [] = none) (h2 : ∀ a b ds, opD p (a :: b :: ds) = none) (h : rOp C p xs H Q) :
    ∃ I d x r F, xs = [x] ∧ Same I H ∧ Rp C I H d x F ∧ opD p [d] = some r ∧ (p.pure = true → ∀ v F, Rp C I H r v F → Q v H) ∧ (p.pure = false → OPost C I H r Q) := by
  obtain ⟨I, ds, r, s, a, e, q, q'⟩ := h
  cases a with
  | nil => rw [h0] at e; cases e
  | cons r1 t =>
    cases t with
    | nil => exact ⟨I, _, _, r, _, rfl, s, r1, e, q, q'⟩
    | cons => rw [h2] at e; cases e
theorem rOp_two {p : Op} {xs : List V} {H : Hp} {Q : VK} (h0 : opD p [] = none) (h1 : ∀ a, opD p [a] = none) (h2 : ∀ a b c ds, opD p (a :: b :: c :: ds) = none) (h : rOp C p xs H Q) :
    ∃ I d e x y r F G, xs = [x, y] ∧ Same I H ∧ Rp C I H d x F ∧ Rp C I H e y G ∧ opD p [d, e] = some r ∧ (p.pure = true → ∀ v F, Rp C I H r v F → Q v H) ∧ (p.pure = false → OPost C I H r Q) := by
  obtain ⟨I, ds, r, s, a, e, q, q'⟩ := h
  cases a with
  | nil => rw [h0] at e; cases e
  | cons r1 t =>
    cases t with
    | nil => rw [h1] at e; cases e
    | cons r2 t =>
      cases t with
      | nil => exact ⟨I, _, _, _, _, r, _, _, rfl, s, r1, r2, e, q, q'⟩
      | cons => rw [h2] at e; cases e
theorem bv_len (hK : X.K = C.K) : CallR X (.builtin "len") (rOp C .len) := by
  refine CallR.imp call_len_seq fun xs H Q h => ?_
  obtain ⟨I, d1, x, d, F, rfl, s, r1, e, q, _⟩ := rOp_one rfl (fun _ _ _ => rfl) h
  replace e : opLen d1 = some d := e
  unfold opLen at e
  split at e
  · cases e
    obtain ⟨b, vs, rfl, hs, hl, hg, _⟩ := r1.lst s
    exact ⟨b, vs, rfl, .inl (by rw [hK]; exact hs), by rw [← hl]; exact q rfl _ [] (.fz (.int _))⟩
  · cases e
    obtain ⟨b, vs, rfl, hs, t⟩ := r1.tup s
    exact ⟨b, vs, rfl, .inr (by rw [hK]; exact hs), by rw [← t.length]; exact q rfl _ [] (.fz (.int _))⟩
  · cases e
theorem bv_abs : CallR X (.builtin "abs") (rOp C .abs) := by
  refine CallR.imp call_abs fun xs H Q h => ?_
  obtain ⟨I, d1, x, d, F, rfl, s, r1, e, q, _⟩ := rOp_one rfl (fun _ _ _ => rfl) h
  replace e : opAbs d1 = some d := e
  unfold opAbs at e
  split at e <;> cases e
  rw [r1.int]
  exact ⟨_, rfl, q rfl _ [] (.fz (.int _))⟩
theorem bv_int : CallR X (.type "int") (rOp C .int) := by
  refine CallR.imp call_int1 fun xs H Q h => ?_
  obtain ⟨I, d1, x, d, F, rfl, s, r1, e, q, _⟩ := rOp_one rfl (fun _ _ _ => rfl) h
  replace e : opInt d1 = some d := e
  unfold opInt at e
  split at e <;> cases e
  · rw [r1.int]
    exact .inl ⟨_, rfl, q rfl _ [] (.fz (.int _))⟩
  · rw [r1.bl]
    exact .inr ⟨_, rfl, q rfl _ [] (.fz (.int _))⟩
theorem bv_min2 (hc : X.calm = true) : CallR X (.builtin "min") (rOp C .min2) := by
  refine CallR.imp (call_min2 hc) fun xs H Q h => ?_
  obtain ⟨I, d1, d2, x, y, d, F, G, rfl, s, r1, r2, e, q, _⟩ := rOp_two rfl (fun _ => rfl) (fun _ _ _ _ => rfl) h
  replace e : opMin2 d1 d2 = some d := e
  unfold opMin2 at e
  split at e <;> cases e
  rw [r1.int, r2.int]
  exact ⟨_, _, rfl, q rfl _ [] (.fz (.int _))⟩
theorem bv_max2 (hc : X.calm = true) : CallR X (.builtin "max") (rOp C .max2) := by
  refine CallR.imp (call_max2 hc) fun xs H Q h => ?_
  obtain ⟨I, d1, d2, x, y, d, F, G, rfl, s, r1, r2, e, q, _⟩ := rOp_two rfl (fun _ => rfl) (fun _ _ _ _ => rfl) h
  replace e : opMax2 d1 d2 = some d := e
  unfold opMax2 at e
  split at e <;> cases e
  rw [r1.int, r2.int]
  exact ⟨_, _, rfl, q rfl _ [] (.fz (.int _))⟩
theorem ints?_eq : ∀ {xs : List D} {ns : List Int}, ints? xs = some ns → xs = ns.map D.int
  | [], _, h => by unfold ints? at h; cases h; rfl
  | .int i :: ds, _, h => by
    unfold ints? at h
    cases z : ints? ds with
    | none => rw [z] at h; cases h
    | some ns =>
      rw [z] at h
      cases h
      rw [ints?_eq z]
      rfl
  | .non :: _, _, h => by unfold ints? at h; cases h
  | .bl _ :: _, _, h => by unfold ints? at h; cases h
  | .str _ :: _, _, h => by unfold ints? at h; cases h
  | .tup _ :: _, _, h => by unfold ints? at h; cases h
  | .lst _ _ :: _, _, h => by unfold ints? at h; cases h
  | .dict _ _ _ _ :: _, _, h => by unfold ints? at h; cases h
  | .obj _ _ _ _ :: _, _, h => by unfold ints? at h; cases h
theorem bv_sum (hc : X.calm = true) (hK : X.K = C.K) : CallR X (.builtin "sum") (rOp C .sum) := by
  refine CallR.imp (cr_sum hc) fun xs H Q h => ?_
  obtain ⟨I, d1, x, d, F, rfl, s, r1, e, q, _⟩ := rOp_one rfl (fun _ _ _ => rfl) h
  replace e : opSum d1 = some d := e
  unfold opSum at e
  split at e
  · split at e
    · cases e
    · rename_i m xs hm
      split at e
      · rename_i ns hn
        cases e
        obtain ⟨b, vs, rfl, hs, hl, hg, hr⟩ := r1.lst s
        have t := hr hm
        rw [ints?_eq hn] at t
        rw [t.ints] at hs
        exact ⟨b, ns, rfl, by rw [hK]; exact hs, q rfl _ [] (.fz (.int _))⟩
      · cases e
  · cases e
theorem bv_count (hK : X.K = C.K) : MtR X "list.count" (fun x xs => rOp C .count (x :: xs)) := by
  refine MtR.imp mt_lcount fun x xs H Q h => ?_
  obtain ⟨I, d1, d2, x', y, d, F, G, ex, s, r1, r2, e, q, _⟩ := rOp_two rfl (fun _ => rfl) (fun _ _ _ _ => rfl) h
  injection ex with ex1 ex2
  subst ex1 ex2
  replace e : opCount d1 d2 = some d := e
  unfold opCount at e
  split at e
  · split at e
    · cases e
    · rename_i m xs k hm
      split at e
      · rename_i ns hn
        cases e
        obtain ⟨b, vs, rfl, hs, hl, hg, hr⟩ := r1.lst s
        have t := hr hm
        rw [ints?_eq hn] at t
        rw [t.ints] at hs
        exact ⟨b, ns, k, rfl, by rw [r2.int], by rw [hK]; exact hs, q rfl _ [] (.fz (.int _))⟩
      · cases e
  · cases e

/-! ### types -/
theorem Rp.ty {I H : Hp} {d : D} {v : V} {F : List Addr} (s : Same I H) (h : Rp C I H d v F) : (∃ c, tyD d = some (.own c)) ∨ ∃ t, TyX C.K H v (.type t) ∧ t = match tyD d with
    | some .bool => "bool" | some .int => "int" | some .str => "str" | some .list => "list" | some .tuple => "tuple" | some .dict => "dict" | _ => "NoneType" := by
  have seqL : ∀ {a : Addr} {xs : List V}, SqL C.K H a xs → TyX C.K H (.ref a) (.type "list") := fun {a xs} h => by
    rcases h with (h | ⟨o, h⟩) | ⟨o, its, n, h, hc, _⟩
    · exact .base (.lst h)
    · exact .base (.frz h)
    · exact .kList h hc
  have seqT : ∀ {a : Addr} {xs : List V}, SqT C.K H a xs → TyX C.K H (.ref a) (.type "tuple") := fun {a xs} h => by
    rcases h with (h | ⟨o, h⟩) | ⟨o, its, n, h, hc, _⟩
    · exact .base (.tup h)
    · exact .fTuple h
    · exact .kTuple h hc
  cases h with
  | fz r =>
    cases r with
    | non => exact .inr ⟨_, .base .non, rfl⟩
    | bl b => exact .inr ⟨_, .base (.bl b), rfl⟩
    | int i => exact .inr ⟨_, .base (.int i), rfl⟩
    | str x => exact .inr ⟨_, .base (.str x), rfl⟩
    | tup e t => exact .inr ⟨_, seqT (Same.seqT s e), rfl⟩
    | lst e t => exact .inr ⟨_, seqL (.inl (Same.rd s e)), rfl⟩
    | lstK e t => exact .inr ⟨_, seqL (Same.seq s e), rfl⟩
    | dK e _ t =>
      refine .inr ⟨_, ?_, rfl⟩
      rcases Same.rd s e with e | ⟨o, e⟩
      · exact .base (.dK e)
      · exact .fDict e
    | dT e _ t => exact .inr ⟨_, .base (.dT (s _ _ e)), rfl⟩
    | obj e t => exact .inl ⟨_, rfl⟩
  | lstO e n t => exact .inr ⟨_, .base (.lst e), rfl⟩
  | lstD e n t na => exact .inr ⟨_, .base (.lst e), rfl⟩
  | dKO e => exact .inr ⟨_, .base (.dK e), rfl⟩
  | dKD e => exact .inr ⟨_, .base (.dK e), rfl⟩
  | dTO e => exact .inr ⟨_, .base (.dT e), rfl⟩
  | dTD e => exact .inr ⟨_, .base (.dT e), rfl⟩
  | objD e => exact .inl ⟨_, rfl⟩
/-- isinstance(x, int), isinstance(x, bool), not of an own object -/
theorem bv_isi {t : Ty} {T : String} (ht : (t = .int ∧ T = "int") ∨ (t = .bool ∧ T = "bool")) (hK : X.K = C.K) : CallR X (.builtin "isinstance") (fun xs H Q => ∃ x, xs = [x, .ty T] ∧ rOp C (.isi t) [x] H Q) := by
  refine CallR.imp call_isi fun xs H Q h => ?_
  obtain ⟨x, rfl, I, ds, d, s, a, e, q, _⟩ := h
  obtain ⟨d1, F, rfl, r1⟩ := a.one
  replace e : (match tyD d1 with | some (.own _) => none | _ => some (D.bl (isiD d1 t))) = some d := e
  rcases r1.ty s with ⟨c, ec⟩ | ⟨T', tx, et⟩
  · rw [ec] at e; cases e
  · have nd : ∀ c, tyD d1 ≠ some (.own c) := fun c z => by rw [z] at e; cases e
    have e' : D.bl (isiD d1 t) = d := by
      cases z : tyD d1 with
      | none => rw [z] at e; exact Option.some.inj e
      | some u => rw [z] at e; cases u <;> first | (exact Option.some.inj e) | cases e
    subst e'
    refine ⟨x, .ty T, .type T', .type T, isiD d1 t, rfl, .ty T, by rw [hK]; exact tx, ?_, q rfl _ [] (.fz (.bl _))⟩
    apply kit_ty
    subst et
    unfold isiD
    rcases ht with ⟨rfl, rfl⟩ | ⟨rfl, rfl⟩
    · cases z : tyD d1 with
      | none => decide +kernel
      | some u => cases u <;> first | (exact absurd z (nd _)) | decide +kernel
    · cases z : tyD d1 with
      | none => decide +kernel
      | some u => cases u <;> first | (exact absurd z (nd _)) | decide +kernel
end
end Kw

set_option maxRecDepth 100000
set_option maxHeartbeats 4000000
/-! Kw4: which text of the row an X is, and that it comes to what evX says. -/
namespace Kw
open PySem L2

/-- where a text stands: names by slot, unshadowed built-in names, defs by number -/
structure Wh where
  N : List Str
  B : List Str
  fns : List Str
  gi : List (Str × Int) := []
  gs : List (Str × Str) := []
def visB (sc : Scope) (n : Str) : Bool := match sc.names.lookup n with
  | some .local => true
  | some .cell => true
  | some .free => true
  | _ => false
def locB (sc : Scope) (n : Str) : Bool := match sc.names.lookup n with
  | some .local => true
  | some .cell => true
  | _ => false
def glB (sc : Scope) (n : Str) : Bool := match sc.names.lookup n with
  | some .globalImplicit => true
  | _ => false
def odd (n : Str) : Bool := n == ("__debug__" : Str) || n == ("__classdict__" : Str) || n == ("__name__" : Str)
def nameOk (W : Wh) (sc : Scope) (i : Nat) (n : Str) : Bool := decide (W.N[i]? = some n) && visB sc n && !odd n
def bltOk (W : Wh) (sc : Scope) (n : Str) : Bool := decide (n ∈ W.B) && glB sc n && !odd n

structure XOk (C : KC) (W : Wh) (sc : Scope) (X : Cx) : Prop where
  hN : X.N = W.N
  nd : W.N.Nodup
  hK : X.K = C.K
  calm : X.calm = true
  xe : X.xe = fun _ _ => False
  kind : X.env.scope.kind = .function
  lc : ∀ x, sc.names.lookup x = some .local → X.env.scope.names.lookup x = some .local
  ce : ∀ x, sc.names.lookup x = some .cell → X.env.scope.names.lookup x = some .cell ∧ X.fn x = true
  fr : ∀ x, sc.names.lookup x = some .free → X.env.scope.names.lookup x = some .cell ∨ X.env.scope.names.lookup x = some .free
  gl : ∀ x, sc.names.lookup x = some .globalImplicit → Gl X x
  blt : ∀ x ∈ W.B, X.mg x = none
  hu : X.A.units + 64 < cLine
  gi : ∀ n i, (n, i) ∈ W.gi → ∃ u, X.mg n = some u ∧ RelV (.int i) u
  gs : ∀ n x, (n, x) ∈ W.gs → ∃ u, X.mg n = some u ∧ RelV (.str x) u
section
variable {C : KC} {W : Wh} {sc : Scope} {X : Cx} {n : Str}
theorem XOk.vis (h : XOk C W sc X) (e : visB sc n = true) : Vis X.env.scope n := by
  unfold visB at e
  split at e
  · rename_i q; exact .inl (h.lc _ q)
  · rename_i q; exact .inr (.inl (h.ce _ q).1)
  · rename_i q
    rcases h.fr _ q with z | z
    · exact .inr (.inl z)
    · exact .inr (.inr z)
  · cases e
theorem XOk.glo (h : XOk C W sc X) (e : glB sc n = true) : Gl X n := by
  unfold glB at e
  split at e
  · rename_i q; exact h.gl _ q
  · cases e
theorem odd_no (h : (!odd n) = true) : (n == ("__debug__" : Str)) = false ∧ (n == ("__classdict__" : Str)) = false ∧ n ≠ "__name__" := by
  unfold odd at h
  simp only [Bool.not_eq_true', Bool.or_eq_false_iff] at h
  exact ⟨h.1.1, h.1.2, by intro e; subst e; exact absurd h.2 (by simp)⟩
end

/-! ### the forms of operations -/
inductive Sh where
  | bin (o : Operator)
  | cmp (o : CmpOp)
  | neg
  | ix
  | isN (b : Bool)
  | blt (n : Str) (id : String)
  | ty (n : Str) (t : String)
  | mth (T : String) (n : Str) (id : String)
  | isi (n : Str)
  | sset
  | no
def shOf : Op → Sh
  | .add => .bin .Add
  | .sub => .bin .Sub
  | .mul => .bin .Mult
  | .fdiv => .bin .FloorDiv
  | .mod => .bin .Mod
  | .pow => .bin .Pow
  | .neg => .neg
  | .eq => .cmp .Eq
  | .ne => .cmp .NotEq
  | .lt => .cmp .Lt
  | .le => .cmp .LtE
  | .gt => .cmp .Gt
  | .ge => .cmp .GtE
  | .ix => .ix
  | .len => .blt "len" "len"
  | .abs => .blt "abs" "abs"
  | .int => .ty "int" "int"
  | .min2 => .blt "min" "min"
  | .max2 => .blt "max" "max"
  | .sum => .blt "sum" "sum"
  | .count => .mth "list" "count" "list.count"
  | .isi .int => .isi "int"
  | .isi .bool => .isi "bool"
  | .cat => .bin .Add
  | .rep => .bin .Mult
  | .sset => .sset
  | _ => .no
/-- an expression that may be an argument, an index, a receiver -/
def plainE : Expr → Bool
  | .Starred _ _ => false
  | .Slice _ _ _ _ => false
  | .Call (.Name id _) [] [] _ => id != ("super" : Str)
  | _ => true
def plainEs (es : List Expr) : Bool := es.all plainE
/-- what an operation's text has as arguments -/
def argsOf (W : Wh) (sc : Scope) (p : Op) (x : Expr) : Option (List Expr) :=
  match shOf p, x with
  | .bin o, .BinOp a o' b _ => if o = o' ∧ plainEs [a, b] = true then some [a, b] else none
  | .cmp o, .Compare a [o'] [b] _ => if o = o' ∧ behindInMarks o b = false ∧ plainEs [a, b] = true then some [a, b] else none
  | .neg, .UnaryOp .USub a _ => if plainEs [a] = true then some [a] else none
  | .ix, .Subscript a b _ => if plainEs [a, b] = true then some [a, b] else none
  | .blt n _, .Call (.Name n' _) es [] _ => if n = n' ∧ bltOk W sc n = true ∧ plainEs es = true ∧ es ≠ [] then some es else none
  | .ty n _, .Call (.Name n' _) es [] _ => if n = n' ∧ bltOk W sc n = true ∧ plainEs es = true ∧ es ≠ [] then some es else none
  | .mth _ n _, .Call (.Attribute o n' apos) es [] cpos => if n = n' ∧ plainEs (o :: es) = true ∧ (apos.endLine == cpos.line) = true ∧ es.length < 20 then some (o :: es) else none
  | .isi t, .Call (.Name n' _) [a, .Name t' _] [] _ => if n' = "isinstance" ∧ t = t' ∧ bltOk W sc "isinstance" = true ∧ bltOk W sc t = true ∧ plainEs [a] = true then some [a] else none
  | .sset, .Call (.Name n1 _) [.Call (.Name n2 _) [a] [] _] [] _ => if n1 = "sorted" ∧ n2 = "set" ∧ bltOk W sc "sorted" = true ∧ bltOk W sc "set" = true ∧ plainEs [a] = true then some [a] else none
  | _, _ => none

/-- what may stand as a test -/
def testX : X → Bool
  | .op _ _ => true
  | .v _ => true
  | .chain _ _ _ _ _ => true
  | _ => false
/-- comparisons of a chain -/
def ordOp : Op → Bool
  | .lt | .le | .gt | .ge | .eq | .ne => true
  | _ => false
section
variable (W : Wh) (sc : Scope)
mutual
def okX : X → Expr → Bool
  | .c d, x => match d, x with
    | .int i, .Constant (.int j) _ _ => decide (i = j)
    | .bl b, .Constant (.bool c) _ _ => b == c
    | .non, .Constant .none _ _ => true
    | .str s, .Constant (.str t) _ _ => decide (s = t)
    | .int i, .Name n _ => decide ((n, i) ∈ W.gi) && glB sc n && !odd n
    | .str s, .Name n _ => decide ((n, s) ∈ W.gs) && glB sc n && !odd n
    | _, _ => false
  | .v i, x => match x with
    | .Name n _ => nameOk W sc i n
    | _ => false
  | .op p as, x => p.pure && match argsOf W sc p x with
    | some es => okXs as es
    | none => false
  | .bool w as, x => match x with
    | .BoolOp o es _ => (match o, w with | .And, true => true | .Or, false => true | _, _ => false) && okXs as es
    | _ => false
  | .not_ a, x => match x with
    | .UnaryOp .Not b _ => okX a b
    | _ => false
  | .ife t a b, x => match x with
    | .IfExp t' a' b' _ => testX t && okX t t' && okX a a' && okX b b'
    | _ => false
  | .chain p q a b c, x => match x with
    | .Compare a' [o1, o2] [b', c'] _ => okX a a' && okX b b' && okX c c' && (match shOf p, shOf q with
      | .cmp o, .cmp o' => decide (o = o1) && decide (o' = o2) && !behindInMarks o1 b' && !behindInMarks o2 c' && ordOp p && ordOp q
      | _, _ => false)
    | _ => false
def okXs : List X → List Expr → Bool
  | [], [] => true
  | a :: as, e :: es => okX a e && okXs as es
  | _, _ => false
end
end

theorem PE.imp {X : Cx} {e : Expr} {t t' : TE} (h : PE X e t) (k : ∀ σ H Q, t' σ H Q → t σ H Q) : PE X e t' := ⟨fun pins s σ H Q I q => h.run pins s σ H Q I (k σ H Q q)⟩
theorem PT.imp {X : Cx} {e : Expr} {t t' : TT} (h : PT X e t) (k : ∀ σ H Q, t' σ H Q → t σ H Q) : PT X e t' := ⟨fun pins s σ H Q I q => h.run pins s σ H Q I (k σ H Q q)⟩
theorem PA.imp {X : Cx} {e : List Expr} {t t' : TA} (h : PA X e t) (k : ∀ σ H Q, t' σ H Q → t σ H Q) : PA X e t' := ⟨fun pos pins s σ H Q I q => h.run pos pins s σ H Q I (k σ H Q q)⟩

/-- what an X's text does: nothing changes -/
def tX (C : KC) (f : Nv → Option D) : TE := fun σ H Q => ∃ ρ I Fs d, StOk C I H σ ρ Fs ∧ f ρ = some d ∧ ∀ v F, Rp C I H d v F → Q v H
def tXs (C : KC) (f : Nv → Option (List D)) : TA := fun σ H Q => ∃ ρ I Fs ds, StOk C I H σ ρ Fs ∧ f ρ = some ds ∧ ∀ vs, As C I H ds vs → Q vs H

section
variable {C : KC} {W : Wh} {sc : Scope} {X : Cx}
theorem starEach_plain {e : Expr} {es : List Expr} {env : PySem.Env} (h : plainE e = true) : starEach (e :: es) env = (false, eval e env) :: starEach es env := by
  cases e <;> first | rfl | (exact absurd h (by simp [plainE]))
theorem backTo_plain {pos : Pos} {env : PySem.Env} : ∀ {es : List Expr}, plainEs es = true → (backTo pos (starEach es env)).any (·.1) = false
  | [], _ => rfl
  | e :: es, h => by
    unfold plainEs at h
    rw [List.all_cons, Bool.and_eq_true] at h
    have ih := backTo_plain (pos := pos) (env := env) (es := es) h.2
    rw [starEach_plain h.1]
    unfold backTo at ih ⊢
    simp only [List.map_cons, List.any_cons, Bool.false_or]
    exact ih
theorem attr_plain {e : Expr} {f : Str} {env : PySem.Env} (h : plainE e = true) : attributeBase e f env (eval e env) = eval e env := by
  unfold attributeBase
  split
  · rename_i id p1 p2
    have h' : (id != ("super" : Str)) = true := h
    have : (id != "super" || f == "__class__" || env.kindOf "super" != some .globalImplicit || env.kindOf "__class__" != some .free) = true := by
      rw [Bool.or_eq_true, Bool.or_eq_true, Bool.or_eq_true]
      exact .inl (.inl (.inl h'))
    rw [if_pos this]
  · rfl
theorem plainIx_plain {e : Expr} (h : plainE e = true) : PlainIx e := by
  intro o i
  cases e <;> first | rfl | (exact absurd h (by simp [plainE]))

theorem pa_tXs {es : List Expr} : ∀ {as : List Kw.X}, plainEs es = true → okXs W sc as es = true → (∀ a ∈ as, ∀ e, okX W sc a e = true → PE X e (tX C (evX a))) → PA X es (tXs C (evXs as)) := by
  induction es with
  | nil =>
    intro as _ ho _
    cases as with
    | cons a as => simp [okXs] at ho
    | nil =>
      refine PA.imp pa_nil fun σ H Q h => ?_
      obtain ⟨ρ, I, Fs, ds, st, e, q⟩ := h
      unfold evXs at e
      cases e
      exact q [] .nil
  | cons e es ih =>
    intro as hp ho ih'
    cases as with
    | nil => simp [okXs] at ho
    | cons a as =>
      unfold okXs at ho
      rw [Bool.and_eq_true] at ho
      unfold plainEs at hp
      rw [List.all_cons, Bool.and_eq_true] at hp
      have h1 := ih' a List.mem_cons_self e ho.1
      have h2 := ih (as := as) hp.2 ho.2 fun b hb => ih' b (List.mem_cons_of_mem _ hb)
      refine PA.imp (pa_cons h1 h2 (starEach_plain hp.1)) fun σ H Q h => ?_
      obtain ⟨ρ, I, Fs, ds, st, e, q⟩ := h
      unfold evXs at e
      cases z : evX a ρ with
      | none => rw [z] at e; cases e
      | some d =>
        cases z2 : evXs as ρ with
        | none => rw [z, z2] at e; cases e
        | some ds' =>
          rw [z, z2] at e
          cases e
          exact ⟨ρ, I, Fs, d, st, z, fun v F r => ⟨ρ, I, Fs, ds', st, z2, fun vs rs => q (v :: vs) (.cons r rs)⟩⟩
/-- an operation of two -/
theorem x_two {p : Op} {a b : Kw.X} {ea eb : Expr} (hp : p.pure = true) {T : TE} (ha : PE X ea (tX C (evX a))) (hb : PE X eb (tX C (evX b))) {e : Expr}
    (h : PE X e (tOp (fun x y => rOp C p [x, y]) (tX C (evX a)) (tX C (evX b)))) : PE X e (tX C (evX (.op p [a, b]))) := by
  refine PE.imp h fun σ H Q h => ?_
  obtain ⟨ρ, I, Fs, d, st, e, q⟩ := h
  unfold evX at e
  rw [if_pos hp] at e
  unfold evXs evXs evXs at e
  cases z : evX a ρ with
  | none => rw [z] at e; cases e
  | some d1 =>
    cases z2 : evX b ρ with
    | none => rw [z, z2] at e; cases e
    | some d2 =>
      rw [z, z2] at e
      replace e : opD p [d1, d2] = some d := e
      exact ⟨ρ, I, Fs, d1, st, z, fun v F r => ⟨ρ, I, Fs, d2, st, z2, fun u G r2 => ⟨I, [d1, d2], d, st.same, .cons r (.cons r2 .nil), e, fun _ => q, fun z => by rw [hp] at z; cases z⟩⟩⟩

theorem bv_bin {p : Op} {o : Operator} (hs : shOf p = .bin o) : (p.pure = true → OpR X (binaryOp o) (fun x y => rOp C p [x, y])) := by
  intro hp
  cases p <;> first | (cases hs; done) | (cases hp; done) | skip
  all_goals first
    | (injection hs with hs; subst hs; first | exact bv_add | exact bv_sub | exact bv_mul | exact bv_fdiv | exact bv_mod | exact bv_pow)
    | (exfalso; simp [shOf] at hs; done)
    | (exfalso; simp [Op.pure] at hp; done)
    | (rename_i t; cases t <;> simp [shOf] at hs)
theorem bv_cmp (h : XOk C W sc X) {p : Op} {o : CmpOp} (hs : shOf p = .cmp o) : OpR X (compareOp o) (fun x y => rOp C p [x, y]) := by
  cases p <;> first
    | (injection hs with hs; subst hs; first | exact bv_eq h.hu h.hK | exact bv_ne h.hu h.hK | exact bv_lt | exact bv_le | exact bv_gt | exact bv_ge)
    | (exfalso; simp [shOf] at hs; done)
    | (rename_i t; cases t <;> simp [shOf] at hs)
theorem bv_blt (h : XOk C W sc X) {p : Op} {n : Str} {id : String} (hs : shOf p = .blt n id) : CallR X (.builtin id) (rOp C p) ∧ bootBuiltins n = some (.builtin id) := by
  cases p <;> first
    | (injection hs with hs hs2; subst hs hs2; first | exact ⟨bv_len h.hK, by decide +kernel⟩ | exact ⟨bv_abs, by decide +kernel⟩ | exact ⟨bv_min2 h.calm, by decide +kernel⟩ | exact ⟨bv_max2 h.calm, by decide +kernel⟩ | exact ⟨bv_sum h.calm h.hK, by decide +kernel⟩)
    | (exfalso; simp [shOf] at hs; done)
    | (rename_i t; cases t <;> simp [shOf] at hs)
theorem bv_ty (h : XOk C W sc X) {p : Op} {n : Str} {t : String} (hs : shOf p = .ty n t) : CallR X (.type t) (rOp C p) ∧ bootBuiltins n = some (.type t) := by
  cases p <;> first
    | (injection hs with hs hs2; subst hs hs2; first | exact ⟨bv_int, by decide +kernel⟩)
    | (exfalso; simp [shOf] at hs; done)
    | (rename_i t; cases t <;> simp [shOf] at hs)
/-- a method of a built-in type -/
theorem bv_mth (h : XOk C W sc X) {p : Op} {T : String} {n : Str} {id : String} (hs : shOf p = .mth T n id) : MtR X id (fun x xs => rOp C p (x :: xs)) ∧ PySem.PlainAttrs T ∧ PySem.Slot T n id ∧ typeOf (.builtin id) = pure (.type "method_descriptor") ∧
    ∀ (I H : Hp) (d : D) (ds : List D) (v : V) (F : List Addr) (r : D), Same I H → Rp C I H d v F → opD p (d :: ds) = some r → tyV C.K T v H := by
  have lst : ∀ {I H : Hp} {m : Md} {xs : List D} {v : V} {F : List Addr}, Same I H → Rp C I H (.lst m xs) v F → tyV C.K "list" v H := fun {I H m xs v F} s r => by
    obtain ⟨a, vs, rfl, hs, _⟩ := r.lst s
    exact .inl ⟨rfl, _, hs⟩
  cases p <;> first
    | (injection hs with hs hs2 hs3; subst hs hs2 hs3; skip)
    | (exfalso; simp [shOf] at hs; done)
    | (rename_i t; cases t <;> simp [shOf] at hs)
  refine ⟨bv_count h.hK, PySem.F.plainAttrs_list, PySem.F.slot_list_count, PySem.F.type_list_count, fun I H d ds v F r s rp e => ?_⟩
  cases d <;> first
    | exact lst s rp
    | (exfalso; cases ds with
      | nil => cases e
      | cons b ds => cases ds with
        | nil => cases e
        | cons => cases e)
/-- an operation's text -/
theorem pe_op_of (h : XOk C W sc X) {p : Op} (hp : p.pure = true) {x : Expr} {es : List Expr} (ha : argsOf W sc p x = some es) {as : List Kw.X} (ho : okXs W sc as es = true)
    (ih : ∀ a ∈ as, ∀ e, okX W sc a e = true → PE X e (tX C (evX a))) : PE X x (tX C (evX (.op p as))) := by
  have two : ∀ {e1 e2 : Expr}, es = [e1, e2] → ∃ a b, as = [a, b] ∧ okX W sc a e1 = true ∧ okX W sc b e2 = true := fun {e1 e2} q => by
    subst q
    cases as with
    | nil => simp [okXs] at ho
    | cons a as =>
      cases as with
      | nil => simp [okXs] at ho
      | cons b as =>
        cases as with
        | nil =>
          simp only [okXs, Bool.and_eq_true, Bool.and_true] at ho
          exact ⟨a, b, rfl, ho.1, ho.2⟩
        | cons => simp [okXs] at ho
  have one : ∀ {e1 : Expr}, es = [e1] → ∃ a, as = [a] ∧ okX W sc a e1 = true := fun {e1} q => by
    subst q
    cases as with
    | nil => simp [okXs] at ho
    | cons a as =>
      cases as with
      | nil =>
        simp only [okXs, Bool.and_true] at ho
        exact ⟨a, rfl, ho⟩
      | cons => simp [okXs] at ho
  -- what evX says of one
  have ev1 : ∀ {a : Kw.X} {ρ : Nv} {d : D}, evX (.op p [a]) ρ = some d → ∃ d1, evX a ρ = some d1 ∧ opD p [d1] = some d := fun {a ρ d} e => by
    unfold evX at e
    rw [if_pos hp] at e
    unfold evXs evXs at e
    cases z : evX a ρ with
    | none => rw [z] at e; cases e
    | some d1 => rw [z] at e; exact ⟨d1, rfl, e⟩
  have many : ∀ {ρ : Nv} {d : D}, evX (.op p as) ρ = some d → ∃ ds, evXs as ρ = some ds ∧ opD p ds = some d := fun {ρ d} e => by
    unfold evX at e
    rw [if_pos hp] at e
    cases z : evXs as ρ with
    | none => rw [z] at e; cases e
    | some ds => rw [z] at e; exact ⟨ds, rfl, e⟩
  have tXs_rOp : ∀ (t : TA), PA X es (tXs C (evXs as)) → ∀ σ H Q, tX C (evX (.op p as)) σ H Q → tCB (rOp C p) (tXs C (evXs as)) σ H Q := fun _ _ σ H Q q => by
    obtain ⟨ρ, I, Fs, d, st, e, q⟩ := q
    obtain ⟨ds, e1, e2⟩ := many e
    exact ⟨ρ, I, Fs, ds, st, e1, fun vs rs => ⟨I, ds, d, st.same, rs, e2, fun _ => q, fun z => by rw [hp] at z; cases z⟩⟩
  unfold argsOf at ha
  split at ha
  · rename_i o a o' b pos hs
    split at ha <;> cases ha
    rename_i hc
    obtain ⟨rfl, hpl⟩ := hc
    obtain ⟨ma, mb, rfl, oa, ob⟩ := two rfl
    have ia := ih ma (by simp) a oa
    have ib := ih mb (by simp) b ob
    exact x_two hp (T := fun _ _ _ => True) ia ib (pe_op (bv_bin hs hp) ia ib)
  · rename_i o a o' b pos hs
    split at ha <;> cases ha
    rename_i hc
    obtain ⟨rfl, hm, hpl⟩ := hc
    obtain ⟨ma, mb, rfl, oa, ob⟩ := two rfl
    have ia := ih ma (by simp) a oa
    have ib := ih mb (by simp) b ob
    exact x_two hp (T := fun _ _ _ => True) ia ib (pe_cmpR (bv_cmp h hs) ia ib hm)
  · rename_i a pos hs
    split at ha <;> cases ha
    obtain ⟨ma, rfl, oa⟩ := one rfl
    have ia := ih ma (by simp) a oa
    have hp' : p = .neg := by cases p <;> first | rfl | (exfalso; simp [shOf] at hs; done) | (rename_i t; cases t <;> simp [shOf] at hs)
    subst hp'
    refine PE.imp (pe_un (bv_neg (C := C)) ia) fun σ H Q q => ?_
    obtain ⟨ρ, I, Fs, d, st, e, q⟩ := q
    obtain ⟨d1, e1, e2⟩ := ev1 e
    exact ⟨ρ, I, Fs, d1, st, e1, fun v F r => ⟨I, [d1], d, st.same, .cons r .nil, e2, fun _ => q, fun z => by cases z⟩⟩
  · rename_i a b pos hs
    split at ha <;> cases ha
    rename_i hc
    unfold plainEs at hc
    simp only [List.all_cons, List.all_nil, Bool.and_eq_true, Bool.and_true] at hc
    obtain ⟨ma, mb, rfl, oa, ob⟩ := two rfl
    have ia := ih ma (by simp) a oa
    have ib := ih mb (by simp) b ob
    have hp' : p = .ix := by cases p <;> first | rfl | (exfalso; simp [shOf] at hs; done) | (rename_i t; cases t <;> simp [shOf] at hs)
    subst hp'
    exact x_two hp (T := fun _ _ _ => True) ia ib (pe_ix (bv_ix h.hK) ia ib (plainIx_plain hc.2))
  · rename_i n id n' np es' pos hs
    split at ha <;> cases ha
    rename_i hc
    obtain ⟨rfl, hb, hpl, hne⟩ := hc
    unfold bltOk at hb
    simp only [Bool.and_eq_true, decide_eq_true_eq] at hb
    obtain ⟨⟨hB, hg⟩, hd⟩ := hb
    obtain ⟨d1, d2, d3⟩ := odd_no hd
    obtain ⟨hr, hv⟩ := bv_blt h hs
    have pa := pa_tXs (X := X) (C := C) hpl ho ih
    match es, hne, hpl, pa with
    | e :: er, _, hpl, pa =>
      have hpl' := hpl
      unfold plainEs at hpl'
      rw [List.all_cons, Bool.and_eq_true] at hpl'
      exact PE.imp (pe_callB hr (h.glo hg) (h.blt _ hB) hv pa d3 d1 (starEach_plain hpl'.1) (backTo_plain hpl'.2)) (tXs_rOp (tXs C (evXs as)) pa)
  · rename_i n id n' np es' pos hs
    split at ha <;> cases ha
    rename_i hc
    obtain ⟨rfl, hb, hpl, hne⟩ := hc
    unfold bltOk at hb
    simp only [Bool.and_eq_true, decide_eq_true_eq] at hb
    obtain ⟨⟨hB, hg⟩, hd⟩ := hb
    obtain ⟨d1, d2, d3⟩ := odd_no hd
    obtain ⟨hr, hv⟩ := bv_ty h hs
    have pa := pa_tXs (X := X) (C := C) hpl ho ih
    match es, hne, hpl, pa with
    | e :: er, _, hpl, pa =>
      have hpl' := hpl
      unfold plainEs at hpl'
      rw [List.all_cons, Bool.and_eq_true] at hpl'
      exact PE.imp (pe_callTy hr (h.glo hg) (h.blt _ hB) hv pa d3 d1 (starEach_plain hpl'.1) (backTo_plain hpl'.2)) (tXs_rOp (tXs C (evXs as)) pa)
  · rename_i T n id o n' apos es' cpos hs
    split at ha <;> cases ha
    rename_i hc
    obtain ⟨rfl, hpl, hln, hlt⟩ := hc
    obtain ⟨hm, pA, sl, tyo, tyv⟩ := bv_mth h hs
    unfold plainEs at hpl
    rw [List.all_cons, Bool.and_eq_true] at hpl
    cases as with
    | nil => simp [okXs] at ho
    | cons ma as =>
      unfold okXs at ho
      rw [Bool.and_eq_true] at ho
      have io := ih ma List.mem_cons_self o ho.1
      have pa := pa_tXs (X := X) (C := C) (es := es') (as := as) hpl.2 ho.2 fun b hb => ih b (List.mem_cons_of_mem _ hb)
      have split2 : ∀ {ρ : Nv} {d : D}, evX (.op p (ma :: as)) ρ = some d → ∃ d1 ds, evX ma ρ = some d1 ∧ evXs as ρ = some ds ∧ opD p (d1 :: ds) = some d := fun {ρ d} e => by
        obtain ⟨ds, e1, e2⟩ := many e
        unfold evXs at e1
        cases z : evX ma ρ with
        | none => rw [z] at e1; cases e1
        | some d1 =>
          cases z2 : evXs as ρ with
          | none => rw [z, z2] at e1; cases e1
          | some ds' => rw [z, z2] at e1; cases e1; exact ⟨d1, ds', rfl, rfl, e2⟩
      cases es' with
      | nil =>
        refine PE.imp (pe_bm0 pA sl tyo hm io (attr_plain hpl.1) hln) fun σ H Q q => ?_
        obtain ⟨ρ, I, Fs, d, st, e, q⟩ := q
        obtain ⟨d1, ds, e1, e2, e3⟩ := split2 e
        refine ⟨ρ, I, Fs, d1, st, e1, fun v F r => ⟨by rw [h.hK]; exact tyv I H d1 ds v F d st.same r e3, I, d1 :: ds, d, st.same, .cons r ?_, e3, fun _ => q, fun z => by rw [hp] at z; cases z⟩⟩
        cases as with
        | nil => unfold evXs at e2; cases e2; exact .nil
        | cons => simp [okXs] at ho
      | cons e1' er =>
        have hplr := hpl.2
        rw [List.all_cons, Bool.and_eq_true] at hplr
        have few : ((backTo cpos (starEach (e1' :: er) X.env)).all (fun x => !x.1) && (backToKw cpos (keywordEach [] X.env)).all (fun x => x.1.isSome)
            && decide ((e1' :: er).length + ([] : List Keyword).length + (if ([] : List Keyword).isEmpty then 0 else 1) < 30)) = true := by
          have b1 := backTo_plain (pos := cpos) (env := X.env) (es := e1' :: er) hpl.2
          have b2 : (backTo cpos (starEach (e1' :: er) X.env)).all (fun x => !x.1) = true := by
            rw [List.all_eq_not_any_not]
            simp only [Bool.not_not]
            rw [b1]
            rfl
          rw [b2]
          have : (e1' :: er).length + ([] : List Keyword).length + (if ([] : List Keyword).isEmpty then 0 else 1) < 30 := by
            simp only [List.length_nil, List.isEmpty_nil, if_true]
            omega
          rw [decide_eq_true this]
          rfl
        refine PE.imp (pe_bm pA sl tyo hm io pa (attr_plain hpl.1) few hln (starEach_plain hplr.1) (backTo_plain hplr.2)) fun σ H Q q => ?_
        obtain ⟨ρ, I, Fs, d, st, e, q⟩ := q
        obtain ⟨d1, ds, e1, e2, e3⟩ := split2 e
        exact ⟨ρ, I, Fs, d1, st, e1, fun v F r => ⟨by rw [h.hK]; exact tyv I H d1 ds v F d st.same r e3, ρ, I, Fs, ds, st, e2, fun vs rs => ⟨I, d1 :: ds, d, st.same, .cons r rs, e3, fun _ => q, fun z => by rw [hp] at z; cases z⟩⟩⟩
  · rename_i t n' np a t' tp pos hs
    split at ha <;> cases ha
    rename_i hc
    obtain ⟨rfl, rfl, hb, hb2, hpl⟩ := hc
    unfold bltOk at hb hb2
    simp only [Bool.and_eq_true, decide_eq_true_eq] at hb hb2
    obtain ⟨⟨hB, hg⟩, hd⟩ := hb
    obtain ⟨⟨hB2, hg2⟩, hd2⟩ := hb2
    obtain ⟨d1, d2, d3⟩ := odd_no hd2
    obtain ⟨ma, rfl, oa⟩ := one rfl
    have ia := ih ma (by simp) a oa
    unfold plainEs at hpl
    simp only [List.all_cons, List.all_nil, Bool.and_true] at hpl
    obtain ⟨ty, T, rfl, ht, hv⟩ : ∃ ty T, p = .isi ty ∧ ((ty = .int ∧ T = "int") ∨ (ty = .bool ∧ T = "bool")) ∧ bootBuiltins t = some (.type T) := by
      cases p <;> first
        | (exfalso; simp [shOf] at hs; done)
        | (rename_i u; cases u <;> first
            | (exfalso; simp [shOf] at hs; done)
            | (injection hs with hs; subst hs; first
                | exact ⟨_, "int", rfl, .inl ⟨rfl, rfl⟩, by decide +kernel⟩
                | exact ⟨_, "bool", rfl, .inr ⟨rfl, rfl⟩, by decide +kernel⟩))
    have pc : PE X (.Name t tp) (tC (.ty T)) := pe_bltn (h.glo hg2) (h.blt _ hB2) hv rfl d3 d1
    refine PE.imp (pe_callB (bv_isi (C := C) ht h.hK) (h.glo hg) (h.blt _ hB) (by decide +kernel) (pa_cons ia (pa_cons pc pa_nil (by rfl)) (starEach_plain hpl)) (by decide +kernel) (by decide +kernel) (starEach_plain hpl) (by rfl)) fun σ H Q q => ?_
    obtain ⟨ρ, I, Fs, d, st, e, q⟩ := q
    obtain ⟨d1, e1, e2⟩ := ev1 e
    exact ⟨ρ, I, Fs, d1, st, e1, fun v F r => ⟨v, rfl, I, [d1], d, st.same, .cons r .nil, e2, fun _ => q, fun z => by cases z⟩⟩
  · rename_i hs
    exfalso
    cases p <;> first | (simp [shOf] at hs; done) | (cases hp; done) | (rename_i t; cases t <;> simp [shOf] at hs)
  · cases ha

/-! ### truth -/
theorem bv_tru (hK : X.K = C.K) : TruR X (fun x H Q => ∃ I d F b, Same I H ∧ Rp C I H d x F ∧ truth d = some b ∧ Q b H) := by
  refine TruR.imp tru_ok fun x H Q h => ?_
  obtain ⟨I, d, F, b, s, r, e, q⟩ := h
  refine ⟨b, ?_, q⟩
  cases d with
  | non => rw [r.non]; cases e; rfl
  | bl c => rw [r.bl]; cases e; rfl
  | int i => rw [r.int]; cases e; rfl
  | str y =>
    rw [r.str]
    unfold truth at e
    simp only at e
    split at e
    · rename_i hy
      cases e
      exact ⟨by rw [← sz_line]; exact hy, rfl⟩
    · cases e
  | tup xs =>
    obtain ⟨a, vs, rfl, hs, t⟩ := r.tup s
    cases e
    refine .inr (.inl ⟨vs, by rw [hK]; exact hs, ?_⟩)
    have l := t.length
    cases xs <;> cases vs <;> first | rfl | (simp at l)
  | lst m xs =>
    obtain ⟨a, vs, rfl, hs, l, _⟩ := r.lst s
    cases e
    refine .inl ⟨vs, by rw [hK]; exact hs, ?_⟩
    cases xs <;> cases vs <;> first | rfl | (simp at l)
  | dict => cases e
  | obj => cases e
/-- a test's reading: nothing changes -/
def tXT (C : KC) (f : Nv → Option D) : TT := fun σ H Q => ∃ ρ I Fs d b, StOk C I H σ ρ Fs ∧ f ρ = some d ∧ truth d = some b ∧ Q b H
/-- an expression whose test is its value's truth -/
def truthE : Expr → Bool
  | .UnaryOp .Not _ _ => false
  | .BoolOp _ _ _ => false
  | .IfExp _ _ _ _ => false
  | .Compare _ _ _ _ => false
  | _ => true
theorem truthE_is {e : Expr} {env : PySem.Env} (h : truthE e = true) (whole : Sem Value) : isTrue e env whole = (do let v ← whole; standAt e.pos; holding [v] (truthy v)) := by
  cases e with
  | UnaryOp o a p => cases o <;> first | rfl | (exact absurd h (by simp [truthE]))
  | BoolOp => exact absurd h (by simp [truthE])
  | IfExp => exact absurd h (by simp [truthE])
  | Compare => exact absurd h (by simp [truthE])
  | _ => rfl
theorem pt_tX (hK : X.K = C.K) {e : Expr} {f : Nv → Option D} (h : PE X e (tX C f)) (ht : truthE e = true) : PT X e (tXT C f) := by
  refine ⟨fun pins s σ H Q I hw => ?_⟩
  obtain ⟨ρ, J, Fs, d, b, st, e1, e2, q⟩ := hw
  refine PyProof.Rows.isTrue_plain (thn (h.run pins s σ H (fun v H' => ∃ I d F b, Same I H' ∧ Rp C I H' d v F ∧ truth d = some b ∧ Q b H') I ⟨ρ, J, Fs, d, st, e1, fun v F r => ⟨J, d, F, b, st.same, r, e2, q⟩⟩) fun v s1 ⟨x, H1, I1, r1, q1⟩ => ?_) (truthE_is ht _)
  exact bv_tru hK pins s1 σ H1 x v Q I1 r1 q1

end
end Kw

set_option maxRecDepth 100000
set_option maxHeartbeats 4000000
/-! Kw5: X comes to what evX says. -/
namespace Kw
open PySem L2
section
variable {C : KC} {W : Wh} {sc : Scope} {X : Cx}
/-! ### X -/
/-- a comparison's value is a truth -/
theorem cmp_bl {p : Op} {o : CmpOp} (hs : shOf p = .cmp o) {a b d : D} (e : opD p [a, b] = some d) : ∃ r, d = .bl r := by
  have eq : ∀ {f : Bool → D}, (∀ r, ∃ k, f r = .bl k) → (eqD a b).map f = some d → ∃ r, d = .bl r := fun {f} hf e => by
    cases z : eqD a b with
    | none => rw [z] at e; cases e
    | some r =>
      rw [z] at e
      obtain ⟨k, hk⟩ := hf r
      exact ⟨k, (Option.some.inj e).symm.trans hk⟩
  have cm : ∀ {g : Int → Int → Bool}, opCmp g a b = some d → ∃ r, d = .bl r := fun {g} e => by
    unfold opCmp at e
    split at e <;> cases e
    exact ⟨_, rfl⟩
  cases p <;> first
    | exact eq (fun r => ⟨_, rfl⟩) e
    | exact cm e
    | (exfalso; simp [shOf] at hs; done)
    | (rename_i t; cases t <;> simp [shOf] at hs)
theorem chain_ev {p q : Op} {a b c : Kw.X} {ρ : Nv} {d : D} (e : evX (.chain p q a b c) ρ = some d) : ∃ x y k, evX a ρ = some x ∧ evX b ρ = some y ∧ opD p [x, y] = some (.bl k) ∧
    ((k = true ∧ ∃ z, evX c ρ = some z ∧ opD q [y, z] = some d) ∨ (k = false ∧ d = .bl false)) := by
  unfold evX at e
  split at e
  · rename_i x y hx hy
    split at e
    · rename_i hk
      split at e
      · rename_i z hz
        exact ⟨x, y, true, hx, hy, hk, .inl ⟨rfl, z, hz, e⟩⟩
      · cases e
    · rename_i hk
      cases e
      exact ⟨x, y, false, hx, hy, hk, .inr ⟨rfl, rfl⟩⟩
    · cases e
  · cases e
theorem op2_ev {p : Op} (hp : p.pure = true) {a b : Kw.X} {ρ : Nv} {d : D} (e : evX (.op p [a, b]) ρ = some d) : ∃ x y, evX a ρ = some x ∧ evX b ρ = some y ∧ opD p [x, y] = some d := by
  unfold evX at e
  rw [if_pos hp] at e
  unfold evXs evXs evXs at e
  cases z : evX a ρ with
  | none => rw [z] at e; cases e
  | some d1 =>
    cases z2 : evX b ρ with
    | none => rw [z, z2] at e; cases e
    | some d2 => rw [z, z2] at e; exact ⟨d1, d2, rfl, rfl, e⟩
theorem cmp_pure {p : Op} {o : CmpOp} (hs : shOf p = .cmp o) : p.pure = true := by
  cases p <;> first
    | rfl
    | (exfalso; simp [shOf] at hs; done)
    | (rename_i t; cases t <;> simp [shOf] at hs)
/-- an operation's text as a test -/
theorem pt_op_of (h : XOk C W sc X) {p : Op} {as : List Kw.X} {x : Expr} (ho : okX W sc (.op p as) x = true) (pe : PE X x (tX C (evX (.op p as))))
    (ih : ∀ a ∈ as, ∀ e, okX W sc a e = true → PE X e (tX C (evX a))) : PT X x (tXT C (evX (.op p as))) := by
  by_cases ht : truthE x = true
  · exact pt_tX h.hK pe ht
  · unfold okX at ho
    rw [Bool.and_eq_true] at ho
    obtain ⟨hp, ho⟩ := ho
    split at ho
    · rename_i es ha
      unfold argsOf at ha
      split at ha <;> first | (exact absurd rfl ht) | skip
      · rename_i o a o' b pos hs
        split at ha <;> cases ha
        rename_i hc
        obtain ⟨rfl, hm, hpl⟩ := hc
        cases as with
        | nil => simp [okXs] at ho
        | cons ma as =>
          cases as with
          | nil => simp [okXs] at ho
          | cons mb as =>
            cases as with
            | cons => simp [okXs] at ho
            | nil =>
              simp only [okXs, Bool.and_eq_true, Bool.and_true] at ho
              have ia := ih ma (by simp) a ho.1
              have ib := ih mb (by simp) b ho.2
              refine PT.imp (pt_cmpR (bv_cmp h hs) ia ib hm) fun σ H Q q => ?_
              obtain ⟨ρ, I, Fs, d, r, st, e, e2, q⟩ := q
              obtain ⟨x, y, e3, e4, e5⟩ := op2_ev hp e
              obtain ⟨k, rfl⟩ := cmp_bl hs e5
              cases e2
              exact ⟨ρ, I, Fs, x, st, e3, fun v F rv => ⟨ρ, I, Fs, y, st, e4, fun u G ru => ⟨I, [x, y], _, st.same, .cons rv (.cons ru .nil), e5, fun _ v' F' rv' => ⟨_, rv'.bl, q⟩, fun z => by rw [hp] at z; cases z⟩⟩⟩
      · cases ha
    · cases ho
mutual
theorem soundX (h : XOk C W sc X) : ∀ (e : Kw.X) (x : Expr), okX W sc e x = true → PE X x (tX C (evX e))
  | .c d, x, ho => by
    have base : ∀ {v : V}, (∀ I, RF C I d v) → PE X x (tC v) → PE X x (tX C (evX (.c d))) := fun {v} r p => PE.imp p fun σ H Q q => by
      obtain ⟨ρ, I, Fs, d', st, e, q⟩ := q
      unfold evX at e
      cases e
      exact q v [] (.fz (r I))
    unfold okX at ho
    split at ho <;> first | (cases ho; done) | skip
    · rw [decide_eq_true_eq] at ho
      subst ho
      exact base (fun I => .int _) pe_int
    · rw [beq_iff_eq] at ho
      subst ho
      exact base (fun I => .bl _) pe_bl
    · exact base (fun I => .non) pe_non
    · rw [decide_eq_true_eq] at ho
      subst ho
      exact base (fun I => .str _) pe_str
    · simp only [Bool.and_eq_true, decide_eq_true_eq] at ho
      obtain ⟨u, hm, r⟩ := h.gi _ _ ho.1.1
      exact base (fun I => .int _) (pe_glob (h.glo ho.1.2) hm r (odd_no ho.2).1)
    · simp only [Bool.and_eq_true, decide_eq_true_eq] at ho
      obtain ⟨u, hm, r⟩ := h.gs _ _ ho.1.1
      exact base (fun I => .str _) (pe_glob (h.glo ho.1.2) hm r (odd_no ho.2).1)
  | .v i, x, ho => by
    unfold okX at ho
    split at ho
    · rename_i n pos
      unfold nameOk at ho
      simp only [Bool.and_eq_true, decide_eq_true_eq] at ho
      obtain ⟨⟨hN, hv⟩, hd⟩ := ho
      obtain ⟨d1, d2, d3⟩ := odd_no hd
      refine PE.imp (pe_var (by rw [h.hN]; exact hN) (h.vis hv) d1 d2) fun σ H Q q => ?_
      obtain ⟨ρ, I, Fs, d, st, e, q⟩ := q
      unfold evX at e
      have e' : ρ[i]? = some (some d) := by
        cases z : ρ[i]? with
        | none => rw [z] at e; cases e
        | some o => rw [z] at e; exact congrArg some e
      obtain ⟨v, hv, r⟩ := st.rep i d e'
      exact ⟨v, hv, q v _ r⟩
    · cases ho
  | .op p as, x, ho => by
    unfold okX at ho
    rw [Bool.and_eq_true] at ho
    obtain ⟨hp, ho⟩ := ho
    split at ho
    · rename_i es ha
      exact pe_op_of h hp ha ho fun a ha' e he => soundXs h as a ha' e he
    · cases ho
  | .bool w as, x, ho => by
    unfold okX at ho
    split at ho
    · rename_i o es pos
      rw [Bool.and_eq_true] at ho
      exact soundB h w as o es pos ho.1 ho.2
    · cases ho
  | .not_ a, x, ho => by
    unfold okX at ho
    split at ho
    · rename_i b pos
      refine PE.imp (pe_not (soundX h a b ho)) fun σ H Q q => ?_
      obtain ⟨ρ, I, Fs, d, st, e, q⟩ := q
      unfold evX at e
      split at e
      · rename_i c hc
        cases e
        exact ⟨ρ, I, Fs, _, st, hc, fun v F r => ⟨c, r.bl, q _ [] (.fz (.bl _))⟩⟩
      · cases e
    · cases ho
  | .ife t a b, x, ho => by
    unfold okX at ho
    split at ho
    · rename_i t' a' b' pos
      simp only [Bool.and_eq_true] at ho
      obtain ⟨⟨⟨ht, ho1⟩, ho2⟩, ho3⟩ := ho
      have pt : PT X t' (tXT C (evX t)) := soundXT h t t' ht ho1
      refine PE.imp (pe_ifExp pt (soundX h a a' ho2) (soundX h b b' ho3)) fun σ H Q q => ?_
      obtain ⟨ρ, I, Fs, d, st, e, q⟩ := q
      unfold evX at e
      split at e
      · rename_i hc
        exact ⟨ρ, I, Fs, _, true, st, hc, rfl, iteT ⟨ρ, I, Fs, d, st, e, q⟩⟩
      · rename_i hc
        exact ⟨ρ, I, Fs, _, false, st, hc, rfl, iteF ⟨ρ, I, Fs, d, st, e, q⟩⟩
      · cases e
    · cases ho
  | .chain p q a b c, x, ho => by
    unfold okX at ho
    split at ho
    · rename_i a' o1 o2 b' c' pos
      simp only [Bool.and_eq_true] at ho
      obtain ⟨⟨⟨oa, ob⟩, oc⟩, ho⟩ := ho
      split at ho
      · rename_i o o' hs1 hs2
        simp only [Bool.and_eq_true, decide_eq_true_eq, Bool.not_eq_true'] at ho
        obtain ⟨⟨⟨⟨⟨rfl, rfl⟩, m1⟩, m2⟩, _⟩, _⟩ := ho
        refine PE.imp (pe_chain (bv_cmp h hs1) (bv_cmp h hs2) (soundX h a a' oa) (soundX h b b' ob) (soundX h c c' oc) m2) fun σ H Q hw => ?_
        obtain ⟨ρ, I, Fs, d, st, e, k⟩ := hw
        obtain ⟨x, y, r, e1, e2, e3, e4⟩ := chain_ev e
        refine ⟨ρ, I, Fs, x, st, e1, fun v F rv => ⟨ρ, I, Fs, y, st, e2, fun u G ru => ⟨I, [x, y], .bl r, st.same, .cons rv (.cons ru .nil), e3, fun _ v' F' rv' => ⟨r, rv'.bl, ?_⟩, fun z => by rw [cmp_pure hs1] at z; cases z⟩⟩⟩
        rcases e4 with ⟨rfl, z, e5, e6⟩ | ⟨rfl, rfl⟩
        · exact iteT ⟨ρ, I, Fs, z, st, e5, fun w K rw' => ⟨I, [y, z], d, st.same, .cons ru (.cons rw' .nil), e6, fun _ => k, fun z => by rw [cmp_pure hs2] at z; cases z⟩⟩
        · exact iteF (k _ [] (.fz (.bl _)))
      · cases ho
    · cases ho
theorem soundXT (h : XOk C W sc X) : ∀ (e : Kw.X) (x : Expr), testX e = true → okX W sc e x = true → PT X x (tXT C (evX e))
  | .v i, x, _, ho => by
    have pe := soundX h (.v i) x ho
    refine pt_tX h.hK pe ?_
    unfold okX at ho
    split at ho
    · rfl
    · cases ho
  | .op p as, x, _, ho => pt_op_of h ho (soundX h (.op p as) x ho) fun a ha e he => soundXs h as a ha e he
  | .chain p q a b c, x, _, ho => by
    unfold okX at ho
    split at ho
    · rename_i a' o1 o2 b' c' pos
      simp only [Bool.and_eq_true] at ho
      obtain ⟨⟨⟨oa, ob⟩, oc⟩, ho⟩ := ho
      split at ho
      · rename_i o o' hs1 hs2
        simp only [Bool.and_eq_true, decide_eq_true_eq, Bool.not_eq_true'] at ho
        obtain ⟨⟨⟨⟨⟨rfl, rfl⟩, m1⟩, m2⟩, _⟩, _⟩ := ho
        refine PT.imp (pt_chain (bv_cmp h hs1) (bv_cmp h hs2) (soundX h a a' oa) (soundX h b b' ob) (soundX h c c' oc) m2) fun σ H Q hw => ?_
        obtain ⟨ρ, I, Fs, d, t, st, e, et, k⟩ := hw
        obtain ⟨x, y, r, e1, e2, e3, e4⟩ := chain_ev e
        refine ⟨ρ, I, Fs, x, st, e1, fun v F rv => ⟨ρ, I, Fs, y, st, e2, fun u G ru => ⟨I, [x, y], .bl r, st.same, .cons rv (.cons ru .nil), e3, fun _ v' F' rv' => ⟨r, rv'.bl, ?_⟩, fun z => by rw [cmp_pure hs1] at z; cases z⟩⟩⟩
        rcases e4 with ⟨rfl, z, e5, e6⟩ | ⟨rfl, rfl⟩
        · obtain ⟨m, rfl⟩ := cmp_bl hs2 e6
          cases et
          exact iteT ⟨ρ, I, Fs, z, st, e5, fun w K rw' => ⟨I, [y, z], _, st.same, .cons ru (.cons rw' .nil), e6, fun _ v2 F2 rv2 => ⟨_, rv2.bl, k⟩, fun z => by rw [cmp_pure hs2] at z; cases z⟩⟩
        · cases et
          exact iteF ⟨false, rfl, k⟩
      · cases ho
    · cases ho
  | .c _, _, ht, _ => by cases ht
  | .bool _ _, _, ht, _ => by cases ht
  | .not_ _, _, ht, _ => by cases ht
  | .ife _ _ _, _, ht, _ => by cases ht
theorem soundXs (h : XOk C W sc X) : ∀ (as : List Kw.X), ∀ a ∈ as, ∀ e, okX W sc a e = true → PE X e (tX C (evX a))
  | [], _, ha, _, _ => nomatch ha
  | b :: bs, a, ha, e, ho => by
    rcases List.mem_cons.mp ha with q | q
    · rw [q] at ho ⊢
      exact soundX h b e ho
    · exact soundXs h bs a q e ho
theorem soundB (h : XOk C W sc X) (w : Bool) : ∀ (as : List Kw.X) (o : BoolOp) (es : List Expr) (pos : Pos), (match o, w with | .And, true => true | .Or, false => true | _, _ => false) = true → okXs W sc as es = true → PE X (.BoolOp o es pos) (tX C (evB w as))
  | [], _, _, _, _, ho => by
    refine ⟨fun pins s σ H Q I q => ?_⟩
    obtain ⟨ρ, J, Fs, d, st, e, q⟩ := q
    unfold evB at e
    cases e
  | [a], o, es, pos, hw, ho => by
    cases es with
    | nil => simp [okXs] at ho
    | cons e es =>
      cases es with
      | cons => simp [okXs] at ho
      | nil =>
        simp only [okXs, Bool.and_true] at ho
        refine PE.imp (pe_one (soundX h a e ho)) fun σ H Q q => ?_
        unfold evB at q
        exact q
  | a :: b :: as, o, es, pos, hw, ho => by
    cases es with
    | nil => simp [okXs] at ho
    | cons e es =>
      cases es with
      | nil => simp [okXs] at ho
      | cons e2 es =>
        have ho' : okX W sc a e = true ∧ okXs W sc (b :: as) (e2 :: es) = true := by
          unfold okXs at ho
          rw [Bool.and_eq_true] at ho
          exact ho
        have ia := soundX h a e ho'.1
        have ir := soundB h w (b :: as) o (e2 :: es) pos hw ho'.2
        cases o with
        | And =>
          cases w with
          | false => cases hw
          | true =>
            refine PE.imp (pe_and ia ir) fun σ H Q q => ?_
            obtain ⟨ρ, I, Fs, d, st, e, q⟩ := q
            unfold evB at e
            split at e
            · rename_i c hc
              refine ⟨ρ, I, Fs, _, st, hc, fun v F r => ⟨c, r.bl, ?_⟩⟩
              cases c with
              | true =>
                rw [if_pos rfl] at e
                exact iteT ⟨ρ, I, Fs, d, st, e, q⟩
              | false =>
                rw [if_neg Bool.false_ne_true] at e
                cases e
                exact iteF (q _ [] (.fz (.bl _)))
            · cases e
        | Or =>
          cases w with
          | true => cases hw
          | false =>
            refine PE.imp (pe_or ia ir) fun σ H Q q => ?_
            obtain ⟨ρ, I, Fs, d, st, e, q⟩ := q
            unfold evB at e
            split at e
            · rename_i c hc
              refine ⟨ρ, I, Fs, _, st, hc, fun v F r => ⟨c, r.bl, ?_⟩⟩
              cases c with
              | false =>
                rw [if_pos rfl] at e
                exact iteF ⟨ρ, I, Fs, d, st, e, q⟩
              | true =>
                rw [if_neg (fun z => nomatch z)] at e
                cases e
                exact iteT (q _ [] (.fz (.bl _)))
            · cases e
end
end
end Kw

set_option maxRecDepth 100000
set_option maxHeartbeats 4000000
/-! Kw6: the state under changes; arguments; operations that make something new. -/
namespace Kw
open PySem L2

section
variable {C : KC} {I H I' H' : Hp} {σ : St} {ρ : Nv} {Fs : Fp}
/-- an argument's footprint put at a slot -/
def Fp.put (Fs : Fp) (i : Nat) (F : List Addr) : Fp := fun j => if j = i then F else Fs j
theorem Fp.put_same {Fs : Fp} {i : Nat} {F : List Addr} : Fs.put i F i = F := if_pos rfl
theorem Fp.put_ne {Fs : Fp} {i j : Nat} {F : List Addr} (h : j ≠ i) : Fs.put i F j = Fs j := if_neg h
theorem own_put {Fs : Fp} {i : Nat} {F : List Addr} {a : Addr} (h : Own (Fs.put i F) a) : a ∈ F ∨ Own Fs a := by
  obtain ⟨j, h⟩ := h
  by_cases q : j = i
  · subst q; rw [Fp.put_same] at h; exact .inl h
  · rw [Fp.put_ne q] at h; exact .inr ⟨j, h⟩
theorem StOk.live (st : StOk C I H σ ρ Fs) {a : Addr} (h : Own Fs a) : H a ≠ none ∧ I a = none := by
  obtain ⟨i, h⟩ := h
  cases z : ρ[i]? with
  | none => rw [st.emp i (by rw [z]; exact fun d q => nomatch q)] at h; exact nomatch h
  | some o =>
    cases o with
    | none => rw [st.emp i (by rw [z]; exact fun d q => nomatch q)] at h; exact nomatch h
    | some d =>
      obtain ⟨v, _, r⟩ := st.rep i d z
      exact r.live a h
/-- the heap changed outside -/
theorem StOk.move (st : StOk C I H σ ρ Fs) (s : Same I I') (s' : Same I' H') (k : ∀ a, Own Fs a → H' a = H a ∧ I' a = none) : StOk C I' H' σ ρ Fs where
  same := s'
  len := st.len
  rep := fun i d e => by
    obtain ⟨v, h1, h2⟩ := st.rep i d e
    exact ⟨v, h1, h2.step s fun a ha => k a ⟨i, ha⟩⟩
  emp := st.emp
  dj := st.dj
theorem StOk.ext (st : StOk C I H σ ρ Fs) {F : List Addr} (dj : ∀ a ∈ F, ¬ Own Fs a) : StOk C (ext I H F) H σ ρ Fs :=
  st.move (ext_same st.same F) (ext_sub st.same F) fun a ha => ⟨rfl, by rw [ext_out fun z => dj a z ha]; exact (st.live ha).2⟩
theorem Step.ext (s : Same I H) (O O' : Addr → Prop) (F : List Addr) (h : ∀ a ∈ F, O a) (h' : ∀ a, O' a → O a) : Step I H O (Kw.ext I H F) H O' where
  ii := ext_same s F
  newI := fun a z => by
    by_cases q : a ∈ F
    · exact .inr (.inl (h a q))
    · rw [ext_out q] at z; exact .inl z
  newO := fun a z => .inl (h' a z)
  keep := fun _ _ _ => rfl
/-- a slot takes a value -/
theorem StOk.put (st : StOk C I H σ ρ Fs) {i : Nat} {d : D} {v : V} {F : List Addr} (hi : i < ρ.length) (r : Rp C I H d v F) (dj : ∀ a ∈ F, ∀ j, j ≠ i → a ∉ Fs j) : StOk C I H (σ.set i (some v)) (ρ.set i (some d)) (Fs.put i F) where
  same := st.same
  len := by simp [st.len]
  rep := fun j e h => by
    by_cases q : j = i
    · subst q
      rw [List.getElem?_set_self hi] at h
      cases h
      exact ⟨v, List.getElem?_set_self (by rw [st.len]; exact hi), by rw [Fp.put_same]; exact r⟩
    · rw [List.getElem?_set_ne (Ne.symm q)] at h ⊢
      rw [Fp.put_ne q]
      exact st.rep j e h
  emp := fun j h => by
    by_cases q : j = i
    · subst q
      exact absurd (List.getElem?_set_self hi) (h d)
    · rw [Fp.put_ne q]
      rw [List.getElem?_set_ne (Ne.symm q)] at h
      exact st.emp j h
  dj := fun j k hjk a ha hb => by
    by_cases q : j = i
    · subst q
      rw [Fp.put_same] at ha
      rw [Fp.put_ne (Ne.symm hjk)] at hb
      exact dj a ha k (Ne.symm hjk) hb
    · rw [Fp.put_ne q] at ha
      by_cases q2 : k = i
      · subst q2
        rw [Fp.put_same] at hb
        exact dj a hb j q ha
      · rw [Fp.put_ne q2] at hb
        exact st.dj j k hjk a ha hb
/-- .. where the name holds that very object -/
theorem StOk.putD (st : StOk C I H σ ρ Fs) {i : Nat} {d : D} {v : V} {F : List Addr} (hi : i < ρ.length) (hv : σ[i]? = some (some v)) (r : Rp C I H d v F) (dj : ∀ a ∈ F, ∀ j, j ≠ i → a ∉ Fs j) : StOk C I H σ (ρ.set i (some d)) (Fs.put i F) := by
  have h := st.put hi r dj
  have e : σ.set i (some v) = σ := by
    apply List.ext_getElem?
    intro j
    by_cases q : i = j
    · subst q; rw [List.getElem?_set_self (by rw [st.len]; exact hi), hv]
    · rw [List.getElem?_set_ne q]
  rw [e] at h
  exact h
/-- a slot is forgotten -/
theorem StOk.drop (st : StOk C I H σ ρ Fs) (i : Nat) : StOk C I H σ (ρ.set i none) (Fs.put i []) where
  same := st.same
  len := by simp [st.len]
  rep := fun j e h => by
    by_cases q : j = i
    · subst q
      by_cases hl : j < ρ.length
      · rw [List.getElem?_set_self hl] at h; cases h
      · rw [List.getElem?_eq_none (by simpa using hl)] at h; cases h
    · rw [List.getElem?_set_ne (Ne.symm q)] at h
      rw [Fp.put_ne q]
      exact st.rep j e h
  emp := fun j h => by
    by_cases q : j = i
    · subst q; exact Fp.put_same
    · rw [Fp.put_ne q]
      rw [List.getElem?_set_ne (Ne.symm q)] at h
      exact st.emp j h
  dj := fun j k hjk a ha hb => by
    by_cases q : j = i
    · subst q; rw [Fp.put_same] at ha; exact nomatch ha
    · rw [Fp.put_ne q] at ha
      by_cases q2 : k = i
      · subst q2; rw [Fp.put_same] at hb; exact nomatch hb
      · rw [Fp.put_ne q2] at hb; exact st.dj j k hjk a ha hb
theorem lt_of_some {α : Type} {l : List α} {i : Nat} {x : α} (h : l[i]? = some x) : i < l.length := (List.getElem?_eq_some_iff.mp h).1
theorem join_some {ρ : Nv} {i : Nat} {d : D} (h : (ρ[i]?).join = some d) : ρ[i]? = some (some d) := by
  cases z : ρ[i]? with
  | none => rw [z] at h; cases h
  | some o => rw [z] at h; exact congrArg some h
/-- a slot is shared from now on -/
theorem StOk.frz (st : StOk C I H σ ρ Fs) {i : Nat} {d : D} (h : ρ[i]? = some (some d)) : ∃ v, σ[i]? = some (some v) ∧ RF C (Kw.ext I H (Fs i)) (freeze d) v ∧
    StOk C (Kw.ext I H (Fs i)) H σ (ρ.set i (some (freeze d))) (Fs.put i []) ∧ Step I H (Own Fs) (Kw.ext I H (Fs i)) H (Own (Fs.put i [])) := by
  obtain ⟨v, hv, r⟩ := st.rep i d h
  have rf := r.freeze st.same
  have hi := lt_of_some h
  refine ⟨v, hv, rf, ?_, Step.ext st.same _ _ _ (fun a ha => ⟨i, ha⟩) fun a ha => (own_put ha).elim (fun z => nomatch z) id⟩
  have st1 := st.drop i
  have st2 : StOk C (Kw.ext I H (Fs i)) H σ (ρ.set i none) (Fs.put i []) := st1.move (ext_same st.same _) (ext_sub st.same _) fun a ha => ⟨rfl, by
    rw [ext_out fun z => ?_]
    · exact (st1.live ha).2
    · obtain ⟨j, hj⟩ := ha
      by_cases q : j = i
      · subst q; rw [Fp.put_same] at hj; exact nomatch hj
      · rw [Fp.put_ne q] at hj
        exact st.dj j i q a hj z⟩
  have st3 := st2.putD (i := i) (d := freeze d) (v := v) (F := []) (by simpa using hi) hv (.fz rf) (fun a ha => nomatch ha)
  have e1 : (ρ.set i none).set i (some (freeze d)) = ρ.set i (some (freeze d)) := by simp
  have e2 : (Fs.put i []).put i [] = Fs.put i [] := by
    funext j
    by_cases q : j = i
    · subst q; rw [Fp.put_same, Fp.put_same]
    · rw [Fp.put_ne q]
  rw [e1, e2] at st3
  exact st3
/-- something new was made -/
theorem StOk.alloc (st : StOk C I H σ ρ Fs) (s : Same I I') (sH : Same H H') (s' : Same I' H') (n : ∀ a, I' a ≠ none → I a ≠ none ∨ H a = none) : StOk C I' H' σ ρ Fs :=
  st.move s s' fun a ha => by
    obtain ⟨l, ni⟩ := st.live ha
    refine ⟨?_, ?_⟩
    · cases z : H a with
      | none => exact absurd z l
      | some o => exact sH a o z
    · cases z : I' a with
      | none => rfl
      | some o => exact ((n a (by rw [z]; simp)).elim (fun q => q ni) l).elim
theorem Step.alloc (s : Same I I') (sH : Same H H') (n : ∀ a, I' a ≠ none → I a ≠ none ∨ H a = none) {F : List Addr} (f : ∀ a ∈ F, H a = none) (O : Addr → Prop) : Step I H O I' H' (fun a => O a ∨ a ∈ F) where
  ii := s
  newI := fun a z => (n a z).elim .inl fun q => .inr (.inr q)
  newO := fun a z => z.elim .inl fun q => .inr (f a q)
  keep := fun a hn _ => by
    cases z : H a with
    | none => exact absurd z hn
    | some o => exact sH a o z
end

theorem Step.lift {I H I' H' : Hp} {O O' : Addr → Prop} (s : Step I H O I' H' O') (F : List Addr) : Step I H (fun a => O a ∨ a ∈ F) I' H' (fun a => O' a ∨ a ∈ F) where
  ii := s.ii
  newI := fun a z => (s.newI a z).elim .inl fun q => q.elim (fun q => .inr (.inl (.inl q))) fun q => .inr (.inr q)
  newO := fun a z => z.elim (fun q => (s.newO a q).elim (fun q => .inl (.inl q)) .inr) fun q => .inl (.inr q)
  keep := fun a hn ho => s.keep a hn fun q => ho (.inl q)

/-! ### readings -/
/-- an expression: its value belongs to nobody else -/
def tR (C : KC) (f : Nv → Option (D × Nv)) : TE := fun σ H Q => ∃ ρ I Fs d ρ', StOk C I H σ ρ Fs ∧ f ρ = some (d, ρ') ∧
  ∀ I' H' Fs' F v, StOk C I' H' σ ρ' Fs' → Rp C I' H' d v F → (∀ a ∈ F, ¬ Own Fs' a) → Step I H (Own Fs) I' H' (fun a => Own Fs' a ∨ a ∈ F) → Q v H'
/-- .. shared -/
def tF (C : KC) (f : Nv → Option (D × Nv)) : TE := fun σ H Q => ∃ ρ I Fs d ρ', StOk C I H σ ρ Fs ∧ f ρ = some (d, ρ') ∧
  ∀ I' H' Fs' v, StOk C I' H' σ ρ' Fs' → RF C I' (freeze d) v → Step I H (Own Fs) I' H' (Own Fs') → Q v H'
theorem tF_tR {C : KC} {f : Nv → Option (D × Nv)} {σ : St} {H : Hp} {Q : VK} (h : tF C f σ H Q) : tR C f σ H Q := by
  obtain ⟨ρ, I, Fs, d, ρ', st, e, q⟩ := h
  refine ⟨ρ, I, Fs, d, ρ', st, e, fun I' H' Fs' F v st' r dj s => ?_⟩
  exact q _ H' Fs' v (st'.ext dj) (r.freeze st'.same) (s.trans (Step.ext st'.same _ _ F (fun a ha => .inr ha) fun a ha => .inl ha))
/-- an argument as it lies -/
def AV1 (C : KC) (I H : Hp) (σ : St) (v : V) (F : List Addr) : AV → Prop
  | .s i => σ[i]? = some (some v) ∧ F = []
  | .d d => Rp C I H d v F
inductive AVs (C : KC) (I H : Hp) (σ : St) : List AV → List V → List Addr → Prop
  | nil : AVs C I H σ [] [] []
  | cons {a : AV} {v : V} {F : List Addr} {as : List AV} {vs : List V} {G : List Addr} : AV1 C I H σ v F a → AVs C I H σ as vs G → (∀ x ∈ F, x ∉ G) → AVs C I H σ (a :: as) (v :: vs) (F ++ G)
theorem AV1.step {C : KC} {I H I' H' : Hp} {O O' : Addr → Prop} {σ : St} {v : V} {F : List Addr} {a : AV} (h : AV1 C I H σ v F a) (s : Step I H O I' H' O') (n : ∀ x ∈ F, ¬ O x) : AV1 C I' H' σ v F a := by
  cases a with
  | s i => exact h
  | d d => exact s.held h n
theorem AV1.live {C : KC} {I H : Hp} {σ : St} {v : V} {F : List Addr} {a : AV} (h : AV1 C I H σ v F a) : ∀ x ∈ F, H x ≠ none := by
  cases a with
  | s i => intro x hx; rw [h.2] at hx; exact nomatch hx
  | d d => exact fun x hx => (Rp.live h x hx).1
theorem AVs.as {C : KC} {I H : Hp} {σ : St} {ρ : Nv} {Fs : Fp} (st : StOk C I H σ ρ Fs) : ∀ {as : List AV} {vs : List V} {F : List Addr} {ds : List D}, AVs C I H σ as vs F → getAVs ρ as = some ds → As C I H ds vs
  | _, _, _, _, .nil, e => by
    unfold getAVs at e
    cases e
    exact .nil
  | _, _, _, _, .cons (a := a) (as := as) h t _, e => by
    unfold getAVs at e
    cases z : a.get ρ with
    | none => rw [z] at e; cases e
    | some d =>
      cases z2 : getAVs ρ as with
      | none => rw [z, z2] at e; cases e
      | some ds =>
        rw [z, z2] at e
        cases e
        cases a with
        | s i =>
          obtain ⟨v', h1, h2⟩ := st.rep i d (join_some z)
          have := h.1
          rw [h1] at this
          cases this
          exact .cons h2 (AVs.as st t z2)
        | d d' =>
          cases z
          exact .cons h (AVs.as st t z2)
/-- one argument -/
def evA (G : Cal) (a : E) (ρ : Nv) : Option (AV × Nv) := match isV a with
  | some i => match (ρ[i]?).join with
    | some _ => some (.s i, ρ)
    | none => none
  | none => match evE G a ρ with
    | some (d, ρ') => some (.d d, ρ')
    | none => none
theorem evAs_cons {G : Cal} {a : E} {as : List E} {ρ ρ' : Nv} {avs : List AV} (h : evAs G (a :: as) ρ = some (avs, ρ')) : ∃ av ρ1 r, evA G a ρ = some (av, ρ1) ∧ evAs G as ρ1 = some (r, ρ') ∧ avs = av :: r := by
  unfold evAs at h
  unfold evA
  split at h
  · rename_i i hi
    try simp only [hi]
    split at h
    · rename_i d hd
      try simp only [hd]
      split at h
      · rename_i avs' ρ2 h2
        cases h
        exact ⟨_, _, _, rfl, h2, rfl⟩
      · cases h
    · cases h
  · rename_i hi
    try simp only [hi]
    split at h
    · rename_i d ρ1 h1
      try simp only [h1]
      split at h
      · rename_i avs' ρ2 h2
        cases h
        exact ⟨_, _, _, rfl, h2, rfl⟩
      · cases h
    · cases h
def tA (C : KC) (f : Nv → Option (AV × Nv)) : TE := fun σ H Q => ∃ ρ I Fs av ρ', StOk C I H σ ρ Fs ∧ f ρ = some (av, ρ') ∧
  ∀ I' H' Fs' F v, StOk C I' H' σ ρ' Fs' → AV1 C I' H' σ v F av → (∀ a ∈ F, ¬ Own Fs' a) → Step I H (Own Fs) I' H' (fun a => Own Fs' a ∨ a ∈ F) → Q v H'
def seqT : List TE → TA
  | [] => tNil
  | t :: ts => tCons t (seqT ts)
inductive PEs (X : Cx) : List Expr → List TE → Prop
  | nil : PEs X [] []
  | cons {e : Expr} {t : TE} {es : List Expr} {ts : List TE} : PE X e t → PEs X es ts → PEs X (e :: es) (t :: ts)
theorem PEs.pa {X : Cx} : ∀ {es : List Expr} {ts : List TE}, PEs X es ts → plainEs es = true → PA X es (seqT ts)
  | _, _, .nil, _ => pa_nil
  | _, _, .cons h t, hp => by
    unfold plainEs at hp
    rw [List.all_cons, Bool.and_eq_true] at hp
    exact pa_cons h (PEs.pa t hp.2) (starEach_plain hp.1)
theorem seqA {α : Type} {C : KC} {f : α → Nv → Option (AV × Nv)} {g : List α → Nv → Option (List AV × Nv)} (h0 : ∀ ρ, g [] ρ = some ([], ρ))
    (h1 : ∀ a as ρ avs ρ', g (a :: as) ρ = some (avs, ρ') → ∃ av ρ1 r, f a ρ = some (av, ρ1) ∧ g as ρ1 = some (r, ρ') ∧ avs = av :: r) {σ : St} : ∀ {as : List α} {ρ : Nv} {I H : Hp} {Fs : Fp} {avs : List AV} {ρ' : Nv} {Q : List V → Hp → Prop},
    StOk C I H σ ρ Fs → g as ρ = some (avs, ρ') →
    (∀ I' H' Fs' F vs, StOk C I' H' σ ρ' Fs' → AVs C I' H' σ avs vs F → (∀ a ∈ F, ¬ Own Fs' a) → Step I H (Own Fs) I' H' (fun a => Own Fs' a ∨ a ∈ F) → Q vs H') →
    seqT (as.map fun a => tA C (f a)) σ H Q
  | [], ρ, I, H, Fs, avs, ρ', Q, st, e, q => by
    rw [h0] at e
    cases e
    exact q I H Fs [] [] st .nil (fun _ z => nomatch z) ((Step.refl _ _ _).weak fun c z => z.elim id (fun z => nomatch z))
  | a :: as, ρ, I, H, Fs, avs, ρ', Q, st, e, q => by
    obtain ⟨av, ρ1, r, e1, e2, rfl⟩ := h1 _ _ _ _ _ e
    refine ⟨ρ, I, Fs, av, ρ1, st, e1, fun I1 H1 F1 F v st1 a1 dj1 s1 => ?_⟩
    refine seqA h0 h1 st1 e2 fun I2 H2 F2 G vs st2 as2 dj2 s2 => ?_
    have notOwn : ∀ x ∈ F, ¬ (Own F2 x ∨ x ∈ G) := fun x hx z => (s2.newO x z).elim (dj1 x hx) fun n => a1.live x hx n
    refine q I2 H2 F2 (F ++ G) (v :: vs) st2 (.cons (a1.step s2 dj1) as2 fun x hx hg => notOwn x hx (.inr hg)) (fun x hx z => ?_) ?_
    · rcases List.mem_append.mp hx with hx | hx
      · exact notOwn x hx (.inl z)
      · exact dj2 x hx z
    · refine ⟨Same.trans s1.ii s2.ii, (s1.trans (s2.lift F)).newI, fun c z => ?_, (s1.trans (s2.lift F)).keep⟩
      refine (s1.trans (s2.lift F)).newO c ?_
      rcases z with z | z
      · exact .inl (.inl z)
      · rcases List.mem_append.mp z with z | z
        · exact .inr z
        · exact .inl (.inr z)
end Kw

set_option maxRecDepth 100000
set_option maxHeartbeats 4000000
/-! Kw7: which text of the row an E, a T, an S is. -/
namespace Kw
open PySem L2

/-- not a set display (a for walks it otherwise) -/
def notSet : Expr → Bool
  | .Set _ _ _ => false
  | _ => true
mutual
def tgSlots : Tg → List Nat
  | .n i => [i]
  | .t ts => tgsSlots ts
def tgsSlots : List Tg → List Nat
  | [] => []
  | t :: ts => tgSlots t ++ tgsSlots ts
end
mutual
/-- the names that a text may store -/
def asg : S → List Nat
  | .asg i _ => [i]
  | .par i j _ _ => [i, j]
  | .unp tg _ => tgSlots tg
  | .aug i _ _ => [i]
  | .augL i _ => [i]
  | .ife _ a b => asgs a ++ asgs b
  | .whl _ b => asgs b
  | .for_ tg _ b => tgSlots tg ++ asgs b
  | _ => []
def asgs : List S → List Nat
  | [] => []
  | s :: ss => asg s ++ asgs ss
end
section
variable (W : Wh)
mutual
def okTg (sc : Scope) : Tg → Expr → Bool
  | .n i, x => match x with
    | .Name n _ => decide (W.N[i]? = some n) && locB sc n
    | _ => false
  | .t ts, x => match x with
    | .Tuple es _ _ => okTgs sc ts es
    | _ => false
def okTgs (sc : Scope) : List Tg → List Expr → Bool
  | [], [] => true
  | t :: ts, e :: es => okTg sc t e && okTgs sc ts es
  | _, _ => false
end
def ownN (own : List Nat) : List (Str × Nat) := own.map fun i => (W.N.getD i "", i)
def isChain : E → Bool
  | .chain _ _ _ _ _ => true
  | _ => false
def isCmp : E → Bool
  | .op p _ => match shOf p with
    | .cmp _ => true
    | _ => false
  | _ => false
mutual
def okE (sc : Scope) : E → Expr → Bool
  | .x e, x => okX W sc e x
  | .v i, x => match x with
    | .Name n _ => nameOk W sc i n
    | _ => false
  | .mv i, x => match x with
    | .Name n _ => nameOk W sc i n
    | _ => false
  | .op p as, x => match argsOf W sc p x with
    | some es => (match shOf p with | .mth _ _ _ => false | _ => true) && okEs sc as es
    | none => false
  | .tup as, x => match x with
    | .Tuple es _ _ => plainEs es && okEs sc as es
    | _ => false
  | .lst _ as, x => match x with
    | .List es _ => plainEs es && okEs sc as es
    | _ => false
  | .ife t a b, x => match x with
    | .IfExp t' a' b' _ => okT sc t t' && okE sc a a' && okE sc b b'
    | _ => false
  | .call f as, x => match x with
    | .Call (.Name n _) es [] _ => decide (W.fns[f]? = some n) && glB sc n && !odd n && plainEs es && !es.isEmpty && okCs sc as es
    | _ => false
  | .pop i none, x => match x with
    | .Call (.Attribute (.Name n _) m apos) [] [] cpos => nameOk W sc i n && decide (m = "pop") && (apos.endLine == cpos.line)
    | _ => false
  | .pop i (some a), x => match x with
    | .Call (.Attribute (.Name n _) m apos) [e] [] cpos => nameOk W sc i n && decide (m = "pop") && (apos.endLine == cpos.line) && plainE e && okE sc a e
    | _ => false
  | .comp el tg src ifs own, x => match x with
    | .ListComp elt [⟨t, iter, is, 0⟩] scope _ => blkC W.N sc scope (ownN W own) && (tgSlots tg).all (fun i => decide (i ∈ own)) && okTg W scope tg t && okIfs scope ifs is && okE scope el elt && okSrc sc src iter && notSet iter && (match src with | .v i => decide (i ∉ own) | _ => true)
    | _ => false
  | .bool w es, x => match x with
    | .BoolOp o xs _ => (match o, w with | .And, true => true | .Or, false => true | _, _ => false) && okEs sc es xs
    | _ => false
  | .not_ e, x => match x with
    | .UnaryOp .Not b _ => okE sc e b
    | _ => false
  | .chain p q a b c, x => match x with
    | .Compare a' [o1, o2] [b', c'] _ => okE sc a a' && okE sc b b' && okE sc c c' && (match shOf p, shOf q with
      | .cmp o, .cmp o' => decide (o = o1) && decide (o' = o2) && !behindInMarks o1 b' && !behindInMarks o2 c' && ordOp p && ordOp q
      | _, _ => false)
    | _ => false
  | .comp2 _ _ _ _ _ _ _ _ _, _ => false
def okEs (sc : Scope) : List E → List Expr → Bool
  | [], [] => true
  | a :: as, e :: es => okE sc a e && okEs sc as es
  | _, _ => false
def okC (sc : Scope) : CA → Expr → Bool
  | .s i, x => match x with
    | .Name n _ => nameOk W sc i n
    | _ => false
  | .f e, x => okE sc e x
  | .t e, x => okE sc e x
def okCs (sc : Scope) : List CA → List Expr → Bool
  | [], [] => true
  | a :: as, e :: es => okC sc a e && okCs sc as es
  | _, _ => false
def okT (sc : Scope) : T → Expr → Bool
  | .x e, x => testX e && okX W sc e x
  | .e e, x => okE sc e x && (truthE x || isCmp e || isChain e)
  | .bool w ts, x => match x with
    | .BoolOp o es _ => (match o, w with | .And, true => true | .Or, false => true | _, _ => false) && !es.isEmpty && okTs sc ts es
    | _ => false
  | .not_ t, x => match x with
    | .UnaryOp .Not b _ => okT sc t b
    | _ => false
def okTs (sc : Scope) : List T → List Expr → Bool
  | [], [] => true
  | a :: as, e :: es => okT sc a e && okTs sc as es
  | _, _ => false
def okIfs (sc : Scope) : List T → List Expr → Bool
  | [], [] => true
  | [a], [e] => okT sc a e
  | _, _ => false
def okSrc (sc : Scope) : Src → Expr → Bool
  | .rng1 b, x => match x with
    | .Call (.Name n _) [e] [] _ => decide (n = "range") && bltOk W sc "range" && plainE e && okE sc b e
    | _ => false
  | .rng2 a b, x => match x with
    | .Call (.Name n _) [e, e'] [] _ => decide (n = "range") && bltOk W sc "range" && plainE e && plainE e' && okE sc a e && okE sc b e'
    | _ => false
  | .rng3 a b c, x => match x with
    | .Call (.Name n _) [e, e', .UnaryOp .USub (.Constant (.int k) _ _) _] [] _ => decide (n = "range") && bltOk W sc "range" && plainE e && plainE e' && okE sc a e && okE sc b e' && decide (c = -k)
    | _ => false
  | .v i, x => match x with
    | .Name n _ => nameOk W sc i n
    | _ => false
  | .val e, x => okE sc e x && notSet x
end
/-- a call's text is no comprehension stored otherwise -/
def noComp : Expr → Bool
  | .ListComp _ _ _ _ => false
  | .SetComp _ _ _ _ => false
  | .DictComp _ _ _ _ _ => false
  | _ => true
def isComp : E → Bool
  | .comp _ _ _ _ _ => true
  | .comp2 _ _ _ _ _ _ _ _ _ => true
  | _ => false
/-- y = [..]: whether the store happens within -/
def swapB (sc : Scope) (y : Str) (py : Pos) (value : Expr) : Bool := match value with
  | .ListComp _ _ scope pos => (match sc.names.lookup y with | some .local => true | _ => false) && (py.line == pos.line) && !(scope.names.any fun (n, k) => n == y && (k == .local || k == .cell))
  | _ => false
def augOp : Op → Option Operator
  | .add => some .Add
  | .sub => some .Sub
  | .mul => some .Mult
  | _ => none
mutual
def okS (sc : Scope) : S → Stmt → Bool
  | .asg i e, s => match s with
    | .Assign [.Name n py] v pos => decide (W.N[i]? = some n) && locB sc n && okE W sc e v && (noComp v || (isComp e && swapB sc n py v))
    | _ => false
  | .par i j a b, s => match s with
    | .Assign [.Tuple [.Name x px, .Name y py] _ _] (.Tuple [ea, eb] _ _) _ => decide (W.N[i]? = some x) && decide (W.N[j]? = some y) && decide (i ≠ j) && decide (sc.names.lookup x = some .local) && decide (sc.names.lookup y = some .local) && (px.line == py.line) && decide (x ≠ y) && plainE ea && plainE eb && !([ea, eb].all (foldedForSure 8)) && !([ea, eb].all (constantsAlone 8)) && okE W sc a ea && okE W sc b eb && false
    | _ => false
  | .unp tg e, s => match s with
    | .Assign [.Tuple es k p] v _ => okTg W sc tg (.Tuple es k p) && okE W sc e v && noComp v && (match v with | .Tuple _ _ _ => false | _ => true)
    | _ => false
  | .aug i p e, s => match s with
    | .AugAssign (.Name n _) o v _ => decide (W.N[i]? = some n) && locB sc n && decide (augOp p = some o) && okE W sc e v
    | _ => false
  | .augL i e, s => match s with
    | .AugAssign (.Name n _) .Add v _ => decide (W.N[i]? = some n) && locB sc n && okE W sc e v
    | _ => false
  | .setI i k e, s => match s with
    | .Assign [.Subscript (.Name n _) ix _] v _ => nameOk W sc i n && okX W sc k ix && plainE ix && okE W sc e v && noComp v
    | _ => false
  | .augI i k p e, s => match s with
    | .AugAssign (.Subscript (.Name n _) ix _) o v _ => nameOk W sc i n && okX W sc k ix && plainE ix && decide (augOp p = some o) && okE W sc e v
    | _ => false
  | .append i e, s => match s with
    | .Expr (.Call (.Attribute (.Name n _) m apos) [a] [] cpos) _ => nameOk W sc i n && decide (m = "append") && (apos.endLine == cpos.line) && plainE a && okE W sc e a
    | _ => false
  | .reverse i, s => match s with
    | .Expr (.Call (.Attribute (.Name n _) m apos) [] [] cpos) _ => nameOk W sc i n && decide (m = "reverse") && (apos.endLine == cpos.line)
    | _ => false
  | .ex e, s => match s with
    | .Expr v _ => okE W sc e v && noComp v
    | _ => false
  | .ife t a b, s => match s with
    | .If c x y _ => okT W sc t c && okSs sc a x && okSs sc b y
    | _ => false
  | .whl t b, s => match s with
    | .While c x [] _ => okT W sc t c && okSs sc b x
    | _ => false
  | .for_ tg src b, s => match s with
    | .For t iter x [] _ => okTg W sc tg t && okSrc W sc src iter && okSs sc b x && notSet iter && (match src with | .v i => !(tgSlots tg ++ asgs b).contains i | _ => true)
    | _ => false
  | .ret e, s => match s with
    | .Return (some v) _ => okE W sc e v
    | _ => false
  | .retN, s => match s with
    | .Return none _ => true
    | _ => false
  | .pass, s => match s with
    | .Pass _ => true
    | .Expr (.Constant (.str _) _ _) _ => true
    | _ => false
  | .brk, s => match s with
    | .Break _ => true
    | _ => false
  | .cont, s => match s with
    | .Continue _ => true
    | _ => false
  | .never, _ => true
def okSs (sc : Scope) : List S → List Stmt → Bool
  | [], [] => true
  | a :: as, e :: es => okS sc a e && okSs sc as es
  | _, _ => false
end
end
end Kw

set_option maxRecDepth 100000
set_option maxHeartbeats 4000000
namespace Kw
open PySem L2
section
open PySem.Spec PyProof.Rows
variable {P : Program} {w : World} {A : Around} {E : Value → Shared → Prop} {s : Shared}
/-- an empty set's object -/
abbrev sObj (w : World) : Obj := { cls := .type "set", dict := none, data := .set #[] 0 (.fresh 0 0 (!w.params.followText "set-order")) }
set_option maxHeartbeats 8000000 in
/-- set(a list of ints) -/
theorem set_of_lst {b0 : Addr} {xs : Array Value} (ks : List Int) {Q0 : Value → Shared → Prop} (calm : A.handled = none) (isL : s.heap.IsList b0 xs)
    (areI : IntsAre xs.toList ks) (few : ks.length + 1 < scanBound)
    (fin : ∀ (hp : Heap) (t m : Nat), SetR w hp s.heap.objs.size (fun j => decide (j ∈ ks)) m → m ≤ ks.length →
      (∀ b o, s.heap.get? b = some o → hp.get? b = some o) → Q0 (.ref s.heap.objs.size) { s with heap := hp, toks := t }) :
    wpAny (model P w) A (call (.type "set") [.ref b0]) Q0 E s := by
  have size_eq : xs.size = ks.length := (Array.length_toList (xs := xs)).symm.trans (IntsAre.length areI)
  obtain ⟨cc, rest, hm0⟩ := F.called_set.mro
  have mk0 := F.called_set.made
  have sb0 := F.called_set.sub
  refine wpAny_call (codeAny_of_tree ?_)
  show wpAny _ _ (callAny (.type "set") _) _ _ _
  refine wpAny_pure ⟨Code.quiet_builtin _ (by decide +kernel), ?_⟩
  refine codeAny_builtin F.entry_type_call ?_
  rw [Around.under_plain (weight_type_call_type "set" [.ref b0] []) rfl]
  have nt0 := F.called_set.notType
  have cr0 := F.called_set.canCreate
  have tc0 := F.typeCall_set_1 (.ref b0)
  repeat (any_goals (first | assumption | wp_step))
  have led1 := code_set_led1 (P := P) (w := w) (A := A.in1) (s := s) (.ref b0) (E := E)
    (Q₁ := fun obj s1 => obj = .ref s.heap.objs.size ∧
      s1 = { s with heap := s.heap.push { cls := .type "set", dict := none, data := .set #[] 0 (.fresh 0 0 (!w.params.followText "set-order")) } }) ⟨rfl, rfl⟩
  refine codeAny_mono led1 fun rr s1 hrr => ?_
  cases rr with
  | error e => exact hrr
  | ok fl =>
    cases fl with
    | ret obj =>
      obtain ⟨rfl, rfl⟩ := hrr
      have at0 : (s.heap.push (sObj w)).get? s.heap.objs.size = some (sObj w) := Heap.get?_push_size _ (by rfl)
      have ty0 : Shared.TypeIs { s with heap := s.heap.push (sObj w) } (.ref s.heap.objs.size) "set" := ⟨_, at0, rfl⟩
      have lk0 := F.called_set.init.lookup
      have bd0 := F.called_set.init.bind (.ref s.heap.objs.size)
      repeat (any_goals (first | assumption | wp_step))
      refine codeAny_mono (codeAny_call_builtin (R := wants (fun z s2 => z = .none ∧ ∃ hp t m, s2 = { s with heap := hp, toks := t } ∧
          SetR w hp s.heap.objs.size (fun j => decide (j ∈ ks)) m ∧ m ≤ ks.length ∧
          (∀ b o, s.heap.get? b = some o → hp.get? b = some o)) E) F.called_set.init.plain F.entry_set_init (check_set_init_1 ty0 ?_)) fun r2 s2 hr2 => ?_
      · obtain ⟨⟨oc, od, oda, osl⟩, got, e1, n1, e2⟩ := isL
        simp only at e1 e2
        subst e1 e2
        have got' : (s.heap.push (sObj w)).get? b0 = some { cls := .type "list", dict := od, data := .seq xs n1, slots := osl } := Heap.get?_push_of_some _ got
        have nS := PySem.F.sub_list_set
        have nF := PySem.F.sub_list_frozenset
        have nD : (Value.type "list" == Value.type "dict") = false := by decide
        have isL' : (s.heap.push (sObj w)).IsList b0 xs := ⟨_, got', rfl, n1, rfl⟩
        unfold Builtin.«set.__init__» noKeywords Builtin.Frozenset.updateFrom
        generalize hIt : pyIter = It0
        wp_walk
        subst hIt
        refine wpAny_pyIter_list (s := { s with heap := s.heap.push (sObj w) }) isL' ?_
        refine wpAny_bind (wpAny_runValue ?_)
        have below : b0 < s.heap.objs.size := Heap.lt_size got
        have calm3 : A.in1.in1.in1.handled = none := by simp [calm]
        have sz1 : (s.heap.push (sObj w)).objs.size = s.heap.objs.size + 1 := Heap.size_push ..
        have ne1 : b0 ≠ (s.heap.push (sObj w)).objs.size := by
          rw [sz1]
          exact Nat.ne_of_lt (Nat.lt_succ_of_lt below)
        have out1 : s.heap.objs.size ∉ [(s.heap.push (sObj w)).objs.size, b0] := by
          rw [sz1]
          intro z
          rcases List.mem_cons.mp z with z | z
          · exact absurd z (Nat.ne_of_lt (Nat.lt_succ_self _))
          · exact absurd (List.mem_singleton.mp z) (Nat.ne_of_gt below)
        have each1 : ∀ (i : Nat) (v : Value), xs[i]? = some v → ∃ k t, ks[i]? = some k ∧ v = .int k t := fun i v hv => by
          have hi : i < ks.length := by
            rw [← size_eq]
            exact (Array.getElem?_eq_some_iff.mp hv).1
          obtain ⟨t, e⟩ := IntsAre.int_at areI i v (by rw [Array.getElem?_toList]; exact hv)
          refine ⟨ks[i], t, List.getElem?_eq_getElem hi, e.trans ?_⟩
          rw [List.getD_eq_getElem?_getD, List.getElem?_eq_getElem hi]
          rfl
        have setAt : ((s.heap.push (sObj w)).push { cls := .type "list_iterator", data := .fields #[.ref b0, .int 0 0] }).get? s.heap.objs.size = some (sObj w) := Heap.get?_push_of_some _ at0
        refine set_update_ints ((Walks.list calm3 _ b0 ne1 xs).toS) s.heap.objs.size out1 ks size_eq few each1
          (xs.size - 0) 0 _ (by omega) (Nat.zero_le _) ⟨⟨_, Heap.get?_push_size _ rfl, rfl, rfl⟩, isL'.push _⟩
          ⟨0, Nat.le_refl 0, setR_new_at setAt⟩ ?_
        intro s9 m9 mv le9 R9
        obtain ⟨hp9, g9, d9, t9, os9⟩ := s9
        have q1 : g9 = s.gens := mv.gens
        have q2 : d9 = s.drawn := mv.drawn
        have q3 : os9 = s.os := mv.os
        subst q1 q2 q3
        show wpAny _ _ _ _ _ _
        refine wpAny_pure ?_
        show wpAny _ _ (ret Value.none) _ _ _
        refine wpAny_pure ⟨rfl, hp9, t9, m9, rfl, R9, by rw [← size_eq]; exact le9, fun b o e => ?_⟩
        have lt9 : b < s.heap.objs.size := Heap.lt_size e
        refine mv.heap b o (fun z => ?_) (Heap.get?_push_of_some _ (Heap.get?_push_of_some _ e))
        rcases List.mem_cons.mp z with z | z
        · exact absurd z (Nat.ne_of_lt lt9)
        · have z1 := List.mem_singleton.mp z
          rw [sz1] at z1
          exact absurd z1 (Nat.ne_of_lt (Nat.lt_succ_of_lt lt9))
      · cases r2 with
        | error e => exact hr2
        | ok fl2 =>
          cases fl2 with
          | ret z =>
            obtain ⟨rfl, hp, t, m, rfl, R2, le2, keep2⟩ := hr2
            repeat (any_goals (first | assumption | wp_step))
            exact fin _ _ _ R2 le2 keep2
          | _ => exact hr2.elim
    | _ => exact hrr.elim
/-- set(a list of ints), by values -/
theorem cr_setL {X : Cx} (hc : X.calm = true) : CallR X (.type "set") (fun vs H Q => ∃ (a : Addr) (ks : List Int), vs = [V.ref a] ∧ SqL X.K H a (ks.map V.int) ∧ ks.length < 64 ∧
    ∀ p m, H p = none → m ≤ ks.length → Q (.ref p) (upd H p (SetO X.w p (fun j => decide (j ∈ ks)) m))) := by
  intro pn s0 σ0 H0 vs us Q0 I0 rv hq
  obtain ⟨a, ks, rfl, hs, few, fin⟩ := hq
  rw [Vals.ref1 rv]
  obtain ⟨its, r, pl, _⟩ := I0.list hs
  refine set_of_lst ks (I0.ok.hd hc) pl.isList (by simpa using ints_of_vals r) (by unfold scanBound; omega) fun hp t m R le keep => ?_
  exact ⟨.ref _, _, I0.laid (t' := t) keep (Nat.le_refl _) (setO_new R), rfl, fin _ m (I0.hok.fresh (Nat.le_refl _)) le⟩
end
/-- the ascending list of a set is what insertion makes -/
theorem mem_insI {k x : Int} : ∀ {xs : List Int}, x ∈ insI k xs ↔ x = k ∨ x ∈ xs
  | [] => by simp [insI]
  | y :: ys => by
    unfold insI
    split
    · simp
    · split
      · rename_i h; subst h; simp
      · simp [mem_insI (k := k) (x := x) (xs := ys)]
        constructor
        · rintro (h | h | h) <;> simp [h]
        · rintro (h | h | h) <;> simp [h]
theorem asc_insI {k : Int} : ∀ {xs : List Int}, xs.Pairwise (· < ·) → (insI k xs).Pairwise (· < ·)
  | [], _ => by simp [insI]
  | y :: ys, h => by
    obtain ⟨h1, h2⟩ := List.pairwise_cons.mp h
    unfold insI
    split
    · rename_i lt
      refine List.pairwise_cons.mpr ⟨fun z hz => ?_, h⟩
      rcases List.mem_cons.mp hz with e | e
      · rw [e]; exact lt
      · exact Int.lt_trans lt (h1 z e)
    · split
      · exact h
      · refine List.pairwise_cons.mpr ⟨fun z hz => ?_, asc_insI h2⟩
        rcases mem_insI.mp hz with e | e
        · omega
        · exact h1 z e
theorem setI_go : ∀ (ns acc : List Int), acc.Pairwise (· < ·) → (ns.foldl (fun acc k => insI k acc) acc).Pairwise (· < ·) ∧ ∀ x, x ∈ ns.foldl (fun acc k => insI k acc) acc ↔ x ∈ ns ∨ x ∈ acc
  | [], acc, h => ⟨h, by simp⟩
  | n :: ns, acc, h => by
    obtain ⟨h1, h2⟩ := setI_go ns (insI n acc) (asc_insI h)
    refine ⟨h1, fun x => (h2 x).trans ?_⟩
    rw [mem_insI, List.mem_cons]
    constructor
    · rintro (h | h | h) <;> simp [h]
    · rintro ((h | h) | h) <;> simp [h]
theorem asc_same : ∀ {xs ys : List Int}, xs.Pairwise (· < ·) → ys.Pairwise (· < ·) → (∀ x, x ∈ xs ↔ x ∈ ys) → xs = ys
  | [], [], _, _, _ => rfl
  | [], y :: ys, _, _, h => absurd ((h y).mpr List.mem_cons_self) (fun z => nomatch z)
  | x :: xs, [], _, _, h => absurd ((h x).mp List.mem_cons_self) (fun z => nomatch z)
  | x :: xs, y :: ys, h1, h2, h => by
    obtain ⟨a1, a2⟩ := List.pairwise_cons.mp h1
    obtain ⟨b1, b2⟩ := List.pairwise_cons.mp h2
    have e : x = y := by
      rcases List.mem_cons.mp ((h x).mp List.mem_cons_self) with q | q
      · exact q
      · rcases List.mem_cons.mp ((h y).mpr List.mem_cons_self) with q' | q'
        · exact q'.symm
        · have := b1 x q
          have := a1 y q'
          omega
    subst e
    rw [asc_same a2 b2 fun z => ?_]
    constructor
    · intro hz
      rcases List.mem_cons.mp ((h z).mp (List.mem_cons_of_mem _ hz)) with q | q
      · have := a1 z hz; omega
      · exact q
    · intro hz
      rcases List.mem_cons.mp ((h z).mpr (List.mem_cons_of_mem _ hz)) with q | q
      · have := b1 z hz; omega
      · exact q
theorem setI_is {ns : List Int} {ys : List Int} (h : ys.Pairwise (· < ·)) (m : ∀ x, x ∈ ys ↔ x ∈ ns) : ys = setI ns := by
  obtain ⟨h1, h2⟩ := setI_go ns [] List.Pairwise.nil
  refine asc_same h h1 fun x => (m x).trans ?_
  unfold setI
  rw [h2 x]
  simp
section
variable {C : KC} {W : Wh} {sc : Scope} {X : Cx}
theorem ints_is {ds : List D} {ns : List Int} (h : ints? ds = some ns) : ds = ns.map D.int := by
  induction ds generalizing ns with
  | nil => unfold ints? at h; cases h; rfl
  | cons d ds ih =>
    cases d <;> unfold ints? at h <;> first | (cases h; done) | skip
    split at h <;> cases h
    rename_i ms hm
    rw [ih hm]
    rfl
/-- a reading, closed upwards -/
theorem PE.up {e : Expr} {t : TE} (h : PE X e t) : PE X e (fun σ H Q => ∃ Qa, t σ H Qa ∧ ∀ x H1, Qa x H1 → Q x H1) := ⟨fun pins s σ H Q I ⟨Qa, q, k⟩ => thn (h.run pins s σ H Qa I q) fun u s1 ⟨v, H1, I1, r, z⟩ => ⟨v, H1, I1, r, k v H1 z⟩⟩
/-- sorted(set(xs)) -/
theorem pe_sset (h : XOk C W sc X) {a : Expr} {ta : TE} {p1 p2 q1 pos : Pos} (hpl : plainE a = true) (b1 : bltOk W sc "sorted" = true) (b2 : bltOk W sc "set" = true) (ha : PE X a ta) :
    PE X (.Call (.Name "sorted" p1) [.Call (.Name "set" p2) [a] [] q1] [] pos) (fun σ H Q => ta σ H fun x H1 => rOp C .sset [x] H1 Q) := by
  unfold bltOk at b1 b2
  simp only [Bool.and_eq_true, decide_eq_true_eq] at b1 b2
  obtain ⟨⟨hB1, hg1⟩, hd1⟩ := b1
  obtain ⟨⟨hB2, hg2⟩, hd2⟩ := b2
  have ps := pe_callTy (pos := q1) (p := p2) (cr_setL h.calm) (h.glo hg2) (h.blt _ hB2) (by decide +kernel) (pa_cons (PE.up ha) pa_nil (starEach_plain hpl)) (by decide) (by decide) (starEach_plain hpl) (by rfl)
  refine PE.imp (pe_callB (cr_sortedSet h.calm) (h.glo hg1) (h.blt _ hB1) (by decide +kernel) (pa_cons ps pa_nil (by rfl)) (by decide) (by decide) (by rfl) (by rfl)) fun σ H Q q => ?_
  refine ⟨_, q, fun x H1 r => ?_⟩
  obtain ⟨I, ds, d, s, as, e, _, post⟩ := r
  obtain ⟨d1, F, rfl, r1⟩ := as.one
  replace e : opSset d1 = some d := e
  unfold opSset at e
  split at e
  · rename_i m xs
    split at e
    · cases e
    · rename_i hm
      split at e
      · rename_i ns hns
        by_cases few : ns.length < 64
        case neg => rw [if_neg few] at e; cases e
        rw [if_pos few] at e
        cases e
        obtain ⟨a0, vs, rfl, hs, _, _, t⟩ := r1.lst s
        have t := t hm
        rw [ints_is hns] at t
        have hv := t.ints
        subst hv
        refine ⟨a0, ns, rfl, by rw [h.hK]; exact hs, few, fun p m' hp le => ?_⟩
        refine ⟨p, _, m', rfl, upd_same, by omega, fun ys p2 asc mem len hp2 => ?_⟩
        have is0 : ys = setI ns := setI_is asc fun x => (mem x).trans (by simp)
        subst is0
        have ne : p2 ≠ p := fun z => by rw [z, upd_same] at hp2; cases hp2
        have hp2' : H1 p2 = none := by rw [upd_ne ne] at hp2; exact hp2
        have sH : Same H1 (upd (upd H1 p (SetO X.w p (fun j => decide (j ∈ ns)) m')) p2 (.lst ((setI ns).map V.int))) := fun b o eb => by
          rw [upd_ne (ne_of_none eb hp2'), upd_ne (ne_of_none eb hp)]
          exact eb
        exact post rfl I _ _ [p2] (Same.refl _) sH (Same.trans s sH) (fun a z => .inl z) (fun b hb => by rw [List.mem_singleton.mp hb]; exact hp2') (.lstO upd_same (s.free hp2') (RFs.of_ints _))
      · cases e
  · cases e
end
end Kw

set_option maxRecDepth 100000
set_option maxHeartbeats 4000000
/-! Kw8: operations on any arguments. -/
namespace Kw
open PySem L2
section
variable {C : KC} {W : Wh} {sc : Scope} {X : Cx}
theorem Rp.rdL {I H : Hp} {m : Md} {ds : List D} {v : V} {F : List Addr} (s : Same I H) (h : Rp C I H (.lst m ds) v F) (h1 : m ≠ .dp) (h2 : m ≠ .kw) : ∃ (a : Addr) (vs : List V), v = .ref a ∧ Rd H a (.lst vs) ∧ RFs C I ds vs := by
  cases h with
  | fz r =>
    cases r with
    | lst e t => exact ⟨_, _, rfl, Same.rd s e, t⟩
    | lstK e t => exact absurd rfl h2
  | lstO e n t => exact ⟨_, _, rfl, .inl e, t⟩
  | lstD => exact absurd rfl h1
theorem Inv.rdL {pins : List (Addr × Obj)} {σ : St} {H : Hp} {s : Shared} {l : Addr} {xs : List V} (I : L2.Inv X pins σ H s) (h : Rd H l (.lst xs)) : xs.length ≤ sizeLine ∧ ∃ (its : List Value) (n : Nat), Vals xs its ∧ xs.length = its.length ∧ s.heap.get? l = some { cls := .type "list", data := .seq its.toArray n } := by
  obtain ⟨z, its, n, r, e⟩ := h.ok I.hok
  exact ⟨z, its, n, r, r.length, e⟩
/-- list + list, that are read -/
theorem op_catL : OpR X (binaryOp .Add) (fun x y H Q => ∃ l b xs zs, x = .ref l ∧ y = .ref b ∧ Rd H l (.lst xs) ∧ Rd H b (.lst zs) ∧ xs.length + zs.length ≤ sizeLine ∧ ∀ p, H p = none → Q (.ref p) (upd H p (.lst (xs ++ zs)))) := by
  intro pins s σ H x y v u Q I rx ry h
  obtain ⟨l, b, xs, zs, rfl, rfl, hl, hb, hz, q⟩ := h
  cases rx
  cases ry
  obtain ⟨_, is1, n1, r1, l1, e1⟩ := Inv.rdL I hl
  obtain ⟨_, is2, n2, r2, l2, e2⟩ := Inv.rdL I hb
  have room : is1.toArray.size + is2.toArray.size ≤ sizeLine := by simp only [List.size_toArray]; omega
  refine PySem.P.add_list e1 e2 ?_ room
  rw [show is1.toArray ++ is2.toArray = (is1 ++ is2).toArray by simp]
  have rr := r1.append r2
  exact ⟨.ref _, _, I.lnew (t' := s.toks) rr (by simp only [List.length_append]; exact hz), rfl, q _ I.fresh⟩
theorem bv_cat : OpR X (binaryOp .Add) (fun x y => rOp C .cat [x, y]) := by
  refine OpR.imp op_catL fun x y H Q h => ?_
  obtain ⟨I, ds, d, s, a, e, _, q⟩ := h
  obtain ⟨d1, d2, F, G, rfl, r1, r2⟩ := a.two
  replace e : opCat d1 d2 = some d := e
  unfold opCat at e
  split at e
  · split at e
    · rename_i m xs n ys hc
      obtain ⟨h1, h2, h3, h4, h5⟩ := hc
      cases e
      obtain ⟨p1, vs, rfl, hs1, t1⟩ := r1.rdL s h1 h3
      obtain ⟨p2, us, rfl, hs2, t2⟩ := r2.rdL s h2 h4
      exact ⟨p1, p2, vs, us, rfl, rfl, hs1, hs2, by rw [← t1.length, ← t2.length, ← sz_line]; exact h5, OPost.new s (t1.append t2) (q rfl)⟩
    · cases e
  · cases e
/-- list * int -/
theorem op_repL : OpR X (binaryOp .Mult) (fun x y H Q => ∃ l k xs, x = .ref l ∧ y = .int k ∧ Rd H l (.lst xs) ∧ -(2 ^ 63) ≤ k ∧ k < 2 ^ 63 ∧ xs.length * k.toNat ≤ sizeLine ∧ ∀ p, H p = none → Q (.ref p) (upd H p (.lst (List.replicate k.toNat xs).flatten))) := by
  intro pins s σ H x y v u Q I rx ry h
  obtain ⟨l, k, xs, rfl, rfl, hl, lo, hi, hz, q⟩ := h
  cases rx
  obtain ⟨tk, rfl⟩ := ry
  obtain ⟨_, is, n, r, len, e⟩ := Inv.rdL I hl
  have z1 : is.toArray.size * k.toNat ≤ sizeLine := by simp only [List.size_toArray]; rw [← len]; exact hz
  have z2 : ¬ is.toArray.size * k.toNat > (2 ^ 63 - 1) / 8 := fun z => absurd (Nat.lt_of_lt_of_le z z1) (by decide)
  have z3 : ¬ (!Builtin.List.listFitsIndex k) = true := by simp [fitsIndex_both lo hi]
  have z4 : ¬ Builtin.List.listTooLong (is.toArray.size * k.toNat) = true := by rw [notLongL z1]; exact Bool.false_ne_true
  have made : (List.replicate (if is.toArray.isEmpty = true then 0 else k.toNat) is.toArray).foldl (fun a b => a ++ b) #[] = (List.replicate k.toNat is).flatten.toArray := by
    have all : ∀ m : Nat, (List.replicate m is.toArray).foldl (fun a b => a ++ b) #[] = (List.replicate m is).flatten.toArray := fun m => by
      simpa using foldl_rep is m []
    rw [all]
    cases is <;> simp
  refine wpAny_binaryOp_repeat_ref (T := "list") (U := "int") (by decide) ⟨_, e, rfl⟩ (fun s' => typeIs_int s' k tk) noFill_list_mul PySem.F.fills_int_mul PySem.F.slot_int_rmul repeat_list PySem.F.slot_int_index.lookup ?_
  refine call_meets PySem.F.slot_int_rmul (typeIs_int s k tk) PySem.F.entry_int_rmul (PySem.F.args_int_rmul_2 _ _) (int___rmul___int_list k tk l is.toArray n) ⟨e, rfl, ⟨_, e, rfl⟩, ?_⟩
  refine call_meets PySem.F.slot_list_mul ⟨_, e, rfl⟩ PySem.F.entry_list_mul (PySem.F.args_list_mul_2 _ _) (AutoListH.list___mul___list_int_3 l is.toArray n k tk z3 z2 z4) ⟨e, ?_⟩
  rw [made]
  exact ⟨.ref _, _, I.lnew (t' := s.toks) (r.rep k.toNat) (by rw [PyProof.Rows.lm_len_rep_flat, Nat.mul_comm]; exact hz), rfl, q _ I.fresh⟩
theorem bv_rep : OpR X (binaryOp .Mult) (fun x y => rOp C .rep [x, y]) := by
  refine OpR.imp op_repL fun x y H Q h => ?_
  obtain ⟨I, ds, d, s, a, e, _, q⟩ := h
  obtain ⟨d1, d2, F, G, rfl, r1, r2⟩ := a.two
  replace e : opRep d1 d2 = some d := e
  unfold opRep at e
  split at e
  · split at e
    · rename_i m xs k hc
      obtain ⟨h1, h2, h3, h4, h5⟩ := hc
      cases e
      obtain ⟨p1, vs, rfl, hs1, t1⟩ := r1.rdL s h1 h2
      exact ⟨p1, k, vs, rfl, r2.int, hs1, h3, h4, by rw [← t1.length, ← sz_line]; exact h5, OPost.new s (t1.rep _) (q rfl)⟩
    · cases e
  · cases e
/-- one argument, and the type behind it -/
theorem isi_read {p : Op} {T : String} {ta : TE} {σ : St} {H : Hp} {Q : VK} (q : tCB (rOp C p) (seqT [ta]) σ H Q) : tCB (fun xs H Q => ∃ x, xs = [x, .ty T] ∧ rOp C p [x] H Q) (tCons ta (tCons (tC (.ty T)) tNil)) σ H Q := by
  have e : (fun (x : V) (H1 : Hp) => rOp C p [x] H1 Q) = fun x H1 => ∃ y, [x, V.ty T] = [y, .ty T] ∧ rOp C p [y] H1 Q := by
    funext x H1
    refine propext ⟨fun r => ⟨x, rfl, r⟩, fun ⟨y, e, r⟩ => ?_⟩
    injection e with e _
    rw [e]
    exact r
  have q' : ta σ H (fun (x : V) (H1 : Hp) => rOp C p [x] H1 Q) := q
  rw [e] at q'
  exact q'
theorem bv_bin' (hK : X.K = C.K) {p : Op} {o : Operator} (hs : shOf p = .bin o) : OpR X (binaryOp o) (fun x y => rOp C p [x, y]) := by
  by_cases hp : p.pure = true
  · exact bv_bin hs hp
  · cases p <;> first
      | (exact absurd rfl hp)
      | (injection hs with hs; subst hs; first | exact bv_cat | exact bv_rep)
      | (exfalso; simp [shOf] at hs; done)
/-- an operation's text, whatever its arguments do (not a method) -/
theorem pe_shape (h : XOk C W sc X) {p : Op} {x : Expr} {es : List Expr} (ha : argsOf W sc p x = some es) (hm : ∀ T n id, shOf p ≠ .mth T n id) {ts : List TE} (hts : PEs X es ts) : PE X x (tCB (rOp C p) (seqT ts)) := by
  unfold argsOf at ha
  split at ha
  · rename_i o a o' b pos hs
    split at ha <;> cases ha
    rename_i hc
    obtain ⟨rfl, hpl⟩ := hc
    cases hts with
    | cons ia t =>
      cases t with
      | cons ib t =>
        cases t
        exact pe_op (bv_bin' h.hK hs) ia ib
  · rename_i o a o' b pos hs
    split at ha <;> cases ha
    rename_i hc
    obtain ⟨rfl, hm, hpl⟩ := hc
    cases hts with
    | cons ia t =>
      cases t with
      | cons ib t =>
        cases t
        exact pe_cmpR (bv_cmp h hs) ia ib hm
  · rename_i a pos hs
    split at ha <;> cases ha
    cases hts with
    | cons ia t =>
      cases t
      have hp' : p = .neg := by cases p <;> first | rfl | (exfalso; simp [shOf] at hs; done) | (rename_i t; cases t <;> simp [shOf] at hs)
      subst hp'
      exact pe_un (bv_neg (C := C)) ia
  · rename_i a b pos hs
    split at ha <;> cases ha
    rename_i hc
    unfold plainEs at hc
    simp only [List.all_cons, List.all_nil, Bool.and_eq_true, Bool.and_true] at hc
    cases hts with
    | cons ia t =>
      cases t with
      | cons ib t =>
        cases t
        have hp' : p = .ix := by cases p <;> first | rfl | (exfalso; simp [shOf] at hs; done) | (rename_i t; cases t <;> simp [shOf] at hs)
        subst hp'
        exact pe_ix (bv_ix h.hK) ia ib (plainIx_plain hc.2)
  · rename_i n id n' np es' pos hs
    split at ha <;> cases ha
    rename_i hc
    obtain ⟨rfl, hb, hpl, hne⟩ := hc
    unfold bltOk at hb
    simp only [Bool.and_eq_true, decide_eq_true_eq] at hb
    obtain ⟨⟨hB, hg⟩, hd⟩ := hb
    obtain ⟨d1, d2, d3⟩ := odd_no hd
    obtain ⟨hr, hv⟩ := bv_blt h hs
    have pa := hts.pa hpl
    match es, hne, hpl, pa with
    | e :: er, _, hpl, pa =>
      have hpl' := hpl
      unfold plainEs at hpl'
      rw [List.all_cons, Bool.and_eq_true] at hpl'
      exact pe_callB hr (h.glo hg) (h.blt _ hB) hv pa d3 d1 (starEach_plain hpl'.1) (backTo_plain hpl'.2)
  · rename_i n id n' np es' pos hs
    split at ha <;> cases ha
    rename_i hc
    obtain ⟨rfl, hb, hpl, hne⟩ := hc
    unfold bltOk at hb
    simp only [Bool.and_eq_true, decide_eq_true_eq] at hb
    obtain ⟨⟨hB, hg⟩, hd⟩ := hb
    obtain ⟨d1, d2, d3⟩ := odd_no hd
    obtain ⟨hr, hv⟩ := bv_ty h hs
    have pa := hts.pa hpl
    match es, hne, hpl, pa with
    | e :: er, _, hpl, pa =>
      have hpl' := hpl
      unfold plainEs at hpl'
      rw [List.all_cons, Bool.and_eq_true] at hpl'
      exact pe_callTy hr (h.glo hg) (h.blt _ hB) hv pa d3 d1 (starEach_plain hpl'.1) (backTo_plain hpl'.2)
  · rename_i T n id o n' apos es' cpos hs
    exact absurd hs (hm _ _ _)
  · rename_i t n' np a t' tp pos hs
    split at ha <;> cases ha
    rename_i hc
    obtain ⟨rfl, rfl, hb, hb2, hpl⟩ := hc
    unfold bltOk at hb hb2
    simp only [Bool.and_eq_true, decide_eq_true_eq] at hb hb2
    obtain ⟨⟨hB, hg⟩, hd⟩ := hb
    obtain ⟨⟨hB2, hg2⟩, hd2⟩ := hb2
    obtain ⟨d1, d2, d3⟩ := odd_no hd2
    unfold plainEs at hpl
    simp only [List.all_cons, List.all_nil, Bool.and_true] at hpl
    obtain ⟨ty, T, rfl, ht, hv⟩ : ∃ ty T, p = .isi ty ∧ ((ty = .int ∧ T = "int") ∨ (ty = .bool ∧ T = "bool")) ∧ bootBuiltins t = some (.type T) := by
      cases p <;> first
        | (exfalso; simp [shOf] at hs; done)
        | (rename_i u; cases u <;> first
            | (exfalso; simp [shOf] at hs; done)
            | (injection hs with hs; subst hs; first
                | exact ⟨_, "int", rfl, .inl ⟨rfl, rfl⟩, by decide +kernel⟩
                | exact ⟨_, "bool", rfl, .inr ⟨rfl, rfl⟩, by decide +kernel⟩))
    have pc : PE X (.Name t tp) (tC (.ty T)) := pe_bltn (h.glo hg2) (h.blt _ hB2) hv rfl d3 d1
    cases hts with
    | cons ia tt =>
      cases tt
      refine PE.imp (pe_callB (bv_isi (C := C) ht h.hK) (h.glo hg) (h.blt _ hB) (by decide +kernel) (pa_cons ia (pa_cons pc pa_nil (by rfl)) (starEach_plain hpl)) (by decide +kernel) (by decide +kernel) (starEach_plain hpl) (by rfl)) fun σ H Q q => ?_
      exact isi_read q
  · rename_i n1 p1 n2 p2 a q1 pos hs
    split at ha <;> cases ha
    rename_i hc
    obtain ⟨rfl, rfl, hb1, hb2, hpl⟩ := hc
    unfold plainEs at hpl
    simp only [List.all_cons, List.all_nil, Bool.and_true] at hpl
    have hp' : p = .sset := by cases p <;> first | rfl | (exfalso; simp [shOf] at hs; done) | (rename_i t; cases t <;> simp [shOf] at hs)
    subst hp'
    cases hts with
    | cons ia tt =>
      cases tt
      exact pe_sset h hpl hb1 hb2 ia
  · cases ha
end
end Kw

set_option maxRecDepth 100000
set_option maxHeartbeats 4000000
/-! Kw9: expressions, one construct at a time. -/
namespace Kw
open PySem L2

/-- a def's promise: it does what the evaluator says -/
def spF (C : KC) (call : List D → Option (D × List D)) : Sp := fun vs H Q _ => ∃ I ds Fa d outs, StOk C I H (vs.map some) (ds.map some) Fa ∧ call ds = some (d, outs) ∧
  ∀ I' H' Fa' F v, StOk C I' H' (vs.map some) (outs.map some) Fa' → Rp C I' H' d v F → (∀ a ∈ F, ¬ Own Fa' a) → Step I H (Own Fa) I' H' (fun a => Own Fa' a ∨ a ∈ F) → Q v H'
/-- the defs that may be called -/
structure FnAt (C : KC) (W : Wh) (G : Cal) (X : Cx) : Prop where
  call : ∀ f n, W.fns[f]? = some n → ∃ fa fd ps k, X.mg n = some (.ref fa) ∧ PySem.W.keepIn X.K (.ref fa) = true ∧ Binds X.K fd ps [] ∧ FnOk X.prog X.w X.K X.mg X.base CX0 k fa fd ps (spF C (G.call f)) ∧ Room k X.A

section
variable {C : KC} {W : Wh} {sc : Scope} {X : Cx} {G : Cal}

theorem Rp.lstOw {I H : Hp} {ds : List D} {v : V} {F : List Addr} (h : Rp C I H (.lst .ow ds) v F) : ∃ (a : Addr) (vs : List V), v = .ref a ∧ H a = some (.lst vs) ∧ I a = none ∧ RFs C I ds vs ∧ F = [a] := by
  cases h with
  | fz r => cases r
  | lstO e n t => exact ⟨_, _, rfl, e, n, t, rfl⟩
/-- a name's own list is changed in place -/
theorem StOk.writeO {I H : Hp} {σ : St} {ρ : Nv} {Fs : Fp} (st : StOk C I H σ ρ Fs) {i : Nat} {ds : List D} (h : ρ[i]? = some (some (.lst .ow ds))) : ∃ (a : Addr) (vs : List V), σ[i]? = some (some (.ref a)) ∧ H a = some (.lst vs) ∧ RFs C I ds vs ∧
    ∀ ds' vs', RFs C I ds' vs' → StOk C I (upd H a (.lst vs')) σ (ρ.set i (some (.lst .ow ds'))) Fs ∧ Step I H (Own Fs) I (upd H a (.lst vs')) (Own Fs) := by
  obtain ⟨v, hv, r⟩ := st.rep i _ h
  obtain ⟨a, vs, rfl, e, n, t, hF⟩ := r.lstOw
  have own : Own Fs a := ⟨i, by rw [hF]; exact List.mem_singleton.mpr rfl⟩
  refine ⟨a, vs, hv, e, t, fun ds' vs' t' => ?_⟩
  have sI : Same I (upd H a (.lst vs')) := fun b o q => by rw [upd_ne (fun z => by rw [z, n] at q; cases q)]; exact st.same b o q
  refine ⟨⟨sI, by simp [st.len], fun j d hj => ?_, fun j hj => ?_, st.dj⟩, ⟨Same.refl _, fun _ z => .inl z, fun _ z => .inl z, fun b hb ho => upd_ne fun z => ho (by rw [z]; exact own)⟩⟩
  · by_cases q : j = i
    · subst q
      rw [List.getElem?_set_self (lt_of_some h)] at hj
      cases hj
      exact ⟨_, hv, by rw [hF]; exact .lstO upd_same n t'⟩
    · rw [List.getElem?_set_ne (Ne.symm q)] at hj
      obtain ⟨u, hu, ru⟩ := st.rep j d hj
      refine ⟨u, hu, ru.step (Same.refl _) fun b hb => ⟨upd_ne fun z => ?_, (ru.live b hb).2⟩⟩
      subst z
      exact st.dj j i q b hb (by rw [hF]; exact List.mem_singleton.mpr rfl)
  · by_cases q : j = i
    · subst q
      exact absurd (List.getElem?_set_self (lt_of_some h)) (hj _)
    · rw [List.getElem?_set_ne (Ne.symm q)] at hj
      exact st.emp j hj

/-! ### pure expressions, names -/
theorem r_x {e : Kw.X} {x : Expr} (h : PE X x (tX C (evX e))) : PE X x (tR C (evE G (.x e))) := PE.imp h fun σ H Q q => by
  obtain ⟨ρ, I, Fs, d, ρ', st, e, q⟩ := q
  unfold evE at e
  split at e
  · rename_i d' hd
    split at e <;> cases e
    rename_i hz
    refine ⟨ρ, I, Fs, _, st, hd, fun v F r => ?_⟩
    obtain ⟨rf, rfl⟩ := RF.rp_fz r hz
    exact q I H Fs [] v st r (fun _ z => nomatch z) ((Step.refl _ _ _).weak fun c z => z.elim id (fun z => nomatch z))
  · cases e
theorem name_pe (h : XOk C W sc X) {i : Nat} {n : Str} {pos : Pos} (ho : nameOk W sc i n = true) : PE X (.Name n pos) (tVar i) := by
  unfold nameOk at ho
  simp only [Bool.and_eq_true, decide_eq_true_eq] at ho
  obtain ⟨⟨hN, hv⟩, hd⟩ := ho
  obtain ⟨d1, d2, d3⟩ := odd_no hd
  exact pe_var (by rw [h.hN]; exact hN) (h.vis hv) d1 d2
theorem r_v (h : XOk C W sc X) {i : Nat} {n : Str} {pos : Pos} (ho : nameOk W sc i n = true) : PE X (.Name n pos) (tR C (evE G (.v i))) := PE.imp (name_pe h ho) fun σ H Q q => by
  obtain ⟨ρ, I, Fs, d, ρ', st, e, q⟩ := q
  unfold evE at e
  split at e
  · rename_i d' hd
    cases e
    obtain ⟨v, hv, rf, st', sp⟩ := st.frz (join_some hd)
    exact ⟨v, hv, q _ H _ [] v st' (.fz rf) (fun _ z => nomatch z) (sp.weak fun c z => z.elim id (fun z => nomatch z))⟩
  · cases e
theorem r_mv (h : XOk C W sc X) {i : Nat} {n : Str} {pos : Pos} (ho : nameOk W sc i n = true) : PE X (.Name n pos) (tR C (evE G (.mv i))) := PE.imp (name_pe h ho) fun σ H Q q => by
  obtain ⟨ρ, I, Fs, d, ρ', st, e, q⟩ := q
  unfold evE at e
  split at e
  · rename_i d' hd
    cases e
    obtain ⟨v, hv, r⟩ := st.rep i _ (join_some hd)
    refine ⟨v, hv, q I H _ (Fs i) v (st.drop i) r (fun a ha z => ?_) ⟨Same.refl _, fun _ z => .inl z, fun a z => ?_, fun _ _ _ => rfl⟩⟩
    · obtain ⟨j, hj⟩ := z
      by_cases q : j = i
      · subst q; rw [Fp.put_same] at hj; exact nomatch hj
      · rw [Fp.put_ne q] at hj; exact st.dj j i q a hj ha
    · rcases z with z | z
      · exact (own_put z).elim (fun z => nomatch z) .inl
      · exact .inl ⟨i, z⟩
  · cases e

/-! ### arguments -/
theorem r_arg (h : XOk C W sc X) {a : E} {x : Expr} (ho : okE W sc a x = true) (ih : PE X x (tR C (evE G a))) : PE X x (tA C (evA G a)) := by
  cases z : isV a with
  | none =>
    refine PE.imp ih fun σ H Q q => ?_
    obtain ⟨ρ, I, Fs, av, ρ', st, e, q⟩ := q
    unfold evA at e
    simp only [z] at e
    split at e
    · rename_i d ρ1 h1
      cases e
      exact ⟨ρ, I, Fs, _, _, st, h1, fun I' H' Fs' F v st' r dj s => q I' H' Fs' F v st' r dj s⟩
    · cases e
  | some i =>
    have ha : a = .v i := by
      unfold isV at z
      split at z <;> cases z
      rfl
    subst ha
    unfold okE at ho
    split at ho
    · rename_i n pos
      refine PE.imp (name_pe h ho) fun σ H Q q => ?_
      obtain ⟨ρ, I, Fs, av, ρ', st, e, q⟩ := q
      unfold evA at e
      simp only [z] at e
      split at e
      · rename_i d hd
        cases e
        obtain ⟨v, hv, r⟩ := st.rep i d (join_some hd)
        exact ⟨v, hv, q I H Fs [] v st ⟨hv, rfl⟩ (fun _ z => nomatch z) ((Step.refl _ _ _).weak fun c z => z.elim id (fun z => nomatch z))⟩
      · cases e
    · cases ho
theorem pes_arg (h : XOk C W sc X) : ∀ {as : List E} {es : List Expr}, okEs W sc as es = true → (∀ a ∈ as, ∀ e, okE W sc a e = true → PE X e (tR C (evE G a))) → PEs X es (as.map fun a => tA C (evA G a))
  | [], [], _, _ => .nil
  | [], _ :: _, ho, _ => by simp [okEs] at ho
  | _ :: _, [], ho, _ => by simp [okEs] at ho
  | a :: as, e :: es, ho, ih => by
    unfold okEs at ho
    rw [Bool.and_eq_true] at ho
    exact .cons (r_arg h ho.1 (ih a List.mem_cons_self e ho.1)) (pes_arg h ho.2 fun b hb => ih b (List.mem_cons_of_mem _ hb))
/-- an operation -/
theorem r_op (h : XOk C W sc X) {p : Op} {as : List E} {x : Expr} {es : List Expr} (ha : argsOf W sc p x = some es) (hm : ∀ T n id, shOf p ≠ .mth T n id) (ho : okEs W sc as es = true)
    (ih : ∀ a ∈ as, ∀ e, okE W sc a e = true → PE X e (tR C (evE G a))) : PE X x (tR C (evE G (.op p as))) := by
  refine PE.imp (pe_shape h ha hm (pes_arg h ho ih)) fun σ H Q q => ?_
  obtain ⟨ρ, I, Fs, d, ρ', st, e, q⟩ := q
  unfold evE at e
  split at e
  · rename_i avs ρ1 h1
    split at e
    · rename_i ds h2
      split at e
      · rename_i d' h3
        split at e <;> cases e
        rename_i hz
        refine seqA (f := evA G) (g := evAs G) (fun ρ => rfl) (fun _ _ _ _ _ => evAs_cons) st h1 fun I1 H1 F1 T vs st1 a1 dj1 s1 => ?_
        refine ⟨I1, ds, _, st1.same, a1.as st1 h2, h3, fun hp v F r => ?_, fun hp => ?_⟩
        · have hf : D.isFz d = true := by
            cases z : D.isFz d with
            | true => rfl
            | false => exact absurd ⟨hp, z⟩ hz
          obtain ⟨rf, rfl⟩ := RF.rp_fz r hf
          exact q I1 H1 F1 [] v st1 r (fun _ z => nomatch z) (s1.weak fun c z => z.elim .inl (fun z => nomatch z))
        · intro I2 H2 v F sI sH sS nI nF r
          refine q I2 H2 F1 F v (st1.alloc sI sH sS nI) r (fun a hF z => (st1.live z).1 (nF a hF)) ?_
          exact (s1.weak (fun c z => .inl z)).trans (Step.alloc sI sH nI nF _)
      · cases e
    · cases e
  · cases e

/-! ### displays -/
def tFs (C : KC) (f : Nv → Option (List D × Nv)) : TA := fun σ H Q => ∃ ρ I Fs ds ρ', StOk C I H σ ρ Fs ∧ f ρ = some (ds, ρ') ∧
  ∀ I' H' Fs' vs, StOk C I' H' σ ρ' Fs' → RFs C I' ds vs → Step I H (Own Fs) I' H' (Own Fs') → Q vs H'
theorem pa_fs : ∀ {as : List E} {es : List Expr}, plainEs es = true → okEs W sc as es = true → (∀ a ∈ as, ∀ e, okE W sc a e = true → PE X e (tR C (evE G a))) → PA X es (tFs C (evFs G as))
  | [], [], _, _, _ => PA.imp pa_nil fun σ H Q q => by
    obtain ⟨ρ, I, Fs, ds, ρ', st, e, q⟩ := q
    unfold evFs at e
    cases e
    exact q I H Fs [] st .nil (Step.refl _ _ _)
  | [], _ :: _, _, ho, _ => by simp [okEs] at ho
  | _ :: _, [], _, ho, _ => by simp [okEs] at ho
  | a :: as, e :: es, hp, ho, ih => by
    unfold okEs at ho
    rw [Bool.and_eq_true] at ho
    unfold plainEs at hp
    rw [List.all_cons, Bool.and_eq_true] at hp
    have h1 := PE.imp (ih a List.mem_cons_self e ho.1) (fun σ H Q => tF_tR (C := C) (f := evE G a) (σ := σ) (H := H) (Q := Q))
    have h2 := pa_fs (as := as) (es := es) hp.2 ho.2 fun b hb => ih b (List.mem_cons_of_mem _ hb)
    refine PA.imp (pa_cons h1 h2 (starEach_plain hp.1)) fun σ H Q q => ?_
    obtain ⟨ρ, I, Fs, ds, ρ', st, e, q⟩ := q
    unfold evFs at e
    split at e
    · rename_i d ρ1 e1
      split at e
      · rename_i ds' ρ2 e2
        cases e
        refine ⟨ρ, I, Fs, d, ρ1, st, e1, fun I1 H1 F1 v st1 r1 s1 => ⟨ρ1, I1, F1, _, _, st1, e2, fun I2 H2 F2 vs st2 r2 s2 => ?_⟩⟩
        exact q I2 H2 F2 (v :: vs) st2 (.cons (r1.mono s2.ii) r2) (s1.trans s2)
      · cases e
    · cases e
theorem r_tup {as : List E} {es : List Expr} {k : Nat} {pos : Pos} (h : PA X es (tFs C (evFs G as))) : PE X (.Tuple es k pos) (tR C (evE G (.tup as))) := PE.imp (pe_tup h) fun σ H Q q => by
  obtain ⟨ρ, I, Fs, d, ρ', st, e, q⟩ := q
  unfold evE at e
  split at e
  · rename_i ds ρ1 e1
    split at e <;> cases e
    rename_i hz
    refine ⟨ρ, I, Fs, ds, _, st, e1, fun I1 H1 F1 vs st1 r1 s1 => ⟨by rw [← r1.length, ← sz_line]; exact hz, ?_⟩⟩
    refine OPost.newT st1.same r1 fun I2 H2 v F sI sH sS nI nF r => ?_
    exact q I2 H2 F1 F v (st1.alloc sI sH sS nI) r (fun a hF z => (st1.live z).1 (nF a hF)) (s1.trans (Step.alloc sI sH nI nF _))
  · cases e
theorem r_lst {as : List E} {es : List Expr} {b : Bool} {pos : Pos} (h : PA X es (tFs C (evFs G as))) : PE X (.List es pos) (tR C (evE G (.lst b as))) := PE.imp (pe_lst h) fun σ H Q q => by
  obtain ⟨ρ, I, Fs, d, ρ', st, e, q⟩ := q
  unfold evE at e
  split at e
  · rename_i ds ρ1 e1
    split at e <;> cases e
    rename_i hz
    refine ⟨ρ, I, Fs, ds, _, st, e1, fun I1 H1 F1 vs st1 r1 s1 => ⟨by rw [← r1.length, ← sz_line]; exact hz, ?_⟩⟩
    refine OPost.new st1.same r1 fun I2 H2 v F sI sH sS nI nF r => ?_
    exact q I2 H2 F1 F v (st1.alloc sI sH sS nI) r (fun a hF z => (st1.live z).1 (nF a hF)) (s1.trans (Step.alloc sI sH nI nF _))
  · cases e

/-! ### tests -/
def tT (C : KC) (f : Nv → Option (Bool × Nv)) : TT := fun σ H Q => ∃ ρ I Fs b ρ', StOk C I H σ ρ Fs ∧ f ρ = some (b, ρ') ∧
  ∀ I' H' Fs', StOk C I' H' σ ρ' Fs' → Step I H (Own Fs) I' H' (Own Fs') → Q b H'
theorem rt_x {e : Kw.X} {x : Expr} (h : PT X x (tXT C (evX e))) : PT X x (tT C (evT G (.x e))) := PT.imp h fun σ H Q q => by
  obtain ⟨ρ, I, Fs, b, ρ', st, e, q⟩ := q
  unfold evT at e
  split at e
  · rename_i d hd
    split at e
    · rename_i b' hb
      cases e
      exact ⟨ρ, I, Fs, d, _, st, hd, hb, q I H Fs st (Step.refl _ _ _)⟩
    · cases e
  · cases e
/-- a value's truth -/
theorem rt_e (h : XOk C W sc X) {e : E} {x : Expr} (hx : truthE x = true) (ih : PE X x (tR C (evE G e))) : PT X x (tT C (evT G (.e e))) := by
  refine ⟨fun pins s σ H Q I hw => ?_⟩
  obtain ⟨ρ, J, Fs, b, ρ', st, ev, q⟩ := hw
  unfold evT at ev
  split at ev
  · rename_i d ρ1 hd
    split at ev
    · rename_i b' hb
      cases ev
      refine PyProof.Rows.isTrue_plain (thn (ih.run pins s σ H (fun v H' => ∃ I d F b, Same I H' ∧ Rp C I H' d v F ∧ truth d = some b ∧ Q b H') I ⟨ρ, J, Fs, d, _, st, hd, fun I' H' Fs' F v st' r dj sp => ⟨I', d, F, _, st'.same, r, hb, q I' H' Fs' st' (sp.weak fun c z => .inl z)⟩⟩) fun v s1 ⟨x, H1, I1, r1, q1⟩ => ?_) (truthE_is hx _)
      exact bv_tru h.hK pins s1 σ H1 x v Q I1 r1 q1
    · cases ev
  · cases ev
theorem cmp_ops {p : Op} {o : CmpOp} (hs : shOf p = .cmp o) : p = .eq ∨ p = .ne ∨ p = .lt ∨ p = .le ∨ p = .gt ∨ p = .ge := by
  cases p <;> first
    | simp; done
    | (exfalso; simp [shOf] at hs; done)
    | (rename_i t; cases t <;> simp [shOf] at hs)
theorem cmp_bl' {p : Op} {o : CmpOp} (hs : shOf p = .cmp o) {ds : List D} {d : D} (e : opD p ds = some d) : ∃ r, d = .bl r := by
  rcases ds with _ | ⟨a, _ | ⟨b, _ | ⟨c, ds⟩⟩⟩
  · rcases cmp_ops hs with rfl | rfl | rfl | rfl | rfl | rfl <;> cases e
  · rcases cmp_ops hs with rfl | rfl | rfl | rfl | rfl | rfl <;> cases e
  · exact cmp_bl hs e
  · rcases cmp_ops hs with rfl | rfl | rfl | rfl | rfl | rfl <;> cases e
theorem argsOf_cmp {p : Op} {o : CmpOp} (hs : shOf p = .cmp o) {x : Expr} {es : List Expr} (ha : argsOf W sc p x = some es) : ∃ a b pos, x = .Compare a [o] [b] pos ∧ es = [a, b] ∧ behindInMarks o b = false := by
  unfold argsOf at ha
  rw [hs] at ha
  split at ha
  all_goals first
    | (rename_i q; cases q; done)
    | (rename_i q _; cases q; done)
    | skip
  · rename_i o1 a o' b pos q
    cases q
    split at ha <;> cases ha
    rename_i hcc
    obtain ⟨rfl, hmk, hpl⟩ := hcc
    exact ⟨a, b, pos, rfl, rfl, hmk⟩
  · cases ha
/-- a comparison -/
theorem rt_cmp (h : XOk C W sc X) {e : E} {x : Expr} (hc : isCmp e = true) (ho : okE W sc e x = true) (ih : ∀ p as, e = .op p as → ∀ a ∈ as, ∀ y, okE W sc a y = true → PE X y (tR C (evE G a))) (hx : truthE x = false) : PT X x (tT C (evT G (.e e))) := by
  unfold isCmp at hc
  split at hc
  · rename_i p as
    split at hc
    · rename_i o hs
      unfold okE at ho
      split at ho
      · rename_i es ha
        rw [Bool.and_eq_true] at ho
        replace ho := ho.2
        have pes := pes_arg h ho (ih p as rfl)
        · obtain ⟨a, b, pos, rfl, rfl, hmk⟩ := argsOf_cmp hs ha
          cases as with
          | nil => simp [okEs] at ho
          | cons ma as =>
            cases as with
            | nil => simp [okEs] at ho
            | cons mb as =>
              cases as with
              | cons => simp [okEs] at ho
              | nil =>
                cases pes with
                | cons ia t =>
                  cases t with
                  | cons ib t =>
                    refine PT.imp (pt_cmpR (bv_cmp h hs) ia ib hmk) fun σ H Q q => ?_
                    obtain ⟨ρ, I, Fs, b', ρ', st, ev, q⟩ := q
                    unfold evT evE at ev
                    split at ev
                    · rename_i d ρ1 e0
                      split at e0
                      · rename_i avs ρ2 h1
                        split at e0
                        · rename_i ds h2
                          split at e0
                          · rename_i d' h3
                            split at e0 <;> cases e0
                            split at ev
                            · rename_i bb hb
                              cases ev
                              have go := seqA (C := C) (f := evA G) (g := evAs G) (σ := σ) (fun ρ => rfl) (fun _ _ _ _ _ => evAs_cons) (as := [ma, mb]) st h1 (Q := fun vs H' => rOp C p vs H' fun x H' => ∃ k, x = .bl k ∧ Q k H') fun I1 H1 F1 T vs st1 a1 dj1 s1 => by
                                refine ⟨I1, ds, d, st1.same, a1.as st1 h2, h3, fun hp v F r => ?_, fun hp => by rw [cmp_pure hs] at hp; cases hp⟩
                                obtain ⟨k, rfl⟩ := cmp_bl' hs h3
                                cases hb
                                exact ⟨_, r.bl, q I1 H1 F1 st1 (s1.weak fun c z => .inl z)⟩
                              exact go
                            · cases ev
                          · cases e0
                        · cases e0
                      · cases e0
                    · cases ev
      · cases ho
    · cases hc
  · cases hc
end
end Kw

set_option maxRecDepth 100000
set_option maxHeartbeats 4000000
/-! Kw10: tests, calls, pops. -/
namespace Kw
open PySem L2
section
variable {C : KC} {W : Wh} {sc : Scope} {X : Cx} {G : Cal}
theorem PW.imp {X : Cx} {e : Expr} {t t' : TT} (h : PW X e t) (k : ∀ σ H Q, t' σ H Q → t σ H Q) : PW X e t' := ⟨fun wh pins s σ H Q I q => h.run wh pins s σ H Q I (k σ H Q q)⟩
theorem rt_not {t : T} {b : Expr} {pos : Pos} (h : PT X b (tT C (evT G t))) : PT X (.UnaryOp .Not b pos) (tT C (evT G (.not_ t))) := PT.imp (pt_not h) fun σ H Q q => by
  obtain ⟨ρ, I, Fs, b, ρ', st, e, q⟩ := q
  unfold evT at e
  split at e
  · rename_i b' ρ1 h1
    cases e
    exact ⟨ρ, I, Fs, b', _, st, h1, q⟩
  · cases e
theorem rt_bool (w : Bool) {o : BoolOp} (hw : (match o, w with | .And, true => true | .Or, false => true | _, _ => false) = true) {pos : Pos} : ∀ {ts : List T} {es : List Expr}, es ≠ [] → okTs W sc ts es = true → (∀ t ∈ ts, ∀ e, okT W sc t e = true → PT X e (tT C (evT G t))) → PW X (.BoolOp o es pos) (tT C (evTs G w ts))
  | _, [], hn, _, _ => absurd rfl hn
  | [], _ :: _, _, ho, _ => by simp [okTs] at ho
  | [t], [e], _, ho, ih => by
    have ho' : okT W sc t e = true := by simpa [okTs] using ho
    have h1 := ih t List.mem_cons_self e ho'
    have k : ∀ σ H Q, tT C (evTs G w [t]) σ H Q → tT C (evT G t) σ H Q := fun σ H Q q => by
      obtain ⟨ρ, I, Fs, b, ρ', st, ev, q⟩ := q
      unfold evTs evTs at ev
      split at ev
      · rename_i b' ρ1 h1
        split at ev
        · rename_i hb
          subst hb
          cases ev
          exact ⟨ρ, I, Fs, _, _, st, h1, q⟩
        · cases ev
          exact ⟨ρ, I, Fs, _, _, st, h1, q⟩
      · cases ev
    cases o with
    | And => exact PW.imp (pw_and1 h1) k
    | Or => exact PW.imp (pw_or1 h1) k
  | [t], e :: e2 :: es, _, ho, _ => by simp [okTs] at ho
  | t :: t2 :: ts, [e], _, ho, _ => by simp [okTs] at ho
  | t :: t2 :: ts, e :: e2 :: es, _, ho, ih => by
    have ho' : okT W sc t e = true ∧ okTs W sc (t2 :: ts) (e2 :: es) = true := by
      unfold okTs at ho
      rw [Bool.and_eq_true] at ho
      exact ho
    have h1 := ih t List.mem_cons_self e ho'.1
    have h2 := rt_bool w hw (pos := pos) (ts := t2 :: ts) (es := e2 :: es) (fun z => nomatch z) ho'.2 fun t ht => ih t (List.mem_cons_of_mem _ ht)
    cases o with
    | And =>
      cases w with
      | false => cases hw
      | true =>
        refine PW.imp (pw_and h1 h2) fun σ H Q q => ?_
        obtain ⟨ρ, I, Fs, b, ρ', st, ev, q⟩ := q
        unfold evTs at ev
        split at ev
        · rename_i b' ρ1 e1
          refine ⟨ρ, I, Fs, b', ρ1, st, e1, fun I1 H1 F1 st1 s1 => ?_⟩
          cases b' with
          | true =>
            rw [if_pos rfl] at ev
            exact iteT ⟨ρ1, I1, F1, b, ρ', st1, ev, fun I2 H2 F2 st2 s2 => q I2 H2 F2 st2 (s1.trans s2)⟩
          | false =>
            rw [if_neg Bool.false_ne_true] at ev
            cases ev
            exact iteF (q I1 H1 F1 st1 s1)
        · cases ev
    | Or =>
      cases w with
      | true => cases hw
      | false =>
        refine PW.imp (pw_or h1 h2) fun σ H Q q => ?_
        obtain ⟨ρ, I, Fs, b, ρ', st, ev, q⟩ := q
        unfold evTs at ev
        split at ev
        · rename_i b' ρ1 e1
          refine ⟨ρ, I, Fs, b', ρ1, st, e1, fun I1 H1 F1 st1 s1 => ?_⟩
          cases b' with
          | false =>
            rw [if_pos rfl] at ev
            exact iteF ⟨ρ1, I1, F1, b, ρ', st1, ev, fun I2 H2 F2 st2 s2 => q I2 H2 F2 st2 (s1.trans s2)⟩
          | true =>
            rw [if_neg (fun z => nomatch z)] at ev
            cases ev
            exact iteT (q I1 H1 F1 st1 s1)
        · cases ev
theorem r_ife {t : T} {a b : E} {c x y : Expr} {pos : Pos} (hc : PT X c (tT C (evT G t))) (ha : PE X x (tR C (evE G a))) (hb : PE X y (tR C (evE G b))) : PE X (.IfExp c x y pos) (tR C (evE G (.ife t a b))) := PE.imp (pe_ifExp hc ha hb) fun σ H Q q => by
  obtain ⟨ρ, I, Fs, d, ρ', st, e, q⟩ := q
  unfold evE at e
  split at e
  · rename_i ρ1 h1
    exact ⟨ρ, I, Fs, true, ρ1, st, h1, fun I1 H1 F1 st1 s1 => iteT ⟨ρ1, I1, F1, d, ρ', st1, e, fun I2 H2 F2 F v st2 r dj s2 => q I2 H2 F2 F v st2 r dj (s1.trans s2)⟩⟩
  · rename_i ρ1 h1
    exact ⟨ρ, I, Fs, false, ρ1, st, h1, fun I1 H1 F1 st1 s1 => iteF ⟨ρ1, I1, F1, d, ρ', st1, e, fun I2 H2 F2 F v st2 r dj s2 => q I2 H2 F2 F v st2 r dj (s1.trans s2)⟩⟩
  · cases e

/-! ### pop -/
theorem r_pop0 (h : XOk C W sc X) {i : Nat} {n : Str} {np apos cpos : Pos} (ho : nameOk W sc i n = true) (hl : (apos.endLine == cpos.line) = true) : PE X (.Call (.Attribute (.Name n np) "pop" apos) [] [] cpos) (tR C (evE G (.pop i none))) := by
  refine PE.imp (pe_bm0 PySem.F.plainAttrs_list PySem.F.slot_list_pop PySem.F.type_list_pop mt_pop (name_pe h ho) (by rfl) hl) fun σ H Q q => ?_
  obtain ⟨ρ, I, Fs, d, ρ', st, e, q⟩ := q
  unfold evE at e
  split at e
  · rename_i xs hx
    split at e
    · rename_i y hy
      cases e
      obtain ⟨a, vs, hv, hH, t, k⟩ := st.writeO (join_some hx)
      have hlast : xs[xs.length - 1]? = some d := by rw [← List.getLast?_eq_getElem?]; exact hy
      obtain ⟨v, hv2, rv⟩ := t.get' hlast
      obtain ⟨st', sp⟩ := k xs.dropLast vs.dropLast t.dropLast
      rw [t.length] at hv2
      exact ⟨_, hv, .inl ⟨rfl, _, SqL.of hH⟩, a, vs, v, rfl, rfl, hH, hv2, q I _ Fs [] v st' (.fz rv) (fun _ z => nomatch z) (sp.weak fun c z => z.elim id (fun z => nomatch z))⟩
    · cases e
  · cases e
theorem pop1_read {I H : Hp} {σ : St} {ρ ρ' : Nv} {Fs : Fp} {Q : VK} {i j : Nat} {ds xs : List D} {a : E} {k : Int} {d : D} (st : StOk C I H σ ρ Fs) (hds : ρ[i]? = some (some (.lst .ow ds))) (h1 : evE G a ρ = some (.int k, ρ')) (hx : (ρ'[i]?).join = some (.lst .ow xs)) (hk : -(2 ^ 63) ≤ k ∧ k < 2 ^ 63)
    (hj : ixD xs.length k = some j) (hy : xs[j]? = some d)
    (q : ∀ I' H' Fs' F v, StOk C I' H' σ (ρ'.set i (some (.lst .ow (xs.eraseIdx j)))) Fs' → Rp C I' H' d v F → (∀ a ∈ F, ¬ Own Fs' a) → Step I H (Own Fs) I' H' (fun a => Own Fs' a ∨ a ∈ F) → Q v H') :
    tBM X.K "list" rPopAt (tVar i) (tCons (tR C (evE G a)) tNil) σ H Q := by
  obtain ⟨a0, vs0, hv0, hH0, _, _⟩ := st.writeO hds
  refine ⟨_, hv0, .inl ⟨rfl, _, SqL.of hH0⟩, ρ, I, Fs, _, ρ', st, h1, fun I1 H1 F1 F v st1 r1 dj1 s1 => ?_⟩
  obtain ⟨a1, vs, hv, hH, t, kk⟩ := st1.writeO (join_some hx)
  rw [hv0] at hv
  cases hv
  obtain ⟨u, hu, ru⟩ := t.get' hy
  obtain ⟨st', sp⟩ := kk (xs.eraseIdx j) (vs.eraseIdx j) (t.eraseIdx j)
  rw [r1.int]
  have hj' : seqIndex? k vs.length = some j := by
    rw [ixD_ixN, t.length] at hj
    exact (ixN_seq hj).1
  exact ⟨a0, vs, k, j, u, rfl, rfl, hH, hk.1, hk.2, hj', hu, q I1 _ F1 [] u st' (.fz ru) (fun _ z => nomatch z) ((s1.weak fun c z => .inl z).trans (sp.weak fun c z => z.elim id (fun z => nomatch z)))⟩
theorem r_pop1 (h : XOk C W sc X) {i : Nat} {n : Str} {np apos cpos : Pos} (ho : nameOk W sc i n = true) (hl : (apos.endLine == cpos.line) = true) {a : E} {x : Expr} (hp : plainE x = true) (ih : PE X x (tR C (evE G a))) :
    PE X (.Call (.Attribute (.Name n np) "pop" apos) [x] [] cpos) (tR C (evE G (.pop i (some a)))) := by
  refine PE.imp (pe_bm PySem.F.plainAttrs_list PySem.F.slot_list_pop PySem.F.type_list_pop mt_popAt (name_pe h ho) (pa_cons ih pa_nil (starEach_plain hp)) (by rfl) (by
    have b : (backTo cpos (starEach [x] X.env)).all (fun y => !y.1) = true := by rw [starEach_plain hp]; rfl
    rw [b]; rfl) hl (starEach_plain hp) (by rfl)) fun σ H Q q => ?_
  obtain ⟨ρ, I, Fs, d, ρ', st, e, q⟩ := q
  unfold evE at e
  split at e
  · rename_i ds hds
    split at e
    · rename_i k ρ1 h1
      split at e
      · rename_i xs hx
        split at e
        · rename_i hk
          split at e
          · rename_i j hj
            split at e
            · rename_i y hy
              cases e
              exact pop1_read st (join_some hds) h1 hx hk hj hy q
            · cases e
          · cases e
        · cases e
      · cases e
    · cases e
  · cases e
/-! ### calls -/
theorem slots_drop : ∀ (avs : List AV) (i : Nat), i ∉ slotsOf avs ∨ i ∈ slotsOf avs := fun avs i => (Classical.em (i ∈ slotsOf avs)).symm
def dropS : Nv → List AV → Nv
  | ρ, [] => ρ
  | ρ, .s i :: as => dropS (ρ.set i none) as
  | ρ, .d _ :: as => dropS ρ as
def dropF : Fp → List AV → Fp
  | Fs, [] => Fs
  | Fs, .s i :: as => dropF (Fs.put i []) as
  | Fs, .d _ :: as => dropF Fs as
theorem dropF_eq : ∀ (avs : List AV) (Fs : Fp) (j : Nat), (j ∈ slotsOf avs → dropF Fs avs j = []) ∧ (j ∉ slotsOf avs → dropF Fs avs j = Fs j)
  | [], Fs, j => ⟨fun h => (by simp [slotsOf] at h), fun _ => rfl⟩
  | .d _ :: as, Fs, j => dropF_eq as Fs j
  | .s i :: as, Fs, j => by
    obtain ⟨h1, h2⟩ := dropF_eq as (Fs.put i []) j
    refine ⟨fun h => ?_, fun h => ?_⟩
    · by_cases q : j ∈ slotsOf as
      · exact h1 q
      · have e : j = i := by
          simp only [slotsOf, List.mem_cons] at h
          exact h.resolve_right q
        show dropF (Fs.put i []) as j = []
        rw [h2 q, e, Fp.put_same]
    · simp only [slotsOf, List.mem_cons, not_or] at h
      show dropF (Fs.put i []) as j = Fs j
      rw [h2 h.2, Fp.put_ne h.1]
theorem StOk.dropS {I H : Hp} {σ : St} : ∀ {avs : List AV} {ρ : Nv} {Fs : Fp}, StOk C I H σ ρ Fs → StOk C I H σ (dropS ρ avs) (dropF Fs avs)
  | [], _, _, st => st
  | .d _ :: as, _, _, st => StOk.dropS (avs := as) st
  | .s i :: as, _, _, st => StOk.dropS (avs := as) (st.drop i)
theorem dropS_set : ∀ (avs : List AV) (ρ : Nv) (i : Nat) (x : Option D), i ∉ slotsOf avs → dropS (ρ.set i x) avs = (dropS ρ avs).set i x
  | [], _, _, _, _ => rfl
  | .d _ :: as, ρ, i, x, h => dropS_set as ρ i x h
  | .s j :: as, ρ, i, x, h => by
    simp only [slotsOf, List.mem_cons, not_or] at h
    show dropS ((ρ.set i x).set j none) as = _
    rw [List.set_comm _ _ h.1, dropS_set as _ i x h.2]
    rfl
theorem setSlots_drop : ∀ (avs : List AV) (ρ : Nv) (outs : List D), (slotsOf avs).Nodup → avs.length = outs.length → setSlots (dropS ρ avs) avs outs = setSlots ρ avs outs
  | [], _, [], _, _ => rfl
  | [], _, _ :: _, _, h => by cases h
  | .d _ :: as, ρ, [], _, h => by cases h
  | .s _ :: as, ρ, [], _, h => by cases h
  | .d _ :: as, ρ, d :: ds, nd, h => setSlots_drop as ρ ds nd (Nat.succ.inj h)
  | .s i :: as, ρ, d :: ds, nd, h => by
    have nd' := List.nodup_cons.mp nd
    show setSlots ((Kw.dropS (ρ.set i none) as).set i (some d)) as ds = setSlots (ρ.set i (some d)) as ds
    rw [dropS_set as ρ i none nd'.1, List.set_set, ← dropS_set as ρ i (some d) nd'.1]
    exact setSlots_drop as _ ds nd'.2 (Nat.succ.inj h)
theorem dropS_len : ∀ (avs : List AV) (ρ : Nv), (dropS ρ avs).length = ρ.length
  | [], _ => rfl
  | .d _ :: as, ρ => dropS_len as ρ
  | .s i :: as, ρ => by
    show (dropS (ρ.set i none) as).length = _
    rw [dropS_len as]
    simp
theorem getAVs_len {ρ : Nv} : ∀ {avs : List AV} {ds : List D}, getAVs ρ avs = some ds → avs.length = ds.length
  | [], _, h => by unfold getAVs at h; cases h; rfl
  | a :: as, _, h => by
    unfold getAVs at h
    split at h
    · rename_i d ds h1 h2
      cases h
      simp [getAVs_len h2]
    · cases h
/-- the arguments as a state of their own -/
theorem AVs.args {I H : Hp} {σ : St} {ρ : Nv} {Fs : Fp} (st : StOk C I H σ ρ Fs) : ∀ {avs : List AV} {vs : List V} {T : List Addr} {ds : List D}, AVs C I H σ avs vs T → (∀ a ∈ T, ¬ Own Fs a) → getAVs ρ avs = some ds → (slotsOf avs).Nodup →
    ∃ Fa : Fp, StOk C I H (vs.map some) (ds.map some) Fa ∧ (∀ a, Own Fa a → (∃ i ∈ slotsOf avs, a ∈ Fs i) ∨ a ∈ T) ∧ ∀ (j : Nat) i, avs[j]? = some (.s i) → ∃ v, vs[j]? = some v ∧ σ[i]? = some (some v) ∧ i < ρ.length
  | _, _, _, _, .nil, _, e, _ => by
    unfold getAVs at e
    cases e
    exact ⟨fun _ => [], ⟨st.same, rfl, fun i d h => (by simp at h), fun _ _ => rfl, (fun _ _ _ a h => nomatch h)⟩, (fun a h => h.elim fun _ z => nomatch z), fun j i h => (by simp at h)⟩
  | _, _, _, _, .cons (a := av) (v := v) (F := F) (as := as) (vs := vs) (G := T) h t dj, hT, e, nd => by
    unfold getAVs at e
    split at e
    · rename_i d ds h1 h2
      cases e
      have nd' : (slotsOf as).Nodup := by
        cases av with
        | s i => exact (List.nodup_cons.mp nd).2
        | d _ => exact nd
      obtain ⟨Fa, sa, own, ix⟩ := AVs.args st t (fun a ha => hT a (List.mem_append_right _ ha)) h2 nd'
      -- the first one
      obtain ⟨K, rk, hk, hix⟩ : ∃ K, Rp C I H d v K ∧ (∀ a ∈ K, ((∃ i ∈ slotsOf (av :: as), a ∈ Fs i) ∨ a ∈ F ++ T) ∧ ¬ Own Fa a) ∧ ∀ i, av = .s i → σ[i]? = some (some v) ∧ i < ρ.length := by
        cases av with
        | s i =>
          obtain ⟨u, hu, ru⟩ := st.rep i d (join_some h1)
          have hv := h.1
          rw [hu] at hv
          cases hv
          refine ⟨Fs i, ru, fun a ha => ⟨.inl ⟨i, by simp [slotsOf], ha⟩, fun z => ?_⟩, fun k hk => by cases hk; exact ⟨hu, lt_of_some (join_some h1)⟩⟩
          rcases own a z with ⟨j, hj, hja⟩ | z
          · exact st.dj i j (fun q => (List.nodup_cons.mp nd).1 (by rw [q]; exact hj)) a ha hja
          · exact hT a (List.mem_append_right _ z) ⟨i, ha⟩
        | d d' =>
          cases h1
          refine ⟨F, h, fun a ha => ⟨.inr (List.mem_append_left _ ha), fun z => ?_⟩, fun k hk => by cases hk⟩
          rcases own a z with ⟨j, hj, hja⟩ | z
          · exact hT a (List.mem_append_left _ ha) ⟨j, hja⟩
          · exact dj a ha z
      refine ⟨fun j => match j with | 0 => K | j + 1 => Fa j, ⟨st.same, by simpa using sa.len, fun i e he => ?_, fun i hi => ?_, fun i j hij a ha hb => ?_⟩, fun a ⟨i, hi⟩ => ?_, fun j i hj => ?_⟩
      · cases i with
        | zero => simp at he; subst he; exact ⟨v, rfl, rk⟩
        | succ i => simpa using sa.rep i e (by simpa using he)
      · cases i with
        | zero => exact absurd rfl (hi d)
        | succ i => exact sa.emp i (by simpa using hi)
      · cases i with
        | zero =>
          cases j with
          | zero => exact hij rfl
          | succ j => exact (hk a ha).2 ⟨j, hb⟩
        | succ i =>
          cases j with
          | zero => exact (hk a hb).2 ⟨i, ha⟩
          | succ j => exact sa.dj i j (fun q => hij (by rw [q])) a ha hb
      · cases i with
        | zero => exact (hk a hi).1
        | succ i =>
          rcases own a ⟨i, hi⟩ with ⟨j, hj, hja⟩ | z
          · refine .inl ⟨j, ?_, hja⟩
            cases av with
            | s k => exact List.mem_cons_of_mem _ hj
            | d _ => exact hj
          · exact .inr (List.mem_append_right _ z)
      · cases j with
        | zero =>
          simp at hj
          exact ⟨v, rfl, hix i hj⟩
        | succ j => simpa using ix j i (by simpa using hj)
    · cases e
/-- what was lent comes back -/
theorem put_back {I H : Hp} {σ : St} {Fa : Fp} (dja : ∀ i j, i ≠ j → ∀ a ∈ Fa i, a ∉ Fa j) : ∀ {avs : List AV} {outs : List D} {vs : List V} {k : Nat} {ρ : Nv} {Fs : Fp}, StOk C I H σ ρ Fs →
    (∀ (j : Nat) i, avs[j]? = some (.s i) → ∃ v, vs[j]? = some v ∧ σ[i]? = some (some v) ∧ i < ρ.length) → (∀ (j : Nat) d, outs[j]? = some d → ∃ v, vs[j]? = some v ∧ Rp C I H d v (Fa (k + j))) →
    (∀ j i a, a ∈ Fa (k + j) → a ∉ Fs i) → ∃ Fs', StOk C I H σ (setSlots ρ avs outs) Fs' ∧ ∀ a, Own Fs' a → Own Fs a ∨ Own Fa a
  | [], _, _, _, ρ, Fs, st, _, _, _ => ⟨Fs, by unfold setSlots; exact st, fun a h => .inl h⟩
  | .s i :: as, [], _, _, ρ, Fs, st, _, _, _ => ⟨Fs, by unfold setSlots; exact st, fun a h => .inl h⟩
  | .d _ :: as, [], _, _, ρ, Fs, st, _, _, _ => ⟨Fs, by unfold setSlots; exact st, fun a h => .inl h⟩
  | .d _ :: as, d :: ds, vs, k, ρ, Fs, st, h1, h2, h3 => by
    obtain ⟨Fs', st', own⟩ := put_back dja (avs := as) (outs := ds) (vs := vs.drop 1) (k := k + 1) st (fun j i hj => by simpa using h1 (j + 1) i (by simpa using hj)) (fun j e he => by
      obtain ⟨v, a, b⟩ := h2 (j + 1) e (by simpa using he)
      exact ⟨v, by simpa [Nat.add_comm] using a, by rw [Nat.add_assoc, Nat.add_comm 1 j]; exact b⟩) fun j i a ha => h3 (j + 1) i a (by rw [← Nat.add_assoc, Nat.add_right_comm]; exact ha)
    exact ⟨Fs', st', own⟩
  | .s i :: as, d :: ds, vs, k, ρ, Fs, st, h1, h2, h3 => by
    obtain ⟨v, hv, hσ, hi⟩ := h1 0 i rfl
    obtain ⟨v', hv', r⟩ := h2 0 d rfl
    rw [hv] at hv'
    cases hv'
    have st1 := st.putD (d := d) hi hσ r fun a ha j _ => h3 0 j a ha
    obtain ⟨Fs', st', own⟩ := put_back dja (avs := as) (outs := ds) (vs := vs.drop 1) (k := k + 1) st1 (fun j i' hj => by
      obtain ⟨u, a, b, c⟩ := h1 (j + 1) i' (by simpa using hj)
      exact ⟨u, by simpa [Nat.add_comm] using a, b, by simpa using c⟩) (fun j e he => by
      obtain ⟨v, a, b⟩ := h2 (j + 1) e (by simpa using he)
      exact ⟨v, by simpa [Nat.add_comm] using a, by rw [Nat.add_assoc, Nat.add_comm 1 j]; exact b⟩) fun j i' a ha => by
        have ha' : a ∈ Fa (k + (j + 1)) := by rw [← Nat.add_assoc, Nat.add_right_comm]; exact ha
        by_cases q : i' = i
        · subst q
          rw [Fp.put_same]
          exact dja (k + (j + 1)) (k + 0) (by omega) a ha'
        · rw [Fp.put_ne q]
          exact h3 (j + 1) i' a ha'
    refine ⟨Fs', st', fun a ha => ?_⟩
    rcases own a ha with z | z
    · rcases own_put z with z | z
      · exact .inr ⟨_, z⟩
      · exact .inl z
    · exact .inr z
theorem evCs_cons {a : CA} {as : List CA} {ρ ρ' : Nv} {avs : List AV} (h : evCs G (a :: as) ρ = some (avs, ρ')) : ∃ av ρ1 r, evC G a ρ = some (av, ρ1) ∧ evCs G as ρ1 = some (r, ρ') ∧ avs = av :: r := by
  unfold evCs at h
  split at h
  · rename_i av ρ1 h1
    split at h
    · rename_i r ρ2 h2
      cases h
      exact ⟨_, _, _, h1, h2, rfl⟩
    · cases h
  · cases h
theorem r_carg (h : XOk C W sc X) {a : CA} {x : Expr} (ho : okC W sc a x = true) (ih : ∀ e, (a = .f e ∨ a = .t e) → okE W sc e x = true → PE X x (tR C (evE G e))) : PE X x (tA C (evC G a)) := by
  cases a with
  | s i =>
    unfold okC at ho
    split at ho
    · rename_i n pos
      refine PE.imp (name_pe h ho) fun σ H Q q => ?_
      obtain ⟨ρ, I, Fs, av, ρ', st, e, q⟩ := q
      unfold evC at e
      split at e
      · rename_i d hd
        cases e
        obtain ⟨v, hv, r⟩ := st.rep i d (join_some hd)
        exact ⟨v, hv, q I H Fs [] v st ⟨hv, rfl⟩ (fun _ z => nomatch z) ((Step.refl _ _ _).weak fun c z => z.elim id (fun z => nomatch z))⟩
      · cases e
    · cases ho
  | f e =>
    unfold okC at ho
    refine PE.imp (ih e (.inl rfl) ho) fun σ H Q q => ?_
    obtain ⟨ρ, I, Fs, av, ρ', st, ev, q⟩ := q
    unfold evC at ev
    split at ev
    · rename_i d ρ1 h1
      cases ev
      refine tF_tR ⟨ρ, I, Fs, d, _, st, h1, fun I' H' Fs' v st' r s => q I' H' Fs' [] v st' (.fz r) (fun _ z => nomatch z) (s.weak fun c z => z.elim id (fun z => nomatch z))⟩
    · cases ev
  | t e =>
    unfold okC at ho
    refine PE.imp (ih e (.inr rfl) ho) fun σ H Q q => ?_
    obtain ⟨ρ, I, Fs, av, ρ', st, ev, q⟩ := q
    unfold evC at ev
    split at ev
    · rename_i d ρ1 h1
      cases ev
      exact ⟨ρ, I, Fs, d, _, st, h1, fun I' H' Fs' F v st' r dj s => q I' H' Fs' F v st' r dj s⟩
    · cases ev
theorem pes_carg (h : XOk C W sc X) : ∀ {as : List CA} {es : List Expr}, okCs W sc as es = true → (∀ a ∈ as, ∀ x, okC W sc a x = true → PE X x (tA C (evC G a))) → PEs X es (as.map fun a => tA C (evC G a))
  | [], [], _, _ => .nil
  | [], _ :: _, ho, _ => by simp [okCs] at ho
  | _ :: _, [], ho, _ => by simp [okCs] at ho
  | a :: as, e :: es, ho, ih => by
    unfold okCs at ho
    rw [Bool.and_eq_true] at ho
    exact .cons (ih a List.mem_cons_self e ho.1) (pes_carg h ho.2 fun b hb => ih b (List.mem_cons_of_mem _ hb))
theorem r_call (h : XOk C W sc X) (hf : FnAt C W G X) {f : Nat} {n : Str} {np pos : Pos} {as : List CA} {es : List Expr} (hn : W.fns[f]? = some n) (hg : glB sc n = true) (hd : (!odd n) = true) (hp : plainEs es = true) (hne : es ≠ []) (ho : okCs W sc as es = true)
    (ih : ∀ a ∈ as, ∀ x, okC W sc a x = true → PE X x (tA C (evC G a))) : PE X (.Call (.Name n np) es [] pos) (tR C (evE G (.call f as))) := by
  obtain ⟨fa, fd, ps, k, hm, hk, hb, F, hr⟩ := hf.call f n hn
  obtain ⟨d1, d2, d3⟩ := odd_no hd
  have pa := (pes_carg h ho ih).pa hp
  match es, hne, hp, pa with
  | e :: er, _, hp, pa =>
    have hp' := hp
    unfold plainEs at hp'
    rw [List.all_cons, Bool.and_eq_true] at hp'
    refine PE.imp (pe_call F hr (h.glo hg) hm hk hb .nil pass0 pa d1 (starEach_plain hp'.1) (backTo_plain hp'.2)) fun σ H Q q => ?_
    obtain ⟨ρ, I, Fs, d, ρ', st, ev, q⟩ := q
    unfold evE at ev
    split at ev
    · rename_i avs ρ1 h1
      split at ev
      · rename_i ds h2
        split at ev
        · rename_i d' outs h3
          split at ev <;> cases ev
          rename_i nd
          refine seqA (f := evC G) (g := evCs G) (fun ρ => rfl) (fun _ _ _ _ _ => evCs_cons) st h1 fun I1 H1 F1 T vs st1 a1 dj1 s1 => ?_
          obtain ⟨Fa, sa, own, ix⟩ := AVs.args st1 a1 dj1 h2 nd
          rw [List.append_nil]
          refine ⟨I1, ds, Fa, d, outs, sa, h3, fun I2 H2 Fa' F v sa' r dj s2 => ?_⟩
          -- the caller's names without what was lent
          have st0 := st1.dropS (avs := avs)
          have apart : ∀ a, Own (dropF F1 avs) a → ¬ Own Fa a := fun a ⟨j, hj⟩ z => by
            have hj' : j ∉ slotsOf avs := fun q => by rw [(dropF_eq avs F1 j).1 q] at hj; exact nomatch hj
            rw [(dropF_eq avs F1 j).2 hj'] at hj
            rcases own a z with ⟨i, hi, hia⟩ | z
            · exact st1.dj j i (fun q => hj' (by rw [q]; exact hi)) a hj hia
            · exact dj1 a z ⟨j, hj⟩
          have st2 : StOk C I2 H2 σ (Kw.dropS ρ1 avs) (dropF F1 avs) := st0.move s2.ii sa'.same fun a ha => by
            obtain ⟨l, ni⟩ := st0.live ha
            refine ⟨s2.keep a l (apart a ha), ?_⟩
            cases z : I2 a with
            | none => rfl
            | some o =>
              rcases s2.newI a (by rw [z]; simp) with q | q | q
              · exact absurd ni q
              · exact absurd q (apart a ha)
              · exact absurd q l
          have notOld : ∀ a, (Own Fa' a ∨ a ∈ F) → ¬ Own (dropF F1 avs) a := fun a ha z => by
            rcases s2.newO a ha with q | q
            · exact apart a z q
            · exact (st0.live z).1 q
          have hlen : avs.length = outs.length := by
            have e1 := getAVs_len h2
            have e2 := sa'.len
            have e3 := sa.len
            simp only [List.length_map] at e2 e3
            omega
          obtain ⟨F3, st3, own3⟩ := put_back (Fa := Fa') sa'.dj (avs := avs) (outs := outs) (vs := vs) (k := 0) st2 (fun j i hj => by
            obtain ⟨v, a, b, c⟩ := ix j i hj
            exact ⟨v, a, b, by rw [dropS_len]; exact c⟩) (fun j e he => by
            obtain ⟨v, a, b⟩ := sa'.rep j e (by rw [List.getElem?_map, he]; rfl)
            rw [List.getElem?_map] at a
            cases z : vs[j]? with
            | none => rw [z] at a; cases a
            | some u =>
              rw [z] at a
              cases a
              exact ⟨_, rfl, by rw [Nat.zero_add]; exact b⟩) fun j i a ha hb => notOld a (.inl ⟨_, ha⟩) ⟨i, hb⟩
          rw [setSlots_drop avs ρ1 outs nd hlen] at st3
          refine q I2 H2 F3 F v st3 r (fun a ha z => ?_) ?_
          · rcases own3 a z with z | z
            · exact notOld a (.inr ha) z
            · exact dj a ha z
          · -- the whole step
            have big : Step I1 H1 (fun a => Own F1 a ∨ a ∈ T) I2 H2 (fun a => Own F3 a ∨ a ∈ F) := by
              have inO : ∀ a, Own Fa a → Own F1 a ∨ a ∈ T := fun a ha => (own a ha).elim (fun ⟨i, _, z⟩ => .inl ⟨i, z⟩) .inr
              refine ⟨s2.ii, fun a z => (s2.newI a z).elim .inl fun q => q.elim (fun q => .inr (.inl (inO a q))) fun q => .inr (.inr q), fun a z => ?_, fun a hn hO => s2.keep a hn fun q => hO (inO a q)⟩
              rcases z with z | z
              · rcases own3 a z with z | z
                · obtain ⟨j, hj⟩ := z
                  by_cases q : j ∈ slotsOf avs
                  · rw [(dropF_eq avs F1 j).1 q] at hj; exact nomatch hj
                  · rw [(dropF_eq avs F1 j).2 q] at hj; exact .inl (.inl ⟨j, hj⟩)
                · exact (s2.newO a (.inl z)).elim (fun q => .inl (inO a q)) .inr
              · exact (s2.newO a (.inr z)).elim (fun q => .inl (inO a q)) .inr
            exact s1.trans big
        · cases ev
      · cases ev
    · cases ev

/-! ### truths as values, chains -/
theorem r_not {e : E} {b : Expr} {pos : Pos} (h : PE X b (tR C (evE G e))) : PE X (.UnaryOp .Not b pos) (tR C (evE G (.not_ e))) := PE.imp (pe_not h) fun σ H Q q => by
  obtain ⟨ρ, I, Fs, d, ρ', st, ev, q⟩ := q
  unfold evE at ev
  split at ev
  · rename_i c ρ1 h1
    cases ev
    exact ⟨ρ, I, Fs, _, _, st, h1, fun I1 H1 F1 F v st1 r dj s1 => ⟨c, r.bl, q I1 H1 F1 [] _ st1 (.fz (.bl _)) (fun _ z => nomatch z) (s1.weak fun c z => z.elim .inl (fun z => nomatch z))⟩⟩
  · cases ev
theorem r_bool (w : Bool) : ∀ (as : List E) (o : BoolOp) (es : List Expr) (pos : Pos), (match o, w with | .And, true => true | .Or, false => true | _, _ => false) = true → okEs W sc as es = true → (∀ a ∈ as, ∀ e, okE W sc a e = true → PE X e (tR C (evE G a))) →
    PE X (.BoolOp o es pos) (tR C (evV G w as))
  | [], _, _, _, _, _, _ => by
    refine ⟨fun pins s σ H Q I q => ?_⟩
    obtain ⟨ρ, J, Fs, d, ρ', st, e, q⟩ := q
    unfold evV at e
    cases e
  | [a], o, es, pos, hw, ho, ih => by
    cases es with
    | nil => simp [okEs] at ho
    | cons e es =>
      cases es with
      | cons => simp [okEs] at ho
      | nil =>
        simp only [okEs, Bool.and_true] at ho
        refine PE.imp (pe_one (ih a List.mem_cons_self e ho)) fun σ H Q q => ?_
        obtain ⟨ρ, J, Fs, d, ρ', st, e, q⟩ := q
        unfold evV at e
        exact ⟨ρ, J, Fs, d, ρ', st, e, q⟩
  | a :: b :: as, o, es, pos, hw, ho, ih => by
    cases es with
    | nil => simp [okEs] at ho
    | cons e es =>
      cases es with
      | nil => simp [okEs] at ho
      | cons e2 es =>
        have ho' : okE W sc a e = true ∧ okEs W sc (b :: as) (e2 :: es) = true := by
          unfold okEs at ho
          rw [Bool.and_eq_true] at ho
          exact ho
        have ia := ih a List.mem_cons_self e ho'.1
        have ir := r_bool w (b :: as) o (e2 :: es) pos hw ho'.2 fun c hc => ih c (List.mem_cons_of_mem _ hc)
        have key : ∀ {σ : St} {H : Hp} {Q : VK}, tR C (evV G w (a :: b :: as)) σ H Q → tR C (evE G a) σ H fun x H1 => ∃ c, x = .bl c ∧ if c = w then tR C (evV G w (b :: as)) σ H1 Q else Q (.bl c) H1 := fun {σ H Q} q => by
          obtain ⟨ρ, J, Fs, d, ρ', st, ev, q⟩ := q
          unfold evV at ev
          split at ev
          · rename_i c ρ1 h1
            refine ⟨ρ, J, Fs, _, _, st, h1, fun I1 H1 F1 F v st1 r dj s1 => ⟨c, r.bl, ?_⟩⟩
            have s1' : Step J H (Own Fs) I1 H1 (Own F1) := s1.weak fun c z => .inl z
            split at ev
            · rename_i hc
              rw [if_pos hc]
              exact ⟨ρ1, I1, F1, d, ρ', st1, ev, fun I2 H2 F2 F' v' st2 r2 dj2 s2 => q I2 H2 F2 F' v' st2 r2 dj2 (s1'.trans s2)⟩
            · rename_i hc
              cases ev
              rw [if_neg hc]
              exact q I1 H1 F1 [] _ st1 (.fz (.bl _)) (fun _ z => nomatch z) (s1'.weak fun c z => z.elim id (fun z => nomatch z))
          · cases ev
        cases o with
        | And =>
          cases w with
          | false => cases hw
          | true =>
            refine PE.imp (pe_and ia ir) fun σ H Q q => ?_
            obtain ⟨ρ, J, Fs, d, ρ', st, ev, k⟩ := key q
            refine ⟨ρ, J, Fs, d, ρ', st, ev, fun I1 H1 F1 F v st1 r dj s1 => ?_⟩
            obtain ⟨c, hc, k⟩ := k I1 H1 F1 F v st1 r dj s1
            refine ⟨c, hc, ?_⟩
            cases c with
            | true => rw [if_pos rfl] at k ⊢; exact k
            | false => rw [if_neg Bool.false_ne_true] at k ⊢; exact k
        | Or =>
          cases w with
          | true => cases hw
          | false =>
            refine PE.imp (pe_or ia ir) fun σ H Q q => ?_
            obtain ⟨ρ, J, Fs, d, ρ', st, ev, k⟩ := key q
            refine ⟨ρ, J, Fs, d, ρ', st, ev, fun I1 H1 F1 F v st1 r dj s1 => ?_⟩
            obtain ⟨c, hc, k⟩ := k I1 H1 F1 F v st1 r dj s1
            refine ⟨c, hc, ?_⟩
            cases c with
            | false => rw [if_pos rfl] at k; rw [if_neg Bool.false_ne_true]; exact k
            | true => rw [if_neg (fun z => nomatch z)] at k; rw [if_pos rfl]; exact k
theorem chainE_ev {p q : Op} {a b c : E} {ρ ρ' : Nv} {d : D} (e : evE G (.chain p q a b c) ρ = some (d, ρ')) : ∃ x y k ρ1 ρ2, evE G a ρ = some (x, ρ1) ∧ evE G b ρ1 = some (y, ρ2) ∧ x.isFz = true ∧ y.isFz = true ∧ opD p [x, y] = some (.bl k) ∧
    ((k = true ∧ ∃ z, evE G c ρ2 = some (z, ρ') ∧ z.isFz = true ∧ opD q [y, z] = some d) ∨ (k = false ∧ d = .bl false ∧ ρ' = ρ2)) := by
  unfold evE at e
  split at e
  · rename_i x ρ1 hx
    split at e
    · rename_i y ρ2 hy
      split at e
      · rename_i hf
        split at e
        · rename_i hk
          split at e
          · rename_i z ρ3 hz
            split at e
            · rename_i hfz
              split at e
              · rename_i d' hd
                cases e
                exact ⟨x, y, true, ρ1, ρ2, hx, hy, hf.1, hf.2, hk, .inl ⟨rfl, z, hz, hfz, hd⟩⟩
              · cases e
            · cases e
          · cases e
        · rename_i hk
          cases e
          exact ⟨x, y, false, ρ1, _, hx, hy, hf.1, hf.2, hk, .inr ⟨rfl, rfl, rfl⟩⟩
        · cases e
      · cases e
    · cases e
  · cases e
theorem chain_read {p q : Op} {o o' : CmpOp} (hs1 : shOf p = .cmp o) (hs2 : shOf q = .cmp o') {a b c : E} {σ : St} {H : Hp} {Q : VK} (k : tR C (evE G (.chain p q a b c)) σ H Q) :
    tChain (fun x y => rOp C p [x, y]) (fun x y => rOp C q [x, y]) (tR C (evE G a)) (tR C (evE G b)) (tR C (evE G c)) σ H Q := by
  obtain ⟨ρ, I, Fs, d, ρ', st, e, k⟩ := k
  obtain ⟨x, y, r, ρ1, ρ2, e1, e2, f1, f2, e3, e4⟩ := chainE_ev e
  refine ⟨ρ, I, Fs, x, ρ1, st, e1, fun I1 H1 F1 F v st1 rv dj1 s1 => ⟨ρ1, I1, F1, y, ρ2, st1, e2, fun I2 H2 F2 F' u st2 ru dj2 s2 => ?_⟩⟩
  have rx := (RF.rp_fz rv f1).1
  have ry := (RF.rp_fz ru f2).1
  have s1' : Step I H (Own Fs) I1 H1 (Own F1) := s1.weak fun c z => .inl z
  have s2' : Step I1 H1 (Own F1) I2 H2 (Own F2) := s2.weak fun c z => .inl z
  refine ⟨I2, [x, y], .bl r, st2.same, .cons (.fz (rx.mono s2.ii)) (.cons (.fz ry) .nil), e3, fun _ v' F0 rv' => ⟨r, rv'.bl, ?_⟩, fun z => by rw [cmp_pure hs1] at z; cases z⟩
  rcases e4 with ⟨rfl, z, e5, f3, e6⟩ | ⟨rfl, rfl, rfl⟩
  · refine iteT ⟨ρ2, I2, F2, z, ρ', st2, e5, fun I3 H3 F3 F'' w st3 rw' dj3 s3 => ?_⟩
    have rz := (RF.rp_fz rw' f3).1
    obtain ⟨m, rfl⟩ := cmp_bl hs2 e6
    refine ⟨I3, [y, z], _, st3.same, .cons (.fz (ry.mono s3.ii)) (.cons (.fz rz) .nil), e6, fun _ v2 F5 rv2 => ?_, fun z => by rw [cmp_pure hs2] at z; cases z⟩
    rw [rv2.bl]
    exact k I3 H3 F3 [] _ st3 (.fz (.bl _)) (fun _ z => nomatch z) ((s1'.trans (s2'.trans (s3.weak fun c z => .inl z))).weak fun c z => z.elim id (fun z => nomatch z))
  · exact iteF (k I2 H2 F2 [] _ st2 (.fz (.bl _)) (fun _ z => nomatch z) ((s1'.trans s2').weak fun c z => z.elim id (fun z => nomatch z)))
theorem okChain {p q : Op} {a b c : E} {x : Expr} (ho : okE W sc (.chain p q a b c) x = true) : ∃ a' o1 o2 b' c' pos, x = .Compare a' [o1, o2] [b', c'] pos ∧ okE W sc a a' = true ∧ okE W sc b b' = true ∧ okE W sc c c' = true ∧ shOf p = .cmp o1 ∧ shOf q = .cmp o2 ∧ lastMarks [o1, o2] [b', c'] = false := by
  unfold okE at ho
  split at ho
  · rename_i a' o1 o2 b' c' pos
    simp only [Bool.and_eq_true] at ho
    obtain ⟨⟨⟨oa, ob⟩, oc⟩, ho⟩ := ho
    split at ho
    · rename_i o o' hs1 hs2
      simp only [Bool.and_eq_true, decide_eq_true_eq, Bool.not_eq_true'] at ho
      obtain ⟨⟨⟨⟨⟨rfl, rfl⟩, m1⟩, m2⟩, _⟩, _⟩ := ho
      exact ⟨a', _, _, b', c', pos, rfl, oa, ob, oc, hs1, hs2, m2⟩
    · cases ho
  · cases ho
theorem r_chain (h : XOk C W sc X) {p q : Op} {a b c : E} {x : Expr} (ho : okE W sc (.chain p q a b c) x = true) (ia : ∀ y, okE W sc a y = true → PE X y (tR C (evE G a))) (ib : ∀ y, okE W sc b y = true → PE X y (tR C (evE G b))) (ic : ∀ y, okE W sc c y = true → PE X y (tR C (evE G c))) :
    PE X x (tR C (evE G (.chain p q a b c))) := by
  obtain ⟨a', o1, o2, b', c', pos, rfl, oa, ob, oc, hs1, hs2, m2⟩ := okChain ho
  exact PE.imp (pe_chain (bv_cmp h hs1) (bv_cmp h hs2) (ia a' oa) (ib b' ob) (ic c' oc) m2) fun σ H Q k => chain_read hs1 hs2 k
theorem rt_chain (h : XOk C W sc X) {p q : Op} {a b c : E} {x : Expr} (ho : okE W sc (.chain p q a b c) x = true) (ia : ∀ y, okE W sc a y = true → PE X y (tR C (evE G a))) (ib : ∀ y, okE W sc b y = true → PE X y (tR C (evE G b))) (ic : ∀ y, okE W sc c y = true → PE X y (tR C (evE G c))) :
    PT X x (tT C (evT G (.e (.chain p q a b c)))) := by
  obtain ⟨a', o1, o2, b', c', pos, rfl, oa, ob, oc, hs1, hs2, m2⟩ := okChain ho
  refine PT.imp (pt_chain (bv_cmp h hs1) (bv_cmp h hs2) (ia a' oa) (ib b' ob) (ic c' oc) m2) fun σ H Q k => ?_
  obtain ⟨ρ, I, Fs, r, ρ', st, ev, k⟩ := k
  unfold evT at ev
  split at ev
  · rename_i d ρ1 h1
    split at ev <;> cases ev
    rename_i hr
    obtain ⟨m, rfl⟩ : ∃ m, d = .bl m := by
      obtain ⟨_, _, _, _, _, _, _, _, _, _, e4⟩ := chainE_ev h1
      rcases e4 with ⟨_, z, _, _, e6⟩ | ⟨_, e, _⟩
      · exact cmp_bl hs2 e6
      · exact ⟨_, e⟩
    cases hr
    have go := chain_read (C := C) (Q := fun x H' => ∃ k, x = .bl k ∧ Q k H') hs1 hs2 ⟨ρ, I, Fs, _, _, st, h1, fun I1 H1 F1 F v st1 rv dj1 s1 => ⟨_, rv.bl, k I1 H1 F1 st1 (s1.weak fun c z => .inl z)⟩⟩
    exact go
  · cases ev
end
end Kw

set_option maxRecDepth 100000
set_option maxHeartbeats 4000000
/-! Kw11: targets, what is walked, comprehensions. -/
namespace Kw
open PySem L2
section
variable {C : KC} {W : Wh} {sc : Scope} {X : Cx} {G : Cal}
/-- a target takes a shared value -/
def tG (C : KC) (tg : Tg) : TG := fun v σ H Q => ∃ ρ I Fs d ρ', StOk C I H σ ρ Fs ∧ RF C I d v ∧ bindT tg d ρ = some ρ' ∧
  ∀ σ' Fs', StOk C I H σ' ρ' Fs' → (∀ i, i ∉ tgSlots tg → σ'[i]? = σ[i]?) → (∀ a, Own Fs' a → Own Fs a) → Q σ' H
def tGs (C : KC) (ts : List Tg) : TGs := fun vs σ H Q => ∃ ρ I Fs ds ρ', StOk C I H σ ρ Fs ∧ RFs C I ds vs ∧ bindTs ts ds ρ = some ρ' ∧
  ∀ σ' Fs', StOk C I H σ' ρ' Fs' → (∀ i, i ∉ tgsSlots ts → σ'[i]? = σ[i]?) → (∀ a, Own Fs' a → Own Fs a) → Q σ' H
theorem PG.imp {X : Cx} {e : Expr} {t t' : TG} (h : PG X e t) (k : ∀ v σ H Q, t' v σ H Q → t v σ H Q) : PG X e t' := ⟨fun pins s σ H v u Q I r q => h.run pins s σ H v u Q I r (k v σ H Q q)⟩
theorem PGs.imp {X : Cx} {e : List Expr} {t t' : TGs} (h : PGs X e t) (k : ∀ v σ H Q, t' v σ H Q → t v σ H Q) : PGs X e t' := ⟨fun pins s σ H v u Q I r q => h.run pins s σ H v u Q I r (k v σ H Q q)⟩
theorem XOk.store (h : XOk C W sc X) {n : Str} (e : locB sc n = true) : Loc X.env.scope n ∧ (X.fn n = true ∨ X.env.scope.names.lookup n = some .local) := by
  unfold locB at e
  split at e
  · rename_i q; exact ⟨.inl (h.lc _ q), .inr (h.lc _ q)⟩
  · rename_i q; exact ⟨.inr (h.ce _ q).1, .inl (h.ce _ q).2⟩
  · cases e
theorem bindTs_len : ∀ {ts : List Tg} {ds : List D} {ρ ρ' : Nv}, bindTs ts ds ρ = some ρ' → ts.length = ds.length
  | [], [], _, _, _ => rfl
  | [], _ :: _, _, _, h => by unfold bindTs at h; cases h
  | _ :: _, [], _, _, h => by unfold bindTs at h; cases h
  | t :: ts, d :: ds, _, _, h => by
    unfold bindTs at h
    split at h
    · simp [bindTs_len h]
    · cases h
mutual
theorem bindT_len : ∀ {t : Tg} {d : D} {ρ ρ' : Nv}, bindT t d ρ = some ρ' → ρ'.length = ρ.length
  | .n i, d, ρ, _, h => by
    unfold bindT at h
    split at h <;> cases h
    simp
  | .t ts, .tup ds, ρ, _, h => bindTs_len2 (ts := ts) (ds := ds) (ρ := ρ) h
  | .t _, .non, _, _, h => by cases h
  | .t _, .bl _, _, _, h => by cases h
  | .t _, .int _, _, _, h => by cases h
  | .t _, .str _, _, _, h => by cases h
  | .t _, .lst _ _, _, _, h => by cases h
  | .t _, .dict _ _ _ _, _, _, h => by cases h
  | .t _, .obj _ _ _ _, _, _, h => by cases h
theorem bindTs_len2 : ∀ {ts : List Tg} {ds : List D} {ρ ρ' : Nv}, bindTs ts ds ρ = some ρ' → ρ'.length = ρ.length
  | [], [], _, _, h => by unfold bindTs at h; cases h; rfl
  | [], _ :: _, _, _, h => by unfold bindTs at h; cases h
  | _ :: _, [], _, _, h => by unfold bindTs at h; cases h
  | t :: ts, d :: ds, ρ, _, h => by
    unfold bindTs at h
    split at h
    · rename_i ρ1 h1
      rw [bindTs_len2 h, bindT_len h1]
    · cases h
end
theorem assignEach_ok : ∀ {ts : List Tg} {es : List Expr} {env : PySem.Env}, okTgs W sc ts es = true → (assignEach es env).length = ts.length ∧ (assignEach es env).findIdx? (·.1) = none ∧ ∀ e er, es = e :: er → (assignEach (e :: er) env).map (·.2) = assign e env :: (assignEach er env).map (·.2)
  | [], [], _, _ => ⟨rfl, rfl, fun _ _ z => nomatch z⟩
  | [], _ :: _, _, h => by simp [okTgs] at h
  | _ :: _, [], _, h => by simp [okTgs] at h
  | t :: ts, e :: es, env, h => by
    unfold okTgs at h
    rw [Bool.and_eq_true] at h
    obtain ⟨h1, h2, _⟩ := assignEach_ok (env := env) h.2
    have ne : assignEach (e :: es) env = (false, assign e env) :: assignEach es env := by
      cases t with
      | n i =>
        unfold okTg at h
        cases e <;> first | rfl | (exact absurd h.1 (by simp))
      | t ts' =>
        unfold okTg at h
        cases e <;> first | rfl | (exact absurd h.1 (by simp))
    rw [ne]
    refine ⟨by simp [h1], ?_, fun e' er' q => ?_⟩
    · rw [List.findIdx?_cons]
      simp [h2]
    · injection q with q1 q2
      subst q1 q2
      rw [ne]
      rfl
mutual
theorem pg_of (h : XOk C W sc X) : ∀ (tg : Tg) (x : Expr), okTg W sc tg x = true → PG X x (tG C tg)
  | .n i, x, ho => by
    unfold okTg at ho
    split at ho
    · rename_i n pos
      simp only [Bool.and_eq_true, decide_eq_true_eq] at ho
      obtain ⟨h1, h2⟩ := h.store ho.2
      refine PG.imp (pg_name (by rw [h.hN]; exact h.nd) (by rw [h.hN]; exact ho.1) h1 h2) fun v σ H Q q => ?_
      obtain ⟨ρ, I, Fs, d, ρ', st, rf, e, q⟩ := q
      unfold bindT at e
      split at e <;> cases e
      rename_i hi
      refine q _ _ (st.put hi (.fz rf) (fun a ha => nomatch ha)) (fun j hj => ?_) fun a ha => (own_put ha).elim (fun z => nomatch z) id
      simp only [tgSlots, List.mem_singleton] at hj
      rw [List.getElem?_set_ne (Ne.symm hj)]
    · cases ho
  | .t ts, x, ho => by
    unfold okTg at ho
    split at ho
    · rename_i es k pos
      obtain ⟨l1, l2, _⟩ := assignEach_ok (env := X.env) ho
      refine PG.imp (pg_tup h.calm (pgs_of h ts es ho) l1 l2) fun v σ H Q q => ?_
      obtain ⟨ρ, I, Fs, d, ρ', st, rf, e, q⟩ := q
      cases rf with
      | tup hs t =>
        have e' : bindTs ts _ ρ = some ρ' := e
        exact ⟨_, _, rfl, by rw [h.hK]; exact Same.seqT st.same hs, by rw [← t.length]; exact (bindTs_len e').symm, ρ, I, Fs, _, ρ', st, t, e', fun σ' Fs' st' kσ own => q σ' Fs' st' (fun i hi => kσ i (by simpa [tgSlots] using hi)) own⟩
      | _ => cases e
    · cases ho
theorem pgs_of (h : XOk C W sc X) : ∀ (ts : List Tg) (es : List Expr), okTgs W sc ts es = true → PGs X es (tGs C ts)
  | [], [], _ => PGs.imp pgs_nil fun v σ H Q q => by
    obtain ⟨ρ, I, Fs, ds, ρ', st, rf, e, q⟩ := q
    cases rf with
    | nil =>
      unfold bindTs at e
      cases e
      exact ⟨rfl, q σ Fs st (fun _ _ => rfl) fun _ z => z⟩
    | cons => unfold bindTs at e; cases e
  | [], _ :: _, ho => by simp [okTgs] at ho
  | _ :: _, [], ho => by simp [okTgs] at ho
  | t :: ts, e :: es, ho => by
    obtain ⟨_, _, l3⟩ := assignEach_ok (env := X.env) ho
    unfold okTgs at ho
    rw [Bool.and_eq_true] at ho
    refine PGs.imp (pgs_cons (pg_of h t e ho.1) (pgs_of h ts es ho.2) (l3 e es rfl)) fun v σ H Q q => ?_
    obtain ⟨ρ, I, Fs, ds, ρ', st, rf, ev, q⟩ := q
    cases rf with
    | nil => unfold bindTs at ev; cases ev
    | cons r rs =>
      unfold bindTs at ev
      split at ev
      · rename_i ρ1 h1
        refine ⟨_, _, rfl, ρ, I, Fs, _, ρ1, st, r, h1, fun σ1 F1 st1 k1 o1 => ⟨ρ1, I, F1, _, ρ', st1, rs, ev, fun σ2 F2 st2 k2 o2 => ?_⟩⟩
        refine q σ2 F2 st2 (fun i hi => ?_) fun a ha => o1 a (o2 a ha)
        simp only [tgsSlots, List.mem_append, not_or] at hi
        rw [k2 i hi.2, k1 i hi.1]
      · cases ev
end

/-! ### what is walked -/
/-- what an iterator yields, as the evaluator sees it -/
def Wk (C : KC) (I : Hp) (σ : St) (J : It) : Its → Prop
  | .l xs => ∀ (k : Nat) (I' H' : Hp), Same I I' → Same I' H' → (xs[k]? = none → J.stop k H') ∧
      ∀ d, xs[k]? = some d → J.go k H' ∧ ∀ x H3, J.yld k H' x H3 → ∃ I3, Same I' I3 ∧ Same H' H3 ∧ Same I3 H3 ∧ (∀ a, I3 a ≠ none → I' a ≠ none ∨ H' a = none) ∧ RF C I3 d x
  | .v i => ∀ (k : Nat) (I' H' : Hp) (σ' : St) (ρ' : Nv) (Fs' : Fp) c xs, StOk C I' H' σ' ρ' Fs' → σ'[i]? = σ[i]? → ρ'[i]? = some (some c) → itemsL? c = some xs → (xs[k]? = none → J.stop k H') ∧
      ∀ d, xs[k]? = some d → J.go k H' ∧ ∀ x H3, J.yld k H' x H3 → H3 = H' ∧ RF C I' d x
def tS (C : KC) (f : Nv → Option (Its × Nv)) : TI := fun σ H R => ∃ ρ I Fs its ρ', StOk C I H σ ρ Fs ∧ f ρ = some (its, ρ') ∧
  ∀ I' H' Fs' J, StOk C I' H' σ ρ' Fs' → Step I H (Own Fs) I' H' (Own Fs') → Wk C I' σ J its → R J H'
theorem PI.imp {X : Cx} {tg e : Expr} {t t' : TI} (h : PI X tg e t) (k : ∀ σ H Q, t' σ H Q → t σ H Q) : PI X tg e t' := ⟨fun pins s σ H Q I q => h.run pins s σ H Q I (k σ H Q q)⟩
theorem PI.or {X : Cx} {tg e : Expr} {t t' : TI} (h : PI X tg e t) (h' : PI X tg e t') : PI X tg e (fun σ H R => t σ H R ∨ t' σ H R) := ⟨fun pins s σ H Q I q => q.elim (h.run pins s σ H Q I) (h'.run pins s σ H Q I)⟩
theorem range_get {lo : Int} {n k : Nat} {f : Nat → D} : (((List.range n).map f)[k]? = none → n ≤ k) ∧ ∀ d, ((List.range n).map f)[k]? = some d → k < n ∧ d = f k := by
  rw [List.getElem?_map]
  by_cases hk : k < n
  · rw [List.getElem?_range hk]
    exact ⟨(fun z => nomatch z), fun d z => ⟨hk, (Option.some.inj z).symm⟩⟩
  · rw [List.getElem?_eq_none (by simpa using Nat.le_of_not_lt hk)]
    exact ⟨fun _ => Nat.le_of_not_lt hk, (fun d z => nomatch z)⟩
theorem wk_range {I : Hp} {σ : St} {lo : Int} {n : Nat} : Wk C I σ (Itr lo n) (.l ((List.range n).map fun (k : Nat) => D.int (lo + k))) := fun k I' H' s s' => by
  obtain ⟨h1, h2⟩ := range_get (lo := lo) (n := n) (k := k) (f := fun (k : Nat) => D.int (lo + k))
  refine ⟨h1, fun d hd => ?_⟩
  obtain ⟨hk, rfl⟩ := h2 d hd
  refine ⟨hk, fun x H3 ⟨e1, e2⟩ => ?_⟩
  subst e1 e2
  exact ⟨I', Same.refl _, Same.refl _, s', fun a z => .inl z, .int _⟩
theorem wk_rangeC {I : Hp} {σ : St} {lo c : Int} {n : Nat} : Wk C I σ (Itc lo c n) (.l ((List.range n).map fun (k : Nat) => D.int (lo + k * c))) := fun k I' H' s s' => by
  obtain ⟨h1, h2⟩ := range_get (lo := lo) (n := n) (k := k) (f := fun (k : Nat) => D.int (lo + k * c))
  refine ⟨h1, fun d hd => ?_⟩
  obtain ⟨hk, rfl⟩ := h2 d hd
  refine ⟨hk, fun x H3 ⟨e1, e2⟩ => ?_⟩
  subst e1 e2
  exact ⟨I', Same.refl _, Same.refl _, s', fun a z => .inl z, .int _⟩
theorem wk_list {I : Hp} {σ : St} {a : Addr} {vs : List V} {ds : List D} (h : SqL C.K I a vs) (t : RFs C I ds vs) : Wk C I σ (Itl C.K a) (.l ds) := fun k I' H' s s' => by
  have hs : SqL C.K H' a vs := Same.seq (Same.trans s s') h
  refine ⟨fun z => ⟨vs, hs, by rw [← t.length]; exact List.getElem?_eq_none_iff.mp z⟩, fun d hd => ?_⟩
  obtain ⟨v, hv, r⟩ := t.get' hd
  refine ⟨⟨vs, v, hs, hv⟩, fun x H3 ⟨e1, e2⟩ => ?_⟩
  subst e1
  have := e2 vs hs
  rw [hv] at this
  cases this
  exact ⟨I', Same.refl _, Same.refl _, s', fun a z => .inl z, r.mono s⟩
theorem wk_tup {I : Hp} {σ : St} {a : Addr} {vs : List V} {ds : List D} (h : SqT C.K I a vs) (t : RFs C I ds vs) : Wk C I σ (Itt C.K a) (.l ds) := fun k I' H' s s' => by
  have hs : SqT C.K H' a vs := Same.seqT (Same.trans s s') h
  refine ⟨fun z => ⟨vs, hs, by rw [← t.length]; exact List.getElem?_eq_none_iff.mp z⟩, fun d hd => ?_⟩
  obtain ⟨v, hv, r⟩ := t.get' hd
  refine ⟨⟨vs, v, hs, hv⟩, fun x H3 ⟨e1, e2⟩ => ?_⟩
  subst e1
  have := e2 vs hs
  rw [hv] at this
  cases this
  exact ⟨I', Same.refl _, Same.refl _, s', fun a z => .inl z, r.mono s⟩
theorem Rp.itemsL {I H : Hp} {c : D} {v : V} {F : List Addr} {xs : List D} (s : Same I H) (r : Rp C I H c v F) (e : itemsL? c = some xs) : ∃ (a : Addr) (vs : List V), v = .ref a ∧ SqL C.K H a vs ∧ RFs C I xs vs := by
  unfold itemsL? at e
  split at e <;> cases e
  · obtain ⟨a, vs, rfl, hs, _, _, t⟩ := r.lst s
    exact ⟨a, vs, rfl, hs, t (by decide)⟩
  · obtain ⟨a, vs, rfl, hs, _, _, t⟩ := r.lst s
    exact ⟨a, vs, rfl, hs, t (by decide)⟩
  · obtain ⟨a, vs, rfl, hs, _, _, t⟩ := r.lst s
    exact ⟨a, vs, rfl, hs, t (by decide)⟩
theorem wk_slot {I : Hp} {σ : St} {i : Nat} {a : Addr} (h : σ[i]? = some (some (.ref a))) : Wk C I σ (Itl C.K a) (.v i) := fun k I' H' σ' ρ' Fs' c xs st hσ hc hx => by
  obtain ⟨v, hv, r⟩ := st.rep i c hc
  rw [hσ, h] at hv
  cases hv
  obtain ⟨b, vs, e, hs, t⟩ := r.itemsL st.same hx
  cases e
  refine ⟨fun z => ⟨vs, hs, by rw [← t.length]; exact List.getElem?_eq_none_iff.mp z⟩, fun d hd => ?_⟩
  obtain ⟨u, hu, ru⟩ := t.get' hd
  refine ⟨⟨vs, u, hs, hu⟩, fun x H3 ⟨e1, e2⟩ => ?_⟩
  have := e2 vs hs
  rw [hu] at this
  cases this
  exact ⟨e1, ru⟩
theorem bltOk_un {n : Str} (h : bltOk W sc n = true) : n ∈ W.B ∧ glB sc n = true ∧ (!odd n) = true := by
  unfold bltOk at h
  simp only [Bool.and_eq_true, decide_eq_true_eq] at h
  exact ⟨h.1.1, h.1.2, h.2⟩
theorem rngD_un {i j : Int} {xs : List D} (h : rngD i j 1 = some xs) : (-(2 ^ 62) ≤ i ∧ i < 2 ^ 62 ∧ -(2 ^ 62) ≤ j ∧ j < 2 ^ 62) ∧ xs = (List.range (j - i).toNat).map fun (k : Nat) => D.int (i + k) := by
  unfold rngD at h
  split at h
  · rename_i q
    cases h
    exact ⟨q.2, rfl⟩
  · rw [if_neg (fun z => absurd z.1 (by decide))] at h
    cases h
theorem rngD_down {i j : Int} {xs : List D} (h : rngD i j (-1) = some xs) : (-(2 ^ 62) ≤ i ∧ i < 2 ^ 62 ∧ -(2 ^ 62) ≤ j ∧ j < 2 ^ 62) ∧ xs = (List.range (i - j).toNat).map fun (k : Nat) => D.int (i + k * (-1)) := by
  unfold rngD at h
  rw [if_neg (fun z => absurd z.1 (by decide))] at h
  split at h
  · rename_i q
    cases h
    exact ⟨⟨by omega, by omega, by omega, by omega⟩, rfl⟩
  · cases h
theorem pi_rng1 (h : XOk C W sc X) {tg e : Expr} {np pos : Pos} {b : E} (hb : bltOk W sc "range" = true) (hp : plainE e = true) (ih : PE X e (tR C (evE G b))) : PI X tg (.Call (.Name "range" np) [e] [] pos) (tS C (evSrc G (.rng1 b))) := by
  obtain ⟨hB, hg, hd⟩ := bltOk_un hb
  refine PI.imp (pi_range1 (h.glo hg) (h.blt _ hB) (pa_cons ih pa_nil (starEach_plain hp)) (starEach_plain hp)) fun σ H R q => ?_
  obtain ⟨ρ, I, Fs, its, ρ', st, ev, q⟩ := q
  unfold evSrc at ev
  split at ev
  · rename_i j ρ1 h1
    cases z : rngD 0 j 1 with
    | none => rw [z] at ev; cases ev
    | some xs =>
      rw [z] at ev
      cases ev
      obtain ⟨bd, rfl⟩ := rngD_un z
      refine ⟨ρ, I, Fs, _, _, st, h1, fun I1 H1 F1 F v st1 r dj s1 => ⟨j, by rw [r.int], bd.2.2.1, bd.2.2.2, ?_⟩⟩
      refine q I1 H1 F1 _ st1 (s1.weak fun c z => .inl z) ?_
      have w := wk_range (C := C) (I := I1) (σ := σ) (lo := 0) (n := j.toNat)
      rw [Int.sub_zero]
      exact w
  · cases ev
theorem pi_rng2 (h : XOk C W sc X) {tg e e' : Expr} {np pos : Pos} {a b : E} (hb : bltOk W sc "range" = true) (hp : plainE e = true) (hp' : plainE e' = true) (ia : PE X e (tR C (evE G a))) (ib : PE X e' (tR C (evE G b))) : PI X tg (.Call (.Name "range" np) [e, e'] [] pos) (tS C (evSrc G (.rng2 a b))) := by
  obtain ⟨hB, hg, hd⟩ := bltOk_un hb
  refine PI.imp (pi_range2 (h.glo hg) (h.blt _ hB) (pa_cons ia (pa_cons ib pa_nil (starEach_plain hp')) (starEach_plain hp)) (by rw [starEach_plain hp, starEach_plain hp']; rfl) (starEach_plain hp')) fun σ H R q => ?_
  obtain ⟨ρ, I, Fs, its, ρ', st, ev, q⟩ := q
  unfold evSrc at ev
  split at ev
  · rename_i i ρ1 h1
    split at ev
    · rename_i j ρ2 h2
      cases z : rngD i j 1 with
      | none => rw [z] at ev; cases ev
      | some xs =>
        rw [z] at ev
        cases ev
        obtain ⟨bd, rfl⟩ := rngD_un z
        refine ⟨ρ, I, Fs, _, _, st, h1, fun I1 H1 F1 F v st1 r dj s1 => ⟨ρ1, I1, F1, _, _, st1, h2, fun I2 H2 F2 F' v' st2 r2 dj2 s2 => ⟨i, j, by rw [r.int, r2.int], bd, ?_⟩⟩⟩
        exact q I2 H2 F2 _ st2 ((s1.weak fun c z => .inl z).trans (s2.weak fun c z => .inl z)) wk_range
    · cases ev
  · cases ev
theorem pi_rng3 (h : XOk C W sc X) {tg e e' : Expr} {np pos p1 p2 : Pos} {k : Int} {j0 : Nat} {a b : E} {c : Int} (hc : c = -k) (hb : bltOk W sc "range" = true) (hp : plainE e = true) (hp' : plainE e' = true) (ia : PE X e (tR C (evE G a))) (ib : PE X e' (tR C (evE G b))) :
    PI X tg (.Call (.Name "range" np) [e, e', .UnaryOp .USub (.Constant (.int k) j0 p1) p2] [] pos) (tS C (evSrc G (.rng3 a b c))) := by
  obtain ⟨hB, hg, hd⟩ := bltOk_un hb
  have ik : PE X (.UnaryOp .USub (.Constant (.int k) j0 p1) p2) (tUn (rU fun i => .int (-i)) (tC (.int k))) := pe_un un_neg pe_int
  refine PI.imp (pi_range3 (h.glo hg) (h.blt _ hB) (pa_cons ia (pa_cons ib (pa_cons ik pa_nil (by rfl)) (starEach_plain hp')) (starEach_plain hp)) (starEach_plain hp) (by rw [starEach_plain hp']; rfl)) fun σ H R q => ?_
  obtain ⟨ρ, I, Fs, its, ρ', st, ev, q⟩ := q
  unfold evSrc at ev
  split at ev
  · rename_i i ρ1 h1
    split at ev
    · rename_i j ρ2 h2
      split at ev
      · rename_i hc1
        cases z : rngD i j c with
        | none => rw [z] at ev; cases ev
        | some xs =>
          rw [z] at ev
          cases ev
          rw [hc1] at z
          obtain ⟨bd, rfl⟩ := rngD_down z
          refine ⟨ρ, I, Fs, _, _, st, h1, fun I1 H1 F1 F v st1 r dj s1 => ⟨ρ1, I1, F1, _, _, st1, h2, fun I2 H2 F2 F' v' st2 r2 dj2 s2 => ⟨k, rfl, i, j, -1, (i - j).toNat, by rw [r.int, r2.int]; show [V.int i, V.int j, V.int (-k)] = _; rw [← hc, hc1], RgC.neg bd.1 bd.2.1 bd.2.2.1 bd.2.2.2, ?_⟩⟩⟩
          exact q I2 H2 F2 _ st2 ((s1.weak fun c z => .inl z).trans (s2.weak fun c z => .inl z)) wk_rangeC
      · cases ev
    · cases ev
  · cases ev
theorem pi_slot (h : XOk C W sc X) {tg : Expr} {i : Nat} {n : Str} {pos : Pos} (ho : nameOk W sc i n = true) : PI X tg (.Name n pos) (tS C (evSrc G (.v i))) := PI.imp (pi_list (name_pe h ho)) fun σ H R q => by
  obtain ⟨ρ, I, Fs, its, ρ', st, ev, q⟩ := q
  unfold evSrc at ev
  split at ev
  · rename_i c hc
    split at ev
    · rename_i xs hx
      cases ev
      obtain ⟨v, hv, r⟩ := st.rep i c (join_some hc)
      obtain ⟨a, vs, rfl, hs, t⟩ := r.itemsL st.same hx
      exact ⟨_, hv, a, rfl, ⟨vs, by rw [h.hK]; exact hs⟩, q I H Fs _ st (Step.refl _ _ _) (by rw [h.hK]; exact wk_slot hv)⟩
    · cases ev
  · cases ev
theorem pi_val (h : XOk C W sc X) {tg x : Expr} {e : E} (ih : PE X x (tR C (evE G e))) : PI X tg x (tS C (evSrc G (.val e))) := by
  have pf := PE.imp ih (fun σ H Q => tF_tR (C := C) (f := evE G e) (σ := σ) (H := H) (Q := Q))
  have pl : PI X tg x (fun σ H R => ∃ ρ I Fs d ρ' m xs, StOk C I H σ ρ Fs ∧ evE G e ρ = some (d, ρ') ∧ freeze d = .lst m xs ∧ m ≠ .dp ∧ ∀ I' H' Fs' J, StOk C I' H' σ ρ' Fs' → Step I H (Own Fs) I' H' (Own Fs') → Wk C I' σ J (.l xs) → R J H') := PI.imp (pi_list pf) fun σ H R q => by
    obtain ⟨ρ, I, Fs, d, ρ', m, xs, st, ev, ef, hm, q⟩ := q
    refine ⟨ρ, I, Fs, d, ρ', st, ev, fun I1 H1 F1 v st1 r s1 => ?_⟩
    rw [ef] at r
    cases r with
    | lst e t => exact ⟨_, rfl, ⟨_, .inl (Same.rd st1.same e)⟩, q I1 H1 F1 _ st1 s1 (by rw [h.hK]; exact wk_list (.inl e) t)⟩
    | lstK e t => exact ⟨_, rfl, ⟨_, by rw [h.hK]; exact Same.seq st1.same e⟩, q I1 H1 F1 _ st1 s1 (by rw [h.hK]; exact wk_list e t)⟩
  have pt : PI X tg x (fun σ H R => ∃ ρ I Fs d ρ' xs, StOk C I H σ ρ Fs ∧ evE G e ρ = some (d, ρ') ∧ freeze d = .tup xs ∧ ∀ I' H' Fs' J, StOk C I' H' σ ρ' Fs' → Step I H (Own Fs) I' H' (Own Fs') → Wk C I' σ J (.l xs) → R J H') := PI.imp (pi_tup pf) fun σ H R q => by
    obtain ⟨ρ, I, Fs, d, ρ', xs, st, ev, ef, q⟩ := q
    refine ⟨ρ, I, Fs, d, ρ', st, ev, fun I1 H1 F1 v st1 r s1 => ?_⟩
    rw [ef] at r
    cases r with
    | tup e t => exact ⟨_, rfl, ⟨_, by rw [h.hK]; exact Same.seqT st1.same e⟩, q I1 H1 F1 _ st1 s1 (by rw [h.hK]; exact wk_tup e t)⟩
  refine PI.imp (PI.or pl pt) fun σ H R q => ?_
  obtain ⟨ρ, I, Fs, its, ρ', st, ev, q⟩ := q
  unfold evSrc at ev
  split at ev
  · rename_i d ρ1 h1
    cases z : items? (freeze d) with
    | none => rw [z] at ev; cases ev
    | some xs =>
      rw [z] at ev
      cases ev
      unfold items? at z
      split at z <;> cases z
      · rename_i ef; exact .inl ⟨ρ, I, Fs, d, _, _, xs, st, h1, ef, by decide, q⟩
      · rename_i ef; exact .inl ⟨ρ, I, Fs, d, _, _, xs, st, h1, ef, by decide, q⟩
      · rename_i ef; exact .inl ⟨ρ, I, Fs, d, _, _, xs, st, h1, ef, by decide, q⟩
      · rename_i ef; exact .inr ⟨ρ, I, Fs, d, _, xs, st, h1, ef, q⟩
  · cases ev
end
end Kw

set_option maxRecDepth 100000
set_option maxHeartbeats 4000000
/-! Kw12: comprehensions, and all expressions. -/
namespace Kw
open PySem L2
section
variable {C : KC} {W : Wh} {sc : Scope} {X : Cx} {G : Cal}
def wipeF (Fs : Fp) : List Nat → Fp
  | [] => Fs
  | v :: vs => (wipeF Fs vs).put v []
theorem own_wipeF {Fs : Fp} {a : Addr} : ∀ {vs : List Nat}, Own (wipeF Fs vs) a → Own Fs a
  | [], h => h
  | v :: vs, h => (own_put h).elim (fun z => nomatch z) own_wipeF
theorem StOk.wipe1 {I H : Hp} {σ : St} {ρ : Nv} {Fs : Fp} (st : StOk C I H σ ρ Fs) (i : Nat) : StOk C I H (σ.set i none) (ρ.set i none) (Fs.put i []) := by
  have d := st.drop i
  refine ⟨d.same, by simp [st.len], fun j e h => ?_, d.emp, d.dj⟩
  obtain ⟨v, hv, r⟩ := d.rep j e h
  refine ⟨v, ?_, r⟩
  by_cases q : j = i
  · subst q
    by_cases hl : j < ρ.length
    · rw [List.getElem?_set_self hl] at h; cases h
    · rw [List.getElem?_eq_none (by simpa using hl)] at h; cases h
  · rw [List.getElem?_set_ne (Ne.symm q)]
    exact hv
theorem StOk.wipe {I H : Hp} {σ : St} {ρ : Nv} {Fs : Fp} (st : StOk C I H σ ρ Fs) : ∀ vs : List Nat, StOk C I H (L2.wipe σ vs) (wipeE ρ vs) (wipeF Fs vs)
  | [] => st
  | v :: vs => (StOk.wipe st vs).wipe1 v
/-- behind the block -/
theorem StOk.unwipe {I H : Hp} {σ : St} {ρ : Nv} {Fs : Fp} {vs : List Nat} (st : StOk C I H (L2.wipe σ vs) ρ Fs) : StOk C I H σ ρ Fs :=
  ⟨st.same, by rw [← st.len, wipe_length], fun i d h => by
    obtain ⟨v, hv, r⟩ := st.rep i d h
    exact ⟨v, (wipe_some hv).1, r⟩, st.emp, st.dj⟩
theorem StOk.rest {I1 H1 I2 H2 : Hp} {σ : St} {ρ1 ρ2 : Nv} {F1 F2 : Fp} (st1 : StOk C I1 H1 σ ρ1 F1) (s : Same I1 I2) (st2 : StOk C I2 H2 σ ρ2 F2) : ∀ vs : List Nat, ∃ F3, StOk C I2 H2 σ (restE ρ1 ρ2 vs) F3 ∧ ∀ a, Own F3 a → Own F2 a
  | [] => ⟨F2, st2, fun _ z => z⟩
  | v :: vs => by
    obtain ⟨F3, st3, own⟩ := StOk.rest st1 s st2 vs
    unfold restE
    split
    · rename_i d hd
      split
      · rename_i hc
        obtain ⟨u, hu, r⟩ := st1.rep v d (join_some hd)
        obtain ⟨rf, _⟩ := RF.rp_fz r hc.1
        exact ⟨_, st3.putD hc.2 hu (.fz (rf.mono s)) (fun a ha => nomatch ha), fun a ha => (own_put ha).elim (fun z => nomatch z) (own a)⟩
      · exact ⟨F3, st3, own⟩
    · exact ⟨F3, st3, own⟩

/-! ### the block's context -/
theorem lookup_rel {f : Str × NameKind → Str × NameKind} (h1 : ∀ p, (f p).1 = p.1) : ∀ {names : List (Str × NameKind)} {x : Str} {k : NameKind}, names.lookup x = some k → ∃ p, p.2 = k ∧ (names.map f).lookup x = some (f p).2
  | [], _, _, h => by simp at h
  | (n, k0) :: r, x, k, h => by
    rw [List.map_cons]
    cases hf : f (n, k0) with
    | mk n' k' =>
      have e : n' = n := by have := h1 (n, k0); rw [hf] at this; exact this
      subst e
      cases hx : x == n' with
      | true =>
        simp only [List.lookup_cons, hx] at h ⊢
        cases h
        exact ⟨(n', k0), rfl, by rw [hf]⟩
      | false =>
        simp only [List.lookup_cons, hx] at h ⊢
        exact lookup_rel h1 h
/-- the kinds of a block's names where it runs -/
def relF (env : PySem.Env) : Str × NameKind → Str × NameKind := fun (n, k) => if (k == .free && env.scope.kind == .function && env.kindOf n == some .cell) then (n, .cell) else (n, k)
theorem xok_blk (h : XOk C W sc X) {scope : Scope} {own : List (Str × Nat)} (hb : blkC W.N sc scope own = true) (s : Shared) (H : Hp) (D : Addr) (cl : List (Str × Addr)) (fp : List Addr) : XOk C W scope (X.blk s H scope (compEnvC scope cl D X.env) fp) := by
  have fst : ∀ p : Str × NameKind, (relF X.env p).1 = p.1 := fun ⟨n, k⟩ => by
    unfold relF
    simp only
    split <;> rfl
  have lk : ∀ {x : Str} {k : NameKind}, scope.names.lookup x = some k → (compEnvC scope cl D X.env).scope.names.lookup x = some k ∨ (k = .free ∧ (compEnvC scope cl D X.env).scope.names.lookup x = some .cell) := fun {x k} e => by
    obtain ⟨⟨n, k0⟩, rfl, q⟩ := lookup_rel fst e
    have q' : (compEnvC scope cl D X.env).scope.names.lookup x = some ((relF X.env (n, k0)).2) := q
    rw [q']
    unfold relF
    simp only
    split
    · rename_i c
      simp only [Bool.and_eq_true, beq_iff_eq] at c
      exact .inr ⟨c.1.1, rfl⟩
    · exact .inl rfl
  have ok := blkOk_by hb
  refine ⟨h.hN, h.nd, h.hK, h.calm, rfl, ok.kind, fun x e => ?_, fun x e => ?_, fun x e => ?_, fun x e => ?_, h.blt, h.hu, h.gi, h.gs⟩
  · rcases lk e with z | ⟨z, _⟩
    · exact z
    · cases z
  · rcases lk e with z | ⟨z, _⟩
    · exact ⟨z, by show (scope.names.lookup x == some NameKind.cell) = true; rw [e]; rfl⟩
    · cases z
  · rcases lk e with z | ⟨_, z⟩
    · exact .inr z
    · exact .inl z
  · rcases lk e with z | ⟨z, _⟩
    · exact z
    · cases z
theorem fnAt_blk (h : FnAt C W G X) {scope : Scope} (s : Shared) (H : Hp) (cenv : PySem.Env) (fp : List Addr) : FnAt C W G (X.blk s H scope cenv fp) := ⟨h.call⟩
theorem blkOk_env (h : XOk C W sc X) {scope : Scope} {own : List (Str × Nat)} (hb : blkC W.N sc scope own = true) : BlkOk X.N X.env.scope scope own := by
  have ok := blkOk_by hb
  refine ⟨ok.kind, ok.uniq, by rw [h.hN]; exact ok.ix, fun y hy e => ?_, by rw [h.hN]; exact ok.own⟩
  rcases ok.free y hy e with z | z
  · exact .inl (h.ce _ z).1
  · exact h.fr _ z

/-! ### comprehensions -/
/-- one turn, as the evaluator has it -/
def cStep (G : Cal) (el : E) (tg : Tg) (ifs : List T) (own : List Nat) : D → Nv → Option (Option D × Nv) := fun x r => match bindT tg x (wipeE r own) with
  | some r1 => match evIfs G ifs r1 with
    | some (true, r2) => match evE G el r2 with
      | some (d, r3) => some (some (freeze d), r3)
      | none => none
    | some (false, r2) => some (none, r2)
    | none => none
  | none => none
def tI (C : KC) (G : Cal) (ifs : List T) : TT := tT C (evIfs G ifs)
/-- one turn's reading -/
theorem comp_turn {el : E} {tg : Tg} {ifs : List T} {own : List Nat} (htg : ∀ i ∈ tgSlots tg, i ∈ own) {σ : St} {I H : Hp} {Fs : Fp} {ρ : Nv} {x : D} {v : V} {D0 : Addr} {Nx : Hp → Prop} {r : Option D × Nv} {ds : List D} {vs : List V}
    (st : StOk C I H (L2.wipe σ own) (wipeE ρ own) Fs) (rx : RF C I x v) (ev : cStep G el tg ifs own x ρ = some r) (hD : H D0 = some (.lst vs)) (nD : I D0 = none) (oD : ¬ Own Fs D0) (hds : RFs C I ds vs) (hz : r.1.isSome = true → ds.length < lineN)
    (nx : ∀ I' H' Fs' vs', StOk C I' H' (L2.wipe σ own) (wipeE r.2 own) Fs' → Step I H (fun a => Own Fs a ∨ a = D0) I' H' (fun a => Own Fs' a ∨ a = D0) → H' D0 = some (.lst vs') → I' D0 = none → ¬ Own Fs' D0 →
      RFs C I' (match r.1 with | some d => ds ++ [d] | none => ds) vs' → Nx H') :
    tG C tg v (L2.wipe σ own) H fun σ2 H2 => L2.wipe σ2 own = L2.wipe σ own ∧ tI C G ifs σ2 H2 fun b H3 =>
      if b = true then tR C (evE G el) σ2 H3 fun y H4 => ∃ acc, H4 D0 = some (.lst acc) ∧ acc.length < sizeLine ∧ Nx (upd H4 D0 (.lst (acc ++ [y]))) else Nx H3 := by
  unfold cStep at ev
  split at ev
  · rename_i r1 h1
    refine ⟨_, I, Fs, x, r1, st, rx, h1, fun σ2 F2 st2 kσ own2 => ?_⟩
    have we : L2.wipe σ2 own = L2.wipe σ own := by
      apply List.ext_getElem?
      intro i
      by_cases hi : i ∈ own
      · have none_at : ∀ {τ : St} {vs : List Nat}, i ∈ vs → (L2.wipe τ vs)[i]? = if i < τ.length then some none else none := by
          intro τ vs
          induction vs with
          | nil => intro z; exact nomatch z
          | cons w ws ih =>
            intro z
            show ((L2.wipe τ ws).set w none)[i]? = _
            by_cases q : w = i
            · subst q
              by_cases l : w < τ.length
              · rw [List.getElem?_set_self (by rw [wipe_length]; exact l), if_pos l]
              · rw [List.getElem?_eq_none (by rw [List.length_set, wipe_length]; omega), if_neg l]
            · rw [List.getElem?_set_ne q]
              exact ih ((List.mem_cons.mp z).resolve_left fun e => q e.symm)
        rw [none_at hi, none_at hi]
        have := st2.len
        have l1 := st.len
        rw [wipe_length] at l1
        have l2 : r1.length = (wipeE ρ own).length := bindT_len h1
        rw [show σ2.length = σ.length by omega]
      · have out_at : ∀ {τ : St} {vs : List Nat}, i ∉ vs → (L2.wipe τ vs)[i]? = τ[i]? := by
          intro τ vs
          induction vs with
          | nil => intro _; rfl
          | cons w ws ih =>
            intro z
            show ((L2.wipe τ ws).set w none)[i]? = _
            rw [List.getElem?_set_ne (fun e => z (by rw [e]; exact List.mem_cons_self))]
            exact ih fun q => z (List.mem_cons_of_mem _ q)
        rw [out_at hi, out_at hi]
        have := kσ i fun q => hi (htg i q)
        rw [this, out_at hi]
    refine ⟨we, ?_⟩
    have live : ∀ {I' H' : Hp} {O O' : Addr → Prop}, Step I H O I' H' O' → ¬ O D0 → H' D0 = H D0 ∧ I' D0 = none := fun {I' H' O O'} s no => by
      have hn : H D0 ≠ none := by rw [hD]; exact fun z => nomatch z
      refine ⟨s.keep D0 hn no, ?_⟩
      cases z : I' D0 with
      | none => rfl
      | some o => exact ((s.newI D0 (by rw [z]; exact fun z => nomatch z)).elim (fun q => q nD) fun q => q.elim no hn).elim
    split at ev
    · rename_i r2 h2
      split at ev
      · rename_i d r3 h3
        cases ev
        refine ⟨r1, I, F2, true, r2, st2, h2, fun I3 H3 F3 st3 s3 => iteT ?_⟩
        refine tF_tR ⟨r2, I3, F3, d, r3, st3, h3, fun I4 H4 F4 y st4 rf s4 => ?_⟩
        have s34 := s3.trans s4
        have no2 : ¬ Own F2 D0 := fun z => oD (own2 D0 z)
        obtain ⟨e4, n4⟩ := live s34 no2
        rw [hD] at e4
        have no4 : ¬ Own F4 D0 := fun z => (s34.newO D0 z).elim no2 fun q => by rw [hD] at q; cases q
        have lds : ds.length < lineN := hz rfl
        refine ⟨vs, e4, by rw [← hds.length, ← sz_line]; exact lds, ?_⟩
        -- the new item
        have sI : Same I4 (upd H4 D0 (.lst (vs ++ [y]))) := fun b o q => by
          rw [upd_ne (fun z => by rw [z, n4] at q; cases q)]
          exact st4.same b o q
        have st5 : StOk C I4 (upd H4 D0 (.lst (vs ++ [y]))) σ2 r3 F4 := st4.move (Same.refl _) sI fun a ha => ⟨upd_ne fun z => no4 (by rw [← z]; exact ha), (st4.live ha).2⟩
        have st6 := st5.wipe own
        rw [we] at st6
        refine nx I4 _ _ (vs ++ [y]) st6 ?_ upd_same n4 (fun z => no4 (own_wipeF z)) ((hds.mono s34.ii).append (.cons rf .nil))
        refine ⟨s34.ii, fun a z => (s34.newI a z).elim .inl fun q => q.elim (fun q => .inr (.inl (.inl (own2 a q)))) fun q => .inr (.inr q), fun a z => ?_, fun a hn no => ?_⟩
        · rcases z with z | z
          · exact (s34.newO a (own_wipeF z)).elim (fun q => .inl (.inl (own2 a q))) .inr
          · exact .inl (.inr z)
        · rw [upd_ne fun z => no (.inr z)]
          exact s34.keep a hn fun q => no (.inl (own2 a q))
      · cases ev
    · rename_i r2 h2
      cases ev
      refine ⟨r1, I, F2, false, r2, st2, h2, fun I3 H3 F3 st3 s3 => iteF ?_⟩
      have no2 : ¬ Own F2 D0 := fun z => oD (own2 D0 z)
      obtain ⟨e4, n4⟩ := live s3 no2
      rw [hD] at e4
      have no4 : ¬ Own F3 D0 := fun z => (s3.newO D0 z).elim no2 fun q => by rw [hD] at q; cases q
      have st6 := st3.wipe own
      rw [we] at st6
      refine nx I3 H3 _ vs st6 ?_ e4 n4 (fun z => no4 (own_wipeF z)) (hds.mono s3.ii)
      refine ⟨s3.ii, fun a z => (s3.newI a z).elim .inl fun q => q.elim (fun q => .inr (.inl (.inl (own2 a q)))) fun q => .inr (.inr q), fun a z => ?_, fun a hn no => s3.keep a hn fun q => no (.inl (own2 a q))⟩
      rcases z with z | z
      · exact (s3.newO a (own_wipeF z)).elim (fun q => .inl (.inl (own2 a q))) .inr
      · exact .inl (.inr z)
    · cases ev
  · cases ev

theorem wipe_out {τ : St} {i : Nat} {vs : List Nat} (h : i ∉ vs) : (L2.wipe τ vs)[i]? = τ[i]? := by
  induction vs with
  | nil => rfl
  | cons w ws ih =>
    show ((L2.wipe τ ws).set w none)[i]? = _
    rw [List.getElem?_set_ne (fun e => h (by rw [e]; exact List.mem_cons_self))]
    exact ih fun q => h (List.mem_cons_of_mem _ q)
theorem wipeE_out {ρ : Nv} {i : Nat} {vs : List Nat} (h : i ∉ vs) : (wipeE ρ vs)[i]? = ρ[i]? := by
  induction vs with
  | nil => rfl
  | cons w ws ih =>
    show ((wipeE ρ ws).set w none)[i]? = _
    rw [List.getElem?_set_ne (fun e => h (by rw [e]; exact List.mem_cons_self))]
    exact ih fun q => h (List.mem_cons_of_mem _ q)
/-- what the evaluator's loop says of a turn -/
def Rt (C : KC) (G : Cal) (el : E) (tg : Tg) (ifs : List T) (own : List Nat) (σ : St) (I : Hp) (J : It) (dsF : List D) (ρ2 : Nv) (Rem : Nat → Nat → Nv → List D → Prop) : Prop :=
  ∀ k m ρ ds, Rem k m ρ ds → ∀ I' H' Fs, StOk C I' H' (L2.wipe σ own) (wipeE ρ own) Fs → Same I I' →
    (J.stop k H' ∧ ds = dsF ∧ ρ = ρ2) ∨ (∃ x r m', J.go k H' ∧ cStep G el tg ifs own x ρ = some r ∧ (r.1.isSome = true → ds.length < lineN) ∧ m' < m ∧ Rem (k + 1) m' r.2 (match r.1 with | some d => ds ++ [d] | none => ds) ∧
      ∀ v H3, J.yld k H' v H3 → ∃ I3, Same I' I3 ∧ Same H' H3 ∧ Same I3 H3 ∧ (∀ a, I3 a ≠ none → I' a ≠ none ∨ H' a = none) ∧ RF C I3 x v)
theorem comp_loop {el : E} {tg : Tg} {ifs : List T} {own : List Nat} (htg : ∀ i ∈ tgSlots tg, i ∈ own) {σ : St} {I H : Hp} {Fs : Fp} {ρ1 ρ2 : Nv} {dsF : List D} {J : It} {Q : VK} {Rem : Nat → Nat → Nv → List D → Prop}
    (st : StOk C I H σ ρ1 Fs) (rt : Rt C G el tg ifs own σ I J dsF ρ2 Rem) (start : ∃ m, Rem 0 m ρ1 [])
    (q : ∀ I' H' Fs' F v, StOk C I' H' σ (restE ρ1 (wipeE ρ2 own) own) Fs' → Rp C I' H' (.lst .ow dsF) v F → (∀ a ∈ F, ¬ Own Fs' a) → Step I H (Own Fs) I' H' (fun a => Own Fs' a ∨ a ∈ F) → Q v H') :
    ∀ D0, H D0 = none → ∃ Wv : Nat → Nat → Hp → Prop, (∃ m, Wv 0 m (upd H D0 (.lst []))) ∧ ∀ i m H, Wv i m H →
      (J.stop i H ∧ Q (.ref D0) H) ∨ (J.go i H ∧ ∃ Nx : Hp → Prop, (∀ H', Nx H' → ∃ m', m' < m ∧ Wv (i + 1) m' H') ∧ ∀ x H', J.yld i H x H' → tG C tg x (L2.wipe σ own) H' fun σ2 H2 => L2.wipe σ2 own = L2.wipe σ own ∧ tI C G ifs σ2 H2 fun b H3 =>
        if b = true then tR C (evE G el) σ2 H3 fun y H4 => ∃ acc, H4 D0 = some (.lst acc) ∧ acc.length < sizeLine ∧ Nx (upd H4 D0 (.lst (acc ++ [y]))) else Nx H3) := by
  intro D0 n0
  refine ⟨fun k m H' => ∃ ρ I' Fs' ds vs, Rem k m ρ ds ∧ StOk C I' H' (L2.wipe σ own) (wipeE ρ own) Fs' ∧ H' D0 = some (.lst vs) ∧ I' D0 = none ∧ ¬ Own Fs' D0 ∧ RFs C I' ds vs ∧ Step I H (Own Fs) I' H' (fun a => Own Fs' a ∨ a = D0), ?_, ?_⟩
  · obtain ⟨m, hm⟩ := start
    have sH : Same H (upd H D0 (.lst [])) := fun b o e => by rw [upd_ne (ne_of_none e n0)]; exact e
    have nI : I D0 = none := st.same.free n0
    have stw := st.wipe own
    have noD : ¬ Own (wipeF Fs own) D0 := fun z => (st.live (own_wipeF z)).1 n0
    refine ⟨m, ρ1, I, _, [], [], hm, stw.alloc (Same.refl _) sH (Same.trans st.same sH) (fun a z => .inl z), upd_same, nI, noD, .nil, ⟨Same.refl _, fun _ z => .inl z, fun a z => ?_, fun a hn _ => upd_ne fun e => hn (by rw [e]; exact n0)⟩⟩
    rcases z with z | z
    · exact .inl (own_wipeF z)
    · exact .inr (by rw [z]; exact n0)
  · rintro k m H1 ⟨ρ, I1, F1, ds, vs, hr, st1, hD, nD, oD, hds, s1⟩
    rcases rt k m ρ ds hr I1 H1 F1 st1 s1.ii with ⟨stop, rfl, rfl⟩ | ⟨x, r, m', go, ev, hz, hm, hr', yl⟩
    · refine .inl ⟨stop, ?_⟩
      obtain ⟨F3, st3, own3⟩ := StOk.rest st s1.ii st1.unwipe own
      refine q I1 H1 F3 [D0] _ st3 (.lstO hD nD hds) (fun a ha z => ?_) (s1.weak fun a z => ?_)
      · rw [List.mem_singleton.mp ha] at z
        exact oD (own3 D0 z)
      · rcases z with z | z
        · exact .inl (own3 a z)
        · exact .inr (List.mem_singleton.mp z)
    · refine .inr ⟨go, fun H' => ∃ ρ I' Fs' ds vs, Rem (k + 1) m' ρ ds ∧ StOk C I' H' (L2.wipe σ own) (wipeE ρ own) Fs' ∧ H' D0 = some (.lst vs) ∧ I' D0 = none ∧ ¬ Own Fs' D0 ∧ RFs C I' ds vs ∧ Step I H (Own Fs) I' H' (fun a => Own Fs' a ∨ a = D0), fun H' h => ⟨m', hm, h⟩, fun v H2 y => ?_⟩
      obtain ⟨I3, sI, sH, sS, nI, rf⟩ := yl v H2 y
      have st2 := st1.alloc sI sH sS nI
      have hD2 := sH _ _ hD
      have nD2 : I3 D0 = none := by
        cases z : I3 D0 with
        | none => rfl
        | some o => exact ((nI D0 (by rw [z]; exact fun z => nomatch z)).elim (fun q => q nD) fun q => by rw [hD] at q; cases q).elim
      have s2 : Step I H (Own Fs) I3 H2 (fun a => Own F1 a ∨ a = D0) := s1.trans ((Step.alloc sI sH nI (F := []) (fun _ z => nomatch z) _).weak fun c z => .inl z)
      refine comp_turn htg st2 rf ev hD2 nD2 oD (hds.mono sI) hz fun I' H' Fs' vs' st' sp hD' nD' oD' hds' => ?_
      exact ⟨r.2, I', Fs', _, vs', hr', st', hD', nD', oD', hds', s2.trans sp⟩
/-- over items that stand -/
theorem rt_l {el : E} {tg : Tg} {ifs : List T} {own : List Nat} {σ : St} {I : Hp} {J : It} {dsF : List D} {ρ2 : Nv} {xs : List D} (w : Wk C I σ J (.l xs)) :
    Rt C G el tg ifs own σ I J dsF ρ2 (fun k m ρ ds => m = xs.length - k ∧ k ≤ xs.length ∧ compL (cStep G el tg ifs own) (xs.drop k) ρ ds = some (dsF, ρ2)) := by
  rintro k m ρ ds ⟨rfl, hk, ev⟩ I' H' Fs st s
  obtain ⟨w1, w2⟩ := w k I' H' s st.same
  by_cases hlt : k < xs.length
  · have hd : xs.drop k = xs[k] :: xs.drop (k + 1) := List.drop_eq_getElem_cons hlt
    rw [hd] at ev
    unfold compL at ev
    obtain ⟨go, yl⟩ := w2 xs[k] (List.getElem?_eq_getElem hlt)
    have ylp : ∀ v H3, J.yld k H' v H3 → ∃ I3, Same I' I3 ∧ Same H' H3 ∧ Same I3 H3 ∧ (∀ a, I3 a ≠ none → I' a ≠ none ∨ H' a = none) ∧ RF C I3 xs[k] v := fun v H3 y => by
      obtain ⟨I3, a, b, c, d, e⟩ := yl v H3 y
      exact ⟨I3, a, b, c, d, e⟩
    split at ev
    · rename_i d ρ' h1
      split at ev
      · rename_i hz
        exact .inr ⟨xs[k], (some d, ρ'), xs.length - (k + 1), go, h1, fun _ => hz, by omega, ⟨rfl, hlt, ev⟩, ylp⟩
      · cases ev
    · rename_i ρ' h1
      exact .inr ⟨xs[k], (none, ρ'), xs.length - (k + 1), go, h1, (fun z => by cases z), by omega, ⟨rfl, hlt, ev⟩, ylp⟩
    · cases ev
  · have e : xs.drop k = [] := List.drop_eq_nil_of_le (by omega)
    rw [e] at ev
    unfold compL at ev
    cases ev
    exact .inl ⟨w1 (List.getElem?_eq_none (by omega)), rfl, rfl⟩
/-- over a name's list -/
theorem rt_v {el : E} {tg : Tg} {ifs : List T} {own : List Nat} {σ : St} {I : Hp} {J : It} {dsF : List D} {ρ2 : Nv} {i : Nat} (hi : i ∉ own) (w : Wk C I σ J (.v i)) :
    Rt C G el tg ifs own σ I J dsF ρ2 (fun k m ρ ds => compV (cStep G el tg ifs own) i m k ρ ds = some (dsF, ρ2)) := by
  rintro k m ρ ds ev I' H' Fs st s
  cases m with
  | zero => cases ev
  | succ m =>
    unfold compV at ev
    split at ev
    · rename_i c hc
      split at ev
      · rename_i xs hx
        have hc' : (wipeE ρ own)[i]? = some (some c) := by rw [wipeE_out hi]; exact join_some hc
        obtain ⟨w1, w2⟩ := w k I' H' _ _ Fs c xs st (wipe_out hi) hc' hx
        split at ev
        · rename_i hk
          cases ev
          exact .inl ⟨w1 hk, rfl, rfl⟩
        · rename_i x hk
          obtain ⟨go, yl⟩ := w2 x hk
          have ylp : ∀ v H3, J.yld k H' v H3 → ∃ I3, Same I' I3 ∧ Same H' H3 ∧ Same I3 H3 ∧ (∀ a, I3 a ≠ none → I' a ≠ none ∨ H' a = none) ∧ RF C I3 x v := fun v H3 y => by
            obtain ⟨rfl, r⟩ := yl v H3 y
            exact ⟨I', Same.refl _, Same.refl _, st.same, fun a z => .inl z, r⟩
          split at ev
          · rename_i d ρ' h1
            split at ev
            · rename_i hz
              exact .inr ⟨x, (some d, ρ'), m, go, h1, fun _ => hz, by omega, ev, ylp⟩
            · cases ev
          · rename_i ρ' h1
            exact .inr ⟨x, (none, ρ'), m, go, h1, (fun z => by cases z), by omega, ev, ylp⟩
          · cases ev
      · cases ev
    · cases ev
theorem foldedSet_not {x : Expr} {env : PySem.Env} (h : notSet x = true) : ∀ v, foldedSetIterable x env v = pure v := by
  intro v
  cases x <;> first | rfl | (exact absurd h (by simp [notSet]))
/-- what evE says of a comprehension -/
theorem comp_ev {el : E} {tg : Tg} {src : Src} {ifs : List T} {own : List Nat} {ρ ρ' : Nv} {d : D} (e : evE G (.comp el tg src ifs own) ρ = some (d, ρ')) : ∃ its ρ1 ds ρ2, evSrc G src ρ = some (its, ρ1) ∧
    (match its with | .l xs => compL (cStep G el tg ifs own) xs ρ1 [] | .v i => compV (cStep G el tg ifs own) i G.fuel 0 ρ1 []) = some (ds, ρ2) ∧ d = .lst .ow ds ∧ ρ' = restE ρ1 (wipeE ρ2 own) own := by
  have eq : evE G (.comp el tg src ifs own) ρ = match evSrc G src ρ with
      | some (its, ρ1) => match (match its with | .l xs => compL (cStep G el tg ifs own) xs ρ1 [] | .v i => compV (cStep G el tg ifs own) i G.fuel 0 ρ1 []) with
        | some (ds, ρ2) => some (.lst .ow ds, restE ρ1 (wipeE ρ2 own) own)
        | none => none
      | none => none := by
    rw [evE]
    rfl
  rw [eq] at e
  cases h1 : evSrc G src ρ with
  | none => rw [h1] at e; cases e
  | some p =>
    obtain ⟨its, ρ1⟩ := p
    rw [h1] at e
    cases its with
    | l xs =>
      cases h2 : compL (cStep G el tg ifs own) xs ρ1 [] with
      | none => simp only [h2] at e; cases e
      | some p2 =>
        obtain ⟨ds, ρ2⟩ := p2
        simp only [h2] at e
        cases e
        exact ⟨_, ρ1, ds, ρ2, rfl, h2, rfl, rfl⟩
    | v i =>
      cases h2 : compV (cStep G el tg ifs own) i G.fuel 0 ρ1 [] with
      | none => simp only [h2] at e; cases e
      | some p2 =>
        obtain ⟨ds, ρ2⟩ := p2
        simp only [h2] at e
        cases e
        exact ⟨_, ρ1, ds, ρ2, rfl, h2, rfl, rfl⟩
/-- a comprehension's reading -/
theorem comp_read {el : E} {tg : Tg} {src : Src} {ifs : List T} {own : List Nat} (htg : ∀ i ∈ tgSlots tg, i ∈ own) (hv : ∀ i, src = .v i → i ∉ own) {σ : St} {H : Hp} {Q : VK} (q : tR C (evE G (.comp el tg src ifs own)) σ H Q) :
    tLc (tS C (evSrc G src)) (tG C tg) (tI C G ifs) (tR C (evE G el)) own σ H Q := by
  obtain ⟨ρ, I, Fs, d, ρ', st, e, q⟩ := q
  obtain ⟨its, ρ1, ds, ρ2, h1, h2, rfl, rfl⟩ := comp_ev e
  refine ⟨ρ, I, Fs, its, ρ1, st, h1, fun I1 H1 F1 J st1 s1 w => ?_⟩
  have q' : ∀ I' H' Fs' F v, StOk C I' H' σ (restE ρ1 (wipeE ρ2 own) own) Fs' → Rp C I' H' (.lst .ow ds) v F → (∀ a ∈ F, ¬ Own Fs' a) → Step I1 H1 (Own F1) I' H' (fun a => Own Fs' a ∨ a ∈ F) → Q v H' := fun I' H' Fs' F v st' r dj s => q I' H' Fs' F v st' r dj (s1.trans s)
  cases its with
  | l xs => exact comp_loop htg st1 (rt_l w) ⟨xs.length - 0, rfl, Nat.zero_le _, h2⟩ q'
  | v i =>
    have hi : i ∉ own := by
      refine hv i ?_
      cases src with
      | v j =>
        unfold evSrc at h1
        split at h1
        · split at h1
          · cases h1; rfl
          · cases h1
        · cases h1
      | rng1 b =>
        exfalso
        unfold evSrc at h1
        split at h1
        · obtain ⟨_, _, z⟩ := Option.map_eq_some_iff.mp h1; cases z
        · cases h1
      | rng2 a b =>
        exfalso
        unfold evSrc at h1
        split at h1
        · split at h1
          · obtain ⟨_, _, z⟩ := Option.map_eq_some_iff.mp h1; cases z
          · cases h1
        · cases h1
      | rng3 a b c =>
        exfalso
        unfold evSrc at h1
        split at h1
        · split at h1
          · split at h1
            · obtain ⟨_, _, z⟩ := Option.map_eq_some_iff.mp h1; cases z
            · cases h1
          · cases h1
        · cases h1
      | val e =>
        exfalso
        unfold evSrc at h1
        split at h1
        · obtain ⟨_, _, z⟩ := Option.map_eq_some_iff.mp h1; cases z
        · cases h1
    exact comp_loop htg st1 (rt_v hi w) ⟨G.fuel, h2⟩ q'
theorem pts_of (h : XOk C W sc X) : ∀ {ifs : List T} {is : List Expr}, okIfs W sc ifs is = true → (∀ t ∈ ifs, ∀ e, okT W sc t e = true → PT X e (tT C (evT G t))) → PTs X is (tI C G ifs)
  | [], [], _, _ => ⟨fun pins s σ H Q I q => pts_nil.run pins s σ H Q I (by
      obtain ⟨ρ, J, Fs, b, ρ', st, e, q⟩ := q
      unfold evIfs at e
      cases e
      exact q J H Fs st (Step.refl _ _ _))⟩
  | [t], [e], ho, ih => ⟨fun pins s σ H Q I q => (pts_one (ih t List.mem_cons_self e (by simpa [okIfs] using ho))).run pins s σ H Q I (by
      obtain ⟨ρ, J, Fs, b, ρ', st, ev, q⟩ := q
      unfold evIfs at ev
      exact ⟨ρ, J, Fs, b, ρ', st, ev, q⟩)⟩
  | [], _ :: _, ho, _ => by simp [okIfs] at ho
  | [_], [], ho, _ => by simp [okIfs] at ho
  | [_], _ :: _ :: _, ho, _ => by simp [okIfs] at ho
  | _ :: _ :: _, [], ho, _ => by simp [okIfs] at ho
  | _ :: _ :: _, [_], ho, _ => by simp [okIfs] at ho
  | _ :: _ :: _, _ :: _ :: _, ho, _ => by simp [okIfs] at ho
end
end Kw

set_option maxRecDepth 100000
set_option maxHeartbeats 4000000
/-! Kw13: all expressions. -/
namespace Kw
open PySem L2
section
variable {C : KC} {W : Wh} {G : Cal}
mutual
theorem soundE : ∀ (e : E) (sc : Scope) (X : Cx), XOk C W sc X → FnAt C W G X → ∀ x : Expr, okE W sc e x = true → PE X x (tR C (evE G e))
  | .x e, sc, X, h, hf, x, ho => by
    unfold okE at ho
    exact r_x (soundX h e x ho)
  | .v i, sc, X, h, hf, x, ho => by
    unfold okE at ho
    split at ho
    · exact r_v h ho
    · cases ho
  | .mv i, sc, X, h, hf, x, ho => by
    unfold okE at ho
    split at ho
    · exact r_mv h ho
    · cases ho
  | .op p as, sc, X, h, hf, x, ho => by
    unfold okE at ho
    split at ho
    · rename_i es ha
      rw [Bool.and_eq_true] at ho
      refine r_op h ha (fun T n id q => ?_) ho.2 (soundEs as sc X h hf)
      have := ho.1
      rw [q] at this
      cases this
    · cases ho
  | .tup as, sc, X, h, hf, x, ho => by
    unfold okE at ho
    split at ho
    · rw [Bool.and_eq_true] at ho
      exact r_tup (pa_fs ho.1 ho.2 (soundEs as sc X h hf))
    · cases ho
  | .lst b as, sc, X, h, hf, x, ho => by
    unfold okE at ho
    split at ho
    · rw [Bool.and_eq_true] at ho
      exact r_lst (pa_fs ho.1 ho.2 (soundEs as sc X h hf))
    · cases ho
  | .ife t a b, sc, X, h, hf, x, ho => by
    unfold okE at ho
    split at ho
    · simp only [Bool.and_eq_true] at ho
      exact r_ife (soundT t sc X h hf _ ho.1.1) (soundE a sc X h hf _ ho.1.2) (soundE b sc X h hf _ ho.2)
    · cases ho
  | .call f as, sc, X, h, hf, x, ho => by
    unfold okE at ho
    split at ho
    · simp only [Bool.and_eq_true, decide_eq_true_eq] at ho
      obtain ⟨⟨⟨⟨⟨h1, h2⟩, h3⟩, h4⟩, h5⟩, h6⟩ := ho
      exact r_call h hf h1 h2 h3 h4 (fun z => by rw [z] at h5; cases h5) h6 (soundCs as sc X h hf)
    · cases ho
  | .pop i none, sc, X, h, hf, x, ho => by
    unfold okE at ho
    split at ho
    · simp only [Bool.and_eq_true, decide_eq_true_eq] at ho
      obtain ⟨⟨h1, rfl⟩, h3⟩ := ho
      exact r_pop0 h h1 h3
    · cases ho
  | .pop i (some a), sc, X, h, hf, x, ho => by
    unfold okE at ho
    split at ho
    · simp only [Bool.and_eq_true, decide_eq_true_eq] at ho
      obtain ⟨⟨⟨⟨h1, rfl⟩, h3⟩, h4⟩, h5⟩ := ho
      exact r_pop1 h h1 h3 h4 (soundE a sc X h hf _ h5)
    · cases ho
  | .comp el tg src ifs own, sc, X, h, hf, x, ho => by
    unfold okE at ho
    split at ho
    · rename_i elt t iter is scope pos
      simp only [Bool.and_eq_true, List.all_eq_true, decide_eq_true_eq] at ho
      obtain ⟨⟨⟨⟨⟨⟨⟨h1, h2⟩, h3⟩, h4⟩, h5⟩, h6⟩, h7⟩, h8⟩ := ho
      have own2 : (ownN W own).map (·.2) = own := by unfold ownN; rw [List.map_map]; exact List.map_id' own
      have pe := pe_lc (X := X) (own := ownN W own) (pos := pos) h.calm (by rw [h.hN]; exact h.nd) (soundSrc src sc X h hf t iter h6) (blkOk_env h h1) (fun s H D cl fp => pg_of (xok_blk h h1 s H D cl fp) tg t h3)
        (fun s H D cl fp => pts_of (xok_blk h h1 s H D cl fp) h4 (soundTs ifs scope _ (xok_blk h h1 s H D cl fp) (fnAt_blk hf s H _ fp))) (fun s H D cl fp => soundE el scope _ (xok_blk h h1 s H D cl fp) (fnAt_blk hf s H _ fp) elt h5) (foldedSet_not h7)
      rw [own2] at pe
      exact PE.imp pe fun σ H Q q => comp_read h2 (fun i hi => by rw [hi] at h8; simpa using h8) q
    · cases ho
  | .bool w es, sc, X, h, hf, x, ho => by
    unfold okE at ho
    split at ho
    · rw [Bool.and_eq_true] at ho
      refine PE.imp (r_bool w es _ _ _ ho.1 ho.2 (soundEs es sc X h hf)) fun σ H Q q => ?_
      obtain ⟨ρ, J, Fs, d, ρ', st, e, q⟩ := q
      unfold evE at e
      exact ⟨ρ, J, Fs, d, ρ', st, e, q⟩
    · cases ho
  | .not_ e, sc, X, h, hf, x, ho => by
    unfold okE at ho
    split at ho
    · exact r_not (soundE e sc X h hf _ ho)
    · cases ho
  | .chain p q a b c, sc, X, h, hf, x, ho => r_chain h ho (soundE a sc X h hf) (soundE b sc X h hf) (soundE c sc X h hf)
  | .comp2 _ _ _ _ _ _ _ _ _, _, _, _, _, _, ho => by
    unfold okE at ho
    cases ho
theorem soundEs : ∀ (as : List E) (sc : Scope) (X : Cx), XOk C W sc X → FnAt C W G X → ∀ a ∈ as, ∀ x, okE W sc a x = true → PE X x (tR C (evE G a))
  | [], _, _, _, _, _, ha, _, _ => nomatch ha
  | b :: bs, sc, X, h, hf, a, ha, x, ho => by
    rcases List.mem_cons.mp ha with q | q
    · rw [q] at ho ⊢
      exact soundE b sc X h hf x ho
    · exact soundEs bs sc X h hf a q x ho
theorem soundC : ∀ (a : CA) (sc : Scope) (X : Cx), XOk C W sc X → FnAt C W G X → ∀ x, okC W sc a x = true → PE X x (tA C (evC G a))
  | .s i, sc, X, h, hf, x, ho => r_carg h ho fun e q => by rcases q with q | q <;> cases q
  | .f e, sc, X, h, hf, x, ho => r_carg h ho fun e' q ho' => by
    rcases q with q | q
    · cases q
      exact soundE e sc X h hf x ho'
    · cases q
  | .t e, sc, X, h, hf, x, ho => r_carg h ho fun e' q ho' => by
    rcases q with q | q
    · cases q
    · cases q
      exact soundE e sc X h hf x ho'
theorem soundCs : ∀ (as : List CA) (sc : Scope) (X : Cx), XOk C W sc X → FnAt C W G X → ∀ a ∈ as, ∀ x, okC W sc a x = true → PE X x (tA C (evC G a))
  | [], _, _, _, _, _, ha, _, _ => nomatch ha
  | b :: bs, sc, X, h, hf, a, ha, x, ho => by
    rcases List.mem_cons.mp ha with q | q
    · rw [q] at ho ⊢
      exact soundC b sc X h hf x ho
    · exact soundCs bs sc X h hf a q x ho
theorem soundT : ∀ (t : T) (sc : Scope) (X : Cx), XOk C W sc X → FnAt C W G X → ∀ x, okT W sc t x = true → PT X x (tT C (evT G t))
  | .x e, sc, X, h, hf, x, ho => by
    unfold okT at ho
    rw [Bool.and_eq_true] at ho
    exact rt_x (soundXT h e x ho.1 ho.2)
  | .e e, sc, X, h, hf, x, ho => by
    unfold okT at ho
    rw [Bool.and_eq_true] at ho
    cases hx : truthE x with
    | true => exact rt_e h hx (soundE e sc X h hf x ho.1)
    | false =>
      have hc : isCmp e = true ∨ isChain e = true := by
        have := ho.2
        rw [hx, Bool.false_or, Bool.or_eq_true] at this
        exact this
      match e, hc, ho with
      | .chain p q a b c, _, ho => exact rt_chain h ho.1 (soundE a sc X h hf) (soundE b sc X h hf) (soundE c sc X h hf)
      | .op p as, hc, ho => exact rt_cmp h (hc.elim id (fun z => by cases z)) ho.1 (fun p' as' q a ha y hy => by cases q; exact soundEs as sc X h hf a ha y hy) hx
  | .bool w ts, sc, X, h, hf, x, ho => by
    unfold okT at ho
    split at ho
    · simp only [Bool.and_eq_true] at ho
      obtain ⟨⟨h1, h2⟩, h3⟩ := ho
      exact (rt_bool w h1 (fun z => by rw [z] at h2; cases h2) h3 (soundTs ts sc X h hf)).pt
    · cases ho
  | .not_ t, sc, X, h, hf, x, ho => by
    unfold okT at ho
    split at ho
    · exact rt_not (soundT t sc X h hf _ ho)
    · cases ho
theorem soundTs : ∀ (ts : List T) (sc : Scope) (X : Cx), XOk C W sc X → FnAt C W G X → ∀ t ∈ ts, ∀ x, okT W sc t x = true → PT X x (tT C (evT G t))
  | [], _, _, _, _, _, ha, _, _ => nomatch ha
  | b :: bs, sc, X, h, hf, a, ha, x, ho => by
    rcases List.mem_cons.mp ha with q | q
    · rw [q] at ho ⊢
      exact soundT b sc X h hf x ho
    · exact soundTs bs sc X h hf a q x ho
theorem soundSrc : ∀ (s : Src) (sc : Scope) (X : Cx), XOk C W sc X → FnAt C W G X → ∀ (tg x : Expr), okSrc W sc s x = true → PI X tg x (tS C (evSrc G s))
  | .rng1 b, sc, X, h, hf, tg, x, ho => by
    unfold okSrc at ho
    split at ho
    · simp only [Bool.and_eq_true, decide_eq_true_eq] at ho
      obtain ⟨⟨⟨rfl, h2⟩, h3⟩, h4⟩ := ho
      exact pi_rng1 h h2 h3 (soundE b sc X h hf _ h4)
    · cases ho
  | .rng2 a b, sc, X, h, hf, tg, x, ho => by
    unfold okSrc at ho
    split at ho
    · simp only [Bool.and_eq_true, decide_eq_true_eq] at ho
      obtain ⟨⟨⟨⟨⟨rfl, h2⟩, h3⟩, h4⟩, h5⟩, h6⟩ := ho
      exact pi_rng2 h h2 h3 h4 (soundE a sc X h hf _ h5) (soundE b sc X h hf _ h6)
    · cases ho
  | .rng3 a b c, sc, X, h, hf, tg, x, ho => by
    unfold okSrc at ho
    split at ho
    · simp only [Bool.and_eq_true, decide_eq_true_eq] at ho
      obtain ⟨⟨⟨⟨⟨⟨rfl, h2⟩, h3⟩, h4⟩, h5⟩, h6⟩, h7⟩ := ho
      exact pi_rng3 h h7 h2 h3 h4 (soundE a sc X h hf _ h5) (soundE b sc X h hf _ h6)
    · cases ho
  | .v i, sc, X, h, hf, tg, x, ho => by
    unfold okSrc at ho
    split at ho
    · exact pi_slot h ho
    · cases ho
  | .val e, sc, X, h, hf, tg, x, ho => by
    unfold okSrc at ho
    rw [Bool.and_eq_true] at ho
    exact pi_val h (soundE e sc X h hf x ho.1)
end
end
end Kw

set_option maxRecDepth 100000
set_option maxHeartbeats 4000000
/-! Kw14: statements, one at a time. -/
namespace Kw
open PySem L2
section
variable {C : KC} {W : Wh} {sc : Scope} {X : Cx} {G : Cal}
def Agree (A : List Nat) (σ σ' : St) : Prop := ∀ i, i ∉ A → σ'[i]? = σ[i]?
theorem Agree.refl (A : List Nat) (σ : St) : Agree A σ σ := fun _ _ => rfl
theorem Agree.trans {A : List Nat} {σ σ1 σ2 : St} (a : Agree A σ σ1) (b : Agree A σ1 σ2) : Agree A σ σ2 := fun i h => (b i h).trans (a i h)
theorem Agree.mono {A B : List Nat} {σ σ1 : St} (a : Agree A σ σ1) (h : ∀ i ∈ A, i ∈ B) : Agree B σ σ1 := fun i hi => a i fun z => hi (h i z)
theorem Agree.set {A : List Nat} {σ : St} {i : Nat} {x : Option V} (h : i ∈ A) : Agree A σ (σ.set i x) := fun j hj => List.getElem?_set_ne fun e => hj (by rw [← e]; exact h)
/-- what is wanted behind a statement -/
def OutP (C : KC) (A : List Nat) (σ : St) (I H : Hp) (Fs : Fp) (D : Ends) : Out → Prop
  | .nx ρ' => ∀ I' H' Fs' σ', StOk C I' H' σ' ρ' Fs' → Agree A σ σ' → Step I H (Own Fs) I' H' (Own Fs') → D.nx σ' H'
  | .bk ρ' => ∀ I' H' Fs' σ', StOk C I' H' σ' ρ' Fs' → Agree A σ σ' → Step I H (Own Fs) I' H' (Own Fs') → D.bk σ' H'
  | .ct ρ' => ∀ I' H' Fs' σ', StOk C I' H' σ' ρ' Fs' → Agree A σ σ' → Step I H (Own Fs) I' H' (Own Fs') → D.ct σ' H'
  | .rt d ρ' => ∀ I' H' Fs' F v σ', StOk C I' H' σ' ρ' Fs' → Agree A σ σ' → Rp C I' H' d v F → (∀ a ∈ F, ¬ Own Fs' a) → Step I H (Own Fs) I' H' (fun a => Own Fs' a ∨ a ∈ F) → D.rt v H'
theorem OutP.later {A B : List Nat} {σ σ1 : St} {I H I1 H1 : Hp} {Fs F1 : Fp} {D : Ends} {o : Out} (h : OutP C A σ I H Fs D o) (hB : ∀ i ∈ B, i ∈ A) (a : Agree A σ σ1) (s : Step I H (Own Fs) I1 H1 (Own F1)) : OutP C B σ1 I1 H1 F1 D o := by
  cases o with
  | nx ρ' => exact fun I' H' Fs' σ' st ag sp => h I' H' Fs' σ' st (a.trans (ag.mono hB)) (s.trans sp)
  | bk ρ' => exact fun I' H' Fs' σ' st ag sp => h I' H' Fs' σ' st (a.trans (ag.mono hB)) (s.trans sp)
  | ct ρ' => exact fun I' H' Fs' σ' st ag sp => h I' H' Fs' σ' st (a.trans (ag.mono hB)) (s.trans sp)
  | rt d ρ' => exact fun I' H' Fs' F v σ' st ag r dj sp => h I' H' Fs' F v σ' st (a.trans (ag.mono hB)) r dj (s.trans sp)
def tO (C : KC) (A : List Nat) (f : Nv → Option Out) : TS := fun D σ H => ∃ ρ I Fs o, StOk C I H σ ρ Fs ∧ f ρ = some o ∧ OutP C A σ I H Fs D o
theorem PS.imp {X : Cx} {st : Stmt} {t t' : TS} (h : PS X st t) (k : ∀ D σ H, t' D σ H → t D σ H) : PS X st t' := ⟨fun pins s σ H D I q => h.run pins s σ H D I (k D σ H q)⟩
theorem PSs.imp {X : Cx} {st : List Stmt} {t t' : TS} (h : PSs X st t) (k : ∀ D σ H, t' D σ H → t D σ H) : PSs X st t' := ⟨fun pins s σ H D I q => h.run pins s σ H D I (k D σ H q)⟩

/-- what a name's store needs -/
theorem asg_read {i : Nat} {e : E} {A : List Nat} (hA : i ∈ A) {D : Ends} {σ : St} {H : Hp} (q : tO C A (evS G (.asg i e)) D σ H) : tAsg (tR C (evE G e)) (gName i) D σ H := by
  obtain ⟨ρ, I, Fs, o, st, ev, q⟩ := q
  unfold evS at ev
  split at ev
  · rename_i d ρ1 h1
    split at ev <;> cases ev
    rename_i hi
    refine ⟨ρ, I, Fs, d, ρ1, st, h1, fun I1 H1 F1 F v st1 r dj s1 => ?_⟩
    refine q I1 H1 _ _ (st1.put hi r fun a ha j _ z => dj a ha ⟨j, z⟩) (Agree.set hA) (s1.weak fun a ha => (own_put ha).symm)
  · cases ev
theorem swaps_no {v : Expr} {t : Option Expr} {l : Nat} {env : PySem.Env} (h : noComp v = true) : swapsWith v t l env = pure false := by
  cases v <;> first | rfl | (exact absurd h (by simp [noComp]))
theorem s_asg (h : XOk C W sc X) {i : Nat} {e : E} {n : Str} {py pos : Pos} {v : Expr} (hN : W.N[i]? = some n) (hl : locB sc n = true) (hv : noComp v = true) (ih : PE X v (tR C (evE G e))) : PS X (.Assign [.Name n py] v pos) (tO C [i] (evS G (.asg i e))) := by
  obtain ⟨h1, h2⟩ := h.store hl
  exact PS.imp (ps_set (by rw [h.hN]; exact h.nd) (by rw [h.hN]; exact hN) h1 ih (swaps_no hv) h2) fun D σ H q => asg_read List.mem_cons_self q
theorem aug_rule {X : Cx} {p : Op} {o : Operator} (hp : augOp p = some o) : OpR X (inplaceOp o) (fun x y H Q => ∃ I d1 d2 d F1 F2, Same I H ∧ Rp C I H d1 x F1 ∧ Rp C I H d2 y F2 ∧ augD p d1 d2 = some d ∧ ∀ u, RF C I d u → Q u H) := by
  cases p <;> first | (cases hp; done) | skip
  · cases hp
    refine OpR.imp (OpR.or iop_add iop_add_str) fun x y H Q ⟨I, d1, d2, d, F1, F2, s, r1, r2, e, q⟩ => ?_
    replace e : opAdd d1 d2 = some d := e
    unfold opAdd at e
    split at e
    · cases e
      exact .inl ⟨_, _, r1.int, r2.int, q _ (.int _)⟩
    · split at e
      · rename_i hz
        cases e
        exact .inr ⟨_, _, r1.str, r2.str, by rw [← sz_line]; exact hz, q _ (.str _)⟩
      · cases e
    · cases e
  · cases hp
    refine OpR.imp iop_sub fun x y H Q ⟨I, d1, d2, d, F1, F2, s, r1, r2, e, q⟩ => ?_
    replace e : opSub d1 d2 = some d := e
    unfold opSub at e
    split at e <;> cases e
    exact ⟨_, _, r1.int, r2.int, q _ (.int _)⟩
  · cases hp
    refine OpR.imp iop_mul fun x y H Q ⟨I, d1, d2, d, F1, F2, s, r1, r2, e, q⟩ => ?_
    replace e : opMul d1 d2 = some d := e
    unfold opMul at e
    split at e
    · split at e <;> cases e
      rename_i hz
      exact ⟨_, _, r1.int, r2.int, small_ok hz, q _ (.int _)⟩
    · cases e
theorem s_aug (h : XOk C W sc X) {i : Nat} {p : Op} {o : Operator} {e : E} {n : Str} {pn pos : Pos} {v : Expr} (hN : W.N[i]? = some n) (hl : locB sc n = true) (hp : augOp p = some o) (ih : PE X v (tR C (evE G e))) : PS X (.AugAssign (.Name n pn) o v pos) (tO C [i] (evS G (.aug i p e))) := by
  obtain ⟨h1, h2⟩ := h.store hl
  have rule := aug_rule (C := C) (X := X) hp
  refine PS.imp (ps_aug (by rw [h.hN]; exact h.nd) (by rw [h.hN]; exact hN) h1 ih rule h2) fun D σ H q => ?_
  obtain ⟨ρ, I, Fs, o', st, ev, q⟩ := q
  unfold evS at ev
  split at ev
  · rename_i x hx
    split at ev
    · rename_i y ρ1 h1'
      split at ev
      · rename_i z hz
        split at ev <;> cases ev
        rename_i hi
        obtain ⟨u, hu, r⟩ := st.rep i x (join_some hx)
        refine ⟨u, hu, ρ, I, Fs, y, ρ1, st, h1', fun I1 H1 F1 F v st1 ry dj s1 => ?_⟩
        -- the old value is no object
        have sx : RF C I1 x u := by
          have fz : x.isFz = true := by
            cases p <;> first | (cases hp; done) | skip
            · replace hz : opAdd x y = some z := hz
              unfold opAdd at hz; split at hz <;> first | rfl | cases hz
            · replace hz : opSub x y = some z := hz
              unfold opSub at hz; split at hz <;> first | rfl | cases hz
            · replace hz : opMul x y = some z := hz
              unfold opMul at hz; split at hz <;> first | rfl | cases hz
          exact (RF.rp_fz r fz).1.mono s1.ii
        refine ⟨I1, x, y, z, [], F, st1.same, .fz sx, ry, hz, fun u' ru => ?_⟩
        exact q I1 H1 _ _ (st1.put hi (.fz ru) fun a ha => nomatch ha) (Agree.set List.mem_cons_self) (s1.weak fun a ha => (own_put ha).elim (fun z => nomatch z) .inl)
      · cases ev
    · cases ev
  · cases ev
/-- xs += ys, in place -/
theorem iop_extL : OpR X (inplaceOp .Add) (fun x y H Q => ∃ l b xs zs, x = .ref l ∧ y = .ref b ∧ H l = some (.lst xs) ∧ Rd H b (.lst zs) ∧ xs.length + zs.length ≤ sizeLine ∧ Q (.ref l) (upd H l (.lst (xs ++ zs)))) := by
  intro pins s σ H x y v u Q I rx ry h
  obtain ⟨l, b, xs, zs, rfl, rfl, hl, hb, hz, q⟩ := h
  cases rx
  cases ry
  obtain ⟨_, is1, n1, r1, l1, e1⟩ := I.lstM hl
  obtain ⟨_, is2, n2, r2, l2, e2⟩ := Inv.rdL I hb
  have room : is1.toArray.size + is2.toArray.size ≤ sizeLine := by simp only [List.size_toArray]; omega
  have nl : ¬ (!is1.toArray.isEmpty && Builtin.List.listTooLong (is1.toArray.size + is2.toArray.size)) = true := by
    rw [notLongL room, Bool.and_false]; exact Bool.false_ne_true
  refine iadd_road ⟨_, e1, rfl⟩ ⟨_, e2, rfl⟩ ?_
  refine call_meets PySem.F.slot_list_iadd ⟨_, e1, rfl⟩ PySem.F.entry_list_iadd (PySem.F.args_list_iadd_2 _ _) (AutoSeq1.list___iadd___list_list_0 l is1.toArray n1 b is2.toArray n2 nl ?_ ?_) ⟨e1, e2, ?_⟩
  · rw [List.size_toArray]; omega
  · omega
  · exact ⟨.ref l, _, I.lset (its' := is1 ++ is2) (t' := s.toks) hl e1 (by simp) (r1.append r2) (by simp only [List.length_append]; exact hz), rfl, q⟩
theorem s_augL (h : XOk C W sc X) {i : Nat} {e : E} {n : Str} {pn pos : Pos} {v : Expr} (hN : W.N[i]? = some n) (hl : locB sc n = true) (ih : PE X v (tR C (evE G e))) : PS X (.AugAssign (.Name n pn) .Add v pos) (tO C [i] (evS G (.augL i e))) := by
  obtain ⟨h1, h2⟩ := h.store hl
  have pf := PE.imp ih (fun σ H Q => tF_tR (C := C) (f := evE G e) (σ := σ) (H := H) (Q := Q))
  refine PS.imp (ps_aug (by rw [h.hN]; exact h.nd) (by rw [h.hN]; exact hN) h1 pf iop_extL h2) fun D σ H q => ?_
  obtain ⟨ρ, I, Fs, o', st, ev, q⟩ := q
  unfold evS at ev
  split at ev
  · rename_i ds hds
    split at ev
    · rename_i d ρ1 h1'
      split at ev
      · rename_i xs ys hx hy
        split at ev <;> cases ev
        rename_i hz
        obtain ⟨a0, vs0, hv0, hH0, _, _⟩ := st.writeO (join_some hds)
        refine ⟨_, hv0, ρ, I, Fs, d, ρ1, st, h1', fun I1 H1 F1 v st1 rf s1 => ?_⟩
        rw [hy] at rf
        obtain ⟨a1, vs, hv, hH, t, k⟩ := st1.writeO (join_some hx)
        rw [hv0] at hv
        cases hv
        cases rf with
        | lst e2 t2 =>
          obtain ⟨st', sp⟩ := k (xs ++ ys) (vs ++ _) (t.append t2)
          refine ⟨a0, _, vs, _, rfl, rfl, hH, Same.rd st1.same e2, by rw [← t.length, ← t2.length, ← sz_line]; exact hz, ?_⟩
          have same : σ.set i (some (.ref a0)) = σ := by
            apply List.ext_getElem?
            intro j
            by_cases q : i = j
            · subst q
              rw [List.getElem?_set_self (lt_of_some hv0), hv0]
            · rw [List.getElem?_set_ne q]
          show D.nx (σ.set i (some (.ref a0))) _
          rw [same]
          exact q I1 _ F1 σ st' (Agree.refl _ _) (s1.trans sp)
      · cases ev
    · cases ev
  · cases ev
theorem s_setI (h : XOk C W sc X) {i : Nat} {k : Kw.X} {e : E} {n : Str} {pn ps pos : Pos} {ix v : Expr} (ho : nameOk W sc i n = true) (hk : okX W sc k ix = true) (hp : plainE ix = true) (hv : noComp v = true) (ih : PE X v (tR C (evE G e))) :
    PS X (.Assign [.Subscript (.Name n pn) ix ps] v pos) (tO C [] (evS G (.setI i k e))) := by
  have pf := PE.imp ih (fun σ H Q => tF_tR (C := C) (f := evE G e) (σ := σ) (H := H) (Q := Q))
  have pg := pg_sub (pos := ps) (name_pe (pos := pn) h ho) (soundX h k ix hk) set_list (by
    intro w
    cases ix <;> first | rfl | (exact absurd hp (by simp [plainE])))
  have hsw : swappedStores [.Subscript (.Name n pn) ix ps] v X.env = pure none := by
    cases v <;> rfl
  refine PS.imp (ps_asg pf pg (by unfold swapsWithSole; exact swaps_no hv) hsw (by rfl)) fun D σ H q => ?_
  obtain ⟨ρ, I, Fs, o', st, ev, q⟩ := q
  unfold evS at ev
  split at ev
  · rename_i d ρ1 h1
    split at ev
    · rename_i xs m hx hm
      split at ev
      · rename_i j hj
        cases ev
        refine ⟨ρ, I, Fs, d, ρ1, st, h1, fun I1 H1 F1 v st1 rf s1 => ?_⟩
        obtain ⟨a, vs, hσ, hH, t, kk⟩ := st1.writeO (join_some hx)
        refine ⟨_, hσ, ρ1, I1, F1, _, st1, hm, fun u F r => ?_⟩
        obtain ⟨st', sp⟩ := kk (xs.set j (freeze d)) (vs.set j v) (t.set rf j)
        refine ⟨a, vs, m, j, rfl, r.int, hH, by rw [← t.length, ← ixD_ixN]; exact hj, ?_⟩
        exact q I1 _ F1 σ st' (Agree.refl _ _) (s1.trans sp)
      · cases ev
    · cases ev
  · cases ev
/-- xs[k] by values, of a list -/
theorem get_lstI {X : Cx} : PGet X (rIxL X.K) := by
  intro pn s0 σ0 H0 o' k' ov kv Q0 I0 ro rk hq
  obtain ⟨p0, ys, m, w0, e1, e2, hsq, hat, hQ⟩ := hq
  subst e1 e2
  cases ro
  obtain ⟨tk, rfl⟩ := rk
  obtain ⟨its, rvs, pl, _⟩ := I0.list hsq
  obtain ⟨j0, hj1, hj2, hj3, hj4, hj5⟩ := atI_get hat
  obtain ⟨w1, hw1, rw1⟩ := rvs.get hj2
  have len0 := rvs.length
  have l63 := line63
  have done : EP X pn σ0 Q0 w1 s0 := ⟨w0, H0, I0, rw1, hQ⟩
  by_cases pos0 : 0 ≤ m
  · have ej : m.toNat = j0 := by
      rw [seqIndex_of pos0 hj5] at hj1
      injection hj1
    exact PySem.wpAny_getItem_list pl.isList pos0 (by omega) (by rw [ej]; simpa using hw1) done
  · have ej : (m + (its.toArray.size : Int)).toNat = j0 := by
      rw [seqIndex_neg (by omega) hj4] at hj1
      rw [List.size_toArray, ← len0]
      injection hj1
    exact PySem.wpAny_getItem_list_neg pl.isList (by omega) (by rw [List.size_toArray] <;> omega) (by omega) (by rw [ej]; simpa using hw1) done
theorem augD_fz {p : Op} {x y z : D} (h : augD p x y = some z) : z.isFz = true ∧ freeze z = z := by
  cases p <;> first | (cases h; done) | skip
  · replace h : opAdd x y = some z := h
    unfold opAdd at h
    split at h
    · cases h; exact ⟨rfl, rfl⟩
    · split at h <;> cases h; exact ⟨rfl, rfl⟩
    · cases h
  · replace h : opSub x y = some z := h
    unfold opSub at h
    split at h <;> cases h
    exact ⟨rfl, rfl⟩
  · replace h : opMul x y = some z := h
    unfold opMul at h
    split at h
    · split at h <;> cases h
      exact ⟨rfl, rfl⟩
    · cases h
theorem augS_plain {e : Expr} (h : plainE e = true) (ov iv new : Value) : augStore e ov iv new = (do holding [new, ov, iv] (setItem ov iv new); release [new, ov, iv] []; pure .next) := by
  cases e <;> first | rfl | (exact absurd h (by simp [plainE]))
/-- xs[k] += e -/
theorem s_augI (h : XOk C W sc X) {i : Nat} {k : Kw.X} {p : Op} {o : Operator} {e : E} {n : Str} {pn ps pos : Pos} {ix v : Expr} (ho : nameOk W sc i n = true) (hk : okX W sc k ix = true) (hpl : plainE ix = true) (hp : augOp p = some o) (ih : PE X v (tR C (evE G e))) :
    PS X (.AugAssign (.Subscript (.Name n pn) ix ps) o v pos) (tO C [] (evS G (.augI i k p e))) := by
  refine PS.imp (ps_augS (name_pe (pos := pn) h ho) (soundX h k ix hk) get_lstI ih (aug_rule (C := C) hp) set_list (augS_plain hpl)) fun D σ H q => ?_
  obtain ⟨ρ, I, Fs, o', st, ev, q⟩ := q
  unfold evS at ev
  split at ev
  · rename_i xs m hx hm
    split at ev
    · rename_i x hx1
      split at ev
      · rename_i y ρ1 h1
        split at ev
        · rename_i z ys hz hy
          split at ev
          · rename_i j hj
            cases ev
            obtain ⟨a, vs, hσ, hH, t, _⟩ := st.writeO (join_some hx)
            refine ⟨_, hσ, ρ, I, Fs, _, st, hm, fun u F r => ?_⟩
            cases hz0 : ixD xs.length m with
            | none => rw [hz0] at hx1; cases hx1
            | some j0 =>
              rw [hz0] at hx1
              replace hx1 : xs[j0]? = some x := hx1
              obtain ⟨u0, hu0, ru0⟩ := t.get' hx1
              refine ⟨a, vs, m, u0, rfl, r.int, SqL.of hH, atI_of t.length hz0 hu0, ρ, I, Fs, y, ρ1, st, h1, fun I1 H1 F1 F' v st1 ry dj s1 => ?_⟩
              refine ⟨I1, x, y, z, [], F', st1.same, .fz (ru0.mono s1.ii), ry, hz, fun u' ru => ?_⟩
              obtain ⟨a1, vs1, hσ1, hH1, t1, kk⟩ := st1.writeO (join_some hy)
              rw [hσ] at hσ1
              cases hσ1
              obtain ⟨st', sp⟩ := kk (ys.set j z) (vs1.set j u') (t1.set ru j)
              refine ⟨a, vs1, m, j, rfl, r.int, hH1, by rw [← t1.length, ← ixD_ixN]; exact hj, ?_⟩
              exact q I1 _ F1 σ st' (Agree.refl _ _) ((s1.weak fun c z => .inl z).trans sp)
          · cases ev
        · cases ev
      · cases ev
    · cases ev
  · cases ev
theorem s_append (h : XOk C W sc X) {i : Nat} {e : E} {n : Str} {pn apos cpos pos : Pos} {a : Expr} (ho : nameOk W sc i n = true) (hl : (apos.endLine == cpos.line) = true) (hp : plainE a = true) (ih : PE X a (tR C (evE G e))) :
    PS X (.Expr (.Call (.Attribute (.Name n pn) "append" apos) [a] [] cpos) pos) (tO C [] (evS G (.append i e))) := by
  have pf := PE.imp ih (fun σ H Q => tF_tR (C := C) (f := evE G e) (σ := σ) (H := H) (Q := Q))
  refine PS.imp (ps_expr (pe_bm PySem.F.plainAttrs_list PySem.F.slot_list_append PySem.F.type_list_append mt_append (name_pe h ho) (pa_cons pf pa_nil (starEach_plain hp)) (by rfl) (by
    have b : (backTo cpos (starEach [a] X.env)).all (fun y => !y.1) = true := by rw [starEach_plain hp]; rfl
    rw [b]; rfl) hl (starEach_plain hp) (by rfl)) (by rfl)) fun D σ H q => ?_
  obtain ⟨ρ, I, Fs, o', st, ev, q⟩ := q
  unfold evS at ev
  split at ev
  · rename_i ds hds
    split at ev
    · rename_i d ρ1 h1
      split at ev
      · rename_i xs hx
        split at ev <;> cases ev
        rename_i hz
        obtain ⟨a0, vs0, hv0, hH0, _, _⟩ := st.writeO (join_some hds)
        refine ⟨_, hv0, .inl ⟨rfl, _, SqL.of hH0⟩, ρ, I, Fs, d, ρ1, st, h1, fun I1 H1 F1 v st1 rf s1 => ?_⟩
        obtain ⟨a1, vs, hv, hH, t, k⟩ := st1.writeO (join_some hx)
        rw [hv0] at hv
        cases hv
        obtain ⟨st', sp⟩ := k (xs ++ [freeze d]) (vs ++ [v]) (t.append (.cons rf .nil))
        exact ⟨a0, vs, v, rfl, rfl, hH, by rw [← t.length, ← sz_line]; exact hz, q I1 _ F1 σ st' (Agree.refl _ _) (s1.trans sp)⟩
      · cases ev
    · cases ev
  · cases ev
theorem s_reverse (h : XOk C W sc X) {i : Nat} {n : Str} {pn apos cpos pos : Pos} (ho : nameOk W sc i n = true) (hl : (apos.endLine == cpos.line) = true) :
    PS X (.Expr (.Call (.Attribute (.Name n pn) "reverse" apos) [] [] cpos) pos) (tO C [] (evS G (.reverse i))) := by
  refine PS.imp (ps_expr (pe_bm0 PySem.F.plainAttrs_list PySem.F.slot_list_reverse PySem.F.type_list_reverse mt_reverse (name_pe h ho) (by rfl) hl) (by rfl)) fun D σ H q => ?_
  obtain ⟨ρ, I, Fs, o', st, ev, q⟩ := q
  unfold evS at ev
  split at ev
  · rename_i xs hx
    cases ev
    obtain ⟨a, vs, hv, hH, t, k⟩ := st.writeO (join_some hx)
    obtain ⟨st', sp⟩ := k xs.reverse vs.reverse t.reverse
    exact ⟨_, hv, .inl ⟨rfl, _, SqL.of hH⟩, a, vs, rfl, rfl, hH, q I _ Fs σ st' (Agree.refl _ _) sp⟩
  · cases ev
theorem s_ex {e : E} {v : Expr} {pos : Pos} (hv : noComp v = true) (ih : PE X v (tR C (evE G e))) : PS X (.Expr v pos) (tO C [] (evS G (.ex e))) := by
  refine PS.imp (ps_expr ih (swaps_no hv)) fun D σ H q => ?_
  obtain ⟨ρ, I, Fs, o', st, ev, q⟩ := q
  unfold evS at ev
  split at ev
  · rename_i d ρ1 h1
    cases ev
    exact ⟨ρ, I, Fs, d, _, st, h1, fun I1 H1 F1 F v st1 r dj s1 => q I1 H1 F1 σ st1 (Agree.refl _ _) (s1.weak fun c z => .inl z)⟩
  · cases ev
theorem s_ret {e : E} {v : Expr} {pos : Pos} (ih : PE X v (tR C (evE G e))) : PS X (.Return (some v) pos) (tO C [] (evS G (.ret e))) := by
  refine PS.imp (ps_ret ih) fun D σ H q => ?_
  obtain ⟨ρ, I, Fs, o', st, ev, q⟩ := q
  unfold evS at ev
  split at ev
  · rename_i d ρ1 h1
    cases ev
    exact ⟨ρ, I, Fs, _, _, st, h1, fun I1 H1 F1 F v st1 r dj s1 => q I1 H1 F1 F v σ st1 (Agree.refl _ _) r dj s1⟩
  · cases ev
theorem s_retN {pos : Pos} : PS X (.Return none pos) (tO C [] (evS G .retN)) := by
  refine PS.imp ps_retN fun D σ H q => ?_
  obtain ⟨ρ, I, Fs, o', st, ev, q⟩ := q
  unfold evS at ev
  cases ev
  exact q I H Fs [] _ σ st (Agree.refl _ _) (.fz .non) (fun _ z => nomatch z) ((Step.refl _ _ _).weak fun c z => z.elim id (fun z => nomatch z))
theorem next_read {f : Nv → Option Out} (hf : ∀ ρ, f ρ = some (.nx ρ)) {D : Ends} {σ : St} {H : Hp} (q : tO C [] f D σ H) : tNext D σ H := by
  obtain ⟨ρ, I, Fs, o', st, ev, q⟩ := q
  rw [hf] at ev
  cases ev
  exact q I H Fs σ st (Agree.refl _ _) (Step.refl _ _ _)

/-! ### blocks -/
theorem ss_nil : PSs X [] (tO C [] (evSs G [])) := PSs.imp pss_nil fun D σ H q => next_read (f := evSs G []) (fun ρ => by rw [evSs]) q
theorem ss_cons {s : S} {ss : List S} {st : Stmt} {sts : List Stmt} (h1 : PS X st (tO C (asg s) (evS G s))) (h2 : PSs X sts (tO C (asgs ss) (evSs G ss))) : PSs X (st :: sts) (tO C (asgs (s :: ss)) (evSs G (s :: ss))) := by
  have m1 : ∀ i ∈ asg s, i ∈ asgs (s :: ss) := fun i h => by unfold asgs; exact List.mem_append_left _ h
  have m2 : ∀ i ∈ asgs ss, i ∈ asgs (s :: ss) := fun i h => by rw [asgs]; exact List.mem_append_right _ h
  refine PSs.imp (pss_cons h1 h2) fun D σ H q => ?_
  obtain ⟨ρ, I, Fs, o, st, ev, q⟩ := q
  unfold evSs at ev
  split at ev
  · rename_i ρ1 e1
    refine ⟨ρ, I, Fs, .nx ρ1, st, e1, fun I1 H1 F1 σ1 st1 ag s1 => ?_⟩
    exact ⟨ρ1, I1, F1, o, st1, ev, q.later m2 (ag.mono m1) s1⟩
  · rename_i r hr
    refine ⟨ρ, I, Fs, o, st, ev, ?_⟩
    have q' := q.later m1 (Agree.refl _ _) (Step.refl _ _ _)
    cases o with
    | nx ρ1 => exact absurd ev (by intro z; exact hr _ z)
    | bk ρ1 => exact q'
    | ct ρ1 => exact q'
    | rt d ρ1 => exact q'
theorem s_ife {t : T} {a b : List S} {c : Expr} {x y : List Stmt} {pos : Pos} (hc : PT X c (tT C (evT G t))) (ha : PSs X x (tO C (asgs a) (evSs G a))) (hb : PSs X y (tO C (asgs b) (evSs G b))) : PS X (.If c x y pos) (tO C (asg (.ife t a b)) (evS G (.ife t a b))) := by
  have m1 : ∀ i ∈ asgs a, i ∈ asg (.ife t a b) := fun i h => by rw [asg]; exact List.mem_append_left _ h
  have m2 : ∀ i ∈ asgs b, i ∈ asg (.ife t a b) := fun i h => by rw [asg]; exact List.mem_append_right _ h
  refine PS.imp (ps_if hc ha hb) fun D σ H q => ?_
  obtain ⟨ρ, I, Fs, o, st, ev, q⟩ := q
  unfold evS at ev
  split at ev
  · rename_i ρ1 h1
    exact ⟨ρ, I, Fs, true, ρ1, st, h1, fun I1 H1 F1 st1 s1 => iteT ⟨ρ1, I1, F1, o, st1, ev, q.later m1 (Agree.refl _ _) s1⟩⟩
  · rename_i ρ1 h1
    exact ⟨ρ, I, Fs, false, ρ1, st, h1, fun I1 H1 F1 st1 s1 => iteF ⟨ρ1, I1, F1, o, st1, ev, q.later m2 (Agree.refl _ _) s1⟩⟩
  · cases ev
/-- behind a loop's turn -/
theorem OutP.turn {A B : List Nat} {σ σ1 : St} {I H I1 H1 : Hp} {Fs F1 : Fp} {D : Ends} {N : St → Hp → Prop} {o oF : Out} (h : OutP C A σ I H Fs D oF) (hB : ∀ i ∈ B, i ∈ A) (a : Agree A σ σ1) (s : Step I H (Own Fs) I1 H1 (Own F1))
    (hn : ∀ ρ', o = .nx ρ' ∨ o = .ct ρ' → ∀ I' H' Fs' σ', StOk C I' H' σ' ρ' Fs' → Agree A σ σ' → Step I H (Own Fs) I' H' (Own Fs') → N σ' H') (hb : ∀ ρ', o = .bk ρ' → oF = .nx ρ') (hr : ∀ d ρ', o = .rt d ρ' → oF = .rt d ρ') :
    OutP C B σ1 I1 H1 F1 { D with nx := N, ct := N, bk := D.nx } o := by
  cases o with
  | nx ρ' => exact fun I' H' Fs' σ' st ag sp => hn ρ' (.inl rfl) I' H' Fs' σ' st (a.trans (ag.mono hB)) (s.trans sp)
  | ct ρ' => exact fun I' H' Fs' σ' st ag sp => hn ρ' (.inr rfl) I' H' Fs' σ' st (a.trans (ag.mono hB)) (s.trans sp)
  | bk ρ' =>
    have e := hb ρ' rfl
    subst e
    exact fun I' H' Fs' σ' st ag sp => h I' H' Fs' σ' st (a.trans (ag.mono hB)) (s.trans sp)
  | rt d ρ' =>
    have e := hr d ρ' rfl
    subst e
    exact fun I' H' Fs' F v σ' st ag r dj sp => h I' H' Fs' F v σ' st (a.trans (ag.mono hB)) r dj (s.trans sp)
theorem s_whl (h : XOk C W sc X) {t : T} {b : List S} {c : Expr} {x : List Stmt} {pos : Pos} (hc : PT X c (tT C (evT G t))) (hb : PSs X x (tO C (asgs b) (evSs G b))) : PS X (.While c x [] pos) (tO C (asg (.whl t b)) (evS G (.whl t b))) := by
  have m1 : ∀ i ∈ asgs b, i ∈ asg (.whl t b) := fun i h => by rw [asg]; exact h
  refine PS.imp (ps_while (by rw [h.xe]; exact PassesOwn.never) hc hb) fun D σ H q => ?_
  obtain ⟨ρ, I, Fs, o, st, ev, q⟩ := q
  unfold evS at ev
  refine ⟨fun m σ1 H1 => ∃ ρ1 I1 F1, StOk C I1 H1 σ1 ρ1 F1 ∧ Agree (asg (.whl t b)) σ σ1 ∧ Step I H (Own Fs) I1 H1 (Own F1) ∧ whileL (evT G t) (evSs G b) m ρ1 = some o, ⟨G.fuel, ρ, I, Fs, st, Agree.refl _ _, Step.refl _ _ _, ev⟩, ?_⟩
  rintro m σ1 H1 ⟨ρ1, I1, F1, st1, ag1, s1, ev1⟩
  cases m with
  | zero => cases ev1
  | succ m =>
    unfold whileL at ev1
    split at ev1
    · rename_i ρ2 h2
      refine ⟨ρ1, I1, F1, true, ρ2, st1, h2, fun I2 H2 F2 st2 s2 => iteT ?_⟩
      refine ⟨fun σ3 H3 => ∃ ρ3 I3 F3, StOk C I3 H3 σ3 ρ3 F3 ∧ Agree (asg (.whl t b)) σ σ3 ∧ Step I H (Own Fs) I3 H3 (Own F3) ∧ whileL (evT G t) (evSs G b) m ρ3 = some o, fun σ' H' q => ⟨m, by omega, q⟩, ?_⟩
      split at ev1
      · rename_i ρ3 h3
        exact ⟨ρ2, I2, F2, .nx ρ3, st2, h3, q.turn m1 ag1 (s1.trans s2) (fun ρ' e I' H' Fs' σ' st' ag' s' => by
          rcases e with e | e <;> cases e
          exact ⟨_, I', Fs', st', ag', s', ev1⟩) (fun _ e => by cases e) (fun _ _ e => by cases e)⟩
      · rename_i ρ3 h3
        exact ⟨ρ2, I2, F2, .ct ρ3, st2, h3, q.turn m1 ag1 (s1.trans s2) (fun ρ' e I' H' Fs' σ' st' ag' s' => by
          rcases e with e | e <;> cases e
          exact ⟨_, I', Fs', st', ag', s', ev1⟩) (fun _ e => by cases e) (fun _ _ e => by cases e)⟩
      · rename_i ρ3 h3
        cases ev1
        exact ⟨ρ2, I2, F2, .bk ρ3, st2, h3, q.turn m1 ag1 (s1.trans s2) (fun ρ' e => by rcases e with e | e <;> cases e) (fun _ e => by cases e; rfl) (fun _ _ e => by cases e)⟩
      · rename_i d ρ3 h3
        cases ev1
        exact ⟨ρ2, I2, F2, .rt d ρ3, st2, h3, q.turn m1 ag1 (s1.trans s2) (fun ρ' e => by rcases e with e | e <;> cases e) (fun _ e => by cases e) (fun _ _ e => by cases e; rfl)⟩
      · cases ev1
    · rename_i ρ2 h2
      cases ev1
      exact ⟨ρ1, I1, F1, false, ρ2, st1, h2, fun I2 H2 F2 st2 s2 => iteF (q I2 H2 F2 σ1 st2 ag1 (s1.trans s2))⟩
    · cases ev1
end
end Kw

set_option maxRecDepth 100000
set_option maxHeartbeats 4000000
/-! Kw15: for, unpacking, the rest; all statements. -/
namespace Kw
open PySem L2
section
variable {C : KC} {W : Wh} {sc : Scope} {X : Cx} {G : Cal}
theorem s_unp (h : XOk C W sc X) {tg : Tg} {e : E} {es : List Expr} {k p} {v : Expr} {pos : Pos} (hg : okTg W sc tg (.Tuple es k p) = true) (hv : noComp v = true) (hs : swappedStores [.Tuple es k p] v X.env = pure none) (ih : PE X v (tR C (evE G e))) :
    PS X (.Assign [.Tuple es k p] v pos) (tO C (tgSlots tg) (evS G (.unp tg e))) := by
  have pf := PE.imp ih (fun σ H Q => tF_tR (C := C) (f := evE G e) (σ := σ) (H := H) (Q := Q))
  refine PS.imp (ps_asg pf (pg_of h tg _ hg) (by unfold swapsWithSole; exact swaps_no hv) hs (by rfl)) fun D σ H q => ?_
  obtain ⟨ρ, I, Fs, o', st, ev, q⟩ := q
  unfold evS at ev
  split at ev
  · rename_i d ρ1 h1
    split at ev <;> cases ev
    rename_i r hr
    refine ⟨ρ, I, Fs, d, ρ1, st, h1, fun I1 H1 F1 v st1 rf s1 => ?_⟩
    exact ⟨ρ1, I1, F1, _, r, st1, rf, hr, fun σ' Fs' st' kσ own => q I1 H1 Fs' σ' st' kσ (s1.weak own)⟩
  · cases ev
theorem pi_keep : True := trivial
/-- what a for's walk says of a turn -/
def Rf (C : KC) (A : List Nat) (step : D → Nv → Option Out) (σ : St) (I : Hp) (J : It) (o : Out) (Rem : Nat → Nat → Nv → Prop) : Prop :=
  ∀ k m ρ, Rem k m ρ → ∀ I' H' Fs σ', StOk C I' H' σ' ρ Fs → Agree A σ σ' → Same I I' →
    (J.stop k H' ∧ o = .nx ρ) ∨ (∃ x r m', J.go k H' ∧ step x ρ = some r ∧ m' < m ∧ (∀ ρ', r = .nx ρ' ∨ r = .ct ρ' → Rem (k + 1) m' ρ') ∧ (∀ ρ', r = .bk ρ' → o = .nx ρ') ∧ (∀ d ρ', r = .rt d ρ' → o = .rt d ρ') ∧
      ∀ v H3, J.yld k H' v H3 → ∃ I3, Same I' I3 ∧ Same H' H3 ∧ Same I3 H3 ∧ (∀ a, I3 a ≠ none → I' a ≠ none ∨ H' a = none) ∧ RF C I3 x v)
def fStep (G : Cal) (tg : Tg) (b : List S) : D → Nv → Option Out := fun x r => match bindT tg x r with
  | some r1 => evSs G b r1
  | none => none
theorem for_loop {tg : Tg} {b : List S} {A : List Nat} (hA1 : ∀ i ∈ tgSlots tg, i ∈ A) (hA2 : ∀ i ∈ asgs b, i ∈ A) {σ : St} {I H : Hp} {Fs : Fp} {J : It} {D : Ends} {o : Out} {ρ1 : Nv} {Rem : Nat → Nat → Nv → Prop}
    (st : StOk C I H σ ρ1 Fs) (rt : Rf C A (fStep G tg b) σ I J o Rem) (start : ∃ m, Rem 0 m ρ1) (q : OutP C A σ I H Fs D o) :
    ∃ W : Nat → Nat → St → Hp → Prop, (∃ m, W 0 m σ H) ∧ ∀ i m σ H, W i m σ H →
      (J.stop i H ∧ D.nx σ H) ∨ (J.go i H ∧ ∃ N : St → Hp → Prop, (∀ σ' H', N σ' H' → ∃ m', m' < m ∧ W (i + 1) m' σ' H') ∧ ∀ x H', J.yld i H x H' → tG C tg x σ H' fun σ2 H2 => tO C (asgs b) (evSs G b) { D with nx := N, ct := N, bk := D.nx } σ2 H2) := by
  refine ⟨fun k m σ' H' => ∃ ρ I' F', Rem k m ρ ∧ StOk C I' H' σ' ρ F' ∧ Agree A σ σ' ∧ Step I H (Own Fs) I' H' (Own F'), ?_, ?_⟩
  · obtain ⟨m, hm⟩ := start
    exact ⟨m, ρ1, I, Fs, hm, st, Agree.refl _ _, Step.refl _ _ _⟩
  · rintro k m σ1 H1 ⟨ρ, I1, F1, hr, st1, ag1, s1⟩
    rcases rt k m ρ hr I1 H1 F1 σ1 st1 ag1 s1.ii with ⟨stop, rfl⟩ | ⟨x, r, m', go, ev, hm, hn, hb, hrt, yl⟩
    · exact .inl ⟨stop, q I1 H1 F1 σ1 st1 ag1 s1⟩
    · refine .inr ⟨go, fun σ' H' => ∃ ρ I' F', Rem (k + 1) m' ρ ∧ StOk C I' H' σ' ρ F' ∧ Agree A σ σ' ∧ Step I H (Own Fs) I' H' (Own F'), fun σ' H' h => ⟨m', hm, h⟩, fun v H2 y => ?_⟩
      obtain ⟨I3, sI, sH, sS, nI, rf⟩ := yl v H2 y
      have st2 := st1.alloc sI sH sS nI
      have s2 : Step I H (Own Fs) I3 H2 (Own F1) := s1.trans ((Step.alloc sI sH nI (F := []) (fun _ z => nomatch z) _).weak fun c z => .inl z)
      unfold fStep at ev
      split at ev
      · rename_i r1 h1
        refine ⟨ρ, I3, F1, x, r1, st2, rf, h1, fun σ2 F2 st3 kσ own => ?_⟩
        refine ⟨r1, I3, F2, r, st3, ev, ?_⟩
        have ag2 : Agree A σ σ2 := ag1.trans fun i hi => kσ i fun z => hi (hA1 i z)
        exact q.turn hA2 ag2 (s2.weak own) (fun ρ' e I' H' Fs' σ' st' ag' s' => ⟨ρ', I', Fs', hn ρ' e, st', ag', s'⟩) hb hrt
      · cases ev
theorem rf_l {A : List Nat} {step : D → Nv → Option Out} {σ : St} {I : Hp} {J : It} {o : Out} {xs : List D} (w : Wk C I σ J (.l xs)) :
    Rf C A step σ I J o (fun k m ρ => m = xs.length - k ∧ k ≤ xs.length ∧ forL step (xs.drop k) ρ = some o) := by
  rintro k m ρ ⟨rfl, hk, ev⟩ I' H' Fs σ' st ag s
  obtain ⟨w1, w2⟩ := w k I' H' s st.same
  by_cases hlt : k < xs.length
  · have hd : xs.drop k = xs[k] :: xs.drop (k + 1) := List.drop_eq_getElem_cons hlt
    rw [hd] at ev
    unfold forL at ev
    obtain ⟨go, yl⟩ := w2 xs[k] (List.getElem?_eq_getElem hlt)
    have ylp : ∀ v H3, J.yld k H' v H3 → ∃ I3, Same I' I3 ∧ Same H' H3 ∧ Same I3 H3 ∧ (∀ a, I3 a ≠ none → I' a ≠ none ∨ H' a = none) ∧ RF C I3 xs[k] v := fun v H3 y => by
      obtain ⟨I3, a, b, c, d, e⟩ := yl v H3 y
      exact ⟨I3, a, b, c, d, e⟩
    split at ev
    · rename_i ρ' h1
      exact .inr ⟨xs[k], .nx ρ', xs.length - (k + 1), go, h1, by omega, (fun _ e => by rcases e with e | e <;> cases e; exact ⟨rfl, hlt, ev⟩), (fun _ e => by cases e), (fun _ _ e => by cases e), ylp⟩
    · rename_i ρ' h1
      exact .inr ⟨xs[k], .ct ρ', xs.length - (k + 1), go, h1, by omega, (fun _ e => by rcases e with e | e <;> cases e; exact ⟨rfl, hlt, ev⟩), (fun _ e => by cases e), (fun _ _ e => by cases e), ylp⟩
    · rename_i ρ' h1
      cases ev
      exact .inr ⟨xs[k], .bk ρ', xs.length - (k + 1), go, h1, by omega, (fun _ e => by rcases e with e | e <;> cases e), (fun _ e => by cases e; rfl), (fun _ _ e => by cases e), ylp⟩
    · rename_i d ρ' h1
      cases ev
      exact .inr ⟨xs[k], .rt d ρ', xs.length - (k + 1), go, h1, by omega, (fun _ e => by rcases e with e | e <;> cases e), (fun _ e => by cases e), (fun _ _ e => by cases e; rfl), ylp⟩
    · cases ev
  · have e : xs.drop k = [] := List.drop_eq_nil_of_le (by omega)
    rw [e] at ev
    unfold forL at ev
    cases ev
    exact .inl ⟨w1 (List.getElem?_eq_none (by omega)), rfl⟩
theorem rf_v {A : List Nat} {step : D → Nv → Option Out} {σ : St} {I : Hp} {J : It} {o : Out} {i : Nat} (hi : i ∉ A) (w : Wk C I σ J (.v i)) :
    Rf C A step σ I J o (fun k m ρ => forV step i m k ρ = some o) := by
  rintro k m ρ ev I' H' Fs σ' st ag s
  cases m with
  | zero => cases ev
  | succ m =>
    unfold forV at ev
    split at ev
    · rename_i c hc
      split at ev
      · rename_i xs hx
        obtain ⟨w1, w2⟩ := w k I' H' _ _ Fs c xs st (ag i hi) (join_some hc) hx
        split at ev
        · rename_i hk
          cases ev
          exact .inl ⟨w1 hk, rfl⟩
        · rename_i x hk
          obtain ⟨go, yl⟩ := w2 x hk
          have ylp : ∀ v H3, J.yld k H' v H3 → ∃ I3, Same I' I3 ∧ Same H' H3 ∧ Same I3 H3 ∧ (∀ a, I3 a ≠ none → I' a ≠ none ∨ H' a = none) ∧ RF C I3 x v := fun v H3 y => by
            obtain ⟨rfl, r⟩ := yl v H3 y
            exact ⟨I', Same.refl _, Same.refl _, st.same, fun a z => .inl z, r⟩
          split at ev
          · rename_i ρ' h1
            exact .inr ⟨x, .nx ρ', m, go, h1, by omega, (fun _ e => by rcases e with e | e <;> cases e; exact ev), (fun _ e => by cases e), (fun _ _ e => by cases e), ylp⟩
          · rename_i ρ' h1
            exact .inr ⟨x, .ct ρ', m, go, h1, by omega, (fun _ e => by rcases e with e | e <;> cases e; exact ev), (fun _ e => by cases e), (fun _ _ e => by cases e), ylp⟩
          · rename_i ρ' h1
            cases ev
            exact .inr ⟨x, .bk ρ', m, go, h1, by omega, (fun _ e => by rcases e with e | e <;> cases e), (fun _ e => by cases e; rfl), (fun _ _ e => by cases e), ylp⟩
          · rename_i d ρ' h1
            cases ev
            exact .inr ⟨x, .rt d ρ', m, go, h1, by omega, (fun _ e => by rcases e with e | e <;> cases e), (fun _ e => by cases e), (fun _ _ e => by cases e; rfl), ylp⟩
          · cases ev
      · cases ev
    · cases ev
theorem srcV {src : Src} {ρ ρ1 : Nv} {i : Nat} (h1 : evSrc G src ρ = some (.v i, ρ1)) : src = .v i := by
  cases src with
  | v j =>
    unfold evSrc at h1
    split at h1
    · split at h1
      · cases h1; rfl
      · cases h1
    · cases h1
  | rng1 b =>
    unfold evSrc at h1
    split at h1
    · obtain ⟨_, _, z⟩ := Option.map_eq_some_iff.mp h1; cases z
    · cases h1
  | rng2 a b =>
    unfold evSrc at h1
    split at h1
    · split at h1
      · obtain ⟨_, _, z⟩ := Option.map_eq_some_iff.mp h1; cases z
      · cases h1
    · cases h1
  | rng3 a b c =>
    unfold evSrc at h1
    split at h1
    · split at h1
      · split at h1
        · obtain ⟨_, _, z⟩ := Option.map_eq_some_iff.mp h1; cases z
        · cases h1
      · cases h1
    · cases h1
  | val e =>
    unfold evSrc at h1
    split at h1
    · obtain ⟨_, _, z⟩ := Option.map_eq_some_iff.mp h1; cases z
    · cases h1
theorem s_for (h : XOk C W sc X) {tg : Tg} {src : Src} {b : List S} {t iter : Expr} {x : List Stmt} {pos : Pos} (hi : PI X t iter (tS C (evSrc G src))) (hg : PG X t (tG C tg)) (hb : PSs X x (tO C (asgs b) (evSs G b))) (hs : notSet iter = true)
    (hv : ∀ i, src = .v i → i ∉ tgSlots tg ++ asgs b) : PS X (.For t iter x [] pos) (tO C (asg (.for_ tg src b)) (evS G (.for_ tg src b))) := by
  refine PS.imp (ps_for (by rw [h.xe]; exact PassesOwn.never) h.calm hi hg hb (foldedSet_not hs)) fun D σ H q => ?_
  obtain ⟨ρ, I, Fs, o, st, ev, q⟩ := q
  have eq : evS G (.for_ tg src b) ρ = match evSrc G src ρ with
      | some (its, ρ1) => match its with
        | .l xs => forL (fStep G tg b) xs ρ1
        | .v i => forV (fStep G tg b) i G.fuel 0 ρ1
      | none => none := by
    rw [evS]
    rfl
  rw [eq] at ev
  have m1 : ∀ i ∈ tgSlots tg, i ∈ asg (.for_ tg src b) := fun i h => by rw [asg]; exact List.mem_append_left _ h
  have m2 : ∀ i ∈ asgs b, i ∈ asg (.for_ tg src b) := fun i h => by rw [asg]; exact List.mem_append_right _ h
  split at ev
  · rename_i its ρ1 h1
    refine ⟨ρ, I, Fs, its, ρ1, st, h1, fun I1 H1 F1 J st1 s1 w => ?_⟩
    have q' := q.later (B := asg (.for_ tg src b)) (fun _ z => z) (Agree.refl _ _) s1
    split at ev
    · rename_i xs
      exact for_loop m1 m2 st1 (rf_l w) ⟨xs.length - 0, rfl, Nat.zero_le _, ev⟩ q'
    · rename_i i
      have hi : i ∉ asg (.for_ tg src b) := by
        rw [asg]
        exact hv i (srcV h1)
      exact for_loop m1 m2 st1 (rf_v hi w) ⟨G.fuel, ev⟩ q'
  · cases ev
theorem s_never {st : Stmt} : PS X st (tO C [] (evS G .never)) := PS.imp ps_never fun D σ H q => by
  obtain ⟨ρ, I, Fs, o, st, ev, q⟩ := q
  unfold evS at ev
  cases ev
theorem s_brk {pos : Pos} : PS X (.Break pos) (tO C [] (evS G .brk)) := PS.imp ps_break fun D σ H q => by
  obtain ⟨ρ, I, Fs, o, st, ev, q⟩ := q
  unfold evS at ev
  cases ev
  exact q I H Fs σ st (Agree.refl _ _) (Step.refl _ _ _)
theorem s_cont {pos : Pos} : PS X (.Continue pos) (tO C [] (evS G .cont)) := PS.imp ps_continue fun D σ H q => by
  obtain ⟨ρ, I, Fs, o, st, ev, q⟩ := q
  unfold evS at ev
  cases ev
  exact q I H Fs σ st (Agree.refl _ _) (Step.refl _ _ _)
/-- a comprehension stored on its own line: the store is made from within -/
theorem isComp_un {e : E} (h : isComp e = true) : (∃ el tg src ifs own, e = .comp el tg src ifs own) ∨ (∃ a b c d x y z u v, e = .comp2 a b c d x y z u v) := by
  unfold isComp at h
  split at h
  · exact .inl ⟨_, _, _, _, _, rfl⟩
  · exact .inr ⟨_, _, _, _, _, _, _, _, _, rfl⟩
  · cases h
theorem s_asgC (h : XOk C W sc X) (hf : FnAt C W G X) {i : Nat} {e : E} {n : Str} {py pos : Pos} {v : Expr} (hN : W.N[i]? = some n) (hc : isComp e = true) (hs : swapB sc n py v = true) (ho : okE W sc e v = true) : PS X (.Assign [.Name n py] v pos) (tO C [i] (evS G (.asg i e))) := by
  unfold swapB at hs
  split at hs
  · rename_i elt0 gs0 scope0 pos0
    simp only [Bool.and_eq_true] at hs
    obtain ⟨⟨hs1, hs2⟩, hs3⟩ := hs
    have hl : sc.names.lookup n = some .local := by
      split at hs1
      · assumption
      · cases hs1
    have hl' := h.lc n hl
    have sw := sw_true (elt := elt0) (gs := gs0) (l := pos.line) h.kind hl' hs2 (by simpa using hs3)
    rcases isComp_un hc with ⟨el, tg, src, ifs, own, rfl⟩ | ⟨_, _, _, _, _, _, _, _, _, rfl⟩
    · unfold okE at ho
      split at ho
      · rename_i elt t iter is scope pos2 hx
        injection hx with hx1 hx2 hx3 hx4
        subst hx1 hx2 hx3 hx4
        simp only [Bool.and_eq_true, List.all_eq_true, decide_eq_true_eq] at ho
        obtain ⟨⟨⟨⟨⟨⟨⟨h1, h2⟩, h3⟩, h4⟩, h5⟩, h6⟩, h7⟩, h8⟩ := ho
        have own2 : (ownN W own).map (·.2) = own := by unfold ownN; rw [List.map_map]; exact List.map_id' own
        have pe := ps_setLc (X := X) (own := ownN W own) (py := py) (spos := pos) h.calm (by rw [h.hN]; exact h.nd) (by rw [h.hN]; exact hN) hl' sw (soundSrc src sc X h hf t iter h6) (blkOk_env h h1) (fun s H D cl fp => pg_of (xok_blk h h1 s H D cl fp) tg t h3)
          (fun s H D cl fp => pts_of (xok_blk h h1 s H D cl fp) h4 (soundTs ifs _ _ (xok_blk h h1 s H D cl fp) (fnAt_blk hf s H _ fp))) (fun s H D cl fp => soundE el _ _ (xok_blk h h1 s H D cl fp) (fnAt_blk hf s H _ fp) _ h5) (foldedSet_not h7)
        rw [own2] at pe
        refine PS.imp pe fun D σ H q => ?_
        have q1 := asg_read List.mem_cons_self q
        exact comp_read h2 (fun i hi => by rw [hi] at h8; simpa using h8) q1
      · cases ho
    · unfold okE at ho
      cases ho
  · cases hs
theorem swapNone {es vs : List Expr} {k p} {v : Expr} {env : PySem.Env} (h : (match v with | .Tuple _ _ _ => false | _ => true) = true) : swappedStores [.Tuple es k p] v env = pure none := by
  cases v <;> first | rfl | (exact absurd h (by simp))
mutual
theorem soundS : ∀ (s : S) (sc : Scope) (X : Cx), XOk C W sc X → FnAt C W G X → ∀ x, okS W sc s x = true → PS X x (tO C (asg s) (evS G s))
  | .asg i e, sc, X, h, hf, x, ho => by
    unfold okS at ho
    split at ho
    · simp only [Bool.and_eq_true, Bool.or_eq_true, decide_eq_true_eq] at ho
      obtain ⟨⟨⟨h1, h2⟩, h3⟩, h4⟩ := ho
      rw [asg]
      rcases h4 with z | z
      · exact s_asg h h1 h2 z (soundE e sc X h hf _ h3)
      · exact s_asgC h hf h1 z.1 z.2 h3
    · cases ho
  | .par i j a b, sc, X, h, hf, x, ho => by
    unfold okS at ho
    split at ho
    · rw [Bool.and_false] at ho
      cases ho
    · cases ho
  | .unp tg e, sc, X, h, hf, x, ho => by
    unfold okS at ho
    split at ho
    · simp only [Bool.and_eq_true] at ho
      obtain ⟨⟨⟨h1, h2⟩, h3⟩, h4⟩ := ho
      rw [asg]
      exact s_unp h h1 h3 (swapNone (vs := []) h4) (soundE e sc X h hf _ h2)
    · cases ho
  | .aug i p e, sc, X, h, hf, x, ho => by
    unfold okS at ho
    split at ho
    · simp only [Bool.and_eq_true, decide_eq_true_eq] at ho
      obtain ⟨⟨⟨h1, h2⟩, h3⟩, h4⟩ := ho
      rw [asg]
      exact s_aug h h1 h2 h3 (soundE e sc X h hf _ h4)
    · cases ho
  | .augL i e, sc, X, h, hf, x, ho => by
    unfold okS at ho
    split at ho
    · simp only [Bool.and_eq_true, decide_eq_true_eq] at ho
      obtain ⟨⟨h1, h2⟩, h3⟩ := ho
      rw [asg]
      exact s_augL h h1 h2 (soundE e sc X h hf _ h3)
    · cases ho
  | .setI i k e, sc, X, h, hf, x, ho => by
    unfold okS at ho
    split at ho
    · simp only [Bool.and_eq_true] at ho
      obtain ⟨⟨⟨⟨h1, h2⟩, h3⟩, h4⟩, h5⟩ := ho
      rw [asg]
      · exact s_setI h h1 h2 h3 h5 (soundE e sc X h hf _ h4)
      all_goals simp
    · cases ho
  | .augI i k p e, sc, X, h, hf, x, ho => by
    unfold okS at ho
    split at ho
    · simp only [Bool.and_eq_true, decide_eq_true_eq] at ho
      obtain ⟨⟨⟨⟨h1, h2⟩, h3⟩, h4⟩, h5⟩ := ho
      rw [asg]
      · exact s_augI h h1 h2 h3 h4 (soundE e sc X h hf _ h5)
      all_goals simp
    · cases ho
  | .append i e, sc, X, h, hf, x, ho => by
    unfold okS at ho
    split at ho
    · simp only [Bool.and_eq_true, decide_eq_true_eq] at ho
      obtain ⟨⟨⟨⟨h1, rfl⟩, h3⟩, h4⟩, h5⟩ := ho
      rw [asg]
      · exact s_append h h1 h3 h4 (soundE e sc X h hf _ h5)
      all_goals simp
    · cases ho
  | .reverse i, sc, X, h, hf, x, ho => by
    unfold okS at ho
    split at ho
    · simp only [Bool.and_eq_true, decide_eq_true_eq] at ho
      obtain ⟨⟨h1, rfl⟩, h3⟩ := ho
      rw [asg]
      · exact s_reverse h h1 h3
      all_goals simp
    · cases ho
  | .ex e, sc, X, h, hf, x, ho => by
    unfold okS at ho
    split at ho
    · rw [Bool.and_eq_true] at ho
      rw [asg]
      · exact s_ex ho.2 (soundE e sc X h hf _ ho.1)
      all_goals simp
    · cases ho
  | .ife t a b, sc, X, h, hf, x, ho => by
    unfold okS at ho
    split at ho
    · simp only [Bool.and_eq_true] at ho
      exact s_ife (soundT t sc X h hf _ ho.1.1) (soundSs a sc X h hf _ ho.1.2) (soundSs b sc X h hf _ ho.2)
    · cases ho
  | .whl t b, sc, X, h, hf, x, ho => by
    unfold okS at ho
    split at ho
    · simp only [Bool.and_eq_true] at ho
      exact s_whl h (soundT t sc X h hf _ ho.1) (soundSs b sc X h hf _ ho.2)
    · cases ho
  | .for_ tg src b, sc, X, h, hf, x, ho => by
    unfold okS at ho
    split at ho
    · simp only [Bool.and_eq_true] at ho
      obtain ⟨⟨⟨⟨h1, h2⟩, h3⟩, h4⟩, h5⟩ := ho
      exact s_for h (soundSrc src sc X h hf _ _ h2) (pg_of h tg _ h1) (soundSs b sc X h hf _ h3) h4 fun i hi => by
        rw [hi] at h5
        simpa using h5
    · cases ho
  | .ret e, sc, X, h, hf, x, ho => by
    unfold okS at ho
    split at ho
    · rw [asg]
      · exact s_ret (soundE e sc X h hf _ ho)
      all_goals simp
    · cases ho
  | .retN, sc, X, h, hf, x, ho => by
    unfold okS at ho
    split at ho
    · rw [asg]
      · exact s_retN
      all_goals simp
    · cases ho
  | .pass, sc, X, h, hf, x, ho => by
    unfold okS at ho
    rw [asg]
    · split at ho
      · exact PS.imp ps_pass fun D σ H q => next_read (f := evS G .pass) (fun ρ => by rw [evS]) q
      · exact PS.imp ps_doc fun D σ H q => next_read (f := evS G .pass) (fun ρ => by rw [evS]) q
      · cases ho
    all_goals simp
  | .brk, sc, X, h, hf, x, ho => by
    unfold okS at ho
    split at ho
    · rw [asg]
      · exact s_brk
      all_goals simp
    · cases ho
  | .cont, sc, X, h, hf, x, ho => by
    unfold okS at ho
    split at ho
    · rw [asg]
      · exact s_cont
      all_goals simp
    · cases ho
  | .never, sc, X, h, hf, x, ho => by
    rw [asg]
    · exact s_never
    all_goals simp
theorem soundSs : ∀ (ss : List S) (sc : Scope) (X : Cx), XOk C W sc X → FnAt C W G X → ∀ xs, okSs W sc ss xs = true → PSs X xs (tO C (asgs ss) (evSs G ss))
  | [], sc, X, h, hf, xs, ho => by
    cases xs with
    | nil => rw [asgs]; exact ss_nil
    | cons x xs => unfold okSs at ho; cases ho
  | s :: ss, sc, X, h, hf, xs, ho => by
    cases xs with
    | nil => unfold okSs at ho; cases ho
    | cons x xs =>
      unfold okSs at ho
      rw [Bool.and_eq_true] at ho
      exact ss_cons (soundS s sc X h hf x ho.1) (soundSs ss sc X h hf xs ho.2)
end
end
end Kw

set_option maxRecDepth 100000
set_option maxHeartbeats 4000000
/-! Kw16: the defs of a text keep what the evaluator says; the head of a law. -/
namespace Kw
open PySem L2
open PyProof.Rows (envOfC)
theorem xok_fn {C : KC} {P : Program} {w : World} {mg : Str → Option Value} {base : Heap} {N ps B fns : List Str} {qual : Str} {sc : Scope} {f : Addr} {cdv : Value} {A : Around} {outer : List PySem.Env} {s : Shared} {H : Hp} {E : XK} {k : Nat}
    (S : FnScope N ps sc) (hr : Room k (A.deeper (envOfC qual sc s.heap.objs.size f cdv))) {gi : List (Str × Int)} {gs : List (Str × Str)} (hb : ∀ x ∈ B, mg x = none) (hgi : ∀ n i, (n, i) ∈ gi → ∃ u, mg n = some u ∧ RelV (.int i) u) (hgs : ∀ n x, (n, x) ∈ gs → ∃ u, mg n = some u ∧ RelV (.str x) u) : XOk C ⟨N, B, fns, gi, gs⟩ sc (cxOf CX0 P w C.K mg base N qual sc f cdv A outer s H E).nox := by
  refine ⟨rfl, S.nd, rfl, rfl, rfl, S.kind, fun x e => e, fun x e => ⟨e, rfl⟩, fun x e => absurd rfl (S.nofree _ (PySem.mem_of_lookup e)), fun x e => e, hb, hr.units, hgi, hgs⟩
/-- names behind the parameters are empty at the entry -/
theorem StOk.pad {C : KC} {I H : Hp} {σ : St} {ρ : Nv} {Fs : Fp} (st : StOk C I H σ ρ Fs) (n : Nat) : StOk C I H (σ ++ List.replicate n none) (ρ ++ List.replicate n none) Fs where
  same := st.same
  len := by simp [st.len]
  rep := fun i d h => by
    by_cases q : i < ρ.length
    · rw [List.getElem?_append_left q] at h
      rw [List.getElem?_append_left (by rw [st.len]; exact q)]
      exact st.rep i d h
    · rw [List.getElem?_append_right (Nat.le_of_not_lt q)] at h
      have := List.mem_of_getElem? h
      have := List.eq_of_mem_replicate this
      cases this
  emp := fun i h => by
    by_cases q : i < ρ.length
    · exact st.emp i fun d z => h d (by rw [List.getElem?_append_left q]; exact z)
    · exact st.emp i fun d z => by rw [List.getElem?_eq_none (Nat.le_of_not_lt q)] at z; cases z
  dj := st.dj
theorem lentOk_len : ∀ {bs : List Bool} {ds : List D}, lentOk bs ds = true → bs.length = ds.length
  | [], [], _ => rfl
  | [], _ :: _, h => by cases h
  | _ :: _, [], h => by cases h
  | _ :: bs, _ :: ds, h => by
    unfold lentOk at h
    rw [Bool.and_eq_true] at h
    simp [lentOk_len h.2]
theorem lentOk_get : ∀ {bs : List Bool} {ds : List D} {i : Nat} {d : D}, lentOk bs ds = true → bs[i]? = some false → ds[i]? = some d → d.isFz = true
  | [], _, _, _, _, h, _ => by simp at h
  | _ :: _, [], _, _, _, _, h => by simp at h
  | b :: bs, d :: ds, 0, e, h, h1, h2 => by
    unfold lentOk at h
    rw [Bool.and_eq_true] at h
    simp at h1 h2
    subst h1 h2
    simpa using h.1
  | b :: bs, d :: ds, i + 1, e, h, h1, h2 => by
    unfold lentOk at h
    rw [Bool.and_eq_true] at h
    exact lentOk_get (i := i) h.2 (by simpa using h1) (by simpa using h2)
theorem outsOf_len : ∀ {bs : List Bool} {ρ : Nv} {i : Nat} {ds outs : List D}, outsOf ρ bs i ds = some outs → outs.length = bs.length
  | [], _, _, _, _, h => by unfold outsOf at h; cases h; rfl
  | _ :: _, _, _, [], _, h => by unfold outsOf at h; cases h
  | b :: bs, ρ, i, d :: ds, outs, h => by
    unfold outsOf at h
    split at h
    · rename_i os ho
      split at h
      · split at h <;> cases h
        simp [outsOf_len ho]
      · cases h
        simp [outsOf_len ho]
    · cases h
theorem outsOf_get : ∀ {bs : List Bool} {ρ : Nv} {i : Nat} {ds outs : List D}, outsOf ρ bs i ds = some outs → ∀ {j : Nat} {e : D}, outs[j]? = some e → (bs[j]? = some true ∧ ρ[i + j]? = some (some e)) ∨ (bs[j]? = some false ∧ ds[j]? = some e)
  | [], _, _, _, _, h, j, e, q => by unfold outsOf at h; cases h; simp at q
  | _ :: _, _, _, [], _, h, _, _, _ => by unfold outsOf at h; cases h
  | b :: bs, ρ, i, d :: ds, outs, h, j, e, q => by
    unfold outsOf at h
    split at h
    · rename_i os ho
      split at h
      · rename_i hb
        split at h <;> cases h
        rename_i e' he
        cases j with
        | zero =>
          simp at q
          subst q
          exact .inl ⟨by simp [hb], join_some he⟩
        | succ j =>
          have := outsOf_get ho (j := j) (e := e) (by simpa using q)
          rw [show i + 1 + j = i + (j + 1) by omega] at this
          simpa using this
      · rename_i hb
        cases h
        have hb' : b = false := by simpa using hb
        cases j with
        | zero =>
          simp at q
          subst q
          exact .inr ⟨by simp [hb'], rfl⟩
        | succ j =>
          have := outsOf_get ho (j := j) (e := e) (by simpa using q)
          rw [show i + 1 + j = i + (j + 1) by omega] at this
          simpa using this
    · cases h
/-- at a def's end: the parameters -/
theorem back_args {C : KC} {I H I' H' : Hp} {vs : List V} {ds outs : List D} {Fa Fs : Fp} {σ' : St} {ρ' : Nv} {bs : List Bool} {A : List Nat} {N : List Str} (st0 : StOk C I H (vs.map some) (ds.map some) Fa) (st : StOk C I' H' σ' ρ' Fs) (ii : Same I I')
    (hl : lentOk bs ds = true) (ho : outsOf ρ' bs 0 ds = some outs) (ag : Agree A (L2.start N vs) σ') (hA : ∀ i, bs[i]? = some true → i ∉ A) :
    ∃ Fa', StOk C I' H' (vs.map some) (outs.map some) Fa' ∧ ∀ a, Own Fa' a → Own Fs a := by
  have lds : vs.length = ds.length := by have := st0.len; simpa using this
  have lo : outs.length = ds.length := (outsOf_len ho).trans (lentOk_len hl)
  refine ⟨fun i => if bs[i]? = some true then Fs i else [], ⟨st.same, by simp; omega, fun i d h => ?_, fun i h => ?_, fun i j hij a ha => ?_⟩, fun a ⟨i, ha⟩ => ?_⟩
  · obtain ⟨e, he⟩ : ∃ e, outs[i]? = some e ∧ e = d := by
      rw [List.getElem?_map] at h
      cases z : outs[i]? with
      | none => rw [z] at h; cases h
      | some e => rw [z] at h; cases h; exact ⟨_, rfl, rfl⟩
    obtain ⟨he, rfl⟩ := he
    rcases outsOf_get ho he with ⟨hb, hρ⟩ | ⟨hb, hd⟩
    · rw [Nat.zero_add] at hρ
      obtain ⟨v, hv, r⟩ := st.rep i e hρ
      refine ⟨v, ?_, by rw [if_pos hb]; exact r⟩
      rw [ag i (hA i hb)] at hv
      unfold L2.start at hv
      rw [List.getElem?_append_left (by
        have := lt_of_some he
        simp
        omega)] at hv
      exact hv
    · obtain ⟨v, hv, r⟩ := st0.rep i e (by rw [List.getElem?_map, hd]; rfl)
      refine ⟨v, hv, ?_⟩
      rw [if_neg (by rw [hb]; intro z; cases z)]
      have fz := lentOk_get hl hb hd
      exact .fz ((RF.rp_fz r fz).1.mono ii)
  · split
    · rename_i hb
      have hlt : i < outs.length := by
        have := lt_of_some hb
        rw [lentOk_len hl] at this
        omega
      exact absurd (by rw [List.getElem?_map, List.getElem?_eq_getElem hlt]; rfl) (h outs[i])
    · rfl
  · split at ha
    · split
      · exact st.dj i j hij a ha
      · exact fun z => nomatch z
    · exact nomatch ha
  · dsimp only at ha
    split at ha
    · exact ⟨i, ha⟩
    · exact nomatch ha

/-- a def of the text: its name, its statement, its names, its form -/
structure Dt where
  name : Str
  st : Stmt
  ps : List Str
  N : List Str
  df : Df
structure Wg where
  B : List Str
  gi : List (Str × Int)
  gs : List (Str × Str)
structure WgOk (g : Wg) (mg : Str → Option Value) : Prop where
  hB : ∀ x ∈ g.B, mg x = none
  gi : ∀ n i, (n, i) ∈ g.gi → ∃ u, mg n = some u ∧ RelV (.int i) u
  gs : ∀ n x, (n, x) ∈ g.gs → ∃ u, mg n = some u ∧ RelV (.str x) u
def okDef (g : Wg) (fns : List Str) (t : Dt) : Bool :=
  okSs ⟨t.N, g.B, fns, g.gi, g.gs⟩ (defScope t.st) t.df.body (defBody t.st) && decide (t.df.slots = t.N.length) && decide (t.df.lent.length = t.ps.length) && (List.range t.ps.length).all (fun i => !(t.df.lent.getD i false && (asgs t.df.body).contains i)) && decide (fns[0]? ≠ none)
def scB (N P : List Str) (sc : Scope) : Bool :=
  decide (sc.kind = .function) && !sc.isCoroutine && !sc.isGenerator && decide N.Nodup && decide (N.take P.length = P) && P.all (fun x => decide (sc.names.lookup x = some .local) || decide (sc.names.lookup x = some .cell)) && sc.names.all (fun y => !decide (y.2 = .free))
theorem scB_fn {N P : List Str} {sc : Scope} (h : scB N P sc = true) : FnScope N P sc := by
  unfold scB at h
  simp only [Bool.and_eq_true, Bool.not_eq_true', decide_eq_true_eq, List.all_eq_true, Bool.or_eq_true, decide_eq_false_iff_not] at h
  obtain ⟨⟨⟨⟨⟨⟨h1, h2⟩, h3⟩, h4⟩, h5⟩, h6⟩, h7⟩ := h
  exact ⟨h1, h2, h3, h4, h5, h6, h7⟩
/-- a def as it stands behind the top -/
structure DtAt (K : PySem.W.Frag) (mg : Str → Option Value) (t : Dt) : Prop where
  ex : ∃ (fa : Addr) (fd : FuncData), Fun K t.name t.name t.st fa fd ∧ Binds K fd t.ps [] ∧ mg t.name = some (.ref fa)
section
variable {C : KC} {P : Program} {w : World} {mg : Str → Option Value} {base : Heap} {g : Wg} {Ts : List Dt} {fuel : Nat}
theorem fn_step {t : Dt} {fa : Addr} {fd : FuncData} {n f : Nat} (F : Fun C.K t.name t.name t.st fa fd) (hok : okDef g (Ts.map (·.name)) t = true) (hsc : scB t.N t.ps (defScope t.st) = true) (hB : WgOk g mg) (ht : Ts[f]? = some t)
    (ih : ∀ cx : Cx, cx.prog = P → cx.w = w → cx.K = C.K → cx.mg = mg → cx.base = base → Room (n + 1) cx.A → FnAt C ⟨t.N, g.B, Ts.map (·.name), g.gi, g.gs⟩ ⟨evF (Ts.map (·.df)) fuel n, fuel⟩ cx) :
    FnOk P w C.K mg base CX0 (n + 2) fa fd t.ps (spF C (evF (Ts.map (·.df)) fuel (n + 1) f)) := by
  have S := scB_fn hsc
  unfold okDef at hok
  simp only [Bool.and_eq_true, decide_eq_true_eq, List.all_eq_true, List.mem_range, Bool.not_eq_true'] at hok
  obtain ⟨⟨⟨⟨o1, o2⟩, o3⟩, o4⟩, o5⟩ := hok
  have hf : (Ts.map (·.df))[f]? = some t.df := by rw [List.getElem?_map, ht]; rfl
  have hA : ∀ i, t.df.lent[i]? = some true → i ∉ asgs t.df.body := fun i hi z => by
    have := o4 i (by rw [← o3]; exact lt_of_some hi)
    rw [List.getD_eq_getElem?_getD, hi] at this
    simp at this
    exact this z
  refine F.ok S (fun vs H Q E h => ?_) (fun cdv A outer s H vs Q E hr h => ?_)
  · obtain ⟨I, ds, Fa, d, outs, st, ev, _⟩ := h
    unfold evF at ev
    rw [hf] at ev
    simp only at ev
    split at ev
    · rename_i hl
      have := lentOk_len hl
      have l := st.len
      simp at l
      omega
    · cases ev
  · obtain ⟨I, ds, Fa, d, outs, st, ev, q⟩ := h
    have xok := xok_fn (C := C) (P := P) (w := w) (mg := mg) (base := base) (B := g.B) (fns := Ts.map (·.name)) (qual := t.name) (f := fa) (cdv := cdv) (A := A) (outer := outer) (s := s) (H := H) (E := E) S hr hB.hB hB.gi hB.gs
    refine ⟨_, soundSs t.df.body (defScope t.st) _ xok (ih _ rfl rfl rfl rfl rfl hr) (defBody t.st) o1, ?_⟩
    unfold evF at ev
    rw [hf] at ev
    simp only at ev
    split at ev
    · rename_i hl
      have lds : vs.length = ds.length := by have := st.len; simpa using this
      have st0 : StOk C I H (L2.start t.N vs) (ds.map some ++ List.replicate (t.df.slots - ds.length) none) Fa := by
        unfold L2.start
        rw [o2, lds]
        exact st.pad _
      split at ev
      · rename_i d' ρ' h1
        cases z : outsOf ρ' t.df.lent 0 ds with
        | none => rw [z] at ev; cases ev
        | some os =>
          rw [z] at ev
          cases ev
          refine ⟨_, I, Fa, _, st0, h1, fun I' H' Fs' F' v σ' st' ag r dj sp => ?_⟩
          obtain ⟨Fa', st2, own⟩ := back_args st st' sp.ii hl z ag hA
          exact q I' H' Fa' F' v st2 r (fun a ha z => dj a ha (own a z)) (sp.weak fun a z => z.elim (fun z => .inl (own a z)) .inr)
      · rename_i ρ' h1
        cases z : outsOf ρ' t.df.lent 0 ds with
        | none => rw [z] at ev; cases ev
        | some os =>
          rw [z] at ev
          cases ev
          refine ⟨_, I, Fa, _, st0, h1, fun I' H' Fs' σ' st' ag sp => ?_⟩
          obtain ⟨Fa', st2, own⟩ := back_args st st' sp.ii hl z ag hA
          exact q I' H' Fa' [] .non st2 (.fz .non) (fun a ha => nomatch ha) (sp.weak fun a z => z.elim (own a) (fun z => nomatch z))
      · cases ev
    · cases ev
theorem fns_ok (hB : WgOk g mg) (hT : ∀ t ∈ Ts, DtAt C.K mg t ∧ okDef g (Ts.map (·.name)) t = true ∧ scB t.N t.ps (defScope t.st) = true) :
    ∀ (n f : Nat) (t : Dt), Ts[f]? = some t → ∃ (fa : Addr) (fd : FuncData), mg t.name = some (.ref fa) ∧ PySem.W.keepIn C.K (.ref fa) = true ∧ Binds C.K fd t.ps [] ∧ FnOk P w C.K mg base CX0 (n + 1) fa fd t.ps (spF C (evF (Ts.map (·.df)) fuel n f))
  | 0, f, t, ht => by
    obtain ⟨⟨fa, fd, F, b, m⟩, o, s⟩ := hT t (List.mem_of_getElem? ht)
    refine ⟨fa, fd, m, F.kp, b, F.ok (scB_fn s) (fun vs H Q E h => ?_) (fun cdv A outer s H vs Q E hr h => ?_)⟩
    · obtain ⟨I, ds, Fa, d, outs, st, ev, q⟩ := h
      unfold evF at ev
      cases ev
    · obtain ⟨I, ds, Fa, d, outs, st, ev, q⟩ := h
      unfold evF at ev
      cases ev
  | n + 1, f, t, ht => by
    obtain ⟨⟨fa, fd, F, b, m⟩, o, s⟩ := hT t (List.mem_of_getElem? ht)
    refine ⟨fa, fd, m, F.kp, b, fn_step F o s hB ht fun cx e1 e2 e3 e4 e5 hr => ⟨fun j nm hg => ?_⟩⟩
    obtain ⟨u, hu, rfl⟩ : ∃ u, Ts[j]? = some u ∧ u.name = nm := by
      have hg' : (Ts.map (·.name))[j]? = some nm := hg
      rw [List.getElem?_map] at hg'
      cases z : Ts[j]? with
      | none => rw [z] at hg'; cases hg'
      | some u => rw [z] at hg'; cases hg'; exact ⟨u, rfl, rfl⟩
    obtain ⟨fa', fd', m', k', b', F'⟩ := fns_ok hB hT n j u hu
    exact ⟨fa', fd', u.ps, n + 1, by rw [e4]; exact m', by rw [e3]; exact k', by rw [e3]; exact b', by rw [e1, e2, e3, e4, e5]; exact F', hr⟩
end
/-- what the head wants of a law -/
def spL (C : KC) : Sp := fun vs H Q _ => ∃ (a : Addr) (ns : List Int), vs = [.ref a] ∧ SqL C.K H a (ns.map V.int) ∧ ns.length ≤ 63 ∧ ∀ H', Q (.bl true) H'
theorem law_ok {C : KC} {P : Program} {w : World} {mg : Str → Option Value} {base : Heap} {g : Wg} {Ts : List Dt} {fuel n f : Nat} {t : Dt} (hB : WgOk g mg) (hT : ∀ t ∈ Ts, DtAt C.K mg t ∧ okDef g (Ts.map (·.name)) t = true ∧ scB t.N t.ps (defScope t.st) = true) (ht : Ts[f]? = some t)
    (law : ∀ ns : List Int, ns.length ≤ 63 → ∃ outs, evF (Ts.map (·.df)) fuel n f [.lst .kw (ns.map .int)] = some (.bl true, outs)) :
    ∃ (fa : Addr) (fd : FuncData), mg t.name = some (.ref fa) ∧ FnOk P w C.K mg base CX0 (n + 1) fa fd t.ps (spL C) := by
  obtain ⟨fa, fd, m, _, _, F⟩ := fns_ok (P := P) (w := w) (base := base) (fuel := fuel) hB hT n f t ht
  refine ⟨fa, fd, m, F.imp fun vs H Q E h => ?_⟩
  obtain ⟨a, ns, rfl, hs, hl, q⟩ := h
  obtain ⟨outs, ev⟩ := law ns hl
  have t : RFs C H (ns.map .int) (ns.map V.int) := by
    clear ev hs hl
    induction ns with
    | nil => exact .nil
    | cons n ns ih => exact .cons (.int _) ih
  refine ⟨H, _, fun _ => [], _, outs, ⟨Same.refl _, rfl, fun i d h => ?_, fun _ _ => rfl, fun _ _ _ _ ha => nomatch ha⟩, ev, fun I' H' Fa' F v st r dj sp => ?_⟩
  · cases i with
    | zero =>
      cases h
      exact ⟨.ref a, rfl, .fz (.lstK hs t)⟩
    | succ i => simp at h
  · have : v = .bl true := by
      cases r with
      | fz r => cases r; rfl
    rw [this]
    exact q H'
end Kw

set_option maxRecDepth 100000
set_option maxHeartbeats 4000000
/-! Kw17: loops by an invariant; the deck. -/
namespace Kw
open PySem L2
theorem forL_all {step : D → Nv → Option Out} {xs : List D} (P : Nat → Nv → Prop) (hs : ∀ k x ρ, xs[k]? = some x → P k ρ → ∃ ρ', step x ρ = some (.nx ρ') ∧ P (k + 1) ρ') :
    ∀ {ρ : Nv}, P 0 ρ → ∃ ρ', forL step xs ρ = some (.nx ρ') ∧ P xs.length ρ' := by
  have go : ∀ (n : Nat) (k : Nat) (ρ : Nv), k + n = xs.length → P k ρ → ∃ ρ', forL step (xs.drop k) ρ = some (.nx ρ') ∧ P xs.length ρ' := by
    intro n
    induction n with
    | zero =>
      intro k ρ hk p
      have : xs.drop k = [] := List.drop_eq_nil_of_le (by omega)
      rw [this]
      refine ⟨ρ, by unfold forL; rfl, ?_⟩
      rw [← hk]
      exact p
    | succ n ih =>
      intro k ρ hk p
      have hlt : k < xs.length := by omega
      rw [List.drop_eq_getElem_cons hlt]
      unfold forL
      obtain ⟨ρ', e, p'⟩ := hs k xs[k] ρ (List.getElem?_eq_getElem hlt) p
      rw [e]
      exact ih (k + 1) ρ' (by omega) p'
  intro ρ p
  exact go xs.length 0 ρ (by omega) p
theorem rngD_up {n : Int} (h0 : 0 ≤ n) (h : n < 2 ^ 62) : rngD 0 n 1 = some ((List.range n.toNat).map fun (k : Nat) => D.int (k : Int)) := by
  unfold rngD
  rw [if_pos ⟨rfl, by decide, by decide, by omega, h⟩]
  simp
theorem range_at {n k : Nat} {x : D} (h : ((List.range n).map fun (k : Nat) => D.int (k : Int))[k]? = some x) : k < n ∧ x = .int k := by
  rw [List.getElem?_map] at h
  by_cases hk : k < n
  · rw [List.getElem?_range hk] at h
    exact ⟨hk, (Option.some.inj h).symm⟩
  · rw [List.getElem?_eq_none (by simpa using Nat.le_of_not_lt hk)] at h
    cases h

theorem evF_rt {Φ : List Df} {fuel n f : Nat} {fd : Df} {ds outs : List D} {d : D} {ρ : Nv} (hf : Φ[f]? = some fd) (hl : lentOk fd.lent ds = true) (h : evSs ⟨evF Φ fuel n, fuel⟩ fd.body (ds.map some ++ List.replicate (fd.slots - ds.length) none) = some (.rt d ρ)) (ho : outsOf ρ fd.lent 0 ds = some outs) :
    evF Φ fuel (n + 1) f ds = some (d, outs) := by
  rw [evF, hf]
  simp only
  rw [if_pos hl, h]
  simp only [ho, Option.map]
theorem evFor {G : Cal} {tg : Tg} {src : Src} {b : List S} {ρ ρ1 : Nv} {xs : List D} (h : evSrc G src ρ = some (.l xs, ρ1)) : evS G (.for_ tg src b) ρ = forL (fStep G tg b) xs ρ1 := by
  rw [evS, h]
  rfl
theorem evForV {G : Cal} {tg : Tg} {src : Src} {b : List S} {ρ ρ1 : Nv} {i : Nat} (h : evSrc G src ρ = some (.v i, ρ1)) : evS G (.for_ tg src b) ρ = forV (fStep G tg b) i G.fuel 0 ρ1 := by
  rw [evS, h]
  rfl
theorem ss_nx {G : Cal} {a : S} {as : List S} {ρ ρ1 : Nv} (h : evS G a ρ = some (.nx ρ1)) : evSs G (a :: as) ρ = evSs G as ρ1 := by
  rw [evSs, h]
theorem ss_none {G : Cal} {ρ : Nv} : evSs G [] ρ = some (.nx ρ) := by
  rw [evSs]
theorem ife_t {G : Cal} {t : T} {a b : List S} {ρ ρ1 : Nv} (h : evT G t ρ = some (true, ρ1)) : evS G (.ife t a b) ρ = evSs G a ρ1 := by
  rw [evS, h]
theorem ife_f {G : Cal} {t : T} {a b : List S} {ρ ρ1 : Nv} (h : evT G t ρ = some (false, ρ1)) : evS G (.ife t a b) ρ = evSs G b ρ1 := by
  rw [evS, h]
theorem t_x {G : Cal} {e : X} {ρ : Nv} {b : Bool} (h : evX e ρ = some (.bl b)) : evT G (.x e) ρ = some (b, ρ) := by
  rw [evT, h]
  rfl
/-! ### _law_deck, _law_take: the same in every law -/
def s__law_deck : Df where
  lent := [false, false, false]
  slots := 9
  body := [
    (.asg 3 (.lst false [])),
    (.asg 4 (.x (.op .add [(.c (.int 7)), (.op .len [(.v 0)])]))),
    (.for_ (.n 5) (.rng1 (.v 1)) [(.asg 6 (.x (.c (.int 0)))), (.ife (.x (.op .lt [(.v 5), (.op .len [(.v 0)])])) [(.asg 6 (.x (.op .ix [(.v 0), (.v 5)])))] []), (.asg 7 (.x (.op .abs [(.v 6)]))),
      (.ife (.x (.op .ge [(.v 7), (.op .pow [(.c (.int 10)), (.c (.int 30))])])) [(.for_ (.n 8) (.rng1 (.v 2)) [(.append 3 (.x (.op .mod [(.op .int [(.v 7)]), (.c (.int 1000003))]))), (.asg 7 (.x (.op .fdiv [(.v 7), (.c (.int 1000003))])))])]
      [(.asg 4 (.x (.op .mod [(.op .int [(.op .add [(.op .add [(.op .add [(.op .mul [(.v 4), (.c (.int 48271))]), (.op .mul [(.c (.int 2)), (.v 7)])]), (.op .int [(.op .lt [(.v 6), (.c (.int 0))])])]), (.v 5)])]), (.c (.int 2147483647))]))),
       (.for_ (.n 8) (.rng1 (.v 2)) [(.asg 4 (.x (.op .mod [(.op .int [(.op .add [(.op .add [(.op .mul [(.v 4), (.c (.int 69621))]), (.v 8)]), (.c (.int 1))])]), (.c (.int 2147483629))]))), (.append 3 (.x (.op .mod [(.op .int [(.op .fdiv [(.v 4), (.c (.int 5))])]), (.c (.int 1000003))])))])])]),
    (.reverse 3),
    (.ret (.mv 3))]
def s__law_take : Df where
  lent := [true, false]
  slots := 2
  body := [
    (.ife (.x (.op .eq [(.op .len [(.v 0)]), (.c (.int 0))])) [(.ret (.x (.c (.int 0))))] []),
    (.ret (.op .mod [(.op .int [(.pop 0 none)]), (.v 1)]))]

theorem l2_card : Nat.log2 1000003 < 9000 := by decide +kernel
theorem l2_five : Nat.log2 5 < 9000 := by decide +kernel
/-- cards of a deck -/
def Cards (xs : List Int) : Prop := ∀ x ∈ xs, 0 ≤ x ∧ x < 1000003
theorem fmod_card (a : Int) : 0 ≤ a.fmod 1000003 ∧ a.fmod 1000003 < 1000003 := ⟨by rw [Int.fmod_eq_emod_of_nonneg _ (by decide)]; exact Int.emod_nonneg _ (by decide), Int.fmod_lt_of_pos _ (by decide)⟩
section
variable {G : Cal}
/-- what the deck's maker holds -/
def DeckIs (s : List Int) (cells each : Nat) (n : Nat) (ρ : Nv) : Prop := ∃ (xs : List Int) (seed : Int) (k c r a : Option D), ρ = [some (.lst .kw (s.map .int)), some (.int cells), some (.int each), some (.lst .ow (xs.map .int)), some (.int seed), k, c, r, a] ∧ Cards xs ∧ xs.length = n
def DeckIn (s : List Int) (cells each : Nat) (k c : Int) (n : Nat) (ρ : Nv) : Prop := ∃ (xs : List Int) (seed r : Int) (a : Option D), ρ = [some (.lst .kw (s.map .int)), some (.int cells), some (.int each), some (.lst .ow (xs.map .int)), some (.int seed), some (.int k), some (.int c), some (.int r), a] ∧ Cards xs ∧ xs.length = n
theorem cards_app {xs : List Int} (h : Cards xs) (a : Int) : Cards (xs ++ [a.fmod 1000003]) := fun x hx => by
  rcases List.mem_append.mp hx with q | q
  · exact h x q
  · rw [List.mem_singleton.mp q]
    exact fmod_card a
theorem evRng1 {i : Nat} {ρ : Nv} {n : Nat} (h : ρ[i]? = some (some (.int n))) (hn : (n : Int) < 2 ^ 62) : evSrc G (.rng1 (.v i)) ρ = some (.l ((List.range n).map fun (k : Nat) => D.int (k : Int)), ρ) := by
  unfold evSrc evE
  rw [h]
  have e : ρ.set i (some (freeze (.int n))) = ρ := by
    apply List.ext_getElem?
    intro j
    by_cases q : i = j
    · subst q
      rw [List.getElem?_set_self (lt_of_some h), h]
      rfl
    · rw [List.getElem?_set_ne q]
  show (rngD 0 n 1).map (fun xs => (Its.l xs, ρ.set i (some (freeze (.int n))))) = _
  rw [rngD_up (by omega) hn, e]
  rfl
theorem deck_cellA {s : List Int} {cells each : Nat} (he : (each : Int) < 2 ^ 62) {k c : Int} {n : Nat} (hn : n + each < lineN) {ρ : Nv} (h : DeckIn s cells each k c n ρ) :
    ∃ ρ', evS G (.for_ (.n 8) (.rng1 (.v 2)) [(.append 3 (.x (.op .mod [(.op .int [(.v 7)]), (.c (.int 1000003))]))), (.asg 7 (.x (.op .fdiv [(.v 7), (.c (.int 1000003))])))]) ρ = some (.nx ρ') ∧ DeckIn s cells each k c (n + each) ρ' := by
  have h2 : ρ[2]? = some (some (.int each)) := by obtain ⟨xs, seed, r, a, rfl, _⟩ := h; rfl
  rw [evFor (evRng1 h2 he)]
  have := forL_all (step := fStep G (.n 8) [(.append 3 (.x (.op .mod [(.op .int [(.v 7)]), (.c (.int 1000003))]))), (.asg 7 (.x (.op .fdiv [(.v 7), (.c (.int 1000003))])))]) (xs := (List.range each).map fun (k : Nat) => D.int (k : Int)) (fun j ρ => DeckIn s cells each k c (n + j) ρ) (fun j x ρ hx ⟨xs, seed, r, a, e, hc, hl⟩ => by
      obtain ⟨hj, rfl⟩ := range_at hx
      subst e
      refine ⟨[some (.lst .kw (s.map .int)), some (.int cells), some (.int each), some (.lst .ow ((xs ++ [r.fmod 1000003]).map .int)), some (.int seed), some (.int k), some (.int c), some (.int (r.fdiv 1000003)), some (.int j)], ?_, xs ++ [r.fmod 1000003], seed, _, _, rfl, cards_app hc r, by simp [hl]; omega⟩
      have hlt : xs.length < lineN := by omega
      simp [fStep, bindT, evSs, evS, evE, evX, evXs, opD, opMod, opInt, opFdiv, Op.pure, D.isFz, freeze, hlt, l2_card]) (ρ := ρ) (by simpa using h)
  obtain ⟨ρ', e, p⟩ := this
  refine ⟨ρ', e, ?_⟩
  simpa using p
theorem small_r {i j : Int} (h : -(2 ^ 64) < j ∧ j < 2 ^ 64) : small i j = true := by
  unfold small
  rw [decide_eq_true h.1, decide_eq_true h.2]
  simp
theorem small_l {i j : Int} (h : -(2 ^ 64) < i ∧ i < 2 ^ 64) : small i j = true := by
  unfold small
  rw [decide_eq_true h.1, decide_eq_true h.2]
  simp
theorem deck_cellB {s : List Int} {cells each : Nat} (he : (each : Int) < 2 ^ 62) {k c : Int} {n : Nat} (hn : n + each < lineN) {ρ : Nv} (h : DeckIn s cells each k c n ρ) :
    ∃ ρ', evS G (.for_ (.n 8) (.rng1 (.v 2)) [(.asg 4 (.x (.op .mod [(.op .int [(.op .add [(.op .add [(.op .mul [(.v 4), (.c (.int 69621))]), (.v 8)]), (.c (.int 1))])]), (.c (.int 2147483629))]))), (.append 3 (.x (.op .mod [(.op .int [(.op .fdiv [(.v 4), (.c (.int 5))])]), (.c (.int 1000003))])))]) ρ = some (.nx ρ') ∧ DeckIn s cells each k c (n + each) ρ' := by
  have h2 : ρ[2]? = some (some (.int each)) := by obtain ⟨xs, seed, r, a, rfl, _⟩ := h; rfl
  rw [evFor (evRng1 h2 he)]
  have := forL_all (step := fStep G (.n 8) [(.asg 4 (.x (.op .mod [(.op .int [(.op .add [(.op .add [(.op .mul [(.v 4), (.c (.int 69621))]), (.v 8)]), (.c (.int 1))])]), (.c (.int 2147483629))]))), (.append 3 (.x (.op .mod [(.op .int [(.op .fdiv [(.v 4), (.c (.int 5))])]), (.c (.int 1000003))])))]) (xs := (List.range each).map fun (k : Nat) => D.int (k : Int)) (fun j ρ => DeckIn s cells each k c (n + j) ρ) (fun j x ρ hx ⟨xs, seed, r, a, e, hc, hl⟩ => by
      obtain ⟨hj, rfl⟩ := range_at hx
      subst e
      refine ⟨[some (.lst .kw (s.map .int)), some (.int cells), some (.int each), some (.lst .ow ((xs ++ [(((seed * 69621 + j + 1).fmod 2147483629).fdiv 5).fmod 1000003]).map .int)), some (.int ((seed * 69621 + j + 1).fmod 2147483629)), some (.int k), some (.int c), some (.int r), some (.int j)], ?_, xs ++ [(((seed * 69621 + j + 1).fmod 2147483629).fdiv 5).fmod 1000003], _, _, _, rfl, cards_app hc _, by simp [hl]; omega⟩
      have hlt : xs.length < lineN := by omega
      simp [fStep, bindT, evSs, evS, evE, evX, evXs, opD, opMod, opInt, opFdiv, opAdd, opMul, Op.pure, D.isFz, freeze, hlt, l2_card, l2_five, small_r (i := seed) (j := 69621) (by decide)]) (ρ := ρ) (by simpa using h)
  obtain ⟨ρ', e, p⟩ := this
  refine ⟨ρ', e, ?_⟩
  simpa using p
theorem ge30 {x : Int} {ρ : Nv} (h : ρ[7]? = some (some (.int x))) : evX (.op .ge [(.v 7), (.op .pow [(.c (.int 10)), (.c (.int 30))])]) ρ = some (.bl (decide ((10 : Int) ^ (30 : Int).toNat ≤ x))) := by
  simp [evX, evXs, opD, opCmp, opPow, Op.pure, h]
theorem deck_first {s : List Int} {cells each : Nat} {k : Nat} {xs : List Int} {seed : Int} {c0 r0 a0 : Option D} : ∀ c : Int, ((k < s.length ∧ s[k]? = some c) ∨ (¬ k < s.length ∧ c = 0)) → ∀ rest : List S, evSs G ((.asg 6 (.x (.c (.int 0)))) :: (.ife (.x (.op .lt [(.v 5), (.op .len [(.v 0)])])) [(.asg 6 (.x (.op .ix [(.v 0), (.v 5)])))] []) :: (.asg 7 (.x (.op .abs [(.v 6)]))) :: rest)
    [some (.lst .kw (s.map .int)), some (.int cells), some (.int each), some (.lst .ow (xs.map .int)), some (.int seed), some (.int k), c0, r0, a0] =
    evSs G rest [some (.lst .kw (s.map .int)), some (.int cells), some (.int each), some (.lst .ow (xs.map .int)), some (.int seed), some (.int k), some (.int c), some (.int (if c < 0 then -c else c)), a0] := by
  intro c hc rest
  rcases hc with ⟨h1, h2⟩ | ⟨h1, rfl⟩
  · have h3 : (k : Int) < (s.length : Int) := by omega
    have h4 : ixD s.length (k : Int) = some k := by
      unfold ixD
      rw [if_pos (by omega), if_pos h3]
      simp
    have h5 : (s.map D.int)[k]? = some (.int c) := by rw [List.getElem?_map, h2]; rfl
    simp [evSs, evS, evT, evE, evX, evXs, opD, opCmp, opLen, opIx, opAbs, truth, Op.pure, D.isFz, h3, h4, h2]
  · have h3 : ¬ (k : Int) < (s.length : Int) := by omega
    simp [evSs, evS, evT, evE, evX, evXs, opD, opCmp, opLen, opIx, opAbs, truth, Op.pure, D.isFz, h3]
/-- one cell's text -/
def cellBody : List S := [(.asg 6 (.x (.c (.int 0)))), (.ife (.x (.op .lt [(.v 5), (.op .len [(.v 0)])])) [(.asg 6 (.x (.op .ix [(.v 0), (.v 5)])))] []), (.asg 7 (.x (.op .abs [(.v 6)]))),
      (.ife (.x (.op .ge [(.v 7), (.op .pow [(.c (.int 10)), (.c (.int 30))])])) [(.for_ (.n 8) (.rng1 (.v 2)) [(.append 3 (.x (.op .mod [(.op .int [(.v 7)]), (.c (.int 1000003))]))), (.asg 7 (.x (.op .fdiv [(.v 7), (.c (.int 1000003))])))])]
      [(.asg 4 (.x (.op .mod [(.op .int [(.op .add [(.op .add [(.op .add [(.op .mul [(.v 4), (.c (.int 48271))]), (.op .mul [(.c (.int 2)), (.v 7)])]), (.op .int [(.op .lt [(.v 6), (.c (.int 0))])])]), (.v 5)])]), (.c (.int 2147483647))]))),
       (.for_ (.n 8) (.rng1 (.v 2)) [(.asg 4 (.x (.op .mod [(.op .int [(.op .add [(.op .add [(.op .mul [(.v 4), (.c (.int 69621))]), (.v 8)]), (.c (.int 1))])]), (.c (.int 2147483629))]))), (.append 3 (.x (.op .mod [(.op .int [(.op .fdiv [(.v 4), (.c (.int 5))])]), (.c (.int 1000003))])))])])]
theorem deck_seed {s : List Int} {cells each k : Nat} {xs : List Int} {seed c r : Int} {a0 : Option D} : evS G (.asg 4 (.x (.op .mod [(.op .int [(.op .add [(.op .add [(.op .add [(.op .mul [(.v 4), (.c (.int 48271))]), (.op .mul [(.c (.int 2)), (.v 7)])]), (.op .int [(.op .lt [(.v 6), (.c (.int 0))])])]), (.v 5)])]), (.c (.int 2147483647))]))) [some (.lst .kw (s.map .int)), some (.int cells), some (.int each), some (.lst .ow (xs.map .int)), some (.int seed), some (.int k), some (.int c), some (.int r), a0] =
    some (.nx [some (.lst .kw (s.map .int)), some (.int cells), some (.int each), some (.lst .ow (xs.map .int)), some (.int ((seed * 48271 + 2 * r + (if c < 0 then 1 else 0) + k).fmod 2147483647)), some (.int k), some (.int c), some (.int r), a0]) := by
  have m1 : small seed 48271 = true := small_r (by decide)
  have m2 : small 2 r = true := small_l (by decide)
  simp [evS, evE, evX, evXs, opD, opMod, opInt, opAdd, opMul, opCmp, Op.pure, D.isFz, m1, m2]
/-- one cell's cards -/
theorem deck_cell {s : List Int} {cells each : Nat} (he : (each : Int) < 2 ^ 62) {k : Nat} {n : Nat} (hn : n + each < lineN) {ρ : Nv} (h : DeckIs s cells each n ρ) : ∃ ρ', fStep G (.n 5) cellBody (.int k) ρ = some (.nx ρ') ∧ DeckIs s cells each (n + each) ρ' := by
  obtain ⟨xs, seed, k0, c0, r0, a0, rfl, hc, hl⟩ := h
  obtain ⟨c, hcc⟩ : ∃ c : Int, (k < s.length ∧ s[k]? = some c) ∨ (¬ k < s.length ∧ c = 0) := by
    by_cases h1 : k < s.length
    · exact ⟨s[k], .inl ⟨h1, List.getElem?_eq_getElem h1⟩⟩
    · exact ⟨0, .inr ⟨h1, rfl⟩⟩
  have hb : bindT (.n 5) (.int k) [some (D.lst .kw (s.map .int)), some (.int cells), some (.int each), some (.lst .ow (xs.map .int)), some (.int seed), k0, c0, r0, a0] = some [some (.lst .kw (s.map .int)), some (.int cells), some (.int each), some (.lst .ow (xs.map .int)), some (.int seed), some (.int k), c0, r0, a0] := by
    simp [bindT]
  unfold fStep
  rw [hb]
  simp only [cellBody]
  rw [deck_first c hcc]
  generalize hr : (if c < 0 then -c else c) = r
  by_cases big : (10 : Int) ^ (30 : Int).toNat ≤ r
  · obtain ⟨ρ', e, p⟩ := deck_cellA (G := G) he (k := k) (c := c) hn (ρ := [some (.lst .kw (s.map .int)), some (.int cells), some (.int each), some (.lst .ow (xs.map .int)), some (.int seed), some (.int k), some (.int c), some (.int r), a0]) ⟨xs, seed, r, a0, rfl, hc, hl⟩
    refine ⟨ρ', ?_, ?_⟩
    · refine (ss_nx ((ife_t (t_x (ge30 rfl |>.trans (by rw [decide_eq_true big])))).trans ((ss_nx e).trans ss_none))).trans ss_none
    · obtain ⟨ys, sd, r', a, rfl, h1, h2⟩ := p
      exact ⟨ys, sd, _, _, _, _, rfl, h1, h2⟩
  · obtain ⟨ρ', e, p⟩ := deck_cellB (G := G) he (k := k) (c := c) hn (ρ := [some (.lst .kw (s.map .int)), some (.int cells), some (.int each), some (.lst .ow (xs.map .int)), some (.int ((seed * 48271 + 2 * r + (if c < 0 then 1 else 0) + k).fmod 2147483647)), some (.int k), some (.int c), some (.int r), a0]) ⟨xs, _, r, a0, rfl, hc, hl⟩
    refine ⟨ρ', ?_, ?_⟩
    · refine (ss_nx ((ife_f (t_x (ge30 rfl |>.trans (by rw [decide_eq_false big])))).trans ((ss_nx deck_seed).trans ((ss_nx e).trans ss_none)))).trans ss_none
    · obtain ⟨ys, sd, r', a, rfl, h1, h2⟩ := p
      exact ⟨ys, sd, _, _, _, _, rfl, h1, h2⟩
end
/-- the deck is made: cells * each cards -/
theorem deck_made {Φ : List Df} {fuel n f : Nat} (hf : Φ[f]? = some s__law_deck) (s : List Int) (cells each : Nat) (hb : cells * each < 10000) (hc : cells < 10000) (he : each < 10000) :
    ∃ xs : List Int, evF Φ fuel (n + 1) f [.lst .kw (s.map .int), .int cells, .int each] = some (.lst .ow (xs.map .int), [.lst .kw (s.map .int), .int cells, .int each]) ∧ Cards xs ∧ xs.length = cells * each := by
  have l : lineN = 16777216 := rfl
  have loop := forL_all (step := fStep ⟨evF Φ fuel n, fuel⟩ (.n 5) cellBody) (xs := (List.range cells).map fun (k : Nat) => D.int (k : Int)) (fun j ρ => DeckIs s cells each (j * each) ρ) (fun j x ρ hx p => by
      obtain ⟨hj, rfl⟩ := range_at hx
      have m : j * each + each ≤ cells * each := by
        have := Nat.mul_le_mul_right each (show j + 1 ≤ cells by omega)
        rw [Nat.succ_mul] at this
        exact this
      obtain ⟨ρ', e, q⟩ := deck_cell (G := ⟨evF Φ fuel n, fuel⟩) (s := s) (cells := cells) (each := each) (k := j) (n := j * each) (by omega) (by omega) p
      refine ⟨ρ', e, ?_⟩
      rw [Nat.succ_mul]
      exact q) (ρ := [some (.lst .kw (s.map .int)), some (.int cells), some (.int each), some (.lst .ow []), some (.int (7 + (s.length : Int))), none, none, none, none]) ⟨[], _, _, _, _, _, rfl, (fun x hx => nomatch hx), by simp⟩
  obtain ⟨ρ', e, xs, seed, k, c, r, a, rfl, h1, h2⟩ := loop
  refine ⟨xs.reverse, ?_, fun x hx => h1 x (List.mem_reverse.mp hx), by simpa using h2⟩
  refine evF_rt (ρ := [some (.lst .kw (s.map .int)), some (.int cells), some (.int each), none, some (.int seed), k, c, r, a]) hf (by simp [s__law_deck, lentOk, D.isFz]) ?_ (by simp [s__law_deck, outsOf])
  have st : ∀ rest, evSs ⟨evF Φ fuel n, fuel⟩ ((.asg 3 (.lst false [])) :: (.asg 4 (.x (.op .add [(.c (.int 7)), (.op .len [(.v 0)])]))) :: rest) (([D.lst .kw (s.map .int), .int cells, .int each].map some) ++ List.replicate (9 - [D.lst .kw (s.map .int), .int cells, .int each].length) none) =
      evSs ⟨evF Φ fuel n, fuel⟩ rest [some (.lst .kw (s.map .int)), some (.int cells), some (.int each), some (.lst .ow []), some (.int (7 + (s.length : Int))), none, none, none, none] := by
    intro rest
    simp [evSs, evS, evE, evFs, evX, evXs, opD, opAdd, opLen, Op.pure, D.isFz, List.replicate]
  refine (st _).trans ?_
  refine (ss_nx ((evFor (evRng1 (n := cells) rfl (by omega))).trans e)).trans ?_
  simp [evSs, evS, evE]
/-- a card is drawn -/
theorem take_made {Φ : List Df} {fuel n f : Nat} (hf : Φ[f]? = some s__law_take) (xs : List Int) (many : Int) (h0 : many ≠ 0) :
    evF Φ fuel (n + 1) f [.lst .ow (xs.map .int), .int many] = some (.int (match xs.getLast? with | some x => x.fmod many | none => 0), [.lst .ow (xs.dropLast.map .int), .int many]) := by
  refine evF_rt (ρ := [some (.lst .ow (xs.dropLast.map .int)), some (.int many)]) hf (by simp [s__law_take, lentOk, D.isFz]) ?_ (by simp [s__law_take, outsOf])
  simp only [s__law_take]
  cases h : xs.getLast? with
  | none =>
    have : xs = [] := by simpa using h
    subst this
    simp [evSs, evS, evT, evE, evX, evXs, opD, opLen, eqD, truth, outsOf, Op.pure, D.isFz, List.replicate]
  | some x =>
    have hne : xs ≠ [] := by intro z; subst z; simp at h
    have hl : ¬ ((xs.length : Int) = 0) := by
      cases xs with
      | nil => exact absurd rfl hne
      | cons a as => simp; omega
    have h' : (xs.map D.int).getLast? = some (.int x) := by rw [List.getLast?_map, h]; rfl
    simp [evSs, evS, evT, evE, evAs, getAVs, isV, AV.get, evX, evXs, opD, opLen, opMod, opInt, eqD, truth, outsOf, Op.pure, D.isFz, hl, h', h0, hne, h]
theorem take_any {Φ : List Df} {fuel n f : Nat} (hf : Φ[f]? = some s__law_take) (xs : List Int) {many : Nat} (h0 : 0 < many) :
    ∃ (r : Nat) (ys : List Int), r < many ∧ evF Φ fuel (n + 1) f [.lst .ow (xs.map .int), .int many] = some (.int r, [.lst .ow (ys.map .int), .int many]) := by
  have t := take_made (fuel := fuel) (n := n) hf xs (many := many) (by omega)
  cases h : xs.getLast? with
  | none =>
    rw [h] at t
    exact ⟨0, _, h0, t⟩
  | some x =>
    rw [h] at t
    have p1 : 0 ≤ x.fmod many := by rw [Int.fmod_eq_emod_of_nonneg _ (by omega)]; exact Int.emod_nonneg _ (by omega)
    have p2 : x.fmod many < many := Int.fmod_lt_of_pos _ (by omega)
    refine ⟨(x.fmod many).toNat, xs.dropLast, by omega, t.trans ?_⟩
    rw [Int.toNat_of_nonneg p1]
end Kw

set_option maxRecDepth 100000
set_option maxHeartbeats 4000000
/-! Kw18: from the written part of the top to the head. -/
namespace Kw
open PySem L2
open PyProof.Rows (envOfC)
theorem dtAt {K : PySem.W.Frag} {h : Heap} {mg : Str → Option Value} (t : Dt) (X : K.In h) (G : h.Ns mainGlobals mg) {fa : Addr} {oc kV doc pm cdv ct : Value} {od an : Option Addr} {sl : Array (Option Value)}
    (a : PySem.W.nsIn K mainGlobals t.name = some (some (.ref fa))) (lk : K.lookup fa = some ⟨oc, od, .func (PySem.W.fnOf t.name t.name (defArgs t.st) (defBody t.st) (defScope t.st) .none kV doc pm an cdv ct), sl⟩)
    (c : PySem.W.codeIn K cdv t.name = true) (k : PySem.W.keepIn K (.ref fa) = true)
    (hb : ∀ (kV doc pm : Value) (an : Option Addr) (cdv ct : Value) (us : List Value), us.length = t.ps.length → bindArgs (PySem.W.fnOf t.name t.name (defArgs t.st) (defBody t.st) (defScope t.st) .none kV doc pm an cdv ct) ⟨us, []⟩ = pure (t.ps.zip us)) : DtAt K mg t := by
  have F := fun_mk (st := t.st) lk c k
  exact ⟨fa, _, F, F.binds (ps := t.ps) hb, PySem.W.mg_of X G a⟩
theorem gi_mk {K : PySem.W.Frag} {h : Heap} {mg : Str → Option Value} (X : K.In h) (G : h.Ns mainGlobals mg) {n : Str} {i : Int} {t : Tok} (a : PySem.W.nsIn K mainGlobals n = some (some (.int i t))) : ∃ u, mg n = some u ∧ RelV (.int i) u := ⟨_, PySem.W.mg_of X G a, t, rfl⟩
theorem gs_mk {K : PySem.W.Frag} {h : Heap} {mg : Str → Option Value} (X : K.In h) (G : h.Ns mainGlobals mg) {n : Str} {i : Str} {t : Tok} (a : PySem.W.nsIn K mainGlobals n = some (some (.str i t))) : ∃ u, mg n = some u ∧ RelV (.str i) u := ⟨_, PySem.W.mg_of X G a, t, rfl⟩
/-- a law: its def at fa -/
theorem law_at {C : KC} {P : Program} {w : World} {mg : Str → Option Value} {base : Heap} {g : Wg} {Ts : List Dt} {fuel n f : Nat} {t : Dt} {fa : Addr} {fd : FuncData} (hB : WgOk g mg) (hT : ∀ t ∈ Ts, DtAt C.K mg t) (hk : ∀ t ∈ Ts, okDef g (Ts.map (·.name)) t = true ∧ scB t.N t.ps (defScope t.st) = true) (ht : Ts[f]? = some t)
    (F : Fun C.K t.name t.name t.st fa fd) (law : ∀ ns : List Int, ns.length ≤ 63 → ∃ outs, evF (Ts.map (·.df)) fuel (n + 1) f [.lst .kw (ns.map .int)] = some (.bl true, outs)) : FnOk P w C.K mg base CX0 (n + 2) fa fd t.ps (spL C) := by
  have all : ∀ t ∈ Ts, DtAt C.K mg t ∧ okDef g (Ts.map (·.name)) t = true ∧ scB t.N t.ps (defScope t.st) = true := fun t m => ⟨hT t m, hk t m⟩
  have o := hk t (List.mem_of_getElem? ht)
  have FK := fn_step (C := C) (P := P) (w := w) (base := base) (fuel := fuel) (n := n) F o.1 o.2 hB ht fun cx e1 e2 e3 e4 e5 hr => ⟨fun j nm hg => by
    obtain ⟨u, hu, rfl⟩ : ∃ u, Ts[j]? = some u ∧ u.name = nm := by
      have hg' : (Ts.map (·.name))[j]? = some nm := hg
      rw [List.getElem?_map] at hg'
      cases z : Ts[j]? with
      | none => rw [z] at hg'; cases hg'
      | some u => rw [z] at hg'; cases hg'; exact ⟨u, rfl, rfl⟩
    obtain ⟨fa', fd', m', k', b', F'⟩ := fns_ok (P := P) (w := w) (base := base) (fuel := fuel) hB all n j u hu
    exact ⟨fa', fd', u.ps, n + 1, by rw [e4]; exact m', by rw [e3]; exact k', by rw [e3]; exact b', by rw [e1, e2, e3, e4, e5]; exact F', hr⟩⟩
  refine FK.imp fun vs H Q E h => ?_
  obtain ⟨a, ns, rfl, hs, hl, q⟩ := h
  obtain ⟨outs, ev⟩ := law ns hl
  refine ⟨H, _, fun _ => [], _, outs, ⟨Same.refl _, rfl, fun i d h => ?_, fun _ _ => rfl, fun _ _ _ _ ha => nomatch ha⟩, ev, fun I' H' Fa' F v st r dj sp => ?_⟩
  · cases i with
    | zero =>
      cases h
      exact ⟨.ref a, rfl, .fz (.lstK hs (RFs.of_ints ns))⟩
    | succ i => simp at h
  · have : v = .bl true := by
      cases r with
      | fz r => cases r; rfl
    rw [this]
    exact q H'
theorem walk {l : PySem.W.OpenLaw} {q : Program} {loose : List Str} {XP : (Str → Option Value) → Heap → Prop} {YP : World → Heap → Prop} {d : DefRec} {K : Params → PySem.W.Frag} {cls : Nat → Addr} (k : Nat) (hr : Room k callerA) (hn : l.most = some 63) (hdf : d.params.defaults = [])
    (hY : ∀ (w : World) (h : Heap), YP w h → (K w.params).In h)
    (F : ∀ (w : World) (mg : Str → Option Value) (fa : Addr) (h : Heap), (K w.params).In h → h.Ns mainGlobals mg → mg d.name = some (.ref fa) →
      ∃ fd : FuncData, (∀ (s : Shared) (u : Value), BindsTo s fd ⟨[u], []⟩ [("script", u)]) ∧ ∀ base : Heap, (K w.params).In base → base.Ns mainGlobals mg → FnOk l.prog w (K w.params) mg base CX0 k fa fd ["script"] (spL ⟨K w.params, cls⟩)) :
    PySem.W.WalkO q loose XP YP l.row.toRowW d [] (fun f vs => PySem.call f vs) :=
  L2.walk_of (n := 63) (k := k) (x := "script") (CX := fun _ => CX0) (sp := fun w => spL ⟨K w.params, cls⟩) hn (by decide) hdf hr hY F (fun _ _ a ns hl _ hS => ⟨a, ns, rfl, hS, hl, fun _ => rfl⟩) fun _ _ _ _ _ z => z
end Kw

namespace K35
open PySem L2 Kw
def top (i : Nat) : Stmt := PySem.Challenge.pw_kinwork_k35_whole_numbers_of_societies_b.main.body.getD i (.Pass ⟨0, 0, 0, 0⟩)
def s_check_size : Df where
  lent := [false, false]
  slots := 2
  body := [
    (.ife (.bool false [(.not_ (.x (.op (.isi .int) [(.v 0)]))), (.x (.op (.isi .bool) [(.v 0)])), (.x (.op .lt [(.v 0), (.c (.int 1))]))]) [.never] []),
    (.ife (.x (.op .gt [(.v 0), (.v 1)])) [.never] [])]
def t_check_size : Dt := ⟨"check_size", top 7, ["size", "most"], ["size", "most"], s_check_size⟩
def s_factorial : Df where
  lent := [false]
  slots := 3
  body := [
    (.asg 1 (.x (.c (.int 1)))),
    (.for_ (.n 2) (.rng2 (.x (.c (.int 2))) (.x (.op .add [(.v 0), (.c (.int 1))]))) [(.aug 1 .mul (.v 2))]),
    (.ret (.mv 1))]
def t_factorial : Dt := ⟨"factorial", top 8, ["size"], ["size", "found", "number"], s_factorial⟩
def s_choose : Df where
  lent := [false, false]
  slots := 2
  body := [
    (.ret (.op .fdiv [(.call 1 [.f (.v 0)]), (.op .mul [(.call 1 [.f (.v 1)]), (.call 1 [.f (.x (.op .sub [(.v 0), (.v 1)]))])])]))]
def t_choose : Dt := ⟨"choose", top 9, ["many", "few"], ["many", "few"], s_choose⟩
def s_told : Df where
  lent := [false]
  slots := 1
  body := [
    (.ex (.call 0 [.f (.v 0), .f (.x (.c (.int 30)))])),
    (.ret (.op .mul [(.call 1 [.f (.v 0)]), (.call 1 [.f (.v 0)])]))]
def t_told : Dt := ⟨"told", top 10, ["size"], ["size"], s_told⟩
def s_whole_rows : Df where
  lent := [false]
  slots := 6
  body := [
    (.asg 1 (.lst false [(.x (.c (.int 0)))])),
    (.for_ (.n 2) (.rng2 (.x (.c (.int 1))) (.x (.op .add [(.v 0), (.c (.int 1))]))) [(.asg 3 (.op .mul [(.call 1 [.f (.v 2)]), (.call 1 [.f (.v 2)])])), (.for_ (.n 4) (.rng2 (.x (.c (.int 1))) (.v 2)) [(.asg 5 (.call 1 [.f (.x (.op .sub [(.v 2), (.v 4)]))])), (.aug 3 .sub (.op .mul [(.op .mul [(.op .mul [(.call 2 [.f (.x (.op .sub [(.v 2), (.c (.int 1))])), .f (.x (.op .sub [(.v 4), (.c (.int 1))]))]), (.x (.op .ix [(.v 1), (.v 4)]))]), (.v 5)]), (.v 5)]))]), (.append 1 (.v 3))]),
    (.ret (.mv 1))]
def t_whole_rows : Dt := ⟨"whole_rows", top 11, ["size"], ["size", "found", "many", "total", "few", "rest"], s_whole_rows⟩
def s_told_whole : Df where
  lent := [false]
  slots := 1
  body := [
    (.ex (.call 0 [.f (.v 0), .f (.x (.c (.int 30)))])),
    (.ret (.op .ix [(.call 4 [.f (.v 0)]), (.v 0)]))]
def t_told_whole : Dt := ⟨"told_whole", top 12, ["size"], ["size"], s_told_whole⟩
def s_named : Df where
  lent := [false]
  slots := 1
  body := [
    (.ex (.call 0 [.f (.v 0), .f (.x (.c (.int 30)))])),
    (.ret (.op .fdiv [(.op .ix [(.call 4 [.f (.v 0)]), (.v 0)]), (.call 1 [.f (.x (.op .sub [(.v 0), (.c (.int 1))]))])]))]
def t_named : Dt := ⟨"named", top 13, ["size"], ["size"], s_named⟩
def s_ways_as_sums : Df where
  lent := [false, false]
  slots := 5
  body := [
    (.ife (.x (.op .eq [(.v 0), (.c (.int 0))])) [(.ret (.lst false [(.lst false [])]))] []),
    (.asg 2 (.lst false [])),
    (.for_ (.n 3) (.rng3 (.x (.op .min2 [(.v 0), (.v 1)])) (.x (.c (.int 0))) (-1)) [(.augL 2 (.comp (.op .cat [(.lst false [(.v 3)]), (.v 4)]) (.n 4) (.val (.call 7 [.f (.x (.op .sub [(.v 0), (.v 3)])), .f (.v 3)])) [] [4]))]),
    (.ret (.mv 2))]
def t_ways_as_sums : Dt := ⟨"ways_as_sums", top 14, ["size", "most"], ["size", "most", "found", "first", "rest"], s_ways_as_sums⟩
def s_alike_rows : Df where
  lent := [false]
  slots := 7
  body := [
    (.asg 1 (.x (.c (.int 0)))),
    (.for_ (.n 2) (.val (.call 7 [.f (.v 0), .f (.v 0)])) [(.asg 3 (.x (.c (.int 1)))), (.for_ (.n 4) (.val (.op .sset [(.v 2)])) [(.asg 5 (.x (.op .count [(.v 2), (.v 4)]))), (.aug 3 .mul (.call 1 [.f (.v 5)])), (.for_ (.n 6) (.rng1 (.v 5)) [(.aug 3 .mul (.v 4))])]), (.aug 1 .add (.v 3))]),
    (.ret (.mv 1))]
def t_alike_rows : Dt := ⟨"alike_rows", top 15, ["size"], ["size", "total", "row", "product", "part", "many", "_"], s_alike_rows⟩
def s_all_alike : Df where
  lent := [false]
  slots := 1
  body := [
    (.ex (.call 0 [.f (.v 0), .f (.x (.c (.int 30)))])),
    (.ret (.call 8 [.f (.v 0)]))]
def t_all_alike : Dt := ⟨"all_alike", top 16, ["size"], ["size"], s_all_alike⟩
def s_with_more : Df where
  lent := [false, false, false, false]
  slots := 8
  body := [
    (.asg 4 (.op .rep [(.lst false [(.x (.c (.int 0)))]), (.x (.op .add [(.v 3), (.c (.int 1))]))])),
    (.for_ (.n 5) (.rng1 (.x (.op .add [(.v 3), (.c (.int 1))]))) [(.for_ (.n 6) (.rng1 (.x (.op .add [(.op .fdiv [(.v 5), (.v 1)]), (.c (.int 1))]))) [(.asg 7 (.ife (.x (.op .gt [(.op .add [(.v 2), (.v 6)]), (.c (.int 0))])) (.call 2 [.f (.x (.op .sub [(.op .add [(.v 2), (.v 6)]), (.c (.int 1))])), .f (.v 6)]) (.x (.c (.int 1))))), (.augI 4 (.v 5) .add (.x (.op .mul [(.op .ix [(.v 0), (.op .sub [(.v 5), (.op .mul [(.v 6), (.v 1)])])]), (.v 7)])))])]),
    (.ret (.mv 4))]
def t_with_more : Dt := ⟨"with_more", top 17, ["counts", "size", "whole", "most"], ["counts", "size", "whole", "most", "found", "many", "times", "kinds"], s_with_more⟩
def s_whole_alike : Df where
  lent := [false]
  slots := 4
  body := [
    (.ex (.call 0 [.f (.v 0), .f (.x (.c (.int 20)))])),
    (.asg 1 (.op .cat [(.lst false [(.x (.c (.int 1)))]), (.op .rep [(.lst false [(.x (.c (.int 0)))]), (.v 0)])])),
    (.asg 2 (.x (.c (.int 0)))),
    (.for_ (.n 3) (.rng2 (.x (.c (.int 1))) (.x (.op .add [(.v 0), (.c (.int 1))]))) [(.asg 2 (.op .sub [(.call 8 [.f (.v 3)]), (.x (.op .ix [(.v 1), (.v 3)]))])), (.asg 1 (.call 10 [.f (.v 1), .f (.v 3), .f (.v 2), .f (.v 0)]))]),
    (.ret (.mv 2))]
def t_whole_alike : Dt := ⟨"whole_alike", top 18, ["size"], ["size", "counts", "found", "many"], s_whole_alike⟩
def s_even_alike : Df where
  lent := [false]
  slots := 2
  body := [
    (.ex (.call 0 [.f (.v 0), .f (.x (.c (.int 30)))])),
    (.ret (.op .sum [(.comp (.v 1) (.n 1) (.rng2 (.x (.c (.int 1))) (.x (.op .add [(.v 0), (.c (.int 1))]))) [(.x (.op .eq [(.op .mod [(.v 0), (.v 1)]), (.c (.int 0))]))] [1])]))]
def t_even_alike : Dt := ⟨"even_alike", top 19, ["size"], ["size", "part"], s_even_alike⟩
def s_crossed_alike : Df where
  lent := [false]
  slots := 3
  body := [
    (.ex (.call 0 [.f (.v 0), .f (.x (.c (.int 30)))])),
    (.asg 1 (.x (.c (.int 0)))),
    (.for_ (.n 2) (.rng2 (.x (.c (.int 1))) (.x (.op .add [(.v 0), (.c (.int 1))]))) [(.ife (.x (.op .eq [(.op .mod [(.v 0), (.v 2)]), (.c (.int 0))])) [(.aug 1 .add (.x (.ife (.op .eq [(.op .mod [(.op .fdiv [(.v 0), (.v 2)]), (.c (.int 2))]), (.c (.int 0))]) (.op .add [(.op .fdiv [(.v 2), (.c (.int 2))]), (.c (.int 1))]) (.op .sub [(.c (.int 2)), (.op .mod [(.v 2), (.c (.int 2))])]))))] [])]),
    (.ret (.mv 1))]
def t_crossed_alike : Dt := ⟨"crossed_alike", top 20, ["size"], ["size", "total", "part"], s_crossed_alike⟩
def s_both_alike : Df where
  lent := [false]
  slots := 1
  body := [
    (.ex (.call 0 [.f (.v 0), .f (.x (.c (.int 30)))])),
    (.ret (.x (.ife (.op .eq [(.op .mod [(.v 0), (.c (.int 2))]), (.c (.int 0))]) (.c (.int 3)) (.c (.int 1)))))]
def t_both_alike : Dt := ⟨"both_alike", top 21, ["size"], ["size"], s_both_alike⟩
def t__law_deck : Dt := ⟨"_law_deck", top 23, ["script", "cells", "each"], ["script", "cells", "each", "deck", "seed", "k", "cell", "rest", "at"], s__law_deck⟩
def t__law_take : Dt := ⟨"_law_take", top 24, ["deck", "many"], ["deck", "many"], s__law_take⟩
def s__law_choose : Df where
  lent := [false, false]
  slots := 4
  body := [
    (.asg 2 (.x (.c (.int 1)))),
    (.for_ (.n 3) (.rng1 (.v 1)) [(.asg 2 (.x (.op .fdiv [(.op .mul [(.v 2), (.op .sub [(.v 0), (.v 3)])]), (.op .add [(.v 3), (.c (.int 1))])])))]),
    (.ret (.mv 2))]
def t__law_choose : Dt := ⟨"_law_choose", top 25, ["many", "few"], ["many", "few", "found", "k"], s__law_choose⟩
def s__law_factorial : Df where
  lent := [false]
  slots := 3
  body := [
    (.asg 1 (.x (.c (.int 1)))),
    (.for_ (.n 2) (.rng2 (.x (.c (.int 2))) (.x (.op .add [(.v 0), (.c (.int 1))]))) [(.asg 1 (.x (.op .mul [(.v 1), (.v 2)])))]),
    (.ret (.mv 1))]
def t__law_factorial : Dt := ⟨"_law_factorial", top 26, ["many"], ["many", "found", "k"], s__law_factorial⟩
def s__law_lots_of : Df where
  lent := [false, false]
  slots := 7
  body := [
    (.asg 2 (.op .cat [(.lst false [(.x (.c (.int 1)))]), (.op .rep [(.lst false [(.x (.c (.int 0)))]), (.v 1)])])),
    (.for_ (.n 3) (.rng2 (.x (.c (.int 1))) (.x (.op .add [(.v 1), (.c (.int 1))]))) [(.asg 4 (.op .rep [(.lst false [(.x (.c (.int 0)))]), (.x (.op .add [(.v 1), (.c (.int 1))]))])), (.for_ (.n 5) (.rng1 (.x (.op .add [(.v 1), (.c (.int 1))]))) [(.for_ (.n 6) (.rng1 (.x (.op .add [(.op .fdiv [(.op .sub [(.v 1), (.v 5)]), (.v 3)]), (.c (.int 1))]))) [(.setI 4 (.op .add [(.v 5), (.op .mul [(.v 6), (.v 3)])]) (.op .add [(.x (.op .ix [(.v 4), (.op .add [(.v 5), (.op .mul [(.v 6), (.v 3)])])])), (.op .mul [(.x (.op .ix [(.v 2), (.v 5)])), (.call 17 [.f (.x (.op .sub [(.op .add [(.op .ix [(.v 0), (.v 3)]), (.v 6)]), (.c (.int 1))])), .f (.v 6)])])]))])]), (.asg 2 (.v 4))]),
    (.ret (.x (.op .ix [(.v 2), (.v 1)])))]
def t__law_lots_of : Dt := ⟨"_law_lots_of", top 27, ["wholes", "size"], ["wholes", "size", "ways", "part", "found", "rest", "many"], s__law_lots_of⟩
def s_law : Df where
  lent := [false]
  slots := 9
  body := [
    (.asg 1 (.call 15 [.f (.v 0), .f (.x (.c (.int 10))), .f (.x (.c (.int 8)))])),
    (.asg 2 (.op .add [(.x (.c (.int 1))), (.call 16 [.s 1, .f (.x (.c (.int 5)))])])),
    (.asg 3 (.op .mul [(.call 18 [.f (.v 2)]), (.call 18 [.f (.v 2)])])),
    (.ife (.e (.op .ne [(.call 3 [.f (.v 2)]), (.v 3)])) [(.ret (.x (.c (.bl false))))] []),
    (.asg 4 (.x (.c (.int 0)))),
    (.for_ (.n 5) (.rng2 (.x (.c (.int 1))) (.x (.op .add [(.v 2), (.c (.int 1))]))) [(.asg 4 (.op .add [(.v 4), (.op .mul [(.op .mul [(.op .mul [(.call 17 [.f (.x (.op .sub [(.v 2), (.c (.int 1))])), .f (.x (.op .sub [(.v 5), (.c (.int 1))]))]), (.call 5 [.f (.v 5)])]), (.call 18 [.f (.x (.op .sub [(.v 2), (.v 5)]))])]), (.call 18 [.f (.x (.op .sub [(.v 2), (.v 5)]))])])]))]),
    (.ife (.bool false [(.x (.op .ne [(.v 4), (.v 3)])), (.not_ (.e (.chain .lt .le (.x (.c (.int 0))) (.call 5 [.f (.v 2)]) (.v 3))))]) [(.ret (.x (.c (.bl false))))] []),
    (.ife (.e (.op .ne [(.op .mul [(.call 6 [.f (.v 2)]), (.call 18 [.f (.x (.op .sub [(.v 2), (.c (.int 1))]))])]), (.call 5 [.f (.v 2)])])) [(.ret (.x (.c (.bl false))))] []),
    (.asg 6 (.op .cat [(.lst false [(.x (.c (.int 0)))]), (.comp (.call 11 [.f (.v 5)]) (.n 5) (.rng2 (.x (.c (.int 1))) (.x (.op .add [(.v 2), (.c (.int 1))]))) [] [5])])),
    (.ife (.bool false [(.e (.op .ne [(.call 9 [.f (.v 2)]), (.call 19 [.f (.v 6), .f (.v 2)])])), (.e (.op .gt [(.call 11 [.f (.v 2)]), (.call 9 [.f (.v 2)])])), (.e (.op .lt [(.call 6 [.f (.v 2)]), (.call 11 [.f (.v 2)])]))]) [(.ret (.x (.c (.bl false))))] []),
    (.asg 7 (.comp (.v 5) (.n 5) (.rng2 (.x (.c (.int 1))) (.x (.op .add [(.v 2), (.c (.int 1))]))) [(.x (.op .eq [(.op .mod [(.v 2), (.v 5)]), (.c (.int 0))]))] [5])),
    (.ife (.bool false [(.e (.op .ne [(.call 12 [.f (.v 2)]), (.x (.op .sum [(.v 7)]))])), (.e (.op .gt [(.call 12 [.f (.v 2)]), (.call 11 [.f (.v 2)])])), (.e (.op .gt [(.call 13 [.f (.v 2)]), (.call 11 [.f (.v 2)])]))]) [(.ret (.x (.c (.bl false))))] []),
    (.asg 8 (.x (.c (.int 0)))),
    (.for_ (.n 5) (.val (.v 7)) [(.asg 8 (.x (.op .add [(.v 8), (.ife (.op .eq [(.op .mod [(.op .fdiv [(.v 2), (.v 5)]), (.c (.int 2))]), (.c (.int 0))]) (.op .add [(.op .fdiv [(.v 5), (.c (.int 2))]), (.c (.int 1))]) (.ife (.op .eq [(.op .mod [(.v 5), (.c (.int 2))]), (.c (.int 1))]) (.c (.int 1)) (.c (.int 2))))])))]),
    (.ife (.bool false [(.e (.op .ne [(.call 13 [.f (.v 2)]), (.v 8)])), (.e (.op .ne [(.call 14 [.f (.v 2)]), (.x (.ife (.op .eq [(.op .mod [(.v 2), (.c (.int 2))]), (.c (.int 0))]) (.c (.int 3)) (.c (.int 1))))]))]) [(.ret (.x (.c (.bl false))))] []),
    (.ret (.bool true [(.op .le [(.call 14 [.f (.v 2)]), (.call 12 [.f (.v 2)])]), (.op .le [(.call 14 [.f (.v 2)]), (.call 13 [.f (.v 2)])]), (.op .le [(.call 6 [.f (.v 2)]), (.op .mul [(.v 2), (.call 11 [.f (.v 2)])])])]))]
def t_law : Dt := ⟨"law", top 28, ["script"], ["script", "deck", "size", "square", "total", "k", "wholes", "divisors", "due"], s_law⟩
def ts : List Dt := [t_check_size, t_factorial, t_choose, t_told, t_whole_rows, t_told_whole, t_named, t_ways_as_sums, t_alike_rows, t_all_alike, t_with_more, t_whole_alike, t_even_alike, t_crossed_alike, t_both_alike, t__law_deck, t__law_take, t__law_choose, t__law_factorial, t__law_lots_of, t_law]
def phi : List Df := [s_check_size, s_factorial, s_choose, s_told, s_whole_rows, s_told_whole, s_named, s_ways_as_sums, s_alike_rows, s_all_alike, s_with_more, s_whole_alike, s_even_alike, s_crossed_alike, s_both_alike, s__law_deck, s__law_take, s__law_choose, s__law_factorial, s__law_lots_of, s_law]
def wg : Wg := ⟨["abs", "bool", "int", "isinstance", "len", "min", "range", "set", "sorted", "sum"], [("MOST_CLASSES", 30), ("MOST_WHOLE", 20)], []⟩
theorem okT : ∀ t ∈ ts, okDef wg (ts.map (·.name)) t = true ∧ scB t.N t.ps (defScope t.st) = true := by decide +kernel
end K35

namespace K35
open PySem L2 Kw
def isR : Option Out → Bool
  | some (.rt (.bl b) _) => b
  | _ => false
theorem isR_un {o : Option Out} (h : isR o = true) : ∃ ρ, o = some (.rt (.bl true) ρ) := by
  unfold isR at h
  split at h
  · subst h; exact ⟨_, rfl⟩
  · cases h
def rest35 : List S := s_law.body.drop 2
def st35 (sc dk : D) (r : Int) : Nv := [some sc, some dk, some (.int r), none, none, none, none, none, none]
theorem r1 (sc dk : D) : isR (evSs ⟨evF phi 1000 39, 1000⟩ rest35 (st35 sc dk 1)) = true := by kernel_rfl
theorem r2 (sc dk : D) : isR (evSs ⟨evF phi 1000 39, 1000⟩ rest35 (st35 sc dk 2)) = true := by kernel_rfl
theorem r3 (sc dk : D) : isR (evSs ⟨evF phi 1000 39, 1000⟩ rest35 (st35 sc dk 3)) = true := by kernel_rfl
theorem r4 (sc dk : D) : isR (evSs ⟨evF phi 1000 39, 1000⟩ rest35 (st35 sc dk 4)) = true := by kernel_rfl
theorem r5 (sc dk : D) : isR (evSs ⟨evF phi 1000 39, 1000⟩ rest35 (st35 sc dk 5)) = true := by kernel_rfl
theorem law (ns : List Int) (_ : ns.length ≤ 63) : ∃ outs, evF phi 1000 40 20 [.lst .kw (ns.map .int)] = some (.bl true, outs) := by
  obtain ⟨xs, e, hc, hl⟩ := deck_made (Φ := phi) (fuel := 1000) (n := 38) (f := 15) rfl ns 10 8 (by decide) (by decide) (by decide)
  obtain ⟨r, ys, hr, t⟩ := take_any (Φ := phi) (fuel := 1000) (n := 38) (f := 16) rfl xs (many := 5) (by decide)
  have two : evSs ⟨evF phi 1000 39, 1000⟩ s_law.body [some (.lst .kw (ns.map .int)), none, none, none, none, none, none, none, none] = evSs ⟨evF phi 1000 39, 1000⟩ rest35 (st35 (.lst .kw (ns.map .int)) (.lst .ow (ys.map .int)) (1 + (r : Int))) := by
    have a : evS ⟨evF phi 1000 39, 1000⟩ (.asg 1 (.call 15 [.f (.v 0), .f (.x (.c (.int 10))), .f (.x (.c (.int 8)))])) [some (.lst .kw (ns.map .int)), none, none, none, none, none, none, none, none] = some (.nx [some (.lst .kw (ns.map .int)), some (.lst .ow (xs.map .int)), none, none, none, none, none, none, none]) := by
      have e' : evF phi 1000 39 15 [.lst .kw (ns.map .int), .int 10, .int 8] = _ := e
      simp [evS, evE, evCs, evC, evX, getAVs, AV.get, slotsOf, setSlots, freeze, D.isFz, e']
    have b : evS ⟨evF phi 1000 39, 1000⟩ (.asg 2 (.op .add [(.x (.c (.int 1))), (.call 16 [.s 1, .f (.x (.c (.int 5)))])])) [some (.lst .kw (ns.map .int)), some (.lst .ow (xs.map .int)), none, none, none, none, none, none, none] = some (.nx (st35 (.lst .kw (ns.map .int)) (.lst .ow (ys.map .int)) (1 + (r : Int)))) := by
      have t' : evF phi 1000 39 16 [.lst .ow (xs.map .int), .int 5] = _ := t
      simp [evS, evE, evAs, isV, evCs, evC, evX, getAVs, AV.get, slotsOf, setSlots, freeze, D.isFz, t', opD, opAdd, Op.pure, st35]
    exact (ss_nx a).trans (ss_nx b)
  have fin : isR (evSs ⟨evF phi 1000 39, 1000⟩ rest35 (st35 (.lst .kw (ns.map .int)) (.lst .ow (ys.map .int)) (1 + (r : Int)))) = true := by
    have : r = 0 ∨ r = 1 ∨ r = 2 ∨ r = 3 ∨ r = 4 := by omega
    rcases this with rfl | rfl | rfl | rfl | rfl
    · exact r1 _ _
    · exact r2 _ _
    · exact r3 _ _
    · exact r4 _ _
    · exact r5 _ _
  obtain ⟨ρ, hρ⟩ := isR_un fin
  exact ⟨_, evF_rt (fd := s_law) rfl rfl (two.trans hρ) rfl⟩
end K35

namespace K35
open PySem L2 Kw
theorem all_mk {l : PySem.W.OpenLaw} {w : World} {K : PySem.W.Frag} {h : Heap} {mg : Str → Option Value} {fa : Addr} (X : K.In h) (G : h.Ns mainGlobals mg) (hfa : mg "law" = some (.ref fa))
    {f0 : Addr} {od0 an0 : Option Addr} {sl0 : Array (Option Value)} {oc0 kV0 dc0 pm0 cd0 ct0 : Value}
    (a0 : PySem.W.nsIn K mainGlobals "check_size" = some (some (.ref f0)))
    (l0 : K.lookup f0 = some ⟨oc0, od0, .func (PySem.W.fnOf "check_size" "check_size" (defArgs (top 7)) (defBody (top 7)) (defScope (top 7)) .none kV0 dc0 pm0 an0 cd0 ct0), sl0⟩)
    (c0 : PySem.W.codeIn K cd0 "check_size" = true) (k0 : PySem.W.keepIn K (.ref f0) = true)
    {f1 : Addr} {od1 an1 : Option Addr} {sl1 : Array (Option Value)} {oc1 kV1 dc1 pm1 cd1 ct1 : Value}
    (a1 : PySem.W.nsIn K mainGlobals "factorial" = some (some (.ref f1)))
    (l1 : K.lookup f1 = some ⟨oc1, od1, .func (PySem.W.fnOf "factorial" "factorial" (defArgs (top 8)) (defBody (top 8)) (defScope (top 8)) .none kV1 dc1 pm1 an1 cd1 ct1), sl1⟩)
    (c1 : PySem.W.codeIn K cd1 "factorial" = true) (k1 : PySem.W.keepIn K (.ref f1) = true)
    {f2 : Addr} {od2 an2 : Option Addr} {sl2 : Array (Option Value)} {oc2 kV2 dc2 pm2 cd2 ct2 : Value}
    (a2 : PySem.W.nsIn K mainGlobals "choose" = some (some (.ref f2)))
    (l2 : K.lookup f2 = some ⟨oc2, od2, .func (PySem.W.fnOf "choose" "choose" (defArgs (top 9)) (defBody (top 9)) (defScope (top 9)) .none kV2 dc2 pm2 an2 cd2 ct2), sl2⟩)
    (c2 : PySem.W.codeIn K cd2 "choose" = true) (k2 : PySem.W.keepIn K (.ref f2) = true)
    {f3 : Addr} {od3 an3 : Option Addr} {sl3 : Array (Option Value)} {oc3 kV3 dc3 pm3 cd3 ct3 : Value}
    (a3 : PySem.W.nsIn K mainGlobals "told" = some (some (.ref f3)))
    (l3 : K.lookup f3 = some ⟨oc3, od3, .func (PySem.W.fnOf "told" "told" (defArgs (top 10)) (defBody (top 10)) (defScope (top 10)) .none kV3 dc3 pm3 an3 cd3 ct3), sl3⟩)
    (c3 : PySem.W.codeIn K cd3 "told" = true) (k3 : PySem.W.keepIn K (.ref f3) = true)
    {f4 : Addr} {od4 an4 : Option Addr} {sl4 : Array (Option Value)} {oc4 kV4 dc4 pm4 cd4 ct4 : Value}
    (a4 : PySem.W.nsIn K mainGlobals "whole_rows" = some (some (.ref f4)))
    (l4 : K.lookup f4 = some ⟨oc4, od4, .func (PySem.W.fnOf "whole_rows" "whole_rows" (defArgs (top 11)) (defBody (top 11)) (defScope (top 11)) .none kV4 dc4 pm4 an4 cd4 ct4), sl4⟩)
    (c4 : PySem.W.codeIn K cd4 "whole_rows" = true) (k4 : PySem.W.keepIn K (.ref f4) = true)
    {f5 : Addr} {od5 an5 : Option Addr} {sl5 : Array (Option Value)} {oc5 kV5 dc5 pm5 cd5 ct5 : Value}
    (a5 : PySem.W.nsIn K mainGlobals "told_whole" = some (some (.ref f5)))
    (l5 : K.lookup f5 = some ⟨oc5, od5, .func (PySem.W.fnOf "told_whole" "told_whole" (defArgs (top 12)) (defBody (top 12)) (defScope (top 12)) .none kV5 dc5 pm5 an5 cd5 ct5), sl5⟩)
    (c5 : PySem.W.codeIn K cd5 "told_whole" = true) (k5 : PySem.W.keepIn K (.ref f5) = true)
    {f6 : Addr} {od6 an6 : Option Addr} {sl6 : Array (Option Value)} {oc6 kV6 dc6 pm6 cd6 ct6 : Value}
    (a6 : PySem.W.nsIn K mainGlobals "named" = some (some (.ref f6)))
    (l6 : K.lookup f6 = some ⟨oc6, od6, .func (PySem.W.fnOf "named" "named" (defArgs (top 13)) (defBody (top 13)) (defScope (top 13)) .none kV6 dc6 pm6 an6 cd6 ct6), sl6⟩)
    (c6 : PySem.W.codeIn K cd6 "named" = true) (k6 : PySem.W.keepIn K (.ref f6) = true)
    {f7 : Addr} {od7 an7 : Option Addr} {sl7 : Array (Option Value)} {oc7 kV7 dc7 pm7 cd7 ct7 : Value}
    (a7 : PySem.W.nsIn K mainGlobals "ways_as_sums" = some (some (.ref f7)))
    (l7 : K.lookup f7 = some ⟨oc7, od7, .func (PySem.W.fnOf "ways_as_sums" "ways_as_sums" (defArgs (top 14)) (defBody (top 14)) (defScope (top 14)) .none kV7 dc7 pm7 an7 cd7 ct7), sl7⟩)
    (c7 : PySem.W.codeIn K cd7 "ways_as_sums" = true) (k7 : PySem.W.keepIn K (.ref f7) = true)
    {f8 : Addr} {od8 an8 : Option Addr} {sl8 : Array (Option Value)} {oc8 kV8 dc8 pm8 cd8 ct8 : Value}
    (a8 : PySem.W.nsIn K mainGlobals "alike_rows" = some (some (.ref f8)))
    (l8 : K.lookup f8 = some ⟨oc8, od8, .func (PySem.W.fnOf "alike_rows" "alike_rows" (defArgs (top 15)) (defBody (top 15)) (defScope (top 15)) .none kV8 dc8 pm8 an8 cd8 ct8), sl8⟩)
    (c8 : PySem.W.codeIn K cd8 "alike_rows" = true) (k8 : PySem.W.keepIn K (.ref f8) = true)
    {f9 : Addr} {od9 an9 : Option Addr} {sl9 : Array (Option Value)} {oc9 kV9 dc9 pm9 cd9 ct9 : Value}
    (a9 : PySem.W.nsIn K mainGlobals "all_alike" = some (some (.ref f9)))
    (l9 : K.lookup f9 = some ⟨oc9, od9, .func (PySem.W.fnOf "all_alike" "all_alike" (defArgs (top 16)) (defBody (top 16)) (defScope (top 16)) .none kV9 dc9 pm9 an9 cd9 ct9), sl9⟩)
    (c9 : PySem.W.codeIn K cd9 "all_alike" = true) (k9 : PySem.W.keepIn K (.ref f9) = true)
    {f10 : Addr} {od10 an10 : Option Addr} {sl10 : Array (Option Value)} {oc10 kV10 dc10 pm10 cd10 ct10 : Value}
    (a10 : PySem.W.nsIn K mainGlobals "with_more" = some (some (.ref f10)))
    (l10 : K.lookup f10 = some ⟨oc10, od10, .func (PySem.W.fnOf "with_more" "with_more" (defArgs (top 17)) (defBody (top 17)) (defScope (top 17)) .none kV10 dc10 pm10 an10 cd10 ct10), sl10⟩)
    (c10 : PySem.W.codeIn K cd10 "with_more" = true) (k10 : PySem.W.keepIn K (.ref f10) = true)
    {f11 : Addr} {od11 an11 : Option Addr} {sl11 : Array (Option Value)} {oc11 kV11 dc11 pm11 cd11 ct11 : Value}
    (a11 : PySem.W.nsIn K mainGlobals "whole_alike" = some (some (.ref f11)))
    (l11 : K.lookup f11 = some ⟨oc11, od11, .func (PySem.W.fnOf "whole_alike" "whole_alike" (defArgs (top 18)) (defBody (top 18)) (defScope (top 18)) .none kV11 dc11 pm11 an11 cd11 ct11), sl11⟩)
    (c11 : PySem.W.codeIn K cd11 "whole_alike" = true) (k11 : PySem.W.keepIn K (.ref f11) = true)
    {f12 : Addr} {od12 an12 : Option Addr} {sl12 : Array (Option Value)} {oc12 kV12 dc12 pm12 cd12 ct12 : Value}
    (a12 : PySem.W.nsIn K mainGlobals "even_alike" = some (some (.ref f12)))
    (l12 : K.lookup f12 = some ⟨oc12, od12, .func (PySem.W.fnOf "even_alike" "even_alike" (defArgs (top 19)) (defBody (top 19)) (defScope (top 19)) .none kV12 dc12 pm12 an12 cd12 ct12), sl12⟩)
    (c12 : PySem.W.codeIn K cd12 "even_alike" = true) (k12 : PySem.W.keepIn K (.ref f12) = true)
    {f13 : Addr} {od13 an13 : Option Addr} {sl13 : Array (Option Value)} {oc13 kV13 dc13 pm13 cd13 ct13 : Value}
    (a13 : PySem.W.nsIn K mainGlobals "crossed_alike" = some (some (.ref f13)))
    (l13 : K.lookup f13 = some ⟨oc13, od13, .func (PySem.W.fnOf "crossed_alike" "crossed_alike" (defArgs (top 20)) (defBody (top 20)) (defScope (top 20)) .none kV13 dc13 pm13 an13 cd13 ct13), sl13⟩)
    (c13 : PySem.W.codeIn K cd13 "crossed_alike" = true) (k13 : PySem.W.keepIn K (.ref f13) = true)
    {f14 : Addr} {od14 an14 : Option Addr} {sl14 : Array (Option Value)} {oc14 kV14 dc14 pm14 cd14 ct14 : Value}
    (a14 : PySem.W.nsIn K mainGlobals "both_alike" = some (some (.ref f14)))
    (l14 : K.lookup f14 = some ⟨oc14, od14, .func (PySem.W.fnOf "both_alike" "both_alike" (defArgs (top 21)) (defBody (top 21)) (defScope (top 21)) .none kV14 dc14 pm14 an14 cd14 ct14), sl14⟩)
    (c14 : PySem.W.codeIn K cd14 "both_alike" = true) (k14 : PySem.W.keepIn K (.ref f14) = true)
    {f15 : Addr} {od15 an15 : Option Addr} {sl15 : Array (Option Value)} {oc15 kV15 dc15 pm15 cd15 ct15 : Value}
    (a15 : PySem.W.nsIn K mainGlobals "_law_deck" = some (some (.ref f15)))
    (l15 : K.lookup f15 = some ⟨oc15, od15, .func (PySem.W.fnOf "_law_deck" "_law_deck" (defArgs (top 23)) (defBody (top 23)) (defScope (top 23)) .none kV15 dc15 pm15 an15 cd15 ct15), sl15⟩)
    (c15 : PySem.W.codeIn K cd15 "_law_deck" = true) (k15 : PySem.W.keepIn K (.ref f15) = true)
    {f16 : Addr} {od16 an16 : Option Addr} {sl16 : Array (Option Value)} {oc16 kV16 dc16 pm16 cd16 ct16 : Value}
    (a16 : PySem.W.nsIn K mainGlobals "_law_take" = some (some (.ref f16)))
    (l16 : K.lookup f16 = some ⟨oc16, od16, .func (PySem.W.fnOf "_law_take" "_law_take" (defArgs (top 24)) (defBody (top 24)) (defScope (top 24)) .none kV16 dc16 pm16 an16 cd16 ct16), sl16⟩)
    (c16 : PySem.W.codeIn K cd16 "_law_take" = true) (k16 : PySem.W.keepIn K (.ref f16) = true)
    {f17 : Addr} {od17 an17 : Option Addr} {sl17 : Array (Option Value)} {oc17 kV17 dc17 pm17 cd17 ct17 : Value}
    (a17 : PySem.W.nsIn K mainGlobals "_law_choose" = some (some (.ref f17)))
    (l17 : K.lookup f17 = some ⟨oc17, od17, .func (PySem.W.fnOf "_law_choose" "_law_choose" (defArgs (top 25)) (defBody (top 25)) (defScope (top 25)) .none kV17 dc17 pm17 an17 cd17 ct17), sl17⟩)
    (c17 : PySem.W.codeIn K cd17 "_law_choose" = true) (k17 : PySem.W.keepIn K (.ref f17) = true)
    {f18 : Addr} {od18 an18 : Option Addr} {sl18 : Array (Option Value)} {oc18 kV18 dc18 pm18 cd18 ct18 : Value}
    (a18 : PySem.W.nsIn K mainGlobals "_law_factorial" = some (some (.ref f18)))
    (l18 : K.lookup f18 = some ⟨oc18, od18, .func (PySem.W.fnOf "_law_factorial" "_law_factorial" (defArgs (top 26)) (defBody (top 26)) (defScope (top 26)) .none kV18 dc18 pm18 an18 cd18 ct18), sl18⟩)
    (c18 : PySem.W.codeIn K cd18 "_law_factorial" = true) (k18 : PySem.W.keepIn K (.ref f18) = true)
    {f19 : Addr} {od19 an19 : Option Addr} {sl19 : Array (Option Value)} {oc19 kV19 dc19 pm19 cd19 ct19 : Value}
    (a19 : PySem.W.nsIn K mainGlobals "_law_lots_of" = some (some (.ref f19)))
    (l19 : K.lookup f19 = some ⟨oc19, od19, .func (PySem.W.fnOf "_law_lots_of" "_law_lots_of" (defArgs (top 27)) (defBody (top 27)) (defScope (top 27)) .none kV19 dc19 pm19 an19 cd19 ct19), sl19⟩)
    (c19 : PySem.W.codeIn K cd19 "_law_lots_of" = true) (k19 : PySem.W.keepIn K (.ref f19) = true)
    {f20 : Addr} {od20 an20 : Option Addr} {sl20 : Array (Option Value)} {oc20 kV20 dc20 pm20 cd20 ct20 : Value}
    (a20 : PySem.W.nsIn K mainGlobals "law" = some (some (.ref f20)))
    (l20 : K.lookup f20 = some ⟨oc20, od20, .func (PySem.W.fnOf "law" "law" (defArgs (top 28)) (defBody (top 28)) (defScope (top 28)) .none kV20 dc20 pm20 an20 cd20 ct20), sl20⟩)
    (c20 : PySem.W.codeIn K cd20 "law" = true) (k20 : PySem.W.keepIn K (.ref f20) = true)
    (z0 : PySem.W.nsIn K mainGlobals "abs" = some none)
    (z1 : PySem.W.nsIn K mainGlobals "bool" = some none)
    (z2 : PySem.W.nsIn K mainGlobals "int" = some none)
    (z3 : PySem.W.nsIn K mainGlobals "isinstance" = some none)
    (z4 : PySem.W.nsIn K mainGlobals "len" = some none)
    (z5 : PySem.W.nsIn K mainGlobals "min" = some none)
    (z6 : PySem.W.nsIn K mainGlobals "range" = some none)
    (z7 : PySem.W.nsIn K mainGlobals "set" = some none)
    (z8 : PySem.W.nsIn K mainGlobals "sorted" = some none)
    (z9 : PySem.W.nsIn K mainGlobals "sum" = some none)
    {tg0 : Tok} (g0 : PySem.W.nsIn K mainGlobals "MOST_CLASSES" = some (some (.int 30 tg0)))
    {tg1 : Tok} (g1 : PySem.W.nsIn K mainGlobals "MOST_WHOLE" = some (some (.int 20 tg1)))
    : ∃ fd : FuncData, (∀ (s : Shared) (u : Value), BindsTo s fd ⟨[u], []⟩ [("script", u)]) ∧ ∀ base : Heap, K.In base → base.Ns mainGlobals mg → FnOk l.prog w K mg base CX0 41 fa fd ["script"] (spL ⟨K, fun _ => 0⟩) := by
  have ea := hfa.symm.trans (PySem.W.mg_of X G a20)
  cases ea
  have hT : ∀ t ∈ ts, DtAt K mg t := by
    intro t ht
    simp only [ts, List.mem_cons, List.not_mem_nil, or_false] at ht
    rcases ht with rfl | rfl | rfl | rfl | rfl | rfl | rfl | rfl | rfl | rfl | rfl | rfl | rfl | rfl | rfl | rfl | rfl | rfl | rfl | rfl | rfl
    · exact dtAt t_check_size X G a0 l0 c0 k0 fun _ _ _ _ _ _ us hl => match us, hl with | [_, _], _ => rfl
    · exact dtAt t_factorial X G a1 l1 c1 k1 fun _ _ _ _ _ _ us hl => match us, hl with | [_], _ => rfl
    · exact dtAt t_choose X G a2 l2 c2 k2 fun _ _ _ _ _ _ us hl => match us, hl with | [_, _], _ => rfl
    · exact dtAt t_told X G a3 l3 c3 k3 fun _ _ _ _ _ _ us hl => match us, hl with | [_], _ => rfl
    · exact dtAt t_whole_rows X G a4 l4 c4 k4 fun _ _ _ _ _ _ us hl => match us, hl with | [_], _ => rfl
    · exact dtAt t_told_whole X G a5 l5 c5 k5 fun _ _ _ _ _ _ us hl => match us, hl with | [_], _ => rfl
    · exact dtAt t_named X G a6 l6 c6 k6 fun _ _ _ _ _ _ us hl => match us, hl with | [_], _ => rfl
    · exact dtAt t_ways_as_sums X G a7 l7 c7 k7 fun _ _ _ _ _ _ us hl => match us, hl with | [_, _], _ => rfl
    · exact dtAt t_alike_rows X G a8 l8 c8 k8 fun _ _ _ _ _ _ us hl => match us, hl with | [_], _ => rfl
    · exact dtAt t_all_alike X G a9 l9 c9 k9 fun _ _ _ _ _ _ us hl => match us, hl with | [_], _ => rfl
    · exact dtAt t_with_more X G a10 l10 c10 k10 fun _ _ _ _ _ _ us hl => match us, hl with | [_, _, _, _], _ => rfl
    · exact dtAt t_whole_alike X G a11 l11 c11 k11 fun _ _ _ _ _ _ us hl => match us, hl with | [_], _ => rfl
    · exact dtAt t_even_alike X G a12 l12 c12 k12 fun _ _ _ _ _ _ us hl => match us, hl with | [_], _ => rfl
    · exact dtAt t_crossed_alike X G a13 l13 c13 k13 fun _ _ _ _ _ _ us hl => match us, hl with | [_], _ => rfl
    · exact dtAt t_both_alike X G a14 l14 c14 k14 fun _ _ _ _ _ _ us hl => match us, hl with | [_], _ => rfl
    · exact dtAt t__law_deck X G a15 l15 c15 k15 fun _ _ _ _ _ _ us hl => match us, hl with | [_, _, _], _ => rfl
    · exact dtAt t__law_take X G a16 l16 c16 k16 fun _ _ _ _ _ _ us hl => match us, hl with | [_, _], _ => rfl
    · exact dtAt t__law_choose X G a17 l17 c17 k17 fun _ _ _ _ _ _ us hl => match us, hl with | [_, _], _ => rfl
    · exact dtAt t__law_factorial X G a18 l18 c18 k18 fun _ _ _ _ _ _ us hl => match us, hl with | [_], _ => rfl
    · exact dtAt t__law_lots_of X G a19 l19 c19 k19 fun _ _ _ _ _ _ us hl => match us, hl with | [_, _], _ => rfl
    · exact dtAt t_law X G a20 l20 c20 k20 fun _ _ _ _ _ _ us hl => match us, hl with | [_], _ => rfl
  have hB : WgOk wg mg := by
    refine ⟨fun x hx => ?_, fun n i hx => ?_, fun n i hx => ?_⟩
    · simp only [wg, List.mem_cons, List.not_mem_nil, or_false, Prod.mk.injEq] at hx
      rcases hx with rfl | rfl | rfl | rfl | rfl | rfl | rfl | rfl | rfl | rfl
      · exact PySem.W.mg_none_of X G z0
      · exact PySem.W.mg_none_of X G z1
      · exact PySem.W.mg_none_of X G z2
      · exact PySem.W.mg_none_of X G z3
      · exact PySem.W.mg_none_of X G z4
      · exact PySem.W.mg_none_of X G z5
      · exact PySem.W.mg_none_of X G z6
      · exact PySem.W.mg_none_of X G z7
      · exact PySem.W.mg_none_of X G z8
      · exact PySem.W.mg_none_of X G z9
    · simp only [wg, List.mem_cons, List.not_mem_nil, or_false, Prod.mk.injEq] at hx
      rcases hx with ⟨rfl, rfl⟩ | ⟨rfl, rfl⟩
      · exact gi_mk X G g0
      · exact gi_mk X G g1
    · exact absurd hx (by simp [wg])
  exact ⟨PySem.W.fnOf "law" "law" (defArgs (top 28)) (defBody (top 28)) (defScope (top 28)) .none kV20 dc20 pm20 an20 cd20 ct20, fun s v => .of_eq rfl, fun base _ _ =>
    law_at (C := ⟨K, fun _ => 0⟩) (t := t_law) (fuel := 1000) (n := 39) (f := 20) hB hT okT rfl (fun_mk (st := top 28) l20 c20 k20) fun ns hl => law ns hl⟩
end K35

open PySem PySem.W PyProof.Rows in
set_option maxRecDepth 100000 in
set_option maxHeartbeats 0 in
theorem PySem.Challenge.cw_kinwork_k35_whole_numbers_of_societies_b_holds : PySem.Challenge.rw_kinwork_k35_whole_numbers_of_societies_b.Holds := by
  w_on; o_law; k_head; (case hw => w_witness2)
  k_fill
  refine Kw.walk (l := PySem.Challenge.rw_kinwork_k35_whole_numbers_of_societies_b) (cls := fun _ => 0) 41 ⟨rfl, by decide, by decide⟩ rfl rfl (fun w h Y => PySem.W.kIn_of Y) ?F
  case F =>
    intro w mg fa h KX G hmg
    refine' K35.all_mk KX G hmg ?y_a0 ?y_l0 ?y_c0 ?y_k0 ?y_a1 ?y_l1 ?y_c1 ?y_k1 ?y_a2 ?y_l2 ?y_c2 ?y_k2 ?y_a3 ?y_l3 ?y_c3 ?y_k3 ?y_a4 ?y_l4 ?y_c4 ?y_k4 ?y_a5 ?y_l5 ?y_c5 ?y_k5 ?y_a6 ?y_l6 ?y_c6 ?y_k6 ?y_a7 ?y_l7 ?y_c7 ?y_k7 ?y_a8 ?y_l8 ?y_c8 ?y_k8 ?y_a9 ?y_l9 ?y_c9 ?y_k9 ?y_a10 ?y_l10 ?y_c10 ?y_k10 ?y_a11 ?y_l11 ?y_c11 ?y_k11 ?y_a12 ?y_l12 ?y_c12 ?y_k12 ?y_a13 ?y_l13 ?y_c13 ?y_k13 ?y_a14 ?y_l14 ?y_c14 ?y_k14 ?y_a15 ?y_l15 ?y_c15 ?y_k15 ?y_a16 ?y_l16 ?y_c16 ?y_k16 ?y_a17 ?y_l17 ?y_c17 ?y_k17 ?y_a18 ?y_l18 ?y_c18 ?y_k18 ?y_a19 ?y_l19 ?y_c19 ?y_k19 ?y_a20 ?y_l20 ?y_c20 ?y_k20 ?y_z0 ?y_z1 ?y_z2 ?y_z3 ?y_z4 ?y_z5 ?y_z6 ?y_z7 ?y_z8 ?y_z9 ?y_g0 ?y_g1
    (case y_a0 => k_is)
    (case y_l0 => k_is)
    (case y_c0 => k_is)
    (case y_k0 => k_is)
    (case y_a1 => k_is)
    (case y_l1 => k_is)
    (case y_c1 => k_is)
    (case y_k1 => k_is)
    (case y_a2 => k_is)
    (case y_l2 => k_is)
    (case y_c2 => k_is)
    (case y_k2 => k_is)
    (case y_a3 => k_is)
    (case y_l3 => k_is)
    (case y_c3 => k_is)
    (case y_k3 => k_is)
    (case y_a4 => k_is)
    (case y_l4 => k_is)
    (case y_c4 => k_is)
    (case y_k4 => k_is)
    (case y_a5 => k_is)
    (case y_l5 => k_is)
    (case y_c5 => k_is)
    (case y_k5 => k_is)
    (case y_a6 => k_is)
    (case y_l6 => k_is)
    (case y_c6 => k_is)
    (case y_k6 => k_is)
    (case y_a7 => k_is)
    (case y_l7 => k_is)
    (case y_c7 => k_is)
    (case y_k7 => k_is)
    (case y_a8 => k_is)
    (case y_l8 => k_is)
    (case y_c8 => k_is)
    (case y_k8 => k_is)
    (case y_a9 => k_is)
    (case y_l9 => k_is)
    (case y_c9 => k_is)
    (case y_k9 => k_is)
    (case y_a10 => k_is)
    (case y_l10 => k_is)
    (case y_c10 => k_is)
    (case y_k10 => k_is)
    (case y_a11 => k_is)
    (case y_l11 => k_is)
    (case y_c11 => k_is)
    (case y_k11 => k_is)
    (case y_a12 => k_is)
    (case y_l12 => k_is)
    (case y_c12 => k_is)
    (case y_k12 => k_is)
    (case y_a13 => k_is)
    (case y_l13 => k_is)
    (case y_c13 => k_is)
    (case y_k13 => k_is)
    (case y_a14 => k_is)
    (case y_l14 => k_is)
    (case y_c14 => k_is)
    (case y_k14 => k_is)
    (case y_a15 => k_is)
    (case y_l15 => k_is)
    (case y_c15 => k_is)
    (case y_k15 => k_is)
    (case y_a16 => k_is)
    (case y_l16 => k_is)
    (case y_c16 => k_is)
    (case y_k16 => k_is)
    (case y_a17 => k_is)
    (case y_l17 => k_is)
    (case y_c17 => k_is)
    (case y_k17 => k_is)
    (case y_a18 => k_is)
    (case y_l18 => k_is)
    (case y_c18 => k_is)
    (case y_k18 => k_is)
    (case y_a19 => k_is)
    (case y_l19 => k_is)
    (case y_c19 => k_is)
    (case y_k19 => k_is)
    (case y_a20 => k_is)
    (case y_l20 => k_is)
    (case y_c20 => k_is)
    (case y_k20 => k_is)
    (case y_z0 => k_is)
    (case y_z1 => k_is)
    (case y_z2 => k_is)
    (case y_z3 => k_is)
    (case y_z4 => k_is)
    (case y_z5 => k_is)
    (case y_z6 => k_is)
    (case y_z7 => k_is)
    (case y_z8 => k_is)
    (case y_z9 => k_is)
    (case y_g0 => k_is)
    (case y_g1 => k_is)
