import PyProof.Rows.All
import HandS.ForMost
import HandS.Flow
import HandS.Style
import HandS.IsInst
import HandS.Conv
import HandS.Small
import HandS.Wide
import HandS.TupAny
import KE.SortData
import KE.LtData
import PySem.Challenge.RW_fewoffers_k68_keys_of_eight_rules
set_option Elab.async false
set_option linter.all false
set_option maxRecDepth 100000
set_option maxHeartbeats 4000000
/-! MdCore: plain data, the store, what relates them to the tracked heap; the meaning of expressions and statements as functions. -/
namespace Md
open PySem PySem.Spec PyProof.Rows L2

/-- plain data; `loc n`: the n-th object of the store; `fz`, `ft`: a list, a tuple that is only read, whatever holds it -/
inductive D where
  | non | bl (b : Bool) | int (i : Int) | str (x : Str)
  | tup (xs : List D) | ft (xs : List D) | lst (xs : List D) | fz (xs : List D)
  | dk (ks : List Key) (ds : List D) | dt (ks : List (List Key)) (ds : List D)
  | loc (n : Nat)

/-- where the store's objects stand; addresses that are taken besides -/
structure Mp where
  m : List (Option Addr)
  r : List Addr
def Exc (M : Mp) (a : Addr) : Prop := some a ∈ M.m ∨ a ∈ M.r

/-- the written part holds a list, a tuple at a -/
def KLs (K : PySem.W.Frag) (a : Addr) (xs : List V) : Prop :=
  ∃ (o : Obj) (its : Array Value) (n : Nat), K.lookup a = some o ∧ o.cls = .type "list" ∧ o.dict = none ∧ o.data = .seq its n ∧ its.size ≤ sizeLine ∧ Vals xs its.toList
def KTs (K : PySem.W.Frag) (a : Addr) (xs : List V) : Prop :=
  ∃ (o : Obj) (its : Array Value) (n : Nat), K.lookup a = some o ∧ o.cls = .type "tuple" ∧ o.data = .seq its n ∧ its.size ≤ sizeLine ∧ Vals xs its.toList
def FzL (K : PySem.W.Frag) (M : Mp) (H : Hp) (a : Addr) (xs : List V) : Prop := (Rd H a (.lst xs) ∧ ¬ Exc M a) ∨ KLs K a xs
def FzT (K : PySem.W.Frag) (H : Hp) (a : Addr) (xs : List V) : Prop := H a = some (.tup xs) ∨ KTs K a xs
theorem FzL.sq {K : PySem.W.Frag} {M : Mp} {H : Hp} {a : Addr} {xs : List V} (h : FzL K M H a xs) : SqL K H a xs := by
  rcases h with h | h
  · exact .inl h.1
  · exact .inr h
theorem FzT.sq {K : PySem.W.Frag} {H : Hp} {a : Addr} {xs : List V} (h : FzT K H a xs) : SqT K H a xs := by
  rcases h with h | h
  · exact .inl (.inl h)
  · exact .inr h

mutual
/-- the value v holds the data d -/
def RD (K : PySem.W.Frag) (M : Mp) (H : Hp) : D → V → Prop
  | .non, v => v = .non
  | .bl b, v => v = .bl b
  | .int i, v => v = .int i
  | .str x, v => v = .str x
  | .tup xs, v => ∃ a vs, v = .ref a ∧ H a = some (.tup vs) ∧ RDs K M H xs vs
  | .ft xs, v => ∃ a vs, v = .ref a ∧ FzT K H a vs ∧ RDs K M H xs vs
  | .lst xs, v => ∃ a vs, v = .ref a ∧ (H a = some (.lst vs) ∧ ¬ Exc M a) ∧ RDs K M H xs vs
  | .fz xs, v => ∃ a vs, v = .ref a ∧ FzL K M H a vs ∧ RDs K M H xs vs
  | .dk ks ds, v => ∃ a vs, v = .ref a ∧ (Rd H a (.dK (ks.zip vs)) ∧ ¬ Exc M a) ∧ ks.length = ds.length ∧ RDs K M H ds vs
  | .dt ks ds, v => ∃ a vs, v = .ref a ∧ (Rd H a (.dT (ks.zip vs)) ∧ ¬ Exc M a) ∧ ks.length = ds.length ∧ RDs K M H ds vs
  | .loc n, v => ∃ e, M.m[n]? = some e ∧ ∀ a, e = some a → v = .ref a
def RDs (K : PySem.W.Frag) (M : Mp) (H : Hp) : List D → List V → Prop
  | [], vs => vs = []
  | x :: xs, vs => ∃ v ws, vs = v :: ws ∧ RD K M H x v ∧ RDs K M H xs ws
end

/-- a dict may be locked, for ever -/
def DictO : HO → Prop
  | .dK _ => True
  | .dT _ => True
  | _ => False
/-- from (M, H) to (M', H') -/
structure Step (M : Mp) (H : Hp) (M' : Mp) (H' : Hp) : Prop where
  ext : ∀ (n : Nat) e, M.m[n]? = some e → ∃ e', M'.m[n]? = some e' ∧ (e' = e ∨ e' = none)
  evo : ∀ a o, H a = some o → ¬ Exc M a → H' a = some o ∨ (DictO o ∧ ∃ od, H' a = some (.frz od o))
  tup : ∀ a xs, H a = some (.tup xs) → H' a = some (.tup xs)
  liv : ∀ a, H' a = none → H a = none
  fm : ∀ a, some a ∈ M'.m → some a ∈ M.m ∨ H a = none
  fr : ∀ a, a ∈ M'.r → a ∈ M.r ∨ H a = none
theorem Step.refl {M : Mp} {H : Hp} : Step M H M H := ⟨fun _ e h => ⟨e, h, .inl rfl⟩, fun _ _ h _ => .inl h, fun _ _ h => h, fun _ h => h, fun _ h => .inl h, fun _ h => .inl h⟩
theorem Step.nex {M : Mp} {H : Hp} {M' : Mp} {H' : Hp} (s : Step M H M' H') {a : Addr} {o : HO} (h : H a = some o) (n : ¬ Exc M a) : ¬ Exc M' a := fun z => by
  rcases z with z | z
  · exact (s.fm a z).elim (fun w => n (.inl w)) fun w => by rw [h] at w; cases w
  · exact (s.fr a z).elim (fun w => n (.inr w)) fun w => by rw [h] at w; cases w
theorem Step.keep {M : Mp} {H : Hp} {M' : Mp} {H' : Hp} (s : Step M H M' H') {a : Addr} {o : HO} (h : H a = some o) (nd : ¬ DictO o) (n : ¬ Exc M a) : H' a = some o ∧ ¬ Exc M' a :=
  ⟨(s.evo a o h n).elim id fun z => absurd z.1 nd, s.nex h n⟩
theorem Step.rd {M : Mp} {H : Hp} {M' : Mp} {H' : Hp} (s : Step M H M' H') {a : Addr} {u : HO} (h : Rd H a u) (n : ¬ Exc M a) : Rd H' a u ∧ ¬ Exc M' a := by
  rcases h with h | ⟨o, h⟩
  · refine ⟨?_, s.nex h n⟩
    rcases s.evo a u h n with z | ⟨_, od, z⟩
    · exact .inl z
    · exact .inr ⟨od, z⟩
  · exact ⟨.inr ⟨o, (s.keep h (fun z => z) n).1⟩, s.nex h n⟩
theorem Step.trans {M : Mp} {H : Hp} {M1 : Mp} {H1 : Hp} {M2 : Mp} {H2 : Hp} (a : Step M H M1 H1) (b : Step M1 H1 M2 H2) : Step M H M2 H2 where
  ext := fun n e h => by
    obtain ⟨e1, h1, r1⟩ := a.ext n e h
    obtain ⟨e2, h2, r2⟩ := b.ext n e1 h1
    refine ⟨e2, h2, ?_⟩
    rcases r2 with r2 | r2
    · rw [r2]; exact r1
    · exact .inr r2
  evo := fun x o h n => by
    have nm : ¬ Exc M1 x := a.nex h n
    rcases a.evo x o h n with q | ⟨q, od, e⟩
    · exact b.evo x o q nm
    · exact .inr ⟨q, od, (b.evo x _ e nm).elim id fun z => z.1.elim⟩
  tup := fun x xs h => b.tup x xs (a.tup x xs h)
  liv := fun x h => a.liv x (b.liv x h)
  fm := fun x h => by
    rcases b.fm x h with h | h
    · exact a.fm x h
    · exact .inr (a.liv x h)
  fr := fun x h => by
    rcases b.fr x h with h | h
    · exact a.fr x h
    · exact .inr (a.liv x h)

section
variable {K : PySem.W.Frag} {M M' : Mp} {H H' : Hp}
mutual
theorem RD.mono0 (s : Step M H M' H') : ∀ (d : D) (v : V), RD K M H d v → RD K M' H' d v
  | .non, _, h => by simpa [RD] using h
  | .bl _, _, h => by simpa [RD] using h
  | .int _, _, h => by simpa [RD] using h
  | .str _, _, h => by simpa [RD] using h
  | .tup xs, v, h => by
    rw [RD] at h ⊢
    obtain ⟨a, vs, e, f, g⟩ := h
    exact ⟨a, vs, e, s.tup a vs f, RDs.mono0 s xs vs g⟩
  | .ft xs, v, h => by
    rw [RD] at h ⊢
    obtain ⟨a, vs, e, f, g⟩ := h
    exact ⟨a, vs, e, f.imp (s.tup a vs) id, RDs.mono0 s xs vs g⟩
  | .lst xs, v, h => by
    rw [RD] at h ⊢
    obtain ⟨a, vs, e, f, g⟩ := h
    exact ⟨a, vs, e, s.keep f.1 (fun z => z) f.2, RDs.mono0 s xs vs g⟩
  | .fz xs, v, h => by
    rw [RD] at h ⊢
    obtain ⟨a, vs, e, f, g⟩ := h
    exact ⟨a, vs, e, f.imp (fun q => s.rd q.1 q.2) id, RDs.mono0 s xs vs g⟩
  | .dk ks ds, v, h => by
    rw [RD] at h ⊢
    obtain ⟨a, vs, e, f, l, g⟩ := h
    exact ⟨a, vs, e, s.rd f.1 f.2, l, RDs.mono0 s ds vs g⟩
  | .dt ks ds, v, h => by
    rw [RD] at h ⊢
    obtain ⟨a, vs, e, f, l, g⟩ := h
    exact ⟨a, vs, e, s.rd f.1 f.2, l, RDs.mono0 s ds vs g⟩
  | .loc n, v, h => by
    rw [RD] at h ⊢
    obtain ⟨e, h1, h2⟩ := h
    obtain ⟨e', h3, h4⟩ := s.ext n e h1
    refine ⟨e', h3, fun a q => ?_⟩
    rcases h4 with h4 | h4
    · exact h2 a (h4.symm.trans q)
    · rw [h4] at q; cases q
theorem RDs.mono0 (s : Step M H M' H') : ∀ (ds : List D) (vs : List V), RDs K M H ds vs → RDs K M' H' ds vs
  | [], _, h => by simpa [RDs] using h
  | x :: xs, vs, h => by
    rw [RDs] at h ⊢
    obtain ⟨v, ws, e, h1, h2⟩ := h
    exact ⟨v, ws, e, RD.mono0 s x v h1, RDs.mono0 s xs ws h2⟩
end
end

/-- .. within a run: what is taken besides is kept as it is -/
structure Stp (M : Mp) (H : Hp) (M' : Mp) (H' : Hp) : Prop extends Step M H M' H' where
  rr : M'.r = M.r
  rk : ∀ a, a ∈ M.r → H' a = H a
theorem Stp.refl {M : Mp} {H : Hp} : Stp M H M H := ⟨.refl, rfl, fun _ _ => rfl⟩
theorem Stp.trans {M : Mp} {H : Hp} {M1 : Mp} {H1 : Hp} {M2 : Mp} {H2 : Hp} (a : Stp M H M1 H1) (b : Stp M1 H1 M2 H2) : Stp M H M2 H2 :=
  ⟨a.toStep.trans b.toStep, b.rr.trans a.rr, fun x h => (b.rk x (by rw [a.rr]; exact h)).trans (a.rk x h)⟩
theorem RD.mono {K : PySem.W.Frag} {M M' : Mp} {H H' : Hp} {d : D} {v : V} (h : RD K M H d v) (s : Stp M H M' H') : RD K M' H' d v := RD.mono0 s.toStep d v h
theorem RDs.mono {K : PySem.W.Frag} {M M' : Mp} {H H' : Hp} {d : List D} {v : List V} (h : RDs K M H d v) (s : Stp M H M' H') : RDs K M' H' d v := RDs.mono0 s.toStep d v h

section
variable {K : PySem.W.Frag} {M : Mp} {H : Hp}
theorem RDs.nil : RDs K M H [] [] := by rw [RDs]
theorem RDs.cons {d : D} {v : V} {ds : List D} {vs : List V} (h : RD K M H d v) (t : RDs K M H ds vs) : RDs K M H (d :: ds) (v :: vs) := by
  rw [RDs]
  exact ⟨v, vs, rfl, h, t⟩
theorem RDs.nil_inv {vs : List V} (h : RDs K M H [] vs) : vs = [] := by rwa [RDs] at h
theorem RDs.cons_inv {d : D} {ds : List D} {vs : List V} (h : RDs K M H (d :: ds) vs) : ∃ v ws, vs = v :: ws ∧ RD K M H d v ∧ RDs K M H ds ws := by rwa [RDs] at h
theorem RDs.length : ∀ {ds : List D} {vs : List V}, RDs K M H ds vs → ds.length = vs.length
  | [], vs, h => by rw [h.nil_inv]; rfl
  | _ :: ds, vs, h => by
    obtain ⟨v, ws, rfl, _, t⟩ := h.cons_inv
    simp [RDs.length t]
theorem RDs.get : ∀ {ds : List D} {vs : List V} {i : Nat} {d : D}, RDs K M H ds vs → ds[i]? = some d → ∃ v, vs[i]? = some v ∧ RD K M H d v
  | [], _, _, _, _, e => by simp at e
  | x :: ds, vs, i, d, h, e => by
    obtain ⟨v, ws, rfl, h1, t⟩ := h.cons_inv
    cases i with
    | zero => simp at e; subst e; exact ⟨v, by simp, h1⟩
    | succ i => simpa using RDs.get t (by simpa using e)
theorem RDs.append : ∀ {as bs : List D} {vs ws : List V}, RDs K M H as vs → RDs K M H bs ws → RDs K M H (as ++ bs) (vs ++ ws)
  | [], _, _, _, h, g => by rw [h.nil_inv]; exact g
  | _ :: as, _, vs, _, h, g => by
    obtain ⟨v, us, rfl, h1, t⟩ := h.cons_inv
    exact .cons h1 (RDs.append t g)
theorem RDs.set : ∀ {ds : List D} {vs : List V} (i : Nat) {d : D} {v : V}, RDs K M H ds vs → RD K M H d v → RDs K M H (ds.set i d) (vs.set i v)
  | [], _, _, _, _, h, _ => by rw [h.nil_inv]; exact .nil
  | _ :: ds, vs, i, d, v, h, g => by
    obtain ⟨w, us, rfl, h1, t⟩ := h.cons_inv
    cases i with
    | zero => exact .cons g t
    | succ i => exact .cons h1 (RDs.set i t g)
theorem RDs.take : ∀ {ds : List D} {vs : List V} (n : Nat), RDs K M H ds vs → RDs K M H (ds.take n) (vs.take n)
  | [], _, _, h => by rw [h.nil_inv]; simpa using RDs.nil
  | _ :: ds, vs, n, h => by
    obtain ⟨w, us, rfl, h1, t⟩ := h.cons_inv
    cases n with
    | zero => exact .nil
    | succ n => exact .cons h1 (RDs.take n t)
theorem RDs.drop : ∀ {ds : List D} {vs : List V} (n : Nat), RDs K M H ds vs → RDs K M H (ds.drop n) (vs.drop n)
  | [], _, _, h => by rw [h.nil_inv]; simpa using RDs.nil
  | _ :: ds, vs, n, h => by
    obtain ⟨w, us, rfl, h1, t⟩ := h.cons_inv
    cases n with
    | zero => exact .cons h1 t
    | succ n => exact RDs.drop n t
theorem RDs.eraseIdx : ∀ {ds : List D} {vs : List V} (n : Nat), RDs K M H ds vs → RDs K M H (ds.eraseIdx n) (vs.eraseIdx n)
  | [], _, _, h => by rw [h.nil_inv]; simpa using RDs.nil
  | _ :: ds, vs, n, h => by
    obtain ⟨w, us, rfl, h1, t⟩ := h.cons_inv
    cases n with
    | zero => exact t
    | succ n => exact .cons h1 (RDs.eraseIdx n t)
theorem RDs.dropLast {ds : List D} {vs : List V} (h : RDs K M H ds vs) : RDs K M H ds.dropLast vs.dropLast := by
  rw [List.dropLast_eq_take, List.dropLast_eq_take, h.length]
  exact h.take _
theorem RDs.reverse : ∀ {ds : List D} {vs : List V}, RDs K M H ds vs → RDs K M H ds.reverse vs.reverse
  | [], _, h => by rw [h.nil_inv]; exact .nil
  | _ :: ds, vs, h => by
    obtain ⟨w, us, rfl, h1, t⟩ := h.cons_inv
    rw [List.reverse_cons, List.reverse_cons]
    exact (RDs.reverse t).append (.cons h1 .nil)
theorem RDs.rep {ds : List D} {vs : List V} (h : RDs K M H ds vs) : ∀ k : Nat, RDs K M H (List.replicate k ds).flatten (List.replicate k vs).flatten
  | 0 => .nil
  | k + 1 => by
    rw [List.replicate_succ, List.replicate_succ, List.flatten_cons, List.flatten_cons]
    exact h.append (RDs.rep h k)
theorem RD.int_inv {i : Int} {v : V} (h : RD K M H (.int i) v) : v = .int i := by rwa [RD] at h
theorem RD.bl_inv {i : Bool} {v : V} (h : RD K M H (.bl i) v) : v = .bl i := by rwa [RD] at h
theorem RD.str_inv {i : Str} {v : V} (h : RD K M H (.str i) v) : v = .str i := by rwa [RD] at h
theorem RD.non_inv {v : V} (h : RD K M H .non v) : v = .non := by rwa [RD] at h
theorem RD.int (i : Int) : RD K M H (.int i) (.int i) := by rw [RD]
theorem RD.bl (i : Bool) : RD K M H (.bl i) (.bl i) := by rw [RD]
theorem RD.str (i : Str) : RD K M H (.str i) (.str i) := by rw [RD]
theorem RD.non : RD K M H .non .non := by rw [RD]
theorem RDs.ints : ∀ (ns : List Int), RDs K M H (ns.map D.int) (ns.map V.int)
  | [] => .nil
  | n :: ns => .cons (.int n) (RDs.ints ns)
theorem RDs.ints_inv : ∀ {ns : List Int} {vs : List V}, RDs K M H (ns.map D.int) vs → vs = ns.map V.int
  | [], vs, h => by rw [List.map_nil] at h; rw [h.nil_inv]; rfl
  | n :: ns, vs, h => by
    rw [List.map_cons] at h
    obtain ⟨w, us, rfl, h1, t⟩ := h.cons_inv
    rw [RDs.ints_inv t, h1.int_inv]; rfl
theorem RDs.strs : ∀ (ns : List Str), RDs K M H (ns.map D.str) (ns.map V.str)
  | [] => .nil
  | n :: ns => .cons (.str n) (RDs.strs ns)
theorem RDs.strs_inv : ∀ {ns : List Str} {vs : List V}, RDs K M H (ns.map D.str) vs → vs = ns.map V.str
  | [], vs, h => by rw [List.map_nil] at h; rw [h.nil_inv]; rfl
  | n :: ns, vs, h => by
    rw [List.map_cons] at h
    obtain ⟨w, us, rfl, h1, t⟩ := h.cons_inv
    rw [RDs.strs_inv t, h1.str_inv]; rfl
theorem RDs.bls_inv : ∀ {ns : List Bool} {vs : List V}, RDs K M H (ns.map D.bl) vs → vs = ns.map V.bl
  | [], vs, h => by rw [List.map_nil] at h; rw [h.nil_inv]; rfl
  | n :: ns, vs, h => by
    rw [List.map_cons] at h
    obtain ⟨w, us, rfl, h1, t⟩ := h.cons_inv
    rw [RDs.bls_inv t, h1.bl_inv]; rfl
end

/-! ### the store -/
inductive Ob where
  | lst (xs : List D) | dk (kvs : List (Key × D)) | dt (kvs : List (List Key × D))
  /-- a dict that a loop walks -/
  | lk (kvs : List (Key × D)) | lt (kvs : List (List Key × D))
  | dead
abbrev Store := List Ob
def RO (K : PySem.W.Frag) (M : Mp) (H : Hp) : Ob → Addr → Prop
  | .lst xs, a => ∃ vs, H a = some (.lst vs) ∧ RDs K M H xs vs
  | .dk kvs, a => ∃ vs, H a = some (.dK ((kvs.map (·.1)).zip vs)) ∧ RDs K M H (kvs.map (·.2)) vs
  | .dt kvs, a => ∃ vs, H a = some (.dT ((kvs.map (·.1)).zip vs)) ∧ RDs K M H (kvs.map (·.2)) vs
  | .lk kvs, a => ∃ o vs, H a = some (.frz o (.dK ((kvs.map (·.1)).zip vs))) ∧ RDs K M H (kvs.map (·.2)) vs
  | .lt kvs, a => ∃ o vs, H a = some (.frz o (.dT ((kvs.map (·.1)).zip vs))) ∧ RDs K M H (kvs.map (·.2)) vs
  | .dead, _ => False
theorem RO.trk {K : PySem.W.Frag} {M : Mp} {H : Hp} {b : Ob} {a : Addr} (h : RO K M H b a) : H a ≠ none := by
  cases b <;> first | (obtain ⟨vs, e, _⟩ := h; rw [e]; simp) | (obtain ⟨o, vs, e, _⟩ := h; rw [e]; simp) | exact h.elim
theorem RO.notTup {K : PySem.W.Frag} {M : Mp} {H : Hp} {b : Ob} {a : Addr} (h : RO K M H b a) : ∀ xs, H a ≠ some (.tup xs) := fun xs z => by
  cases b <;> first | (obtain ⟨vs, e, _⟩ := h; rw [e] at z; cases z) | (obtain ⟨o, vs, e, _⟩ := h; rw [e] at z; cases z) | exact h.elim
theorem RO.mono0 {K : PySem.W.Frag} {M M' : Mp} {H H' : Hp} (s : Step M H M' H') {b : Ob} {a : Addr} (h : RO K M H b a) (ha : H' a = H a) : RO K M' H' b a := by
  cases b <;> first
    | (obtain ⟨vs, e, r⟩ := h; exact ⟨vs, ha.trans e, RDs.mono0 s _ _ r⟩)
    | (obtain ⟨o, vs, e, r⟩ := h; exact ⟨o, vs, ha.trans e, RDs.mono0 s _ _ r⟩)
    | exact h.elim

structure RS (K : PySem.W.Frag) (M : Mp) (S : Store) (H : Hp) : Prop where
  len : M.m.length = S.length
  obj : ∀ (n : Nat) a, M.m[n]? = some (some a) → ∃ b, S[n]? = some b ∧ RO K M H b a
  lv : ∀ (n : Nat) b, S[n]? = some b → b ≠ .dead → ∃ a, M.m[n]? = some (some a)
  inj : ∀ (n n' : Nat) a, M.m[n]? = some (some a) → M.m[n']? = some (some a) → n = n'
  rdis : ∀ a, a ∈ M.r → some a ∉ M.m
  rtrk : ∀ a, a ∈ M.r → H a ≠ none ∧ ∀ xs, H a ≠ some (.tup xs)
section
variable {K : PySem.W.Frag} {M : Mp} {S : Store} {H : Hp} {p : Addr} {o : HO}
theorem RS.mtrk (h : RS K M S H) {a : Addr} (ha : some a ∈ M.m) : H a ≠ none := by
  obtain ⟨n, hn⟩ := List.getElem?_of_mem ha
  obtain ⟨b, _, r⟩ := h.obj n a hn
  exact r.trk
theorem RS.mnt (h : RS K M S H) {a : Addr} (ha : some a ∈ M.m) : ∀ xs, H a ≠ some (.tup xs) := by
  obtain ⟨n, hn⟩ := List.getElem?_of_mem ha
  obtain ⟨b, _, r⟩ := h.obj n a hn
  exact r.notTup
theorem RS.tupx (h : RS K M S H) {a : Addr} {xs : List V} (ha : H a = some (.tup xs)) : ¬ Exc M a := fun z => z.elim (fun z => h.mnt z xs ha) fun z => (h.rtrk a z).2 xs ha
theorem RS.fresh (h : RS K M S H) (hp : H p = none) : ¬ Exc M p := fun z => z.elim (fun z => h.mtrk z hp) fun z => (h.rtrk p z).1 hp
theorem RS.get (h : RS K M S H) {n : Nat} {b : Ob} (e : S[n]? = some b) (nd : b ≠ .dead) : ∃ a, M.m[n]? = some (some a) ∧ RO K M H b a := by
  obtain ⟨a, ha⟩ := h.lv n b e nd
  obtain ⟨b', hb, r⟩ := h.obj n a ha
  rw [e] at hb; cases hb
  exact ⟨a, ha, r⟩
/-- a new object, not the store's -/
theorem Step.new (h : RS K M S H) (hp : H p = none) : Step M H M (upd H p o) where
  ext := fun _ e q => ⟨e, q, .inl rfl⟩
  evo := fun a u e _ => by rw [upd_ne (ne_of_none e hp)]; exact .inl e
  tup := fun a u e => by rw [upd_ne (ne_of_none e hp)]; exact e
  liv := fun a q => by
    by_cases e : a = p
    · rw [e]; exact hp
    · rwa [upd_ne e] at q
  fm := fun _ q => .inl q
  fr := fun _ q => .inl q
theorem Stp.new (h : RS K M S H) (hp : H p = none) : Stp M H M (upd H p o) := ⟨.new h hp, rfl, fun a q => upd_ne (show a ≠ p from fun e => (h.rtrk a q).1 (by rw [e]; exact hp))⟩
theorem RS.new (h : RS K M S H) (hp : H p = none) : RS K M S (upd H p o) where
  len := h.len
  obj := fun n a q => by
    obtain ⟨b, e, r⟩ := h.obj n a q
    refine ⟨b, e, r.mono0 (Step.new h hp) ?_⟩
    exact upd_ne fun e => r.trk (e ▸ hp)
  lv := h.lv
  inj := h.inj
  rdis := h.rdis
  rtrk := fun a q => by
    rw [upd_ne (show a ≠ p from fun e => (h.rtrk a q).1 (by rw [e]; exact hp))]
    exact h.rtrk a q
/-- a new object, taken besides -/
theorem Step.res (h : RS K M S H) (hp : H p = none) : Step M H ⟨M.m, p :: M.r⟩ (upd H p o) where
  ext := (Step.new (o := o) h hp).ext
  evo := (Step.new (o := o) h hp).evo
  tup := (Step.new (o := o) h hp).tup
  liv := (Step.new (o := o) h hp).liv
  fm := (Step.new (o := o) h hp).fm
  fr := fun a q => by
    rcases List.mem_cons.mp q with q | q
    · rw [q]; exact .inr hp
    · exact .inl q
theorem RS.res (h : RS K M S H) (hp : H p = none) (ho : ∀ xs, o ≠ .tup xs := by intro _ z; cases z) : RS K ⟨M.m, p :: M.r⟩ S (upd H p o) where
  len := h.len
  obj := fun n a q => by
    obtain ⟨b, e, r⟩ := h.obj n a q
    refine ⟨b, e, r.mono0 (Step.res h hp) ?_⟩
    exact upd_ne fun e => r.trk (e ▸ hp)
  lv := h.lv
  inj := h.inj
  rdis := fun a q => by
    rcases List.mem_cons.mp q with q | q
    · rw [q]; exact fun z => h.mtrk z hp
    · exact h.rdis a q
  rtrk := fun a q => by
    rcases List.mem_cons.mp q with q | q
    · rw [q, upd_same]
      exact ⟨by simp, fun xs z => ho xs (Option.some.inj z)⟩
    · rw [upd_ne (show a ≠ p from fun e => (h.rtrk a q).1 (by rw [e]; exact hp))]
      exact h.rtrk a q
/-- a store's object changed -/
theorem Step.wr {a : Addr} (h : RS K M S H) (ha : some a ∈ M.m) : Step M H M (upd H a o) where
  ext := fun _ e q => ⟨e, q, .inl rfl⟩
  evo := fun x u e n => by
    rw [upd_ne (show x ≠ a from fun z => n (.inl (by rw [z]; exact ha)))]
    exact .inl e
  tup := fun x xs e => by
    rw [upd_ne (show x ≠ a from fun z => h.mnt ha xs (by rw [← z]; exact e))]
    exact e
  liv := fun x q => by
    by_cases e : x = a
    · rw [e, upd_same] at q; cases q
    · rwa [upd_ne e] at q
  fm := fun _ q => .inl q
  fr := fun _ q => .inl q
theorem Stp.wr {a : Addr} (h : RS K M S H) (ha : some a ∈ M.m) : Stp M H M (upd H a o) := ⟨.wr h ha, rfl, fun x q => upd_ne (show x ≠ a from fun e => h.rdis x q (by rw [e]; exact ha))⟩
theorem RS.wr {a : Addr} {n : Nat} {b : Ob} (h : RS K M S H) (hn : M.m[n]? = some (some a)) (hb : b ≠ .dead) (r : RO K M (upd H a o) b a) : RS K M (S.set n b) (upd H a o) where
  len := by rw [List.length_set]; exact h.len
  obj := fun n' x q => by
    have hl : n < S.length := by rw [← h.len]; exact (List.getElem?_eq_some_iff.mp hn).1
    by_cases e : n = n'
    · subst e
      rw [hn] at q; cases q
      exact ⟨b, by rw [List.getElem?_set_self hl], r⟩
    · obtain ⟨c, hc, rc⟩ := h.obj n' x q
      refine ⟨c, by rw [List.getElem?_set_ne e]; exact hc, rc.mono0 (Step.wr h (List.mem_of_getElem? hn)) ?_⟩
      exact upd_ne fun z => e (h.inj n n' a hn (by rw [← z]; exact q))
  lv := fun n' c q nd => by
    by_cases e : n = n'
    · subst e; exact ⟨a, hn⟩
    · rw [List.getElem?_set_ne e] at q; exact h.lv n' c q nd
  inj := h.inj
  rdis := h.rdis
  rtrk := fun x q => by
    rw [upd_ne (show x ≠ a from fun e => h.rdis x q (by rw [e]; exact List.mem_of_getElem? hn))]
    exact h.rtrk x q

/-- the n-th object leaves the store: its address is a list, a dict that is no more changed -/
theorem Step.kill {a : Addr} {n : Nat} (hn : M.m[n]? = some (some a)) : Step M H ⟨M.m.set n none, M.r⟩ H where
  ext := fun n' e q => by
    by_cases z : n = n'
    · subst z
      exact ⟨none, List.getElem?_set_self (List.getElem?_eq_some_iff.mp hn).1, .inr rfl⟩
    · exact ⟨e, by rw [List.getElem?_set_ne z]; exact q, .inl rfl⟩
  evo := fun _ _ e _ => .inl e
  tup := fun _ _ e => e
  liv := fun _ q => q
  fm := fun x q => by
    obtain ⟨n', hn'⟩ := List.getElem?_of_mem q
    by_cases z : n = n'
    · subst z
      rw [List.getElem?_set_self (List.getElem?_eq_some_iff.mp hn).1] at hn'
      cases hn'
    · rw [List.getElem?_set_ne z] at hn'
      exact .inl (List.mem_of_getElem? hn')
  fr := fun _ q => .inl q
theorem Stp.kill {a : Addr} {n : Nat} (hn : M.m[n]? = some (some a)) : Stp M H ⟨M.m.set n none, M.r⟩ H := ⟨.kill hn, rfl, fun _ _ => rfl⟩
theorem RS.kill {a : Addr} {n : Nat} (h : RS K M S H) (hn : M.m[n]? = some (some a)) : RS K ⟨M.m.set n none, M.r⟩ (S.set n .dead) H ∧ ¬ Exc ⟨M.m.set n none, M.r⟩ a := by
  have hlm : n < M.m.length := (List.getElem?_eq_some_iff.mp hn).1
  have at' : ∀ (n' : Nat) x, (M.m.set n none)[n']? = some (some x) → n ≠ n' ∧ M.m[n']? = some (some x) := fun n' x q => by
    by_cases z : n = n'
    · subst z
      rw [List.getElem?_set_self hlm] at q
      cases q
    · rw [List.getElem?_set_ne z] at q
      exact ⟨z, q⟩
  refine ⟨⟨by simp [h.len], fun n' x q => ?_, fun n' b q nd => ?_, fun n' n'' x q q' => ?_, fun x q z => ?_, h.rtrk⟩, fun z => ?_⟩
  · obtain ⟨z, q⟩ := at' n' x q
    obtain ⟨b, e, r⟩ := h.obj n' x q
    exact ⟨b, by rw [List.getElem?_set_ne z]; exact e, r.mono0 (Step.kill hn) rfl⟩
  · by_cases z : n = n'
    · subst z
      rw [List.getElem?_set_self (by rw [← h.len]; exact hlm)] at q
      exact absurd (Option.some.inj q).symm nd
    · rw [List.getElem?_set_ne z] at q
      obtain ⟨x, e⟩ := h.lv n' b q nd
      exact ⟨x, by
        show (M.m.set n none)[n']? = _
        rw [List.getElem?_set_ne z]; exact e⟩
  · exact h.inj n' n'' x (at' n' x q).2 (at' n'' x q').2
  · obtain ⟨n', hn'⟩ := List.getElem?_of_mem z
    exact h.rdis x q (List.mem_of_getElem? (at' n' x hn').2)
  · rcases z with z | z
    · obtain ⟨n', hn'⟩ := List.getElem?_of_mem z
      obtain ⟨q1, q2⟩ := at' n' a hn'
      exact q1 (h.inj n n' a hn q2)
    · exact h.rdis a z (List.mem_of_getElem? hn)
/-- what was taken besides is let go -/
theorem RS.free {m : List (Option Addr)} {r : List Addr} (h : RS K ⟨m, p :: r⟩ S H) : RS K ⟨m, r⟩ S H := by
  have s : Step ⟨m, p :: r⟩ H ⟨m, r⟩ H := ⟨fun _ e q => ⟨e, q, .inl rfl⟩, fun _ _ e _ => .inl e, fun _ _ e => e, fun _ q => q, fun _ q => .inl q, fun _ q => .inl (List.mem_cons_of_mem _ q)⟩
  refine ⟨h.len, fun n a q => ?_, h.lv, h.inj, fun a q => h.rdis a (List.mem_cons_of_mem _ q), fun a q => h.rtrk a (List.mem_cons_of_mem _ q)⟩
  obtain ⟨b, e, ro⟩ := h.obj n a q
  exact ⟨b, e, ro.mono0 s rfl⟩
theorem Step.free {M0 : Mp} {H0 : Hp} {m : List (Option Addr)} {r : List Addr} (s : Step M0 H0 ⟨m, p :: r⟩ H) : Step M0 H0 ⟨m, r⟩ H :=
  ⟨s.ext, s.evo, s.tup, s.liv, s.fm, fun a q => s.fr a (List.mem_cons_of_mem _ q)⟩
theorem Step.freed {m : List (Option Addr)} {r : List Addr} : Step ⟨m, p :: r⟩ H ⟨m, r⟩ H :=
  ⟨fun _ e q => ⟨e, q, .inl rfl⟩, fun _ _ e _ => .inl e, fun _ _ e => e, fun _ q => q, fun _ q => .inl q, fun _ q => .inl (List.mem_cons_of_mem _ q)⟩
/-- .. becomes the store's newest object -/
theorem Step.own {M0 : Mp} {H0 : Hp} {m : List (Option Addr)} {r : List Addr} (s : Step M0 H0 ⟨m, p :: r⟩ H) (hp : H0 p = none) : Step M0 H0 ⟨m ++ [some p], r⟩ H where
  ext := fun n e q => by
    obtain ⟨e', h1, h2⟩ := s.ext n e q
    refine ⟨e', ?_, h2⟩
    show (m ++ [some p])[n]? = _
    rw [List.getElem?_append_left (List.getElem?_eq_some_iff.mp h1).1]
    exact h1
  evo := s.evo
  tup := s.tup
  liv := s.liv
  fm := fun a q => by
    rcases List.mem_append.mp q with q | q
    · exact s.fm a q
    · have e : some a = some p := by simpa using q
      cases e
      exact .inr hp
  fr := fun a q => s.fr a (List.mem_cons_of_mem _ q)
theorem Step.owned {m : List (Option Addr)} {r : List Addr} : ∀ (n : Nat) e, m[n]? = some e → (m ++ [some p])[n]? = some e := fun n e q => by
  rw [List.getElem?_append_left (List.getElem?_eq_some_iff.mp q).1]
  exact q
/-- what was taken besides, written -/
theorem Step.updr {m : List (Option Addr)} {r : List Addr} {o' : HO} (h : RS K ⟨m, p :: r⟩ S H) : Step ⟨m, p :: r⟩ H ⟨m, p :: r⟩ (upd H p o') where
  ext := fun _ e q => ⟨e, q, .inl rfl⟩
  evo := fun a u e n => by
    rw [upd_ne (show a ≠ p from fun z => n (.inr (by rw [z]; exact List.mem_cons_self)))]
    exact .inl e
  tup := fun a xs e => by
    rw [upd_ne (show a ≠ p from fun z => (h.rtrk p List.mem_cons_self).2 xs (by rw [← z]; exact e))]
    exact e
  liv := fun a q => by
    by_cases e : a = p
    · rw [e, upd_same] at q; cases q
    · rwa [upd_ne e] at q
  fm := fun _ q => .inl q
  fr := fun _ q => .inl q
theorem RS.updr {m : List (Option Addr)} {r : List Addr} {o' : HO} (h : RS K ⟨m, p :: r⟩ S H) (ho : ∀ xs, o' ≠ .tup xs := by intro _ z; cases z) : RS K ⟨m, p :: r⟩ S (upd H p o') where
  len := h.len
  obj := fun n a q => by
    obtain ⟨b, e, ro⟩ := h.obj n a q
    exact ⟨b, e, ro.mono0 (Step.updr h) (upd_ne (show a ≠ p from fun z => h.rdis p List.mem_cons_self (by rw [← z]; exact List.mem_of_getElem? q)))⟩
  lv := h.lv
  inj := h.inj
  rdis := h.rdis
  rtrk := fun a q => by
    by_cases e : a = p
    · rw [e, upd_same]
      exact ⟨by simp, fun xs z => ho xs (Option.some.inj z)⟩
    · rw [upd_ne e]; exact h.rtrk a q
/-- the same data where the map has one more object at an address that was taken besides -/
theorem RD.own {m : List (Option Addr)} {r : List Addr} : (∀ d v, RD K ⟨m, p :: r⟩ H d v → RD K ⟨m ++ [some p], r⟩ H d v) ∧ (∀ ds vs, RDs K ⟨m, p :: r⟩ H ds vs → RDs K ⟨m ++ [some p], r⟩ H ds vs) := by
  have ex : ∀ a, ¬ Exc ⟨m, p :: r⟩ a → ¬ Exc ⟨m ++ [some p], r⟩ a := fun a n z => n <| by
    rcases z with z | z
    · rcases List.mem_append.mp z with z | z
      · exact .inl z
      · have e : some a = some p := by simpa using z
        cases e
        exact .inr List.mem_cons_self
    · exact .inr (List.mem_cons_of_mem _ z)
  have key : ∀ d : D, (∀ v, RD K ⟨m, p :: r⟩ H d v → RD K ⟨m ++ [some p], r⟩ H d v) := by
    intro d
    exact D.rec (motive_1 := fun d => ∀ v, RD K ⟨m, p :: r⟩ H d v → RD K ⟨m ++ [some p], r⟩ H d v) (motive_2 := fun ds => ∀ vs, RDs K ⟨m, p :: r⟩ H ds vs → RDs K ⟨m ++ [some p], r⟩ H ds vs)
      (fun v h => by simpa [RD] using h) (fun _ v h => by simpa [RD] using h) (fun _ v h => by simpa [RD] using h) (fun _ v h => by simpa [RD] using h)
      (fun xs ih v h => by
        rw [RD] at h ⊢
        obtain ⟨a, vs, e, f, g⟩ := h
        exact ⟨a, vs, e, f, ih vs g⟩)
      (fun xs ih v h => by
        rw [RD] at h ⊢
        obtain ⟨a, vs, e, f, g⟩ := h
        exact ⟨a, vs, e, f, ih vs g⟩)
      (fun xs ih v h => by
        rw [RD] at h ⊢
        obtain ⟨a, vs, e, f, g⟩ := h
        exact ⟨a, vs, e, ⟨f.1, ex a f.2⟩, ih vs g⟩)
      (fun xs ih v h => by
        rw [RD] at h ⊢
        obtain ⟨a, vs, e, f, g⟩ := h
        exact ⟨a, vs, e, f.imp (fun q => ⟨q.1, ex a q.2⟩) id, ih vs g⟩)
      (fun ks ds ih v h => by
        rw [RD] at h ⊢
        obtain ⟨a, vs, e, f, l, g⟩ := h
        exact ⟨a, vs, e, ⟨f.1, ex a f.2⟩, l, ih vs g⟩)
      (fun ks ds ih v h => by
        rw [RD] at h ⊢
        obtain ⟨a, vs, e, f, l, g⟩ := h
        exact ⟨a, vs, e, ⟨f.1, ex a f.2⟩, l, ih vs g⟩)
      (fun n v h => by
        rw [RD] at h ⊢
        obtain ⟨e, h1, h2⟩ := h
        exact ⟨e, Step.owned (r := r) n e h1, h2⟩)
      (fun vs h => by simpa [RDs] using h)
      (fun d ds ih1 ih2 vs h => by
        rw [RDs] at h ⊢
        obtain ⟨v, ws, e, h1, h2⟩ := h
        exact ⟨v, ws, e, ih1 v h1, ih2 ws h2⟩)
      d
  have keys : ∀ (ds : List D) vs, RDs K ⟨m, p :: r⟩ H ds vs → RDs K ⟨m ++ [some p], r⟩ H ds vs := by
    intro ds
    induction ds with
    | nil => intro vs h; rw [h.nil_inv]; exact .nil
    | cons d ds ih =>
      intro vs h
      obtain ⟨v, ws, rfl, h1, h2⟩ := h.cons_inv
      exact .cons (key d v h1) (ih ws h2)
  exact ⟨key, keys⟩
theorem RO.own {m : List (Option Addr)} {r : List Addr} {b : Ob} {a : Addr} (h : RO K ⟨m, p :: r⟩ H b a) : RO K ⟨m ++ [some p], r⟩ H b a := by
  cases b <;> first
    | (obtain ⟨vs, e, q⟩ := h; exact ⟨vs, e, RD.own.2 _ _ q⟩)
    | (obtain ⟨o, vs, e, q⟩ := h; exact ⟨o, vs, e, RD.own.2 _ _ q⟩)
    | exact h.elim
theorem RS.own {m : List (Option Addr)} {r : List Addr} {b : Ob} (h : RS K ⟨m, p :: r⟩ S H) (hb : b ≠ .dead) (ro : RO K ⟨m, p :: r⟩ H b p) (nr : p ∉ r) : RS K ⟨m ++ [some p], r⟩ (S ++ [b]) H := by
  have np : some p ∉ m := h.rdis p List.mem_cons_self
  have hl : m.length = S.length := h.len
  have at' : ∀ (n : Nat) a, (m ++ [some p])[n]? = some (some a) → m[n]? = some (some a) ∨ (n = m.length ∧ a = p) := fun n a q => by
    by_cases z : n < m.length
    · rw [List.getElem?_append_left z] at q
      exact .inl q
    · rw [List.getElem?_append_right (by omega)] at q
      have : n - m.length = 0 := by
        have := (List.getElem?_eq_some_iff.mp q).1
        simp at this
        omega
      rw [this] at q
      simp at q
      exact .inr ⟨by omega, q.symm⟩
  refine ⟨by simp [hl], fun n a q => ?_, fun n c q nd => ?_, fun n n' a q q' => ?_, fun a q z => ?_, fun a q => h.rtrk a (List.mem_cons_of_mem _ q)⟩
  · rcases at' n a q with w | ⟨w, rfl⟩
    · obtain ⟨c, e, rc⟩ := h.obj n a w
      exact ⟨c, by rw [List.getElem?_append_left (List.getElem?_eq_some_iff.mp e).1]; exact e, rc.own⟩
    · exact ⟨b, by rw [w, hl, List.getElem?_append_right (Nat.le_refl _)]; simp, ro.own⟩
  · by_cases z : n < S.length
    · rw [List.getElem?_append_left z] at q
      obtain ⟨a, e⟩ := h.lv n c q nd
      exact ⟨a, Step.owned (r := r) n _ e⟩
    · have hz : n = S.length := by
        have := (List.getElem?_eq_some_iff.mp q).1
        simp at this
        omega
      exact ⟨p, by
        show (m ++ [some p])[n]? = _
        rw [hz, ← hl, List.getElem?_append_right (Nat.le_refl _)]; simp⟩
  · rcases at' n a q with u | ⟨u, e⟩
    · rcases at' n' a q' with u' | ⟨u', e'⟩
      · exact h.inj n n' a u u'
      · subst e'
        exact absurd (List.mem_of_getElem? u) np
    · rcases at' n' a q' with u' | ⟨u', e'⟩
      · subst e
        exact absurd (List.mem_of_getElem? u') np
      · omega
  · rcases List.mem_append.mp z with z | z
    · exact h.rdis a (List.mem_cons_of_mem _ q) z
    · have e : some a = some p := by simpa using z
      cases e
      exact nr q
end

/-! ### what a piece of program means -/
structure Exn where
  cls : Str
  fs : List (Str × D)
abbrev Env := List (Option D)
abbrev Res (α : Type) := Option (Except Exn α × Store)
abbrev Cm (α : Type) := Env → Store → Res α
def ok {α : Type} (a : α) (S : Store) : Res α := some (.ok a, S)
def Res.bind {α β : Type} (m : Res α) (k : α → Store → Res β) : Res β :=
  match m with
  | none => none
  | some (.error x, S) => some (.error x, S)
  | some (.ok a, S) => k a S
@[simp] theorem bind_ok {α β : Type} {a : α} {S : Store} {k : α → Store → Res β} : Res.bind (ok a S) k = k a S := rfl
@[simp] theorem bind_some {α β : Type} {a : α} {S : Store} {k : α → Store → Res β} : Res.bind (some (.ok a, S)) k = k a S := rfl
@[simp] theorem bind_none {α β : Type} {k : α → Store → Res β} : Res.bind none k = none := rfl
@[simp] theorem bind_err {α β : Type} {x : Exn} {S : Store} {k : α → Store → Res β} : Res.bind (some (.error x, S)) k = some (.error x, S) := rfl

abbrev Wish := Exn → Mp → Hp → Prop
def W0 : Wish := fun _ _ _ => False
/-- m run from (M, H) ends, in P or in the wish W -/
def Go (K : PySem.W.Frag) (W : Wish) (M : Mp) (H : Hp) {α : Type} (m : Res α) (P : α → Mp → Hp → Store → Prop) : Prop :=
  ∃ r S', m = some (r, S') ∧ match r with
    | .ok a => ∀ M' H', Stp M H M' H' → RS K M' S' H' → P a M' H' S'
    | .error x => ∀ M' H', Stp M H M' H' → RS K M' S' H' → W x M' H'
section
variable {K : PySem.W.Frag} {W : Wish} {M : Mp} {H : Hp} {α β : Type}
theorem Go.imp {m : Res α} {P P' : α → Mp → Hp → Store → Prop} (h : Go K W M H m P) (q : ∀ a M' H' S', Stp M H M' H' → RS K M' S' H' → P a M' H' S' → P' a M' H' S') : Go K W M H m P' := by
  obtain ⟨r, S', e, h⟩ := h
  refine ⟨r, S', e, ?_⟩
  cases r with
  | ok a => exact fun M' H' s rs => q a M' H' S' s rs (h M' H' s rs)
  | error x => exact h
theorem Go.bind {m : Res α} {k : α → Store → Res β} {P : β → Mp → Hp → Store → Prop} (h : Go K W M H (m.bind k) P) :
    Go K W M H m fun a M1 H1 S1 => Go K W M1 H1 (k a S1) fun b M' H' S' => P b M' H' S' := by
  obtain ⟨r, S', e, h⟩ := h
  cases m with
  | none => cases e
  | some q =>
    obtain ⟨c, S1⟩ := q
    cases c with
    | error x =>
      have e : some (Except.error x, S1) = some (r, S') := e
      cases e
      exact ⟨.error x, _, rfl, h⟩
    | ok a =>
      refine ⟨.ok a, S1, rfl, fun M1 H1 s rs => ⟨r, S', e, ?_⟩⟩
      cases r with
      | ok b => exact fun M' H' s' rs' => h M' H' (s.trans s') rs'
      | error x => exact fun M' H' s' rs' => h M' H' (s.trans s') rs'
theorem Go.ok {a : α} {S : Store} {P : α → Mp → Hp → Store → Prop} (h : Go K W M H (Md.ok a S) P) (rs : RS K M S H) : P a M H S := by
  obtain ⟨r, S', e, h⟩ := h
  cases e
  exact h M H .refl rs
/-- behind a step of the machine that the meaning does not see -/
theorem Go.step {M1 : Mp} {H1 : Hp} {m : Res α} {P : α → Mp → Hp → Store → Prop} (h : Go K W M H m P) (s : Stp M H M1 H1) : Go K W M1 H1 m P := by
  obtain ⟨r, S', e, h⟩ := h
  refine ⟨r, S', e, ?_⟩
  cases r with
  | ok a => exact fun M' H' s' rs => h M' H' (s.trans s') rs
  | error x => exact fun M' H' s' rs => h M' H' (s.trans s') rs
end

/-- the names' values -/
structure REnv (K : PySem.W.Frag) (M : Mp) (H : Hp) (env : Env) (σ : L2.St) : Prop where
  len : env.length = σ.length
  at' : ∀ (i : Nat) d, env[i]? = some (some d) → ∃ v, σ[i]? = some (some v) ∧ RD K M H d v
section
variable {K : PySem.W.Frag} {M M' : Mp} {H H' : Hp} {env : Env} {σ : L2.St}
theorem REnv.mono0 (h : REnv K M H env σ) (s : Step M H M' H') : REnv K M' H' env σ := ⟨h.len, fun i d e => by
  obtain ⟨v, e1, r⟩ := h.at' i d e
  exact ⟨v, e1, r.mono0 s⟩⟩
theorem REnv.mono (h : REnv K M H env σ) (s : Stp M H M' H') : REnv K M' H' env σ := h.mono0 s.toStep
theorem REnv.set (h : REnv K M H env σ) (i : Nat) {d : D} {v : V} (r : RD K M H d v) : REnv K M H (env.set i (some d)) (σ.set i (some v)) := ⟨by simp [h.len], fun j e q => by
  by_cases z : i = j
  · subst z
    have hl : i < env.length := by
      have := (List.getElem?_eq_some_iff.mp q).1
      simpa using this
    rw [List.getElem?_set_self hl] at q
    cases q
    exact ⟨v, List.getElem?_set_self (by rw [← h.len]; exact hl), r⟩
  · rw [List.getElem?_set_ne z] at q
    obtain ⟨w, e1, r1⟩ := h.at' j e q
    exact ⟨w, by rw [List.getElem?_set_ne z]; exact e1, r1⟩⟩
end

def tD (K : PySem.W.Frag) (W : Wish) (f : Cm D) : TE := fun σ H Q => ∃ env S M, REnv K M H env σ ∧ RS K M S H ∧ Go K W M H (f env S) fun d M' H' _ => ∀ v, RD K M' H' d v → Q v H'
def tT (K : PySem.W.Frag) (W : Wish) (f : Cm Bool) : TT := fun σ H Q => ∃ env S M, REnv K M H env σ ∧ RS K M S H ∧ Go K W M H (f env S) fun b _ H' _ => Q b H'
def tA (K : PySem.W.Frag) (W : Wish) (f : Cm (List D)) : TA := fun σ H Q => ∃ env S M, REnv K M H env σ ∧ RS K M S H ∧ Go K W M H (f env S) fun ds M' H' _ => ∀ vs, RDs K M' H' ds vs → Q vs H'
/-- a new list, which nothing else holds -/
def LstP (K : PySem.W.Frag) (W : Wish) (M : Mp) (H : Hp) (Q : VK) (m : Res (List D)) : Prop := ∃ r S', m = some (r, S') ∧ match r with
  | .ok ds => ∀ p m' vs H', Step M H ⟨m', p :: M.r⟩ H' → (∀ a, a ∈ M.r → H' a = H a) → RS K ⟨m', p :: M.r⟩ S' H' → H p = none → H' p = some (.lst vs) → RDs K ⟨m', p :: M.r⟩ H' ds vs → Q (.ref p) H'
  | .error x => ∀ M' H', Stp M H M' H' → RS K M' S' H' → W x M' H'
def tL (K : PySem.W.Frag) (W : Wish) (f : Cm (List D)) : TE := fun σ H Q => ∃ env S M, REnv K M H env σ ∧ RS K M S H ∧ LstP K W M H Q (f env S)
inductive Out where
  | nx (env : Env) | ret (d : D) | brk (env : Env) | cnt (env : Env)
abbrev Sm := Cm Out
def OutP (K : PySem.W.Frag) (D' : Ends) (o : Out) (M : Mp) (H : Hp) : Prop :=
  match o with
  | .nx env => ∀ σ, REnv K M H env σ → D'.nx σ H
  | .ret d => ∀ v, RD K M H d v → D'.rt v H
  | .brk env => ∀ σ, REnv K M H env σ → D'.bk σ H
  | .cnt env => ∀ σ, REnv K M H env σ → D'.ct σ H
def tS (K : PySem.W.Frag) (W : Wish) (f : Sm) : TS := fun D' σ H => ∃ env S M, REnv K M H env σ ∧ RS K M S H ∧ Go K W M H (f env S) fun o M' H' _ => OutP K D' o M' H'

section
variable (X : Cx) (W : Wish)
abbrev IE (e : Expr) (f : Cm D) : Prop := PE X e (tD X.K W f)
abbrev IT (e : Expr) (f : Cm Bool) : Prop := PT X e (tT X.K W f)
abbrev IA (es : List Expr) (f : Cm (List D)) : Prop := PA X es (tA X.K W f)
abbrev IL (e : Expr) (f : Cm (List D)) : Prop := PE X e (tL X.K W f)
abbrev IS (s : Stmt) (f : Sm) : Prop := PS X s (tS X.K W f)
abbrev ISs (s : List Stmt) (f : Sm) : Prop := PSs X s (tS X.K W f)
end
theorem PE_weak {X : Cx} {e : Expr} {t t' : TE} (h : PE X e t) (w : ∀ σ H Q, t' σ H Q → t σ H Q) : PE X e t' := ⟨fun pins s σ H Q I q => h.run pins s σ H Q I (w σ H Q q)⟩
theorem PT_weak {X : Cx} {e : Expr} {t t' : TT} (h : PT X e t) (w : ∀ σ H Q, t' σ H Q → t σ H Q) : PT X e t' := ⟨fun pins s σ H Q I q => h.run pins s σ H Q I (w σ H Q q)⟩
theorem PA_weak {X : Cx} {e : List Expr} {t t' : TA} (h : PA X e t) (w : ∀ σ H Q, t' σ H Q → t σ H Q) : PA X e t' := ⟨fun pos pins s σ H Q I q => h.run pos pins s σ H Q I (w σ H Q q)⟩
theorem PS_weak {X : Cx} {e : Stmt} {t t' : TS} (h : PS X e t) (w : ∀ D σ H, t' D σ H → t D σ H) : PS X e t' := ⟨fun pins s σ H D I q => h.run pins s σ H D I (w D σ H q)⟩
theorem PSs_weak {X : Cx} {e : List Stmt} {t t' : TS} (h : PSs X e t) (w : ∀ D σ H, t' D σ H → t D σ H) : PSs X e t' := ⟨fun pins s σ H D I q => h.run pins s σ H D I (w D σ H q)⟩
end Md

/-! MdExpr: the rules of expressions: what their meaning is. -/
namespace Md
open PySem PySem.Spec PyProof.Rows L2

section
variable {K : PySem.W.Frag} {W : Wish} {M : Mp} {S : Store} {H : Hp}

/-! ### reading data -/
/-- a list's items, a tuple's -/
def asL (d : D) (S : Store) : Option (List D) := match d with
  | .lst xs => some xs
  | .fz xs => some xs
  | .loc n => match S[n]? with | some (.lst xs) => some xs | _ => none
  | _ => none
def asT (d : D) : Option (List D) := match d with
  | .tup xs => some xs
  | .ft xs => some xs
  | _ => none
/-- .. that stands in the tracked heap -/
def asL1 (d : D) (S : Store) : Option (List D) := match d with
  | .lst xs => some xs
  | .loc n => match S[n]? with | some (.lst xs) => some xs | _ => none
  | _ => none
theorem RD.loc_at {n : Nat} {v : V} {b : Ob} (rs : RS K M S H) (h : RD K M H (.loc n) v) (e : S[n]? = some b) (nd : b ≠ .dead) : ∃ a, v = .ref a ∧ M.m[n]? = some (some a) ∧ RO K M H b a := by
  obtain ⟨a, ha, ro⟩ := rs.get e nd
  rw [RD] at h
  obtain ⟨x, h1, h2⟩ := h
  rw [ha] at h1
  cases h1
  exact ⟨a, h2 a rfl, ha, ro⟩
theorem asL1_rd {d : D} {v : V} {xs : List D} (rs : RS K M S H) (h : RD K M H d v) (e : asL1 d S = some xs) : ∃ a vs, v = .ref a ∧ H a = some (.lst vs) ∧ RDs K M H xs vs := by
  unfold asL1 at e
  split at e
  · cases e
    rw [RD] at h
    obtain ⟨a, vs, h1, h2, h3⟩ := h
    exact ⟨a, vs, h1, h2.1, h3⟩
  · split at e
    · cases e
      obtain ⟨a, h1, _, ⟨vs, h3, h4⟩⟩ := h.loc_at rs (by assumption) (by simp)
      exact ⟨a, vs, h1, h3, h4⟩
    · cases e
  · cases e
theorem asL_rd {d : D} {v : V} {xs : List D} (rs : RS K M S H) (h : RD K M H d v) (e : asL d S = some xs) : ∃ a vs, v = .ref a ∧ SqL K H a vs ∧ RDs K M H xs vs := by
  unfold asL at e
  split at e
  · cases e
    rw [RD] at h
    obtain ⟨a, vs, h1, h2, h3⟩ := h
    exact ⟨a, vs, h1, .of h2.1, h3⟩
  · cases e
    rw [RD] at h
    obtain ⟨a, vs, h1, h2, h3⟩ := h
    exact ⟨a, vs, h1, h2.sq, h3⟩
  · split at e
    · cases e
      obtain ⟨a, h1, _, ⟨vs, h3, h4⟩⟩ := h.loc_at rs (by assumption) (by simp)
      exact ⟨a, vs, h1, .of h3, h4⟩
    · cases e
  · cases e
theorem asT_rd {d : D} {v : V} {xs : List D} (h : RD K M H d v) (e : asT d = some xs) : ∃ a vs, v = .ref a ∧ SqT K H a vs ∧ RDs K M H xs vs := by
  unfold asT at e
  split at e
  · cases e
    rw [RD] at h
    obtain ⟨a, vs, h1, h2, h3⟩ := h
    exact ⟨a, vs, h1, .of h2, h3⟩
  · cases e
    rw [RD] at h
    obtain ⟨a, vs, h1, h2, h3⟩ := h
    exact ⟨a, vs, h1, h2.sq, h3⟩
  · cases e
end

section
variable {X : Cx} {W : Wish} {a b c e : Expr} {es : List Expr} {pos : Pos}
/-! ### names, constants -/
def mVar (i : Nat) : Cm D := fun env S => match env[i]? with
  | some (some d) => ok d S
  | _ => none
def mC (d : D) : Cm D := fun _ S => ok d S
theorem ie_var (i : Nat) {x : Str} (hN : X.N[i]? = some x := by rfl) (hv : Vis X.env.scope x := by first | exact Or.inl rfl | exact Or.inr (Or.inl rfl) | exact Or.inr (Or.inr rfl)) (hd : (x == ("__debug__" : Str)) = false := by decide)
    (hcd : (x == ("__classdict__" : Str)) = false := by decide) : IE X W (.Name x pos) (mVar i) := PE_weak (pe_var hN hv hd hcd) fun σ H Q h => by
  obtain ⟨env, S, M, re, rs, go⟩ := h
  unfold mVar at go
  split at go
  · rename_i d e
    obtain ⟨v, h1, h2⟩ := re.at' i d e
    exact ⟨v, h1, go.ok rs v h2⟩
  · obtain ⟨_, _, e, _⟩ := go
    cases e
theorem ie_c {d : D} {v : V} (h : PE X e (tC v)) (r : ∀ M H, RD X.K M H d v) : IE X W e (mC d) := PE_weak h fun σ H Q h => by
  obtain ⟨env, S, M, re, rs, go⟩ := h
  exact go.ok rs v (r M H)
theorem ie_int {i j} : IE X W (.Constant (.int i) j pos) (mC (.int i)) := ie_c pe_int fun _ _ => .int i
theorem ie_bl {i j} : IE X W (.Constant (.bool i) j pos) (mC (.bl i)) := ie_c pe_bl fun _ _ => .bl i
theorem ie_str {i j} : IE X W (.Constant (.str i) j pos) (mC (.str i)) := ie_c pe_str fun _ _ => .str i
theorem ie_non {j} : IE X W (.Constant .none j pos) (mC .non) := ie_c pe_non fun _ _ => .non

/-! ### two places -/
def mBin (op : D → D → Store → Res D) (f g : Cm D) : Cm D := fun env S => (f env S).bind fun x S1 => (g env S1).bind fun y S2 => op x y S2
/-- the operation op on data is carried by the reading r on values -/
def OpC (K : PySem.W.Frag) (W : Wish) (r : R2) (op : D → D → Store → Res D) : Prop :=
  ∀ (x y : D) (v w : V) (M : Mp) (S : Store) (H : Hp) (Q : VK), RS K M S H → RD K M H x v → RD K M H y w → Go K W M H (op x y S) (fun d M' H' _ => ∀ u, RD K M' H' d u → Q u H') → r v w H Q
theorem op_weak {K : PySem.W.Frag} {r : R2} {op : D → D → Store → Res D} {f g : Cm D} (hc : OpC K W r op) : ∀ σ H Q, tD K W (mBin op f g) σ H Q → tOp r (tD K W f) (tD K W g) σ H Q := fun σ H Q h => by
  obtain ⟨env, S, M, re, rs, go⟩ := h
  refine ⟨env, S, M, re, rs, (Go.bind go).imp fun x M1 H1 S1 s1 rs1 g1 v rv => ?_⟩
  refine ⟨env, S1, M1, re.mono s1, rs1, (Go.bind g1).imp fun y M2 H2 S2 s2 rs2 g2 w rw' => ?_⟩
  exact hc x y v w M2 S2 H2 Q rs2 (rv.mono s2) rw' g2
variable {f g : Cm D} {r : R2} {opf : D → D → Store → Res D}
theorem ie_op {op : Operator} (ho : OpR X (binaryOp op) r) (hc : OpC X.K W r opf) (ha : IE X W a f) (hb : IE X W b g) : IE X W (.BinOp a op b pos) (mBin opf f g) :=
  PE_weak (pe_op ho ha hb) (op_weak hc)
theorem ie_cmp {op : CmpOp} (ho : OpR X (compareOp op) r) (hc : OpC X.K W r opf) (hm : behindInMarks op b = false) (ha : IE X W a f) (hb : IE X W b g) : IE X W (.Compare a [op] [b] pos) (mBin opf f g) :=
  PE_weak (pe_cmpR ho ha hb hm) (op_weak hc)
theorem ie_ix (ho : IxR X r) (hc : OpC X.K W r opf) (ha : IE X W a f) (hb : IE X W b g) (hs : PlainIx b := by first | exact fun _ _ => rfl | (intro _ _; rfl)) : IE X W (.Subscript a b pos) (mBin opf f g) :=
  PE_weak (pe_ix ho ha hb hs) (op_weak hc)
theorem OpC.or {K : PySem.W.Frag} {r r' : R2} {o1 : D → D → Store → Res D} (h : ∀ (x y : D) (v w : V) (M : Mp) (S : Store) (H : Hp) (Q : VK), RS K M S H → RD K M H x v → RD K M H y w → Go K W M H (o1 x y S) (fun d M' H' _ => ∀ u, RD K M' H' d u → Q u H') → r v w H Q ∨ r' v w H Q) :
    OpC K W (fun x y H Q => r x y H Q ∨ r' x y H Q) o1 := h
/-- a test that is a comparison -/
def mTst (f : Cm D) : Cm Bool := fun env S => (f env S).bind fun d S1 => match d with
  | .bl b => ok b S1
  | _ => none
theorem Go.none_elim {α : Type} {K : PySem.W.Frag} {W : Wish} {M : Mp} {H : Hp} {P : α → Mp → Hp → Store → Prop} {C : Prop} (h : Go K W M H (none : Res α) P) : C := by
  obtain ⟨_, _, e, _⟩ := h
  cases e
theorem it_cmp {op : CmpOp} (ho : OpR X (compareOp op) r) (hc : OpC X.K W r opf) (hm : behindInMarks op b = false) (ha : IE X W a f) (hb : IE X W b g) : IT X W (.Compare a [op] [b] pos) (mTst (mBin opf f g)) :=
  PT_weak (pt_cmpR ho ha hb hm) fun σ H Q h => by
    obtain ⟨env, S, M, re, rs, go⟩ := h
    refine op_weak hc σ H _ ⟨env, S, M, re, rs, (Go.bind go).imp fun d M1 H1 S1 s1 rs1 g1 v rv => ?_⟩
    split at g1
    · exact ⟨_, rv.bl_inv, g1.ok rs1⟩
    · exact g1.none_elim

/-! ### one place -/
def mUn (op : D → Store → Res D) (f : Cm D) : Cm D := fun env S => (f env S).bind fun x S1 => op x S1
theorem ie_un {op : UnaryOp} {r : V → Hp → VK → Prop} {opf : D → Store → Res D} (ho : UnR X (unaryOp op) r)
    (hc : ∀ (x : D) (v : V) (M : Mp) (S : Store) (H : Hp) (Q : VK), RS X.K M S H → RD X.K M H x v → Go X.K W M H (opf x S) (fun d M' H' _ => ∀ u, RD X.K M' H' d u → Q u H') → r v H Q) (ha : IE X W a f) : IE X W (.UnaryOp op a pos) (mUn opf f) :=
  PE_weak (pe_un ho ha) fun σ H Q h => by
    obtain ⟨env, S, M, re, rs, go⟩ := h
    exact ⟨env, S, M, re, rs, (Go.bind go).imp fun x M1 H1 S1 s1 rs1 g1 v rv => hc x v M1 S1 H1 Q rs1 rv g1⟩

/-! ### truth -/
def truD (d : D) (S : Store) : Option Bool := match d with
  | .non => some false
  | .bl b => some b
  | .int i => some (i != 0)
  | .str x => if x.length ≤ sizeLine then some ((x.length : Int) != 0) else none
  | .tup xs => some (!xs.isEmpty)
  | .ft xs => some (!xs.isEmpty)
  | .lst xs => some (!xs.isEmpty)
  | .fz xs => some (!xs.isEmpty)
  | .loc n => match S[n]? with
    | some (.lst xs) => some (!xs.isEmpty)
    | some (.dk kvs) => some (!kvs.isEmpty)
    | _ => none
  | _ => none
theorem zip_empty {α β : Type} {ks : List α} {vs : List β} (h : ks.length = vs.length) : (ks.zip vs).isEmpty = ks.isEmpty := by
  cases ks with
  | nil => rfl
  | cons k ks => cases vs with
    | nil => simp at h
    | cons v vs => rfl
theorem RDs.isEmpty {K : PySem.W.Frag} {M : Mp} {H : Hp} {ds : List D} {vs : List V} (h : RDs K M H ds vs) : vs.isEmpty = ds.isEmpty := by
  cases ds with
  | nil => rw [h.nil_inv]; rfl
  | cons d ds => obtain ⟨v, ws, rfl, _, _⟩ := h.cons_inv; rfl
theorem truD_rd {K : PySem.W.Frag} {M : Mp} {S : Store} {H : Hp} {d : D} {v : V} {k : Bool} (rs : RS K M S H) (h : RD K M H d v) (e : truD d S = some k) : TruV K v H k := by
  unfold truD at e
  split at e
  · rw [h.non_inv]; cases e; rfl
  · rw [h.bl_inv]; cases e; rfl
  · rw [h.int_inv]; cases e; rfl
  · rw [h.str_inv]
    split at e
    · cases e; exact ⟨by assumption, rfl⟩
    · cases e
  · cases e
    rw [RD] at h
    obtain ⟨a, vs, rfl, h2, h3⟩ := h
    exact .inr (.inl ⟨vs, .of h2, by rw [h3.isEmpty]⟩)
  · cases e
    rw [RD] at h
    obtain ⟨a, vs, rfl, h2, h3⟩ := h
    exact .inr (.inl ⟨vs, h2.sq, by rw [h3.isEmpty]⟩)
  · cases e
    rw [RD] at h
    obtain ⟨a, vs, rfl, h2, h3⟩ := h
    exact .inl ⟨vs, .of h2.1, by rw [h3.isEmpty]⟩
  · cases e
    rw [RD] at h
    obtain ⟨a, vs, rfl, h2, h3⟩ := h
    exact .inl ⟨vs, h2.sq, by rw [h3.isEmpty]⟩
  · split at e
    · cases e
      obtain ⟨a, rfl, _, ⟨vs, h3, h4⟩⟩ := h.loc_at rs (by assumption) (by simp)
      exact .inl ⟨vs, .of h3, by rw [h4.isEmpty]⟩
    · rename_i kvs _
      cases e
      obtain ⟨a, rfl, _, ⟨vs, h3, h4⟩⟩ := h.loc_at rs (by assumption) (by simp)
      refine .inr (.inr ⟨_, h3, ?_⟩)
      have hl := h4.length
      rw [zip_empty (by simpa using hl)]
      cases kvs <;> rfl
    · cases e
  · cases e
def mTru (f : Cm D) : Cm Bool := fun env S => (f env S).bind fun d S1 => match truD d S1 with
  | some b => ok b S1
  | none => none
theorem tru_weak {K : PySem.W.Frag} : ∀ σ H (Q : Bool → Hp → Prop), tT K W (mTru f) σ H Q → tD K W f σ H fun x H' => ∃ k, TruV K x H' k ∧ Q k H' := fun σ H Q h => by
  obtain ⟨env, S, M, re, rs, go⟩ := h
  refine ⟨env, S, M, re, rs, (Go.bind go).imp fun d M1 H1 S1 s1 rs1 g1 v rv => ?_⟩
  split at g1
  · exact ⟨_, truD_rd rs1 rv (by assumption), g1.ok rs1⟩
  · exact g1.none_elim
theorem it_tru (ha : IE X W a f) (he : ∀ whole, isTrue a X.env whole = (do let v ← whole; standAt a.pos; holding [v] (truthy v)) := by intro _; rfl) : IT X W a (mTru f) :=
  PT_weak (pt_truth ha he) tru_weak
variable {tf tg : Cm Bool} {rest : List Expr}
def mAnd (f g : Cm Bool) : Cm Bool := fun env S => (f env S).bind fun b S1 => if b = true then g env S1 else ok false S1
def mOr (f g : Cm Bool) : Cm Bool := fun env S => (f env S).bind fun b S1 => if b = true then ok true S1 else g env S1
def mNot (f : Cm Bool) : Cm Bool := fun env S => (f env S).bind fun b S1 => ok (!b) S1
/-- a test whatever stands around it -/
abbrev IW (X : Cx) (W : Wish) (e : Expr) (f : Cm Bool) : Prop := PW X e (tT X.K W f)
theorem PW_weak {X : Cx} {e : Expr} {t t' : TT} (h : PW X e t) (w : ∀ σ H Q, t' σ H Q → t σ H Q) : PW X e t' := ⟨fun wh pins s σ H Q I q => h.run wh pins s σ H Q I (w σ H Q q)⟩
theorem iw_and1 (ha : IT X W a tf) : IW X W (.BoolOp .And [a] pos) tf := pw_and1 ha
theorem iw_or1 (ha : IT X W a tf) : IW X W (.BoolOp .Or [a] pos) tf := pw_or1 ha
theorem iw_and (ha : IT X W a tf) (hb : IW X W (.BoolOp .And (b :: rest) pos) tg) : IW X W (.BoolOp .And (a :: b :: rest) pos) (mAnd tf tg) :=
  PW_weak (pw_and ha hb) fun σ H Q h => by
    obtain ⟨env, S, M, re, rs, go⟩ := h
    refine ⟨env, S, M, re, rs, (Go.bind go).imp fun x M1 H1 S1 s1 rs1 g1 => ?_⟩
    cases x with
    | true => exact ⟨env, S1, M1, re.mono s1, rs1, g1⟩
    | false => exact g1.ok rs1
theorem iw_or (ha : IT X W a tf) (hb : IW X W (.BoolOp .Or (b :: rest) pos) tg) : IW X W (.BoolOp .Or (a :: b :: rest) pos) (mOr tf tg) :=
  PW_weak (pw_or ha hb) fun σ H Q h => by
    obtain ⟨env, S, M, re, rs, go⟩ := h
    refine ⟨env, S, M, re, rs, (Go.bind go).imp fun x M1 H1 S1 s1 rs1 g1 => ?_⟩
    cases x with
    | true => exact g1.ok rs1
    | false => exact ⟨env, S1, M1, re.mono s1, rs1, g1⟩
theorem it_w (h : IW X W e tf) : IT X W e tf := h.pt
theorem it_not (ha : IT X W a tf) : IT X W (.UnaryOp .Not a pos) (mNot tf) :=
  PT_weak (pt_not ha) fun σ H Q h => by
    obtain ⟨env, S, M, re, rs, go⟩ := h
    exact ⟨env, S, M, re, rs, (Go.bind go).imp fun x M1 H1 S1 s1 rs1 g1 => g1.ok rs1⟩
/-! .. as values -/
def mAndV (f g : Cm D) : Cm D := fun env S => (f env S).bind fun d S1 => match truD d S1 with
  | some true => g env S1
  | some false => ok d S1
  | none => none
def mOrV (f g : Cm D) : Cm D := fun env S => (f env S).bind fun d S1 => match truD d S1 with
  | some false => g env S1
  | some true => ok d S1
  | none => none
def mNotV (f : Cm D) : Cm D := fun env S => (f env S).bind fun d S1 => match truD d S1 with
  | some b => ok (.bl (!b)) S1
  | none => none
theorem ie_one {op} (h : IE X W a f) : IE X W (.BoolOp op [a] pos) f := pe_one h
theorem ie_and (ha : IE X W a f) (hb : IE X W (.BoolOp .And (b :: rest) pos) g) : IE X W (.BoolOp .And (a :: b :: rest) pos) (mAndV f g) :=
  PE_weak (pe_andT ha hb) fun σ H Q h => by
    obtain ⟨env, S, M, re, rs, go⟩ := h
    refine ⟨env, S, M, re, rs, (Go.bind go).imp fun d M1 H1 S1 s1 rs1 g1 v rv => ?_⟩
    split at g1
    · exact ⟨true, truD_rd rs1 rv (by assumption), by rw [if_pos rfl]; exact ⟨env, S1, M1, re.mono s1, rs1, g1⟩⟩
    · exact ⟨false, truD_rd rs1 rv (by assumption), by rw [if_neg (by decide)]; exact g1.ok rs1 v rv⟩
    · exact g1.none_elim
theorem ie_or (ha : IE X W a f) (hb : IE X W (.BoolOp .Or (b :: rest) pos) g) : IE X W (.BoolOp .Or (a :: b :: rest) pos) (mOrV f g) :=
  PE_weak (pe_orT ha hb) fun σ H Q h => by
    obtain ⟨env, S, M, re, rs, go⟩ := h
    refine ⟨env, S, M, re, rs, (Go.bind go).imp fun d M1 H1 S1 s1 rs1 g1 v rv => ?_⟩
    split at g1
    · exact ⟨false, truD_rd rs1 rv (by assumption), by rw [if_neg (by decide)]; exact ⟨env, S1, M1, re.mono s1, rs1, g1⟩⟩
    · exact ⟨true, truD_rd rs1 rv (by assumption), by rw [if_pos rfl]; exact g1.ok rs1 v rv⟩
    · exact g1.none_elim
theorem ie_not (ha : IE X W a f) : IE X W (.UnaryOp .Not a pos) (mNotV f) :=
  PE_weak (pe_notT ha) fun σ H Q h => by
    obtain ⟨env, S, M, re, rs, go⟩ := h
    refine ⟨env, S, M, re, rs, (Go.bind go).imp fun d M1 H1 S1 s1 rs1 g1 v rv => ?_⟩
    split at g1
    · exact ⟨_, truD_rd rs1 rv (by assumption), g1.ok rs1 _ (.bl _)⟩
    · exact g1.none_elim
def mIf (t : Cm Bool) (f g : Cm D) : Cm D := fun env S => (t env S).bind fun b S1 => if b = true then f env S1 else g env S1
theorem ie_if (hc : IT X W c tf) (ha : IE X W a f) (hb : IE X W b g) : IE X W (.IfExp c a b pos) (mIf tf f g) :=
  PE_weak (pe_ifExp hc ha hb) fun σ H Q h => by
    obtain ⟨env, S, M, re, rs, go⟩ := h
    refine ⟨env, S, M, re, rs, (Go.bind go).imp fun x M1 H1 S1 s1 rs1 g1 => ?_⟩
    cases x with
    | true => exact ⟨env, S1, M1, re.mono s1, rs1, g1⟩
    | false => exact ⟨env, S1, M1, re.mono s1, rs1, g1⟩

/-! ### argument lists, displays -/
variable {fa : Cm (List D)}
def mNil : Cm (List D) := fun _ S => ok [] S
def mCons (f : Cm D) (g : Cm (List D)) : Cm (List D) := fun env S => (f env S).bind fun d S1 => (g env S1).bind fun ds S2 => ok (d :: ds) S2
theorem ia_nil : IA X W [] mNil := PA_weak pa_nil fun σ H Q h => by
  obtain ⟨env, S, M, re, rs, go⟩ := h
  exact go.ok rs [] .nil
theorem ia_cons (ha : IE X W e f) (hr : IA X W es fa) (hs : starEach (e :: es) X.env = (false, eval e X.env) :: starEach es X.env := by rfl) : IA X W (e :: es) (mCons f fa) :=
  PA_weak (pa_cons ha hr hs) fun σ H Q h => by
    obtain ⟨env, S, M, re, rs, go⟩ := h
    refine ⟨env, S, M, re, rs, (Go.bind go).imp fun d M1 H1 S1 s1 rs1 g1 v rv => ?_⟩
    refine ⟨env, S1, M1, re.mono s1, rs1, (Go.bind g1).imp fun ds M2 H2 S2 s2 rs2 g2 vs rvs => ?_⟩
    exact g2.ok rs2 _ (.cons (rv.mono s2) rvs)
def mTup (fa : Cm (List D)) : Cm D := fun env S => (fa env S).bind fun ds S1 => if ds.length ≤ sizeLine then ok (.tup ds) S1 else none
/-- a new object: its data is known to the heap as it was and as it is -/
theorem RD.new_tup {K : PySem.W.Frag} {M : Mp} {S : Store} {H : Hp} {ds : List D} {vs : List V} {p : Addr} (rs : RS K M S H) (r : RDs K M H ds vs) (hp : H p = none) : RD K M (upd H p (.tup vs)) (.tup ds) (.ref p) := by
  rw [RD]
  exact ⟨p, vs, rfl, upd_same, r.mono (Stp.new rs hp)⟩
theorem RD.new_lst {K : PySem.W.Frag} {M : Mp} {S : Store} {H : Hp} {ds : List D} {vs : List V} {p : Addr} (rs : RS K M S H) (r : RDs K M H ds vs) (hp : H p = none) : RD K M (upd H p (.lst vs)) (.lst ds) (.ref p) := by
  rw [RD]
  exact ⟨p, vs, rfl, ⟨upd_same, rs.fresh hp⟩, r.mono (Stp.new rs hp)⟩
theorem Go.okM {α : Type} {K : PySem.W.Frag} {W : Wish} {M : Mp} {H : Hp} {a : α} {S : Store} {P : α → Mp → Hp → Store → Prop} (h : Go K W M H (Md.ok a S) P) {M' : Mp} {H' : Hp} (s : Stp M H M' H') (rs : RS K M' S H') : P a M' H' S := by
  obtain ⟨r, S', e, h⟩ := h
  cases e
  exact h M' H' s rs
theorem ie_tup {k : Nat} (ha : IA X W es fa) : IE X W (.Tuple es k pos) (mTup fa) := PE_weak (pe_tup ha) fun σ H Q h => by
  obtain ⟨env, S, M, re, rs, go⟩ := h
  refine ⟨env, S, M, re, rs, (Go.bind go).imp fun ds M1 H1 S1 s1 rs1 g1 vs rvs => ?_⟩
  split at g1
  · rename_i hl
    exact ⟨by rw [← rvs.length]; exact hl, fun p hp => g1.okM (Stp.new rs1 hp) (rs1.new hp) _ (.new_tup rs1 rvs hp)⟩
  · exact g1.none_elim
def mSized (fa : Cm (List D)) : Cm (List D) := fun env S => (fa env S).bind fun ds S1 => if ds.length ≤ sizeLine then ok ds S1 else none
/-- what a new list, laid at the end, needs -/
theorem tL_end {K : PySem.W.Frag} {W : Wish} {ds : List D} {S : Store} {M : Mp} {H : Hp} {Q : VK} {vs : List V} (rs : RS K M S H) (r : RDs K M H ds vs) (h : LstP K W M H Q (ok ds S)) : ∀ p, H p = none → Q (.ref p) (upd H p (.lst vs)) := fun p hp => by
  obtain ⟨r', S', e, h⟩ := h
  cases e
  exact h p M.m vs _ (Step.res rs hp) (fun a q => (Stp.new rs hp).rk a q) (rs.res hp) hp upd_same (RDs.mono0 (Step.res rs hp) _ _ r)
/-- the parts of tL, from a run whose meaning is m and then an end -/
theorem tL_go {α : Type} {K : PySem.W.Frag} {W : Wish} {M : Mp} {H : Hp} {m : Res α} {k : α → Store → Res (List D)} {Q : VK} (h : LstP K W M H Q (m.bind k)) :
    Go K W M H m fun a M1 H1 S1 => LstP K W M1 H1 Q (k a S1) := by
  obtain ⟨r, S', e, h⟩ := h
  cases m with
  | none => cases e
  | some q =>
    obtain ⟨c, S1⟩ := q
    cases c with
    | error x =>
      have e : some (Except.error x, S1) = some (r, S') := e
      cases e
      exact ⟨.error x, _, rfl, h⟩
    | ok a =>
      refine ⟨.ok a, S1, rfl, fun M1 H1 s rs => ⟨r, S', e, ?_⟩⟩
      cases r with
      | ok ds => exact fun p m' vs H' s' k' rs' hp hl rd => h p m' vs H' (by rw [s.rr] at s'; exact s.toStep.trans s') (fun a q => (k' a (by rw [s.rr]; exact q)).trans (s.rk a q)) (by rw [← s.rr]; exact rs') (s.liv p hp) hl (by rw [← s.rr]; exact rd)
      | error x => exact fun M' H' s' rs' => h M' H' (s.trans s') rs'
theorem LstP.none_elim {K : PySem.W.Frag} {W : Wish} {M : Mp} {H : Hp} {Q : VK} {C : Prop} (h : LstP K W M H Q none) : C := by
  obtain ⟨_, _, e, _⟩ := h
  cases e
theorem il_lst (ha : IA X W es fa) : IL X W (.List es pos) (mSized fa) := PE_weak (pe_lst ha) fun σ H Q h => by
  obtain ⟨env, S, M, re, rs, h⟩ := h
  refine ⟨env, S, M, re, rs, (tL_go h).imp fun ds M1 H1 S1 s1 rs1 g1 vs rvs => ?_⟩
  split at g1
  · rename_i hl
    exact ⟨by rw [← rvs.length]; exact hl, tL_end rs1 rvs g1⟩
  · exact g1.none_elim
/-- a new list as a value that is not changed any more -/
def mFrz (f : Cm (List D)) : Cm D := fun env S => (f env S).bind fun ds S1 => ok (.lst ds) S1
/-- .. as the store's newest object -/
def mMut (f : Cm (List D)) : Cm D := fun env S => (f env S).bind fun ds S1 => ok (.loc S1.length) (S1 ++ [.lst ds])
theorem frz_weak {K : PySem.W.Frag} {fa : Cm (List D)} : ∀ σ H Q, tD K W (mFrz fa) σ H Q → tL K W fa σ H Q := fun σ H Q h => by
  obtain ⟨env, S, M, re, rs, r, S', ef, go⟩ := h
  cases hf : fa env S with
  | none => unfold mFrz at ef; rw [hf] at ef; cases ef
  | some q =>
    obtain ⟨c, S1⟩ := q
    unfold mFrz at ef
    rw [hf] at ef
    cases c with
    | error x =>
      cases ef
      exact ⟨env, S, M, re, rs, .error x, _, hf, go⟩
    | ok ds =>
      cases ef
      refine ⟨env, S, M, re, rs, .ok ds, _, hf, fun p m' vs H' s k' rs' hp hl rd => ?_⟩
      refine go ⟨m', M.r⟩ H' ⟨s.free, rfl, k'⟩ rs'.free (.ref p) ?_
      rw [RD]
      refine ⟨p, vs, rfl, ⟨hl, fun z => ?_⟩, RDs.mono0 Step.freed _ _ rd⟩
      rcases z with z | z
      · exact rs'.rdis p List.mem_cons_self z
      · exact (rs.rtrk p z).1 hp
theorem ie_frz (h : IL X W e fa) : IE X W e (mFrz fa) := PE_weak h frz_weak
theorem mut_weak {K : PySem.W.Frag} {fa : Cm (List D)} : ∀ σ H Q, tD K W (mMut fa) σ H Q → tL K W fa σ H Q := fun σ H Q h => by
  obtain ⟨env, S, M, re, rs, r, S', ef, go⟩ := h
  cases hf : fa env S with
  | none => unfold mMut at ef; rw [hf] at ef; cases ef
  | some q =>
    obtain ⟨c, S1⟩ := q
    unfold mMut at ef
    rw [hf] at ef
    cases c with
    | error x =>
      cases ef
      exact ⟨env, S, M, re, rs, .error x, _, hf, go⟩
    | ok ds =>
      cases ef
      refine ⟨env, S, M, re, rs, .ok ds, _, hf, fun p m' vs H' s k' rs' hp hl rd => ?_⟩
      refine go ⟨m' ++ [some p], M.r⟩ H' ⟨s.own hp, rfl, k'⟩ (rs'.own (by simp) ⟨vs, hl, rd⟩ fun z => (rs.rtrk p z).1 hp) (.ref p) ?_
      rw [RD]
      refine ⟨some p, ?_, fun a e => by cases e; rfl⟩
      have hl' : m'.length = S1.length := rs'.len
      show (m' ++ [some p])[S1.length]? = some (some p)
      rw [← hl', List.getElem?_append_right (Nat.le_refl _)]
      simp
theorem ie_mut (h : IL X W e fa) : IE X W e (mMut fa) := PE_weak h mut_weak
end
end Md

/-! MdStmt: the rules of statements, of targets, of loops and list comprehensions; calls of the program's own defs. -/
namespace Md
open PySem PySem.Spec PyProof.Rows L2

section
variable {X : Cx} {W : Wish} {a b c e : Expr} {es : List Expr} {pos : Pos} {st : Stmt} {sts : List Stmt}
variable {f g : Cm D} {tf : Cm Bool} {sf sg : Sm}
/-! ### blocks -/
def mSkip : Sm := fun env S => ok (.nx env) S
def mSeq (f g : Sm) : Sm := fun env S => (f env S).bind fun o S1 => match o with
  | .nx env1 => g env1 S1
  | o => ok o S1
theorem is_nil : ISs X W [] mSkip := PSs_weak pss_nil fun D' σ H h => by
  obtain ⟨env, S, M, re, rs, go⟩ := h
  exact go.ok rs σ re
theorem is_cons (h1 : IS X W st sf) (h2 : ISs X W sts sg) : ISs X W (st :: sts) (mSeq sf sg) := PSs_weak (pss_cons h1 h2) fun D' σ H h => by
  obtain ⟨env, S, M, re, rs, go⟩ := h
  refine ⟨env, S, M, re, rs, (Go.bind go).imp fun o M1 H1 S1 s1 rs1 g1 => ?_⟩
  cases o with
  | nx env1 => exact fun σ' re' => ⟨env1, S1, M1, re', rs1, g1⟩
  | ret d => exact g1.ok rs1
  | brk env1 => exact g1.ok rs1
  | cnt env1 => exact g1.ok rs1
theorem is_one (h1 : IS X W st sf) : ISs X W [st] sf := pss_one h1
def mBrk : Sm := fun env S => ok (.brk env) S
def mCnt : Sm := fun env S => ok (.cnt env) S
theorem is_pass : IS X W (.Pass pos) mSkip := PS_weak ps_pass fun D' σ H h => by
  obtain ⟨env, S, M, re, rs, go⟩ := h
  exact go.ok rs σ re
theorem is_brk : IS X W (.Break pos) mBrk := PS_weak ps_break fun D' σ H h => by
  obtain ⟨env, S, M, re, rs, go⟩ := h
  exact go.ok rs σ re
theorem is_cnt : IS X W (.Continue pos) mCnt := PS_weak ps_continue fun D' σ H h => by
  obtain ⟨env, S, M, re, rs, go⟩ := h
  exact go.ok rs σ re
def mDrop (f : Cm D) : Sm := fun env S => (f env S).bind fun _ S1 => ok (.nx env) S1
theorem is_expr (he : IE X W e f) (hs : swapsWith e none pos.line X.env = pure false := by rfl) : IS X W (.Expr e pos) (mDrop f) := PS_weak (ps_expr he hs) fun D' σ H h => by
  obtain ⟨env, S, M, re, rs, go⟩ := h
  exact ⟨env, S, M, re, rs, (Go.bind go).imp fun d M1 H1 S1 s1 rs1 g1 v rv => g1.ok rs1 σ (re.mono s1)⟩
def mRet (f : Cm D) : Sm := fun env S => (f env S).bind fun d S1 => ok (.ret d) S1
theorem is_ret (he : IE X W e f) : IS X W (.Return (some e) pos) (mRet f) := PS_weak (ps_ret he) fun D' σ H h => by
  obtain ⟨env, S, M, re, rs, go⟩ := h
  exact ⟨env, S, M, re, rs, (Go.bind go).imp fun d M1 H1 S1 s1 rs1 g1 v rv => g1.ok rs1 v rv⟩
def mRetN : Sm := fun _ S => ok (.ret .non) S
theorem is_retN : IS X W (.Return none pos) mRetN := PS_weak ps_retN fun D' σ H h => by
  obtain ⟨env, S, M, re, rs, go⟩ := h
  exact go.ok rs _ .non
def mIte (t : Cm Bool) (f g : Sm) : Sm := fun env S => (t env S).bind fun b S1 => if b = true then f env S1 else g env S1
theorem is_if {p q : List Stmt} (hc : IT X W c tf) (ha : ISs X W p sf) (hb : ISs X W q sg) : IS X W (.If c p q pos) (mIte tf sf sg) := PS_weak (ps_if hc ha hb) fun D' σ H h => by
  obtain ⟨env, S, M, re, rs, go⟩ := h
  refine ⟨env, S, M, re, rs, (Go.bind go).imp fun b M1 H1 S1 s1 rs1 g1 => ?_⟩
  cases b with
  | true => exact ⟨env, S1, M1, re.mono s1, rs1, g1⟩
  | false => exact ⟨env, S1, M1, re.mono s1, rs1, g1⟩

/-! ### targets: names and tuples of targets -/
inductive Pt where
  | nm (i : Nat) | tp (ps : List Pt)
mutual
def bindP : Pt → D → Env → Option Env
  | .nm i, d, env => some (env.set i (some d))
  | .tp ps, d, env => match asT d with
    | some ds => bindPs ps ds env
    | none => none
def bindPs : List Pt → List D → Env → Option Env
  | [], [], env => some env
  | p :: ps, d :: ds, env => match bindP p d env with
    | some env1 => bindPs ps ds env1
    | none => none
  | _, _, _ => none
end
mutual
def slotsP : Pt → List Nat
  | .nm i => [i]
  | .tp ps => slotsPs ps
def slotsPs : List Pt → List Nat
  | [] => []
  | p :: ps => slotsP p ++ slotsPs ps
end
/-- σ' is σ but for the slots vs -/
def But (vs : List Nat) (σ σ' : L2.St) : Prop := σ'.length = σ.length ∧ ∀ i, i ∉ vs → σ'[i]? = σ[i]?
theorem But.refl {vs : List Nat} {σ : L2.St} : But vs σ σ := ⟨rfl, fun _ _ => rfl⟩
theorem But.trans {vs ws : List Nat} {σ σ1 σ2 : L2.St} (a : But vs σ σ1) (b : But ws σ1 σ2) : But (vs ++ ws) σ σ2 :=
  ⟨b.1.trans a.1, fun i h => (b.2 i fun z => h (List.mem_append_right _ z)).trans (a.2 i fun z => h (List.mem_append_left _ z))⟩
def tG (K : PySem.W.Frag) (p : Pt) : TG := fun v σ H Q => ∃ env S M d env', REnv K M H env σ ∧ RS K M S H ∧ RD K M H d v ∧ bindP p d env = some env' ∧ ∀ σ', REnv K M H env' σ' → But (slotsP p) σ σ' → Q σ' H
def tGs (K : PySem.W.Frag) (ps : List Pt) : TGs := fun vs σ H Q => ∃ env S M ds env', REnv K M H env σ ∧ RS K M S H ∧ RDs K M H ds vs ∧ bindPs ps ds env = some env' ∧ ∀ σ', REnv K M H env' σ' → But (slotsPs ps) σ σ' → Q σ' H
theorem PG_weak {X : Cx} {e : Expr} {t t' : TG} (h : PG X e t) (w : ∀ v σ H Q, t' v σ H Q → t v σ H Q) : PG X e t' := ⟨fun pins s σ H v u Q I r q => h.run pins s σ H v u Q I r (w v σ H Q q)⟩
theorem PGs_weak {X : Cx} {e : List Expr} {t t' : TGs} (h : PGs X e t) (w : ∀ v σ H Q, t' v σ H Q → t v σ H Q) : PGs X e t' := ⟨fun pins s σ H v u Q I r q => h.run pins s σ H v u Q I r (w v σ H Q q)⟩
abbrev IG (X : Cx) (e : Expr) (p : Pt) : Prop := PG X e (tG X.K p)
abbrev IGs (X : Cx) (es : List Expr) (ps : List Pt) : Prop := PGs X es (tGs X.K ps)
theorem ig_name (i : Nat) {x : Str} (hN : X.N.Nodup) (hi : X.N[i]? = some x := by rfl) (hx : Loc X.env.scope x := by first | exact Or.inl rfl | exact Or.inr rfl) (hf : X.fn x = true ∨ X.env.scope.names.lookup x = some .local := by first | exact .inl rfl | exact .inr rfl | assumption) : IG X (.Name x pos) (.nm i) :=
  PG_weak (pg_name hN hi hx hf) fun v σ H Q h => by
    obtain ⟨env, S, M, d, env', re, rs, rd, e, q⟩ := h
    rw [bindP] at e
    cases e
    refine q _ (re.set i rd) ⟨by simp, fun j h => ?_⟩
    have hj : i ≠ j := fun z => h (by rw [slotsP, z]; exact List.mem_cons_self)
    exact List.getElem?_set_ne hj
theorem igs_nil : IGs X [] [] := PGs_weak pgs_nil fun v σ H Q h => by
  obtain ⟨env, S, M, ds, env', re, rs, rd, e, q⟩ := h
  cases ds with
  | nil =>
    rw [bindPs] at e
    cases e
    exact ⟨rd.nil_inv, q σ re .refl⟩
  | cons d ds => rw [bindPs] at e <;> first | cases e | simp
theorem igs_cons {p : Pt} {ps : List Pt} (h1 : IG X e p) (h2 : IGs X es ps) (hs : (assignEach (e :: es) X.env).map (·.2) = assign e X.env :: (assignEach es X.env).map (·.2) := by rfl) : IGs X (e :: es) (p :: ps) :=
  PGs_weak (pgs_cons h1 h2 hs) fun v σ H Q h => by
    obtain ⟨env, S, M, ds, env', re, rs, rd, e, q⟩ := h
    cases ds with
    | nil => rw [bindPs] at e <;> first | cases e | simp
    | cons d ds =>
      obtain ⟨v1, vs, rfl, r1, r2⟩ := rd.cons_inv
      rw [bindPs] at e
      split at e
      · rename_i env1 e1
        refine ⟨v1, vs, rfl, env, S, M, d, env1, re, rs, r1, e1, fun σ1 re1 b1 => ?_⟩
        refine ⟨env1, S, M, ds, env', re1, rs, r2, e, fun σ2 re2 b2 => q σ2 re2 ?_⟩
        rw [slotsPs]
        exact b1.trans b2
      · cases e
theorem bindPs_len : ∀ {ps : List Pt} {ds : List D} {env env' : Env}, bindPs ps ds env = some env' → ds.length = ps.length
  | [], [], _, _, _ => rfl
  | [], _ :: _, _, _, h => by rw [bindPs] at h <;> first | cases h | simp
  | _ :: _, [], _, _, h => by rw [bindPs] at h <;> first | cases h | simp
  | p :: ps, d :: ds, env, env', h => by
    rw [bindPs] at h
    split at h
    · simp [bindPs_len h]
    · cases h
theorem ig_tup {ps : List Pt} {k : Nat} (hc : X.calm = true) (h : IGs X es ps) (hn : (assignEach es X.env).length = ps.length := by rfl) (hst : (assignEach es X.env).findIdx? (·.1) = none := by rfl) : IG X (.Tuple es k pos) (.tp ps) :=
  PG_weak (pg_tup hc h hn hst) fun v σ H Q h => by
    obtain ⟨env, S, M, d, env', re, rs, rd, e, q⟩ := h
    rw [bindP] at e
    split at e
    · rename_i ds e1
      obtain ⟨a, vs, rfl, h1, h2⟩ := asT_rd rd e1
      refine ⟨a, vs, rfl, h1, ?_, env, S, M, ds, env', re, rs, h2, e, fun σ' re' b => q σ' re' (by rw [slotsP]; exact b)⟩
      rw [← h2.length]
      exact bindPs_len e
    · cases e

/-! ### assignments -/
def mAsg (p : Pt) (f : Cm D) : Sm := fun env S => (f env S).bind fun d S1 => match bindP p d env with
  | some env' => ok (.nx env') S1
  | none => none
theorem asg_weak {K : PySem.W.Frag} {p : Pt} : ∀ D' σ H, tS K W (mAsg p f) D' σ H → tAsg (tD K W f) (tG K p) D' σ H := fun D' σ H h => by
  obtain ⟨env, S, M, re, rs, go⟩ := h
  refine ⟨env, S, M, re, rs, (Go.bind go).imp fun d M1 H1 S1 s1 rs1 g1 v rv => ?_⟩
  split at g1
  · rename_i env' e
    exact ⟨env, S1, M1, d, env', re.mono s1, rs1, rv, e, fun σ' re' _ => g1.ok rs1 σ' re'⟩
  · exact g1.none_elim
theorem is_set {p : Pt} {tg : Expr} (he : IE X W e f) (hg : IG X tg p) (hs : swapsWithSole [tg] e pos.line X.env = pure false := by rfl) (hw : swappedStores [tg] e X.env = pure none := by rfl)
    (h1 : (assignEach [tg] X.env).map (·.2) = [assign tg X.env] := by rfl) : IS X W (.Assign [tg] e pos) (mAsg p f) := PS_weak (ps_asg he hg hs hw h1) asg_weak
def mPar (i j : Nat) (fa : Cm (List D)) : Sm := fun env S => (fa env S).bind fun ds S1 => match ds with
  | [x, y] => ok (.nx ((env.set i (some x)).set j (some y))) S1
  | _ => none
theorem is_par {i j : Nat} {x y : Str} {fa : Cm (List D)} {px py pt : Pos} {kt k2 pt2} (hc : X.calm = true) (hN : X.N.Nodup) (ha : IA X W [a, b] fa) (hi : X.N[i]? = some x := by rfl) (hj : X.N[j]? = some y := by rfl) (hij : i ≠ j := by decide)
    (hx : X.env.scope.names.lookup x = some .local := by rfl) (hy : X.env.scope.names.lookup y = some .local := by rfl)
    (hw : swappedStores [.Tuple [.Name x px, .Name y py] kt pt] (.Tuple [a, b] k2 pt2) X.env = pure (some [x, y]) := by rfl)
    (hs : swapsWithSole [.Tuple [.Name x px, .Name y py] kt pt] (.Tuple [a, b] k2 pt2) pos.line X.env = pure false := by rfl) :
    IS X W (.Assign [.Tuple [.Name x px, .Name y py] kt pt] (.Tuple [a, b] k2 pt2) pos) (mPar i j fa) := PS_weak (ps_par hc hN hi hj hij hx hy ha hw hs) fun D' σ H h => by
  obtain ⟨env, S, M, re, rs, go⟩ := h
  refine ⟨env, S, M, re, rs, (Go.bind go).imp fun ds M1 H1 S1 s1 rs1 g1 vs rvs => ?_⟩
  split at g1
  · obtain ⟨v, ws, rfl, r1, r2⟩ := rvs.cons_inv
    obtain ⟨w, us, rfl, r3, r4⟩ := r2.cons_inv
    rw [r4.nil_inv]
    exact ⟨v, w, rfl, g1.ok rs1 _ (((re.mono s1).set i r1).set j r3)⟩
  · exact g1.none_elim
/-- o[i] = v -/
def mPut (op : D → D → D → Store → Res Unit) (ff fo fi : Cm D) : Sm := fun env S => (ff env S).bind fun v S1 => (fo env S1).bind fun o S2 => (fi env S2).bind fun i S3 => (op o i v S3).bind fun _ S4 => ok (.nx env) S4
def SetC (K : PySem.W.Frag) (W : Wish) (t : TSet) (op : D → D → D → Store → Res Unit) : Prop :=
  ∀ (o i v : D) (ov iv u : V) (M : Mp) (S : Store) (H : Hp) (Q : Hp → Prop), RS K M S H → RD K M H o ov → RD K M H i iv → RD K M H v u → Go K W M H (op o i v S) (fun _ _ H' _ => Q H') → t ov iv u H Q
theorem is_put {o i : Expr} {fo fi : Cm D} {t : TSet} {op : D → D → D → Store → Res Unit} {spos : Pos} (hset : PSet X t) (hC : SetC X.K W t op) (he : IE X W e f) (ho : IE X W o fo) (hi : IE X W i fi)
    (hs : swapsWithSole [.Subscript o i spos] e pos.line X.env = pure false := by rfl) (hw : swappedStores [.Subscript o i spos] e X.env = pure none := by rfl)
    (h1 : (assignEach [.Subscript o i spos] X.env).map (·.2) = [assign (.Subscript o i spos) X.env] := by rfl)
    (ha : ∀ v, assign (.Subscript o i spos) X.env v = (do
      let ov ← holding [v] (eval o X.env)
      let iv ← holding [v, ov] (eval i X.env)
      standAt spos
      holding [v, ov, iv] (setItem ov iv v)
      release [v, ov, iv] []) := by intro _; rfl) : IS X W (.Assign [.Subscript o i spos] e pos) (mPut op f fo fi) := PS_weak (ps_asg he (pg_sub ho hi hset ha) hs hw h1) fun D' σ H h => by
  obtain ⟨env, S, M, re, rs, go⟩ := h
  refine ⟨env, S, M, re, rs, (Go.bind go).imp fun d M1 H1 S1 s1 rs1 g1 v rv => ?_⟩
  refine ⟨env, S1, M1, re.mono s1, rs1, (Go.bind g1).imp fun od M2 H2 S2 s2 rs2 g2 ov ro => ?_⟩
  refine ⟨env, S2, M2, (re.mono s1).mono s2, rs2, (Go.bind g2).imp fun idd M3 H3 S3 s3 rs3 g3 iv ri => ?_⟩
  refine hC od idd d ov iv v M3 S3 H3 _ rs3 (ro.mono s3) ri ((rv.mono s2).mono s3) ((Go.bind g3).imp fun _ M4 H4 S4 s4 rs4 g4 => ?_)
  exact g4.ok rs4 σ ((((re.mono s1).mono s2).mono s3).mono s4)
/-- x op= e -/
def mAug (i : Nat) (op : D → D → Store → Res D) (f : Cm D) : Sm := fun env S => match env[i]? with
  | some (some x) => (f env S).bind fun y S1 => (op x y S1).bind fun z S2 => ok (.nx (env.set i (some z))) S2
  | _ => none
theorem is_aug {i : Nat} {x : Str} {op : Operator} {ti : TIp} {opf : D → D → Store → Res D} {pos' : Pos} (hN : X.N.Nodup) (ho : PIp X op ti) (hc : OpC X.K W ti opf) (he : IE X W e f) (hi : X.N[i]? = some x := by rfl) (hx : Loc X.env.scope x := by first | exact Or.inl rfl | exact Or.inr rfl)
    (hf : X.fn x = true ∨ X.env.scope.names.lookup x = some .local := by first | exact .inl rfl | exact .inr rfl | assumption) : IS X W (.AugAssign (.Name x pos') op e pos) (mAug i opf f) := PS_weak (ps_aug hN hi hx he ho hf) fun D' σ H h => by
  obtain ⟨env, S, M, re, rs, go⟩ := h
  unfold mAug at go
  split at go
  · rename_i d ed
    obtain ⟨v, e1, rv⟩ := re.at' i d ed
    refine ⟨v, e1, env, S, M, re, rs, (Go.bind go).imp fun y M1 H1 S1 s1 rs1 g1 w rw' => ?_⟩
    refine hc d y v w M1 S1 H1 _ rs1 (rv.mono s1) rw' ((Go.bind g1).imp fun z M2 H2 S2 s2 rs2 g2 u ru => ?_)
    exact g2.ok rs2 _ (((re.mono s1).mono s2).set i ru)
  · exact go.none_elim

/-! ### while -/
def mWhile (t : Cm Bool) (f : Sm) : Nat → Sm
  | 0, _, _ => none
  | n + 1, env, S => (t env S).bind fun b S1 => if b = true then (f env S1).bind fun o S2 => match o with
      | .nx env1 => mWhile t f n env1 S2
      | .cnt env1 => mWhile t f n env1 S2
      | .brk env1 => ok (.nx env1) S2
      | .ret d => ok (.ret d) S2
    else ok (.nx env) S1
theorem is_while {body : List Stmt} (n : Nat) (hp : PassesOwn (model X.prog X.w) X.A X.env X.xe) (hc : IT X W c tf) (hb : ISs X W body sf) : IS X W (.While c body [] pos) (mWhile tf sf n) := PS_weak (ps_while hp hc hb) fun D' σ H h => by
  obtain ⟨env, S, M, re, rs, go⟩ := h
  refine ⟨fun m σ H => ∃ env S M, REnv X.K M H env σ ∧ RS X.K M S H ∧ Go X.K W M H (mWhile tf sf m env S) fun o M' H' _ => OutP X.K D' o M' H', ⟨n, env, S, M, re, rs, go⟩, fun m σ H hw => ?_⟩
  obtain ⟨env, S, M, re, rs, go⟩ := hw
  cases m with
  | zero => exact Go.none_elim go
  | succ m =>
    refine ⟨env, S, M, re, rs, (Go.bind go).imp fun b M1 H1 S1 s1 rs1 g1 => ?_⟩
    cases b with
    | false => exact g1.ok rs1 σ (re.mono s1)
    | true =>
      refine ⟨fun σ' H' => ∃ env S M, REnv X.K M H' env σ' ∧ RS X.K M S H' ∧ Go X.K W M H' (mWhile tf sf m env S) fun o M' H' _ => OutP X.K D' o M' H', fun σ' H' q => ⟨m, Nat.lt_succ_self m, q⟩, ?_⟩
      refine ⟨env, S1, M1, re.mono s1, rs1, (Go.bind g1).imp fun o M2 H2 S2 s2 rs2 g2 => ?_⟩
      cases o with
      | nx env1 => exact fun σ' re' => ⟨env1, S2, M2, re', rs2, g2⟩
      | cnt env1 => exact fun σ' re' => ⟨env1, S2, M2, re', rs2, g2⟩
      | brk env1 => exact g2.ok rs2
      | ret d => exact g2.ok rs2
end
end Md

/-! MdLoop: what a loop walks; for; list comprehensions. -/
namespace Md
open PySem PySem.Spec PyProof.Rows L2

section
variable {K : PySem.W.Frag} {W : Wish}
/-! ### what a loop walks -/
/-- from (M, H) on the iterator J hands out these data -/
def SrcOk (K : PySem.W.Frag) (J : It) (ds : List D) (M : Mp) (H : Hp) : Prop :=
  ∀ M1 H1 S1, Step M H M1 H1 → RS K M1 S1 H1 → (∀ (i : Nat) d, ds[i]? = some d → J.go i H1 ∧ ∀ x H2, J.yld i H1 x H2 → Stp M1 H1 M1 H2 ∧ RS K M1 S1 H2 ∧ RD K M1 H2 d x) ∧ J.stop ds.length H1
def tI (K : PySem.W.Frag) (W : Wish) (it : Cm (List D)) : TI := fun σ H R => ∃ env S M, REnv K M H env σ ∧ RS K M S H ∧ Go K W M H (it env S) fun ds M' H' _ => ∀ J, SrcOk K J ds M' H' → R J H'
abbrev II (X : Cx) (W : Wish) (tg e : Expr) (it : Cm (List D)) : Prop := PI X tg e (tI X.K W it)
theorem PI_weak {X : Cx} {tg e : Expr} {t t' : TI} (h : PI X tg e t) (w : ∀ σ H R, t' σ H R → t σ H R) : PI X tg e t' := ⟨fun pins s σ H R I q => h.run pins s σ H R I (w σ H R q)⟩

/-- a list that the loop leaves as it is -/
theorem src_fz {M : Mp} {H : Hp} {a : Addr} {vs : List V} {ds : List D} (h : FzL K M H a vs) (r : RDs K M H ds vs) : SrcOk K (Itl K a) ds M H := fun M1 H1 S1 s rs => by
  have hs : SqL K H1 a vs := by
    rcases h with ⟨h, n⟩ | h
    · exact .inl (s.rd h n).1
    · exact .inr h
  have r1 := RDs.mono0 s _ _ r
  refine ⟨fun i d e => ?_, ⟨vs, hs, by rw [r.length]; exact Nat.le_refl _⟩⟩
  obtain ⟨v, hv, rv⟩ := r1.get e
  refine ⟨⟨vs, v, hs, hv⟩, fun x H2 y => ?_⟩
  obtain ⟨rfl, y⟩ := y
  have e2 := y vs hs
  rw [hv] at e2
  cases e2
  exact ⟨.refl, rs, rv⟩
theorem src_ft {M : Mp} {H : Hp} {a : Addr} {vs : List V} {ds : List D} (h : FzT K H a vs) (r : RDs K M H ds vs) : SrcOk K (Itt K a) ds M H := fun M1 H1 S1 s rs => by
  have hs : SqT K H1 a vs := by
    rcases h with h | h
    · exact .inl (.inl (s.tup a vs h))
    · exact .inr h
  have r1 := RDs.mono0 s _ _ r
  refine ⟨fun i d e => ?_, ⟨vs, hs, by rw [r.length]; exact Nat.le_refl _⟩⟩
  obtain ⟨v, hv, rv⟩ := r1.get e
  refine ⟨⟨vs, v, hs, hv⟩, fun x H2 y => ?_⟩
  obtain ⟨rfl, y⟩ := y
  have e2 := y vs hs
  rw [hv] at e2
  cases e2
  exact ⟨.refl, rs, rv⟩
/-- a text's signs -/
def chD (x : Str) : List D := x.cps.toList.map fun c => D.str ⟨#[c]⟩
theorem src_str {M : Mp} {H : Hp} {x : Str} : SrcOk K (Its x) (chD x) M H := fun M1 H1 S1 s rs => by
  refine ⟨fun i d e => ?_, by simp [Its, chD]⟩
  unfold chD at e
  rw [List.getElem?_map] at e
  cases hc : x.cps.toList[i]? with
  | none => rw [hc] at e; cases e
  | some c =>
    rw [hc] at e
    have e : D.str ⟨#[c]⟩ = d := Option.some.inj e
    subst e
    have hc' : x.cps[i]? = some c := by simpa using hc
    refine ⟨(Array.getElem?_eq_some_iff.mp hc').1, fun v H2 y => ?_⟩
    obtain ⟨rfl, c', h1, h2⟩ := y
    rw [hc'] at h1
    cases h1
    subst h2
    exact ⟨.refl, rs, .str _⟩
/-- lo, lo + 1, .. -/
def rgD (lo : Int) (n : Nat) : List D := (List.range n).map fun i => D.int (lo + (i : Nat))
theorem src_rng {M : Mp} {H : Hp} {lo : Int} {n : Nat} : SrcOk K (Itr lo n) (rgD lo n) M H := fun M1 H1 S1 s rs => by
  refine ⟨fun i d e => ?_, by simp [Itr, rgD]⟩
  unfold rgD at e
  rw [List.getElem?_map] at e
  by_cases hi : i < n
  · rw [List.getElem?_range hi] at e
    have e : D.int (lo + (i : Nat)) = d := Option.some.inj e
    subst e
    refine ⟨hi, fun v H2 y => ?_⟩
    obtain ⟨rfl, rfl⟩ := y
    exact ⟨.refl, rs, .int _⟩
  · rw [List.getElem?_eq_none (by simpa using hi)] at e
    cases e
end

section
variable {X : Cx} {W : Wish} {tg a e iter : Expr} {es : List Expr} {pos : Pos}
/-- a list, a tuple, a text, a dict (its keys), whatever it turns out to be; a dict is locked from then on -/
def iAny (K : PySem.W.Frag) (tl : TE) : TI := fun σ H R => tl σ H fun x H1 => (∃ a xs, x = .ref a ∧ SqL K H1 a xs ∧ R (Itl K a) H1) ∨ (∃ a xs, x = .ref a ∧ SqT K H1 a xs ∧ R (Itt K a) H1) ∨ (∃ z, x = .str z ∧ R (Its z) H1) ∨
  (∃ d kvs, x = .ref d ∧ ((H1 d = some (.dK kvs) ∧ ∀ o, R (Itk d o kvs) (upd H1 d (.frz o (.dK kvs)))) ∨ ∃ o, H1 d = some (.frz o (.dK kvs)) ∧ R (Itk d o kvs) H1)) ∨
  (∃ d kvs, x = .ref d ∧ ((H1 d = some (.dT kvs) ∧ ∀ o, R (Itkt d o kvs) (upd H1 d (.frz o (.dT kvs)))) ∨ ∃ o, H1 d = some (.frz o (.dT kvs)) ∧ R (Itkt d o kvs) H1))
theorem keys_k {pins : List (Addr × Obj)} {s1 : Shared} {σ : L2.St} {H1 : Hp} {R : It → Hp → Prop} {d : Addr} {o : Obj} {kvs : List (Key × V)} (I1 : Inv X pins σ H1 s1) (hd : H1 d = some (.frz o (.dK kvs))) (q : R (Itk d o kvs) H1) :
    wpAny (model X.prog X.w) X.A (pyIter (.ref d)) (PIE X pins σ tg R) X.xe s1 := by
  obtain ⟨hs, hgd, hx, es, ep, vs, hdt, hsz, kv, hm⟩ := I1.frzK hd
  refine iter_keys hs hgd hx hdt (pi_one (tk := s1.toks) I1 _ (turn_keys _ hdt) ⟨_, Heap.get?_push_size _ rfl, rfl, ?_⟩ q)
  rw [hsz] <;> rfl
theorem keys_t {pins : List (Addr × Obj)} {s1 : Shared} {σ : L2.St} {H1 : Hp} {R : It → Hp → Prop} {d : Addr} {o : Obj} {kvs : List (List Key × V)} (I1 : Inv X pins σ H1 s1) (hd : H1 d = some (.frz o (.dT kvs))) (q : R (Itkt d o kvs) H1) :
    wpAny (model X.prog X.w) X.A (pyIter (.ref d)) (PIE X pins σ tg R) X.xe s1 := by
  obtain ⟨hs, hgd, hx, es, ep, hdt, hsz, ent⟩ := I1.frzT hd
  refine iter_keys hs hgd hx hdt (pi_one (tk := s1.toks) I1 _ (turn_keysT _ hdt) ⟨_, Heap.get?_push_size _ rfl, rfl, ?_⟩ q)
  rw [hsz] <;> rfl
theorem pi_any {l : Expr} {tl : TE} (hl : PE X l tl) : PI X tg l (iAny X.K tl) := by
  refine ⟨fun pins s σ H R I h => ?_⟩
  refine thn (hl.run pins s σ H _ I h) fun v s1 ⟨x, H1, I1, r1, q1⟩ => ?_
  rcases q1 with ⟨a, xs, e, hq, q⟩ | ⟨a, xs, e, hq, q⟩ | ⟨z, e, q⟩ | ⟨d, kvs, e, q⟩ | ⟨d, kvs, e, q⟩
  · subst e
    cases r1
    obtain ⟨its, rv, p, hz⟩ := I1.list hq
    refine wpAny_pyIter_list p.isList ?_
    refine ⟨s1.heap.objs.size, [s1.heap.objs.size], _, _, H1, rfl, I1.kept (t' := s1.toks) fun b o e => Heap.get?_push_of_some _ e, turn_list a _, ⟨_, Heap.get?_push_size _ rfl, rfl, rfl⟩, fun b hb => ?_, q⟩
    have e : b = s1.heap.objs.size := by simpa using hb
    subst e
    exact I1.fpOk (Nat.le_refl _) (I1.hok.fresh (Nat.le_refl _))
  · subst e
    cases r1
    obtain ⟨its, rv, p, hz⟩ := I1.tuple hq
    refine wpAny_pyIter_tuple (show s1.heap.IsTuple a its.toArray from p) ?_
    refine ⟨s1.heap.objs.size, [s1.heap.objs.size], _, _, H1, rfl, I1.kept (t' := s1.toks) fun b o e => Heap.get?_push_of_some _ e, turn_tuple a _, ⟨_, Heap.get?_push_size _ rfl, rfl, rfl⟩, fun b hb => ?_, q⟩
    have e : b = s1.heap.objs.size := by simpa using hb
    subst e
    exact I1.fpOk (Nat.le_refl _) (I1.hok.fresh (Nat.le_refl _))
  · subst e
    obtain ⟨t, rfl⟩ := r1
    cases ha : z.cps.all (· < 128)
    · exact wpAny_pyIter_wide ha (pi_one (tk := s1.toks) I1 _ (turn_str _ z t "str_iterator" (.inr rfl)) ⟨_, Heap.get?_push_size _ rfl, rfl, rfl⟩ q)
    · exact wpAny_pyIter_ascii ha (pi_one (tk := s1.toks) I1 _ (turn_str _ z t "str_ascii_iterator" (.inl rfl)) ⟨_, Heap.get?_push_size _ rfl, rfl, rfl⟩ q)
  · subst e
    cases r1
    rcases q with ⟨hd, q⟩ | ⟨o, hd, q⟩
    · obtain ⟨o, I2⟩ := I1.lock hd True.intro
      exact keys_k I2 upd_same (q o)
    · exact keys_k I1 hd q
  · subst e
    cases r1
    rcases q with ⟨hd, q⟩ | ⟨o, hd, q⟩
    · obtain ⟨o, I2⟩ := I1.lock hd True.intro
      exact keys_t I2 upd_same (q o)
    · exact keys_t I1 hd q
def kD : Key → D
  | .inl i => .int i
  | .inr x => .str x
def tkD (k : List Key) : D := .tup (k.map kD)
theorem RD.k {K : PySem.W.Frag} {M : Mp} {H : Hp} : ∀ k : Key, RD K M H (kD k) (kV k)
  | .inl i => .int i
  | .inr x => .str x
theorem RDs.ks {K : PySem.W.Frag} {M : Mp} {H : Hp} : ∀ k : List Key, RDs K M H (k.map kD) (k.map kV)
  | [] => .nil
  | k :: ks => .cons (.k k) (RDs.ks ks)
theorem RD.tk {K : PySem.W.Frag} {M : Mp} {H : Hp} {k : List Key} {a : Addr} (h : H a = some (.tup (k.map kV))) : RD K M H (tkD k) (.ref a) := by
  unfold tkD
  rw [RD]
  exact ⟨a, _, rfl, h, .ks k⟩
/-- a dict outside the store is locked -/
theorem Stp.lock {K : PySem.W.Frag} {M : Mp} {S : Store} {H : Hp} {d : Addr} {u : HO} {o : Obj} (rs : RS K M S H) (hd : H d = some u) (hu : DictO u) (hx : ¬ Exc M d) : Stp M H M (upd H d (.frz o u)) where
  ext := fun _ e q => ⟨e, q, .inl rfl⟩
  evo := fun a w e _ => by
    by_cases z : a = d
    · subst z
      rw [hd] at e
      cases e
      exact .inr ⟨hu, o, upd_same⟩
    · rw [upd_ne z]; exact .inl e
  tup := fun a xs e => by
    rw [upd_ne (show a ≠ d from fun z => by rw [z, hd] at e; cases e; exact hu)]
    exact e
  liv := fun a q => by
    by_cases e : a = d
    · rw [e, upd_same] at q; cases q
    · rwa [upd_ne e] at q
  fm := fun _ q => .inl q
  fr := fun _ q => .inl q
  rr := rfl
  rk := fun a q => upd_ne (show a ≠ d from fun z => hx (.inr (by rw [← z]; exact q)))
theorem RS.lock {K : PySem.W.Frag} {M : Mp} {S : Store} {H : Hp} {d : Addr} {u : HO} {o : Obj} (rs : RS K M S H) (hd : H d = some u) (hu : DictO u) (hx : ¬ Exc M d) : RS K M S (upd H d (.frz o u)) where
  len := rs.len
  obj := fun n a q => by
    obtain ⟨b, e, r⟩ := rs.obj n a q
    exact ⟨b, e, r.mono0 (Stp.lock rs hd hu hx).toStep (upd_ne (show a ≠ d from fun z => hx (.inl (by rw [← z]; exact List.mem_of_getElem? q))))⟩
  lv := rs.lv
  inj := rs.inj
  rdis := rs.rdis
  rtrk := fun a q => by
    rw [upd_ne (show a ≠ d from fun z => hx (.inr (by rw [← z]; exact q)))]
    exact rs.rtrk a q
theorem zip_fst {α β : Type} {ks : List α} {vs : List β} {i : Nat} {k : α} {v : β} (h : (ks.zip vs)[i]? = some (k, v)) : ks[i]? = some k := (List.getElem?_zip_eq_some.mp h).1
theorem src_k {K : PySem.W.Frag} {M : Mp} {H : Hp} {d : Addr} {o : Obj} {ks : List Key} {vs : List V} (hd : H d = some (.frz o (.dK (ks.zip vs)))) (hx : ¬ Exc M d) (hl : ks.length = vs.length) : SrcOk K (Itk d o (ks.zip vs)) (ks.map kD) M H := fun M1 H1 S1 s rs => by
  have h1 := (s.keep hd (fun z => z) hx).1
  have hz : (ks.zip vs).length = ks.length := by rw [List.length_zip, ← hl, Nat.min_self]
  refine ⟨fun i e he => ?_, h1, by rw [hz, List.length_map]; exact Nat.le_refl _⟩
  rw [List.getElem?_map] at he
  cases hk : ks[i]? with
  | none => rw [hk] at he; cases he
  | some k =>
    rw [hk] at he
    have he : kD k = e := Option.some.inj he
    subst he
    refine ⟨⟨h1, by rw [hz]; exact (List.getElem?_eq_some_iff.mp hk).1⟩, fun x H2 y => ?_⟩
    obtain ⟨rfl, k', v, h2, rfl⟩ := y
    have := zip_fst h2
    rw [hk] at this
    cases this
    exact ⟨.refl, rs, .k k⟩
theorem src_t {K : PySem.W.Frag} {M : Mp} {H : Hp} {d : Addr} {o : Obj} {ks : List (List Key)} {vs : List V} (hd : H d = some (.frz o (.dT (ks.zip vs)))) (hx : ¬ Exc M d) (hl : ks.length = vs.length) : SrcOk K (Itkt d o (ks.zip vs)) (ks.map tkD) M H := fun M1 H1 S1 s rs => by
  have h1 := (s.keep hd (fun z => z) hx).1
  have hz : (ks.zip vs).length = ks.length := by rw [List.length_zip, ← hl, Nat.min_self]
  refine ⟨fun i e he => ?_, h1, by rw [hz, List.length_map]; exact Nat.le_refl _⟩
  rw [List.getElem?_map] at he
  cases hk : ks[i]? with
  | none => rw [hk] at he; cases he
  | some k =>
    rw [hk] at he
    have he : tkD k = e := Option.some.inj he
    subst he
    refine ⟨⟨h1, by rw [hz]; exact (List.getElem?_eq_some_iff.mp hk).1⟩, fun x H2 y => ?_⟩
    obtain ⟨rfl, k', v, q, h2, rfl, h3⟩ := y
    have := zip_fst h2
    rw [hk] at this
    cases this
    exact ⟨.refl, rs, .tk h3⟩
/-- the items that a loop over d takes -/
def itD (d : D) : Option (List D) := match d with
  | .lst xs => some xs
  | .fz xs => some xs
  | .tup xs => some xs
  | .ft xs => some xs
  | .str x => some (chD x)
  | .dk ks _ => some (ks.map kD)
  | .dt ks _ => some (ks.map tkD)
  | _ => none
def mIt (f : Cm D) : Cm (List D) := fun env S => (f env S).bind fun d S1 => match itD d with
  | some ds => ok ds S1
  | none => none
theorem ii_any {f : Cm D} (ha : IE X W e f) : II X W tg e (mIt f) := PI_weak (pi_any ha) fun σ H R h => by
  obtain ⟨env, S, M, re, rs, go⟩ := h
  refine ⟨env, S, M, re, rs, (Go.bind go).imp fun d M1 H1 S1 s1 rs1 g1 v rv => ?_⟩
  split at g1
  · rename_i ds hds
    cases d <;> simp only [itD] at hds <;> cases hds
    · rw [RD] at rv
      obtain ⟨x, rfl, h⟩ : ∃ x, v = .str x ∧ True := ⟨_, rv, True.intro⟩
      cases rv
      exact .inr (.inr (.inl ⟨_, rfl, g1.ok rs1 _ src_str⟩))
    · rw [RD] at rv
      obtain ⟨a, vs, rfl, h2, h3⟩ := rv
      exact .inr (.inl ⟨a, vs, rfl, .of h2, g1.ok rs1 _ (src_ft (.inl h2) h3)⟩)
    · rw [RD] at rv
      obtain ⟨a, vs, rfl, h2, h3⟩ := rv
      exact .inr (.inl ⟨a, vs, rfl, h2.sq, g1.ok rs1 _ (src_ft h2 h3)⟩)
    · rw [RD] at rv
      obtain ⟨a, vs, rfl, h2, h3⟩ := rv
      exact .inl ⟨a, vs, rfl, .of h2.1, g1.ok rs1 _ (src_fz (.inl ⟨.inl h2.1, h2.2⟩) h3)⟩
    · rw [RD] at rv
      obtain ⟨a, vs, rfl, h2, h3⟩ := rv
      exact .inl ⟨a, vs, rfl, h2.sq, g1.ok rs1 _ (src_fz h2 h3)⟩
    · rename_i ks dds
      rw [RD] at rv
      obtain ⟨a, vs, rfl, ⟨h2, hx⟩, hl, h3⟩ := rv
      have hl' := hl.trans h3.length
      refine .inr (.inr (.inr (.inl ⟨a, ks.zip vs, rfl, ?_⟩)))
      rcases h2 with h2 | ⟨o, h2⟩
      · exact .inl ⟨h2, fun o => g1.okM (Stp.lock (o := o) rs1 h2 True.intro hx) (rs1.lock h2 True.intro hx) _ (src_k upd_same hx hl')⟩
      · exact .inr ⟨o, h2, g1.ok rs1 _ (src_k h2 hx hl')⟩
    · rename_i ks dds
      rw [RD] at rv
      obtain ⟨a, vs, rfl, ⟨h2, hx⟩, hl, h3⟩ := rv
      have hl' := hl.trans h3.length
      refine .inr (.inr (.inr (.inr ⟨a, ks.zip vs, rfl, ?_⟩)))
      rcases h2 with h2 | ⟨o, h2⟩
      · exact .inl ⟨h2, fun o => g1.okM (Stp.lock (o := o) rs1 h2 True.intro hx) (rs1.lock h2 True.intro hx) _ (src_t upd_same hx hl')⟩
      · exact .inr ⟨o, h2, g1.ok rs1 _ (src_t h2 hx hl')⟩
  · exact g1.none_elim
/-- range(n), range(a, b) -/
def RgLim (i : Int) : Prop := -(2 ^ 62) ≤ i ∧ i < 2 ^ 62
instance {i : Int} : Decidable (RgLim i) := by unfold RgLim; infer_instance
def mRng1 (fa : Cm (List D)) : Cm (List D) := fun env S => (fa env S).bind fun ds S1 => match ds with
  | [.int j] => if RgLim j then ok (rgD 0 j.toNat) S1 else none
  | _ => none
def mRng2 (fa : Cm (List D)) : Cm (List D) := fun env S => (fa env S).bind fun ds S1 => match ds with
  | [.int i, .int j] => if RgLim i ∧ RgLim j then ok (rgD i (j - i).toNat) S1 else none
  | _ => none
theorem ii_range1 {fa : Cm (List D)} {p : Pos} (hm : X.mg "range" = none) (ha : IA X W [a] fa) (hg : Gl X "range" := by rfl) (hs : starEach [a] X.env = [(false, eval a X.env)] := by rfl) : II X W tg (.Call (.Name "range" p) [a] [] pos) (mRng1 fa) :=
  PI_weak (pi_range1 hg hm ha hs) fun σ H R h => by
    obtain ⟨env, S, M, re, rs, go⟩ := h
    refine ⟨env, S, M, re, rs, (Go.bind go).imp fun ds M1 H1 S1 s1 rs1 g1 vs rvs => ?_⟩
    split at g1
    · split at g1
      · rename_i hj
        obtain ⟨v, ws, rfl, r1, r2⟩ := rvs.cons_inv
        rw [r2.nil_inv, r1.int_inv]
        exact ⟨_, rfl, hj.1, hj.2, g1.ok rs1 _ src_rng⟩
      · exact g1.none_elim
    · exact g1.none_elim
theorem ii_range2 {b : Expr} {fa : Cm (List D)} {p : Pos} (hm : X.mg "range" = none) (ha : IA X W [a, b] fa) (hg : Gl X "range" := by rfl) (hs : starEach [a, b] X.env = [(false, eval a X.env), (false, eval b X.env)] := by rfl) (hs2 : starEach [b] X.env = [(false, eval b X.env)] := by rfl) : II X W tg (.Call (.Name "range" p) [a, b] [] pos) (mRng2 fa) :=
  PI_weak (pi_range2 hg hm ha hs hs2) fun σ H R h => by
    obtain ⟨env, S, M, re, rs, go⟩ := h
    refine ⟨env, S, M, re, rs, (Go.bind go).imp fun ds M1 H1 S1 s1 rs1 g1 vs rvs => ?_⟩
    split at g1
    · split at g1
      · rename_i hj
        obtain ⟨v, ws, rfl, r1, r2⟩ := rvs.cons_inv
        obtain ⟨v', ws', rfl, r3, r4⟩ := r2.cons_inv
        rw [r4.nil_inv, r3.int_inv, r1.int_inv]
        exact ⟨_, _, rfl, ⟨hj.1.1, hj.1.2, hj.2.1, hj.2.2⟩, g1.ok rs1 _ src_rng⟩
      · exact g1.none_elim
    · exact g1.none_elim

/-! ### for -/
def forL (p : Pt) (f : Sm) : List D → Sm
  | [], env, S => ok (.nx env) S
  | d :: ds, env, S => match bindP p d env with
    | none => none
    | some env1 => (f env1 S).bind fun o S1 => match o with
      | .nx env2 => forL p f ds env2 S1
      | .cnt env2 => forL p f ds env2 S1
      | .brk env2 => ok (.nx env2) S1
      | .ret d => ok (.ret d) S1
def mFor (p : Pt) (it : Cm (List D)) (f : Sm) : Sm := fun env S => (it env S).bind fun ds S1 => forL p f ds env S1
theorem is_for {body : List Stmt} {it : Cm (List D)} {p : Pt} {f : Sm} (hp : PassesOwn (model X.prog X.w) X.A X.env X.xe) (hc : X.calm = true) (hi : II X W tg iter it) (hg : IG X tg p) (hb : ISs X W body f)
    (hs : ∀ x, foldedSetIterable iter X.env x = pure x := by intro _; rfl) : IS X W (.For tg iter body [] pos) (mFor p it f) := PS_weak (ps_for hp hc hi hg hb hs) fun D' σ H h => by
  obtain ⟨env, S, M, re, rs, go⟩ := h
  refine ⟨env, S, M, re, rs, (Go.bind go).imp fun ds M1 H1 S1 s1 rs1 g1 J src => ?_⟩
  refine ⟨fun i m σ H => m = ds.length - i ∧ i ≤ ds.length ∧ ∃ env S M, Step M1 H1 M H ∧ REnv X.K M H env σ ∧ RS X.K M S H ∧ Go X.K W M H (forL p f (ds.drop i) env S) fun o M' H' _ => OutP X.K D' o M' H', ⟨ds.length, rfl, Nat.zero_le _, env, S1, M1, .refl, re.mono s1, rs1, g1⟩, fun i m σ H hw => ?_⟩
  obtain ⟨rfl, hi, env, S, M, st, re, rs, go⟩ := hw
  obtain ⟨hgo, hstop⟩ := src M H S st rs
  by_cases hlt : i < ds.length
  · right
    have hd : ds[i]? = some ds[i] := List.getElem?_eq_getElem hlt
    obtain ⟨q1, q2⟩ := hgo i _ hd
    refine ⟨q1, fun σ' H' => i + 1 ≤ ds.length ∧ ∃ env S M, Step M1 H1 M H' ∧ REnv X.K M H' env σ' ∧ RS X.K M S H' ∧ Go X.K W M H' (forL p f (ds.drop (i + 1)) env S) fun o M' H' _ => OutP X.K D' o M' H', fun σ' H' q => ⟨ds.length - (i + 1), by omega, rfl, q.1, q.2⟩, fun x H2 y => ?_⟩
    obtain ⟨s2, rs2, rx⟩ := q2 x H2 y
    have go := go.step s2
    rw [List.drop_eq_getElem_cons hlt, forL] at go
    split at go
    · exact go.none_elim
    · rename_i env1 hb1
      refine ⟨env, S, M, ds[i], env1, re.mono s2, rs2, rx, hb1, fun σ3 re3 _ => ?_⟩
      refine ⟨env1, S, M, re3, rs2, (Go.bind go).imp fun o M4 H4 S4 s4 rs4 g4 => ?_⟩
      have st4 : Step M1 H1 M4 H4 := (st.trans s2.toStep).trans s4.toStep
      cases o with
      | nx env2 => exact fun σ' re' => ⟨hlt, env2, S4, M4, st4, re', rs4, g4⟩
      | cnt env2 => exact fun σ' re' => ⟨hlt, env2, S4, M4, st4, re', rs4, g4⟩
      | brk env2 => exact g4.ok rs4
      | ret d => exact g4.ok rs4
  · left
    have e : i = ds.length := by omega
    subst e
    rw [List.drop_length, forL] at go
    exact ⟨hstop, go.ok rs σ re⟩

/-! ### list comprehensions -/
def Res.bind0 {α β : Type} (m : Res α) (k : α → Store → Res β) : Res β :=
  match m with
  | some (.ok a, S) => k a S
  | _ => none
@[simp] theorem bind0_ok {α β : Type} {a : α} {S : Store} {k : α → Store → Res β} : Res.bind0 (ok a S) k = k a S := rfl
@[simp] theorem bind0_some {α β : Type} {a : α} {S : Store} {k : α → Store → Res β} : Res.bind0 (some (.ok a, S)) k = k a S := rfl
def compL (p : Pt) (t : Cm Bool) (f : Cm D) : List D → Env → Store → Res (List D)
  | [], _, S => ok [] S
  | d :: ds, env, S => match bindP p d env with
    | none => none
    | some env1 => (t env1 S).bind0 fun b S1 => if b = true then (f env1 S1).bind0 fun y S2 => (compL p t f ds env S2).bind0 fun ys S3 => ok (y :: ys) S3 else compL p t f ds env S1
def wipeE (env : Env) : List Nat → Env
  | [] => env
  | v :: vs => (wipeE env vs).set v none
def mComp (p : Pt) (it : Cm (List D)) (t : Cm Bool) (f : Cm D) (own : List Nat) : Cm (List D) := fun env S => (it env S).bind fun ds S1 => if ds.length ≤ sizeLine then (compL p t f ds (wipeE env own) S1).bind0 fun ys S2 => ok ys S2 else none
def mYes : Cm Bool := fun _ S => ok true S
theorem compL_err (p : Pt) (t : Cm Bool) (f : Cm D) : ∀ (ds : List D) (env : Env) (S : Store) (x : Exn) (S' : Store), compL p t f ds env S ≠ some (.error x, S')
  | [], env, S, x, S', h => by
    rw [compL] at h
    cases h
  | d :: ds, env, S, x, S', h => by
    rw [compL] at h
    split at h
    · cases h
    · rename_i env1 _
      cases ht : t env1 S with
      | none => rw [ht] at h; cases h
      | some q =>
        obtain ⟨c, S1⟩ := q
        rw [ht] at h
        cases c with
        | error y => cases h
        | ok b =>
          have h : (if b = true then (f env1 S1).bind0 fun y S2 => (compL p t f ds env S2).bind0 fun ys S3 => ok (y :: ys) S3 else compL p t f ds env S1) = some (.error x, S') := h
          split at h
          · cases hf : f env1 S1 with
            | none => rw [hf] at h; cases h
            | some q =>
              obtain ⟨c, S2⟩ := q
              rw [hf] at h
              cases c with
              | error y => cases h
              | ok y =>
                have h : ((compL p t f ds env S2).bind0 fun ys S3 => ok (y :: ys) S3) = some (.error x, S') := h
                cases hr : compL p t f ds env S2 with
                | none => rw [hr] at h; cases h
                | some q =>
                  obtain ⟨c, S3⟩ := q
                  rw [hr] at h
                  cases c with
                  | error z => cases h
                  | ok z => cases h
          · exact compL_err p t f ds env S1 x S' h
theorem bind0_inv {α β : Type} {m : Res α} {k : α → Store → Res β} {q : Except Exn β × Store} (h : m.bind0 k = some q) : ∃ a S, m = some (.ok a, S) ∧ k a S = some q := by
  cases m with
  | none => cases h
  | some w =>
    obtain ⟨c, S⟩ := w
    cases c with
    | error x => cases h
    | ok a => exact ⟨a, S, rfl, h⟩
theorem wipeE_get (env : Env) : ∀ (vs : List Nat) (i : Nat), (wipeE env vs)[i]? = if i ∈ vs then (if i < env.length then some none else none) else env[i]?
  | [], i => by simp [wipeE]
  | v :: vs, i => by
    have hl : (wipeE env vs).length = env.length := by
      clear i v
      induction vs with
      | nil => rfl
      | cons v vs ih => rw [wipeE, List.length_set, ih]
    rw [wipeE]
    by_cases h : v = i
    · subst h
      rw [if_pos List.mem_cons_self]
      by_cases hv : v < env.length
      · rw [if_pos hv, List.getElem?_set_self (by rw [hl]; exact hv)]
      · rw [if_neg hv, List.getElem?_eq_none (by simp [hl]; omega)]
    · rw [List.getElem?_set_ne h, wipeE_get env vs i]
      by_cases hm : i ∈ vs
      · rw [if_pos hm, if_pos (List.mem_cons_of_mem _ hm)]
      · rw [if_neg hm, if_neg (fun z => (List.mem_cons.mp z).elim (fun z => h z.symm) hm)]
theorem wipeE_len (env : Env) : ∀ vs : List Nat, (wipeE env vs).length = env.length
  | [] => rfl
  | v :: vs => by rw [wipeE, List.length_set, wipeE_len env vs]
theorem wipe_get (σ : L2.St) : ∀ (vs : List Nat) (i : Nat), (wipe σ vs)[i]? = if i ∈ vs then (if i < σ.length then some none else none) else σ[i]?
  | [], i => by simp [wipe]
  | v :: vs, i => by
    have hl := wipe_length σ vs
    rw [wipe]
    by_cases h : v = i
    · subst h
      rw [if_pos List.mem_cons_self]
      by_cases hv : v < σ.length
      · rw [if_pos hv, List.getElem?_set_self (by rw [hl]; exact hv)]
      · rw [if_neg hv, List.getElem?_eq_none (by simp [hl]; omega)]
    · rw [List.getElem?_set_ne h, wipe_get σ vs i]
      by_cases hm : i ∈ vs
      · rw [if_pos hm, if_pos (List.mem_cons_of_mem _ hm)]
      · rw [if_neg hm, if_neg (fun z => (List.mem_cons.mp z).elim (fun z => h z.symm) hm)]
theorem REnv.wipe {K : PySem.W.Frag} {M : Mp} {H : Hp} {env : Env} {σ : L2.St} (h : REnv K M H env σ) (vs : List Nat) : REnv K M H (wipeE env vs) (wipe σ vs) := by
  refine ⟨by rw [wipeE_len, wipe_length]; exact h.len, fun i d e => ?_⟩
  rw [wipeE_get] at e
  rw [wipe_get]
  by_cases hm : i ∈ vs
  · rw [if_pos hm] at e
    split at e <;> cases e
  · rw [if_neg hm] at e ⊢
    exact h.at' i d e
theorem wipe_but {vs ws : List Nat} {σ σ' : L2.St} (b : But ws (wipe σ vs) σ') (hs : ∀ i ∈ ws, i ∈ vs) : wipe σ' vs = wipe σ vs := by
  apply List.ext_getElem?
  intro i
  have hl : σ'.length = σ.length := by rw [b.1, wipe_length]
  rw [wipe_get, wipe_get, hl]
  by_cases hm : i ∈ vs
  · rw [if_pos hm, if_pos hm]
  · rw [if_neg hm, if_neg hm, b.2 i fun z => hm (hs i z), wipe_get, if_neg hm]

/-- a comprehension's reading, with the end Q' of the list's address -/
theorem lc_weak {X : Cx} {W : Wish} {p : Pt} {it : Cm (List D)} {t : Cm Bool} {f : Cm D} {own : List Nat} (hown : ∀ i ∈ slotsP p, i ∈ own) :
    ∀ σ H Q, tL X.K W (mComp p it t f own) σ H Q → tLc (tI X.K W it) (tG X.K p) (tT X.K W0 t) (tD X.K W0 f) own σ H Q := fun σ H Q h => by
  obtain ⟨env, S, M, re, rs, h⟩ := h
  refine ⟨env, S, M, re, rs, (tL_go h).imp fun ds M1 H1 S1 s1 rs1 g1 J src D hD => ?_⟩
  have re1 := re.mono s1
  obtain ⟨r, S', e1, fin⟩ := g1
  split at e1
  · rename_i hsz
    obtain ⟨ys, S2, e2, e3⟩ := bind0_inv e1
    cases e3
    -- the state of a turn
    refine ⟨fun i m H => m = ds.length - i ∧ i ≤ ds.length ∧ ∃ mm S acc vs zs, Step M1 H1 ⟨mm, D :: M1.r⟩ H ∧ (∀ a, a ∈ M1.r → H a = H1 a) ∧ RS X.K ⟨mm, D :: M1.r⟩ S H ∧ H D = some (.lst vs) ∧ RDs X.K ⟨mm, D :: M1.r⟩ H acc vs ∧ acc.length ≤ i ∧
      compL p t f (ds.drop i) (wipeE env own) S = some (.ok zs, S') ∧ acc ++ zs = ys, ⟨ds.length, rfl, Nat.zero_le _, M1.m, S1, [], [], ys, Step.res rs1 hD, fun a q => (Stp.new rs1 hD).rk a q, rs1.res hD, upd_same, .nil, Nat.le_refl _, e2, rfl⟩, fun i m H2 hw => ?_⟩
    obtain ⟨rfl, hi, mm, S3, acc, vs, zs, st, kp, rs3, hl3, r3, ha3, ec, es⟩ := hw
    obtain ⟨hgo, hstop⟩ := src ⟨mm, D :: M1.r⟩ H2 S3 st rs3
    by_cases hlt : i < ds.length
    · right
      have hd : ds[i]? = some ds[i] := List.getElem?_eq_getElem hlt
      obtain ⟨q1, q2⟩ := hgo i _ hd
      rw [List.drop_eq_getElem_cons hlt, compL] at ec
      refine ⟨q1, fun H' => i + 1 ≤ ds.length ∧ ∃ mm S acc vs zs, Step M1 H1 ⟨mm, D :: M1.r⟩ H' ∧ (∀ a, a ∈ M1.r → H' a = H1 a) ∧ RS X.K ⟨mm, D :: M1.r⟩ S H' ∧ H' D = some (.lst vs) ∧ RDs X.K ⟨mm, D :: M1.r⟩ H' acc vs ∧ acc.length ≤ i + 1 ∧
        compL p t f (ds.drop (i + 1)) (wipeE env own) S = some (.ok zs, S') ∧ acc ++ zs = ys, fun H' q => ⟨ds.length - (i + 1), by omega, rfl, q.1, q.2⟩, fun x H4 y => ?_⟩
      obtain ⟨s4, rs4, rx⟩ := q2 x H4 y
      split at ec
      · cases ec
      · rename_i env1 hb1
        obtain ⟨b, S5, et, ec⟩ := bind0_inv ec
        have re4 : REnv X.K ⟨mm, D :: M1.r⟩ H4 (wipeE env own) (wipe σ own) := ((re1.wipe own).mono0 st).mono s4
        refine ⟨wipeE env own, S3, ⟨mm, D :: M1.r⟩, ds[i], env1, re4, rs4, rx, hb1, fun σ5 re5 b5 => ⟨wipe_but b5 hown, ?_⟩⟩
        refine ⟨env1, S3, ⟨mm, D :: M1.r⟩, re5, rs4, .ok b, S5, et, fun M6 H6 s6 rs6 => ?_⟩
        have eM : M6 = ⟨M6.m, D :: M1.r⟩ := by
          cases M6
          have := s6.rr
          simp only at this
          rw [this]
        cases b with
        | true =>
          rw [if_pos rfl] at ec
          refine L2.iteT ?_
          obtain ⟨yv, S7, ey, ec⟩ := bind0_inv ec
          obtain ⟨zs', S8, ez, ec⟩ := bind0_inv ec
          cases ec
          refine ⟨env1, S5, M6, re5.mono s6, rs6, .ok yv, S7, ey, fun M8 H8 s8 rs8 v rv => ?_⟩
          have hD8 : H8 D = some (.lst vs) := by
            rw [s8.rk D (by rw [s6.rr]; exact List.mem_cons_self), s6.rk D List.mem_cons_self, s4.rk D List.mem_cons_self]
            exact hl3
          have eM8 : M8 = ⟨M8.m, D :: M1.r⟩ := by
            have h1 := s8.rr
            rw [s6.rr] at h1
            cases M8
            simp only at h1
            rw [h1]
          have r8 : RDs X.K M8 H8 acc vs := ((r3.mono s4).mono s6).mono s8
          have st8 : Step M1 H1 M8 H8 := ((st.trans s4.toStep).trans s6.toStep).trans s8.toStep
          rw [eM8] at rs8 r8 rv st8
          refine ⟨vs, hD8, ?_, hlt, M8.m, S7, acc ++ [yv], vs ++ [v], zs', ?_, fun a q => ?_, rs8.updr, upd_same, RDs.mono0 (Step.updr rs8) _ _ (r8.append (.cons rv .nil)), by simp; omega, ez, by rw [List.append_assoc]; exact es⟩
          · rw [← r8.length]
            exact Nat.lt_of_le_of_lt ha3 (Nat.lt_of_lt_of_le hlt hsz)
          · refine ⟨st8.ext, fun a o e n => ?_, fun a xs e => ?_, fun a q => ?_, st8.fm, st8.fr⟩
            · rw [upd_ne (ne_of_none e hD)]; exact st8.evo a o e n
            · rw [upd_ne (ne_of_none e hD)]; exact st8.tup a xs e
            · by_cases z : a = D
              · rw [z, upd_same] at q; cases q
              · rw [upd_ne z] at q; exact st8.liv a q
          · have haD : a ≠ D := fun z => (rs1.rtrk a q).1 (by rw [z]; exact hD)
            rw [upd_ne haD, s8.rk a (by rw [s6.rr]; exact List.mem_cons_of_mem _ q), s6.rk a (List.mem_cons_of_mem _ q), s4.rk a (List.mem_cons_of_mem _ q)]
            exact kp a q
        | false =>
          rw [if_neg Bool.false_ne_true] at ec
          refine L2.iteF ?_
          have hD6 : H6 D = some (.lst vs) := by
            rw [s6.rk D List.mem_cons_self, s4.rk D List.mem_cons_self]
            exact hl3
          have r6 : RDs X.K M6 H6 acc vs := (r3.mono s4).mono s6
          have st6 : Step M1 H1 M6 H6 := (st.trans s4.toStep).trans s6.toStep
          rw [eM] at rs6 r6 st6
          refine ⟨hlt, M6.m, S5, acc, vs, zs, st6, fun a q => ?_, rs6, hD6, r6, by omega, ec, es⟩
          rw [s6.rk a (List.mem_cons_of_mem _ q), s4.rk a (List.mem_cons_of_mem _ q)]
          exact kp a q
    · left
      have e : i = ds.length := by omega
      subst e
      rw [List.drop_length, compL] at ec
      cases ec
      refine ⟨hstop, ?_⟩
      have es : acc = ys := by rw [← es]; simp
      subst es
      exact fin D mm vs H2 st kp rs3 hD hl3 r3
  · cases e1
theorem il_comp {X : Cx} {W : Wish} {elt tg iter : Expr} {ifs : List Expr} {scope : Scope} {own : List (Str × Nat)} {pos : Pos} {p : Pt} {it : Cm (List D)} {t : Cm Bool} {f : Cm D} (hc : X.calm = true) (hN : X.N.Nodup) (okb : blkC X.N X.env.scope scope own = true)
    (hi : II X W tg iter it) (hg : ∀ (s : Shared) (H : Hp) (C : Addr) (cl : List (Str × Addr)) (fp : List Addr), IG (X.blk s H scope (compEnvC scope cl C X.env) fp) tg p)
    (ht : ∀ (s : Shared) (H : Hp) (C : Addr) (cl : List (Str × Addr)) (fp : List Addr), PTs (X.blk s H scope (compEnvC scope cl C X.env) fp) ifs (tT X.K W0 t))
    (he : ∀ (s : Shared) (H : Hp) (C : Addr) (cl : List (Str × Addr)) (fp : List Addr), IE (X.blk s H scope (compEnvC scope cl C X.env) fp) W0 elt f)
    (hown : ∀ i ∈ slotsP p, i ∈ own.map (·.2) := by decide) (hs : ∀ x, foldedSetIterable iter X.env x = pure x := by intro _; rfl) :
    IL X W (.ListComp elt [⟨tg, iter, ifs, 0⟩] scope pos) (mComp p it t f (own.map (·.2))) :=
  PE_weak (pe_lc hc hN hi (blkOk_by okb) hg ht he hs) (lc_weak hown)
/-- y = [..]: what is wanted of the list: as a value that is not changed, or the store's newest object -/
theorem is_comp {X : Cx} {W : Wish} {i : Nat} {y : Str} {py : Pos} {elt tg iter : Expr} {ifs : List Expr} {scope : Scope} {own : List (Str × Nat)} {pos spos : Pos} {p : Pt} {it : Cm (List D)} {t : Cm Bool} {f : Cm D} {g : Cm D}
    (hgW : ∀ σ H Q, tD X.K W g σ H Q → tL X.K W (mComp p it t f (own.map (·.2))) σ H Q) (hc : X.calm = true) (hN : X.N.Nodup) (okb : blkC X.N X.env.scope scope own = true)
    (hi : II X W tg iter it) (hg : ∀ (s : Shared) (H : Hp) (C : Addr) (cl : List (Str × Addr)) (fp : List Addr), IG (X.blk s H scope (compEnvC scope cl C X.env) fp) tg p)
    (ht : ∀ (s : Shared) (H : Hp) (C : Addr) (cl : List (Str × Addr)) (fp : List Addr), PTs (X.blk s H scope (compEnvC scope cl C X.env) fp) ifs (tT X.K W0 t))
    (he : ∀ (s : Shared) (H : Hp) (C : Addr) (cl : List (Str × Addr)) (fp : List Addr), IE (X.blk s H scope (compEnvC scope cl C X.env) fp) W0 elt f)
    (hy : X.N[i]? = some y := by rfl) (hyl : X.env.scope.names.lookup y = some .local := by rfl) (hk : X.env.scope.kind = .function := by rfl) (hl : (py.line == pos.line) = true := by rfl) (hsc : (scope.names.any fun (n, k) => n == y && (k == .local || k == .cell)) = false := by decide +kernel)
    (hown : ∀ i ∈ slotsP p, i ∈ own.map (·.2) := by decide) (hs : ∀ x, foldedSetIterable iter X.env x = pure x := by intro _; rfl) :
    IS X W (.Assign [.Name y py] (.ListComp elt [⟨tg, iter, ifs, 0⟩] scope pos) spos) (mAsg (.nm i) g) :=
  PS_weak (ps_setLc hc hN hy hyl (sw_true hk hyl hl hsc) hi (blkOk_by okb) hg ht he hs) fun D' σ H h => by
    have h := asg_weak D' σ H h
    refine lc_weak hown σ H _ (hgW σ H _ ?_)
    obtain ⟨env, S, M, re, rs, go⟩ := h
    refine ⟨env, S, M, re, rs, go.imp fun d M1 H1 S1 s1 rs1 g1 v rv => ?_⟩
    obtain ⟨env, S, M, d, env', re, rs, rd, e, q⟩ := g1 v rv
    rw [bindP] at e
    cases e
    exact q _ (re.set i rd) ⟨by simp, fun j h => List.getElem?_set_ne fun z => h (by rw [slotsP, z]; exact List.mem_cons_self)⟩
theorem frz_L {K : PySem.W.Frag} {W : Wish} {f : Cm (List D)} : ∀ σ H Q, tD K W (mFrz f) σ H Q → tL K W f σ H Q := fun σ H Q h => frz_weak σ H Q h
theorem mut_L {K : PySem.W.Frag} {W : Wish} {f : Cm (List D)} : ∀ σ H Q, tD K W (mMut f) σ H Q → tL K W f σ H Q := fun σ H Q h => mut_weak σ H Q h
theorem its_nil {X : Cx} : PTs X [] (tT X.K W0 mYes) := ⟨fun pins s σ H Q I h => pts_nil.run pins s σ H Q I (by
  obtain ⟨env, S, M, re, rs, go⟩ := h
  exact go.ok rs)⟩
theorem its_one {X : Cx} {c : Expr} {t : Cm Bool} (h : IT X W0 c t) : PTs X [c] (tT X.K W0 t) := pts_one h
end
end Md

/-! MdCall: calls of the program's own defs: a callee sees the objects that it is handed, no others. -/
namespace Md
open PySem PySem.Spec PyProof.Rows L2

mutual
def locs : D → List Nat
  | .tup xs => locsL xs
  | .ft xs => locsL xs
  | .lst xs => locsL xs
  | .fz xs => locsL xs
  | .dk _ ds => locsL ds
  | .dt _ ds => locsL ds
  | .loc n => [n]
  | _ => []
def locsL : List D → List Nat
  | [] => []
  | x :: xs => locs x ++ locsL xs
end
def obLocs : Ob → List Nat
  | .lst xs => locsL xs
  | .dk kvs => locsL (kvs.map (·.2))
  | .dt kvs => locsL (kvs.map (·.2))
  | .lk kvs => locsL (kvs.map (·.2))
  | .lt kvs => locsL (kvs.map (·.2))
  | .dead => []
mutual
def ren (ρ : Nat → Option Nat) : D → Option D
  | .non => some .non
  | .bl b => some (.bl b)
  | .int i => some (.int i)
  | .str x => some (.str x)
  | .tup xs => (renL ρ xs).map .tup
  | .ft xs => (renL ρ xs).map .ft
  | .lst xs => (renL ρ xs).map .lst
  | .fz xs => (renL ρ xs).map .fz
  | .dk ks ds => (renL ρ ds).map (.dk ks)
  | .dt ks ds => (renL ρ ds).map (.dt ks)
  | .loc n => (ρ n).map .loc
def renL (ρ : Nat → Option Nat) : List D → Option (List D)
  | [] => some []
  | x :: xs => match ren ρ x, renL ρ xs with
    | some y, some ys => some (y :: ys)
    | _, _ => none
end
def renOb (ρ : Nat → Option Nat) : Ob → Option Ob
  | .lst xs => (renL ρ xs).map .lst
  | .dk kvs => (renL ρ (kvs.map (·.2))).map fun ds => .dk ((kvs.map (·.1)).zip ds)
  | .dt kvs => (renL ρ (kvs.map (·.2))).map fun ds => .dt ((kvs.map (·.1)).zip ds)
  | .lk kvs => (renL ρ (kvs.map (·.2))).map fun ds => .lk ((kvs.map (·.1)).zip ds)
  | .lt kvs => (renL ρ (kvs.map (·.2))).map fun ds => .lt ((kvs.map (·.1)).zip ds)
  | .dead => some .dead
def ixOf : List Nat → Nat → Option Nat
  | [], _ => none
  | x :: xs, n => if x = n then some 0 else (ixOf xs n).map (· + 1)
def dd : List Nat → List Nat
  | [] => []
  | x :: xs => if x ∈ dd xs then dd xs else x :: dd xs
def getObs (ρ : Nat → Option Nat) (S : Store) : List Nat → Option (List Ob)
  | [] => some []
  | n :: ns => match S[n]? with
    | some b => match renOb ρ b, getObs ρ S ns with
      | some b', some bs => some (b' :: bs)
      | _, _ => none
    | none => none
def putObs (ρ : Nat → Option Nat) : List Nat → List Ob → Store → Option Store
  | [], _, S => some S
  | n :: ns, b :: bs, S => match renOb ρ b with
    | some b' => putObs ρ ns bs (S.set n b')
    | none => none
  | _ :: _, [], _ => none
def callLs (ds : List D) (S : Store) : List Nat := dd (locsL ds ++ (locsL ds).flatMap fun n => match S[n]? with | some b => obLocs b | none => [])
abbrev Fn := List D → Store → Res D
def renObs (ρ : Nat → Option Nat) : List Ob → Option (List Ob)
  | [] => some []
  | b :: bs => match renOb ρ b, renObs ρ bs with
    | some b', some bs' => some (b' :: bs')
    | _, _ => none
/-- back to the caller's numbers, the callee's own objects behind the caller's -/
def backAll (ls : List Nat) (n : Nat) (i : Nat) : Option Nat := if i < ls.length then ls[i]? else some (n + (i - ls.length))
def callOut (ls : List Nat) (S : Store) (d : D) (S' : Store) : Res D :=
  match ren (fun i => ls[i]?) d, putObs (fun i => ls[i]?) ls S' S with
  | some d', some S2 => ok d' S2
  | _, _ => match ren (backAll ls S.length) d, putObs (backAll ls S.length) ls S' S, renObs (backAll ls S.length) (S'.drop ls.length) with
    | some d', some S2, some ex => ok d' (S2 ++ ex)
    | _, _, _ => none
def callIn (g : Fn) (ls : List Nat) (ds : List D) (S : Store) : Res D :=
  match renL (ixOf ls) ds, getObs (ixOf ls) S ls with
  | some ds', some S0 => match g ds' S0 with
    | some (.ok d, S') => callOut ls S d S'
    | _ => none
  | _, _ => none
def callD (g : Fn) (ds : List D) (S : Store) : Res D := callIn g (callLs ds S) ds S

/-! ### the facts -/
theorem ixOf_get : ∀ {ls : List Nat} {n i : Nat}, ixOf ls n = some i → ls[i]? = some n
  | [], _, _, h => by simp [ixOf] at h
  | x :: xs, n, i, h => by
    rw [ixOf] at h
    split at h
    · cases h; simp [*]
    · cases q : ixOf xs n with
      | none => rw [q] at h; cases h
      | some j =>
        rw [q] at h
        have h : j + 1 = i := Option.some.inj h
        subst h
        simpa using ixOf_get q
theorem ixOf_none : ∀ {ls : List Nat} {n : Nat}, ixOf ls n = none → n ∉ ls
  | [], _, _ => by simp
  | x :: xs, n, h => by
    rw [ixOf] at h
    split at h
    · cases h
    · rename_i hx
      cases q : ixOf xs n with
      | none => exact fun z => (List.mem_cons.mp z).elim (fun z => hx z.symm) (ixOf_none q)
      | some j => rw [q] at h; cases h
theorem ixOf_of : ∀ {ls : List Nat} {n i : Nat}, ls.Nodup → ls[i]? = some n → ixOf ls n = some i
  | [], _, _, _, h => by simp at h
  | x :: xs, n, i, hn, h => by
    rw [ixOf]
    cases i with
    | zero => simp at h; rw [if_pos h]
    | succ i =>
      have h : xs[i]? = some n := by simpa using h
      have hx : x ≠ n := fun z => (List.nodup_cons.mp hn).1 (by rw [z]; exact List.mem_of_getElem? h)
      rw [if_neg hx, ixOf_of (List.nodup_cons.mp hn).2 h]
      rfl
theorem dd_nodup : ∀ ls : List Nat, (dd ls).Nodup
  | [] => by simp [dd]
  | x :: xs => by
    rw [dd]
    split
    · exact dd_nodup xs
    · exact List.nodup_cons.mpr ⟨by assumption, dd_nodup xs⟩
section
variable {K : PySem.W.Frag} {M M' : Mp} {H : Hp} {ρ : Nat → Option Nat}
/-- the same data under another map -/
theorem RD.ren_ok (hm : ∀ n n', ρ n = some n' → ∀ e, M.m[n]? = some e → M'.m[n']? = some e) (hx : ∀ a, H a ≠ none → ¬ Exc M a → ¬ Exc M' a) :
    (∀ d v d', RD K M H d v → ren ρ d = some d' → RD K M' H d' v) ∧ (∀ ds vs ds', RDs K M H ds vs → renL ρ ds = some ds' → RDs K M' H ds' vs) := by
  have hx1 : ∀ a o, H a = some o → ¬ Exc M a → ¬ Exc M' a := fun a o e => hx a (by rw [e]; simp)
  have hx2 : ∀ a u, Rd H a u → ¬ Exc M a → ¬ Exc M' a := fun a u e => by
    rcases e with e | ⟨o, e⟩
    · exact hx1 a _ e
    · exact hx1 a _ e
  have key : ∀ d : D, (∀ v d', RD K M H d v → ren ρ d = some d' → RD K M' H d' v) := by
    intro d
    exact D.rec (motive_1 := fun d => ∀ v d', RD K M H d v → ren ρ d = some d' → RD K M' H d' v) (motive_2 := fun ds => ∀ vs ds', RDs K M H ds vs → renL ρ ds = some ds' → RDs K M' H ds' vs)
      (fun v d' h e => by rw [ren] at e; cases e; simpa [RD] using h) (fun _ v d' h e => by rw [ren] at e; cases e; simpa [RD] using h)
      (fun _ v d' h e => by rw [ren] at e; cases e; simpa [RD] using h) (fun _ v d' h e => by rw [ren] at e; cases e; simpa [RD] using h)
      (fun xs ih v d' h e => by
        rw [ren] at e
        cases q : renL ρ xs with
        | none => rw [q] at e; cases e
        | some ys =>
          rw [q] at e
          have e : D.tup ys = d' := Option.some.inj e
          subst e
          rw [RD] at h ⊢
          obtain ⟨a, vs, e1, f, g⟩ := h
          exact ⟨a, vs, e1, f, ih vs ys g q⟩)
      (fun xs ih v d' h e => by
        rw [ren] at e
        cases q : renL ρ xs with
        | none => rw [q] at e; cases e
        | some ys =>
          rw [q] at e
          have e : D.ft ys = d' := Option.some.inj e
          subst e
          rw [RD] at h ⊢
          obtain ⟨a, vs, e1, f, g⟩ := h
          exact ⟨a, vs, e1, f, ih vs ys g q⟩)
      (fun xs ih v d' h e => by
        rw [ren] at e
        cases q : renL ρ xs with
        | none => rw [q] at e; cases e
        | some ys =>
          rw [q] at e
          have e : D.lst ys = d' := Option.some.inj e
          subst e
          rw [RD] at h ⊢
          obtain ⟨a, vs, e1, f, g⟩ := h
          exact ⟨a, vs, e1, ⟨f.1, hx1 a _ f.1 f.2⟩, ih vs ys g q⟩)
      (fun xs ih v d' h e => by
        rw [ren] at e
        cases q : renL ρ xs with
        | none => rw [q] at e; cases e
        | some ys =>
          rw [q] at e
          have e : D.fz ys = d' := Option.some.inj e
          subst e
          rw [RD] at h ⊢
          obtain ⟨a, vs, e1, f, g⟩ := h
          exact ⟨a, vs, e1, f.imp (fun z => ⟨z.1, hx2 a _ z.1 z.2⟩) id, ih vs ys g q⟩)
      (fun ks ds ih v d' h e => by
        rw [ren] at e
        cases q : renL ρ ds with
        | none => rw [q] at e; cases e
        | some ys =>
          rw [q] at e
          have e : D.dk ks ys = d' := Option.some.inj e
          subst e
          rw [RD] at h ⊢
          obtain ⟨a, vs, e1, f, l, g⟩ := h
          have g' := ih vs ys g q
          exact ⟨a, vs, e1, ⟨f.1, hx2 a _ f.1 f.2⟩, by rw [l, g.length, g'.length], g'⟩)
      (fun ks ds ih v d' h e => by
        rw [ren] at e
        cases q : renL ρ ds with
        | none => rw [q] at e; cases e
        | some ys =>
          rw [q] at e
          have e : D.dt ks ys = d' := Option.some.inj e
          subst e
          rw [RD] at h ⊢
          obtain ⟨a, vs, e1, f, l, g⟩ := h
          have g' := ih vs ys g q
          exact ⟨a, vs, e1, ⟨f.1, hx2 a _ f.1 f.2⟩, by rw [l, g.length, g'.length], g'⟩)
      (fun n v d' h e => by
        rw [ren] at e
        cases q : ρ n with
        | none => rw [q] at e; cases e
        | some n' =>
          rw [q] at e
          have e : D.loc n' = d' := Option.some.inj e
          subst e
          rw [RD] at h ⊢
          obtain ⟨x, h1, h2⟩ := h
          exact ⟨x, hm n n' q x h1, h2⟩)
      (fun vs ds' h e => by rw [renL] at e; cases e; simpa [RDs] using h)
      (fun d ds ih1 ih2 vs ds' h e => by
        obtain ⟨v, ws, rfl, r1, r2⟩ := h.cons_inv
        rw [renL] at e
        split at e
        · rename_i y ys q1 q2
          cases e
          exact .cons (ih1 v y r1 q1) (ih2 ws ys r2 q2)
        · cases e)
      d
  refine ⟨key, ?_⟩
  intro ds
  induction ds with
  | nil => intro vs ds' h e; rw [renL] at e; cases e; rw [h.nil_inv]; exact .nil
  | cons d ds ih =>
    intro vs ds' h e
    obtain ⟨v, ws, rfl, r1, r2⟩ := h.cons_inv
    rw [renL] at e
    split at e
    · rename_i y ys q1 q2
      cases e
      exact .cons (key d v y r1 q1) (ih ws ys r2 q2)
    · cases e
theorem renL_len : ∀ {ds ds' : List D}, renL ρ ds = some ds' → ds'.length = ds.length
  | [], _, e => by rw [renL] at e; cases e; rfl
  | d :: ds, _, e => by
    rw [renL] at e
    split at e
    · rename_i y ys q1 q2
      cases e
      simp [renL_len q2]
    · cases e
theorem map_zip1 {α β : Type} : ∀ {xs : List α} {ys : List β}, xs.length = ys.length → (xs.zip ys).map (·.1) = xs
  | [], [], _ => rfl
  | x :: xs, [], h => by simp at h
  | [], y :: ys, h => by simp at h
  | x :: xs, y :: ys, h => by simp only [List.zip_cons_cons, List.map_cons]; rw [map_zip1 (by simpa using h)]
theorem map_zip2 {α β : Type} : ∀ {xs : List α} {ys : List β}, xs.length = ys.length → (xs.zip ys).map (·.2) = ys
  | [], [], _ => rfl
  | x :: xs, [], h => by simp at h
  | [], y :: ys, h => by simp at h
  | x :: xs, y :: ys, h => by simp only [List.zip_cons_cons, List.map_cons]; rw [map_zip2 (by simpa using h)]
theorem RO.ren_ok (hm : ∀ n n', ρ n = some n' → ∀ e, M.m[n]? = some e → M'.m[n']? = some e) (hx : ∀ a, H a ≠ none → ¬ Exc M a → ¬ Exc M' a) {b b' : Ob} {a : Addr} (h : RO K M H b a) (e : renOb ρ b = some b') : RO K M' H b' a := by
  have R := (RD.ren_ok (K := K) (H := H) hm hx).2
  cases b with
  | lst xs =>
    rw [renOb] at e
    cases q : renL ρ xs with
    | none => rw [q] at e; cases e
    | some ys =>
      rw [q] at e
      have e : Ob.lst ys = b' := Option.some.inj e
      subst e
      obtain ⟨vs, h1, h2⟩ := h
      exact ⟨vs, h1, R _ _ _ h2 q⟩
  | dk kvs =>
    rw [renOb] at e
    cases q : renL ρ (kvs.map (·.2)) with
    | none => rw [q] at e; cases e
    | some ys =>
      rw [q] at e
      have e : Ob.dk ((kvs.map (·.1)).zip ys) = b' := Option.some.inj e
      subst e
      have hl : (kvs.map (·.1)).length = ys.length := by rw [renL_len q]; simp
      obtain ⟨vs, h1, h2⟩ := h
      exact ⟨vs, by rw [map_zip1 hl]; exact h1, by rw [map_zip2 hl]; exact R _ _ _ h2 q⟩
  | dt kvs =>
    rw [renOb] at e
    cases q : renL ρ (kvs.map (·.2)) with
    | none => rw [q] at e; cases e
    | some ys =>
      rw [q] at e
      have e : Ob.dt ((kvs.map (·.1)).zip ys) = b' := Option.some.inj e
      subst e
      have hl : (kvs.map (·.1)).length = ys.length := by rw [renL_len q]; simp
      obtain ⟨vs, h1, h2⟩ := h
      exact ⟨vs, by rw [map_zip1 hl]; exact h1, by rw [map_zip2 hl]; exact R _ _ _ h2 q⟩
  | lk kvs =>
    rw [renOb] at e
    cases q : renL ρ (kvs.map (·.2)) with
    | none => rw [q] at e; cases e
    | some ys =>
      rw [q] at e
      have e : Ob.lk ((kvs.map (·.1)).zip ys) = b' := Option.some.inj e
      subst e
      have hl : (kvs.map (·.1)).length = ys.length := by rw [renL_len q]; simp
      obtain ⟨o, vs, h1, h2⟩ := h
      exact ⟨o, vs, by rw [map_zip1 hl]; exact h1, by rw [map_zip2 hl]; exact R _ _ _ h2 q⟩
  | lt kvs =>
    rw [renOb] at e
    cases q : renL ρ (kvs.map (·.2)) with
    | none => rw [q] at e; cases e
    | some ys =>
      rw [q] at e
      have e : Ob.lt ((kvs.map (·.1)).zip ys) = b' := Option.some.inj e
      subst e
      have hl : (kvs.map (·.1)).length = ys.length := by rw [renL_len q]; simp
      obtain ⟨o, vs, h1, h2⟩ := h
      exact ⟨o, vs, by rw [map_zip1 hl]; exact h1, by rw [map_zip2 hl]; exact R _ _ _ h2 q⟩
  | dead => exact h.elim
theorem renOb_dead {b b' : Ob} (e : renOb ρ b = some b') : b' = .dead ↔ b = .dead := by
  cases b <;> rw [renOb] at e
  all_goals first
    | (cases e; simp; done)
    | (rename_i xs
       cases q : renL ρ _ with
       | none => rw [q] at e; cases e
       | some ys => rw [q] at e; cases e; simp)
end
theorem getObs_ok {ρ : Nat → Option Nat} {S : Store} : ∀ {ls : List Nat} {S0 : List Ob}, getObs ρ S ls = some S0 → S0.length = ls.length ∧ ∀ (i n : Nat), ls[i]? = some n → ∃ b b', S[n]? = some b ∧ renOb ρ b = some b' ∧ S0[i]? = some b'
  | [], _, e => by rw [getObs] at e; cases e; exact ⟨rfl, fun i n h => by simp at h⟩
  | n :: ns, _, e => by
    rw [getObs] at e
    split at e
    · rename_i b hb
      split at e
      · rename_i b' bs q1 q2
        cases e
        obtain ⟨h1, h2⟩ := getObs_ok q2
        refine ⟨by simp [h1], fun i m h => ?_⟩
        cases i with
        | zero => simp at h; subst h; exact ⟨b, b', hb, q1, by simp⟩
        | succ i => simpa using h2 i m (by simpa using h)
      · cases e
    · cases e
theorem putObs_ok {ρ : Nat → Option Nat} : ∀ {ls : List Nat} {bs : List Ob} {S S2 : Store}, ls.Nodup → putObs ρ ls bs S = some S2 → S2.length = S.length ∧ (∀ n, n ∉ ls → S2[n]? = S[n]?) ∧ ∀ (i n : Nat), ls[i]? = some n → ∃ b b', bs[i]? = some b ∧ renOb ρ b = some b' ∧ (n < S.length → S2[n]? = some b')
  | [], _, _, _, _, e => by rw [putObs] at e; cases e; exact ⟨rfl, fun _ _ => rfl, fun i n h => by simp at h⟩
  | n :: ns, [], _, _, _, e => by rw [putObs] at e; cases e
  | n :: ns, b :: bs, S, S2, hn, e => by
    rw [putObs] at e
    split at e
    · rename_i b' q
      obtain ⟨h0, h1, h2⟩ := putObs_ok (List.nodup_cons.mp hn).2 e
      refine ⟨by rw [h0, List.length_set], fun m hm => ?_, fun i m h => ?_⟩
      · rw [h1 m fun z => hm (List.mem_cons_of_mem _ z), List.getElem?_set_ne fun z => hm (by rw [z]; exact List.mem_cons_self)]
      · cases i with
        | zero =>
          simp at h
          subst h
          refine ⟨b, b', by simp, q, fun hl => ?_⟩
          rw [h1 n (List.nodup_cons.mp hn).1, List.getElem?_set_self hl]
        | succ i =>
          obtain ⟨c, c', q1, q2, q3⟩ := h2 i m (by simpa using h)
          exact ⟨c, c', by simpa using q1, q2, fun hl => q3 (by simpa using hl)⟩
    · cases e

/-- what a callee sees -/
def inMp (M : Mp) (ls : List Nat) : Mp := ⟨ls.map fun n => (M.m[n]?).join, M.r ++ (List.range M.m.length).filterMap fun n => if n ∈ ls then none else (M.m[n]?).join⟩
/-- what the caller sees behind it -/
def outMp (M Mc : Mp) (ls : List Nat) : Mp := ⟨(List.range M.m.length).map fun n => match ixOf ls n with | some i => (Mc.m[i]?).join | none => (M.m[n]?).join, M.r⟩
section
variable {K : PySem.W.Frag} {M Mc : Mp} {S S0 : Store} {H : Hp} {ls : List Nat}
theorem join_some {α : Type} {o : Option (Option α)} {a : α} (h : o.join = some a) : o = some (some a) := by
  cases o with
  | none => cases h
  | some x => cases x with
    | none => cases h
    | some y => cases h; rfl
theorem inMp_m {i : Nat} {e : Option Addr} : (inMp M ls).m[i]? = some e ↔ ∃ n, ls[i]? = some n ∧ e = (M.m[n]?).join := by
  unfold inMp
  rw [List.getElem?_map]
  cases h : ls[i]? with
  | none => simp
  | some n => simp [eq_comm]
theorem inMp_exc {a : Addr} (h : Exc (inMp M ls) a) : Exc M a := by
  rcases h with h | h
  · obtain ⟨i, hi⟩ := List.getElem?_of_mem h
    obtain ⟨n, _, h2⟩ := inMp_m.mp hi
    exact .inl (List.mem_of_getElem? (join_some h2.symm))
  · rcases List.mem_append.mp h with h | h
    · exact .inr h
    · obtain ⟨n, _, h2⟩ := List.mem_filterMap.mp h
      split at h2
      · cases h2
      · exact .inl (List.mem_of_getElem? (join_some h2))
theorem inMp_other {a : Addr} {n : Nat} (h : M.m[n]? = some (some a)) (hn : n ∉ ls) : a ∈ (inMp M ls).r :=
  List.mem_append_right _ (List.mem_filterMap.mpr ⟨n, List.mem_range.mpr (List.getElem?_eq_some_iff.mp h).1, by rw [if_neg hn, h]; rfl⟩)
theorem RS.callee (rs : RS K M S H) (hn : ls.Nodup) (g : getObs (ixOf ls) S ls = some S0) : RS K (inMp M ls) S0 H := by
  obtain ⟨g1, g2⟩ := getObs_ok g
  have hm : ∀ n n', ixOf ls n = some n' → ∀ e, M.m[n]? = some e → (inMp M ls).m[n']? = some e := fun n n' q e h => inMp_m.mpr ⟨n, ixOf_get q, by rw [h]; rfl⟩
  have hx : ∀ a, H a ≠ none → ¬ Exc M a → ¬ Exc (inMp M ls) a := fun a _ h z => h (inMp_exc z)
  refine ⟨by rw [g1]; simp [inMp], fun i a h => ?_, fun i b h nd => ?_, fun i i' a h h' => ?_, fun a h z => ?_, fun a h => ?_⟩
  · obtain ⟨n, h1, h2⟩ := inMp_m.mp h
    have h3 := join_some h2.symm
    obtain ⟨b, h4, h5⟩ := rs.obj n a h3
    obtain ⟨c, c', q1, q2, q3⟩ := g2 i n h1
    rw [h4] at q1
    cases q1
    exact ⟨c', q3, RO.ren_ok hm hx h5 q2⟩
  · have hi : i < ls.length := by rw [← g1]; exact (List.getElem?_eq_some_iff.mp h).1
    obtain ⟨c, c', q1, q2, q3⟩ := g2 i ls[i] (List.getElem?_eq_getElem hi)
    rw [h] at q3
    cases q3
    obtain ⟨a, ha⟩ := rs.lv _ c q1 fun z => nd ((renOb_dead q2).mpr z)
    exact ⟨a, inMp_m.mpr ⟨_, List.getElem?_eq_getElem hi, by rw [ha]; rfl⟩⟩
  · obtain ⟨n, h1, h2⟩ := inMp_m.mp h
    obtain ⟨n', h3, h4⟩ := inMp_m.mp h'
    have e := rs.inj n n' a (join_some h2.symm) (join_some h4.symm)
    subst e
    have q1 := ixOf_of hn h1
    rw [ixOf_of hn h3] at q1
    cases q1
    rfl
  · obtain ⟨i, hi⟩ := List.getElem?_of_mem z
    obtain ⟨n, h1, h2⟩ := inMp_m.mp hi
    have h3 := join_some h2.symm
    rcases List.mem_append.mp h with h | h
    · exact rs.rdis a h (List.mem_of_getElem? h3)
    · obtain ⟨n', _, h4⟩ := List.mem_filterMap.mp h
      split at h4
      · cases h4
      · rename_i hl
        have e := rs.inj n n' a h3 (join_some h4)
        subst e
        exact hl (List.mem_of_getElem? h1)
  · rcases List.mem_append.mp h with h | h
    · exact rs.rtrk a h
    · obtain ⟨n', _, h4⟩ := List.mem_filterMap.mp h
      split at h4
      · cases h4
      · have h5 := List.mem_of_getElem? (join_some h4)
        exact ⟨rs.mtrk h5, rs.mnt h5⟩
theorem outMp_m {n : Nat} (h : n < M.m.length) : (outMp M Mc ls).m[n]? = some (match ixOf ls n with | some i => (Mc.m[i]?).join | none => (M.m[n]?).join) := by
  unfold outMp
  rw [List.getElem?_map, List.getElem?_range h]
  rfl
theorem outMp_len : (outMp M Mc ls).m.length = M.m.length := by simp [outMp]
theorem out_some {n : Nat} {a : Addr} (h : (outMp M Mc ls).m[n]? = some (some a)) : (∃ i, ixOf ls n = some i ∧ Mc.m[i]? = some (some a)) ∨ (ixOf ls n = none ∧ M.m[n]? = some (some a)) := by
  have hl : n < M.m.length := by rw [← outMp_len (Mc := Mc) (ls := ls)]; exact (List.getElem?_eq_some_iff.mp h).1
  rw [outMp_m hl] at h
  cases q : ixOf ls n with
  | some i =>
    rw [q] at h
    exact .inl ⟨i, rfl, join_some (Option.some.inj h)⟩
  | none =>
    rw [q] at h
    exact .inr ⟨rfl, join_some (Option.some.inj h)⟩
variable {H' : Hp} {S' S2 : Store}
theorem Stp.caller (rs : RS K M S H) (hn : ls.Nodup) (s : Stp (inMp M ls) H Mc H') : Stp M H (outMp M Mc ls) H' := by
  have mcm : ∀ i a, Mc.m[i]? = some (some a) → i < ls.length → some a ∈ M.m := fun i a h hi => by
    have h1 : (inMp M ls).m[i]? = some ((M.m[ls[i]]?).join) := inMp_m.mpr ⟨ls[i], List.getElem?_eq_getElem hi, rfl⟩
    obtain ⟨e', h2, h3⟩ := s.ext i _ h1
    rw [h] at h2
    cases h2
    rcases h3 with h3 | h3
    · exact List.mem_of_getElem? (join_some h3.symm)
    · cases h3
  refine ⟨⟨fun n e h => ?_, fun a o h nx => s.evo a o h fun z => nx (inMp_exc z), s.tup, s.liv, fun a h => ?_, fun a h => .inl h⟩, rfl, fun a h => s.rk a (List.mem_append_left _ h)⟩
  · have hl := (List.getElem?_eq_some_iff.mp h).1
    refine ⟨_, outMp_m hl, ?_⟩
    cases q : ixOf ls n with
    | none => simp only; rw [h]; exact .inl rfl
    | some i =>
      simp only
      have h1 : (inMp M ls).m[i]? = some e := inMp_m.mpr ⟨n, ixOf_get q, by rw [h]; rfl⟩
      obtain ⟨e', h2, h3⟩ := s.ext i _ h1
      rw [h2]
      exact h3
  · obtain ⟨n, hn'⟩ := List.getElem?_of_mem h
    rcases out_some hn' with ⟨i, h1, h2⟩ | ⟨_, h2⟩
    · exact .inl (mcm i a h2 (List.getElem?_eq_some_iff.mp (ixOf_get h1)).1)
    · exact .inl (List.mem_of_getElem? h2)
theorem out_exc (rs : RS K M S H) (s : Stp (inMp M ls) H Mc H') {a : Addr} (h : Exc (outMp M Mc ls) a) : Exc Mc a := by
  rcases h with h | h
  · obtain ⟨n, hn'⟩ := List.getElem?_of_mem h
    rcases out_some hn' with ⟨i, h1, h2⟩ | ⟨h1, h2⟩
    · exact .inl (List.mem_of_getElem? h2)
    · exact .inr (by rw [s.rr]; exact inMp_other h2 (ixOf_none h1))
  · exact .inr (by rw [s.rr]; exact List.mem_append_left _ h)
theorem RS.caller (rs : RS K M S H) (hn : ls.Nodup) (hls : ∀ n ∈ ls, n < S.length) (s : Stp (inMp M ls) H Mc H') (rc : RS K Mc S' H') (p : putObs (fun i => ls[i]?) ls S' S = some S2) : RS K (outMp M Mc ls) S2 H' := by
  obtain ⟨p0, p1, p2⟩ := putObs_ok hn p
  have st := Stp.caller rs hn s
  have hm : ∀ i n, ls[i]? = some n → ∀ e, Mc.m[i]? = some e → (outMp M Mc ls).m[n]? = some e := fun i n q e h => by
    have hl : n < M.m.length := by rw [rs.len]; exact hls n (List.mem_of_getElem? q)
    rw [outMp_m hl, ixOf_of hn q]
    simp only
    rw [h]; rfl
  have hx : ∀ a, H' a ≠ none → ¬ Exc Mc a → ¬ Exc (outMp M Mc ls) a := fun a _ h z => h (out_exc rs s z)
  refine ⟨by rw [outMp_len, p0]; exact rs.len, fun n a h => ?_, fun n b h nd => ?_, fun n n' a h h' => ?_, fun a h z => ?_, fun a h => ?_⟩
  · rcases out_some h with ⟨i, h1, h2⟩ | ⟨h1, h2⟩
    · obtain ⟨b, h3, h4⟩ := rc.obj i a h2
      have hg := ixOf_get h1
      obtain ⟨c, c', q1, q2, q3⟩ := p2 i n hg
      rw [h3] at q1
      cases q1
      exact ⟨c', q3 (hls n (List.mem_of_getElem? hg)), RO.ren_ok hm hx h4 q2⟩
    · obtain ⟨b, h3, h4⟩ := rs.obj n a h2
      have hnl := ixOf_none h1
      exact ⟨b, by rw [p1 n hnl]; exact h3, h4.mono0 st.toStep (s.rk a (inMp_other h2 hnl))⟩
  · cases q : ixOf ls n with
    | some i =>
      have hg := ixOf_get q
      have hl := hls n (List.mem_of_getElem? hg)
      obtain ⟨c, c', q1, q2, q3⟩ := p2 i n hg
      rw [q3 hl] at h
      cases h
      obtain ⟨a, ha⟩ := rc.lv i c q1 fun z => nd ((renOb_dead q2).mpr z)
      exact ⟨a, hm i n hg _ ha⟩
    | none =>
      rw [p1 n (ixOf_none q)] at h
      obtain ⟨a, ha⟩ := rs.lv n b h nd
      refine ⟨a, ?_⟩
      rw [outMp_m (List.getElem?_eq_some_iff.mp ha).1, q]
      simp only
      rw [ha]; rfl
  · rcases out_some h with ⟨i, h1, h2⟩ | ⟨h1, h2⟩
    · rcases out_some h' with ⟨i', h3, h4⟩ | ⟨h3, h4⟩
      · have e := rc.inj i i' a h2 h4
        subst e
        have q1 := ixOf_get h1
        rw [ixOf_get h3] at q1
        cases q1
        rfl
      · exact absurd (List.mem_of_getElem? h2) (rc.rdis a (by rw [s.rr]; exact inMp_other h4 (ixOf_none h3)))
    · rcases out_some h' with ⟨i', h3, h4⟩ | ⟨h3, h4⟩
      · exact absurd (List.mem_of_getElem? h4) (rc.rdis a (by rw [s.rr]; exact inMp_other h2 (ixOf_none h1)))
      · exact rs.inj n n' a h2 h4
  · rcases out_exc rs s (.inl z) with w | w
    · exact rc.rdis a (by rw [s.rr]; exact List.mem_append_left _ h) w
    · obtain ⟨n, hn'⟩ := List.getElem?_of_mem z
      rcases st.fm a z with y | y
      · exact rs.rdis a h y
      · exact (rs.rtrk a h).1 y
  · have hr := rs.rtrk a h
    rw [st.rk a h]
    exact hr

theorem renObs_ok {ρ : Nat → Option Nat} : ∀ {bs ex : List Ob}, renObs ρ bs = some ex → ex.length = bs.length ∧ ∀ (i : Nat) b, bs[i]? = some b → ∃ b', renOb ρ b = some b' ∧ ex[i]? = some b'
  | [], _, e => by rw [renObs] at e; cases e; exact ⟨rfl, fun i b h => by simp at h⟩
  | b :: bs, _, e => by
    rw [renObs] at e
    split at e
    · rename_i b' bs' q1 q2
      cases e
      obtain ⟨h1, h2⟩ := renObs_ok q2
      refine ⟨by simp [h1], fun i c h => ?_⟩
      cases i with
      | zero => simp at h; subst h; exact ⟨b', q1, by simp⟩
      | succ i => simpa using h2 i c (by simpa using h)
    · cases e
/-- .. where the callee's own objects stay -/
def outMp2 (M Mc : Mp) (ls : List Nat) : Mp := ⟨(outMp M Mc ls).m ++ Mc.m.drop ls.length, M.r⟩
theorem out2_some {n : Nat} {a : Addr} (h : (outMp2 M Mc ls).m[n]? = some (some a)) : (n < M.m.length ∧ (outMp M Mc ls).m[n]? = some (some a)) ∨ (M.m.length ≤ n ∧ Mc.m[ls.length + (n - M.m.length)]? = some (some a)) := by
  unfold outMp2 at h
  by_cases hl : n < M.m.length
  · have h : ((outMp M Mc ls).m ++ Mc.m.drop ls.length)[n]? = some (some a) := h
    rw [List.getElem?_append_left (by rw [outMp_len]; exact hl)] at h
    exact .inl ⟨hl, h⟩
  · have h : ((outMp M Mc ls).m ++ Mc.m.drop ls.length)[n]? = some (some a) := h
    rw [List.getElem?_append_right (by rw [outMp_len]; omega), outMp_len, List.getElem?_drop] at h
    exact .inr ⟨by omega, h⟩
theorem out2_exc (rs : RS K M S H) (s : Stp (inMp M ls) H Mc H') {a : Addr} (h : Exc (outMp2 M Mc ls) a) : Exc Mc a := by
  rcases h with h | h
  · rcases List.mem_append.mp h with h | h
    · exact out_exc rs s (.inl h)
    · exact .inl (List.mem_of_mem_drop h)
  · exact .inr (by rw [s.rr]; exact List.mem_append_left _ h)
theorem Stp.caller2 (rs : RS K M S H) (hn : ls.Nodup) (s : Stp (inMp M ls) H Mc H') : Stp M H (outMp2 M Mc ls) H' := by
  have st := Stp.caller rs hn s
  refine ⟨⟨fun n e h => ?_, st.evo, st.tup, st.liv, fun a h => ?_, fun a h => .inl h⟩, rfl, st.rk⟩
  · obtain ⟨e', h1, h2⟩ := st.ext n e h
    refine ⟨e', ?_, h2⟩
    show ((outMp M Mc ls).m ++ Mc.m.drop ls.length)[n]? = _
    rw [List.getElem?_append_left (List.getElem?_eq_some_iff.mp h1).1]
    exact h1
  · rcases List.mem_append.mp h with h | h
    · exact st.fm a h
    · rcases s.fm a (List.mem_of_mem_drop h) with h | h
      · obtain ⟨i, hi⟩ := List.getElem?_of_mem h
        obtain ⟨n, _, h2⟩ := inMp_m.mp hi
        exact .inl (List.mem_of_getElem? (join_some h2.symm))
      · exact .inr h
theorem back_hm (rs : RS K M S H) (hn : ls.Nodup) (hls : ∀ n ∈ ls, n < S.length) (rc : RS K Mc S' H') : ∀ i n, backAll ls S.length i = some n → ∀ e, Mc.m[i]? = some e → (outMp2 M Mc ls).m[n]? = some e := fun i n q e h => by
  unfold backAll at q
  split at q
  · rename_i hi
    have hl : n < M.m.length := by rw [rs.len]; exact hls n (List.mem_of_getElem? q)
    show ((outMp M Mc ls).m ++ Mc.m.drop ls.length)[n]? = _
    rw [List.getElem?_append_left (by rw [outMp_len]; exact hl), outMp_m hl, ixOf_of hn q]
    simp only
    rw [h]; rfl
  · rename_i hi
    have e1 : n = S.length + (i - ls.length) := (Option.some.inj q).symm
    show ((outMp M Mc ls).m ++ Mc.m.drop ls.length)[n]? = _
    rw [List.getElem?_append_right (by rw [outMp_len, rs.len]; omega), outMp_len, List.getElem?_drop, rs.len]
    have e2 : ls.length + (n - S.length) = i := by omega
    rw [e2]
    exact h
theorem RS.caller2 {ex : List Ob} (rs : RS K M S H) (hn : ls.Nodup) (hls : ∀ n ∈ ls, n < S.length) (s : Stp (inMp M ls) H Mc H') (rc : RS K Mc S' H') (p : putObs (backAll ls S.length) ls S' S = some S2) (r : renObs (backAll ls S.length) (S'.drop ls.length) = some ex) : RS K (outMp2 M Mc ls) (S2 ++ ex) H' := by
  obtain ⟨p0, p1, p2⟩ := putObs_ok hn p
  obtain ⟨r0, r1⟩ := renObs_ok r
  have st := Stp.caller2 rs hn s
  have hm := back_hm rs hn hls rc
  have hx : ∀ a, H' a ≠ none → ¬ Exc Mc a → ¬ Exc (outMp2 M Mc ls) a := fun a _ h z => h (out2_exc rs s z)
  have hj : ls.length ≤ Mc.m.length := by
    by_cases h0 : ls.length = 0
    · omega
    · have h1 : (inMp M ls).m[ls.length - 1]? = some ((M.m[ls[ls.length - 1]'(by omega)]?).join) := inMp_m.mpr ⟨_, List.getElem?_eq_getElem (by omega), rfl⟩
      obtain ⟨e', h2, _⟩ := s.ext _ _ h1
      have := (List.getElem?_eq_some_iff.mp h2).1
      omega
  have hjS : ls.length ≤ S'.length := by rw [← rc.len]; exact hj
  refine ⟨?_, fun n a h => ?_, fun n b h nd => ?_, fun n n' a h h' => ?_, fun a h z => ?_, fun a h => ?_⟩
  · show ((outMp M Mc ls).m ++ Mc.m.drop ls.length).length = _
    rw [List.length_append, List.length_append, outMp_len, p0, r0, rs.len, List.length_drop, List.length_drop, rc.len]
  · rcases out2_some h with ⟨hl, h⟩ | ⟨hl, h⟩
    · rcases out_some h with ⟨i, h1, h2⟩ | ⟨h1, h2⟩
      · obtain ⟨b, h3, h4⟩ := rc.obj i a h2
        have hg := ixOf_get h1
        obtain ⟨c, c', q1, q2, q3⟩ := p2 i n hg
        rw [h3] at q1
        cases q1
        exact ⟨c', by rw [List.getElem?_append_left (by rw [p0, ← rs.len]; exact hl)]; exact q3 (hls n (List.mem_of_getElem? hg)), RO.ren_ok hm hx h4 q2⟩
      · obtain ⟨b, h3, h4⟩ := rs.obj n a h2
        have hnl := ixOf_none h1
        exact ⟨b, by rw [List.getElem?_append_left (by rw [p0, ← rs.len]; exact hl), p1 n hnl]; exact h3, h4.mono0 st.toStep (s.rk a (inMp_other h2 hnl))⟩
    · obtain ⟨b, h3, h4⟩ := rc.obj _ a h
      have h5 : (S'.drop ls.length)[n - M.m.length]? = some b := by rw [List.getElem?_drop]; exact h3
      obtain ⟨b', q1, q2⟩ := r1 _ b h5
      exact ⟨b', by rw [List.getElem?_append_right (by rw [p0, ← rs.len]; exact hl), p0, ← rs.len]; exact q2, RO.ren_ok hm hx h4 q1⟩
  · by_cases hl : n < S.length
    · rw [List.getElem?_append_left (by rw [p0]; exact hl)] at h
      cases q : ixOf ls n with
      | some i =>
        have hg := ixOf_get q
        obtain ⟨c, c', q1, q2, q3⟩ := p2 i n hg
        rw [q3 hl] at h
        cases h
        obtain ⟨a, ha⟩ := rc.lv i c q1 fun z => nd ((renOb_dead q2).mpr z)
        exact ⟨a, hm i n (by unfold backAll; rw [if_pos (List.getElem?_eq_some_iff.mp hg).1]; exact hg) _ ha⟩
      | none =>
        rw [p1 n (ixOf_none q)] at h
        obtain ⟨a, ha⟩ := rs.lv n b h nd
        refine ⟨a, ?_⟩
        have hl' : n < M.m.length := by rw [rs.len]; exact hl
        show ((outMp M Mc ls).m ++ Mc.m.drop ls.length)[n]? = _
        rw [List.getElem?_append_left (by rw [outMp_len]; exact hl'), outMp_m hl', q]
        simp only
        rw [ha]; rfl
    · rw [List.getElem?_append_right (by rw [p0]; omega), p0] at h
      have hlt : n - S.length < (S'.drop ls.length).length := by rw [← r0]; exact (List.getElem?_eq_some_iff.mp h).1
      obtain ⟨b', q1, q2⟩ := r1 _ _ (List.getElem?_eq_getElem hlt)
      rw [h] at q2
      cases q2
      have h5 : S'[ls.length + (n - S.length)]? = some (S'.drop ls.length)[n - S.length] := by rw [← List.getElem?_drop]; exact List.getElem?_eq_getElem hlt
      obtain ⟨a, ha⟩ := rc.lv _ _ h5 fun z => nd ((renOb_dead q1).mpr z)
      refine ⟨a, hm (ls.length + (n - S.length)) n ?_ _ ha⟩
      unfold backAll
      rw [if_neg (by omega)]
      congr 1
      omega
  · rcases out2_some h with ⟨hl, h⟩ | ⟨hl, h⟩
    · rcases out2_some h' with ⟨hl', h'⟩ | ⟨hl', h'⟩
      · rcases out_some h with ⟨i, h1, h2⟩ | ⟨h1, h2⟩
        · rcases out_some h' with ⟨i', h3, h4⟩ | ⟨h3, h4⟩
          · have e := rc.inj i i' a h2 h4
            subst e
            have q1 := ixOf_get h1
            rw [ixOf_get h3] at q1
            cases q1
            rfl
          · exact absurd (List.mem_of_getElem? h2) (rc.rdis a (by rw [s.rr]; exact inMp_other h4 (ixOf_none h3)))
        · rcases out_some h' with ⟨i', h3, h4⟩ | ⟨h3, h4⟩
          · exact absurd (List.mem_of_getElem? h4) (rc.rdis a (by rw [s.rr]; exact inMp_other h2 (ixOf_none h1)))
          · exact rs.inj n n' a h2 h4
      · rcases out_some h with ⟨i, h1, h2⟩ | ⟨h1, h2⟩
        · have e := rc.inj _ _ a h2 h'
          have := (List.getElem?_eq_some_iff.mp (ixOf_get h1)).1
          omega
        · exact absurd (List.mem_of_getElem? h') (rc.rdis a (by rw [s.rr]; exact inMp_other h2 (ixOf_none h1)))
    · rcases out2_some h' with ⟨hl', h'⟩ | ⟨hl', h'⟩
      · rcases out_some h' with ⟨i, h1, h2⟩ | ⟨h1, h2⟩
        · have e := rc.inj _ _ a h2 h
          have := (List.getElem?_eq_some_iff.mp (ixOf_get h1)).1
          omega
        · exact absurd (List.mem_of_getElem? h) (rc.rdis a (by rw [s.rr]; exact inMp_other h2 (ixOf_none h1)))
      · have e := rc.inj _ _ a h h'
        omega
  · rcases out2_exc rs s (.inl z) with w | w
    · exact rc.rdis a (by rw [s.rr]; exact List.mem_append_left _ h) w
    · rcases st.fm a z with y | y
      · exact rs.rdis a h y
      · exact (rs.rtrk a h).1 y
  · have hr := rs.rtrk a h
    rw [st.rk a h]
    exact hr
end

/-- what a def promises, by its meaning -/
def spF (K : PySem.W.Frag) (g : Fn) : Sp := fun vs H Q _ => ∃ ds S M, RDs K M H ds vs ∧ RS K M S H ∧ Go K W0 M H (g ds S) fun d M' H' _ => ∀ v, RD K M' H' d v → Q v H'
theorem spF_call {K : PySem.W.Frag} {W : Wish} {g : Fn} {ds : List D} {S : Store} {M : Mp} {H : Hp} {Q : VK} {vs : List V} {E : XK} (rd : RDs K M H ds vs) (rs : RS K M S H) (go : Go K W M H (callD g ds S) fun d M' H' _ => ∀ v, RD K M' H' d v → Q v H') : spF K g vs H Q E := by
  obtain ⟨r, S2, e, fin⟩ := go
  unfold callD callIn at e
  have hn : (callLs ds S).Nodup := dd_nodup _
  generalize callLs ds S = ls at e hn
  split at e
  · rename_i ds' S0 hds hS0
    split at e
    · rename_i d S' hg
      have hls : ∀ n ∈ ls, n < S.length := fun n hm => by
        obtain ⟨i, hi⟩ := List.getElem?_of_mem hm
        obtain ⟨c, c', q1, _⟩ := (getObs_ok hS0).2 i n hi
        exact (List.getElem?_eq_some_iff.mp q1).1
      unfold callOut at e
      split at e
      · rename_i d' S3 hd hp
        cases e
        have hm : ∀ n n', ixOf ls n = some n' → ∀ e, M.m[n]? = some e → (inMp M ls).m[n']? = some e := fun n n' q e h => inMp_m.mpr ⟨n, ixOf_get q, by rw [h]; rfl⟩
        refine ⟨ds', S0, inMp M ls, (RD.ren_ok hm fun a _ h z => h (inMp_exc z)).2 ds vs ds' rd hds, rs.callee hn hS0, .ok d, S', hg, fun Mc H' s rc v rv => ?_⟩
        refine fin (outMp M Mc ls) H' (Stp.caller rs hn s) (RS.caller rs hn hls s rc hp) v ?_
        refine (RD.ren_ok (M := Mc) (ρ := fun i => ls[i]?) (fun i n q e h => ?_) fun a _ h z => h (out_exc rs s z)).1 d v d' rv hd
        rw [outMp_m (by rw [rs.len]; exact hls n (List.mem_of_getElem? q)), ixOf_of hn q]
        simp only
        rw [h]; rfl
      · split at e
        · rename_i d' S3 ex hd hp hr
          cases e
          have hm : ∀ n n', ixOf ls n = some n' → ∀ e, M.m[n]? = some e → (inMp M ls).m[n']? = some e := fun n n' q e h => inMp_m.mpr ⟨n, ixOf_get q, by rw [h]; rfl⟩
          refine ⟨ds', S0, inMp M ls, (RD.ren_ok hm fun a _ h z => h (inMp_exc z)).2 ds vs ds' rd hds, rs.callee hn hS0, .ok d, S', hg, fun Mc H' s rc v rv => ?_⟩
          refine fin (outMp2 M Mc ls) H' (Stp.caller2 rs hn s) (RS.caller2 rs hn hls s rc hp hr) v ?_
          exact (RD.ren_ok (M := Mc) (ρ := backAll ls S.length) (back_hm rs hn hls rc) fun a _ h z => h (out2_exc rs s z)).1 d v d' rv hd
        · cases e
    · cases e
  · cases e

/-- a def of the program that can be called: at most k calls deep -/
structure FnM (P : Program) (w : World) (K : PySem.W.Frag) (mg : Str → Option Value) (base : Heap) (k : Nat) (x : Str) (g : Fn) : Prop where
  ex : ∃ f fd ps, FnOk P w K mg base CX0 k f fd ps (spF K g) ∧ mg x = some (.ref f) ∧ PySem.W.keepIn K (.ref f) = true ∧ Binds K fd ps []
def mCall (g : Fn) (fa : Cm (List D)) : Cm D := fun env S => (fa env S).bind fun ds S1 => callD g ds S1
section
variable {X : Cx} {W : Wish} {e : Expr} {es : List Expr} {pos : Pos} {x : Str} {fa : Cm (List D)} {g : Fn}
theorem Room.le {j k : Nat} {A : Around} (h : Room j A) (hk : k ≤ j) : Room k A := h.mono hk
theorem ie_call {p : Pos} {k j : Nat} (F : FnM X.prog X.w X.K X.mg X.base k x g) (hr : Room j X.A) (hk : k ≤ j) (ha : IA X W (e :: es) fa) (hg : Gl X x := by rfl) (hdb : (x == ("__debug__" : Str)) = false := by decide)
    (he : starEach (e :: es) X.env = (false, eval e X.env) :: starEach es X.env := by rfl) (hpl : (backTo pos (starEach es X.env)).any (·.1) = false := by rfl) : IE X W (.Call (.Name x p) (e :: es) [] pos) (mCall g fa) := by
  obtain ⟨f, fd, ps, F1, F2, F3, F4⟩ := F.ex
  refine PE_weak (pe_call (E := E0) F1 (hr.mono hk) hg F2 F3 F4 .nil pass0 ha hdb he hpl) fun σ H Q h => ?_
  obtain ⟨env, S, M, re, rs, go⟩ := h
  refine ⟨env, S, M, re, rs, (Go.bind go).imp fun ds M1 H1 S1 s1 rs1 g1 vs rvs => ?_⟩
  show spF X.K g (vs ++ []) H1 Q E0
  rw [List.append_nil]
  exact spF_call rvs rs1 g1
end
/-- the meaning of a def with np parameters and nl further names, by its body's -/
def mDef (np nl : Nat) (f : Sm) : Fn := fun ds S => if ds.length = np then (f (ds.map some ++ List.replicate nl none) S).bind fun o S1 => match o with
    | .ret d => ok d S1
    | .nx _ => ok .non S1
    | _ => none
  else none
section
variable {P : Program} {w : World} {K : PySem.W.Frag} {mg : Str → Option Value} {base : Heap}
theorem start_env {M : Mp} {H : Hp} {N : List Str} {ds : List D} {vs : List V} (r : RDs K M H ds vs) : REnv K M H (ds.map some ++ List.replicate (N.length - ds.length) none) (L2.start N vs) := by
  have hl := r.length
  refine ⟨by simp [L2.start, hl], fun i d e => ?_⟩
  unfold L2.start
  by_cases hi : i < ds.length
  · rw [List.getElem?_append_left (by simpa using hi), List.getElem?_map] at e
    cases q : ds[i]? with
    | none => rw [q] at e; cases e
    | some d' =>
      rw [q] at e
      cases e
      obtain ⟨v, h1, h2⟩ := r.get q
      exact ⟨v, by rw [List.getElem?_append_left (by rw [List.length_map, ← hl]; exact hi), List.getElem?_map, h1]; rfl, h2⟩
  · rw [List.getElem?_append_right (by simpa using hi)] at e
    rw [List.getElem?_replicate] at e
    split at e <;> cases e
theorem fn_def {x qual : Str} {st : Stmt} {f : Addr} {fd : FuncData} {N ps : List Str} {k : Nat} {np nl : Nat} {sf : Sm} (F : Fun K x qual st f fd) (S : FnScope N ps (defScope st)) (hnp : ps.length = np) (hnl : N.length - np = nl)
    (hb : ∀ (cdv : Value) (A : Around) (outer : List PySem.Env) (s : Shared) (H : Hp) (E : XK), Room k (A.deeper (envOfC qual (defScope st) s.heap.objs.size f cdv)) → ISs (cxOf CX0 P w K mg base N qual (defScope st) f cdv A outer s H E).nox W0 (defBody st) sf) :
    FnOk P w K mg base CX0 (k + 1) f fd ps (spF K (mDef np nl sf)) := by
  refine F.ok S (fun vs H Q E h => ?_) fun cdv A outer s H vs Q E hr h => ⟨_, hb cdv A outer s H E hr, ?_⟩
  · obtain ⟨ds, S0, M, rd, rs, go⟩ := h
    unfold mDef at go
    split at go
    · rename_i e
      rw [← rd.length, e, hnp]
    · exact go.none_elim
  · obtain ⟨ds, S0, M, rd, rs, go⟩ := h
    unfold mDef at go
    split at go
    · rename_i e
      refine ⟨_, S0, M, ?_, rs, (Go.bind go).imp fun o M1 H1 S1 s1 rs1 g1 => ?_⟩
      · have := start_env (N := N) rd
        rw [e, hnl] at this
        exact this
      · cases o with
        | ret d => exact g1.ok rs1
        | nx env => exact fun σ _ => g1.ok rs1 _ .non
        | brk env => exact g1.none_elim
        | cnt env => exact g1.none_elim
    · exact go.none_elim
theorem fn_m {x qual : Str} {st : Stmt} {f : Addr} {fd : FuncData} {ps : List Str} {k : Nat} {g : Fn} (F : Fun K x qual st f fd) (hm : mg x = some (.ref f)) (hb : Binds K fd ps []) (h : FnOk P w K mg base CX0 k f fd ps (spF K g)) : FnM P w K mg base k x g :=
  ⟨f, fd, ps, h, hm, F.kp, hb⟩
end
end Md

/-! MdOps: what the operators, built-ins and methods do to data. -/
namespace Md
open PySem PySem.Spec PyProof.Rows L2

section
variable {K : PySem.W.Frag} {W : Wish} {M : Mp} {S : Store} {H : Hp}
theorem goD {d : D} {Q : VK} (go : Go K W M H (ok d S) fun d M' H' _ => ∀ v, RD K M' H' d v → Q v H') (rs : RS K M S H) {v : V} (r : RD K M H d v) : Q v H := go.ok rs v r
/-- a new tuple, a new list, at once a value -/
theorem goT {ds : List D} {vs : List V} {Q : VK} (go : Go K W M H (ok (.tup ds) S) fun d M' H' _ => ∀ v, RD K M' H' d v → Q v H') (rs : RS K M S H) (r : RDs K M H ds vs) : ∀ p, H p = none → Q (.ref p) (upd H p (.tup vs)) :=
  fun p hp => go.okM (Stp.new rs hp) (rs.new hp) _ (.new_tup rs r hp)
theorem goL {ds : List D} {vs : List V} {Q : VK} (go : Go K W M H (ok (.lst ds) S) fun d M' H' _ => ∀ v, RD K M' H' d v → Q v H') (rs : RS K M S H) (r : RDs K M H ds vs) : ∀ p, H p = none → Q (.ref p) (upd H p (.lst vs)) :=
  fun p hp => go.okM (Stp.new rs hp) (rs.new hp) _ (.new_lst rs r hp)

/-! ### arithmetic -/
def addD (x y : D) (S : Store) : Res D := match x, y with
  | .int i, .int j => ok (.int (i + j)) S
  | .str a, .str b => if a.length + b.length ≤ sizeLine then ok (.str (a ++ b)) S else none
  | x, y => match asT x, asT y with
    | some xs, some ys => if xs.length + ys.length ≤ sizeLine then (if xs.isEmpty = true then ok y S else if ys.isEmpty = true then ok x S else ok (.tup (xs ++ ys)) S) else none
    | _, _ => match asL1 x S, asL1 y S with
      | some xs, some ys => if xs.length + ys.length ≤ sizeLine then ok (.lst (xs ++ ys)) S else none
      | _, _ => none
def rAdd (K : PySem.W.Frag) : R2 := fun x y H Q => (∃ i j, x = .int i ∧ y = .int j ∧ Q (.int (i + j)) H) ∨ (∃ i j, x = .str i ∧ y = .str j ∧ i.length + j.length ≤ sizeLine ∧ Q (.str (i ++ j)) H) ∨ rCatA K x y H Q ∨ rCat x y H Q
theorem op_addX {X : Cx} : OpR X (binaryOp .Add) (rAdd X.K) := op_add.or (op_add_str.or (op_catA.or op_cat))
theorem addC : OpC K W (rAdd K) addD := fun x y v w M S H Q rs rx ry go => by
  unfold addD at go
  split at go
  · rw [rx.int_inv, ry.int_inv]
    exact .inl ⟨_, _, rfl, rfl, goD go rs (.int _)⟩
  · rw [rx.str_inv, ry.str_inv]
    split at go
    · exact .inr (.inl ⟨_, _, rfl, rfl, by assumption, goD go rs (.str _)⟩)
    · exact go.none_elim
  · split at go
    · rename_i xs ys h1 h2
      split at go
      · rename_i hl
        obtain ⟨a, vs, rfl, q1, r1⟩ := asT_rd rx h1
        obtain ⟨b, ws, rfl, q2, r2⟩ := asT_rd ry h2
        refine .inr (.inr (.inl ⟨a, b, vs, ws, rfl, rfl, q1, q2, by rw [← r1.length, ← r2.length]; exact hl, fun e => ?_, fun e e2 => ?_, fun e e2 => ?_⟩))
        · have : xs.isEmpty = true := by rw [← r1.isEmpty, e]; rfl
          rw [if_pos this] at go
          exact goD go rs ry
        · have n1 : ¬ xs.isEmpty = true := by rw [← r1.isEmpty]; simpa using e
          have n2 : ys.isEmpty = true := by rw [← r2.isEmpty, e2]; rfl
          rw [if_neg n1, if_pos n2] at go
          exact goD go rs rx
        · have n1 : ¬ xs.isEmpty = true := by rw [← r1.isEmpty]; simpa using e
          have n2 : ¬ ys.isEmpty = true := by rw [← r2.isEmpty]; simpa using e2
          rw [if_neg n1, if_neg n2] at go
          exact goT go rs (r1.append r2)
      · exact go.none_elim
    · split at go
      · rename_i xs ys h1 h2
        split at go
        · rename_i hl
          obtain ⟨a, vs, rfl, q1, r1⟩ := asL1_rd rs rx h1
          obtain ⟨b, ws, rfl, q2, r2⟩ := asL1_rd rs ry h2
          exact .inr (.inr (.inr ⟨a, b, vs, ws, rfl, rfl, q1, q2, by rw [← r1.length, ← r2.length]; exact hl, goL go rs (r1.append r2)⟩))
        · exact go.none_elim
      · exact go.none_elim
def subD (x y : D) (S : Store) : Res D := match x, y with
  | .int i, .int j => ok (.int (i - j)) S
  | _, _ => none
theorem subC : OpC K W (rI0 fun i j => .int (i - j)) subD := fun x y v w M S H Q rs rx ry go => by
  unfold subD at go
  split at go
  · rw [rx.int_inv, ry.int_inv]
    exact ⟨_, _, rfl, rfl, goD go rs (.int _)⟩
  · exact go.none_elim
/-- products: one factor is small, or both are below half a million bits -/
instance {i j : Int} : Decidable (CMul i j) := by unfold CMul; infer_instance
def mulD (x y : D) (S : Store) : Res D := match x, y with
  | .int i, .int j => if CMul i j then ok (.int (i * j)) S else none
  | .str a, .int k => if a.length * k.toNat ≤ 1000000 ∧ k < 1000000 ∧ -1000000 < k then ok (.str ⟨((List.replicate k.toNat a.cps.toList).flatten).toArray⟩) S else none
  | x, .int k => match asL1 x S with
    | some xs => if xs.length * k.toNat ≤ sizeLine ∧ -(2 ^ 63) ≤ k ∧ k < 2 ^ 63 then ok (.lst (List.replicate k.toNat xs).flatten) S else none
    | none => none
  | _, _ => none
def rRepS : R2 := fun x y H Q => ∃ a k, x = .str a ∧ y = .int k ∧ (a.length * k.toNat ≤ 1000000 ∧ k < 1000000 ∧ -1000000 < k) ∧ Q (.str ⟨((List.replicate k.toNat a.cps.toList).flatten).toArray⟩) H
theorem foldl_cat (l : List (Array Nat)) : ∀ acc : Array Nat, (l.foldl (· ++ ·) acc).toList = acc.toList ++ (l.map (·.toList)).flatten := by
  induction l with
  | nil => intro acc; simp
  | cons x l ih => intro acc; rw [List.foldl_cons, ih]; simp [List.append_assoc]
theorem rep_cps (a : Str) (k : Nat) : (⟨(List.replicate k a.cps).foldl (· ++ ·) #[]⟩ : Str) = ⟨((List.replicate k a.cps.toList).flatten).toArray⟩ := by
  congr 1
  apply Array.toList_inj.mp
  rw [foldl_cat, List.map_replicate]
  rfl
theorem op_repS {X : Cx} : OpR X (binaryOp .Mult) rRepS := by
  intro pins s σ H x y v u Q I rx ry h
  obtain ⟨a, k, rfl, rfl, ⟨h1, h2, h3⟩, q⟩ := h
  obtain ⟨t, rfl⟩ := rx
  obtain ⟨t', rfl⟩ := ry
  refine PySem.P.mul_str (by
    rw [decide_eq_false (by omega), decide_eq_false (by omega)]; rfl) (fun g1 _ => ?_) (fun g1 g2 => ?_) ?_
  · have hk : 1 ≤ k := by omega
    have e : (k.toNat : Int) = k := by omega
    have h4 : (a.length : Int) * k ≤ 1000000 := by
      have : ((a.length * k.toNat : Nat) : Int) ≤ 1000000 := Int.ofNat_le.mpr h1
      rw [Int.natCast_mul, e] at this
      exact this
    have h5 : (a.length : Int) ≤ (2 ^ 63 - 1) / k := by
      rw [Int.le_ediv_iff_mul_le (by omega)]
      omega
    omega
  · unfold Builtin.Str.tooLong
    have : a.length * k.toNat ≤ sizeLine := Nat.le_trans h1 (by decide)
    simp only [decide_eq_false_iff_not, Nat.not_lt]
    exact this
  · by_cases g1 : k < 1
    · rw [if_pos g1]
      have e : k.toNat = 0 := by omega
      rw [e] at q
      exact ⟨by decide, ⟨.str _, H, I.tok _, ⟨_, rfl⟩, q⟩⟩
    · rw [if_neg g1]
      by_cases g2 : (k == 1 || a.length == 0) = true
      · rw [if_pos g2]
        have e : (⟨((List.replicate k.toNat a.cps.toList).flatten).toArray⟩ : Str) = a := by
          rcases Bool.or_eq_true_iff.mp g2 with g | g
          · have e : k = 1 := by simpa using g
            subst e
            simp
          · have e : a.cps.size = 0 := eq_of_beq g
            have e1 : a.cps = #[] := Array.eq_empty_of_size_eq_zero e
            obtain ⟨c⟩ := a
            have e1 : c = #[] := e1
            subst e1
            have : (List.replicate k.toNat ([] : List Nat)).flatten = [] := by
              induction k.toNat with
              | zero => rfl
              | succ n ih => rw [List.replicate_succ, List.flatten_cons, ih]; rfl
            show (⟨((List.replicate k.toNat ([] : List Nat)).flatten).toArray⟩ : Str) = _
            rw [this]
        rw [e] at q
        exact ⟨.str _, H, I, ⟨_, rfl⟩, q⟩
      · rw [if_neg g2, rep_cps]
        refine ⟨?_, ⟨.str _, H, I.tok _, ⟨_, rfl⟩, q⟩⟩
        show (List.replicate k.toNat a.cps.toList).flatten.toArray.size ≤ sizeLine
        rw [List.size_toArray, List.length_flatten, List.map_replicate, List.sum_replicate_nat]
        have e : a.cps.toList.length = a.length := by simp [Str.length]
        rw [e, Nat.mul_comm]
        exact Nat.le_trans h1 (by decide)

def rMul : R2 := fun x y H Q => rI CMul (fun i j => .int (i * j)) x y H Q ∨ rRepS x y H Q ∨ rRep x y H Q
theorem op_mulX {X : Cx} : OpR X (binaryOp .Mult) rMul := op_mul.or (op_repS.or op_rep)
theorem mulC : OpC K W rMul mulD := fun x y v w M S H Q rs rx ry go => by
  unfold mulD at go
  split at go
  · rw [rx.int_inv, ry.int_inv]
    split at go
    · exact .inl ⟨_, _, rfl, rfl, by assumption, goD go rs (.int _)⟩
    · exact go.none_elim
  · rw [rx.str_inv, ry.int_inv]
    split at go
    · exact .inr (.inl ⟨_, _, rfl, rfl, by assumption, goD go rs (.str _)⟩)
    · exact go.none_elim
  · rw [ry.int_inv]
    split at go
    · rename_i xs h1
      split at go
      · rename_i hl
        obtain ⟨a, vs, rfl, q1, r1⟩ := asL1_rd rs rx h1
        exact .inr (.inr ⟨a, _, vs, rfl, rfl, q1, hl.2.1, hl.2.2, by rw [← r1.length]; exact hl.1, goL go rs (r1.rep _)⟩)
      · exact go.none_elim
    · exact go.none_elim
  · exact go.none_elim
def fdivD (x y : D) (S : Store) : Res D := match x, y with
  | .int i, .int j => if 0 < j ∧ j < 1073741824 then ok (.int (i / j)) S else none
  | _, _ => none
theorem fdivC : OpC K W (rI CDiv fun i j => .int (i / j)) fdivD := fun x y v w M S H Q rs rx ry go => by
  unfold fdivD at go
  split at go
  · rw [rx.int_inv, ry.int_inv]
    split at go
    · exact ⟨_, _, rfl, rfl, by assumption, goD go rs (.int _)⟩
    · exact go.none_elim
  · exact go.none_elim
def modD (x y : D) (S : Store) : Res D := match x, y with
  | .int i, .int j => if 0 < j then ok (.int (i % j)) S else none
  | _, _ => none
theorem modC : OpC K W (rI (fun _ j => 0 < j) fun i j => .int (i % j)) modD := fun x y v w M S H Q rs rx ry go => by
  unfold modD at go
  split at go
  · rw [rx.int_inv, ry.int_inv]
    split at go
    · exact ⟨_, _, rfl, rfl, by assumption, goD go rs (.int _)⟩
    · exact go.none_elim
  · exact go.none_elim
instance {i j : Int} : Decidable (CPow i j) := by unfold CPow; infer_instance
def powD (x y : D) (S : Store) : Res D := match x, y with
  | .int i, .int j => if CPow i j then ok (.int (i ^ j.toNat)) S else none
  | _, _ => none
theorem powC : OpC K W (rI CPow fun i j => .int (i ^ j.toNat)) powD := fun x y v w M S H Q rs rx ry go => by
  unfold powD at go
  split at go
  · rw [rx.int_inv, ry.int_inv]
    split at go
    · exact ⟨_, _, rfl, rfl, by assumption, goD go rs (.int _)⟩
    · exact go.none_elim
  · exact go.none_elim
def negD (x : D) (S : Store) : Res D := match x with
  | .int i => ok (.int (-i)) S
  | _ => none
theorem negC {X : Cx} : ∀ (x : D) (v : V) (M : Mp) (S : Store) (H : Hp) (Q : VK), RS X.K M S H → RD X.K M H x v → Go X.K W M H (negD x S) (fun d M' H' _ => ∀ u, RD X.K M' H' d u → Q u H') → rU (fun i => .int (-i)) v H Q := fun x v M S H Q rs rx go => by
  unfold negD at go
  split at go
  · rw [rx.int_inv]
    exact ⟨_, rfl, goD go rs (.int _)⟩
  · exact go.none_elim

/-! ### comparisons -/
mutual
def toPy : D → Option PyData
  | .non => some .none
  | .bl b => some (.bool b)
  | .int i => some (.int i)
  | .str x => some (.str x)
  | .tup xs => (toPyL xs).map .tuple
  | .ft xs => (toPyL xs).map .tuple
  | .lst xs => (toPyL xs).map .list
  | .fz xs => (toPyL xs).map .list
  | _ => none
def toPyL : List D → Option (List PyData)
  | [] => some []
  | x :: xs => match toPy x, toPyL xs with
    | some y, some ys => some (y :: ys)
    | _, _ => none
end
theorem toPy_rd : (∀ (d : D) (v : V) (p : PyData), RD K M H d v → toPy d = some p → Dp K H v p) ∧ (∀ (ds : List D) (vs : List V) (ps : List PyData), RDs K M H ds vs → toPyL ds = some ps → DpAll K H vs ps) := by
  have key : ∀ d : D, (∀ (v : V) (p : PyData), RD K M H d v → toPy d = some p → Dp K H v p) := by
    intro d
    exact D.rec (motive_1 := fun d => ∀ (v : V) (p : PyData), RD K M H d v → toPy d = some p → Dp K H v p) (motive_2 := fun ds => ∀ (vs : List V) (ps : List PyData), RDs K M H ds vs → toPyL ds = some ps → DpAll K H vs ps)
      (fun v p h e => by rw [toPy] at e; cases e; rw [h.non_inv]; exact .non) (fun b v p h e => by rw [toPy] at e; cases e; rw [h.bl_inv]; exact .bl b)
      (fun i v p h e => by rw [toPy] at e; cases e; rw [h.int_inv]; exact .int i) (fun x v p h e => by rw [toPy] at e; cases e; rw [h.str_inv]; exact .str x)
      (fun xs ih v p h e => by
        rw [toPy] at e
        cases q : toPyL xs with
        | none => rw [q] at e; cases e
        | some ys =>
          rw [q] at e
          have e : PyData.tuple ys = p := Option.some.inj e
          subst e
          rw [RD] at h
          obtain ⟨a, vs, rfl, f, g⟩ := h
          exact .tup (.of f) (ih vs ys g q))
      (fun xs ih v p h e => by
        rw [toPy] at e
        cases q : toPyL xs with
        | none => rw [q] at e; cases e
        | some ys =>
          rw [q] at e
          have e : PyData.tuple ys = p := Option.some.inj e
          subst e
          rw [RD] at h
          obtain ⟨a, vs, rfl, f, g⟩ := h
          exact .tup f.sq (ih vs ys g q))
      (fun xs ih v p h e => by
        rw [toPy] at e
        cases q : toPyL xs with
        | none => rw [q] at e; cases e
        | some ys =>
          rw [q] at e
          have e : PyData.list ys = p := Option.some.inj e
          subst e
          rw [RD] at h
          obtain ⟨a, vs, rfl, f, g⟩ := h
          exact .lst (.of f.1) (ih vs ys g q))
      (fun xs ih v p h e => by
        rw [toPy] at e
        cases q : toPyL xs with
        | none => rw [q] at e; cases e
        | some ys =>
          rw [q] at e
          have e : PyData.list ys = p := Option.some.inj e
          subst e
          rw [RD] at h
          obtain ⟨a, vs, rfl, f, g⟩ := h
          exact .lst f.sq (ih vs ys g q))
      (fun ks ds ih v p h e => by rw [toPy] at e <;> first | cases e | simp)
      (fun ks ds ih v p h e => by rw [toPy] at e <;> first | cases e | simp)
      (fun n v p h e => by rw [toPy] at e <;> first | cases e | simp)
      (fun vs ps h e => by rw [toPyL] at e; cases e; rw [h.nil_inv]; exact .nil)
      (fun d ds ih1 ih2 vs ps h e => by
        obtain ⟨v, ws, rfl, r1, r2⟩ := h.cons_inv
        rw [toPyL] at e
        split at e
        · rename_i y ys q1 q2
          cases e
          exact .cons (ih1 v y r1 q1) (ih2 ws ys r2 q2)
        · cases e)
      d
  refine ⟨key, ?_⟩
  intro ds
  induction ds with
  | nil => intro vs ps h e; rw [toPyL] at e; cases e; rw [h.nil_inv]; exact .nil
  | cons d ds ih =>
    intro vs ps h e
    obtain ⟨v, ws, rfl, r1, r2⟩ := h.cons_inv
    rw [toPyL] at e
    split at e
    · rename_i y ys q1 q2
      cases e
      exact .cons (key d v y r1 q1) (ih ws ys r2 q2)
    · cases e
/-- .. a list of the store too -/
def toPyS (d : D) (S : Store) : Option PyData := match d with
  | .loc n => match S[n]? with
    | some (.lst xs) => (toPyL xs).map .list
    | _ => none
  | d => toPy d
theorem toPyS_rd {d : D} {v : V} {p : PyData} (rs : RS K M S H) (h : RD K M H d v) (e : toPyS d S = some p) : Dp K H v p := by
  unfold toPyS at e
  split at e
  · split at e
    · rename_i xs hx
      cases q : toPyL xs with
      | none => rw [q] at e; cases e
      | some ys =>
        rw [q] at e
        have e : PyData.list ys = p := Option.some.inj e
        subst e
        obtain ⟨a, rfl, _, vs, h3, h4⟩ := h.loc_at rs hx (by simp)
        exact .lst (.of h3) (toPy_rd.2 _ _ _ h4 q)
    · cases e
  · exact toPy_rd.1 _ _ _ h e
def eqvD (x y : D) (S : Store) : Option Bool := match toPyS x S, toPyS y S with
  | some p, some q => if SeqAt.shaped p = true ∧ SeqAt.shaped q = true then some (PyData.eqv p q) else none
  | _, _ => none
def eqD (x y : D) (S : Store) : Res D := match x, y with
  | .str i, .str j => ok (.bl (decide (i = j))) S
  | x, y => match eqvD x y S with
    | some b => ok (.bl b) S
    | none => none
def neD (x y : D) (S : Store) : Res D := match x, y with
  | .str i, .str j => ok (.bl (!decide (i = j))) S
  | x, y => match eqvD x y S with
    | some b => ok (.bl (!b)) S
    | none => none
def rEqX (K : PySem.W.Frag) : R2 := fun x y H Q => rEq x y H Q ∨ rEqD K x y H Q
def rNeX (K : PySem.W.Frag) : R2 := fun x y H Q => rNe x y H Q ∨ rNeD K x y H Q
theorem op_eqX {X : Cx} (hu : X.A.units + 64 < cLine) : OpR X (compareOp .Eq) (rEqX X.K) := op_eq.or (op_eqD hu)
theorem op_neX {X : Cx} (hu : X.A.units + 64 < cLine) : OpR X (compareOp .NotEq) (rNeX X.K) := op_ne.or (op_neD hu)
theorem vstr_dec (i j : Str) : decide (V.str i = V.str j) = decide (i = j) := by
  rw [Bool.eq_iff_iff]
  simp
theorem eqC : OpC K W (rEqX K) eqD := fun x y v w M S H Q rs rx ry go => by
  unfold eqD at go
  split at go
  · rw [rx.str_inv, ry.str_inv]
    exact .inl ⟨rfl, goD go rs (by rw [vstr_dec]; exact .bl _)⟩
  split at go
  · rename_i b e
    unfold eqvD at e
    split at e
    · rename_i p q h1 h2
      split at e
      · rename_i hs
        cases e
        exact .inr ⟨p, q, toPyS_rd rs rx h1, toPyS_rd rs ry h2, hs.1, hs.2, goD go rs (.bl _)⟩
      · cases e
    · cases e
  · exact go.none_elim
theorem neC : OpC K W (rNeX K) neD := fun x y v w M S H Q rs rx ry go => by
  unfold neD at go
  split at go
  · rw [rx.str_inv, ry.str_inv]
    exact .inl ⟨rfl, goD go rs (by rw [vstr_dec]; exact .bl _)⟩
  split at go
  · rename_i b e
    unfold eqvD at e
    split at e
    · rename_i p q h1 h2
      split at e
      · rename_i hs
        cases e
        exact .inr ⟨p, q, toPyS_rd rs rx h1, toPyS_rd rs ry h2, hs.1, hs.2, goD go rs (.bl _)⟩
      · cases e
    · cases e
  · exact go.none_elim
def strLt (a b : Str) : Bool := decide (a.cps.toList < b.cps.toList)
def ltD (x y : D) (S : Store) : Res D := match x, y with
  | .int i, .int j => ok (.bl (decide (i < j))) S
  | .str a, .str b => ok (.bl (strLt a b)) S
  | _, _ => none
def leD (x y : D) (S : Store) : Res D := match x, y with
  | .int i, .int j => ok (.bl (decide (i ≤ j))) S
  | .str a, .str b => ok (.bl (!strLt b a)) S
  | _, _ => none
def gtD (x y : D) (S : Store) : Res D := match x, y with
  | .int i, .int j => ok (.bl (decide (j < i))) S
  | .str a, .str b => ok (.bl (strLt b a)) S
  | _, _ => none
def geD (x y : D) (S : Store) : Res D := match x, y with
  | .int i, .int j => ok (.bl (decide (j ≤ i))) S
  | .str a, .str b => ok (.bl (!strLt a b)) S
  | _, _ => none
def rCmp (f : Int → Int → Bool) (g : Str → Str → Bool) : R2 := fun x y H Q => (∃ i j, x = .int i ∧ y = .int j ∧ Q (.bl (f i j)) H) ∨ ∃ i j, x = .str i ∧ y = .str j ∧ Q (.bl (g i j)) H
theorem op_ltX {X : Cx} : OpR X (compareOp .Lt) (rCmp (fun i j => decide (i < j)) strLt) := op_lt.or op_lt_str
theorem op_leX {X : Cx} : OpR X (compareOp .LtE) (rCmp (fun i j => decide (i ≤ j)) fun a b => !strLt b a) := op_le.or op_le_str
theorem op_gtX {X : Cx} : OpR X (compareOp .Gt) (rCmp (fun i j => decide (j < i)) fun a b => strLt b a) := op_gt.or op_gt_str
theorem op_geX {X : Cx} : OpR X (compareOp .GtE) (rCmp (fun i j => decide (j ≤ i)) fun a b => !strLt a b) := op_ge.or op_ge_str
theorem ltC : OpC K W (rCmp (fun i j => decide (i < j)) strLt) ltD := fun x y v w M S H Q rs rx ry go => by
  unfold ltD at go
  split at go
  · rw [rx.int_inv, ry.int_inv]; exact .inl ⟨_, _, rfl, rfl, goD go rs (.bl _)⟩
  · rw [rx.str_inv, ry.str_inv]; exact .inr ⟨_, _, rfl, rfl, goD go rs (.bl _)⟩
  · exact go.none_elim
theorem leC : OpC K W (rCmp (fun i j => decide (i ≤ j)) fun a b => !strLt b a) leD := fun x y v w M S H Q rs rx ry go => by
  unfold leD at go
  split at go
  · rw [rx.int_inv, ry.int_inv]; exact .inl ⟨_, _, rfl, rfl, goD go rs (.bl _)⟩
  · rw [rx.str_inv, ry.str_inv]; exact .inr ⟨_, _, rfl, rfl, goD go rs (.bl _)⟩
  · exact go.none_elim
theorem gtC : OpC K W (rCmp (fun i j => decide (j < i)) fun a b => strLt b a) gtD := fun x y v w M S H Q rs rx ry go => by
  unfold gtD at go
  split at go
  · rw [rx.int_inv, ry.int_inv]; exact .inl ⟨_, _, rfl, rfl, goD go rs (.bl _)⟩
  · rw [rx.str_inv, ry.str_inv]; exact .inr ⟨_, _, rfl, rfl, goD go rs (.bl _)⟩
  · exact go.none_elim
theorem geC : OpC K W (rCmp (fun i j => decide (j ≤ i)) fun a b => !strLt a b) geD := fun x y v w M S H Q rs rx ry go => by
  unfold geD at go
  split at go
  · rw [rx.int_inv, ry.int_inv]; exact .inl ⟨_, _, rfl, rfl, goD go rs (.bl _)⟩
  · rw [rx.str_inv, ry.str_inv]; exact .inr ⟨_, _, rfl, rfl, goD go rs (.bl _)⟩
  · exact go.none_elim
def isND (x y : D) (S : Store) : Res D := match y with
  | .non => match x with
    | .non => ok (.bl true) S
    | .loc _ => none
    | _ => ok (.bl false) S
  | _ => none
def notND (x y : D) (S : Store) : Res D := match y with
  | .non => match x with
    | .non => ok (.bl false) S
    | .loc _ => none
    | _ => ok (.bl true) S
  | _ => none
theorem RD.not_non {x : D} {v : V} (h : RD K M H x v) (h1 : x ≠ .non) (h2 : ∀ n, x ≠ .loc n) : v ≠ .non := fun e => by
  subst e
  cases x with
  | non => exact h1 rfl
  | loc n => exact h2 n rfl
  | bl b => exact absurd h.bl_inv (by simp)
  | int b => exact absurd h.int_inv (by simp)
  | str b => exact absurd h.str_inv (by simp)
  | _ => rw [RD] at h; obtain ⟨a, vs, e, _⟩ := h; cases e
def rIsNon : R2 := fun x y H Q => y = .non ∧ Q (.bl (decide (x = .non))) H
def rNotNon : R2 := fun x y H Q => y = .non ∧ Q (.bl (!decide (x = .non))) H
theorem isNC : OpC K W rIsNon isND := fun x y v w M S H Q rs rx ry go => by
  unfold isND at go
  split at go
  · refine ⟨ry.non_inv, ?_⟩
    split at go
    · rw [rx.non_inv]
      exact goD go rs (.bl true)
    · exact go.none_elim
    · rename_i h1 h2
      rw [decide_eq_false (rx.not_non (by simpa using h1) (by simpa using h2))]
      exact goD go rs (.bl false)
  · exact go.none_elim
theorem notNC : OpC K W rNotNon notND := fun x y v w M S H Q rs rx ry go => by
  unfold notND at go
  split at go
  · refine ⟨ry.non_inv, ?_⟩
    split at go
    · rw [rx.non_inv]
      exact goD go rs (.bl false)
    · exact go.none_elim
    · rename_i h1 h2
      rw [decide_eq_false (rx.not_non (by simpa using h1) (by simpa using h2))]
      exact goD go rs (.bl true)
  · exact go.none_elim
end
end Md

/-! MdOps2: containers: in, subscripts, slices, dicts, methods, built-ins. -/
namespace Md
open PySem PySem.Spec PyProof.Rows L2

section
variable {K : PySem.W.Frag} {W : Wish} {M : Mp} {S : Store} {H : Hp}
/-! ### flat data as values -/
def flatD : D → Option V
  | .non => some .non
  | .bl b => some (.bl b)
  | .int i => some (.int i)
  | .str x => some (.str x)
  | _ => none
theorem flatD_rd {d : D} {v w : V} (h : RD K M H d v) (e : flatD d = some w) : v = w ∧ flatV w = true := by
  cases d <;> simp only [flatD] at e <;> cases e
  · exact ⟨h.non_inv, rfl⟩
  · exact ⟨h.bl_inv, rfl⟩
  · exact ⟨h.int_inv, rfl⟩
  · exact ⟨h.str_inv, rfl⟩
def flatL : List D → Option (List V)
  | [] => some []
  | d :: ds => match flatD d, flatL ds with
    | some v, some vs => some (v :: vs)
    | _, _ => none
theorem flatL_rd : ∀ {ds : List D} {vs ws : List V}, RDs K M H ds vs → flatL ds = some ws → vs = ws ∧ ws.all flatV = true
  | [], _, _, h, e => by rw [flatL] at e; cases e; exact ⟨h.nil_inv, rfl⟩
  | d :: ds, _, _, h, e => by
    obtain ⟨v, us, rfl, h1, h2⟩ := h.cons_inv
    rw [flatL] at e
    split at e
    · rename_i w ws e1 e2
      cases e
      obtain ⟨rfl, f1⟩ := flatD_rd h1 e1
      obtain ⟨rfl, f2⟩ := flatL_rd h2 e2
      exact ⟨rfl, by rw [List.all_cons, f1, f2]; rfl⟩
    · cases e
/-! ### dicts -/
def keyD : D → Option Key
  | .int i => some (.inl i)
  | .str x => some (.inr x)
  | _ => none
theorem keyD_rd {d : D} {v : V} {k : Key} (h : RD K M H d v) (e : keyD d = some k) : v = kV k := by
  cases d <;> simp only [keyD] at e <;> cases e
  · exact h.int_inv
  · exact h.str_inv
def keysD : List D → Option (List Key)
  | [] => some []
  | d :: ds => match keyD d, keysD ds with
    | some k, some ks => some (k :: ks)
    | _, _ => none
theorem keysD_rd : ∀ {ds : List D} {vs : List V} {ks : List Key}, RDs K M H ds vs → keysD ds = some ks → vs = ks.map kV
  | [], _, _, h, e => by rw [keysD] at e; cases e; exact h.nil_inv
  | d :: ds, _, _, h, e => by
    obtain ⟨v, us, rfl, h1, h2⟩ := h.cons_inv
    rw [keysD] at e
    split at e
    · rename_i w ws e1 e2
      cases e
      rw [keyD_rd h1 e1, keysD_rd h2 e2]; rfl
    · cases e
def tkeyD : D → Option (List Key)
  | .tup xs => keysD xs
  | _ => none
theorem tkeyD_rd {d : D} {v : V} {k : List Key} (h : RD K M H d v) (e : tkeyD d = some k) : ∃ b, v = .ref b ∧ H b = some (.tup (k.map kV)) := by
  cases d <;> simp only [tkeyD] at e <;> first | cases e | skip
  rw [RD] at h
  obtain ⟨a, vs, rfl, h1, h2⟩ := h
  rw [keysD_rd h2 e] at h1
  exact ⟨a, rfl, h1⟩
section
variable {κ : Type} [DecidableEq κ]
def lookD (kvs : List (κ × D)) (k : κ) : Option D := (kvs.find? fun kv => decide (kv.1 = k)).map (·.2)
def putD (kvs : List (κ × D)) (k : κ) (v : D) : List (κ × D) := if (kvs.any fun kv => decide (kv.1 = k)) = true then kvs.map (fun kv => if kv.1 = k then (kv.1, v) else kv) else kvs ++ [(k, v)]
def dropD (kvs : List (κ × D)) (k : κ) : List (κ × D) := kvs.filter fun kv => decide (kv.1 ≠ k)
end
def RDo (K : PySem.W.Frag) (M : Mp) (H : Hp) (o : Option D) (o' : Option V) : Prop := match o, o' with
  | some d, some v => RD K M H d v
  | none, none => True
  | _, _ => False
section
variable {κ : Type}
/-- the pairs of a dict -/
def RKs (K : PySem.W.Frag) (M : Mp) (H : Hp) : List (κ × D) → List (κ × V) → Prop
  | [], ws => ws = []
  | (k, d) :: r, ws => ∃ v ws', ws = (k, v) :: ws' ∧ RD K M H d v ∧ RKs K M H r ws'
theorem RKs.of : ∀ {kvs : List (κ × D)} {vs : List V}, RDs K M H (kvs.map (·.2)) vs → RKs K M H kvs ((kvs.map (·.1)).zip vs)
  | [], _, _ => rfl
  | (k, d) :: r, _, h => by
    rw [List.map_cons] at h
    obtain ⟨v, us, rfl, h1, h2⟩ := h.cons_inv
    exact ⟨v, _, rfl, h1, RKs.of h2⟩
theorem RKs.to : ∀ {kvs : List (κ × D)} {kws : List (κ × V)}, RKs K M H kvs kws → ∃ vs, kws = (kvs.map (·.1)).zip vs ∧ RDs K M H (kvs.map (·.2)) vs
  | [], _, h => ⟨[], h, .nil⟩
  | (k, d) :: r, _, h => by
    obtain ⟨v, ws', rfl, h1, h2⟩ := h
    obtain ⟨vs, rfl, h3⟩ := RKs.to h2
    exact ⟨v :: vs, rfl, .cons h1 h3⟩
theorem RKs.length : ∀ {kvs : List (κ × D)} {kws : List (κ × V)}, RKs K M H kvs kws → kvs.length = kws.length
  | [], _, h => by cases h; rfl
  | (k, d) :: r, _, h => by
    obtain ⟨v, ws', rfl, h1, h2⟩ := h
    rw [List.length_cons, List.length_cons, h2.length]
theorem RKs.zip {ks : List κ} : ∀ {ds : List D} {vs : List V}, ks.length = ds.length → RDs K M H ds vs → RKs K M H (ks.zip ds) (ks.zip vs) := by
  induction ks with
  | nil => intro ds vs h r; rw [List.zip_nil_left, List.zip_nil_left]; rfl
  | cons k ks ih =>
    intro ds vs h r
    cases ds with
    | nil => simp at h
    | cons d ds =>
      obtain ⟨v, us, rfl, h1, h2⟩ := r.cons_inv
      exact ⟨v, _, rfl, h1, ih (by simpa using h) h2⟩
theorem RKs.mono {M' : Mp} {H' : Hp} (s : Stp M H M' H') : ∀ {kvs : List (κ × D)} {kws : List (κ × V)}, RKs K M H kvs kws → RKs K M' H' kvs kws
  | [], _, h => h
  | (k, d) :: r, _, h => by
    obtain ⟨v, ws', rfl, h1, h2⟩ := h
    exact ⟨v, ws', rfl, h1.mono s, RKs.mono s h2⟩
theorem RKs.append : ∀ {as bs : List (κ × D)} {vs ws : List (κ × V)}, RKs K M H as vs → RKs K M H bs ws → RKs K M H (as ++ bs) (vs ++ ws)
  | [], _, _, _, h, g => by cases h; exact g
  | (k, d) :: r, _, _, _, h, g => by
    obtain ⟨v, ws', rfl, h1, h2⟩ := h
    exact ⟨v, _, rfl, h1, RKs.append h2 g⟩
variable [DecidableEq κ]
theorem RKs.look (k : κ) : ∀ {kvs : List (κ × D)} {kws : List (κ × V)}, RKs K M H kvs kws → RDo K M H (lookD kvs k) (valV kws k)
  | [], _, h => by cases h; exact True.intro
  | (k', d) :: r, _, h => by
    obtain ⟨v, ws', rfl, h1, h2⟩ := h
    by_cases e : k' = k
    · rw [valV_pos (p := (k', v)) e]
      unfold lookD
      rw [List.find?_cons_of_pos (by simpa using e)]
      exact h1
    · rw [valV_neg (p := (k', v)) e]
      have : lookD ((k', d) :: r) k = lookD r k := by
        unfold lookD
        rw [List.find?_cons_of_neg (by simpa using e)]
      rw [this]
      exact RKs.look k h2
theorem RKs.any (k : κ) : ∀ {kvs : List (κ × D)} {kws : List (κ × V)}, RKs K M H kvs kws → (kvs.any fun kv => decide (kv.1 = k)) = kws.any fun kv => decide (kv.1 = k)
  | [], _, h => by cases h; rfl
  | (k', d) :: r, _, h => by
    obtain ⟨v, ws', rfl, h1, h2⟩ := h
    rw [List.any_cons, List.any_cons, RKs.any k h2]
theorem RKs.repl (k : κ) {d : D} {v : V} (rd : RD K M H d v) : ∀ {kvs : List (κ × D)} {kws : List (κ × V)}, RKs K M H kvs kws → RKs K M H (kvs.map fun kv => if kv.1 = k then (kv.1, d) else kv) (kws.map fun kv => if kv.1 = k then (kv.1, v) else kv)
  | [], _, h => by cases h; rfl
  | (k', d') :: r, _, h => by
    obtain ⟨v', ws', rfl, h1, h2⟩ := h
    rw [List.map_cons, List.map_cons]
    by_cases e : k' = k
    · rw [if_pos e, if_pos e]
      exact ⟨v, _, rfl, rd, RKs.repl k rd h2⟩
    · rw [if_neg e, if_neg e]
      exact ⟨v', _, rfl, h1, RKs.repl k rd h2⟩
theorem RKs.put (k : κ) {d : D} {v : V} (rd : RD K M H d v) {kvs : List (κ × D)} {kws : List (κ × V)} (h : RKs K M H kvs kws) : RKs K M H (putD kvs k d) (putK kws k v) := by
  unfold putD putK
  rw [h.any k]
  split
  · exact h.repl k rd
  · exact h.append ⟨v, [], rfl, rd, rfl⟩
theorem RKs.drop (k : κ) : ∀ {kvs : List (κ × D)} {kws : List (κ × V)}, RKs K M H kvs kws → RKs K M H (dropD kvs k) (dropK kws k)
  | [], _, h => by cases h; rfl
  | (k', d') :: r, _, h => by
    obtain ⟨v', ws', rfl, h1, h2⟩ := h
    have ih := RKs.drop k h2
    unfold dropD dropK at ih ⊢
    by_cases e : k' = k
    · rw [List.filter_cons_of_neg (by simpa using e), List.filter_cons_of_neg (by simpa using e)]
      exact ih
    · rw [List.filter_cons_of_pos (by simpa using e), List.filter_cons_of_pos (by simpa using e)]
      exact ⟨v', _, rfl, h1, ih⟩
end
/-- a dict's pairs -/
def asDK (d : D) (S : Store) : Option (List (Key × D)) := match d with
  | .dk ks ds => if ks.length = ds.length then some (ks.zip ds) else none
  | .loc n => match S[n]? with
    | some (.dk kvs) => some kvs
    | some (.lk kvs) => some kvs
    | _ => none
  | _ => none
def asDT (d : D) (S : Store) : Option (List (List Key × D)) := match d with
  | .dt ks ds => if ks.length = ds.length then some (ks.zip ds) else none
  | .loc n => match S[n]? with
    | some (.dt kvs) => some kvs
    | some (.lt kvs) => some kvs
    | _ => none
  | _ => none
theorem asDK_rd {d : D} {v : V} {kvs : List (Key × D)} (rs : RS K M S H) (h : RD K M H d v) (e : asDK d S = some kvs) : ∃ a kws, v = .ref a ∧ Rd H a (.dK kws) ∧ RKs K M H kvs kws := by
  unfold asDK at e
  split at e
  · split at e
    · rename_i hl
      cases e
      rw [RD] at h
      obtain ⟨a, vs, h1, h2, _, h3⟩ := h
      exact ⟨a, _, h1, h2.1, .zip hl h3⟩
    · cases e
  · split at e
    · rename_i hx
      cases e
      obtain ⟨a, h1, _, vs, h3, h4⟩ := h.loc_at rs hx (by simp)
      exact ⟨a, _, h1, .inl h3, .of h4⟩
    · rename_i hx
      cases e
      obtain ⟨a, h1, _, o, vs, h3, h4⟩ := h.loc_at rs hx (by simp)
      exact ⟨a, _, h1, .inr ⟨o, h3⟩, .of h4⟩
    · cases e
  · cases e
theorem asDT_rd {d : D} {v : V} {kvs : List (List Key × D)} (rs : RS K M S H) (h : RD K M H d v) (e : asDT d S = some kvs) : ∃ a kws, v = .ref a ∧ Rd H a (.dT kws) ∧ RKs K M H kvs kws := by
  unfold asDT at e
  split at e
  · split at e
    · rename_i hl
      cases e
      rw [RD] at h
      obtain ⟨a, vs, h1, h2, _, h3⟩ := h
      exact ⟨a, _, h1, h2.1, .zip hl h3⟩
    · cases e
  · split at e
    · rename_i hx
      cases e
      obtain ⟨a, h1, _, vs, h3, h4⟩ := h.loc_at rs hx (by simp)
      exact ⟨a, _, h1, .inl h3, .of h4⟩
    · rename_i hx
      cases e
      obtain ⟨a, h1, _, o, vs, h3, h4⟩ := h.loc_at rs hx (by simp)
      exact ⟨a, _, h1, .inr ⟨o, h3⟩, .of h4⟩
    · cases e
  · cases e
/-- what d holds at the key x -/
def dgetD (d x : D) (S : Store) : Option (Option D) := match asDK d S with
  | some kvs => (keyD x).map fun k => lookD kvs k
  | none => match asDT d S with
    | some kvs => (tkeyD x).map fun k => lookD kvs k
    | none => none
theorem dgetD_rd {d x : D} {v w : V} {o : Option D} (rs : RS K M S H) (h : RD K M H d v) (hx : RD K M H x w) (e : dgetD d x S = some o) : ∃ a o', v = .ref a ∧ DGet H a w o' ∧ RDo K M H o o' := by
  unfold dgetD at e
  split at e
  · rename_i kvs h1
    cases q : keyD x with
    | none => rw [q] at e; cases e
    | some k =>
      rw [q] at e
      have e : lookD kvs k = o := Option.some.inj e
      subst e
      obtain ⟨a, kws, rfl, r1, r2⟩ := asDK_rd rs h h1
      exact ⟨a, _, rfl, .inl ⟨kws, k, r1, keyD_rd hx q, rfl⟩, r2.look k⟩
  · split at e
    · rename_i kvs h1
      cases q : tkeyD x with
      | none => rw [q] at e; cases e
      | some k =>
        rw [q] at e
        have e : lookD kvs k = o := Option.some.inj e
        subst e
        obtain ⟨a, kws, rfl, r1, r2⟩ := asDT_rd rs h h1
        obtain ⟨b, e1, e2⟩ := tkeyD_rd hx q
        exact ⟨a, _, rfl, .inr ⟨kws, k, b, r1, e1, e2, rfl⟩, r2.look k⟩
    · cases e

/-! ### in, not in -/
def inStr (x z : Str) : Bool := match x.cps.toList with
  | [c] => decide (c ∈ z.cps.toList)
  | _ => !(Builtin.Str.occurrences z x 0 z.length 1).isEmpty
theorem inStr_cases (x z : Str) : (∃ ch, x = ⟨#[ch]⟩ ∧ inStr x z = decide (ch ∈ z.cps.toList)) ∨ inStr x z = !(Builtin.Str.occurrences z x 0 z.length 1).isEmpty := by
  obtain ⟨cps⟩ := x
  unfold inStr
  cases h : cps.toList with
  | nil => exact .inr (by simp only [h])
  | cons a r => cases r with
    | nil =>
      have e : cps = #[a] := Array.toList_inj.mp (by simpa using h)
      subst e
      exact .inl ⟨a, rfl, rfl⟩
    | cons b r => exact .inr (by simp only [h])
def inB (x c : D) (S : Store) : Option Bool := match x, c with
  | .str x, .str z => some (inStr x z)
  | x, c => match dgetD c x S with
    | some o => some o.isSome
    | none => match (match asT c with | some xs => some xs | none => asL c S) with
      | some xs => match flatD x, flatL xs with
        | some v, some vs => some (inV v vs)
        | _, _ => none
      | none => none
def inD (x c : D) (S : Store) : Res D := match inB x c S with
  | some b => ok (.bl b) S
  | none => none
def ninD (x c : D) (S : Store) : Res D := match inB x c S with
  | some b => ok (.bl (!b)) S
  | none => none
def rInX (K : PySem.W.Frag) (neg : Bool) : R2 := fun x y H Q => ((∃ i j, x = .str i ∧ y = .str j ∧ Q (.bl (if neg = true then !(!(Builtin.Str.occurrences j i 0 j.length 1).isEmpty) else !(Builtin.Str.occurrences j i 0 j.length 1).isEmpty)) H) ∨
  (∃ (c : Nat) (z : Str), x = .str ⟨#[c]⟩ ∧ y = .str z ∧ Q (.bl (if neg = true then !decide (c ∈ z.cps.toList) else decide (c ∈ z.cps.toList))) H)) ∨ (∃ a o, y = .ref a ∧ DGet H a x o ∧ Q (.bl (if neg = true then !o.isSome else o.isSome)) H) ∨ rIn K neg x y H Q
theorem op_inX {X : Cx} (hu : X.A.units + 1 < cLine) : OpR X (compareOp .In) (rInX X.K false) := by
  intro pins s σ H x y v u Q I rx ry h
  rcases h with (⟨i, j, h1, h2, q⟩ | ⟨c, z, h1, h2, q⟩) | ⟨a, o, h1, h2, q⟩ | h
  · exact op_in_str pins s σ H x y v u Q I rx ry ⟨i, j, h1, h2, q⟩
  · exact op_in_sign pins s σ H x y v u Q I rx ry ⟨c, z, h1, h2, q⟩
  · subst h1
    cases (show u = Value.ref a from ry)
    exact d_in hu I h2 rx fun s' I' => ⟨.bl o.isSome, H, I', rfl, q⟩
  · exact op_in_seq pins s σ H x y v u Q I rx ry h
theorem op_ninX {X : Cx} (hu : X.A.units + 1 < cLine) : OpR X (compareOp .NotIn) (rInX X.K true) := by
  intro pins s σ H x y v u Q I rx ry h
  rcases h with (⟨i, j, h1, h2, q⟩ | ⟨c, z, h1, h2, q⟩) | ⟨a, o, h1, h2, q⟩ | h
  · exact op_notIn_str pins s σ H x y v u Q I rx ry ⟨i, j, h1, h2, q⟩
  · exact op_notIn_sign pins s σ H x y v u Q I rx ry ⟨c, z, h1, h2, q⟩
  · subst h1
    cases (show u = Value.ref a from ry)
    exact d_notIn hu I h2 rx fun s' I' => ⟨.bl (!o.isSome), H, I', rfl, q⟩
  · exact op_notIn_seq pins s σ H x y v u Q I rx ry h
theorem RDo.isSome {o : Option D} {o' : Option V} (h : RDo K M H o o') : o'.isSome = o.isSome := by
  cases o <;> cases o' <;> first | rfl | exact h.elim
theorem inB_rd {x c : D} {v w : V} {b : Bool} {neg : Bool} {Q : VK} (rs : RS K M S H) (hx : RD K M H x v) (hc : RD K M H c w) (e : inB x c S = some b) (q : Q (.bl (if neg = true then !b else b)) H) : rInX K neg v w H Q := by
  unfold inB at e
  split at e
  · cases e
    rw [hx.str_inv, hc.str_inv]
    rename_i x z
    rcases inStr_cases x z with ⟨ch, e1, e2⟩ | e2
    · rw [e2] at q
      exact .inl (.inr ⟨ch, z, by rw [e1], rfl, q⟩)
    · rw [e2] at q
      exact .inl (.inl ⟨_, _, rfl, rfl, q⟩)
  · split at e
    · rename_i o ho
      cases e
      obtain ⟨a, o', rfl, g1, g2⟩ := dgetD_rd rs hc hx ho
      exact .inr (.inl ⟨a, o', rfl, g1, by rw [g2.isSome]; exact q⟩)
    · split at e
      · rename_i xs hxs
        split at e
        · rename_i fv fvs e1 e2
          cases e
          obtain ⟨rfl, f1⟩ := flatD_rd hx e1
          have hs : ∃ a vs, w = .ref a ∧ (SqL K H a vs ∨ SqT K H a vs) ∧ RDs K M H xs vs := by
            split at hxs
            · rename_i ys hy
              cases hxs
              obtain ⟨a, vs, h1, h2, h3⟩ := asT_rd hc hy
              exact ⟨a, vs, h1, .inr h2, h3⟩
            · obtain ⟨a, vs, h1, h2, h3⟩ := asL_rd rs hc hxs
              exact ⟨a, vs, h1, .inl h2, h3⟩
          obtain ⟨a, vs, rfl, h2, h3⟩ := hs
          obtain ⟨rfl, f2⟩ := flatL_rd h3 e2
          exact .inr (.inr ⟨a, _, rfl, h2, f1, f2, q⟩)
        · cases e
      · cases e
theorem inC : OpC K W (rInX K false) inD := fun x y v w M S H Q rs rx ry go => by
  unfold inD at go
  split at go
  · rename_i b e
    exact inB_rd rs rx ry e (by simpa using goD go rs (.bl b))
  · exact go.none_elim
theorem ninC : OpC K W (rInX K true) ninD := fun x y v w M S H Q rs rx ry go => by
  unfold ninD at go
  split at go
  · rename_i b e
    exact inB_rd rs rx ry e (by simpa using goD go rs (.bl (!b)))
  · exact go.none_elim

/-! ### subscripts -/
def ixD (x y : D) (S : Store) : Res D := match dgetD x y S with
  | some (some d) => ok d S
  | some none => none
  | none => match y with
    | .int i => match x with
      | .str z => if z.length ≤ sizeLine then (match atI z.cps.toList i with | some c => ok (.str ⟨#[c]⟩) S | none => none) else none
      | x => match asT x with
        | some xs => match atI xs i with | some d => ok d S | none => none
        | none => match asL x S with
          | some xs => match atI xs i with | some d => ok d S | none => none
          | none => none
    | _ => none
def rIxX (K : PySem.W.Frag) : R2 := fun x y H Q => rIx K x y H Q ∨ ∃ a v, x = .ref a ∧ DGet H a y (some v) ∧ Q v H
theorem ix_dict {X : Cx} (hu : X.A.units + 1 < cLine) : IxR X (fun x y H Q => ∃ a v, x = .ref a ∧ DGet H a y (some v) ∧ Q v H) := by
  intro value slice pins s σ H x y v u Q I rx ry h hs
  obtain ⟨a, w, rfl, g, q⟩ := h
  cases (show v = Value.ref a from rx)
  refine tail_any (dict_typeIs I g) PySem.F.slot_dict_getitem.lookup ?_ hs
  exact d_getItem hu I g ry fun w' s' I' r' => ⟨w, H, I', r', q⟩
theorem ix_X {X : Cx} (hu : X.A.units + 1 < cLine) : IxR X (rIxX X.K) := ix_seq.or (ix_dict hu)
theorem atI_rd {ds : List D} {vs : List V} {i : Int} {d : D} (r : RDs K M H ds vs) (e : atI ds i = some d) : ∃ v, atI vs i = some v ∧ RD K M H d v := by
  unfold atI at e ⊢
  rw [← r.length]
  cases q : ixN ds.length i with
  | none => rw [q] at e; cases e
  | some j =>
    rw [q] at e
    exact r.get e
theorem ixC : OpC K W (rIxX K) ixD := fun x y v w M S H Q rs rx ry go => by
  unfold ixD at go
  split at go
  · rename_i d e
    obtain ⟨a, o', rfl, g1, g2⟩ := dgetD_rd rs rx ry e
    cases o' with
    | none => exact g2.elim
    | some u => exact .inr ⟨a, u, rfl, g1, goD go rs g2⟩
  · exact go.none_elim
  · split at go
    · rw [ry.int_inv]
      split at go
      · rw [rx.str_inv]
        split at go
        · rename_i hz
          split at go
          · rename_i c hc
            exact .inl (.inr (.inr ⟨_, _, c, rfl, rfl, hz, hc, goD go rs (.str _)⟩))
          · exact go.none_elim
        · exact go.none_elim
      · split at go
        · rename_i xs hx
          split at go
          · rename_i d hd
            obtain ⟨a, vs, rfl, h2, h3⟩ := asT_rd rx hx
            obtain ⟨u, e1, e2⟩ := atI_rd h3 hd
            exact .inl (.inr (.inl ⟨a, vs, _, u, rfl, rfl, h2, e1, goD go rs e2⟩))
          · exact go.none_elim
        · split at go
          · rename_i xs hx
            split at go
            · rename_i d hd
              obtain ⟨a, vs, rfl, h2, h3⟩ := asL_rd rs rx hx
              obtain ⟨u, e1, e2⟩ := atI_rd h3 hd
              exact .inl (.inl ⟨a, vs, _, u, rfl, rfl, h2, e1, goD go rs e2⟩)
            · exact go.none_elim
          · exact go.none_elim
    · exact go.none_elim

/-! ### slices -/
def cutL {α : Type} (xs : List α) (lo hi : Option Int) : List α := (xs.drop (HT.sIx xs.length 0 lo)).take (HT.sIx xs.length xs.length hi - HT.sIx xs.length 0 lo)
theorem cutL_rd {ds : List D} {vs : List V} (r : RDs K M H ds vs) (lo hi : Option Int) : RDs K M H (cutL ds lo hi) (cutV vs lo hi) := by
  unfold cutL cutV
  rw [r.length]
  exact (r.drop _).take _
def slD (x : D) (lo hi : Option Int) (S : Store) : Res D := match x with
  | .str z => if z.length ≤ sizeLine then ok (.str (cutS z lo hi)) S else none
  | x => match asT x with
    | some xs => if HT.sIx xs.length 0 lo = 0 ∧ HT.sIx xs.length xs.length hi = xs.length then ok x S else ok (.tup (cutL xs lo hi)) S
    | none => match asL x S with
      | some xs => ok (.lst (cutL xs lo hi)) S
      | none => none
def rSlXX (K : PySem.W.Frag) : V → Option Int → Option Int → Hp → VK → Prop := fun x lo hi H Q => rSlS x lo hi H Q ∨ rSlA K x lo hi H Q ∨ rSlL K x lo hi H Q
theorem sl_X {X : Cx} : SlR X (rSlXX X.K) := sl_str.or (sl_tupA.or sl_list)
theorem slC {x : D} {v : V} {lo hi : Option Int} {Q : VK} (rs : RS K M S H) (rx : RD K M H x v) (go : Go K W M H (slD x lo hi S) fun d M' H' _ => ∀ u, RD K M' H' d u → Q u H') : rSlXX K v lo hi H Q := by
  unfold slD at go
  split at go
  · rw [rx.str_inv]
    split at go
    · exact .inl ⟨_, rfl, by assumption, goD go rs (.str _)⟩
    · exact go.none_elim
  · split at go
    · rename_i xs hx
      obtain ⟨a, vs, rfl, h2, h3⟩ := asT_rd rx hx
      refine .inr (.inl ⟨a, vs, rfl, h2, fun e => ?_, fun e => ?_⟩)
      · rw [← h3.length] at e
        rw [if_pos e] at go
        exact goD go rs rx
      · rw [← h3.length] at e
        rw [if_neg e] at go
        exact goT go rs (cutL_rd h3 lo hi)
    · split at go
      · rename_i xs hx
        obtain ⟨a, vs, rfl, h2, h3⟩ := asL_rd rs rx hx
        exact .inr (.inr ⟨a, vs, rfl, h2, goL go rs (cutL_rd h3 lo hi)⟩)
      · exact go.none_elim
/-- a slice's bound -/
def tO (K : PySem.W.Frag) (W : Wish) (f : Cm (Option Int)) : TO := fun σ H Q => ∃ env S M, REnv K M H env σ ∧ RS K M S H ∧ Go K W M H (f env S) fun o _ H' _ => Q o H'
abbrev IO' (X : Cx) (W : Wish) (e : Option Expr) (f : Cm (Option Int)) : Prop := PO X e (tO X.K W f)
def mNoP : Cm (Option Int) := fun _ S => ok none S
def mP (f : Cm D) : Cm (Option Int) := fun env S => (f env S).bind fun d S1 => match d with
  | .int i => ok (some i) S1
  | _ => none
theorem PO_weak {X : Cx} {e : Option Expr} {t t' : TO} (h : PO X e t) (w : ∀ σ H Q, t' σ H Q → t σ H Q) : PO X e t' := ⟨fun pins s σ H Q I q => h.run pins s σ H Q I (w σ H Q q)⟩
theorem io_no {X : Cx} : IO' X W none mNoP := PO_weak po_none fun σ H Q h => by
  obtain ⟨env, S, M, re, rs, go⟩ := h
  exact go.ok rs
theorem io_p {X : Cx} {e : Expr} {f : Cm D} (he : IE X W e f) : IO' X W (some e) (mP f) := PO_weak (po_some he) fun σ H Q h => by
  obtain ⟨env, S, M, re, rs, go⟩ := h
  refine ⟨env, S, M, re, rs, (Go.bind go).imp fun d M1 H1 S1 s1 rs1 g1 v rv => ?_⟩
  split at g1
  · exact ⟨_, rv.int_inv, g1.ok rs1⟩
  · exact g1.none_elim
def mSl (f : Cm D) (l h : Cm (Option Int)) : Cm D := fun env S => (f env S).bind fun x S1 => (l env S1).bind fun lo S2 => (h env S2).bind fun hi S3 => slD x lo hi S3
theorem ie_slice {X : Cx} {e : Expr} {lo hi : Option Expr} {p2 pos : Pos} {f : Cm D} {l h : Cm (Option Int)} (he : IE X W e f) (hl : IO' X W lo l) (hh : IO' X W hi h) : IE X W (.Subscript e (.Slice lo hi none p2) pos) (mSl f l h) :=
  PE_weak (pe_slice sl_X he hl hh) fun σ H Q hw => by
    obtain ⟨env, S, M, re, rs, go⟩ := hw
    refine ⟨env, S, M, re, rs, (Go.bind go).imp fun x M1 H1 S1 s1 rs1 g1 v rv => ?_⟩
    refine ⟨env, S1, M1, re.mono s1, rs1, (Go.bind g1).imp fun a M2 H2 S2 s2 rs2 g2 => ?_⟩
    refine ⟨env, S2, M2, (re.mono s1).mono s2, rs2, (Go.bind g2).imp fun b M3 H3 S3 s3 rs3 g3 => ?_⟩
    exact slC rs3 ((rv.mono s2).mono s3) g3

/-! ### stores -/
def setD (o i v : D) (S : Store) : Res Unit := match o with
  | .loc n => match S[n]? with
    | some (.lst xs) => match i with
      | .int k => match ixN xs.length k with
        | some j => ok () (S.set n (.lst (xs.set j v)))
        | none => none
      | _ => none
    | some (.dk kvs) => match keyD i with
      | some k => if kvs.length < sizeLine then ok () (S.set n (.dk (putD kvs k v))) else none
      | none => none
    | some (.dt kvs) => match tkeyD i with
      | some k => if kvs.length < sizeLine then ok () (S.set n (.dt (putD kvs k v))) else none
      | none => none
    | _ => none
  | _ => none
def rSetX : TSet := fun o i v H Q => rSetL o i v H Q ∨ rSetD o i v H Q
theorem set_X {X : Cx} (hu : X.A.units + 1 < cLine) : PSet X rSetX := by
  intro pins s σ H o i v ov iv u Q I ro ri rv h
  rcases h with h | h
  · exact set_list pins s σ H o i v ov iv u Q I ro ri rv h
  · exact set_dict hu pins s σ H o i v ov iv u Q I ro ri rv h
/-- a store's object written: what is to be shown of it, with what was known before -/
theorem RS.write {a : Addr} {n : Nat} {b : Ob} {o : HO} (rs : RS K M S H) (hn : M.m[n]? = some (some a)) (hb : b ≠ .dead) (r : Stp M H M (upd H a o) → RO K M (upd H a o) b a) : Stp M H M (upd H a o) ∧ RS K M (S.set n b) (upd H a o) :=
  have s := Stp.wr rs (List.mem_of_getElem? hn)
  ⟨s, rs.wr hn hb (r s)⟩
theorem setC : SetC K W rSetX setD := fun o i v ov iv u M S H Q rs ro ri rv go => by
  unfold setD at go
  split at go
  · rename_i n
    split at go
    · rename_i xs hx
      split at go
      · rename_i k
        split at go
        · rename_i j hj
          obtain ⟨a, rfl, hm, vs, h3, h4⟩ := ro.loc_at rs hx (by simp)
          obtain ⟨s, rs'⟩ := rs.write (o := .lst (vs.set j u)) (b := .lst (xs.set j v)) hm (by simp) fun s => ⟨_, upd_same, (h4.mono s).set j (rv.mono s)⟩
          exact .inl ⟨a, vs, k, j, rfl, ri.int_inv, h3, by rw [← h4.length]; exact hj, go.okM s rs'⟩
        · exact go.none_elim
      · exact go.none_elim
    · rename_i kvs hx
      split at go
      · rename_i k hk
        split at go
        · rename_i hl
          obtain ⟨a, rfl, hm, vs, h3, h4⟩ := ro.loc_at rs hx (by simp)
          have hlen := h4.length
          have h4 := RKs.of h4
          obtain ⟨s, rs'⟩ := rs.write (o := .dK (putK ((kvs.map (·.1)).zip vs) k u)) (b := .dk (putD kvs k v)) hm (by simp) fun s => by
            obtain ⟨ws, e1, e2⟩ := ((h4.mono s).put k (rv.mono s)).to
            exact ⟨ws, by rw [upd_same, e1], e2⟩
          refine .inr ⟨a, _, rfl, .inl ⟨_, k, h3, keyD_rd ri hk, ?_, rfl⟩, go.okM s rs'⟩
          rw [← h4.length]; exact hl
        · exact go.none_elim
      · exact go.none_elim
    · rename_i kvs hx
      split at go
      · rename_i k hk
        split at go
        · rename_i hl
          obtain ⟨a, rfl, hm, vs, h3, h4⟩ := ro.loc_at rs hx (by simp)
          have h4 := RKs.of h4
          obtain ⟨b, e3, e4⟩ := tkeyD_rd ri hk
          obtain ⟨s, rs'⟩ := rs.write (o := .dT (putK ((kvs.map (·.1)).zip vs) k u)) (b := .dt (putD kvs k v)) hm (by simp) fun s => by
            obtain ⟨ws, e1, e2⟩ := ((h4.mono s).put k (rv.mono s)).to
            exact ⟨ws, by rw [upd_same, e1], e2⟩
          refine .inr ⟨a, _, rfl, .inr ⟨_, k, b, h3, e3, e4, ?_, rfl⟩, go.okM s rs'⟩
          rw [← h4.length]; exact hl
        · exact go.none_elim
      · exact go.none_elim
    · exact go.none_elim
  · exact go.none_elim
end
section
variable {X : Cx} {W : Wish} {a b e k o : Expr} {es : List Expr} {pos apos cpos : Pos} {f g h : Cm D} {fa : Cm (List D)}
/-! ### new dicts -/
def mNewK : Cm D := fun _ S => ok (.loc S.length) (S ++ [.dk []])
def mNewT : Cm D := fun _ S => ok (.loc S.length) (S ++ [.dt []])
theorem new_own {K : PySem.W.Frag} {M : Mp} {S : Store} {H : Hp} {p : Addr} {o : HO} {b : Ob} (rs : RS K M S H) (hp : H p = none) (hb : b ≠ .dead) (ho : ∀ xs, o ≠ .tup xs) (ro : RO K ⟨M.m, p :: M.r⟩ (upd H p o) b p) :
    Stp M H ⟨M.m ++ [some p], M.r⟩ (upd H p o) ∧ RS K ⟨M.m ++ [some p], M.r⟩ (S ++ [b]) (upd H p o) ∧ RD K ⟨M.m ++ [some p], M.r⟩ (upd H p o) (.loc S.length) (.ref p) := by
  refine ⟨⟨(Step.res rs hp).own hp, rfl, (Stp.new rs hp).rk⟩, (rs.res hp ho).own hb ro fun z => (rs.rtrk p z).1 hp, ?_⟩
  rw [RD]
  refine ⟨some p, ?_, fun a e => by cases e; rfl⟩
  show (M.m ++ [some p])[S.length]? = some (some p)
  rw [← rs.len, List.getElem?_append_right (Nat.le_refl _)]
  simp
theorem ie_newK : IE X W (.Dict [] [] pos) mNewK := PE_weak pe_dnewK fun σ H Q h => by
  obtain ⟨env, S, M, re, rs, go⟩ := h
  intro p hp
  obtain ⟨q1, q2, q3⟩ := new_own (b := .dk []) rs hp (by simp) (fun xs z => by cases z) (o := .dK []) ⟨[], by rw [upd_same]; rfl, .nil⟩
  exact go.okM q1 q2 _ q3
theorem ie_newT : IE X W (.Dict [] [] pos) mNewT := PE_weak pe_dnewT fun σ H Q h => by
  obtain ⟨env, S, M, re, rs, go⟩ := h
  intro p hp
  obtain ⟨q1, q2, q3⟩ := new_own (b := .dt []) rs hp (by simp) (fun xs z => by cases z) (o := .dT []) ⟨[], by rw [upd_same]; rfl, .nil⟩
  exact go.okM q1 q2 _ q3
/-! ### d.get(k, x) -/
def isDict (d : D) (S : Store) : Bool := (asDK d S).isSome || (asDT d S).isSome
def mGet2 (f g h : Cm D) : Cm D := fun env S => (f env S).bind fun d S1 => if isDict d S1 = true then (g env S1).bind fun k S2 => (h env S2).bind fun x S3 => match dgetD d k S3 with
    | some (some y) => ok y S3
    | some none => ok x S3
    | none => none
  else none
theorem isDict_rd {K : PySem.W.Frag} {M : Mp} {S : Store} {H : Hp} {d : D} {v : V} (rs : RS K M S H) (r : RD K M H d v) (e : isDict d S = true) : ∃ a, v = .ref a ∧ IsD H a := by
  unfold isDict at e
  cases q : asDK d S with
  | some kvs =>
    obtain ⟨a, kws, h1, h2, _⟩ := asDK_rd rs r q
    exact ⟨a, h1, .inl ⟨_, h2⟩⟩
  | none =>
    cases q2 : asDT d S with
    | some kvs =>
      obtain ⟨a, kws, h1, h2, _⟩ := asDT_rd rs r q2
      exact ⟨a, h1, .inr ⟨_, h2⟩⟩
    | none => rw [q, q2] at e; cases e
theorem ie_get2 (hu : X.A.units + 1 < cLine) (ho : IE X W o f) (he : IE X W e g) (hf : IE X W k h) (hbase : attributeBase o "get" X.env (eval o X.env) = eval o X.env := by rfl)
    (hfew : ((backTo cpos (starEach [e, k] X.env)).all (fun x => !x.1) && (backToKw cpos (keywordEach [] X.env)).all (fun x => x.1.isSome) && decide (([e, k] : List Expr).length + ([] : List Keyword).length + (if ([] : List Keyword).isEmpty then 0 else 1) < 30)) = true := by rfl)
    (hline : (apos.endLine == cpos.line) = true := by rfl) (htrees : backTo cpos (starEach [e, k] X.env) = [(false, eval e X.env), (false, eval k X.env)] := by rfl) : IE X W (.Call (.Attribute o "get" apos) [e, k] [] cpos) (mGet2 f g h) :=
  PE_weak (pe_dget2 hu ho he hf ⟨hbase, hfew, hline, htrees⟩) fun σ H Q hw => by
    obtain ⟨env, S, M, re, rs, go⟩ := hw
    refine ⟨env, S, M, re, rs, (Go.bind go).imp fun d M1 H1 S1 s1 rs1 g1 v rv => ?_⟩
    split at g1
    · rename_i hd
      obtain ⟨a, rfl, hD⟩ := isDict_rd rs1 rv hd
      refine ⟨a, rfl, hD, env, S1, M1, re.mono s1, rs1, (Go.bind g1).imp fun x M2 H2 S2 s2 rs2 g2 w rw' => ?_⟩
      refine ⟨env, S2, M2, (re.mono s1).mono s2, rs2, (Go.bind g2).imp fun y M3 H3 S3 s3 rs3 g3 u ru => ?_⟩
      split at g3
      · rename_i z hz
        obtain ⟨a', o', e1, q1, q2⟩ := dgetD_rd rs3 ((rv.mono s2).mono s3) (rw'.mono s3) hz
        cases e1
        cases o' with
        | none => exact q2.elim
        | some zv => exact ⟨some zv, q1, goD g3 rs3 q2⟩
      · rename_i hz
        obtain ⟨a', o', e1, q1, q2⟩ := dgetD_rd rs3 ((rv.mono s2).mono s3) (rw'.mono s3) hz
        cases e1
        cases o' with
        | none => exact ⟨none, q1, goD g3 rs3 ru⟩
        | some zv => exact q2.elim
      · exact g3.none_elim
    · exact g1.none_elim

/-! ### methods of built-in types -/
def isTy (T : String) (d : D) (S : Store) : Bool := match d with
  | .str _ => T == "str"
  | d => if T == "list" then (asL d S).isSome else if T == "dict" then (match d with
    | .loc n => (match S[n]? with
      | some (.dk _) => true
      | some (.dt _) => true
      | _ => false)
    | _ => false) else false
theorem isTy_rd {K : PySem.W.Frag} {T : String} {M : Mp} {S : Store} {H : Hp} {d : D} {v : V} (rs : RS K M S H) (r : RD K M H d v) (e : isTy T d S = true) : tyV K T v H := by
  unfold isTy at e
  split at e
  · rw [r.str_inv]
    exact eq_of_beq e
  · split at e
    · rename_i hT
      cases q : asL d S with
      | none => rw [q] at e; cases e
      | some xs =>
        obtain ⟨a, vs, rfl, h2, _⟩ := asL_rd rs r q
        exact .inl ⟨eq_of_beq hT, vs, h2⟩
    · split at e
      · rename_i hT
        split at e
        · split at e
          · rename_i hx
            obtain ⟨a, rfl, _, vs, h3, _⟩ := r.loc_at rs hx (by simp)
            exact .inr (.inr (.inl ⟨eq_of_beq hT, .inl ⟨_, h3⟩⟩))
          · rename_i hx
            obtain ⟨a, rfl, _, vs, h3, _⟩ := r.loc_at rs hx (by simp)
            exact .inr (.inr (.inl ⟨eq_of_beq hT, .inr ⟨_, h3⟩⟩))
          · cases e
        · cases e
      · cases e
def MtC (K : PySem.W.Frag) (W : Wish) (r : V → List V → Hp → VK → Prop) (g : D → List D → Store → Res D) : Prop :=
  ∀ (x : D) (ds : List D) (v : V) (vs : List V) (M : Mp) (S : Store) (H : Hp) (Q : VK), RS K M S H → RD K M H x v → RDs K M H ds vs → Go K W M H (g x ds S) (fun d M' H' _ => ∀ u, RD K M' H' d u → Q u H') → r v vs H Q
def mBM (T : String) (g : D → List D → Store → Res D) (f : Cm D) (fa : Cm (List D)) : Cm D := fun env S => (f env S).bind fun x S1 => if isTy T x S1 = true then (fa env S1).bind fun ds S2 => g x ds S2 else none
variable {T id : String} {name : Str} {r : V → List V → Hp → VK → Prop} {mg : D → List D → Store → Res D}
theorem ie_bm (pa : PlainAttrs T) (slot : Slot T name id) (hty : typeOf (.builtin id) = pure (.type "method_descriptor")) (hm : MtR X id r) (hC : MtC X.K W r mg) (ho : IE X W o f) (ha : IA X W (e :: es) fa)
    (hbase : attributeBase o name X.env (eval o X.env) = eval o X.env := by rfl)
    (hfew : ((backTo cpos (starEach (e :: es) X.env)).all (fun x => !x.1) && (backToKw cpos (keywordEach [] X.env)).all (fun x => x.1.isSome)
      && decide ((e :: es).length + ([] : List Keyword).length + (if ([] : List Keyword).isEmpty then 0 else 1) < 30)) = true := by rfl)
    (hline : (apos.endLine == cpos.line) = true := by rfl) (hs : starEach (e :: es) X.env = (false, eval e X.env) :: starEach es X.env := by rfl) (hplain : (backTo cpos (starEach es X.env)).any (·.1) = false := by rfl) :
    IE X W (.Call (.Attribute o name apos) (e :: es) [] cpos) (mBM T mg f fa) :=
  PE_weak (pe_bm pa slot hty hm ho ha hbase hfew hline hs hplain) fun σ H Q hw => by
    obtain ⟨env, S, M, re, rs, go⟩ := hw
    refine ⟨env, S, M, re, rs, (Go.bind go).imp fun x M1 H1 S1 s1 rs1 g1 v rv => ?_⟩
    split at g1
    · rename_i hd
      refine ⟨isTy_rd rs1 rv hd, env, S1, M1, re.mono s1, rs1, (Go.bind g1).imp fun ds M2 H2 S2 s2 rs2 g2 vs rvs => ?_⟩
      exact hC x ds v vs M2 S2 H2 Q rs2 (rv.mono s2) rvs g2
    · exact g1.none_elim
theorem ie_bm0 (pa : PlainAttrs T) (slot : Slot T name id) (hty : typeOf (.builtin id) = pure (.type "method_descriptor")) (hm : MtR X id r) (hC : MtC X.K W r mg) (ho : IE X W o f)
    (hbase : attributeBase o name X.env (eval o X.env) = eval o X.env := by rfl) (hline : (apos.endLine == cpos.line) = true := by rfl) : IE X W (.Call (.Attribute o name apos) [] [] cpos) (mBM T mg f mNil) :=
  PE_weak (pe_bm0 pa slot hty hm ho hbase hline) fun σ H Q hw => by
    obtain ⟨env, S, M, re, rs, go⟩ := hw
    refine ⟨env, S, M, re, rs, (Go.bind go).imp fun x M1 H1 S1 s1 rs1 g1 v rv => ?_⟩
    split at g1
    · rename_i hd
      exact ⟨isTy_rd rs1 rv hd, hC x [] v [] M1 S1 H1 Q rs1 rv .nil g1⟩
    · exact g1.none_elim
end
section
variable {K : PySem.W.Frag} {W : Wish}
def appendM (x : D) (ds : List D) (S : Store) : Res D := match x, ds with
  | .loc n, [y] => match S[n]? with
    | some (.lst xs) => if xs.length < sizeLine then ok .non (S.set n (.lst (xs ++ [y]))) else none
    | _ => none
  | _, _ => none
theorem appendC : MtC K W rAppend appendM := fun x ds v vs M S H Q rs rx rds go => by
  unfold appendM at go
  split at go
  · rename_i n y
    split at go
    · rename_i xs hx
      split at go
      · rename_i hl
        obtain ⟨a, rfl, hm, us, h3, h4⟩ := rx.loc_at rs hx (by simp)
        obtain ⟨w, ws, rfl, r1, r2⟩ := rds.cons_inv
        rw [r2.nil_inv]
        obtain ⟨s, rs'⟩ := rs.write (o := .lst (us ++ [w])) (b := .lst (xs ++ [y])) hm (by simp) fun s => ⟨_, upd_same, (h4.mono s).append (.cons (r1.mono s) .nil)⟩
        exact ⟨a, us, w, rfl, rfl, h3, by rw [← h4.length]; exact hl, go.okM s rs' _ .non⟩
      · exact go.none_elim
    · exact go.none_elim
  · exact go.none_elim
def extendM (x : D) (ds : List D) (S : Store) : Res D := match x, ds with
  | .loc n, [y] => match S[n]?, asL1 y S with
    | some (.lst xs), some zs => if xs.length + zs.length ≤ sizeLine then ok .non (S.set n (.lst (xs ++ zs))) else none
    | _, _ => none
  | _, _ => none
theorem extendC : MtC K W rExtend extendM := fun x ds v vs M S H Q rs rx rds go => by
  unfold extendM at go
  split at go
  · rename_i n y
    split at go
    · rename_i xs zs hx hz
      split at go
      · rename_i hl
        obtain ⟨a, rfl, hm, us, h3, h4⟩ := rx.loc_at rs hx (by simp)
        obtain ⟨w, ws, rfl, r1, r2⟩ := rds.cons_inv
        rw [r2.nil_inv]
        obtain ⟨b, zv, rfl, h5, h6⟩ := asL1_rd rs r1 hz
        obtain ⟨s, rs'⟩ := rs.write (o := .lst (us ++ zv)) (b := .lst (xs ++ zs)) hm (by simp) fun s => ⟨_, upd_same, (h4.mono s).append (h6.mono s)⟩
        exact ⟨a, b, us, zv, rfl, rfl, h3, h5, by rw [← h4.length, ← h6.length]; exact hl, go.okM s rs' _ .non⟩
      · exact go.none_elim
    · exact go.none_elim
  · exact go.none_elim
def popM (x : D) (ds : List D) (S : Store) : Res D := match x, ds with
  | .loc n, [] => match S[n]? with
    | some (.lst xs) => match xs[xs.length - 1]? with
      | some y => ok y (S.set n (.lst xs.dropLast))
      | none => none
    | _ => none
  | _, _ => none
theorem popC : MtC K W rPop popM := fun x ds v vs M S H Q rs rx rds go => by
  unfold popM at go
  split at go
  · rename_i n
    split at go
    · rename_i xs hx
      split at go
      · rename_i y hy
        obtain ⟨a, rfl, hm, us, h3, h4⟩ := rx.loc_at rs hx (by simp)
        rw [rds.nil_inv]
        obtain ⟨u, e1, e2⟩ := h4.get hy
        obtain ⟨s, rs'⟩ := rs.write (o := .lst us.dropLast) (b := .lst xs.dropLast) hm (by simp) fun s => ⟨_, upd_same, (h4.mono s).dropLast⟩
        exact ⟨a, us, u, rfl, rfl, h3, by rw [← h4.length]; exact e1, go.okM s rs' _ (e2.mono s)⟩
      · exact go.none_elim
    · exact go.none_elim
  · exact go.none_elim
def popAtM (x : D) (ds : List D) (S : Store) : Res D := match x, ds with
  | .loc n, [.int i] => match S[n]? with
    | some (.lst xs) => if -(2 ^ 63) ≤ i ∧ i < 2 ^ 63 then (match seqIndex? i xs.length with
      | some k => match xs[k]? with
        | some y => ok y (S.set n (.lst (xs.eraseIdx k)))
        | none => none
      | none => none) else none
    | _ => none
  | _, _ => none
theorem popAtC : MtC K W rPopAt popAtM := fun x ds v vs M S H Q rs rx rds go => by
  unfold popAtM at go
  split at go
  · rename_i n i
    split at go
    · rename_i xs hx
      split at go
      · rename_i hi
        split at go
        · rename_i k hk
          split at go
          · rename_i y hy
            obtain ⟨a, rfl, hm, us, h3, h4⟩ := rx.loc_at rs hx (by simp)
            obtain ⟨w, ws, rfl, r1, r2⟩ := rds.cons_inv
            rw [r2.nil_inv, r1.int_inv]
            obtain ⟨u, e1, e2⟩ := h4.get hy
            obtain ⟨s, rs'⟩ := rs.write (o := .lst (us.eraseIdx k)) (b := .lst (xs.eraseIdx k)) hm (by simp) fun s => ⟨_, upd_same, (h4.mono s).eraseIdx k⟩
            exact ⟨a, us, i, k, u, rfl, rfl, h3, hi.1, hi.2, by rw [← h4.length]; exact hk, e1, go.okM s rs' _ (e2.mono s)⟩
          · exact go.none_elim
        · exact go.none_elim
      · exact go.none_elim
    · exact go.none_elim
  · exact go.none_elim
/-- texts that a list or tuple holds -/
def strsD : List D → Option (List Str)
  | [] => some []
  | .str x :: ds => (strsD ds).map (x :: ·)
  | _ :: _ => none
theorem strsD_eq : ∀ {ds : List D} {xs : List Str}, strsD ds = some xs → ds = xs.map D.str
  | [], _, e => by rw [strsD] at e; cases e; rfl
  | d :: ds, xs, e => by
    cases d <;> simp only [strsD] at e <;> first | cases e | skip
    rename_i x
    cases q : strsD ds with
    | none => rw [q] at e; cases e
    | some ys =>
      rw [q] at e
      have e : x :: ys = xs := Option.some.inj e
      subst e
      rw [strsD_eq q]; rfl

def joinM (x : D) (ds : List D) (S : Store) : Res D := match x, ds with
  | .str a, [y] => match (match asT y with | some xs => some xs | none => asL y S) with
    | some xs => match strsD xs with
      | some ys => if (ys.map (·.length)).sum + ys.length * a.length ≤ 16777216 then ok (.str (Txt.join a ys)) S else none
      | none => none
    | none => none
  | _, _ => none
def rJoin (K : PySem.W.Frag) : V → List V → Hp → VK → Prop := fun x xs H Q => ∃ a p, ∃ ys : List Str, x = .str a ∧ xs = [.ref p] ∧ (SqL K H p (ys.map V.str) ∨ SqT K H p (ys.map V.str)) ∧ ((ys.map (·.length)).sum + ys.length * a.length ≤ 16777216) ∧ Q (.str (Txt.join a ys)) H
theorem joinC : MtC K W (rJoin K) joinM := fun x ds v vs M S H Q rs rx rds go => by
  unfold joinM at go
  split at go
  · rename_i a y
    split at go
    · rename_i xs hx
      split at go
      · rename_i ys hys
        split at go
        · rename_i hl
          obtain ⟨w, ws, rfl, r1, r2⟩ := rds.cons_inv
          rw [r2.nil_inv, rx.str_inv]
          rw [strsD_eq hys] at hx
          have hs : ∃ a vs, w = .ref a ∧ (SqL K H a vs ∨ SqT K H a vs) ∧ RDs K M H (ys.map D.str) vs := by
            split at hx
            · rename_i zs hz
              cases hx
              obtain ⟨b, us, h1, h2, h3⟩ := asT_rd r1 hz
              exact ⟨b, us, h1, .inr h2, h3⟩
            · obtain ⟨b, us, h1, h2, h3⟩ := asL_rd rs r1 hx
              exact ⟨b, us, h1, .inl h2, h3⟩
          obtain ⟨b, us, rfl, h2, h3⟩ := hs
          rw [h3.strs_inv] at h2
          exact ⟨a, b, ys, rfl, rfl, h2, hl, goD go rs (.str _)⟩
        · exact go.none_elim
      · exact go.none_elim
    · exact go.none_elim
  · exact go.none_elim
def str2M (g : Str → Str → D) (x : D) (ds : List D) (S : Store) : Res D := match x, ds with
  | .str a, [.str b] => ok (g a b) S
  | _, _ => none
theorem str2C {g : Str → Str → V} {gd : Str → Str → D} (hg : ∀ a b M H, RD K M H (gd a b) (g a b)) : MtC K W (fun x xs H Q => ∃ a b, x = .str a ∧ xs = [.str b] ∧ Q (g a b) H) (str2M gd) := fun x ds v vs M S H Q rs rx rds go => by
  unfold str2M at go
  split at go
  · rename_i a b
    obtain ⟨w, ws, rfl, r1, r2⟩ := rds.cons_inv
    rw [r2.nil_inv, rx.str_inv, r1.str_inv]
    exact ⟨a, b, rfl, rfl, goD go rs (hg a b M H)⟩
  · exact go.none_elim
def startsM : D → List D → Store → Res D := str2M fun a b => .bl (Txt.startswith a b)
def endsM : D → List D → Store → Res D := str2M fun a b => .bl (Txt.endswith a b)
theorem startsC : MtC K W (fun x xs H Q => ∃ a b, x = .str a ∧ xs = [.str b] ∧ Q (.bl (Txt.startswith a b)) H) startsM := str2C fun _ _ _ _ => .bl _
theorem endsC : MtC K W (fun x xs H Q => ∃ a b, x = .str a ∧ xs = [.str b] ∧ Q (.bl (Txt.endswith a b)) H) endsM := str2C fun _ _ _ _ => .bl _
end
end Md

/-! MdOps3: calls of built-ins. -/
namespace Md
open PySem PySem.Spec PyProof.Rows L2

section
variable {K : PySem.W.Frag} {W : Wish}
def CallC (K : PySem.W.Frag) (W : Wish) (r : List V → Hp → VK → Prop) (g : List D → Store → Res D) : Prop :=
  ∀ (ds : List D) (vs : List V) (M : Mp) (S : Store) (H : Hp) (Q : VK), RS K M S H → RDs K M H ds vs → Go K W M H (g ds S) (fun d M' H' _ => ∀ u, RD K M' H' d u → Q u H') → r vs H Q
/-- .. that makes a new list -/
def CallL (K : PySem.W.Frag) (r : List V → Hp → VK → Prop) (g : List D → Store → Option (List D)) : Prop :=
  ∀ (ds out : List D) (vs : List V) (M : Mp) (S : Store) (H : Hp) (Q : VK), RS K M S H → RDs K M H ds vs → g ds S = some out → (∀ p ws, H p = none → RDs K M H out ws → Q (.ref p) (upd H p (.lst ws))) → r vs H Q
def mCl (g : List D → Store → Res D) (fa : Cm (List D)) : Cm D := fun env S => (fa env S).bind fun ds S1 => g ds S1
def mClL (g : List D → Store → Option (List D)) (fa : Cm (List D)) : Cm (List D) := fun env S => (fa env S).bind fun ds S1 => match g ds S1 with
  | some out => ok out S1
  | none => none
theorem cl_weak {r : List V → Hp → VK → Prop} {g : List D → Store → Res D} {fa : Cm (List D)} (hC : CallC K W r g) : ∀ σ H Q, tD K W (mCl g fa) σ H Q → tCB r (tA K W fa) σ H Q := fun σ H Q h => by
  obtain ⟨env, S, M, re, rs, go⟩ := h
  exact ⟨env, S, M, re, rs, (Go.bind go).imp fun ds M1 H1 S1 s1 rs1 g1 vs rvs => hC ds vs M1 S1 H1 Q rs1 rvs g1⟩
theorem cll_weak {r : List V → Hp → VK → Prop} {g : List D → Store → Option (List D)} {fa : Cm (List D)} (hC : CallL K r g) : ∀ σ H Q, tL K W (mClL g fa) σ H Q → tCB r (tA K W fa) σ H Q := fun σ H Q h => by
  obtain ⟨env, S, M, re, rs, go⟩ := h
  refine ⟨env, S, M, re, rs, (tL_go go).imp fun ds M1 H1 S1 s1 rs1 g1 vs rvs => ?_⟩
  split at g1
  · rename_i out ho
    exact hC ds out vs M1 S1 H1 Q rs1 rvs ho fun p ws hp rw' => tL_end rs1 rw' g1 p hp
  · exact g1.none_elim
end
section
variable {X : Cx} {W : Wish} {e : Expr} {es : List Expr} {pos p : Pos} {x : Str} {id T : String} {r : List V → Hp → VK → Prop} {g : List D → Store → Res D} {gl : List D → Store → Option (List D)} {fa : Cm (List D)}
theorem ie_callB (hc : CallR X (.builtin id) r) (hC : CallC X.K W r g) (hm : X.mg x = none) (hv : bootBuiltins x = some (.builtin id)) (ha : IA X W (e :: es) fa) (hg : Gl X x := by rfl) (hn : x ≠ "__name__" := by decide) (hdb : (x == ("__debug__" : Str)) = false := by decide)
    (he : starEach (e :: es) X.env = (false, eval e X.env) :: starEach es X.env := by rfl) (hpl : (backTo pos (starEach es X.env)).any (·.1) = false := by rfl) : IE X W (.Call (.Name x p) (e :: es) [] pos) (mCl g fa) :=
  PE_weak (pe_callB hc hg hm hv ha hn hdb he hpl) (cl_weak hC)
theorem ie_callTy (hc : CallR X (.type T) r) (hC : CallC X.K W r g) (hm : X.mg x = none) (hv : bootBuiltins x = some (.type T)) (ha : IA X W (e :: es) fa) (hg : Gl X x := by rfl) (hn : x ≠ "__name__" := by decide) (hdb : (x == ("__debug__" : Str)) = false := by decide)
    (he : starEach (e :: es) X.env = (false, eval e X.env) :: starEach es X.env := by rfl) (hpl : (backTo pos (starEach es X.env)).any (·.1) = false := by rfl) : IE X W (.Call (.Name x p) (e :: es) [] pos) (mCl g fa) :=
  PE_weak (pe_callTy hc hg hm hv ha hn hdb he hpl) (cl_weak hC)
theorem il_callB (hc : CallR X (.builtin id) r) (hC : CallL X.K r gl) (hm : X.mg x = none) (hv : bootBuiltins x = some (.builtin id)) (ha : IA X W (e :: es) fa) (hg : Gl X x := by rfl) (hn : x ≠ "__name__" := by decide) (hdb : (x == ("__debug__" : Str)) = false := by decide)
    (he : starEach (e :: es) X.env = (false, eval e X.env) :: starEach es X.env := by rfl) (hpl : (backTo pos (starEach es X.env)).any (·.1) = false := by rfl) : IL X W (.Call (.Name x p) (e :: es) [] pos) (mClL gl fa) :=
  PE_weak (pe_callB hc hg hm hv ha hn hdb he hpl) (cll_weak hC)
theorem il_callTy (hc : CallR X (.type T) r) (hC : CallL X.K r gl) (hm : X.mg x = none) (hv : bootBuiltins x = some (.type T)) (ha : IA X W (e :: es) fa) (hg : Gl X x := by rfl) (hn : x ≠ "__name__" := by decide) (hdb : (x == ("__debug__" : Str)) = false := by decide)
    (he : starEach (e :: es) X.env = (false, eval e X.env) :: starEach es X.env := by rfl) (hpl : (backTo pos (starEach es X.env)).any (·.1) = false := by rfl) : IL X W (.Call (.Name x p) (e :: es) [] pos) (mClL gl fa) :=
  PE_weak (pe_callTy hc hg hm hv ha hn hdb he hpl) (cll_weak hC)
/-! ### len -/
def seqOf (d : D) (S : Store) : Option (List D) := match asT d with
  | some xs => some xs
  | none => asL d S
theorem seqOf_rd {K : PySem.W.Frag} {M : Mp} {S : Store} {H : Hp} {d : D} {v : V} {xs : List D} (rs : RS K M S H) (h : RD K M H d v) (e : seqOf d S = some xs) : ∃ a vs, v = .ref a ∧ (SqL K H a vs ∨ SqT K H a vs) ∧ RDs K M H xs vs := by
  unfold seqOf at e
  split at e
  · rename_i ys hy
    cases e
    obtain ⟨a, vs, h1, h2, h3⟩ := asT_rd h hy
    exact ⟨a, vs, h1, .inr h2, h3⟩
  · obtain ⟨a, vs, h1, h2, h3⟩ := asL_rd rs h e
    exact ⟨a, vs, h1, .inl h2, h3⟩
def lenD (d : D) (S : Store) : Option Int := match d with
  | .str z => if z.length ≤ sizeLine then some z.length else none
  | d => match seqOf d S with
    | some xs => some xs.length
    | none => match asDK d S with
      | some kvs => some kvs.length
      | none => none
def lenF (ds : List D) (S : Store) : Res D := match ds with
  | [d] => match lenD d S with
    | some n => ok (.int n) S
    | none => none
  | _ => none
def rLen (K : PySem.W.Frag) : List V → Hp → VK → Prop := fun xs H Q => (∃ p ys, xs = [.ref p] ∧ (SqL K H p ys ∨ SqT K H p ys) ∧ Q (.int ys.length) H) ∨ (∃ z : Str, xs = [.str z] ∧ z.length ≤ sizeLine ∧ Q (.int z.length) H) ∨ ∃ a kvs, xs = [.ref a] ∧ Rd H a (.dK kvs) ∧ Q (.int kvs.length) H
theorem call_lenX {X : Cx} : CallR X (.builtin "len") (rLen X.K) := call_len_seq.or (call_len_str.or fun pins s σ H xs us Q I r h => by
  obtain ⟨a, kvs, rfl, h1, q⟩ := h
  obtain ⟨u, rfl, rx⟩ := vals1 r
  cases (show u = Value.ref a from rx)
  exact d_len I h1 fun t s' I' => ⟨.int kvs.length, H, I', ⟨t, rfl⟩, q⟩)
theorem lenC {K : PySem.W.Frag} : CallC K W (rLen K) lenF := fun ds vs M S H Q rs rds go => by
  unfold lenF at go
  split at go
  · rename_i d
    obtain ⟨w, ws, rfl, r1, r2⟩ := rds.cons_inv
    rw [r2.nil_inv]
    split at go
    · rename_i n hn
      unfold lenD at hn
      split at hn
      · split at hn
        · cases hn
          rw [r1.str_inv]
          exact .inr (.inl ⟨_, rfl, by assumption, goD go rs (.int _)⟩)
        · cases hn
      · split at hn
        · rename_i xs hx
          cases hn
          obtain ⟨a, us, rfl, h2, h3⟩ := seqOf_rd rs r1 hx
          exact .inl ⟨a, us, rfl, h2, by rw [← h3.length]; exact goD go rs (.int _)⟩
        · split at hn
          · rename_i kvs hk
            cases hn
            obtain ⟨a, kws, rfl, h2, h3⟩ := asDK_rd rs r1 hk
            exact .inr (.inr ⟨a, kws, rfl, h2, by rw [← h3.length]; exact goD go rs (.int _)⟩)
          · cases hn
    · exact go.none_elim
  · exact go.none_elim
/-! ### int, abs, min, max of two -/
def intF (ds : List D) (S : Store) : Res D := match ds with
  | [.int i] => ok (.int i) S
  | [.bl b] => ok (.int (if b = true then 1 else 0)) S
  | _ => none
theorem intC {K : PySem.W.Frag} : CallC K W (fun xs H Q => (∃ i, xs = [.int i] ∧ Q (.int i) H) ∨ ∃ k, xs = [.bl k] ∧ Q (.int (if k then 1 else 0)) H) intF := fun ds vs M S H Q rs rds go => by
  unfold intF at go
  split at go
  · obtain ⟨w, ws, rfl, r1, r2⟩ := rds.cons_inv
    rw [r2.nil_inv, r1.int_inv]
    exact .inl ⟨_, rfl, goD go rs (.int _)⟩
  · obtain ⟨w, ws, rfl, r1, r2⟩ := rds.cons_inv
    rw [r2.nil_inv, r1.bl_inv]
    exact .inr ⟨_, rfl, goD go rs (.int _)⟩
  · exact go.none_elim
def absF (ds : List D) (S : Store) : Res D := match ds with
  | [.int i] => ok (.int (if i < 0 then -i else i)) S
  | _ => none
theorem absC {K : PySem.W.Frag} : CallC K W (fun xs H Q => ∃ i, xs = [.int i] ∧ Q (.int (if i < 0 then -i else i)) H) absF := fun ds vs M S H Q rs rds go => by
  unfold absF at go
  split at go
  · obtain ⟨w, ws, rfl, r1, r2⟩ := rds.cons_inv
    rw [r2.nil_inv, r1.int_inv]
    exact ⟨_, rfl, goD go rs (.int _)⟩
  · exact go.none_elim
def int2F (f : Int → Int → Int) (ds : List D) (S : Store) : Res D := match ds with
  | [.int i, .int j] => ok (.int (f i j)) S
  | _ => none
theorem int2C {K : PySem.W.Frag} {f : Int → Int → Int} : CallC K W (fun xs H Q => ∃ i j, xs = [.int i, .int j] ∧ Q (.int (f i j)) H) (int2F f) := fun ds vs M S H Q rs rds go => by
  unfold int2F at go
  split at go
  · obtain ⟨w, ws, rfl, r1, r2⟩ := rds.cons_inv
    obtain ⟨w', ws', rfl, r3, r4⟩ := r2.cons_inv
    rw [r4.nil_inv, r3.int_inv, r1.int_inv]
    exact ⟨_, _, rfl, goD go rs (.int _)⟩
  · exact go.none_elim
def max2F : List D → Store → Res D := int2F fun i j => if j > i then j else i
def min2F : List D → Store → Res D := int2F fun i j => if j < i then j else i
theorem max2C {K : PySem.W.Frag} : CallC K W (fun xs H Q => ∃ i j, xs = [.int i, .int j] ∧ Q (.int (if j > i then j else i)) H) max2F := int2C
theorem min2C {K : PySem.W.Frag} : CallC K W (fun xs H Q => ∃ i j, xs = [.int i, .int j] ∧ Q (.int (if j < i then j else i)) H) min2F := int2C
/-! ### list(..), tuple(..) -/
def listF (ds : List D) (S : Store) : Option (List D) := match ds with
  | [.str z] => if z.cps.size ≤ sizeLine then some (chD z) else none
  | [d] => seqOf d S
  | _ => none
def rListX (K : PySem.W.Frag) : List V → Hp → VK → Prop := fun xs H Q => (∃ p ys, xs = [.ref p] ∧ (SqL K H p ys ∨ SqT K H p ys) ∧ ∀ l, H l = none → Q (.ref l) (upd H l (.lst ys))) ∨ ∃ z : Str, xs = [.str z] ∧ z.cps.size ≤ sizeLine ∧ ∀ l, H l = none → Q (.ref l) (upd H l (.lst (z.cps.toList.map fun c => V.str ⟨#[c]⟩)))
theorem call_list_s {X : Cx} (hc : X.calm = true) : CallR X (.type "list") (fun xs H Q => ∃ z : Str, xs = [.str z] ∧ z.cps.size ≤ sizeLine ∧ ∀ l, H l = none → Q (.ref l) (upd H l (.lst (z.cps.toList.map fun c => V.str ⟨#[c]⟩)))) := by
  intro pins s σ H xs us Q I r h
  obtain ⟨z, rfl, hz, q⟩ := h
  obtain ⟨u, rfl, rx⟩ := vals1 r
  obtain ⟨t, rfl⟩ := rx
  refine PySem.call_list_str (hn := hz) (I.ok.hd hc) z t fun h' tk acc' c' hk hS hacc => ?_
  have hlen : (z.cps.toList.map fun c => V.str ⟨#[c]⟩).length = acc'.toList.length := by simp [hacc.1]
  refine ⟨.ref s.heap.objs.size, _, I.laid (o := .lst (z.cps.toList.map fun c => V.str ⟨#[c]⟩)) hk (Nat.le_refl _) ⟨by simpa using hz, acc'.toList, c', vals_of_at hlen fun j x w h1 h2 => ?_, by rw [Array.toArray_toList]; exact hS⟩, rfl, q _ (I.hok.fresh (Nat.le_refl _))⟩
  obtain ⟨c, t', h4, h5⟩ := hacc.2 j w (by rw [← Array.getElem?_toList]; exact h2)
  subst h5
  rw [List.getElem?_map] at h1
  have h6 : z.cps.toList[j]? = some c := by simpa using h4
  rw [h6] at h1
  have h1 : V.str ⟨#[c]⟩ = x := Option.some.inj h1
  subst h1
  exact ⟨t', rfl⟩
theorem call_listX {X : Cx} (hc : X.calm = true) : CallR X (.type "list") (rListX X.K) := call_list_of.or (call_list_s hc)
theorem chD_rd {K : PySem.W.Frag} {M : Mp} {H : Hp} {z : Str} {ws : List V} (h : RDs K M H (chD z) ws) : ws = z.cps.toList.map fun c => V.str ⟨#[c]⟩ := by
  have e : chD z = (z.cps.toList.map fun c => (⟨#[c]⟩ : Str)).map D.str := by simp [chD]
  rw [e] at h
  rw [h.strs_inv]
  simp
theorem chD_mk {K : PySem.W.Frag} {M : Mp} {H : Hp} (z : Str) : RDs K M H (chD z) (z.cps.toList.map fun c => V.str ⟨#[c]⟩) := by
  have e : chD z = (z.cps.toList.map fun c => (⟨#[c]⟩ : Str)).map D.str := by simp [chD]
  have e2 : (z.cps.toList.map fun c => V.str ⟨#[c]⟩) = (z.cps.toList.map fun c => (⟨#[c]⟩ : Str)).map V.str := by simp
  rw [e, e2]
  exact .strs _
theorem listC {K : PySem.W.Frag} : CallL K (rListX K) listF := fun ds out vs M S H Q rs rds e q => by
  unfold listF at e
  split at e
  · split at e
    · rename_i z hz
      cases e
      obtain ⟨w, ws, rfl, r1, r2⟩ := rds.cons_inv
      rw [r2.nil_inv, r1.str_inv]
      exact .inr ⟨z, rfl, hz, fun l hl => q l _ hl (chD_mk z)⟩
    · cases e
  · obtain ⟨w, ws, rfl, r1, r2⟩ := rds.cons_inv
    rw [r2.nil_inv]
    obtain ⟨a, us, rfl, h2, h3⟩ := seqOf_rd rs r1 e
    exact .inl ⟨a, us, rfl, h2, fun l hl => q l us hl h3⟩
  · cases e
def tupleF (ds : List D) (S : Store) : Res D := match ds with
  | [d] => match asT d with
    | some _ => ok d S
    | none => match asL d S with
      | some xs => ok (.tup xs) S
      | none => none
  | _ => none
theorem tupleC {K : PySem.W.Frag} : CallC K W (fun xs H Q => ∃ p ys, xs = [.ref p] ∧ ((SqL K H p ys ∧ ∀ l, H l = none → Q (.ref l) (upd H l (.tup ys))) ∨ (SqT K H p ys ∧ Q (.ref p) H))) tupleF := fun ds vs M S H Q rs rds go => by
  unfold tupleF at go
  split at go
  · rename_i d
    obtain ⟨w, ws, rfl, r1, r2⟩ := rds.cons_inv
    rw [r2.nil_inv]
    split at go
    · rename_i xs hx
      obtain ⟨a, us, rfl, h2, h3⟩ := asT_rd r1 hx
      exact ⟨a, us, rfl, .inr ⟨h2, goD go rs r1⟩⟩
    · split at go
      · rename_i xs hx
        obtain ⟨a, us, rfl, h2, h3⟩ := asL_rd rs r1 hx
        exact ⟨a, us, rfl, .inl ⟨h2, goT go rs h3⟩⟩
      · exact go.none_elim
  · exact go.none_elim
/-- list(range(..)) -/
theorem rgD_rd {K : PySem.W.Frag} {M : Mp} {H : Hp} (a b : Int) : RDs K M H (rgD a (b - a).toNat) (rgV a b) := by
  have e1 : rgD a (b - a).toNat = ((List.range (b - a).toNat).map fun i => a + (i : Nat)).map D.int := by simp [rgD]
  have e2 : rgV a b = ((List.range (b - a).toNat).map fun i => a + (i : Nat)).map V.int := by simp [rgV]
  rw [e1, e2]
  exact .ints _
instance {a b : Int} : Decidable (RgOk a b) := by unfold RgOk; infer_instance
def mLrg1 (f : Cm D) : Cm (List D) := fun env S => (f env S).bind fun d S1 => match d with
  | .int n => if RgOk 0 n then ok (rgD 0 n.toNat) S1 else none
  | _ => none
theorem il_lrg1 {X : Cx} {a : Expr} {p p2 pos pos2 : Pos} {f : Cm D} (hc : X.calm = true) (hm : X.mg "list" = none) (hm2 : X.mg "range" = none) (ha : IE X W a f) (hg : Gl X "list" := by rfl) (hg2 : Gl X "range" := by rfl)
    (na2 : starEach [a] X.env = (false, eval a X.env) :: starEach [] X.env := by rfl) (na : starEach [.Call (.Name "range" p2) [a] [] pos2] X.env = (false, eval (.Call (.Name "range" p2) [a] [] pos2) X.env) :: starEach [] X.env := by rfl) :
    IL X W (.Call (.Name "list" p) [.Call (.Name "range" p2) [a] [] pos2] [] pos) (mLrg1 f) := PE_weak (pe_listRg hc hg hm (prg_1 hg2 hm2 ha na2) na) fun σ H Q h => by
  obtain ⟨env, S, M, re, rs, h⟩ := h
  refine ⟨env, S, M, re, rs, (tL_go h).imp fun d M1 H1 S1 s1 rs1 g1 v rv => ?_⟩
  split at g1
  · rename_i n
    split at g1
    · rename_i hok
      refine ⟨n, rv.int_inv, hok, tL_end rs1 ?_ g1⟩
      have := rgD_rd (K := X.K) (M := M1) (H := H1) 0 n
      rwa [Int.sub_zero] at this
    · exact g1.none_elim
  · exact g1.none_elim
/-! ### isinstance -/
inductive Ty where
  | int | str | tup | bl | lst | dct
def Ty.nm : Ty → String
  | .int => "int" | .str => "str" | .tup => "tuple" | .bl => "bool" | .lst => "list" | .dct => "dict"
def tyNm (d : D) (S : Store) : Option String := match d with
  | .non => some "NoneType"
  | .bl _ => some "bool"
  | .int _ => some "int"
  | .str _ => some "str"
  | .tup _ => some "tuple"
  | .lst _ => some "list"
  | .loc n => match S[n]? with
    | some (.lst _) => some "list"
    | some (.dk _) => some "dict"
    | some (.dt _) => some "dict"
    | _ => none
  | _ => none
def isBob (o : Option Ob) (T : Ty) : Option Bool := match o, T with
  | some (.lst _), .lst => some true
  | some (.lst _), _ => some false
  | some (.dk _), .dct => some true
  | some (.dk _), _ => some false
  | some (.dt _), .dct => some true
  | some (.dt _), _ => some false
  | _, _ => none
def isB (d : D) (T : Ty) (S : Store) : Option Bool := match d, T with
  | .non, _ => some false
  | .bl _, .bl => some true
  | .bl _, .int => some true
  | .bl _, _ => some false
  | .int _, .int => some true
  | .int _, _ => some false
  | .str _, .str => some true
  | .str _, _ => some false
  | .tup _, .tup => some true
  | .tup _, _ => some false
  | .lst _, .lst => some true
  | .lst _, _ => some false
  | .loc n, T => isBob S[n]? T
  | _, _ => none
def mIsi (T : Ty) (f : Cm D) : Cm D := fun env S => (f env S).bind fun d S1 => match isB d T S1 with
  | some b => ok (.bl b) S1
  | none => none
theorem kit_tab : ∀ T : Ty, kitB "NoneType" T.nm = some false ∧ kitB "bool" T.nm = some (match T with | .bl => true | .int => true | _ => false) ∧ kitB "int" T.nm = some (match T with | .int => true | _ => false) ∧ kitB "str" T.nm = some (match T with | .str => true | _ => false) ∧
    kitB "tuple" T.nm = some (match T with | .tup => true | _ => false) ∧ kitB "list" T.nm = some (match T with | .lst => true | _ => false) ∧ kitB "dict" T.nm = some (match T with | .dct => true | _ => false) := by
  intro T
  cases T <;> refine ⟨?_, ?_, ?_, ?_, ?_, ?_, ?_⟩ <;> decide +kernel
theorem isB_rd {K : PySem.W.Frag} {M : Mp} {S : Store} {H : Hp} {d : D} {v : V} {T : Ty} {b : Bool} (rs : RS K M S H) (h : RD K M H d v) (e : isB d T S = some b) : ∃ a, TyX K H v (.type a) ∧ kitB a T.nm = some b := by
  obtain ⟨k1, k2, k3, k4, k5, k6, k7⟩ := kit_tab T
  cases d with
  | non =>
    rw [h.non_inv]
    cases T <;> simp only [isB] at e <;> cases e <;> exact ⟨_, .base .non, k1⟩
  | bl x =>
    rw [h.bl_inv]
    cases T <;> simp only [isB] at e <;> cases e <;> exact ⟨_, .base (.bl x), k2⟩
  | int x =>
    rw [h.int_inv]
    cases T <;> simp only [isB] at e <;> cases e <;> exact ⟨_, .base (.int x), k3⟩
  | str x =>
    rw [h.str_inv]
    cases T <;> simp only [isB] at e <;> cases e <;> exact ⟨_, .base (.str x), k4⟩
  | tup xs =>
    rw [RD] at h
    obtain ⟨a, vs, rfl, h2, _⟩ := h
    cases T <;> simp only [isB] at e <;> cases e <;> exact ⟨_, .base (.tup h2), k5⟩
  | lst xs =>
    rw [RD] at h
    obtain ⟨a, vs, rfl, h2, _⟩ := h
    cases T <;> simp only [isB] at e <;> cases e <;> exact ⟨_, .base (.lst h2.1), k6⟩
  | loc n =>
    have e : isBob S[n]? T = some b := by
      cases T <;> exact e
    cases q : S[n]? with
    | none => rw [q] at e; cases e
    | some ob =>
      rw [q] at e
      cases ob with
      | lst xs =>
        obtain ⟨a, rfl, _, vs, h3, _⟩ := h.loc_at rs q (by simp)
        cases T <;> simp only [isBob] at e <;> cases e <;> exact ⟨_, .base (.lst h3), k6⟩
      | dk xs =>
        obtain ⟨a, rfl, _, vs, h3, _⟩ := h.loc_at rs q (by simp)
        cases T <;> simp only [isBob] at e <;> cases e <;> exact ⟨_, .base (.dK h3), k7⟩
      | dt xs =>
        obtain ⟨a, rfl, _, vs, h3, _⟩ := h.loc_at rs q (by simp)
        cases T <;> simp only [isBob] at e <;> cases e <;> exact ⟨_, .base (.dT h3), k7⟩
      | _ => cases T <;> cases e
  | _ => cases T <;> cases e
theorem ie_isi {X : Cx} {a : Expr} {n : Str} {p p1 pos : Pos} {f : Cm D} (T : Ty) (hm : X.mg "isinstance" = none) (hm1 : X.mg n = none) (ha : IE X W a f) (hv1 : bootBuiltins n = some (.type T.nm) := by decide +kernel) (hg : Gl X "isinstance" := by rfl) (hg1 : Gl X n := by rfl)
    (hn1 : n ≠ "__name__" := by decide) (hd1 : (n == ("__debug__" : Str)) = false := by decide) (hv : bootBuiltins "isinstance" = some (.builtin "isinstance") := by decide +kernel)
    (s1 : starEach [a, .Name n p1] X.env = (false, eval a X.env) :: starEach [.Name n p1] X.env := by rfl) (s2 : starEach [.Name n p1] X.env = (false, eval (.Name n p1) X.env) :: starEach [] X.env := by rfl)
    (hpl : (backTo pos (starEach [.Name n p1] X.env)).any (·.1) = false := by rfl) : IE X W (.Call (.Name "isinstance" p) [a, .Name n p1] [] pos) (mIsi T f) :=
  PE_weak (pe_callB call_isi hg hm hv (pa_cons ha (pa_cons (pe_bltn (v := .ty T.nm) hg1 hm1 hv1 rfl hn1 hd1) pa_nil s2) s1) (by decide) (by decide) s1 hpl) fun σ H Q h => by
    obtain ⟨env, S, M, re, rs, go⟩ := h
    refine ⟨env, S, M, re, rs, (Go.bind go).imp fun d M1 H1 S1 s1 rs1 g1 v rv => ?_⟩
    split at g1
    · rename_i b hb
      obtain ⟨t, h1, h2⟩ := isB_rd rs1 rv hb
      exact ⟨v, .ty T.nm, .type t, .type T.nm, b, rfl, .ty _, h1, kit_ty h2, goD g1 rs1 (.bl _)⟩
    · exact g1.none_elim
end
end Md

/-! MdSort: sorted(..) of data. -/
namespace Md
open PySem PySem.Spec PyProof.Rows L2

def encD (d : D) : PyData := (toPy d).getD .none
def sortD (xs : List D) : List D := xs.mergeSort (PySem.W.dataLe false encD)
def sorty (p : PyData) : Bool := match p with
  | .tuple (_ :: _) => true
  | _ => false
def plainy (p : PyData) : Bool := match p with
  | .none => false
  | .tuple _ => false
  | _ => true
/-- what may be sorted -/
def sortOk (xs : List D) : Bool := decide (xs.length ≤ sizeLine) && xs.all (fun d => (toPy d).isSome && decide ((encD d).depth ≤ 60)) && xs.all (fun d => xs.all fun d' => PySem.W.alike (encD d) (encD d')) && (xs.all (fun d => sorty (encD d)) || xs.all (fun d => plainy (encD d)))
def sortedF (ds : List D) (S : Store) : Option (List D) := match ds with
  | [d] => match asL d S with
    | some xs => if sortOk xs = true then some (sortD xs) else none
    | none => none
  | _ => none
def rSortedD (K : PySem.W.Frag) : List V → Hp → VK → Prop := fun vs H Q => ∃ (a : Addr) (bs : List (V × PyData)), vs = [V.ref a] ∧ SqL K H a (bs.map (·.1)) ∧ (∀ b ∈ bs, Dp K H b.1 b.2) ∧ PySem.W.AllAlike (bs.map (·.2)) ∧ PySem.W.Sortable (bs.map (·.2)) ∧ bs.length ≤ sizeLine ∧ (∀ b ∈ bs, b.2.depth ≤ 60) ∧
  ∀ p, H p = none → Q (.ref p) (upd H p (.lst ((bs.mergeSort (PySem.W.dataLe false (·.2))).map (·.1))))
theorem each_vals {bs : List (V × PyData)} : ∀ {its : List Value}, Vals (bs.map (·.1)) its → PySem.W.EachIs (fun (u : Value) (b : V × PyData) => RelV b.1 u) its bs := by
  induction bs with
  | nil => intro its h; cases h; exact .nil
  | cons b bs ih =>
    intro its h
    cases h with
    | cons r t => exact .cons r (ih t)
theorem vals_each {bs : List (V × PyData)} : ∀ {its : List Value}, PySem.W.EachIs (fun (u : Value) (b : V × PyData) => RelV b.1 u) its bs → Vals (bs.map (·.1)) its := by
  induction bs with
  | nil => intro its h; cases h; exact .nil
  | cons b bs ih =>
    intro its h
    cases h with
    | cons r t => exact .cons r (ih t)
theorem each_reads {X : Cx} {pins : List (Addr × Obj)} {σ : L2.St} {H : Hp} {s : Shared} (I : Inv X pins σ H s) {bs : List (V × PyData)} (hd : ∀ b ∈ bs, Dp X.K H b.1 b.2) : ∀ {its : List Value}, Vals (bs.map (·.1)) its → PySem.W.EachIs (fun (u : Value) (b : V × PyData) => ∃ as, Reads s.heap u b.2 as) its bs := by
  induction bs with
  | nil => intro its h; cases h; exact .nil
  | cons b bs ih =>
    intro its h
    cases h with
    | cons r t => exact .cons (Dp.reads I b.2 b.1 _ (hd b List.mem_cons_self) r) (ih (fun c hc => hd c (List.mem_cons_of_mem _ hc)) t)
theorem cr_sortedD {X : Cx} (hu : X.A.units + 64 < cLine) : CallR X (.builtin "sorted") (rSortedD X.K) := by
  intro pins s σ H vs us Q I r h
  obtain ⟨a, bs, rfl, hs, hdp, hal, hk, hl, hdep, q⟩ := h
  obtain ⟨its, rv, hl', _⟩ := I.list hs
  rw [Vals.ref1 r]
  refine PySem.W.sorted_data (R := fun (u : Value) (b : V × PyData) => RelV b.1 u) (enc := fun b => b.2) (bs := bs) hl'.isList (each_vals rv) (each_reads I hdp rv) hal hk hl (fun b hb => ?_) fun out hlen hout => ?_
  · have := hdep b hb
    omega
  · obtain ⟨ep, he'⟩ := PyProof.Rows.sortedAll_at s.heap its out.toArray
    have hv := vals_each hout
    have hz : ((bs.mergeSort (PySem.W.dataLe false (·.2))).map (·.1)).length ≤ sizeLine := by
      rw [List.length_map, List.length_mergeSort]; exact hl
    refine ⟨.ref _, _, I.laid (t' := s.toks) (o := .lst ((bs.mergeSort (PySem.W.dataLe false (·.2))).map (·.1))) (fun _ _ => PyProof.Rows.sortedAll_old) (Nat.le_succ _) ⟨hz, out, ep, hv, ?_⟩, rfl, q _ (I.hok.fresh (Nat.le_succ _))⟩
    exact he'
theorem RDs.all {K : PySem.W.Frag} {M : Mp} {H : Hp} : ∀ {ts : List (D × V)}, (∀ t ∈ ts, RD K M H t.1 t.2) → RDs K M H (ts.map (·.1)) (ts.map (·.2))
  | [], _ => .nil
  | t :: ts, h => .cons (h t List.mem_cons_self) (RDs.all fun u hu => h u (List.mem_cons_of_mem _ hu))
theorem RDs.zip_mem {K : PySem.W.Frag} {M : Mp} {H : Hp} : ∀ {ds : List D} {vs : List V}, RDs K M H ds vs → ∀ t ∈ ds.zip vs, RD K M H t.1 t.2
  | [], _, _, t, ht => by simp at ht
  | d :: ds, _, h, t, ht => by
    obtain ⟨v, ws, rfl, h1, h2⟩ := h.cons_inv
    rw [List.zip_cons_cons] at ht
    rcases List.mem_cons.mp ht with e | ht
    · rw [e]; exact h1
    · exact RDs.zip_mem h2 t ht
theorem sortedC {K : PySem.W.Frag} : CallL K (rSortedD K) sortedF := fun ds out vs M S H Q rs rds e q => by
  unfold sortedF at e
  split at e
  · rename_i d
    obtain ⟨w, ws, rfl, r1, r2⟩ := rds.cons_inv
    rw [r2.nil_inv]
    split at e
    · rename_i xs hx
      split at e
      · rename_i hok
        cases e
        obtain ⟨a, us, rfl, h2, h3⟩ := asL_rd rs r1 hx
        unfold sortOk at hok
        simp only [Bool.and_eq_true, Bool.or_eq_true, List.all_eq_true, decide_eq_true_eq] at hok
        obtain ⟨⟨⟨k1, k2⟩, k3⟩, k4⟩ := hok
        have hl := h3.length
        have hm := RDs.zip_mem h3
        -- the pairs of values and data
        have e1 : ((xs.zip us).map fun t => (t.2, encD t.1)).map (·.1) = us := by
          rw [List.map_map]; exact map_zip2 hl
        have e2 : ((xs.zip us).map fun t => (t.2, encD t.1)).map (·.2) = xs.map encD := by
          rw [List.map_map]
          show (xs.zip us).map (encD ∘ (·.1)) = _
          rw [← List.map_map, map_zip1 hl]
        have hsort : ((xs.zip us).map fun t => (t.2, encD t.1)).mergeSort (PySem.W.dataLe false (·.2)) = ((xs.zip us).mergeSort (PySem.W.dataLe false fun t => encD t.1)).map fun t => (t.2, encD t.1) :=
          (List.map_mergeSort (r := PySem.W.dataLe false fun t : D × V => encD t.1) (s := PySem.W.dataLe false fun b : V × PyData => b.2) (f := fun t : D × V => (t.2, encD t.1)) (fun a _ b _ => rfl)).symm
        have hsort2 : sortD xs = ((xs.zip us).mergeSort (PySem.W.dataLe false fun t => encD t.1)).map (·.1) := by
          rw [List.map_mergeSort (r := PySem.W.dataLe false fun t : D × V => encD t.1) (s := PySem.W.dataLe false encD) (f := fun t : D × V => t.1) (fun a _ b _ => rfl), map_zip1 hl]; rfl
        refine ⟨a, (xs.zip us).map fun t => (t.2, encD t.1), rfl, by rw [e1]; exact h2, fun b hb => ?_, ?_, ?_, by rw [List.length_map, List.length_zip, ← hl, Nat.min_self]; exact k1, fun b hb => ?_, fun p hp => ?_⟩
        · obtain ⟨t, ht, rfl⟩ := List.mem_map.mp hb
          have hx' : t.1 ∈ xs := by
            have := List.mem_map_of_mem (f := (·.1)) ht
            rwa [map_zip1 hl] at this
          have := (k2 t.1 hx').1
          cases hp : toPy t.1 with
          | none => rw [hp] at this; cases this
          | some y =>
            have ey : encD t.1 = y := by unfold encD; rw [hp]; rfl
            show Dp K H t.2 (encD t.1)
            rw [ey]
            exact toPy_rd.1 _ _ _ (hm t ht) hp
        · rw [e2]
          intro p hp p' hp'
          obtain ⟨x, hx1, rfl⟩ := List.mem_map.mp hp
          obtain ⟨y, hy1, rfl⟩ := List.mem_map.mp hp'
          exact k3 x hx1 y hy1
        · rw [e2]
          rcases k4 with k4 | k4
          · left
            intro p hp
            obtain ⟨x, hx1, rfl⟩ := List.mem_map.mp hp
            have := k4 x hx1
            unfold sorty at this
            split at this
            · rename_i y r e; exact ⟨y, r, e⟩
            · cases this
          · right
            intro p hp
            obtain ⟨x, hx1, rfl⟩ := List.mem_map.mp hp
            have := k4 x hx1
            unfold plainy at this
            split at this
            · cases this
            · cases this
            · rename_i n1 n2
              exact ⟨n1, n2⟩
        · obtain ⟨t, ht, rfl⟩ := List.mem_map.mp hb
          have hx' : t.1 ∈ xs := by
            have := List.mem_map_of_mem (f := (·.1)) ht
            rwa [map_zip1 hl] at this
          exact (k2 t.1 hx').2
        · rw [hsort, List.map_map]
          refine q p _ hp ?_
          rw [hsort2]
          exact RDs.all (ts := (xs.zip us).mergeSort (PySem.W.dataLe false fun t => encD t.1)) fun t ht => hm t (List.mem_mergeSort.mp ht)
      · cases e
    · cases e
  · cases e
end Md

/-! MdMore: a name's object leaves the store; keyword calls; a def that is never called; ends. -/
namespace Md
open PySem PySem.Spec PyProof.Rows L2

section
variable {X : Cx} {W : Wish}
/-- ahead of a statement: the list or dict at slot i is a value from now on -/
def mFz (i : Nat) (f : Sm) : Sm := fun env S => match env[i]? with
  | some (some (.loc n)) => match S[n]? with
    | some (.lst xs) => f (env.set i (some (.lst xs))) (S.set n .dead)
    | some (.dk kvs) => f (env.set i (some (.dk (kvs.map (·.1)) (kvs.map (·.2))))) (S.set n .dead)
    | some (.dt kvs) => f (env.set i (some (.dt (kvs.map (·.1)) (kvs.map (·.2))))) (S.set n .dead)
    | _ => none
  | some (some _) => f env S
  | _ => none
theorem set_self {α : Type} {l : List α} {i : Nat} {x : α} (h : l[i]? = some x) : l.set i x = l := by
  apply List.ext_getElem?
  intro j
  by_cases e : i = j
  · subst e
    rw [List.getElem?_set_self (List.getElem?_eq_some_iff.mp h).1, h]
  · rw [List.getElem?_set_ne e]
theorem fz_weak {K : PySem.W.Frag} {i : Nat} {f : Sm} : ∀ D' σ H, tS K W (mFz i f) D' σ H → tS K W f D' σ H := fun D' σ H h => by
  obtain ⟨env, S, M, re, rs, go⟩ := h
  unfold mFz at go
  split at go
  · rename_i n hn
    obtain ⟨v, hv, rv⟩ := re.at' i _ hn
    have fin : ∀ (b : Ob) (d : D), S[n]? = some b → b ≠ .dead → (∀ a, M.m[n]? = some (some a) → v = .ref a → RO K M H b a → ¬ Exc ⟨M.m.set n none, M.r⟩ a → RD K ⟨M.m.set n none, M.r⟩ H d v) → Go K W M H (f (env.set i (some d)) (S.set n .dead)) (fun o M' H' _ => OutP K D' o M' H') → tS K W f D' σ H := by
      intro b d hb nd hd go
      obtain ⟨a, e1, hm, ro⟩ := rv.loc_at rs hb nd
      obtain ⟨rs', nx⟩ := rs.kill hm
      have st : Stp M H ⟨M.m.set n none, M.r⟩ H := Stp.kill hm
      refine ⟨env.set i (some d), S.set n .dead, ⟨M.m.set n none, M.r⟩, ?_, rs', go.step st⟩
      have := (re.mono st).set i (hd a hm e1 ro nx)
      rwa [set_self hv] at this
    split at go
    · rename_i xs hx
      refine fin _ _ hx (by simp) (fun a hm e1 ro nx => ?_) go
      obtain ⟨vs, h1, h2⟩ := ro
      rw [RD]
      exact ⟨a, vs, e1, ⟨h1, nx⟩, h2.mono (Stp.kill hm)⟩
    · rename_i kvs hx
      refine fin _ _ hx (by simp) (fun a hm e1 ro nx => ?_) go
      obtain ⟨vs, h1, h2⟩ := ro
      rw [RD]
      exact ⟨a, vs, e1, ⟨.inl h1, nx⟩, by simp, h2.mono (Stp.kill hm)⟩
    · rename_i kvs hx
      refine fin _ _ hx (by simp) (fun a hm e1 ro nx => ?_) go
      obtain ⟨vs, h1, h2⟩ := ro
      rw [RD]
      exact ⟨a, vs, e1, ⟨.inl h1, nx⟩, by simp, h2.mono (Stp.kill hm)⟩
    · exact go.none_elim
  · exact ⟨env, S, M, re, rs, go⟩
  · exact go.none_elim
theorem is_fz {st : Stmt} {f : Sm} (i : Nat) (h : IS X W st f) : IS X W st (mFz i f) := PS_weak h fz_weak
end

/-! ### keyword calls -/
def gP (n m : Nat) (perm : List Nat) (us ws : List Value) : List Value := if us.length = n ∧ ws.length = m then perm.map fun i => (us ++ ws).getD i .none else []
def gPV (n m : Nat) (perm : List Nat) (us ws : List V) : List V := if us.length = n ∧ ws.length = m then perm.map fun i => (us ++ ws).getD i .non else []
theorem gP_rel {n m : Nat} {perm : List Nat} {vs : List V} {us : List Value} {zs : List V} {ws : List Value} (h1 : Vals vs us) (h2 : Vals zs ws) : Vals (gPV n m perm vs zs) (gP n m perm us ws) := by
  unfold gP gPV
  rw [h1.length, h2.length]
  split
  · have r := h1.append h2
    clear h1 h2
    induction perm with
    | nil => exact .nil
    | cons i is ih =>
      refine .cons ?_ ih
      cases q : (vs ++ zs)[i]? with
      | none =>
        have q2 := r.none_of q
        show RelV ((vs ++ zs).getD i .non) ((us ++ ws).getD i .none)
        rw [List.getD_eq_getElem?_getD, List.getD_eq_getElem?_getD, q, q2]
        rfl
      | some x =>
        obtain ⟨u, q2, ru⟩ := r.get q
        show RelV ((vs ++ zs).getD i .non) ((us ++ ws).getD i .none)
        rw [List.getD_eq_getElem?_getD, List.getD_eq_getElem?_getD, q, q2]
        exact ru
  · exact .nil
/-- the data in the parameters' order -/
def permD (perm : List Nat) (ds : List D) : Option (List D) := match perm with
  | [] => some []
  | i :: is => match ds[i]?, permD is ds with
    | some d, some ds' => some (d :: ds')
    | _, _ => none
theorem permD_rd {K : PySem.W.Frag} {M : Mp} {H : Hp} {ds : List D} {vs : List V} (r : RDs K M H ds vs) : ∀ {perm : List Nat} {out : List D}, permD perm ds = some out → RDs K M H out (perm.map fun i => vs.getD i .non)
  | [], _, e => by rw [permD] at e; cases e; exact .nil
  | i :: is, _, e => by
    rw [permD] at e
    split at e
    · rename_i d ds' h1 h2
      cases e
      obtain ⟨v, e1, rv⟩ := r.get h1
      refine .cons ?_ (permD_rd r h2)
      show RD K M H d (vs.getD i .non)
      rw [List.getD_eq_getElem?_getD, e1]
      exact rv
    · cases e
/-- a def of the program that can be called by keywords -/
structure FnK (P : Program) (w : World) (K : PySem.W.Frag) (mg : Str → Option Value) (base : Heap) (k : Nat) (x : Str) (g : Fn) (n m : Nat) (ks : List Str) (perm : List Nat) : Prop where
  ex : ∃ f fd ps, FnOk P w K mg base CX0 k f fd ps (spF K g) ∧ mg x = some (.ref f) ∧ PySem.W.keepIn K (.ref f) = true ∧ KBinds K fd ps ks (gP n m perm) (gPV n m perm)
def mCallK (g : Fn) (n m : Nat) (perm : List Nat) (fa fk : Cm (List D)) : Cm D := fun env S => (fa env S).bind fun ds S1 => (fk env S1).bind fun zs S2 => if ds.length = n ∧ zs.length = m then (match permD perm (ds ++ zs) with
  | some args => callD g args S2
  | none => none) else none
section
variable {X : Cx} {W : Wish} {e : Expr} {es : List Expr} {kws : List Keyword} {pos p : Pos} {x : Str} {fa fk : Cm (List D)} {g : Fn} {n m : Nat} {ks : List Str} {perm : List Nat}
abbrev IK (X : Cx) (W : Wish) (kws : List Keyword) (f : Cm (List D)) : Prop := PK X kws (tA X.K W f)
theorem ik_nil : IK X W [] mNil := ⟨fun pos pins s σ H Q I h => pk_nil.run pos pins s σ H Q I (by
  obtain ⟨env, S, M, re, rs, go⟩ := h
  exact go.ok rs [] .nil)⟩
theorem ik_cons {nm : Option Str} {kpos : Pos} {f : Cm D} (ha : IE X W e f) (hr : IK X W kws fk) : IK X W (⟨nm, e, kpos⟩ :: kws) (mCons f fk) := ⟨fun pos pins s σ H Q I h => (pk_cons ha hr).run pos pins s σ H Q I (by
  obtain ⟨env, S, M, re, rs, go⟩ := h
  refine ⟨env, S, M, re, rs, (Go.bind go).imp fun d M1 H1 S1 s1 rs1 g1 v rv => ?_⟩
  refine ⟨env, S1, M1, re.mono s1, rs1, (Go.bind g1).imp fun ds M2 H2 S2 s2 rs2 g2 vs rvs => ?_⟩
  exact g2.ok rs2 _ (.cons (rv.mono s2) rvs))⟩
theorem pe_callK0 {CX : CXT} {k : Nat} {f : Addr} {fd : FuncData} {ps : List Str} {sp : Sp} {E : XK} {gg : List Value → List Value → List Value} {gV : List V → List V → List V} {tk : TA} (F : FnOk X.prog X.w X.K X.mg X.base CX k f fd ps sp) (hr : Room k X.A) (hg : Gl X x) (hm : X.mg x = some (.ref f)) (hk : PySem.W.keepIn X.K (.ref f) = true) (hb : KBinds X.K fd ps ks gg gV) (hx : Passes CX X E)
    (hkw : PK X kws tk) (hall : (backToKw pos (keywordEach kws X.env)).all (·.1.isSome) = true := by rfl) (hks : (backToKw pos (keywordEach kws X.env)).filterMap (·.1) = ks := by rfl)
    (hdb : (x == ("__debug__" : Str)) = false := by decide) (hpl : ((backTo pos (starEach [] X.env)).any (·.1) || (backToKw pos (keywordEach kws X.env)).any (·.1.isNone)) = false := by rfl) :
    PE X (.Call (.Name x p) [] kws pos) (tCallK sp gV E tNil tk) := by
  refine ⟨fun pins s σ H Q I h => ?_⟩
  refine wpAny_Call_Name_kw (ld_glob I hg hm ?_ hdb)
  refine PySem.W.callWith_KW0 (h₀ := X.base) I.ok.mod.kin hk hall (thn (hkw.run pos pins s σ H _ I h) fun ws s2 ⟨zs, H2, I2, rz, q2⟩ => ⟨I2.kIn, ?_⟩) hpl
  rw [hks]
  exact run_fnk F hr hb hx I2 .nil rz q2
theorem ie_callK {k j : Nat} (F : FnK X.prog X.w X.K X.mg X.base k x g n m ks perm) (hr : Room j X.A) (hk : k ≤ j) (ha : IA X W (e :: es) fa) (hkw : IK X W kws fk) (hg : Gl X x := by rfl) (hall : (backToKw pos (keywordEach kws X.env)).all (·.1.isSome) = true := by rfl) (hks : (backToKw pos (keywordEach kws X.env)).filterMap (·.1) = ks := by rfl)
    (hdb : (x == ("__debug__" : Str)) = false := by decide) (he : starEach (e :: es) X.env = (false, eval e X.env) :: starEach es X.env := by rfl)
    (hpl : ((backTo pos (starEach (e :: es) X.env)).any (·.1) || (backToKw pos (keywordEach kws X.env)).any (·.1.isNone)) = false := by rfl) : IE X W (.Call (.Name x p) (e :: es) kws pos) (mCallK g n m perm fa fk) := by
  obtain ⟨f, fd, ps, F1, F2, F3, F4⟩ := F.ex
  refine PE_weak (pe_callK (E := E0) F1 (hr.mono hk) hg F2 F3 F4 pass0 ha hkw hall hks hdb he hpl) fun σ H Q h => ?_
  obtain ⟨env, S, M, re, rs, go⟩ := h
  refine ⟨env, S, M, re, rs, (Go.bind go).imp fun ds M1 H1 S1 s1 rs1 g1 vs rvs => ?_⟩
  refine ⟨env, S1, M1, re.mono s1, rs1, (Go.bind g1).imp fun zs M2 H2 S2 s2 rs2 g2 us rus => ?_⟩
  have r1 := rvs.mono s2
  split at g2
  · rename_i hl
    split at g2
    · rename_i args ha
      have : gPV n m perm vs us = perm.map fun i => (vs ++ us).getD i .non := by
        unfold gPV
        rw [if_pos ⟨by rw [← r1.length]; exact hl.1, by rw [← rus.length]; exact hl.2⟩]
      show spF X.K g (gPV n m perm vs us) H2 Q E0
      rw [this]
      exact spF_call (permD_rd (r1.append rus) ha) rs2 g2
    · exact g2.none_elim
  · exact g2.none_elim
theorem ie_callK0 {k j : Nat} (F : FnK X.prog X.w X.K X.mg X.base k x g 0 m ks perm) (hr : Room j X.A) (hk : k ≤ j) (hkw : IK X W kws fk) (hg : Gl X x := by rfl) (hall : (backToKw pos (keywordEach kws X.env)).all (·.1.isSome) = true := by rfl) (hks : (backToKw pos (keywordEach kws X.env)).filterMap (·.1) = ks := by rfl)
    (hdb : (x == ("__debug__" : Str)) = false := by decide) (hpl : ((backTo pos (starEach [] X.env)).any (·.1) || (backToKw pos (keywordEach kws X.env)).any (·.1.isNone)) = false := by rfl) : IE X W (.Call (.Name x p) [] kws pos) (mCallK g 0 m perm mNil fk) := by
  obtain ⟨f, fd, ps, F1, F2, F3, F4⟩ := F.ex
  refine PE_weak (pe_callK0 (E := E0) F1 (hr.mono hk) hg F2 F3 F4 pass0 hkw hall hks hdb hpl) fun σ H Q h => ?_
  obtain ⟨env, S, M, re, rs, go⟩ := h
  have go : Go X.K W M H ((fk env S).bind fun zs S2 => if ([] : List D).length = 0 ∧ zs.length = m then (match permD perm ([] ++ zs) with | some args => callD g args S2 | none => none) else none) _ := go
  show tA X.K W fk σ H fun zs H2 => spF X.K g (gPV 0 m perm [] zs) H2 Q E0
  refine ⟨env, S, M, re, rs, (Go.bind go).imp fun zs M2 H2 S2 s2 rs2 g2 us rus => ?_⟩
  split at g2
  · rename_i hl
    split at g2
    · rename_i args ha
      have : gPV 0 m perm [] us = perm.map fun i => us.getD i .non := by
        unfold gPV
        rw [if_pos ⟨rfl, by rw [← rus.length]; exact hl.2⟩]
        rfl
      rw [this]
      exact spF_call (permD_rd rus ha) rs2 g2
    · exact g2.none_elim
  · exact g2.none_elim
end
section
variable {P : Program} {w : World} {K : PySem.W.Frag} {mg : Str → Option Value} {base : Heap}
theorem fn_none {k : Nat} {f : Addr} {fd : FuncData} {ps : List Str} : FnOk P w K mg base CX0 k f fd ps (spF K fun _ _ => none) :=
  ⟨fun vs H Q E h => by obtain ⟨_, _, _, _, _, go⟩ := h; exact go.none_elim, fun A outer s H args us vs Q E _ _ _ _ h => by obtain ⟨_, _, _, _, _, go⟩ := h; exact go.none_elim⟩
theorem fn_k {x qual : Str} {st : Stmt} {f : Addr} {fd : FuncData} {ps : List Str} {k : Nat} {g : Fn} {n m : Nat} {ks : List Str} {perm : List Nat} (F : Fun K x qual st f fd) (hm : mg x = some (.ref f)) (hp : ps ≠ [])
    (hb : ∀ (kV doc pm : Value) (an : Option Addr) (cdv ct : Value) (us ws : List Value), us.length = n → ws.length = m → bindArgs (PySem.W.fnOf x qual (defArgs st) (defBody st) (defScope st) .none kV doc pm an cdv ct) ⟨us, ks.zip ws⟩ = pure (ps.zip (perm.map fun i => (us ++ ws).getD i .none)))
    (h : FnOk P w K mg base CX0 k f fd ps (spF K g)) : FnK P w K mg base k x g n m ks perm := by
  refine ⟨f, fd, ps, h, hm, F.kp, fun s us ws hk hl => ?_, fun h1 h2 => gP_rel h1 h2⟩
  obtain ⟨oc, od, kV, doc, pm, an, cdv, ct, osl, rfl, lk, hcd⟩ := F.ex
  unfold gP at hl ⊢
  split at hl
  · rename_i hc
    rw [if_pos hc]
    exact .of_eq (hb kV doc pm an cdv ct us ws hc.1 hc.2)
  · exact absurd (List.length_eq_zero_iff.mp hl.symm) hp
end
end Md

/-! MdEv: what a meaning ends in; rules that walk a meaning. -/
namespace Md
open PySem PySem.Spec PyProof.Rows L2

/-- m ends well, in some a and S of which Q holds -/
inductive Tg {α : Type} (Q : α → Store → Prop) : Type | mk
def Ev {α : Type} (m : Res α) (Q : α → Store → Prop) (_ : Tg Q := .mk) : Prop := ∃ a S, m = some (.ok a, S) ∧ Q a S
section
variable {α β : Type} {m m' : Res α} {Q R : α → Store → Prop} {S : Store} {env : Env}
theorem Ev.imp (h : Ev m Q) (f : ∀ a S, Q a S → R a S) : Ev m R := by
  obtain ⟨a, S, e, q⟩ := h
  exact ⟨a, S, e, f a S q⟩
theorem evq (h : ∀ a S, Q a S = R a S) : Ev m Q = Ev m R := propext ⟨fun z => z.imp fun a S q => (h a S) ▸ q, fun z => z.imp fun a S q => (h a S).symm ▸ q⟩
@[simp] theorem ev_ok {a : α} : Ev (ok a S) Q = Q a S := propext ⟨fun ⟨_, _, e, q⟩ => by cases e; exact q, fun q => ⟨a, S, rfl, q⟩⟩
@[simp] theorem ev_some {a : α} : Ev (some (.ok a, S)) Q = Q a S := ev_ok
@[simp] theorem ev_none : Ev (none : Res α) Q = False := propext ⟨fun ⟨_, _, e, _⟩ => (by cases e), False.elim⟩
@[simp ↓] theorem ev_bind {k : α → Store → Res β} {Q : β → Store → Prop} : Ev (Res.bind m k) Q = Ev m fun a S => Ev (k a S) Q := propext ⟨fun ⟨b, S, e, q⟩ => by
    rcases m with _ | ⟨x | a, S1⟩
    · cases e
    · cases e
    · exact ⟨a, S1, rfl, b, S, e, q⟩, fun ⟨a, S1, e, h⟩ => by subst e; exact h⟩
@[simp ↓] theorem ev_bind0 {k : α → Store → Res β} {Q : β → Store → Prop} : Ev (Res.bind0 m k) Q = Ev m fun a S => Ev (k a S) Q := propext ⟨fun ⟨b, S, e, q⟩ => by
    rcases m with _ | ⟨x | a, S1⟩
    · cases e
    · cases e
    · exact ⟨a, S1, rfl, b, S, e, q⟩, fun ⟨a, S1, e, h⟩ => by subst e; exact h⟩
@[simp] theorem ev_guard {c : Prop} [Decidable c] : Ev (if c then m else none) Q = (c ∧ Ev m Q) := by
  by_cases h : c <;> simp [h]
theorem Ev.ite {c : Prop} [Decidable c] (h1 : c → Ev m Q) (h2 : ¬ c → Ev m' Q) : Ev (if c then m else m') Q := by
  by_cases h : c
  · rw [if_pos h]; exact h1 h
  · rw [if_neg h]; exact h2 h
end
section
variable {env : Env} {S : Store} {Q : D → Store → Prop} {QB : Bool → Store → Prop} {QL : List D → Store → Prop} {QS : Out → Store → Prop}
/-! ### expressions -/
@[simp ↓] theorem ev_var {i : Nat} : Ev (mVar i env S) Q = Ev (match env[i]? with | some (some d) => ok d S | _ => none) Q := rfl
@[simp ↓] theorem ev_c {d : D} : Ev (mC d env S) Q = Q d S := ev_ok
@[simp ↓] theorem ev_bin {op : D → D → Store → Res D} {f g : Cm D} : Ev (mBin op f g env S) Q = Ev (f env S) fun x S1 => Ev (g env S1) fun y S2 => Ev (op x y S2) Q := by unfold mBin; rw [ev_bind]; refine evq fun a S => ?_; rw [ev_bind]
@[simp ↓] theorem ev_tst {f : Cm D} : Ev (mTst f env S) QB = Ev (f env S) fun d S1 => Ev (match d with | .bl b => ok b S1 | _ => none) QB := ev_bind
@[simp ↓] theorem ev_un {op : D → Store → Res D} {f : Cm D} : Ev (mUn op f env S) Q = Ev (f env S) fun x S1 => Ev (op x S1) Q := ev_bind
@[simp ↓] theorem ev_tru {f : Cm D} : Ev (mTru f env S) QB = Ev (f env S) fun d S1 => Ev (match truD d S1 with | some b => ok b S1 | none => none) QB := ev_bind
theorem ev_cond {α : Type} {Q : α → Store → Prop} {m m' : Res α} {b : Bool} : Ev (if b = true then m else m') Q = Ev (bif b then m else m') Q := by cases b <;> rfl
@[simp ↓] theorem ev_and {f g : Cm Bool} : Ev (mAnd f g env S) QB = Ev (f env S) fun b S1 => Ev (bif b then g env S1 else ok false S1) QB := by unfold mAnd; rw [ev_bind]; refine evq fun a S => ?_; rw [ev_cond]
@[simp ↓] theorem ev_or {f g : Cm Bool} : Ev (mOr f g env S) QB = Ev (f env S) fun b S1 => Ev (bif b then ok true S1 else g env S1) QB := by unfold mOr; rw [ev_bind]; refine evq fun a S => ?_; rw [ev_cond]
@[simp ↓] theorem ev_not {f : Cm Bool} : Ev (mNot f env S) QB = Ev (f env S) fun b S1 => QB (!b) S1 := by unfold mNot; rw [ev_bind]; refine evq fun a S => ?_; rw [ev_ok]
@[simp ↓] theorem ev_andV {f g : Cm D} : Ev (mAndV f g env S) Q = Ev (f env S) fun d S1 => Ev (match truD d S1 with | some true => g env S1 | some false => ok d S1 | none => none) Q := ev_bind
@[simp ↓] theorem ev_orV {f g : Cm D} : Ev (mOrV f g env S) Q = Ev (f env S) fun d S1 => Ev (match truD d S1 with | some false => g env S1 | some true => ok d S1 | none => none) Q := ev_bind
@[simp ↓] theorem ev_notV {f : Cm D} : Ev (mNotV f env S) Q = Ev (f env S) fun d S1 => Ev (match truD d S1 with | some b => ok (.bl (!b)) S1 | none => none) Q := ev_bind
@[simp ↓] theorem ev_if {t : Cm Bool} {f g : Cm D} : Ev (mIf t f g env S) Q = Ev (t env S) fun b S1 => Ev (bif b then f env S1 else g env S1) Q := by unfold mIf; rw [ev_bind]; refine evq fun a S => ?_; rw [ev_cond]
@[simp ↓] theorem ev_nil : Ev (mNil env S) QL = QL [] S := ev_ok
@[simp ↓] theorem ev_cons {f : Cm D} {g : Cm (List D)} : Ev (mCons f g env S) QL = Ev (f env S) fun d S1 => Ev (g env S1) fun ds S2 => QL (d :: ds) S2 := by unfold mCons; rw [ev_bind]; refine evq fun a S => ?_; rw [ev_bind]; refine evq fun a S => ?_; rw [ev_ok]
@[simp ↓] theorem ev_tup {fa : Cm (List D)} : Ev (mTup fa env S) Q = Ev (fa env S) fun ds S1 => ds.length ≤ sizeLine ∧ Q (.tup ds) S1 := by unfold mTup; rw [ev_bind]; refine evq fun a S => ?_; rw [ev_guard, ev_ok]
@[simp ↓] theorem ev_sized {fa : Cm (List D)} : Ev (mSized fa env S) QL = Ev (fa env S) fun ds S1 => ds.length ≤ sizeLine ∧ QL ds S1 := by unfold mSized; rw [ev_bind]; refine evq fun a S => ?_; rw [ev_guard, ev_ok]
@[simp ↓] theorem ev_frz {f : Cm (List D)} : Ev (mFrz f env S) Q = Ev (f env S) fun ds S1 => Q (.lst ds) S1 := by unfold mFrz; rw [ev_bind]; refine evq fun a S => ?_; rw [ev_ok]
@[simp ↓] theorem ev_mut {f : Cm (List D)} : Ev (mMut f env S) Q = Ev (f env S) fun ds S1 => Q (.loc S1.length) (S1 ++ [.lst ds]) := by unfold mMut; rw [ev_bind]; refine evq fun a S => ?_; rw [ev_ok]
@[simp ↓] theorem ev_newK : Ev (mNewK env S) Q = Q (.loc S.length) (S ++ [.dk []]) := ev_ok
@[simp ↓] theorem ev_newT : Ev (mNewT env S) Q = Q (.loc S.length) (S ++ [.dt []]) := ev_ok
@[simp ↓] theorem ev_call {g : Fn} {fa : Cm (List D)} : Ev (mCall g fa env S) Q = Ev (fa env S) fun ds S1 => Ev (callD g ds S1) Q := ev_bind
@[simp ↓] theorem ev_cl {g : List D → Store → Res D} {fa : Cm (List D)} : Ev (mCl g fa env S) Q = Ev (fa env S) fun ds S1 => Ev (g ds S1) Q := ev_bind
@[simp ↓] theorem ev_clL {g : List D → Store → Option (List D)} {fa : Cm (List D)} : Ev (mClL g fa env S) QL = Ev (fa env S) fun ds S1 => Ev (match g ds S1 with | some xs => ok xs S1 | none => none) QL := ev_bind
@[simp ↓] theorem ev_bm {T : String} {g : D → List D → Store → Res D} {f : Cm D} {fa : Cm (List D)} : Ev (mBM T g f fa env S) Q = Ev (f env S) fun x S1 => isTy T x S1 = true ∧ Ev (fa env S1) fun ds S2 => Ev (g x ds S2) Q := by unfold mBM; rw [ev_bind]; refine evq fun a S => ?_; rw [ev_guard, ev_bind]
@[simp ↓] theorem ev_get2 {f g h : Cm D} : Ev (mGet2 f g h env S) Q = Ev (f env S) fun d S1 => isDict d S1 = true ∧ Ev (g env S1) fun k S2 => Ev (h env S2) fun x S3 => Ev (match dgetD d k S3 with | some (some y) => ok y S3 | some none => ok x S3 | none => none) Q := by
  unfold mGet2; rw [ev_bind]; refine evq fun a S => ?_; rw [ev_guard, ev_bind]; refine congrArg (And _) (evq fun a S => ?_); (rw [ev_bind]) <;> rfl
@[simp ↓] theorem ev_isi {T : Ty} {f : Cm D} : Ev (mIsi T f env S) Q = Ev (f env S) fun d S1 => Ev (match isB d T S1 with | some b => ok (.bl b) S1 | none => none) Q := ev_bind
@[simp ↓] theorem ev_noP {QO : Option Int → Store → Prop} : Ev (mNoP env S) QO = QO none S := ev_ok
@[simp ↓] theorem ev_P {QO : Option Int → Store → Prop} {f : Cm D} : Ev (mP f env S) QO = Ev (f env S) fun d S1 => Ev (match d with | .int i => ok (some i) S1 | _ => none) QO := by
  unfold mP; first | exact ev_bind | (rw [ev_bind]; refine evq fun a S => ?_; rfl)
@[simp ↓] theorem ev_sl {f : Cm D} {l h : Cm (Option Int)} : Ev (mSl f l h env S) Q = Ev (f env S) fun x S1 => Ev (l env S1) fun lo S2 => Ev (h env S2) fun hi S3 => Ev (slD x lo hi S3) Q := by
  unfold mSl; rw [ev_bind]; refine evq fun a S => ?_; rw [ev_bind]; refine evq fun a S => ?_; rw [ev_bind]
@[simp ↓] theorem ev_lrg1 {f : Cm D} : Ev (mLrg1 f env S) QL = Ev (f env S) fun d S1 => Ev (match d with | .int n => if RgOk 0 n then ok (rgD 0 n.toNat) S1 else none | _ => none) QL := ev_bind
@[simp ↓] theorem ev_it {f : Cm D} : Ev (mIt f env S) QL = Ev (f env S) fun d S1 => Ev (match itD d with | some ds => ok ds S1 | none => none) QL := ev_bind
@[simp ↓] theorem ev_rng1 {fa : Cm (List D)} : Ev (mRng1 fa env S) QL = Ev (fa env S) fun ds S1 => Ev (match ds with | [.int j] => if RgLim j then ok (rgD 0 j.toNat) S1 else none | _ => none) QL := ev_bind
@[simp ↓] theorem ev_rng2 {fa : Cm (List D)} : Ev (mRng2 fa env S) QL = Ev (fa env S) fun ds S1 => Ev (match ds with | [.int i, .int j] => if RgLim i ∧ RgLim j then ok (rgD i (j - i).toNat) S1 else none | _ => none) QL := ev_bind
@[simp ↓] theorem ev_comp {p : Pt} {it : Cm (List D)} {t : Cm Bool} {f : Cm D} {own : List Nat} : Ev (mComp p it t f own env S) QL = Ev (it env S) fun ds S1 => ds.length ≤ sizeLine ∧ Ev (compL p t f ds (wipeE env own) S1) QL := by
  unfold mComp; rw [ev_bind]; refine evq fun a S => ?_; rw [ev_guard, ev_bind0]; refine congrArg (And _) (evq fun a S => ?_); rw [ev_ok]
@[simp ↓] theorem ev_yes : Ev (mYes env S) QB = QB true S := ev_ok
/-! ### statements -/
@[simp ↓] theorem ev_skip : Ev (mSkip env S) QS = QS (.nx env) S := ev_ok
@[simp ↓] theorem ev_brk : Ev (mBrk env S) QS = QS (.brk env) S := ev_ok
@[simp ↓] theorem ev_cnt : Ev (mCnt env S) QS = QS (.cnt env) S := ev_ok
@[simp ↓] theorem ev_seq {f g : Sm} : Ev (mSeq f g env S) QS = Ev (f env S) fun o S1 => match o with | .nx env1 => Ev (g env1 S1) QS | o => QS o S1 := by
  unfold mSeq; rw [ev_bind]; refine evq fun o S => ?_; cases o <;> first | rfl | exact ev_ok
@[simp ↓] theorem ev_drop {f : Cm D} : Ev (mDrop f env S) QS = Ev (f env S) fun _ S1 => QS (.nx env) S1 := by unfold mDrop; rw [ev_bind]; refine evq fun a S => ?_; rw [ev_ok]
@[simp ↓] theorem ev_ret {f : Cm D} : Ev (mRet f env S) QS = Ev (f env S) fun d S1 => QS (.ret d) S1 := by unfold mRet; rw [ev_bind]; refine evq fun a S => ?_; rw [ev_ok]
@[simp ↓] theorem ev_retN : Ev (mRetN env S) QS = QS (.ret .non) S := ev_ok
@[simp ↓] theorem ev_ite {t : Cm Bool} {f g : Sm} : Ev (mIte t f g env S) QS = Ev (t env S) fun b S1 => Ev (bif b then f env S1 else g env S1) QS := by unfold mIte; rw [ev_bind]; refine evq fun a S => ?_; rw [ev_cond]
@[simp ↓] theorem ev_asg {p : Pt} {f : Cm D} : Ev (mAsg p f env S) QS = Ev (f env S) fun d S1 => Ev (match bindP p d env with | some env' => ok (.nx env') S1 | none => none) QS := ev_bind
@[simp ↓] theorem ev_par {i j : Nat} {fa : Cm (List D)} : Ev (mPar i j fa env S) QS = Ev (fa env S) fun ds S1 => Ev (match ds with | [x, y] => ok (.nx ((env.set i (some x)).set j (some y))) S1 | _ => none) QS := ev_bind
@[simp ↓] theorem ev_put {op : D → D → D → Store → Res Unit} {ff fo fi : Cm D} : Ev (mPut op ff fo fi env S) QS = Ev (ff env S) fun v S1 => Ev (fo env S1) fun o S2 => Ev (fi env S2) fun i S3 => Ev (op o i v S3) fun _ S4 => QS (.nx env) S4 := by
  unfold mPut; rw [ev_bind]; refine evq fun a S => ?_; rw [ev_bind]; refine evq fun a S => ?_; rw [ev_bind]; refine evq fun a S => ?_; rw [ev_bind]; refine evq fun a S => ?_; rw [ev_ok]
@[simp ↓] theorem ev_for {p : Pt} {it : Cm (List D)} {f : Sm} : Ev (mFor p it f env S) QS = Ev (it env S) fun ds S1 => Ev (forL p f ds env S1) QS := ev_bind
@[simp ↓] theorem ev_fz {i : Nat} {f : Sm} : Ev (mFz i f env S) QS = Ev (match env[i]? with
  | some (some (.loc n)) => (match S[n]? with
    | some (.lst xs) => f (env.set i (some (.lst xs))) (S.set n .dead)
    | some (.dk kvs) => f (env.set i (some (.dk (kvs.map (·.1)) (kvs.map (·.2))))) (S.set n .dead)
    | some (.dt kvs) => f (env.set i (some (.dt (kvs.map (·.1)) (kvs.map (·.2))))) (S.set n .dead)
    | _ => none)
  | some (some _) => f env S
  | _ => none) QS := rfl
theorem ev_def {np nl : Nat} {f : Sm} {ds : List D} : Ev (mDef np nl f ds S) Q = (ds.length = np ∧ Ev (f (ds.map some ++ List.replicate nl none) S) fun o S1 => match o with | .ret d => Q d S1 | .nx _ => Q .non S1 | _ => False) := by
  unfold mDef
  rw [ev_guard, ev_bind]
  refine congrArg (And _) (evq fun o S => ?_)
  cases o <;> simp
theorem Ev.seq {f g : Sm} {R : Out → Store → Prop} (h1 : Ev (f env S) R) (h2 : ∀ o S1, R o S1 → match o with | .nx e => Ev (g e S1) QS | o => QS o S1) : Ev (mSeq f g env S) QS := by
  rw [ev_seq]
  exact h1.imp h2
/-- a statement that runs on to the next -/
theorem Ev.sq {f g : Sm} (R : Env → Store → Prop) (h1 : Ev (f env S) fun o S1 => ∃ e, o = .nx e ∧ R e S1) (h2 : ∀ e S1, R e S1 → Ev (g e S1) QS) : Ev (mSeq f g env S) QS := h1.seq fun o S1 q => by
  obtain ⟨e, rfl, q⟩ := q
  exact h2 e S1 q
/-! ### loops -/
theorem Ev.for {p : Pt} {f : Sm} (I : List D → Env → Store → Prop) (hs : ∀ d ds env S, I (d :: ds) env S → ∃ env1, bindP p d env = some env1 ∧ Ev (f env1 S) fun o S1 => match o with | .nx e => I ds e S1 | .cnt e => I ds e S1 | .brk e => QS (.nx e) S1 | .ret d => QS (.ret d) S1)
    (hn : ∀ env S, I [] env S → QS (.nx env) S) : ∀ {ds : List D} {env : Env} {S : Store}, I ds env S → Ev (forL p f ds env S) QS
  | [], _, _, h => by rw [forL, ev_ok]; exact hn _ _ h
  | d :: ds, env, S, h => by
    obtain ⟨env1, e, h1⟩ := hs d ds env S h
    rw [forL, e]
    show Ev (Res.bind _ _) QS
    rw [ev_bind]
    refine h1.imp fun o S1 q => ?_
    cases o with
    | nx e => exact Ev.for I hs hn q
    | cnt e => exact Ev.for I hs hn q
    | brk e => exact ev_ok.mpr q
    | ret d => exact ev_ok.mpr q
theorem Ev.comp {p : Pt} {t : Cm Bool} {f : Cm D} (I : List D → List D → Store → Prop) (hs : ∀ d ds ys S, I ys (d :: ds) S → ∃ env1, bindP p d env = some env1 ∧ Ev (t env1 S) fun b S1 => if b = true then Ev (f env1 S1) fun y S2 => I (ys ++ [y]) ds S2 else I ys ds S1) :
    ∀ {ds : List D} {ys : List D} {S : Store} {QL : List D → Store → Prop}, I ys ds S → (∀ zs S, I (ys ++ zs) [] S → QL zs S) → Ev (compL p t f ds env S) QL
  | [], ys, _, QL, h, hq => by rw [compL, ev_ok]; exact hq [] _ (by rw [List.append_nil]; exact h)
  | d :: ds, ys, S, QL, h, hq => by
    obtain ⟨env1, e, h1⟩ := hs d ds ys S h
    rw [compL, e]
    show Ev (Res.bind0 _ _) QL
    rw [ev_bind0]
    refine h1.imp fun b S1 q => ?_
    cases b with
    | true =>
      rw [if_pos rfl] at q ⊢
      rw [ev_bind0]
      refine q.imp fun y S2 q => ?_
      rw [ev_bind0]
      refine Ev.comp (QL := fun a S => Ev (ok (y :: a) S) QL) I hs q fun zs S3 h3 => ?_
      rw [ev_ok]
      exact hq (y :: zs) S3 (by rw [List.append_assoc] at h3; exact h3)
    | false =>
      rw [if_neg (by decide)] at q ⊢
      exact Ev.comp I hs q hq
/-- a comprehension that leaves the store alone -/
theorem Ev.compP {p : Pt} {t : Cm Bool} {f : Cm D} {β : Type} {g : β → D} {c : β → Bool} {y : β → D} {bs : List β} :
    ∀ {QL : List D → Store → Prop}, (∀ b ∈ bs, ∃ env1, bindP p (g b) env = some env1 ∧ Ev (t env1 S) fun r S1 => r = c b ∧ S1 = S ∧ (c b = true → Ev (f env1 S) fun z S2 => z = y b ∧ S2 = S)) → QL ((bs.filter c).map y) S → Ev (compL p t f (bs.map g) env S) QL := by
  induction bs with
  | nil => intro QL _ h; rw [List.map_nil, compL, ev_ok]; exact h
  | cons b bs ih =>
    intro QL hs h
    obtain ⟨env1, e, h1⟩ := hs b List.mem_cons_self
    rw [List.map_cons, compL, e]
    show Ev (Res.bind0 _ _) QL
    rw [ev_bind0]
    refine h1.imp fun r S1 q => ?_
    obtain ⟨rfl, rfl, q⟩ := q
    have hs' := fun b' hb => hs b' (List.mem_cons_of_mem _ hb)
    cases hc : c b with
    | true =>
      rw [if_pos rfl, ev_bind0]
      refine (q hc).imp fun z S2 q => ?_
      obtain ⟨rfl, rfl⟩ := q
      rw [ev_bind0]
      refine ih (QL := fun a S => Ev (ok (y b :: a) S) QL) hs' ?_
      rw [ev_ok]
      simpa [List.filter_cons, hc] using h
    | false =>
      rw [if_neg (by decide)]
      exact ih hs' (by simpa [List.filter_cons, hc] using h)
end
end Md

/-! MdSim: the operations on known data, as equations. -/
namespace Md
open PySem PySem.Spec PyProof.Rows L2

/-- a text, by its signs -/
def st (x : List Nat) : D := .str ⟨x.toArray⟩
theorem st_eq (x : Str) : D.str x = st x.cps.toList := by unfold st; rw [Array.toArray_toList]
@[simp] theorem st_inj {a b : List Nat} : (st a = st b) = (a = b) := propext ⟨fun h => by
  unfold st at h
  have h := congrArg (fun d => match d with | D.str x => x.cps.toList | _ => []) h
  simpa using h, fun h => by rw [h]⟩
theorem sl_big : 16777216 ≤ sizeLine := by decide
section
variable {S : Store} {Q : D → Store → Prop}
@[simp] theorem addD_int {i j : Int} : addD (.int i) (.int j) S = ok (.int (i + j)) S := rfl
theorem st_app {a b : List Nat} : ((⟨a.toArray⟩ : Str) ++ ⟨b.toArray⟩) = ⟨(a ++ b).toArray⟩ := by
  show (⟨a.toArray ++ b.toArray⟩ : Str) = _
  simp
@[simp] theorem st_len {a : List Nat} : (⟨a.toArray⟩ : Str).length = a.length := by simp [Str.length]
@[simp] theorem addD_st {a b : List Nat} : addD (st a) (st b) S = if a.length + b.length ≤ sizeLine then ok (st (a ++ b)) S else none := by
  unfold st
  show (if (⟨a.toArray⟩ : Str).length + (⟨b.toArray⟩ : Str).length ≤ sizeLine then ok (D.str (⟨a.toArray⟩ ++ ⟨b.toArray⟩)) S else none) = _
  rw [st_app, st_len, st_len]
@[simp] theorem addD_lst {a b : List D} : addD (.lst a) (.lst b) S = if a.length + b.length ≤ sizeLine then ok (.lst (a ++ b)) S else none := rfl
@[simp] theorem subD_int {i j : Int} : subD (.int i) (.int j) S = ok (.int (i - j)) S := rfl
@[simp] theorem mulD_int {i j : Int} : mulD (.int i) (.int j) S = if CMul i j then ok (.int (i * j)) S else none := rfl
@[simp] theorem fdivD_int {i j : Int} : fdivD (.int i) (.int j) S = if 0 < j ∧ j < 1073741824 then ok (.int (i / j)) S else none := rfl
@[simp] theorem modD_int {i j : Int} : modD (.int i) (.int j) S = if 0 < j then ok (.int (i % j)) S else none := rfl
@[simp] theorem powD_int {i j : Int} : powD (.int i) (.int j) S = if CPow i j then ok (.int (i ^ j.toNat)) S else none := rfl
@[simp] theorem negD_int {i : Int} : negD (.int i) S = ok (.int (-i)) S := rfl
@[simp] theorem ltD_int {i j : Int} : ltD (.int i) (.int j) S = ok (.bl (decide (i < j))) S := rfl
@[simp] theorem leD_int {i j : Int} : leD (.int i) (.int j) S = ok (.bl (decide (i ≤ j))) S := rfl
@[simp] theorem gtD_int {i j : Int} : gtD (.int i) (.int j) S = ok (.bl (decide (j < i))) S := rfl
@[simp] theorem geD_int {i j : Int} : geD (.int i) (.int j) S = ok (.bl (decide (j ≤ i))) S := rfl
theorem eqvD_py {x y : D} {p q : PyData} (h1 : toPyS x S = some p) (h2 : toPyS y S = some q) (s1 : SeqAt.shaped p = true) (s2 : SeqAt.shaped q = true) : eqvD x y S = some (PyData.eqv p q) := by
  unfold eqvD; rw [h1, h2]; simp [s1, s2]
theorem shp_atom {p : PyData} (h1 : p.canLay0 = true) (h2 : p.depth ≤ 64) : SeqAt.shaped p = true := by unfold SeqAt.shaped; simp [h1, h2]
theorem eqv_int {i j : Int} : eqvD (.int i) (.int j) S = some (decide (i = j)) := by
  rw [eqvD_py (p := .int i) (q := .int j) (by simp [toPyS, toPy]) (by simp [toPyS, toPy]) (by rfl) (by rfl)]
  rw [PyData.eqv]; congr
theorem eqv_bl {i j : Bool} : eqvD (.bl i) (.bl j) S = some (decide (i = j)) := by
  rw [eqvD_py (p := .bool i) (q := .bool j) (by simp [toPyS, toPy]) (by simp [toPyS, toPy]) (by rfl) (by rfl)]
  rw [PyData.eqv]; cases i <;> cases j <;> rfl
@[simp] theorem eqD_int {i j : Int} : eqD (.int i) (.int j) S = ok (.bl (decide (i = j))) S := by unfold eqD; simp only [eqv_int]
@[simp] theorem neD_int {i j : Int} : neD (.int i) (.int j) S = ok (.bl (!decide (i = j))) S := by unfold neD; simp only [eqv_int]
@[simp] theorem eqD_bl {i j : Bool} : eqD (.bl i) (.bl j) S = ok (.bl (decide (i = j))) S := by unfold eqD; simp only [eqv_bl]
@[simp] theorem neD_bl {i j : Bool} : neD (.bl i) (.bl j) S = ok (.bl (!decide (i = j))) S := by unfold neD; simp only [eqv_bl]
theorem str_iff {i j : List Nat} : ((⟨i.toArray⟩ : Str) = ⟨j.toArray⟩) = (i = j) := propext ⟨fun h => by
    have h := congrArg (fun x : Str => x.cps.toList) h
    simpa using h, fun h => by rw [h]⟩
@[simp] theorem eqD_st {i j : List Nat} : eqD (st i) (st j) S = ok (.bl (decide (i = j))) S := by
  show ok (D.bl (decide ((⟨i.toArray⟩ : Str) = ⟨j.toArray⟩))) S = _
  simp only [str_iff]
@[simp] theorem neD_st {i j : List Nat} : neD (st i) (st j) S = ok (.bl (!decide (i = j))) S := by
  show ok (D.bl (!decide ((⟨i.toArray⟩ : Str) = ⟨j.toArray⟩))) S = _
  simp only [str_iff]
/-- a list that compares with the empty one -/
theorem toPyL_some : ∀ {xs : List D}, (∀ x ∈ xs, (toPy x).isSome) → ∃ ps, toPyL xs = some ps ∧ ps.length = xs.length ∧ ∀ p ∈ ps, ∃ x ∈ xs, toPy x = some p
  | [], _ => ⟨[], by rw [toPyL], rfl, fun _ h => by cases h⟩
  | x :: xs, h => by
    obtain ⟨ps, h1, h2, h3⟩ := toPyL_some (xs := xs) fun y hy => h y (List.mem_cons_of_mem _ hy)
    obtain ⟨p, hp⟩ := Option.isSome_iff_exists.mp (h x List.mem_cons_self)
    refine ⟨p :: ps, by rw [toPyL, hp, h1], by simp [h2], fun q hq => ?_⟩
    rcases List.mem_cons.mp hq with rfl | hq
    · exact ⟨x, List.mem_cons_self, hp⟩
    · obtain ⟨y, hy, e⟩ := h3 q hq
      exact ⟨y, List.mem_cons_of_mem _ hy, e⟩
theorem canAll : ∀ {ps : List PyData}, (∀ p ∈ ps, p.canLay0 = true) → PyData.canLayAll0 ps = true
  | [], _ => by rw [PyData.canLayAll0]
  | p :: ps, h => by rw [PyData.canLayAll0, h p List.mem_cons_self, canAll fun q hq => h q (List.mem_cons_of_mem _ hq)]; rfl
theorem depAll : ∀ {ps : List PyData} {n : Nat}, (∀ p ∈ ps, p.depth ≤ n) → PyData.depthAll ps ≤ n
  | [], n, _ => by rw [PyData.depthAll]; omega
  | p :: ps, n, h => by
    have h1 := h p List.mem_cons_self
    have h2 := depAll (ps := ps) fun q hq => h q (List.mem_cons_of_mem _ hq)
    rw [PyData.depthAll]; omega
theorem eqv_lst {xs ys : List D} {ps qs : List PyData} (h1 : toPyL xs = some ps) (h2 : toPyL ys = some qs) (o1 : ∀ p ∈ ps, SeqAt.shaped p = true ∧ p.depth ≤ 60) (o2 : ∀ p ∈ qs, SeqAt.shaped p = true ∧ p.depth ≤ 60) : eqvD (.lst xs) (.lst ys) S = some (PyData.eqvAll ps qs) := by
  have sh : ∀ {ps : List PyData}, (∀ p ∈ ps, SeqAt.shaped p = true ∧ p.depth ≤ 60) → SeqAt.shaped (.list ps) = true := fun {ps} o => shp_atom (by rw [PyData.canLay0]; exact canAll fun p hp => SeqAt.canLay_of_shaped (o p hp).1) (by rw [PyData.depth]; have := depAll (ps := ps) (n := 60) fun p hp => (o p hp).2; omega)
  rw [eqvD_py (p := .list ps) (q := .list qs) (by simp [toPyS, toPy, h1]) (by simp [toPyS, toPy, h2]) (sh o1) (sh o2), PyData.eqv]
/-- signs that there are -/
def Sg (x : List Nat) : Prop := ∀ c ∈ x, c < 0x110000
theorem shp_st {x : List Nat} (h : Sg x) : SeqAt.shaped (.str ⟨x.toArray⟩) = true := shp_atom (by
  rw [PyData.canLay0]
  unfold PyData.strOk
  simp
  exact h) (by rw [PyData.depth]; omega)
theorem pyL_strs : ∀ (xs : List (List Nat)), toPyL (xs.map st) = some (xs.map fun x => .str ⟨x.toArray⟩)
  | [] => by rw [List.map_nil, toPyL]; rfl
  | x :: xs => by rw [List.map_cons, toPyL, pyL_strs xs]; simp only [st, toPy]; rfl
theorem eqvAll_nil (ps : List PyData) : PyData.eqvAll ps [] = ps.isEmpty := by cases ps <;> (rw [PyData.eqvAll]; rfl)
theorem eqv_strs_nil {xs : List (List Nat)} (h : ∀ x ∈ xs, Sg x) : eqvD (.lst (xs.map st)) (.lst []) S = some xs.isEmpty := by
  rw [eqv_lst (pyL_strs xs) (by rw [toPyL]) (fun p hp => by
    obtain ⟨x, hx, rfl⟩ := List.mem_map.mp hp
    exact ⟨shp_st (h x hx), by rw [PyData.depth]; omega⟩) (fun p hp => by cases hp), eqvAll_nil]
  simp
theorem neD_strs_nil {xs : List (List Nat)} (h : ∀ x ∈ xs, Sg x) : neD (.lst (xs.map st)) (.lst []) S = ok (.bl (!xs.isEmpty)) S := by
  unfold neD; simp only [eqv_strs_nil h]
theorem eqD_strs_nil {xs : List (List Nat)} (h : ∀ x ∈ xs, Sg x) : eqD (.lst (xs.map st)) (.lst []) S = ok (.bl xs.isEmpty) S := by
  unfold eqD; simp only [eqv_strs_nil h]
/-! ### reading -/
theorem atI_nat {α : Type} {xs : List α} {k : Nat} {x : α} (h : xs[k]? = some x) : atI xs (k : Int) = some x := by
  have hk : k < xs.length := (List.getElem?_eq_some_iff.mp h).1
  unfold atI ixN
  rw [if_pos (by omega), if_pos (by omega)]
  simpa using h
theorem atI_int {α : Type} {xs : List α} {i : Int} {x : α} (h0 : 0 ≤ i) (h : xs[i.toNat]? = some x) : atI xs i = some x := by
  have := atI_nat h
  rwa [Int.toNat_of_nonneg h0] at this
theorem atI_last {α : Type} {xs : List α} {x : α} (h : xs.getLast? = some x) : atI xs (-1) = some x := by
  have hl : 0 < xs.length := by cases xs with | nil => cases h | cons _ _ => simp
  unfold atI ixN
  rw [if_neg (by decide), if_pos (by omega)]
  rw [List.getLast?_eq_getElem?] at h
  have e : (-1 + (xs.length : Int)).toNat = xs.length - 1 := by omega
  show xs[(-1 + (xs.length : Int)).toNat]? = some x
  rw [e]; exact h
theorem ixD_lst {xs : List D} {i : Int} {d : D} (h : atI xs i = some d) : ixD (.lst xs) (.int i) S = ok d S := by
  unfold ixD dgetD asDK asDT asT asL
  simp [h]
theorem ixD_tup {xs : List D} {i : Int} {d : D} (h : atI xs i = some d) : ixD (.tup xs) (.int i) S = ok d S := by
  unfold ixD dgetD asDK asDT asT
  simp [h]
theorem ixD_loc {n : Nat} {xs : List D} {i : Int} {d : D} (hS : S[n]? = some (.lst xs)) (h : atI xs i = some d) : ixD (.loc n) (.int i) S = ok d S := by
  unfold ixD dgetD asDK asDT asT asL
  simp [hS, h]
theorem ixD_st {x : List Nat} {i : Int} {c : Nat} (hl : x.length ≤ sizeLine) (h : atI x i = some c) : ixD (st x) (.int i) S = ok (st [c]) S := by
  unfold ixD dgetD asDK asDT st
  simp [h, hl]
theorem slD_st {x : List Nat} {lo hi : Option Int} : slD (st x) lo hi S = if x.length ≤ sizeLine then ok (st (cutL x lo hi)) S else none := by
  unfold st slD
  simp only [st_len]
  rfl
theorem slD_lst {xs : List D} {lo hi : Option Int} : slD (.lst xs) lo hi S = ok (.lst (cutL xs lo hi)) S := rfl
theorem cutL_to {α : Type} {xs : List α} {k : Nat} : cutL xs none (some (k : Int)) = xs.take k := by
  unfold cutL
  rw [HT.sIx_none, HT.sIx_nat, List.drop_zero, Nat.sub_zero]
  by_cases h : k ≤ xs.length
  · rw [Nat.min_eq_left h]
  · rw [Nat.min_eq_right (by omega), List.take_of_length_le (Nat.le_refl _), List.take_of_length_le (by omega)]
theorem cutL_from {α : Type} {xs : List α} {k : Nat} : cutL xs (some (k : Int)) none = xs.drop k := by
  unfold cutL
  rw [HT.sIx_none, HT.sIx_nat]
  by_cases h : k ≤ xs.length
  · rw [Nat.min_eq_left h, List.take_of_length_le (by simp)]
  · rw [Nat.min_eq_right (by omega), List.drop_of_length_le (Nat.le_refl _), List.drop_of_length_le (by omega)]; simp
theorem cutL_mid {α : Type} {xs : List α} {j k : Nat} : cutL xs (some (j : Int)) (some (k : Int)) = (xs.drop j).take (k - j) := by
  unfold cutL
  rw [HT.sIx_nat, HT.sIx_nat]
  by_cases h : j ≤ xs.length
  · rw [Nat.min_eq_left h]
    by_cases h2 : k ≤ xs.length
    · rw [Nat.min_eq_left h2]
    · rw [Nat.min_eq_right (by omega), List.take_of_length_le (by simp), List.take_of_length_le (by simp; omega)]
  · rw [Nat.min_eq_right (by omega : xs.length ≤ j), List.drop_of_length_le (Nat.le_refl _), List.drop_of_length_le (by omega)]; simp
theorem cutL_map {α β : Type} {f : α → β} {xs : List α} {lo hi : Option Int} : cutL (xs.map f) lo hi = (cutL xs lo hi).map f := by
  unfold cutL
  rw [List.length_map, List.map_take, List.map_drop]
/-! ### built-ins -/
@[simp] theorem lenF_lst {xs : List D} : lenF [.lst xs] S = ok (.int xs.length) S := rfl
@[simp] theorem lenF_tup {xs : List D} : lenF [.tup xs] S = ok (.int xs.length) S := rfl
@[simp] theorem lenF_st {x : List Nat} : lenF [st x] S = if x.length ≤ sizeLine then ok (.int x.length) S else none := by
  unfold st lenF lenD
  simp only [st_len]
  by_cases h : x.length ≤ sizeLine
  · simp only [if_pos h]
  · simp only [if_neg h]
theorem lenF_loc {n : Nat} {xs : List D} (hS : S[n]? = some (.lst xs)) : lenF [.loc n] S = ok (.int xs.length) S := by
  unfold lenF lenD seqOf asT asL
  simp [hS]
@[simp] theorem intF_int {i : Int} : intF [.int i] S = ok (.int i) S := rfl
@[simp] theorem intF_bl {b : Bool} : intF [.bl b] S = ok (.int (if b = true then 1 else 0)) S := rfl
@[simp] theorem absF_int {i : Int} : absF [.int i] S = ok (.int (if i < 0 then -i else i)) S := rfl
@[simp] theorem min2F_int {i j : Int} : min2F [.int i, .int j] S = ok (.int (if j < i then j else i)) S := rfl
@[simp] theorem max2F_int {i j : Int} : max2F [.int i, .int j] S = ok (.int (if j > i then j else i)) S := rfl
theorem chD_st {x : List Nat} : chD ⟨x.toArray⟩ = x.map fun c => st [c] := by simp [chD, st]
@[simp] theorem itD_st {x : List Nat} : itD (st x) = some (x.map fun c => st [c]) := by show some (chD ⟨x.toArray⟩) = _; rw [chD_st]
@[simp] theorem itD_lst {xs : List D} : itD (.lst xs) = some xs := rfl
@[simp] theorem itD_tup {xs : List D} : itD (.tup xs) = some xs := rfl
theorem listF_st {x : List Nat} : listF [st x] S = if x.length ≤ sizeLine then some (x.map fun c => st [c]) else none := by
  unfold st listF
  simp [chD_st]
  split <;> rfl
@[simp] theorem listF_lst {xs : List D} : listF [.lst xs] S = some xs := rfl
@[simp] theorem listF_tup {xs : List D} : listF [.tup xs] S = some xs := rfl
@[simp] theorem tupleF_lst {xs : List D} : tupleF [.lst xs] S = ok (.tup xs) S := rfl
theorem tupleF_loc {n : Nat} {xs : List D} (hS : S[n]? = some (.lst xs)) : tupleF [.loc n] S = ok (.tup xs) S := by
  unfold tupleF asT asL
  simp [hS]
@[simp] theorem inD_sign {c : Nat} {z : List Nat} : inD (st [c]) (st z) S = ok (.bl (decide (c ∈ z))) S := by
  unfold st inD inB inStr
  simp
theorem strsD_map : ∀ (xs : List (List Nat)), strsD (xs.map st) = some (xs.map fun x => ⟨x.toArray⟩)
  | [] => rfl
  | x :: xs => by rw [List.map_cons]; show (strsD (xs.map st)).map _ = _; rw [strsD_map xs]; rfl
theorem joinL_nil : ∀ (ys : List (List Nat)), TL.joinL [] ys = ys.flatten
  | [] => rfl
  | [p] => by simp [TL.joinL]
  | p :: q :: r => by
    show p ++ ([] ++ TL.joinL [] (q :: r)) = _
    rw [joinL_nil (q :: r)]; rfl
theorem join_st (a : List Nat) (ys : List (List Nat)) : Txt.join ⟨a.toArray⟩ (ys.map fun x => ⟨x.toArray⟩) = ⟨(TL.joinL a ys).toArray⟩ := by
  have e := TL.tl_join ⟨a.toArray⟩ (ys.map fun x => ⟨x.toArray⟩)
  have e2 : (ys.map fun x => (⟨x.toArray⟩ : Str)).map TL.tl = ys := by
    rw [List.map_map]
    conv => rhs; rw [← List.map_id ys]
    apply List.map_congr_left
    intro x _
    simp [TL.tl]
  rw [e2] at e
  refine TL.ext_tl ((congrArg TL.tl (TL.join_eq _ _)).trans (e.trans ?_))
  simp [TL.tl]
theorem joinM_lst {a : List Nat} {xs : List (List Nat)} : joinM (st a) [.lst (xs.map st)] S = if (xs.map (·.length)).sum + xs.length * a.length ≤ 16777216 then ok (st (TL.joinL a xs)) S else none := by
  unfold joinM asT asL
  simp only [st, strsD_map]
  have : strsD (xs.map st) = _ := strsD_map xs
  unfold st at this
  have e : (List.map (fun x : Str => x.length) (List.map (fun x => ({ cps := x.toArray } : Str)) xs)).sum = (xs.map (·.length)).sum := by
    rw [List.map_map]
    congr 2
  simp only [this, join_st, e, List.length_map, st_len]
theorem isTy_str {x : List Nat} : isTy "str" (st x) S = true := rfl
theorem isTy_lst {n : Nat} {xs : List D} (hS : S[n]? = some (.lst xs)) : isTy "list" (.loc n) S = true := by
  unfold isTy asL
  simp [hS]
theorem appendM_loc {n : Nat} {xs : List D} {d : D} (hS : S[n]? = some (.lst xs)) : appendM (.loc n) [d] S = if xs.length < sizeLine then ok .non (S.set n (.lst (xs ++ [d]))) else none := by
  unfold appendM
  simp [hS]
end
end Md

/-! MdFlow: calls of meanings, seen from outside; the flow that all laws draw from. -/
namespace Md
open PySem PySem.Spec PyProof.Rows L2

@[simp] theorem bindP_nm {i : Nat} {d : D} {env : Env} : bindP (.nm i) d env = some (env.set i (some d)) := by rw [bindP]
@[simp] theorem bindP_tp {ps : List Pt} {ds : List D} {env : Env} : bindP (.tp ps) (.tup ds) env = bindPs ps ds env := by rw [bindP]; rfl
@[simp] theorem bindPs_nil {env : Env} : bindPs [] [] env = some env := by rw [bindPs]
@[simp] theorem bindPs_cons {p : Pt} {ps : List Pt} {d : D} {ds : List D} {env : Env} : bindPs (p :: ps) (d :: ds) env = (match bindP p d env with | some env1 => bindPs ps ds env1 | none => none) := by (rw [bindPs]) <;> rfl
mutual
theorem ren_cl (ρ : Nat → Option Nat) : ∀ (d : D), locs d = [] → ren ρ d = some d
  | .non, _ => by rw [ren]
  | .bl _, _ => by rw [ren]
  | .int _, _ => by rw [ren]
  | .str _, _ => by rw [ren]
  | .tup xs, h => by rw [locs] at h; rw [ren, renL_cl ρ xs h]; rfl
  | .ft xs, h => by rw [locs] at h; rw [ren, renL_cl ρ xs h]; rfl
  | .lst xs, h => by rw [locs] at h; rw [ren, renL_cl ρ xs h]; rfl
  | .fz xs, h => by rw [locs] at h; rw [ren, renL_cl ρ xs h]; rfl
  | .dk ks ds, h => by rw [locs] at h; rw [ren, renL_cl ρ ds h]; rfl
  | .dt ks ds, h => by rw [locs] at h; rw [ren, renL_cl ρ ds h]; rfl
  | .loc n, h => by rw [locs] at h; cases h
theorem renL_cl (ρ : Nat → Option Nat) : ∀ (ds : List D), locsL ds = [] → renL ρ ds = some ds
  | [], _ => by rw [renL]
  | d :: ds, h => by
    rw [locsL] at h
    obtain ⟨h1, h2⟩ := List.append_eq_nil_iff.mp h
    rw [renL, ren_cl ρ d h1, renL_cl ρ ds h2]
end
theorem zip_parts {α β : Type} : ∀ (l : List (α × β)), (l.map (·.1)).zip (l.map (·.2)) = l
  | [] => rfl
  | (a, b) :: l => by simp [zip_parts l]
theorem renOb_cl (ρ : Nat → Option Nat) (b : Ob) (h : obLocs b = []) : renOb ρ b = some b := by
  cases b with
  | lst xs => rw [obLocs] at h; rw [renOb, renL_cl ρ xs h]; rfl
  | dk kvs => rw [obLocs] at h; rw [renOb, renL_cl ρ _ h]; simp [zip_parts]
  | dt kvs => rw [obLocs] at h; rw [renOb, renL_cl ρ _ h]; simp [zip_parts]
  | lk kvs => rw [obLocs] at h; rw [renOb, renL_cl ρ _ h]; simp [zip_parts]
  | lt kvs => rw [obLocs] at h; rw [renOb, renL_cl ρ _ h]; simp [zip_parts]
  | dead => rw [renOb]
section
variable {g : Fn} {ds : List D} {S : Store} {Q : D → Store → Prop} {F : Ob}
/-- a call that is handed no object, and gives none -/
theorem Ev.call0 (hd : locsL ds = []) (h : Ev (g ds []) fun d _ => locs d = [] ∧ Q d S) : Ev (callD g ds S) Q := by
  obtain ⟨d, S1, e, h1, q⟩ := h
  refine ⟨d, S, ?_, q⟩
  unfold callD callLs
  rw [hd]
  show callIn g [] ds S = _
  unfold callIn
  rw [renL_cl _ ds hd]
  show (match g ds [] with | some (.ok d, S') => callOut [] S d S' | _ => none) = _
  rw [e]
  show callOut [] S d S1 = _
  unfold callOut
  rw [ren_cl _ d h1]
  rfl
/-- a call that is handed the first object alone -/
theorem Ev.call1 (hF : obLocs F = []) (hd : locsL ds = []) (h : Ev (g (.loc 0 :: ds) [F]) fun d S1 => locs d = [] ∧ ∃ F' R, S1 = F' :: R ∧ obLocs F' = [] ∧ Q d (F' :: S)) : Ev (callD g (.loc 0 :: ds) (F :: S)) Q := by
  obtain ⟨d, S1, e, h1, F', R, rfl, h2, q⟩ := h
  refine ⟨d, F' :: S, ?_, q⟩
  have hl : callLs (.loc 0 :: ds) (F :: S) = [0] := by
    unfold callLs
    rw [locsL, locs, hd]
    simp [hF, dd]
  unfold callD
  rw [hl]
  unfold callIn
  have e1 : renL (ixOf [0]) (.loc 0 :: ds) = some (.loc 0 :: ds) := by
    rw [renL, renL_cl _ ds hd, ren]
    rfl
  have e2 : getObs (ixOf [0]) (F :: S) [0] = some [F] := by
    simp [getObs, renOb_cl _ F hF]
  rw [e1, e2]
  show (match g (.loc 0 :: ds) [F] with | some (.ok d, S') => callOut [0] (F :: S) d S' | _ => none) = _
  rw [e]
  show callOut [0] (F :: S) d (F' :: R) = _
  unfold callOut
  have e3 : putObs (fun i => [0][i]?) [0] (F' :: R) (F :: S) = some (F' :: S) := by
    simp [putObs, renOb_cl _ F' h2]
  rw [ren_cl _ d h1, e3]
  rfl
/-- a call that is handed no object, and gives a new one -/
theorem Ev.callN (hd : locsL ds = []) (h : Ev (g ds []) fun d S1 => d = .loc 0 ∧ ∃ F', S1 = [F'] ∧ obLocs F' = [] ∧ Q (.loc S.length) (S ++ [F'])) : Ev (callD g ds S) Q := by
  obtain ⟨d, S1, e, rfl, F', rfl, h2, q⟩ := h
  refine ⟨_, _, ?_, q⟩
  unfold callD callLs
  rw [hd]
  show callIn g [] ds S = _
  unfold callIn
  rw [renL_cl _ ds hd]
  show (match g ds [] with | some (.ok d, S') => callOut [] S d S' | _ => none) = _
  rw [e]
  show callOut [] S (.loc 0) [F'] = _
  unfold callOut
  simp [ren, putObs, backAll, renObs, renOb_cl _ F' h2]
  rfl
end
@[simp] theorem locs_st {x : List Nat} : locs (st x) = [] := by unfold st; simp [locs]
@[simp] theorem locs_int {i : Int} : locs (.int i) = [] := by simp [locs]
@[simp] theorem locs_bl {i : Bool} : locs (.bl i) = [] := by simp [locs]
@[simp] theorem locs_non : locs .non = [] := by simp [locs]
@[simp] theorem locs_lst {xs : List D} : locs (.lst xs) = locsL xs := by rw [locs]
@[simp] theorem locs_fz {xs : List D} : locs (.fz xs) = locsL xs := by rw [locs]
@[simp] theorem locs_tup {xs : List D} : locs (.tup xs) = locsL xs := by rw [locs]
@[simp] theorem locsL_nil : locsL [] = [] := by rw [locsL]
@[simp] theorem locsL_cons {x : D} {xs : List D} : locsL (x :: xs) = locs x ++ locsL xs := by rw [locsL]
theorem locsL_all : ∀ {xs : List D}, (∀ x ∈ xs, locs x = []) → locsL xs = []
  | [], _ => locsL_nil
  | x :: xs, h => by rw [locsL_cons, h x List.mem_cons_self, locsL_all fun y hy => h y (List.mem_cons_of_mem _ hy)]; rfl
theorem locsL_inv : ∀ {xs : List D}, locsL xs = [] → ∀ x ∈ xs, locs x = []
  | x :: xs, h, y, hy => by
    rw [locsL_cons] at h
    obtain ⟨h1, h2⟩ := List.append_eq_nil_iff.mp h
    rcases List.mem_cons.mp hy with rfl | hy
    · exact h1
    · exact locsL_inv h2 y hy
@[simp] theorem locsL_map_int {xs : List Int} : locsL (xs.map D.int) = [] := locsL_all fun x hx => by obtain ⟨i, _, rfl⟩ := List.mem_map.mp hx; exact locs_int
@[simp] theorem locsL_map_st {xs : List (List Nat)} : locsL (xs.map st) = [] := locsL_all fun x hx => by obtain ⟨i, _, rfl⟩ := List.mem_map.mp hx; exact locs_st
@[simp] theorem locsL_app {xs ys : List D} : locsL (xs ++ ys) = locsL xs ++ locsL ys := by
  induction xs with
  | nil => simp
  | cons x xs ih => simp [ih]
/-! ### the flow -/
def fl (a p q r : Int) (cs : List Int) : Ob := .lst [.int a, .int p, .int q, .int r, .lst (cs.map .int)]
section
variable {a p q r v : Int} {cs : List Int} {S : Store}
@[simp] theorem fl_locs : obLocs (fl a p q r cs) = [] := by unfold fl; rw [obLocs]; simp
@[simp] theorem fl_0 : ixD (.loc 0) (.int 0) (fl a p q r cs :: S) = ok (.int a) (fl a p q r cs :: S) := rfl
@[simp] theorem fl_1 : ixD (.loc 0) (.int 1) (fl a p q r cs :: S) = ok (.int p) (fl a p q r cs :: S) := rfl
@[simp] theorem fl_2 : ixD (.loc 0) (.int 2) (fl a p q r cs :: S) = ok (.int q) (fl a p q r cs :: S) := rfl
@[simp] theorem fl_3 : ixD (.loc 0) (.int 3) (fl a p q r cs :: S) = ok (.int r) (fl a p q r cs :: S) := rfl
@[simp] theorem fl_4 : ixD (.loc 0) (.int 4) (fl a p q r cs :: S) = ok (.lst (cs.map .int)) (fl a p q r cs :: S) := rfl
@[simp] theorem fs_0 : setD (.loc 0) (.int 0) (.int v) (fl a p q r cs :: S) = ok () (fl v p q r cs :: S) := rfl
@[simp] theorem fs_1 : setD (.loc 0) (.int 1) (.int v) (fl a p q r cs :: S) = ok () (fl a v q r cs :: S) := rfl
@[simp] theorem fs_2 : setD (.loc 0) (.int 2) (.int v) (fl a p q r cs :: S) = ok () (fl a p v r cs :: S) := rfl
@[simp] theorem fs_3 : setD (.loc 0) (.int 3) (.int v) (fl a p q r cs :: S) = ok () (fl a p q v cs :: S) := rfl
end
/-- a flow that can be drawn from -/
def FlowOk (F : Ob) : Prop := ∃ a p q r cs, F = fl a p q r cs ∧ cs ≠ [] ∧ cs.length ≤ 64 ∧ 0 ≤ q
theorem FlowOk.locs {F : Ob} (h : FlowOk F) : obLocs F = [] := by obtain ⟨a, p, q, r, cs, rfl, _⟩ := h; exact fl_locs
theorem cell_at {cs : List Int} {i : Int} (h0 : 0 ≤ i) (h : i < cs.length) : ∃ c, ∀ S, ixD (.lst (cs.map .int)) (.int i) S = ok (.int c) S := by
  have hi : i.toNat < cs.length := by omega
  refine ⟨cs[i.toNat], fun S => ixD_lst (atI_int h0 ?_)⟩
  simp [hi]
@[simp] theorem wipe_nil {env : Env} : wipeE env [] = env := rfl
@[simp] theorem wipe_cons {env : Env} {v : Nat} {vs : List Nat} : wipeE env (v :: vs) = (wipeE env vs).set v none := rfl
section
variable {b b2 : Ob} {xs : List D} {S : Store} {d : D} {i : Int}
@[simp] theorem len_l0 : lenF [.loc 0] (.lst xs :: S) = ok (.int xs.length) (.lst xs :: S) := rfl
@[simp] theorem ty_l0 : isTy "list" (.loc 0) (.lst xs :: S) = true := rfl
@[simp] theorem app_l0 : appendM (.loc 0) [d] (.lst xs :: S) = if xs.length < sizeLine then ok .non (.lst (xs ++ [d]) :: S) else none := rfl
theorem ix_l0 (h : atI xs i = some d) : ixD (.loc 0) (.int i) (.lst xs :: S) = ok d (.lst xs :: S) := ixD_loc (by rfl) h
@[simp] theorem tuple_l0 : tupleF [.loc 0] (.lst xs :: S) = ok (.tup xs) (.lst xs :: S) := rfl
@[simp] theorem list_l0 : listF [.loc 0] (.lst xs :: S) = some xs := rfl
theorem pop_l0 {k : Nat} (h : xs[k]? = some d) (hk : k < 1000000000) : popAtM (.loc 0) [.int k] (.lst xs :: S) = ok d (.lst (xs.eraseIdx k) :: S) := by
  have hl : k < xs.length := (List.getElem?_eq_some_iff.mp h).1
  unfold popAtM
  have e : PySem.seqIndex? (k : Int) xs.length = some k := (ixN_seq (by unfold ixN; rw [if_pos (by omega), if_pos (by omega)]; simp)).1
  simp [e, h]
  omega
@[simp] theorem len_l1 : lenF [.loc 1] (b :: .lst xs :: S) = ok (.int xs.length) (b :: .lst xs :: S) := rfl
@[simp] theorem ty_l1 : isTy "list" (.loc 1) (b :: .lst xs :: S) = true := rfl
@[simp] theorem app_l1 : appendM (.loc 1) [d] (b :: .lst xs :: S) = if xs.length < sizeLine then ok .non (b :: .lst (xs ++ [d]) :: S) else none := rfl
theorem ix_l1 (h : atI xs i = some d) : ixD (.loc 1) (.int i) (b :: .lst xs :: S) = ok d (b :: .lst xs :: S) := ixD_loc (by rfl) h
@[simp] theorem tuple_l1 : tupleF [.loc 1] (b :: .lst xs :: S) = ok (.tup xs) (b :: .lst xs :: S) := rfl
@[simp] theorem list_l1 : listF [.loc 1] (b :: .lst xs :: S) = some xs := rfl
theorem pop_l1 {k : Nat} (h : xs[k]? = some d) (hk : k < 1000000000) : popAtM (.loc 1) [.int k] (b :: .lst xs :: S) = ok d (b :: .lst (xs.eraseIdx k) :: S) := by
  have hl : k < xs.length := (List.getElem?_eq_some_iff.mp h).1
  unfold popAtM
  have e : PySem.seqIndex? (k : Int) xs.length = some k := (ixN_seq (by unfold ixN; rw [if_pos (by omega), if_pos (by omega)]; simp)).1
  simp [e, h]
  omega
@[simp] theorem len_l2 : lenF [.loc 2] (b :: b2 :: .lst xs :: S) = ok (.int xs.length) (b :: b2 :: .lst xs :: S) := rfl
@[simp] theorem ty_l2 : isTy "list" (.loc 2) (b :: b2 :: .lst xs :: S) = true := rfl
@[simp] theorem app_l2 : appendM (.loc 2) [d] (b :: b2 :: .lst xs :: S) = if xs.length < sizeLine then ok .non (b :: b2 :: .lst (xs ++ [d]) :: S) else none := rfl
theorem ix_l2 (h : atI xs i = some d) : ixD (.loc 2) (.int i) (b :: b2 :: .lst xs :: S) = ok d (b :: b2 :: .lst xs :: S) := ixD_loc (by rfl) h
@[simp] theorem tuple_l2 : tupleF [.loc 2] (b :: b2 :: .lst xs :: S) = ok (.tup xs) (b :: b2 :: .lst xs :: S) := rfl
@[simp] theorem list_l2 : listF [.loc 2] (b :: b2 :: .lst xs :: S) = some xs := rfl
theorem pop_l2 {k : Nat} (h : xs[k]? = some d) (hk : k < 1000000000) : popAtM (.loc 2) [.int k] (b :: b2 :: .lst xs :: S) = ok d (b :: b2 :: .lst (xs.eraseIdx k) :: S) := by
  have hl : k < xs.length := (List.getElem?_eq_some_iff.mp h).1
  unfold popAtM
  have e : PySem.seqIndex? (k : Int) xs.length = some k := (ixN_seq (by unfold ixN; rw [if_pos (by omega), if_pos (by omega)]; simp)).1
  simp [e, h]
  omega
end
end Md

/-! MdTxt: signs, lists of signs, sorting. -/
namespace Md
open PySem PySem.Spec PyProof.Rows L2
theorem perm_map_inv {α β : Type} {f : α → β} {ys zs : List β} (h : ys.Perm zs) : ∀ {xs : List α}, zs = xs.map f → ∃ ws : List α, ws.Perm xs ∧ ys = ws.map f := by
  induction h with
  | nil => intro xs e; exact ⟨[], (by cases xs with
    | nil => exact .nil
    | cons _ _ => cases e), rfl⟩
  | cons a _ ih =>
    intro xs e
    cases xs with
    | nil => cases e
    | cons x xs =>
      injection e with e1 e2
      obtain ⟨ws, h1, rfl⟩ := ih e2
      exact ⟨x :: ws, h1.cons x, by rw [e1]; rfl⟩
  | swap a b l =>
    intro xs e
    cases xs with
    | nil => cases e
    | cons x xs => cases xs with
      | nil => injection e with e1 e2; cases e2
      | cons y xs =>
        injection e with e1 e2
        injection e2 with e2 e3
        exact ⟨y :: x :: xs, .swap x y xs, by rw [e1, e2, e3]; rfl⟩
  | trans _ _ ih1 ih2 =>
    intro xs e
    obtain ⟨ws, h1, e1⟩ := ih2 e
    obtain ⟨us, h2, e2⟩ := ih1 e1
    exact ⟨us, h2.trans h1, e2⟩
/-- a list of single signs -/
def sgs (cs : List Nat) : List D := cs.map fun c => st [c]
theorem sgs_st (cs : List Nat) : sgs cs = (cs.map fun c => [c]).map st := by unfold sgs; rw [List.map_map]; rfl
theorem flat_ones (cs : List Nat) : (cs.map fun c => [c]).flatten = cs := by induction cs with | nil => rfl | cons c cs ih => simp [ih]
@[simp] theorem sgs_len (cs : List Nat) : (sgs cs).length = cs.length := by simp [sgs]
@[simp] theorem sgs_nil : sgs [] = [] := rfl
theorem sgs_app (a b : List Nat) : sgs (a ++ b) = sgs a ++ sgs b := by simp [sgs]
theorem sgs_locs (cs : List Nat) : locsL (sgs cs) = [] := by rw [sgs_st]; exact locsL_map_st
@[simp] theorem itD_st' {x : List Nat} : itD (st x) = some (sgs x) := itD_st
theorem listF_st' {x : List Nat} {S : Store} : listF [st x] S = if x.length ≤ sizeLine then some (sgs x) else none := listF_st
theorem join_sgs {cs : List Nat} {S : Store} (h : cs.length ≤ 1000000) : joinM (st []) [.lst (sgs cs)] S = ok (st cs) S := by
  rw [sgs_st, joinM_lst, if_pos, joinL_nil, flat_ones]
  have : (List.map (fun x : List Nat => x.length) (cs.map fun c => [c])).sum = cs.length := by
    clear h
    induction cs with
    | nil => rfl
    | cons c cs ih => simp at ih ⊢; rw [ih]; omega
  rw [this]
  simp
  omega
theorem sort_sgs {cs : List Nat} {S : Store} (h : cs.length ≤ 1000000) : ∃ ds, ds.Perm cs ∧ sortedF [.lst (sgs cs)] S = some (sgs ds) := by
  have hp : (sortD (sgs cs)).Perm (sgs cs) := List.mergeSort_perm _ _
  obtain ⟨ds, h1, e⟩ := perm_map_inv hp (f := fun c => st [c]) (xs := cs) rfl
  refine ⟨ds, h1, ?_⟩
  have hk : sortOk (sgs cs) = true := by
    have hb := sl_big
    have e1 : ∀ c, encD (st [c]) = .str ⟨#[c]⟩ := fun c => by unfold encD st; simp [toPy]
    have e2 : ∀ c, toPy (st [c]) = some (.str ⟨#[c]⟩) := fun c => by unfold st; simp [toPy]
    have e3 : ∀ a b : Str, PySem.W.alike (.str a) (.str b) = true := fun a b => by rw [PySem.W.alike]
    have e4 : ∀ a : Str, (PyData.str a).depth = 0 := fun a => by rw [PyData.depth] <;> simp
    have a1 : decide ((sgs cs).length ≤ sizeLine) = true := by simp; omega
    have a2 : (sgs cs).all (fun d => (toPy d).isSome && decide ((encD d).depth ≤ 60)) = true := by
      rw [List.all_eq_true]
      intro d hd
      obtain ⟨c, _, rfl⟩ := List.mem_map.mp hd
      rw [e1, e2, e4]; rfl
    have a3 : (sgs cs).all (fun d => (sgs cs).all fun d' => PySem.W.alike (encD d) (encD d')) = true := by
      rw [List.all_eq_true]
      intro d hd
      rw [List.all_eq_true]
      intro d' hd'
      obtain ⟨c, _, rfl⟩ := List.mem_map.mp hd
      obtain ⟨c', _, rfl⟩ := List.mem_map.mp hd'
      rw [e1, e1, e3]
    have a4 : (sgs cs).all (fun d => plainy (encD d)) = true := by
      rw [List.all_eq_true]
      intro d hd
      obtain ⟨c, _, rfl⟩ := List.mem_map.mp hd
      rw [e1]; rfl
    unfold sortOk
    rw [a1, a2, a3, a4, Bool.or_true]; rfl
  unfold sortedF asL
  simp only [hk, if_true]
  rw [e]; rfl
@[simp] theorem isTy_st {x : List Nat} {S : Store} : isTy "str" (st x) S = true := rfl
@[simp] theorem truD_bl {b : Bool} {S : Store} : truD (.bl b) S = some b := rfl
@[simp] theorem truD_int {i : Int} {S : Store} : truD (.int i) S = some (i != 0) := rfl
@[simp] theorem truD_lst {xs : List D} {S : Store} : truD (.lst xs) S = some (!xs.isEmpty) := rfl
@[simp] theorem truD_tup {xs : List D} {S : Store} : truD (.tup xs) S = some (!xs.isEmpty) := rfl
@[simp] theorem truD_non {S : Store} : truD .non S = some false := rfl
theorem mulD_lst {xs : List D} {k : Nat} {S : Store} (h : xs.length * k ≤ 1000000) (hk : k ≤ 1000000) : mulD (.lst xs) (.int k) S = ok (.lst (List.replicate k xs).flatten) S := by
  have hb := sl_big
  unfold mulD asL1
  simp
  omega
theorem cutL_sgs {x : List Nat} {lo hi : Option Int} : cutL (sgs x) lo hi = sgs (cutL x lo hi) := cutL_map
theorem neD_sgs {x : List Nat} {S : Store} (h : ∀ c ∈ x, c < 128) : neD (.lst (sgs x)) (.lst []) S = ok (.bl (!x.isEmpty)) S := by
  rw [sgs_st, neD_strs_nil]
  · simp
  · intro y hy c hc
    obtain ⟨z, hz, rfl⟩ := List.mem_map.mp hy
    have := h z hz
    rw [List.mem_singleton] at hc
    omega
theorem atI_map {α β : Type} {f : α → β} {xs : List α} {i : Int} {x : α} (h : atI xs i = some x) : atI (xs.map f) i = some (f x) := by
  unfold atI at h ⊢
  rw [List.length_map]
  cases e : ixN xs.length i with
  | none => rw [e] at h; cases h
  | some j =>
    rw [e] at h
    have h : xs[j]? = some x := h
    show (xs.map f)[j]? = some (f x)
    rw [List.getElem?_map, h]; rfl
theorem ix_sgs {x : List Nat} {i : Int} {c : Nat} {S : Store} (h : atI x i = some c) : ixD (.lst (sgs x)) (.int i) S = ok (st [c]) S := ixD_lst (atI_map h)
@[simp] theorem sgs_take {x : List Nat} {k : Nat} : (sgs x).take k = sgs (x.take k) := by unfold sgs; rw [List.map_take]
@[simp] theorem sgs_drop {x : List Nat} {k : Nat} : (sgs x).drop k = sgs (x.drop k) := by unfold sgs; rw [List.map_drop]
theorem sub_st {a b : List Nat} {i : Nat} : Builtin.Str.subAt ⟨a.toArray⟩ ⟨b.toArray⟩ i = ((a.drop i).take b.length == b) := by
  unfold Builtin.Str.subAt
  rw [st_len]
  have e : (a.toArray.extract i (i + b.length)) = ((a.drop i).take b.length).toArray := by
    apply Array.toList_inj.mp
    simp [List.extract_eq_drop_take]
  show (a.toArray.extract i (i + b.length) == b.toArray) = _
  rw [e]
  simp
def endsL (a b : List Nat) : Bool := decide (b.length ≤ a.length) && (a.drop (a.length - b.length) == b)
@[simp] theorem ends_st {a b : List Nat} {S : Store} : endsM (st a) [st b] S = ok (.bl (endsL a b)) S := by
  show ok (D.bl (Txt.endswith ⟨a.toArray⟩ ⟨b.toArray⟩)) S = _
  unfold Txt.endswith
  rw [sub_st, st_len, st_len, Nat.zero_add]
  unfold endsL
  congr 2
  by_cases h : b.length ≤ a.length
  · rw [List.take_of_length_le (by rw [List.length_drop]; omega)]
  · simp [h]
def startsL (a b : List Nat) : Bool := a.take b.length == b
@[simp] theorem starts_st {a b : List Nat} {S : Store} : startsM (st a) [st b] S = ok (.bl (startsL a b)) S := by
  show ok (D.bl (Txt.startswith ⟨a.toArray⟩ ⟨b.toArray⟩)) S = _
  unfold Txt.startswith
  rw [sub_st, st_len, st_len, Nat.zero_add]
  unfold startsL
  congr 2
  by_cases h : b.length ≤ a.length
  · simp [h]
  · have : (a.take b.length == b) = false := by
      apply Bool.eq_false_iff.mpr
      intro e
      have e := congrArg List.length (eq_of_beq e)
      rw [List.length_take] at e
      omega
    simp [h, this]
/-! dicts of texts -/
section
variable {κ : Type} [DecidableEq κ] {v d : D} {k k' a : κ}
theorem look_cons {kvs : List (κ × D)} : lookD ((a, d) :: kvs) k = if a = k then some d else lookD kvs k := by
  unfold lookD
  by_cases h : a = k <;> simp [h]
theorem look_nil : lookD ([] : List (κ × D)) k = none := rfl
theorem look_map {kvs : List (κ × D)} : lookD (kvs.map fun kv => if kv.1 = k then (kv.1, v) else kv) k' = if k' = k then (if (kvs.any fun kv => decide (kv.1 = k)) = true then some v else none) else lookD kvs k' := by
  induction kvs with
  | nil => simp [look_nil]
  | cons p kvs ih =>
    obtain ⟨a, b⟩ := p
    rw [List.map_cons]
    by_cases ha : a = k
    · subst ha
      simp only [if_true, look_cons, ih]
      by_cases hk : k' = a
      · subst hk; simp
      · have hk2 : ¬ a = k' := fun e => hk e.symm
        simp [hk, hk2]
    · simp only [if_neg ha, look_cons, ih]
      by_cases hk : k' = k
      · subst hk
        have : decide (a = k') = false := by simpa using ha
        rw [List.any_cons, this, Bool.false_or]
        simp [ha]
      · simp [hk]
theorem look_app : ∀ {kvs : List (κ × D)}, lookD (kvs ++ [(k, v)]) k' = (lookD kvs k').or (if k = k' then some v else none)
  | [] => by simp [look_nil, look_cons]
  | (a, b) :: kvs => by
    rw [List.cons_append, look_cons, look_cons, look_app]
    by_cases h : a = k' <;> simp [h]
theorem look_none : ∀ {kvs : List (κ × D)}, ¬ (kvs.any fun kv => decide (kv.1 = k)) = true → lookD kvs k = none
  | [], _ => rfl
  | (a, b) :: kvs, h => by
    simp only [List.any_cons, Bool.or_eq_true, decide_eq_true_eq, not_or] at h
    rw [look_cons, if_neg h.1]
    exact look_none h.2
theorem lookD_put {kvs : List (κ × D)} : lookD (putD kvs k v) k' = if k' = k then some v else lookD kvs k' := by
  unfold putD
  by_cases h : (kvs.any fun kv => decide (kv.1 = k)) = true
  · rw [if_pos h, look_map]
    simp only [h, if_true]
  · rw [if_neg h, look_app]
    by_cases hk : k' = k
    · subst hk; rw [look_none h]; simp
    · have hk2 : ¬ k = k' := fun e => hk e.symm
      simp [hk, hk2]
end
theorem putD_len {κ : Type} [DecidableEq κ] {v : D} {k : κ} {kvs : List (κ × D)} : (putD kvs k v).length ≤ kvs.length + 1 := by
  unfold putD
  split <;> simp
/-- the key that a text is -/
def kS (x : List Nat) : Key := .inr ⟨x.toArray⟩
@[simp] theorem kS_inj {a b : List Nat} : (kS a = kS b) = (a = b) := propext ⟨fun h => by
  unfold kS at h
  injection h with h
  rwa [str_iff] at h, fun h => by rw [h]⟩
section
variable {b : Ob} {kvs : List (Key × D)} {S : Store} {d : D} {x : List Nat} {i : Int}
@[simp] theorem keyD_st : keyD (st x) = some (kS x) := rfl
@[simp] theorem keyD_int : keyD (.int i) = some (.inl i) := rfl
theorem setD_k0 {k : D} {q : Key} (h : keyD k = some q) : setD (.loc 0) k d (.dk kvs :: S) = if kvs.length < sizeLine then ok () (.dk (putD kvs q d) :: S) else none := by
  unfold setD; simp [h]
theorem setD_k1 {k : D} {q : Key} (h : keyD k = some q) : setD (.loc 1) k d (b :: .dk kvs :: S) = if kvs.length < sizeLine then ok () (b :: .dk (putD kvs q d) :: S) else none := by
  unfold setD; simp [h]
@[simp] theorem isDict_0 : isDict (.loc 0) (.dk kvs :: S) = true := rfl
@[simp] theorem isDict_1 : isDict (.loc 1) (b :: .dk kvs :: S) = true := rfl
theorem dget_0 {k : D} {q : Key} (h : keyD k = some q) : dgetD (.loc 0) k (.dk kvs :: S) = some (lookD kvs q) := by
  unfold dgetD; simp [asDK, h]
theorem dget_1 {k : D} {q : Key} (h : keyD k = some q) : dgetD (.loc 1) k (b :: .dk kvs :: S) = some (lookD kvs q) := by
  unfold dgetD; simp [asDK, h]
end
section
variable {S : Store} {x : List Nat} {T : Ty} {i : Int} {b : Bool} {xs : List D}
@[simp ↓] theorem ev_callK {g : Fn} {n m : Nat} {perm : List Nat} {fa fk : Cm (List D)} {env : Env} {Q : D → Store → Prop} : Ev (mCallK g n m perm fa fk env S) Q = Ev (fa env S) fun ds S1 => Ev (fk env S1) fun zs S2 => (ds.length = n ∧ zs.length = m) ∧ Ev (match permD perm (ds ++ zs) with | some args => callD g args S2 | none => none) Q := by
  unfold mCallK; rw [ev_bind]; refine evq fun a S => ?_; rw [ev_bind]; refine evq fun a S => ?_; (rw [ev_guard]) <;> rfl
@[simp] theorem isB_st : isB (st x) T S = some (match T with | .str => true | _ => false) := by cases T <;> rfl
@[simp] theorem isB_int : isB (.int i) T S = some (match T with | .int => true | _ => false) := by cases T <;> rfl
@[simp] theorem isB_bl : isB (.bl b) T S = some (match T with | .int => true | .bl => true | _ => false) := by cases T <;> rfl
@[simp] theorem isB_tup : isB (.tup xs) T S = some (match T with | .tup => true | _ => false) := by cases T <;> rfl
@[simp] theorem isB_non : isB .non T S = some false := by cases T <;> rfl
@[simp] theorem isND_st : isND (st x) .non S = ok (.bl false) S := rfl
@[simp] theorem isND_int : isND (.int i) .non S = ok (.bl false) S := rfl
@[simp] theorem isND_bl : isND (.bl b) .non S = ok (.bl false) S := rfl
@[simp] theorem isND_tup : isND (.tup xs) .non S = ok (.bl false) S := rfl
@[simp] theorem isND_non : isND .non .non S = ok (.bl true) S := rfl
@[simp] theorem notND_st : notND (st x) .non S = ok (.bl true) S := rfl
@[simp] theorem notND_int : notND (.int i) .non S = ok (.bl true) S := rfl
@[simp] theorem notND_bl : notND (.bl b) .non S = ok (.bl true) S := rfl
@[simp] theorem notND_tup : notND (.tup xs) .non S = ok (.bl true) S := rfl
@[simp] theorem notND_non : notND .non .non S = ok (.bl false) S := rfl
end
end Md

/-! MdEnd: the promise of a law, by its meaning. -/
namespace Md
open PySem PySem.Spec PyProof.Rows L2
theorem spF_law {K : PySem.W.Frag} {g : Fn} {H : Hp} {a : Addr} {ns : List Int} {E : XK} (hS : SqL K H a (ns.map V.int)) (h : Ev (g [.fz (ns.map .int)] []) fun d _ => d = .bl true) :
    spF K g [.ref a] H (fun v _ => v = .bl true) E := by
  obtain ⟨d, S', e, rfl⟩ := h
  refine ⟨[.fz (ns.map .int)], [], ⟨[], []⟩, ?_, ?_, .ok (.bl true), S', e, ?_⟩
  · refine .cons ?_ .nil
    rw [RD]
    refine ⟨a, _, rfl, ?_, RDs.ints ns⟩
    rcases hS with h | h
    · exact .inl ⟨h, fun z => by rcases z with z | z <;> cases z⟩
    · exact .inr h
  · exact ⟨rfl, fun n a h => by simp at h, fun n b h => by simp at h, fun n n' a h => by simp at h, fun a h => by simp at h, fun a h => by simp at h⟩
  · intro M' H' _ _ v r
    exact r.bl_inv
end Md

/-! The defs of the linked text: their meanings over the Md layer, and that each keeps its own (printed by gen.py). -/
namespace G68
open PySem PySem.Spec PyProof.Rows L2 Md
def topS (i : Nat) : Stmt := PySem.Challenge.pw_fewoffers_k68_keys_of_eight_rules.main.body.getD i (.Pass ⟨0, 0, 0, 0⟩)
abbrev s_sign_of : Stmt := topS 1
abbrev s_key_behind : Stmt := topS 2
abbrev s_key : Stmt := topS 3
abbrev s__law_flow : Stmt := topS 5
abbrev s__law_draw : Stmt := topS 6
abbrev s__law_pick : Stmt := topS 7
abbrev s__law_shuffled : Stmt := topS 8
abbrev s__law_some : Stmt := topS 9
abbrev s__law_same : Stmt := topS 10
abbrev s__law_alphabet : Stmt := topS 11
abbrev s__law_rules : Stmt := topS 12
abbrev s__law_key : Stmt := topS 13
abbrev s__law_alike : Stmt := topS 14
abbrev s_law : Stmt := topS 15
structure Bs (mg : Str → Option Value) : Prop where
  b_abs : mg "abs" = none
  b_bool : mg "bool" = none
  b_int : mg "int" = none
  b_isinstance : mg "isinstance" = none
  b_len : mg "len" = none
  b_list : mg "list" = none
  b_min : mg "min" = none
  b_range : mg "range" = none
  b_sorted : mg "sorted" = none
  b_str : mg "str" = none
  b_tuple : mg "tuple" = none
section
variable {P : Program} {w : World} {K : PySem.W.Frag} {mg : Str → Option Value} {base : Heap}
theorem sc_sign_of : FnScope ["rules", "letter", "letters", "sign"] ["rules", "letter"] (defScope s_sign_of) := ⟨rfl, rfl, rfl, by decide +kernel, rfl, by decide +kernel, by decide +kernel⟩
def m_sign_of : Fn := mDef 2 2
    (mSeq (mFor (.tp [(.nm 2), (.nm 3)]) (mIt (mVar 0))
      (mIte (mTst (mBin inD (mVar 1) (mVar 2)))
      (mRet (mVar 3))
      mSkip))
    (mRet (mVar 1)))
theorem ok_sign_of {f : Addr} {fd : FuncData} (F : Fun K "sign_of" "sign_of" s_sign_of f fd) (B : Bs mg)  : FnOk P w K mg base CX0 1 f fd ["rules", "letter"] (spF K m_sign_of) := fn_def F sc_sign_of rfl rfl fun cdv A outer s H E hr => by
    have sc := sc_sign_of
    have hu := hu_of hr
    exact (is_cons (is_for PassesOwn.never rfl (ii_any (ie_var 0)) (ig_tup rfl (igs_cons (ig_name 2 sc.nd) (igs_cons (ig_name 3 sc.nd) igs_nil)))
      (is_one (is_if (it_cmp (op_inX hu) inC (by rfl) (ie_var 1) (ie_var 2))
      (is_one (is_ret (ie_var 3)))
      is_nil)))
    (is_one (is_ret (ie_var 1))))
theorem sc_key_behind : FnScope ["rules", "doubled", "begun", "typed", "letter", "sign"] ["rules", "doubled", "begun", "typed"] (defScope s_key_behind) := ⟨rfl, rfl, rfl, by decide +kernel, rfl, by decide +kernel, by decide +kernel⟩
def m_key_behind : Fn := mDef 4 2
    (mSeq (mFor (.nm 4) (mIt (mVar 3))
      (mSeq (mAsg (.nm 5) (mCall m_sign_of (mCons (mVar 0) (mCons (mVar 4) mNil))))
    (mIte (mNot (mAnd (mTru (mVar 1)) (mTru (mBM "str" endsM (mVar 2) (mCons (mVar 5) mNil)))))
      (mAsg (.nm 2) (mBin addD (mVar 2) (mVar 5)))
      mSkip)))
    (mRet (mVar 2)))
theorem ok_key_behind {f : Addr} {fd : FuncData} (F : Fun K "key_behind" "key_behind" s_key_behind f fd) (B : Bs mg) (c_sign_of : FnM P w K mg base 1 "sign_of" m_sign_of) : FnOk P w K mg base CX0 2 f fd ["rules", "doubled", "begun", "typed"] (spF K m_key_behind) := fn_def F sc_key_behind rfl rfl fun cdv A outer s H E hr => by
    have sc := sc_key_behind
    have hu := hu_of hr
    exact (is_cons (is_for PassesOwn.never rfl (ii_any (ie_var 3)) (ig_name 4 sc.nd)
      (is_cons (is_set (ie_call c_sign_of hr (by decide) (ia_cons (ie_var 0) (ia_cons (ie_var 4) ia_nil))) (ig_name 5 sc.nd))
    (is_one (is_if (it_not (it_w (iw_and (it_tru (ie_var 1)) (iw_and1 (it_tru (ie_bm PySem.F.plainAttrs_str PySem.F.slot_str_endswith PySem.F.type_str_endswith mt_endswith endsC (ie_var 2) (ia_cons (ie_var 5) ia_nil)))))))
      (is_one (is_set (ie_op op_addX addC (ie_var 2) (ie_var 5)) (ig_name 2 sc.nd)))
      is_nil))))
    (is_one (is_ret (ie_var 2))))
theorem sc_key : FnScope ["rules", "doubled", "word"] ["rules", "doubled", "word"] (defScope s_key) := ⟨rfl, rfl, rfl, by decide +kernel, rfl, by decide +kernel, by decide +kernel⟩
def m_key : Fn := mDef 3 0
    (mRet (mCall m_key_behind (mCons (mVar 0) (mCons (mVar 1) (mCons (mC (.str "")) (mCons (mVar 2) mNil))))))
theorem ok_key {f : Addr} {fd : FuncData} (F : Fun K "key" "key" s_key f fd) (B : Bs mg) (c_key_behind : FnM P w K mg base 2 "key_behind" m_key_behind) : FnOk P w K mg base CX0 3 f fd ["rules", "doubled", "word"] (spF K m_key) := fn_def F sc_key rfl rfl fun cdv A outer s H E hr => by
    have sc := sc_key
    have hu := hu_of hr
    exact (is_one (is_ret (ie_call c_key_behind hr (by decide) (ia_cons (ie_var 0) (ia_cons (ie_var 1) (ia_cons ie_str (ia_cons (ie_var 2) ia_nil)))))))
theorem sc__law_flow : FnScope ["script", "cell"] ["script"] (defScope s__law_flow) := ⟨rfl, rfl, rfl, by decide +kernel, rfl, by decide +kernel, by decide +kernel⟩
def m__law_flow : Fn := mDef 1 1
    (mRet (mMut (mSized (mCons (mC (.int 0)) (mCons (mC (.int 0)) (mCons (mC (.int 0)) (mCons (mC (.int 0)) (mCons (mBin addD (mFrz (mComp (.nm 1) (mIt (mSl (mVar 0) mNoP (mP (mC (.int 63))))) mYes (mCl absF (mCons (mCl intF (mCons (mVar 1) mNil)) mNil)) [1])) (mFrz (mSized (mCons (mC (.int 7)) mNil)))) mNil))))))))
theorem ok__law_flow {f : Addr} {fd : FuncData} (F : Fun K "_law_flow" "_law_flow" s__law_flow f fd) (B : Bs mg)  : FnOk P w K mg base CX0 1 f fd ["script"] (spF K m__law_flow) := fn_def F sc__law_flow rfl rfl fun cdv A outer s H E hr => by
    have sc := sc__law_flow
    have hu := hu_of hr
    exact (is_one (is_ret (ie_mut (il_lst (ia_cons ie_int (ia_cons ie_int (ia_cons ie_int (ia_cons ie_int (ia_cons (ie_op op_addX addC (ie_frz (il_comp (own := [("cell", 1)]) rfl sc.nd (show blkC ["script", "cell"] (defScope s__law_flow) _ _ = true by decide +kernel) (ii_any (ie_slice (ie_var 0) io_no (io_p ie_int))) (fun _ _ _ _ _ => (ig_name 1 sc.nd)) (fun _ _ _ _ _ => its_nil) (fun _ _ _ _ _ => (ie_callB call_abs absC B.b_abs (by decide +kernel) (ia_cons (ie_callTy call_int1 intC B.b_int (by decide +kernel) (ia_cons (ie_var 1) ia_nil)) ia_nil))))) (ie_frz (il_lst (ia_cons ie_int ia_nil)))) ia_nil)))))))))
theorem sc__law_draw : FnScope ["flow", "many", "cells", "digit", "cell", "first", "second"] ["flow", "many"] (defScope s__law_draw) := ⟨rfl, rfl, rfl, by decide +kernel, rfl, by decide +kernel, by decide +kernel⟩
def m__law_draw : Fn := mDef 2 5
    (mSeq (mPut setD (mBin addD (mBin ixD (mVar 0) (mC (.int 3))) (mC (.int 1))) (mVar 0) (mC (.int 3)))
    (mSeq (mAsg (.nm 2) (mBin ixD (mVar 0) (mC (.int 4))))
    (mSeq (mIte (mAnd (mTst (mBin eqD (mBin ixD (mVar 0) (mC (.int 1))) (mC (.int 0)))) (mAnd (mTst (mBin eqD (mBin modD (mCl intF (mCons (mBin ixD (mVar 2) (mC (.int 0))) mNil)) (mC (.int 2))) (mC (.int 0)))) (mAnd (mTst (mBin ltD (mBin ixD (mVar 0) (mC (.int 2))) (mCl lenF (mCons (mVar 2) mNil)))) (mTst (mBin geD (mBin ixD (mVar 2) (mBin ixD (mVar 0) (mC (.int 2)))) (mBin powD (mC (.int 10)) (mC (.int 18))))))))
      (mSeq (mPut setD (mBin fdivD (mBin ixD (mVar 2) (mBin ixD (mVar 0) (mC (.int 2)))) (mC (.int 2))) (mVar 0) (mC (.int 0)))
    (mSeq (mPut setD (mC (.int 60)) (mVar 0) (mC (.int 1)))
    (mPut setD (mBin addD (mBin ixD (mVar 0) (mC (.int 2))) (mC (.int 1))) (mVar 0) (mC (.int 2)))))
      mSkip)
    (mSeq (mIte (mTst (mBin gtD (mBin ixD (mVar 0) (mC (.int 1))) (mC (.int 0))))
      (mSeq (mAsg (.nm 3) (mBin modD (mCl intF (mCons (mBin ixD (mVar 0) (mC (.int 0))) mNil)) (mVar 1)))
    (mSeq (mPut setD (mBin fdivD (mBin ixD (mVar 0) (mC (.int 0))) (mVar 1)) (mVar 0) (mC (.int 0)))
    (mSeq (mPut setD (mBin mulD (mBin subD (mBin ixD (mVar 0) (mC (.int 1))) (mC (.int 1))) (mCl intF (mCons (mBin gtD (mBin ixD (mVar 0) (mC (.int 0))) (mC (.int 0))) mNil))) (mVar 0) (mC (.int 1)))
    (mRet (mVar 3)))))
      mSkip)
    (mSeq (mAsg (.nm 4) (mBin ixD (mVar 2) (mBin modD (mCl intF (mCons (mBin ixD (mVar 0) (mC (.int 3))) mNil)) (mCl lenF (mCons (mVar 2) mNil)))))
    (mSeq (mPut setD (mBin addD (mBin ixD (mVar 0) (mC (.int 2))) (mCl intF (mCons (mBin ltD (mBin ixD (mVar 2) (mCl min2F (mCons (mBin ixD (mVar 0) (mC (.int 2))) (mCons (mBin subD (mCl lenF (mCons (mVar 2) mNil)) (mC (.int 1))) mNil)))) (mBin powD (mC (.int 10)) (mC (.int 18)))) mNil))) (mVar 0) (mC (.int 2)))
    (mSeq (mAsg (.nm 5) (mBin modD (mCl intF (mCons (mBin addD (mBin addD (mBin mulD (mVar 4) (mC (.int 48271))) (mBin mulD (mBin ixD (mVar 0) (mC (.int 3))) (mC (.int 69621)))) (mC (.int 5))) mNil)) (mC (.int 2147483647))))
    (mSeq (mAsg (.nm 6) (mBin modD (mCl intF (mCons (mBin addD (mBin mulD (mVar 5) (mVar 5)) (mBin mulD (mBin ixD (mVar 0) (mC (.int 3))) (mC (.int 40692)))) mNil)) (mC (.int 2147483399))))
    (mRet (mBin modD (mBin fdivD (mBin modD (mCl intF (mCons (mBin addD (mBin mulD (mVar 6) (mVar 6)) (mVar 5)) mNil)) (mC (.int 2147483647))) (mC (.int 8))) (mVar 1)))))))))))
theorem ok__law_draw {f : Addr} {fd : FuncData} (F : Fun K "_law_draw" "_law_draw" s__law_draw f fd) (B : Bs mg)  : FnOk P w K mg base CX0 1 f fd ["flow", "many"] (spF K m__law_draw) := fn_def F sc__law_draw rfl rfl fun cdv A outer s H E hr => by
    have sc := sc__law_draw
    have hu := hu_of hr
    exact (is_cons (is_put (set_X hu) setC (ie_op op_addX addC (ie_ix (ix_X hu) ixC (ie_var 0) ie_int) ie_int) (ie_var 0) ie_int)
    (is_cons (is_set (ie_ix (ix_X hu) ixC (ie_var 0) ie_int) (ig_name 2 sc.nd))
    (is_cons (is_if (it_w (iw_and (it_cmp (op_eqX hr.units) eqC (nomark _) (ie_ix (ix_X hu) ixC (ie_var 0) ie_int) ie_int) (iw_and (it_cmp (op_eqX hr.units) eqC (nomark _) (ie_op op_mod modC (ie_callTy call_int1 intC B.b_int (by decide +kernel) (ia_cons (ie_ix (ix_X hu) ixC (ie_var 2) ie_int) ia_nil)) ie_int) ie_int) (iw_and (it_cmp op_ltX ltC (nomark _) (ie_ix (ix_X hu) ixC (ie_var 0) ie_int) (ie_callB call_lenX lenC B.b_len (by decide +kernel) (ia_cons (ie_var 2) ia_nil))) (iw_and1 (it_cmp op_geX geC (nomark _) (ie_ix (ix_X hu) ixC (ie_var 2) (ie_ix (ix_X hu) ixC (ie_var 0) ie_int)) (ie_op op_pow powC ie_int ie_int)))))))
      (is_cons (is_put (set_X hu) setC (ie_op op_fdiv fdivC (ie_ix (ix_X hu) ixC (ie_var 2) (ie_ix (ix_X hu) ixC (ie_var 0) ie_int)) ie_int) (ie_var 0) ie_int)
    (is_cons (is_put (set_X hu) setC ie_int (ie_var 0) ie_int)
    (is_one (is_put (set_X hu) setC (ie_op op_addX addC (ie_ix (ix_X hu) ixC (ie_var 0) ie_int) ie_int) (ie_var 0) ie_int))))
      is_nil)
    (is_cons (is_if (it_cmp op_gtX gtC (nomark _) (ie_ix (ix_X hu) ixC (ie_var 0) ie_int) ie_int)
      (is_cons (is_set (ie_op op_mod modC (ie_callTy call_int1 intC B.b_int (by decide +kernel) (ia_cons (ie_ix (ix_X hu) ixC (ie_var 0) ie_int) ia_nil)) (ie_var 1)) (ig_name 3 sc.nd))
    (is_cons (is_put (set_X hu) setC (ie_op op_fdiv fdivC (ie_ix (ix_X hu) ixC (ie_var 0) ie_int) (ie_var 1)) (ie_var 0) ie_int)
    (is_cons (is_put (set_X hu) setC (ie_op op_mulX mulC (ie_op op_sub subC (ie_ix (ix_X hu) ixC (ie_var 0) ie_int) ie_int) (ie_callTy call_int1 intC B.b_int (by decide +kernel) (ia_cons (ie_cmp op_gtX gtC (nomark _) (ie_ix (ix_X hu) ixC (ie_var 0) ie_int) ie_int) ia_nil))) (ie_var 0) ie_int)
    (is_one (is_ret (ie_var 3))))))
      is_nil)
    (is_cons (is_set (ie_ix (ix_X hu) ixC (ie_var 2) (ie_op op_mod modC (ie_callTy call_int1 intC B.b_int (by decide +kernel) (ia_cons (ie_ix (ix_X hu) ixC (ie_var 0) ie_int) ia_nil)) (ie_callB call_lenX lenC B.b_len (by decide +kernel) (ia_cons (ie_var 2) ia_nil)))) (ig_name 4 sc.nd))
    (is_cons (is_put (set_X hu) setC (ie_op op_addX addC (ie_ix (ix_X hu) ixC (ie_var 0) ie_int) (ie_callTy call_int1 intC B.b_int (by decide +kernel) (ia_cons (ie_cmp op_ltX ltC (nomark _) (ie_ix (ix_X hu) ixC (ie_var 2) (ie_callB (call_min2 rfl) min2C B.b_min (by decide +kernel) (ia_cons (ie_ix (ix_X hu) ixC (ie_var 0) ie_int) (ia_cons (ie_op op_sub subC (ie_callB call_lenX lenC B.b_len (by decide +kernel) (ia_cons (ie_var 2) ia_nil)) ie_int) ia_nil)))) (ie_op op_pow powC ie_int ie_int)) ia_nil))) (ie_var 0) ie_int)
    (is_cons (is_set (ie_op op_mod modC (ie_callTy call_int1 intC B.b_int (by decide +kernel) (ia_cons (ie_op op_addX addC (ie_op op_addX addC (ie_op op_mulX mulC (ie_var 4) ie_int) (ie_op op_mulX mulC (ie_ix (ix_X hu) ixC (ie_var 0) ie_int) ie_int)) ie_int) ia_nil)) ie_int) (ig_name 5 sc.nd))
    (is_cons (is_set (ie_op op_mod modC (ie_callTy call_int1 intC B.b_int (by decide +kernel) (ia_cons (ie_op op_addX addC (ie_op op_mulX mulC (ie_var 5) (ie_var 5)) (ie_op op_mulX mulC (ie_ix (ix_X hu) ixC (ie_var 0) ie_int) ie_int)) ia_nil)) ie_int) (ig_name 6 sc.nd))
    (is_one (is_ret (ie_op op_mod modC (ie_op op_fdiv fdivC (ie_op op_mod modC (ie_callTy call_int1 intC B.b_int (by decide +kernel) (ia_cons (ie_op op_addX addC (ie_op op_mulX mulC (ie_var 6) (ie_var 6)) (ie_var 5)) ia_nil)) ie_int) ie_int) (ie_var 1))))))))))))
theorem sc__law_pick : FnScope ["flow", "some"] ["flow", "some"] (defScope s__law_pick) := ⟨rfl, rfl, rfl, by decide +kernel, rfl, by decide +kernel, by decide +kernel⟩
def m__law_pick : Fn := mDef 2 0
    (mRet (mBin ixD (mVar 1) (mCall m__law_draw (mCons (mVar 0) (mCons (mCl lenF (mCons (mVar 1) mNil)) mNil)))))
theorem ok__law_pick {f : Addr} {fd : FuncData} (F : Fun K "_law_pick" "_law_pick" s__law_pick f fd) (B : Bs mg) (c__law_draw : FnM P w K mg base 1 "_law_draw" m__law_draw) : FnOk P w K mg base CX0 2 f fd ["flow", "some"] (spF K m__law_pick) := fn_def F sc__law_pick rfl rfl fun cdv A outer s H E hr => by
    have sc := sc__law_pick
    have hu := hu_of hr
    exact (is_one (is_ret (ie_ix (ix_X hu) ixC (ie_var 1) (ie_call c__law_draw hr (by decide) (ia_cons (ie_var 0) (ia_cons (ie_callB call_lenX lenC B.b_len (by decide +kernel) (ia_cons (ie_var 1) ia_nil)) ia_nil))))))
theorem sc__law_shuffled : FnScope ["flow", "some", "left", "k"] ["flow", "some"] (defScope s__law_shuffled) := ⟨rfl, rfl, rfl, by decide +kernel, rfl, by decide +kernel, by decide +kernel⟩
def m__law_shuffled : Fn := mDef 2 2
    (mSeq (mAsg (.nm 2) (mMut (mClL listF (mCons (mVar 1) mNil))))
    (mRet (mFrz (mComp (.nm 3) (mRng1 (mCons (mCl lenF (mCons (mVar 1) mNil)) mNil)) mYes (mBM "list" popAtM (mVar 2) (mCons (mCall m__law_draw (mCons (mVar 0) (mCons (mCl lenF (mCons (mVar 2) mNil)) mNil))) mNil)) [3]))))
theorem ok__law_shuffled {f : Addr} {fd : FuncData} (F : Fun K "_law_shuffled" "_law_shuffled" s__law_shuffled f fd) (B : Bs mg) (c__law_draw : FnM P w K mg base 1 "_law_draw" m__law_draw) : FnOk P w K mg base CX0 2 f fd ["flow", "some"] (spF K m__law_shuffled) := fn_def F sc__law_shuffled rfl rfl fun cdv A outer s H E hr => by
    have sc := sc__law_shuffled
    have hu := hu_of hr
    exact (is_cons (is_set (ie_mut (il_callTy (call_listX rfl) listC B.b_list (by decide +kernel) (ia_cons (ie_var 1) ia_nil))) (ig_name 2 sc.nd))
    (is_one (is_ret (ie_frz (il_comp (own := [("k", 3)]) rfl sc.nd (show blkC ["flow", "some", "left", "k"] (defScope s__law_shuffled) _ _ = true by decide +kernel) (ii_range1 B.b_range (ia_cons (ie_callB call_lenX lenC B.b_len (by decide +kernel) (ia_cons (ie_var 1) ia_nil)) ia_nil)) (fun _ _ _ _ _ => (ig_name 3 sc.nd)) (fun _ _ _ _ _ => its_nil) (fun _ _ _ _ _ => (ie_bm PySem.F.plainAttrs_list PySem.F.slot_list_pop PySem.F.type_list_pop mt_popAt popAtC (ie_var 2) (ia_cons (ie_call c__law_draw hr (by decide) (ia_cons (ie_var 0) (ia_cons (ie_callB call_lenX lenC B.b_len (by decide +kernel) (ia_cons (ie_var 2) ia_nil)) ia_nil))) ia_nil))))))))
theorem sc__law_some : FnScope ["flow", "some", "least", "most"] ["flow", "some", "least", "most"] (defScope s__law_some) := ⟨rfl, rfl, rfl, by decide +kernel, rfl, by decide +kernel, by decide +kernel⟩
def m__law_some : Fn := mDef 4 0
    (mRet (mSl (mCall m__law_shuffled (mCons (mVar 0) (mCons (mVar 1) mNil))) mNoP (mP (mBin addD (mVar 2) (mCall m__law_draw (mCons (mVar 0) (mCons (mBin addD (mBin subD (mVar 3) (mVar 2)) (mC (.int 1))) mNil)))))))
theorem ok__law_some {f : Addr} {fd : FuncData} (F : Fun K "_law_some" "_law_some" s__law_some f fd) (B : Bs mg) (c__law_shuffled : FnM P w K mg base 2 "_law_shuffled" m__law_shuffled) (c__law_draw : FnM P w K mg base 1 "_law_draw" m__law_draw) : FnOk P w K mg base CX0 3 f fd ["flow", "some", "least", "most"] (spF K m__law_some) := fn_def F sc__law_some rfl rfl fun cdv A outer s H E hr => by
    have sc := sc__law_some
    have hu := hu_of hr
    exact (is_one (is_ret (ie_slice (ie_call c__law_shuffled hr (by decide) (ia_cons (ie_var 0) (ia_cons (ie_var 1) ia_nil))) io_no (io_p (ie_op op_addX addC (ie_var 2) (ie_call c__law_draw hr (by decide) (ia_cons (ie_var 0) (ia_cons (ie_op op_addX addC (ie_op op_sub subC (ie_var 3) (ie_var 2)) ie_int) ia_nil))))))))
theorem sc__law_same : FnScope ["told", "due", "k"] ["told", "due"] (defScope s__law_same) := ⟨rfl, rfl, rfl, by decide +kernel, rfl, by decide +kernel, by decide +kernel⟩
def m__law_same : Nat → Fn
  | 0 => fun _ _ => none
  | n + 1 => mDef 2 1
    (mSeq (mIte (mTru (mIsi .tup (mVar 1)))
      (mSeq (mIte (mOr (mNot (mTru (mIsi .tup (mVar 0)))) (mTst (mBin neD (mCl lenF (mCons (mVar 0) mNil)) (mCl lenF (mCons (mVar 1) mNil)))))
      (mRet (mC (.bl false)))
      mSkip)
    (mRet (mBin ninD (mC (.bl false)) (mFrz (mComp (.nm 2) (mRng1 (mCons (mCl lenF (mCons (mVar 1) mNil)) mNil)) mYes (mCall (m__law_same n) (mCons (mBin ixD (mVar 0) (mVar 2)) (mCons (mBin ixD (mVar 1) (mVar 2)) mNil))) [2])))))
      mSkip)
    (mSeq (mIte (mTst (mBin isND (mVar 1) (mC .non)))
      (mRet (mBin isND (mVar 0) (mC .non)))
      mSkip)
    (mSeq (mIte (mTru (mIsi .bl (mVar 1)))
      (mRet (mAndV (mIsi .bl (mVar 0)) (mBin eqD (mVar 0) (mVar 1))))
      mSkip)
    (mSeq (mIte (mTru (mIsi .str (mVar 1)))
      (mRet (mAndV (mIsi .str (mVar 0)) (mBin eqD (mVar 0) (mVar 1))))
      mSkip)
    (mRet (mAndV (mIsi .int (mVar 0)) (mAndV (mNotV (mIsi .bl (mVar 0))) (mBin eqD (mVar 0) (mVar 1)))))))))
theorem ok__law_same {f : Addr} {fd : FuncData} (F : Fun K "_law_same" "_law_same" s__law_same f fd) (B : Bs mg) (hmg : mg "_law_same" = some (.ref f)) (hbi : Binds K fd ["told", "due"] [])  : ∀ n, FnOk P w K mg base CX0 (1 + n) f fd ["told", "due"] (spF K (m__law_same n))
  | 0 => fn_none
  | n + 1 => fn_def F sc__law_same rfl rfl fun cdv A outer s H E hr => by
    have sc := sc__law_same
    have hu := hu_of hr
    have c__law_same : FnM P w K mg base (1 + n) "_law_same" (m__law_same n) := fn_m F hmg hbi (ok__law_same F B hmg hbi  n)
    exact (is_cons (is_if (it_tru (ie_isi .tup B.b_isinstance B.b_tuple (ie_var 1)))
      (is_cons (is_if (it_w (iw_or (it_not (it_tru (ie_isi .tup B.b_isinstance B.b_tuple (ie_var 0)))) (iw_or1 (it_cmp (op_neX hr.units) neC (nomark _) (ie_callB call_lenX lenC B.b_len (by decide +kernel) (ia_cons (ie_var 0) ia_nil)) (ie_callB call_lenX lenC B.b_len (by decide +kernel) (ia_cons (ie_var 1) ia_nil))))))
      (is_one (is_ret ie_bl))
      is_nil)
    (is_one (is_ret (ie_cmp (op_ninX hu) ninC (by rfl) ie_bl (ie_frz (il_comp (own := [("k", 2)]) rfl sc.nd (show blkC ["told", "due", "k"] (defScope s__law_same) _ _ = true by decide +kernel) (ii_range1 B.b_range (ia_cons (ie_callB call_lenX lenC B.b_len (by decide +kernel) (ia_cons (ie_var 1) ia_nil)) ia_nil)) (fun _ _ _ _ _ => (ig_name 2 sc.nd)) (fun _ _ _ _ _ => its_nil) (fun _ _ _ _ _ => (ie_call c__law_same hr (by simp) (ia_cons (ie_ix (ix_X hu) ixC (ie_var 0) (ie_var 2)) (ia_cons (ie_ix (ix_X hu) ixC (ie_var 1) (ie_var 2)) ia_nil))))))))))
      is_nil)
    (is_cons (is_if (it_cmp op_isN isNC (nomark _) (ie_var 1) ie_non)
      (is_one (is_ret (ie_cmp op_isN isNC (nomark _) (ie_var 0) ie_non)))
      is_nil)
    (is_cons (is_if (it_tru (ie_isi .bl B.b_isinstance B.b_bool (ie_var 1)))
      (is_one (is_ret (ie_and (ie_isi .bl B.b_isinstance B.b_bool (ie_var 0)) (ie_one (ie_cmp (op_eqX hr.units) eqC (nomark _) (ie_var 0) (ie_var 1))))))
      is_nil)
    (is_cons (is_if (it_tru (ie_isi .str B.b_isinstance B.b_str (ie_var 1)))
      (is_one (is_ret (ie_and (ie_isi .str B.b_isinstance B.b_str (ie_var 0)) (ie_one (ie_cmp (op_eqX hr.units) eqC (nomark _) (ie_var 0) (ie_var 1))))))
      is_nil)
    (is_one (is_ret (ie_and (ie_isi .int B.b_isinstance B.b_int (ie_var 0)) (ie_and (ie_not (ie_isi .bl B.b_isinstance B.b_bool (ie_var 0))) (ie_one (ie_cmp (op_eqX hr.units) eqC (nomark _) (ie_var 0) (ie_var 1)))))))))))
theorem sc__law_alphabet : FnScope ["flow", "many", "blank", "signs", "found", "k"] ["flow", "many", "blank"] (defScope s__law_alphabet) := ⟨rfl, rfl, rfl, by decide +kernel, rfl, by decide +kernel, by decide +kernel⟩
def m__law_alphabet : Fn := mDef 3 3
    (mSeq (mAsg (.nm 3) (mC (.str "abcdefghijklmnopqrstuvwxyz")))
    (mSeq (mAsg (.nm 4) (mBin addD (mBin mulD (mFrz (mSized (mCons (mC (.str "_")) mNil))) (mCl intF (mCons (mVar 2) mNil))) (mFrz (mComp (.nm 5) (mIt (mCall m__law_some (mCons (mVar 0) (mCons (mFrz (mLrg1 (mC (.int 26)))) (mCons (mBin subD (mVar 1) (mCl intF (mCons (mVar 2) mNil))) (mCons (mBin subD (mVar 1) (mCl intF (mCons (mVar 2) mNil))) mNil)))))) mYes (mBin ixD (mVar 3) (mVar 5)) [5]))))
    (mRet (mBM "str" joinM (mC (.str "")) (mCons (mFrz (mClL sortedF (mCons (mVar 4) mNil))) mNil)))))
theorem ok__law_alphabet {f : Addr} {fd : FuncData} (F : Fun K "_law_alphabet" "_law_alphabet" s__law_alphabet f fd) (B : Bs mg) (c__law_some : FnM P w K mg base 3 "_law_some" m__law_some) : FnOk P w K mg base CX0 4 f fd ["flow", "many", "blank"] (spF K m__law_alphabet) := fn_def F sc__law_alphabet rfl rfl fun cdv A outer s H E hr => by
    have sc := sc__law_alphabet
    have hu := hu_of hr
    exact (is_cons (is_set ie_str (ig_name 3 sc.nd))
    (is_cons (is_set (ie_op op_addX addC (ie_op op_mulX mulC (ie_frz (il_lst (ia_cons ie_str ia_nil))) (ie_callTy call_int1 intC B.b_int (by decide +kernel) (ia_cons (ie_var 2) ia_nil))) (ie_frz (il_comp (own := [("k", 5)]) rfl sc.nd (show blkC ["flow", "many", "blank", "signs", "found", "k"] (defScope s__law_alphabet) _ _ = true by decide +kernel) (ii_any (ie_call c__law_some hr (by decide) (ia_cons (ie_var 0) (ia_cons (ie_frz (il_lrg1 rfl B.b_list B.b_range ie_int)) (ia_cons (ie_op op_sub subC (ie_var 1) (ie_callTy call_int1 intC B.b_int (by decide +kernel) (ia_cons (ie_var 2) ia_nil))) (ia_cons (ie_op op_sub subC (ie_var 1) (ie_callTy call_int1 intC B.b_int (by decide +kernel) (ia_cons (ie_var 2) ia_nil))) ia_nil)))))) (fun _ _ _ _ _ => (ig_name 5 sc.nd)) (fun _ _ _ _ _ => its_nil) (fun _ _ _ _ _ => (ie_ix (ix_X hu) ixC (ie_var 3) (ie_var 5)))))) (ig_name 4 sc.nd))
    (is_one (is_ret (ie_bm PySem.F.plainAttrs_str PySem.F.slot_str_join PySem.F.type_str_join mt_join joinC ie_str (ia_cons (ie_frz (il_callB (cr_sortedD hr.units) sortedC B.b_sorted (by decide +kernel) (ia_cons (ie_var 4) ia_nil))) ia_nil))))))
theorem sc__law_rules : FnScope ["flow", "letters", "left", "found", "turn", "many", "some", "sign"] ["flow", "letters"] (defScope s__law_rules) := ⟨rfl, rfl, rfl, by decide +kernel, rfl, by decide +kernel, by decide +kernel⟩
def m__law_rules : Fn := mDef 2 6
    (mSeq (mPar 2 3 (mCons (mCall m__law_shuffled (mCons (mVar 0) (mCons (mFrz (mClL listF (mCons (mVar 1) mNil))) mNil))) (mCons (mMut (mSized mNil)) mNil)))
    (mSeq (mFor (.nm 4) (mRng1 (mCons (mCall m__law_draw (mCons (mVar 0) (mCons (mC (.int 9)) mNil))) mNil))
      (mIte (mTst (mBin neD (mVar 2) (mFrz (mSized mNil))))
      (mSeq (mAsg (.nm 5) (mBin addD (mC (.int 1)) (mCall m__law_draw (mCons (mVar 0) (mCons (mCl min2F (mCons (mC (.int 4)) (mCons (mCl lenF (mCons (mVar 2) mNil)) mNil))) mNil)))))
    (mSeq (mPar 6 2 (mCons (mSl (mVar 2) mNoP (mP (mVar 5))) (mCons (mSl (mVar 2) (mP (mVar 5)) mNoP) mNil)))
    (mSeq (mAsg (.nm 7) (mCall m__law_pick (mCons (mVar 0) (mCons (mFrz (mSized (mCons (mC (.str "")) (mCons (mC (.str "")) (mCons (mBin ixD (mVar 6) (mC (.int 0))) (mCons (mBin ixD (mVar 6) (mUn negD (mC (.int 1)))) (mCons (mCall m__law_pick (mCons (mVar 0) (mCons (mFrz (mClL listF (mCons (mVar 1) mNil))) mNil))) (mCons (mC (.str "z")) (mCons (mC (.str "_")) mNil))))))))) mNil))))
    (mDrop (mBM "list" appendM (mVar 3) (mCons (mTup (mCons (mBM "str" joinM (mC (.str "")) (mCons (mFrz (mClL sortedF (mCons (mVar 6) mNil))) mNil)) (mCons (mVar 7) mNil))) mNil))))))
      mSkip))
    (mRet (mCl tupleF (mCons (mVar 3) mNil)))))
theorem ok__law_rules {f : Addr} {fd : FuncData} (F : Fun K "_law_rules" "_law_rules" s__law_rules f fd) (B : Bs mg) (c__law_shuffled : FnM P w K mg base 2 "_law_shuffled" m__law_shuffled) (c__law_draw : FnM P w K mg base 1 "_law_draw" m__law_draw) (c__law_pick : FnM P w K mg base 2 "_law_pick" m__law_pick) : FnOk P w K mg base CX0 3 f fd ["flow", "letters"] (spF K m__law_rules) := fn_def F sc__law_rules rfl rfl fun cdv A outer s H E hr => by
    have sc := sc__law_rules
    have hu := hu_of hr
    exact (is_cons (is_par (i := 2) (j := 3) rfl sc.nd (ia_cons (ie_call c__law_shuffled hr (by decide) (ia_cons (ie_var 0) (ia_cons (ie_frz (il_callTy (call_listX rfl) listC B.b_list (by decide +kernel) (ia_cons (ie_var 1) ia_nil))) ia_nil))) (ia_cons (ie_mut (il_lst ia_nil)) ia_nil)))
    (is_cons (is_for PassesOwn.never rfl (ii_range1 B.b_range (ia_cons (ie_call c__law_draw hr (by decide) (ia_cons (ie_var 0) (ia_cons ie_int ia_nil))) ia_nil)) (ig_name 4 sc.nd)
      (is_one (is_if (it_cmp (op_neX hr.units) neC (nomark _) (ie_var 2) (ie_frz (il_lst ia_nil)))
      (is_cons (is_set (ie_op op_addX addC ie_int (ie_call c__law_draw hr (by decide) (ia_cons (ie_var 0) (ia_cons (ie_callB (call_min2 rfl) min2C B.b_min (by decide +kernel) (ia_cons ie_int (ia_cons (ie_callB call_lenX lenC B.b_len (by decide +kernel) (ia_cons (ie_var 2) ia_nil)) ia_nil))) ia_nil)))) (ig_name 5 sc.nd))
    (is_cons (is_par (i := 6) (j := 2) rfl sc.nd (ia_cons (ie_slice (ie_var 2) io_no (io_p (ie_var 5))) (ia_cons (ie_slice (ie_var 2) (io_p (ie_var 5)) io_no) ia_nil)))
    (is_cons (is_set (ie_call c__law_pick hr (by decide) (ia_cons (ie_var 0) (ia_cons (ie_frz (il_lst (ia_cons ie_str (ia_cons ie_str (ia_cons (ie_ix (ix_X hu) ixC (ie_var 6) ie_int) (ia_cons (ie_ix (ix_X hu) ixC (ie_var 6) (ie_un un_neg negC ie_int)) (ia_cons (ie_call c__law_pick hr (by decide) (ia_cons (ie_var 0) (ia_cons (ie_frz (il_callTy (call_listX rfl) listC B.b_list (by decide +kernel) (ia_cons (ie_var 1) ia_nil))) ia_nil))) (ia_cons ie_str (ia_cons ie_str ia_nil))))))))) ia_nil))) (ig_name 7 sc.nd))
    (is_one (is_expr (ie_bm PySem.F.plainAttrs_list PySem.F.slot_list_append PySem.F.type_list_append mt_append appendC (ie_var 3) (ia_cons (ie_tup (ia_cons (ie_bm PySem.F.plainAttrs_str PySem.F.slot_str_join PySem.F.type_str_join mt_join joinC ie_str (ia_cons (ie_frz (il_callB (cr_sortedD hr.units) sortedC B.b_sorted (by decide +kernel) (ia_cons (ie_var 6) ia_nil))) ia_nil)) (ia_cons (ie_var 7) ia_nil))) ia_nil)))))))
      is_nil)))
    (is_one (is_ret (ie_callTy call_tuple_of tupleC B.b_tuple (by decide +kernel) (ia_cons (ie_var 3) ia_nil))))))
theorem sc__law_key : FnScope ["rules", "doubled", "word", "signs", "letters", "sign", "a", "made"] ["rules", "doubled", "word"] (defScope s__law_key) := ⟨rfl, rfl, rfl, by decide +kernel, rfl, by decide +kernel, by decide +kernel⟩
def m__law_key : Fn := mDef 3 5
    (mSeq (mAsg (.nm 3) mNewK)
    (mSeq (mFor (.tp [(.nm 4), (.nm 5)]) (mIt (mVar 0))
      (mFor (.nm 6) (mIt (mVar 4))
      (mPut setD (mVar 5) (mVar 3) (mVar 6))))
    (mSeq (mAsg (.nm 7) (mC (.str "")))
    (mSeq (mFor (.nm 6) (mIt (mVar 2))
      (mSeq (mAsg (.nm 5) (mGet2 (mVar 3) (mVar 6) (mVar 6)))
    (mIte (mOr (mNot (mTru (mVar 1))) (mOr (mTst (mBin neD (mVar 5) (mSl (mVar 7) (mP (mBin subD (mCl lenF (mCons (mVar 7) mNil)) (mC (.int 1)))) mNoP))) (mTst (mBin eqD (mVar 7) (mC (.str ""))))))
      (mAsg (.nm 7) (mBin addD (mVar 7) (mVar 5)))
      mSkip)))
    (mRet (mVar 7))))))
theorem ok__law_key {f : Addr} {fd : FuncData} (F : Fun K "_law_key" "_law_key" s__law_key f fd) (B : Bs mg)  : FnOk P w K mg base CX0 1 f fd ["rules", "doubled", "word"] (spF K m__law_key) := fn_def F sc__law_key rfl rfl fun cdv A outer s H E hr => by
    have sc := sc__law_key
    have hu := hu_of hr
    exact (is_cons (is_set ie_newK (ig_name 3 sc.nd))
    (is_cons (is_for PassesOwn.never rfl (ii_any (ie_var 0)) (ig_tup rfl (igs_cons (ig_name 4 sc.nd) (igs_cons (ig_name 5 sc.nd) igs_nil)))
      (is_one (is_for PassesOwn.never rfl (ii_any (ie_var 4)) (ig_name 6 sc.nd)
      (is_one (is_put (set_X hu) setC (ie_var 5) (ie_var 3) (ie_var 6))))))
    (is_cons (is_set ie_str (ig_name 7 sc.nd))
    (is_cons (is_for PassesOwn.never rfl (ii_any (ie_var 2)) (ig_name 6 sc.nd)
      (is_cons (is_set (ie_get2 hu (ie_var 3) (ie_var 6) (ie_var 6)) (ig_name 5 sc.nd))
    (is_one (is_if (it_w (iw_or (it_not (it_tru (ie_var 1))) (iw_or (it_cmp (op_neX hr.units) neC (nomark _) (ie_var 5) (ie_slice (ie_var 7) (io_p (ie_op op_sub subC (ie_callB call_lenX lenC B.b_len (by decide +kernel) (ia_cons (ie_var 7) ia_nil)) ie_int)) io_no)) (iw_or1 (it_cmp (op_eqX hr.units) eqC (nomark _) (ie_var 7) ie_str)))))
      (is_one (is_set (ie_op op_addX addC (ie_var 7) (ie_var 5)) (ig_name 7 sc.nd)))
      is_nil))))
    (is_one (is_ret (ie_var 7)))))))
theorem sc__law_alike : FnScope ["flow", "rules", "word", "at", "gone", "letters", "sign", "here"] ["flow", "rules", "word"] (defScope s__law_alike) := ⟨rfl, rfl, rfl, by decide +kernel, rfl, by decide +kernel, by decide +kernel⟩
def m__law_alike : Fn := mDef 3 5
    (mSeq (mAsg (.nm 3) (mCall m__law_draw (mCons (mVar 0) (mCons (mBin addD (mCl lenF (mCons (mVar 2) mNil)) (mC (.int 1))) mNil))))
    (mSeq (mAsg (.nm 4) (mFrz (mComp (.tp [(.nm 5), (.nm 6)]) (mIt (mVar 1)) (mTst (mBin eqD (mVar 6) (mC (.str "")))) (mVar 5) [5, 6])))
    (mSeq (mIte (mAnd (mTst (mBin neD (mVar 4) (mFrz (mSized mNil)))) (mAnd (mTst (mBin ltD (mCl lenF (mCons (mVar 2) mNil)) (mC (.int 40)))) (mTst (mBin eqD (mCall m__law_draw (mCons (mVar 0) (mCons (mC (.int 2)) mNil))) (mC (.int 0))))))
      (mRet (mBin addD (mBin addD (mSl (mVar 2) mNoP (mP (mVar 3))) (mCall m__law_pick (mCons (mVar 0) (mCons (mFrz (mClL listF (mCons (mCall m__law_pick (mCons (mVar 0) (mCons (mVar 4) mNil))) mNil))) mNil)))) (mSl (mVar 2) (mP (mVar 3)) mNoP)))
      mSkip)
    (mSeq (mAsg (.nm 7) (mFrz (mComp (.tp [(.nm 5), (.nm 6)]) (mIt (mVar 1)) (mAnd (mTst (mBin neD (mSl (mVar 2) (mP (mVar 3)) (mP (mBin addD (mVar 3) (mC (.int 1))))) (mC (.str "")))) (mTst (mBin inD (mBin ixD (mVar 2) (mVar 3)) (mVar 5)))) (mVar 5) [5, 6])))
    (mRet (mIf (mTst (mBin neD (mVar 7) (mFrz (mSized mNil)))) (mBin addD (mBin addD (mSl (mVar 2) mNoP (mP (mVar 3))) (mCall m__law_pick (mCons (mVar 0) (mCons (mFrz (mClL listF (mCons (mBin ixD (mVar 7) (mC (.int 0))) mNil))) mNil)))) (mSl (mVar 2) (mP (mBin addD (mVar 3) (mC (.int 1)))) mNoP)) (mVar 2)))))))
theorem ok__law_alike {f : Addr} {fd : FuncData} (F : Fun K "_law_alike" "_law_alike" s__law_alike f fd) (B : Bs mg) (c__law_draw : FnM P w K mg base 1 "_law_draw" m__law_draw) (c__law_pick : FnM P w K mg base 2 "_law_pick" m__law_pick) : FnOk P w K mg base CX0 3 f fd ["flow", "rules", "word"] (spF K m__law_alike) := fn_def F sc__law_alike rfl rfl fun cdv A outer s H E hr => by
    have sc := sc__law_alike
    have hu := hu_of hr
    exact (is_cons (is_set (ie_call c__law_draw hr (by decide) (ia_cons (ie_var 0) (ia_cons (ie_op op_addX addC (ie_callB call_lenX lenC B.b_len (by decide +kernel) (ia_cons (ie_var 2) ia_nil)) ie_int) ia_nil))) (ig_name 3 sc.nd))
    (is_cons (is_comp (i := 4) frz_L (own := [("letters", 5), ("sign", 6)]) rfl sc.nd (show blkC ["flow", "rules", "word", "at", "gone", "letters", "sign", "here"] (defScope s__law_alike) _ _ = true by decide +kernel) (ii_any (ie_var 1)) (fun _ _ _ _ _ => (ig_tup rfl (igs_cons (ig_name 5 sc.nd) (igs_cons (ig_name 6 sc.nd) igs_nil)))) (fun _ _ _ _ _ => (its_one (it_cmp (op_eqX hr.units) eqC (nomark _) (ie_var 6) ie_str))) (fun _ _ _ _ _ => (ie_var 5)))
    (is_cons (is_if (it_w (iw_and (it_cmp (op_neX hr.units) neC (nomark _) (ie_var 4) (ie_frz (il_lst ia_nil))) (iw_and (it_cmp op_ltX ltC (nomark _) (ie_callB call_lenX lenC B.b_len (by decide +kernel) (ia_cons (ie_var 2) ia_nil)) ie_int) (iw_and1 (it_cmp (op_eqX hr.units) eqC (nomark _) (ie_call c__law_draw hr (by decide) (ia_cons (ie_var 0) (ia_cons ie_int ia_nil))) ie_int)))))
      (is_one (is_ret (ie_op op_addX addC (ie_op op_addX addC (ie_slice (ie_var 2) io_no (io_p (ie_var 3))) (ie_call c__law_pick hr (by decide) (ia_cons (ie_var 0) (ia_cons (ie_frz (il_callTy (call_listX rfl) listC B.b_list (by decide +kernel) (ia_cons (ie_call c__law_pick hr (by decide) (ia_cons (ie_var 0) (ia_cons (ie_var 4) ia_nil))) ia_nil))) ia_nil)))) (ie_slice (ie_var 2) (io_p (ie_var 3)) io_no))))
      is_nil)
    (is_cons (is_comp (i := 7) frz_L (own := [("letters", 5), ("sign", 6)]) rfl sc.nd (show blkC ["flow", "rules", "word", "at", "gone", "letters", "sign", "here"] (defScope s__law_alike) _ _ = true by decide +kernel) (ii_any (ie_var 1)) (fun _ _ _ _ _ => (ig_tup rfl (igs_cons (ig_name 5 sc.nd) (igs_cons (ig_name 6 sc.nd) igs_nil)))) (fun _ _ _ _ _ => (its_one (it_w (iw_and (it_cmp (op_neX hr.units) neC (nomark _) (ie_slice (ie_var 2) (io_p (ie_var 3)) (io_p (ie_op op_addX addC (ie_var 3) ie_int))) ie_str) (iw_and1 (it_cmp (op_inX hu) inC (by rfl) (ie_ix (ix_X hu) ixC (ie_var 2) (ie_var 3)) (ie_var 5))))))) (fun _ _ _ _ _ => (ie_var 5)))
    (is_one (is_ret (ie_if (it_cmp (op_neX hr.units) neC (nomark _) (ie_var 7) (ie_frz (il_lst ia_nil))) (ie_op op_addX addC (ie_op op_addX addC (ie_slice (ie_var 2) io_no (io_p (ie_var 3))) (ie_call c__law_pick hr (by decide) (ia_cons (ie_var 0) (ia_cons (ie_frz (il_callTy (call_listX rfl) listC B.b_list (by decide +kernel) (ia_cons (ie_ix (ix_X hu) ixC (ie_var 7) ie_int) ia_nil))) ia_nil)))) (ie_slice (ie_var 2) (io_p (ie_op op_addX addC (ie_var 3) ie_int)) io_no)) (ie_var 2))))))))
theorem sc_law : FnScope ["script", "flow", "letters", "rules", "doubled", "turn", "pool", "word", "k", "due", "told", "cut", "one", "two", "seam"] ["script"] (defScope s_law) := ⟨rfl, rfl, rfl, by decide +kernel, rfl, by decide +kernel, by decide +kernel⟩
def m_law : Fn := mDef 1 14
    (mSeq (mAsg (.nm 1) (mCall m__law_flow (mCons (mVar 0) mNil)))
    (mSeq (mAsg (.nm 2) (mCall m__law_alphabet (mCons (mVar 1) (mCons (mBin addD (mC (.int 1)) (mCall m__law_draw (mCons (mVar 1) (mCons (mC (.int 8)) mNil)))) (mCons (mBin eqD (mCall m__law_draw (mCons (mVar 1) (mCons (mC (.int 2)) mNil))) (mC (.int 0))) mNil)))))
    (mSeq (mAsg (.nm 3) (mCall m__law_rules (mCons (mVar 1) (mCons (mVar 2) mNil))))
    (mSeq (mAsg (.nm 4) (mBin eqD (mCall m__law_draw (mCons (mVar 1) (mCons (mC (.int 2)) mNil))) (mC (.int 0))))
    (mSeq (mFor (.nm 5) (mRng1 (mCons (mC (.int 6)) mNil))
      (mSeq (mAsg (.nm 6) (mIf (mTst (mBin eqD (mCall m__law_draw (mCons (mVar 1) (mCons (mC (.int 2)) mNil))) (mC (.int 0)))) (mCall m__law_some (mCons (mVar 1) (mCons (mFrz (mClL listF (mCons (mVar 2) mNil))) (mCons (mC (.int 1)) (mCons (mCl lenF (mCons (mVar 2) mNil)) mNil))))) (mCall m__law_some (mCons (mVar 1) (mCons (mFrz (mClL listF (mCons (mVar 2) mNil))) (mCons (mC (.int 1)) (mCons (mC (.int 2)) mNil)))))))
    (mSeq (mAsg (.nm 7) (mBM "str" joinM (mC (.str "")) (mCons (mFrz (mComp (.nm 8) (mRng1 (mCons (mCall m__law_pick (mCons (mVar 1) (mCons (mFrz (mSized (mCons (mC (.int 0)) (mCons (mC (.int 1)) (mCons (mC (.int 2)) (mCons (mC (.int 5)) (mCons (mC (.int 12)) (mCons (mC (.int 40)) mNil)))))))) mNil))) mNil)) mYes (mCall m__law_pick (mCons (mVar 1) (mCons (mVar 6) mNil))) [8])) mNil)))
    (mSeq (mAsg (.nm 9) (mCall m__law_key (mCons (mVar 3) (mCons (mVar 4) (mCons (mVar 7) mNil)))))
    (mSeq (mAsg (.nm 10) (mIf (mTst (mBin eqD (mCall m__law_draw (mCons (mVar 1) (mCons (mC (.int 2)) mNil))) (mC (.int 0)))) (mCall m_key (mCons (mVar 3) (mCons (mVar 4) (mCons (mVar 7) mNil)))) (mCallK m_key 0 3 [2, 1, 0] mNil (mCons (mVar 7) (mCons (mVar 4) (mCons (mVar 3) mNil))))))
    (mSeq (mIte (mOr (mNot (mTru (mCall (m__law_same 2) (mCons (mVar 10) (mCons (mVar 9) mNil))))) (mNot (mTru (mCall (m__law_same 2) (mCons (mCall m_key (mCons (mVar 3) (mCons (mNotV (mVar 4)) (mCons (mVar 7) mNil)))) (mCons (mCall m__law_key (mCons (mVar 3) (mCons (mNotV (mVar 4)) (mCons (mVar 7) mNil)))) mNil))))))
      (mRet (mC (.bl false)))
      mSkip)
    (mSeq (mIte (mNot (mTru (mCall (m__law_same 2) (mCons (mCall m_key (mCons (mVar 3) (mCons (mVar 4) (mCons (mCall m__law_alike (mCons (mVar 1) (mCons (mVar 3) (mCons (mVar 7) mNil)))) mNil)))) (mCons (mVar 9) mNil)))))
      (mRet (mC (.bl false)))
      mSkip)
    (mSeq (mAsg (.nm 11) (mCall m__law_draw (mCons (mVar 1) (mCons (mBin addD (mCl lenF (mCons (mVar 7) mNil)) (mC (.int 1))) mNil))))
    (mSeq (mPar 12 13 (mCons (mCall m_key (mCons (mVar 3) (mCons (mVar 4) (mCons (mSl (mVar 7) mNoP (mP (mVar 11))) mNil)))) (mCons (mCall m_key (mCons (mVar 3) (mCons (mVar 4) (mCons (mSl (mVar 7) (mP (mVar 11)) mNoP) mNil)))) mNil)))
    (mSeq (mAsg (.nm 14) (mIf (mAnd (mTru (mVar 4)) (mAnd (mTst (mBin neD (mVar 12) (mC (.str "")))) (mAnd (mTst (mBin neD (mVar 13) (mC (.str "")))) (mTst (mBin eqD (mBin ixD (mVar 12) (mUn negD (mC (.int 1)))) (mBin ixD (mVar 13) (mC (.int 0)))))))) (mC (.int 1)) (mC (.int 0))))
    (mIte (mTst (mBin neD (mBin addD (mVar 12) (mSl (mVar 13) (mP (mVar 14)) mNoP)) (mVar 9)))
      (mRet (mC (.bl false)))
      mSkip)))))))))))
    (mRet (mCall (m__law_same 2) (mCons (mCall m_key (mCons (mTup mNil) (mCons (mVar 4) (mCons (mVar 2) mNil)))) (mCons (mVar 2) mNil)))))))))
theorem ok_law {f : Addr} {fd : FuncData} (F : Fun K "law" "law" s_law f fd) (B : Bs mg) (c__law_flow : FnM P w K mg base 1 "_law_flow" m__law_flow) (c__law_alphabet : FnM P w K mg base 4 "_law_alphabet" m__law_alphabet) (c__law_rules : FnM P w K mg base 3 "_law_rules" m__law_rules) (c__law_same : FnM P w K mg base 3 "_law_same" (m__law_same 2)) (c__law_draw : FnM P w K mg base 1 "_law_draw" m__law_draw) (c__law_key : FnM P w K mg base 1 "_law_key" m__law_key) (c_key : FnM P w K mg base 3 "key" m_key) (c__law_some : FnM P w K mg base 3 "_law_some" m__law_some) (c__law_pick : FnM P w K mg base 2 "_law_pick" m__law_pick) (c__law_alike : FnM P w K mg base 3 "_law_alike" m__law_alike) (c_k0_key : FnK P w K mg base 3 "key" m_key 0 3 ["word", "doubled", "rules"] [2, 1, 0]) : FnOk P w K mg base CX0 5 f fd ["script"] (spF K m_law) := fn_def F sc_law rfl rfl fun cdv A outer s H E hr => by
    have sc := sc_law
    have hu := hu_of hr
    exact (is_cons (is_set (ie_call c__law_flow hr (by decide) (ia_cons (ie_var 0) ia_nil)) (ig_name 1 sc.nd))
    (is_cons (is_set (ie_call c__law_alphabet hr (by decide) (ia_cons (ie_var 1) (ia_cons (ie_op op_addX addC ie_int (ie_call c__law_draw hr (by decide) (ia_cons (ie_var 1) (ia_cons ie_int ia_nil)))) (ia_cons (ie_cmp (op_eqX hr.units) eqC (nomark _) (ie_call c__law_draw hr (by decide) (ia_cons (ie_var 1) (ia_cons ie_int ia_nil))) ie_int) ia_nil)))) (ig_name 2 sc.nd))
    (is_cons (is_set (ie_call c__law_rules hr (by decide) (ia_cons (ie_var 1) (ia_cons (ie_var 2) ia_nil))) (ig_name 3 sc.nd))
    (is_cons (is_set (ie_cmp (op_eqX hr.units) eqC (nomark _) (ie_call c__law_draw hr (by decide) (ia_cons (ie_var 1) (ia_cons ie_int ia_nil))) ie_int) (ig_name 4 sc.nd))
    (is_cons (is_for PassesOwn.never rfl (ii_range1 B.b_range (ia_cons ie_int ia_nil)) (ig_name 5 sc.nd)
      (is_cons (is_set (ie_if (it_cmp (op_eqX hr.units) eqC (nomark _) (ie_call c__law_draw hr (by decide) (ia_cons (ie_var 1) (ia_cons ie_int ia_nil))) ie_int) (ie_call c__law_some hr (by decide) (ia_cons (ie_var 1) (ia_cons (ie_frz (il_callTy (call_listX rfl) listC B.b_list (by decide +kernel) (ia_cons (ie_var 2) ia_nil))) (ia_cons ie_int (ia_cons (ie_callB call_lenX lenC B.b_len (by decide +kernel) (ia_cons (ie_var 2) ia_nil)) ia_nil))))) (ie_call c__law_some hr (by decide) (ia_cons (ie_var 1) (ia_cons (ie_frz (il_callTy (call_listX rfl) listC B.b_list (by decide +kernel) (ia_cons (ie_var 2) ia_nil))) (ia_cons ie_int (ia_cons ie_int ia_nil)))))) (ig_name 6 sc.nd))
    (is_cons (is_set (ie_bm PySem.F.plainAttrs_str PySem.F.slot_str_join PySem.F.type_str_join mt_join joinC ie_str (ia_cons (ie_frz (il_comp (own := [("k", 8)]) rfl sc.nd (show blkC ["script", "flow", "letters", "rules", "doubled", "turn", "pool", "word", "k", "due", "told", "cut", "one", "two", "seam"] (defScope s_law) _ _ = true by decide +kernel) (ii_range1 B.b_range (ia_cons (ie_call c__law_pick hr (by decide) (ia_cons (ie_var 1) (ia_cons (ie_frz (il_lst (ia_cons ie_int (ia_cons ie_int (ia_cons ie_int (ia_cons ie_int (ia_cons ie_int (ia_cons ie_int ia_nil)))))))) ia_nil))) ia_nil)) (fun _ _ _ _ _ => (ig_name 8 sc.nd)) (fun _ _ _ _ _ => its_nil) (fun _ _ _ _ _ => (ie_call c__law_pick hr (by decide) (ia_cons (ie_var 1) (ia_cons (ie_var 6) ia_nil)))))) ia_nil)) (ig_name 7 sc.nd))
    (is_cons (is_set (ie_call c__law_key hr (by decide) (ia_cons (ie_var 3) (ia_cons (ie_var 4) (ia_cons (ie_var 7) ia_nil)))) (ig_name 9 sc.nd))
    (is_cons (is_set (ie_if (it_cmp (op_eqX hr.units) eqC (nomark _) (ie_call c__law_draw hr (by decide) (ia_cons (ie_var 1) (ia_cons ie_int ia_nil))) ie_int) (ie_call c_key hr (by decide) (ia_cons (ie_var 3) (ia_cons (ie_var 4) (ia_cons (ie_var 7) ia_nil)))) (ie_callK0 c_k0_key hr (by decide) (ik_cons (ie_var 7) (ik_cons (ie_var 4) (ik_cons (ie_var 3) ik_nil))))) (ig_name 10 sc.nd))
    (is_cons (is_if (it_w (iw_or (it_not (it_tru (ie_call c__law_same hr (by decide) (ia_cons (ie_var 10) (ia_cons (ie_var 9) ia_nil))))) (iw_or1 (it_not (it_tru (ie_call c__law_same hr (by decide) (ia_cons (ie_call c_key hr (by decide) (ia_cons (ie_var 3) (ia_cons (ie_not (ie_var 4)) (ia_cons (ie_var 7) ia_nil)))) (ia_cons (ie_call c__law_key hr (by decide) (ia_cons (ie_var 3) (ia_cons (ie_not (ie_var 4)) (ia_cons (ie_var 7) ia_nil)))) ia_nil))))))))
      (is_one (is_ret ie_bl))
      is_nil)
    (is_cons (is_if (it_not (it_tru (ie_call c__law_same hr (by decide) (ia_cons (ie_call c_key hr (by decide) (ia_cons (ie_var 3) (ia_cons (ie_var 4) (ia_cons (ie_call c__law_alike hr (by decide) (ia_cons (ie_var 1) (ia_cons (ie_var 3) (ia_cons (ie_var 7) ia_nil)))) ia_nil)))) (ia_cons (ie_var 9) ia_nil)))))
      (is_one (is_ret ie_bl))
      is_nil)
    (is_cons (is_set (ie_call c__law_draw hr (by decide) (ia_cons (ie_var 1) (ia_cons (ie_op op_addX addC (ie_callB call_lenX lenC B.b_len (by decide +kernel) (ia_cons (ie_var 7) ia_nil)) ie_int) ia_nil))) (ig_name 11 sc.nd))
    (is_cons (is_par (i := 12) (j := 13) rfl sc.nd (ia_cons (ie_call c_key hr (by decide) (ia_cons (ie_var 3) (ia_cons (ie_var 4) (ia_cons (ie_slice (ie_var 7) io_no (io_p (ie_var 11))) ia_nil)))) (ia_cons (ie_call c_key hr (by decide) (ia_cons (ie_var 3) (ia_cons (ie_var 4) (ia_cons (ie_slice (ie_var 7) (io_p (ie_var 11)) io_no) ia_nil)))) ia_nil)))
    (is_cons (is_set (ie_if (it_w (iw_and (it_tru (ie_var 4)) (iw_and (it_cmp (op_neX hr.units) neC (nomark _) (ie_var 12) ie_str) (iw_and (it_cmp (op_neX hr.units) neC (nomark _) (ie_var 13) ie_str) (iw_and1 (it_cmp (op_eqX hr.units) eqC (nomark _) (ie_ix (ix_X hu) ixC (ie_var 12) (ie_un un_neg negC ie_int)) (ie_ix (ix_X hu) ixC (ie_var 13) ie_int))))))) ie_int ie_int) (ig_name 14 sc.nd))
    (is_one (is_if (it_cmp (op_neX hr.units) neC (nomark _) (ie_op op_addX addC (ie_var 12) (ie_slice (ie_var 13) (io_p (ie_var 14)) io_no)) (ie_var 9))
      (is_one (is_ret ie_bl))
      is_nil))))))))))))
    (is_one (is_ret (ie_call c__law_same hr (by decide) (ia_cons (ie_call c_key hr (by decide) (ia_cons (ie_tup ia_nil) (ia_cons (ie_var 4) (ia_cons (ie_var 2) ia_nil)))) (ia_cons (ie_var 2) ia_nil))))))))))
end
theorem all_mk {l : PySem.W.OpenLaw} {w : World} {K : PySem.W.Frag} {h : Heap} {mg : Str → Option Value} {fa : Addr} (X : K.In h) (G : h.Ns mainGlobals mg) (hfa : mg "law" = some (.ref fa))
    {f1 f2 f3 f4 f5 f6 f7 f8 f9 f10 f11 f12 f13 f14 : Addr} {od1 an1 od2 an2 od3 an3 od4 an4 od5 an5 od6 an6 od7 an7 od8 an8 od9 an9 od10 an10 od11 an11 od12 an12 od13 an13 od14 an14 : Option Addr} {sl1 sl2 sl3 sl4 sl5 sl6 sl7 sl8 sl9 sl10 sl11 sl12 sl13 sl14 : Array (Option Value)} {oc1 kV1 dc1 pm1 cd1 ct1 oc2 kV2 dc2 pm2 cd2 ct2 oc3 kV3 dc3 pm3 cd3 ct3 oc4 kV4 dc4 pm4 cd4 ct4 oc5 kV5 dc5 pm5 cd5 ct5 oc6 kV6 dc6 pm6 cd6 ct6 oc7 kV7 dc7 pm7 cd7 ct7 oc8 kV8 dc8 pm8 cd8 ct8 oc9 kV9 dc9 pm9 cd9 ct9 oc10 kV10 dc10 pm10 cd10 ct10 oc11 kV11 dc11 pm11 cd11 ct11 oc12 kV12 dc12 pm12 cd12 ct12 oc13 kV13 dc13 pm13 cd13 ct13 oc14 kV14 dc14 pm14 cd14 ct14 : Value}
    (a1 : PySem.W.nsIn K mainGlobals "sign_of" = some (some (.ref f1))) (l1 : K.lookup f1 = some ⟨oc1, od1, .func (PySem.W.fnOf "sign_of" "sign_of" (defArgs s_sign_of) (defBody s_sign_of) (defScope s_sign_of) .none kV1 dc1 pm1 an1 cd1 ct1), sl1⟩) (c1 : PySem.W.codeIn K cd1 "sign_of" = true) (k1 : PySem.W.keepIn K (.ref f1) = true)
    (a2 : PySem.W.nsIn K mainGlobals "key_behind" = some (some (.ref f2))) (l2 : K.lookup f2 = some ⟨oc2, od2, .func (PySem.W.fnOf "key_behind" "key_behind" (defArgs s_key_behind) (defBody s_key_behind) (defScope s_key_behind) .none kV2 dc2 pm2 an2 cd2 ct2), sl2⟩) (c2 : PySem.W.codeIn K cd2 "key_behind" = true) (k2 : PySem.W.keepIn K (.ref f2) = true)
    (a3 : PySem.W.nsIn K mainGlobals "key" = some (some (.ref f3))) (l3 : K.lookup f3 = some ⟨oc3, od3, .func (PySem.W.fnOf "key" "key" (defArgs s_key) (defBody s_key) (defScope s_key) .none kV3 dc3 pm3 an3 cd3 ct3), sl3⟩) (c3 : PySem.W.codeIn K cd3 "key" = true) (k3 : PySem.W.keepIn K (.ref f3) = true)
    (a4 : PySem.W.nsIn K mainGlobals "_law_flow" = some (some (.ref f4))) (l4 : K.lookup f4 = some ⟨oc4, od4, .func (PySem.W.fnOf "_law_flow" "_law_flow" (defArgs s__law_flow) (defBody s__law_flow) (defScope s__law_flow) .none kV4 dc4 pm4 an4 cd4 ct4), sl4⟩) (c4 : PySem.W.codeIn K cd4 "_law_flow" = true) (k4 : PySem.W.keepIn K (.ref f4) = true)
    (a5 : PySem.W.nsIn K mainGlobals "_law_draw" = some (some (.ref f5))) (l5 : K.lookup f5 = some ⟨oc5, od5, .func (PySem.W.fnOf "_law_draw" "_law_draw" (defArgs s__law_draw) (defBody s__law_draw) (defScope s__law_draw) .none kV5 dc5 pm5 an5 cd5 ct5), sl5⟩) (c5 : PySem.W.codeIn K cd5 "_law_draw" = true) (k5 : PySem.W.keepIn K (.ref f5) = true)
    (a6 : PySem.W.nsIn K mainGlobals "_law_pick" = some (some (.ref f6))) (l6 : K.lookup f6 = some ⟨oc6, od6, .func (PySem.W.fnOf "_law_pick" "_law_pick" (defArgs s__law_pick) (defBody s__law_pick) (defScope s__law_pick) .none kV6 dc6 pm6 an6 cd6 ct6), sl6⟩) (c6 : PySem.W.codeIn K cd6 "_law_pick" = true) (k6 : PySem.W.keepIn K (.ref f6) = true)
    (a7 : PySem.W.nsIn K mainGlobals "_law_shuffled" = some (some (.ref f7))) (l7 : K.lookup f7 = some ⟨oc7, od7, .func (PySem.W.fnOf "_law_shuffled" "_law_shuffled" (defArgs s__law_shuffled) (defBody s__law_shuffled) (defScope s__law_shuffled) .none kV7 dc7 pm7 an7 cd7 ct7), sl7⟩) (c7 : PySem.W.codeIn K cd7 "_law_shuffled" = true) (k7 : PySem.W.keepIn K (.ref f7) = true)
    (a8 : PySem.W.nsIn K mainGlobals "_law_some" = some (some (.ref f8))) (l8 : K.lookup f8 = some ⟨oc8, od8, .func (PySem.W.fnOf "_law_some" "_law_some" (defArgs s__law_some) (defBody s__law_some) (defScope s__law_some) .none kV8 dc8 pm8 an8 cd8 ct8), sl8⟩) (c8 : PySem.W.codeIn K cd8 "_law_some" = true) (k8 : PySem.W.keepIn K (.ref f8) = true)
    (a9 : PySem.W.nsIn K mainGlobals "_law_same" = some (some (.ref f9))) (l9 : K.lookup f9 = some ⟨oc9, od9, .func (PySem.W.fnOf "_law_same" "_law_same" (defArgs s__law_same) (defBody s__law_same) (defScope s__law_same) .none kV9 dc9 pm9 an9 cd9 ct9), sl9⟩) (c9 : PySem.W.codeIn K cd9 "_law_same" = true) (k9 : PySem.W.keepIn K (.ref f9) = true)
    (a10 : PySem.W.nsIn K mainGlobals "_law_alphabet" = some (some (.ref f10))) (l10 : K.lookup f10 = some ⟨oc10, od10, .func (PySem.W.fnOf "_law_alphabet" "_law_alphabet" (defArgs s__law_alphabet) (defBody s__law_alphabet) (defScope s__law_alphabet) .none kV10 dc10 pm10 an10 cd10 ct10), sl10⟩) (c10 : PySem.W.codeIn K cd10 "_law_alphabet" = true) (k10 : PySem.W.keepIn K (.ref f10) = true)
    (a11 : PySem.W.nsIn K mainGlobals "_law_rules" = some (some (.ref f11))) (l11 : K.lookup f11 = some ⟨oc11, od11, .func (PySem.W.fnOf "_law_rules" "_law_rules" (defArgs s__law_rules) (defBody s__law_rules) (defScope s__law_rules) .none kV11 dc11 pm11 an11 cd11 ct11), sl11⟩) (c11 : PySem.W.codeIn K cd11 "_law_rules" = true) (k11 : PySem.W.keepIn K (.ref f11) = true)
    (a12 : PySem.W.nsIn K mainGlobals "_law_key" = some (some (.ref f12))) (l12 : K.lookup f12 = some ⟨oc12, od12, .func (PySem.W.fnOf "_law_key" "_law_key" (defArgs s__law_key) (defBody s__law_key) (defScope s__law_key) .none kV12 dc12 pm12 an12 cd12 ct12), sl12⟩) (c12 : PySem.W.codeIn K cd12 "_law_key" = true) (k12 : PySem.W.keepIn K (.ref f12) = true)
    (a13 : PySem.W.nsIn K mainGlobals "_law_alike" = some (some (.ref f13))) (l13 : K.lookup f13 = some ⟨oc13, od13, .func (PySem.W.fnOf "_law_alike" "_law_alike" (defArgs s__law_alike) (defBody s__law_alike) (defScope s__law_alike) .none kV13 dc13 pm13 an13 cd13 ct13), sl13⟩) (c13 : PySem.W.codeIn K cd13 "_law_alike" = true) (k13 : PySem.W.keepIn K (.ref f13) = true)
    (a14 : PySem.W.nsIn K mainGlobals "law" = some (some (.ref f14))) (l14 : K.lookup f14 = some ⟨oc14, od14, .func (PySem.W.fnOf "law" "law" (defArgs s_law) (defBody s_law) (defScope s_law) .none kV14 dc14 pm14 an14 cd14 ct14), sl14⟩) (c14 : PySem.W.codeIn K cd14 "law" = true) (k14 : PySem.W.keepIn K (.ref f14) = true)
    (z_abs : PySem.W.nsIn K mainGlobals "abs" = some none)
    (z_bool : PySem.W.nsIn K mainGlobals "bool" = some none)
    (z_int : PySem.W.nsIn K mainGlobals "int" = some none)
    (z_isinstance : PySem.W.nsIn K mainGlobals "isinstance" = some none)
    (z_len : PySem.W.nsIn K mainGlobals "len" = some none)
    (z_list : PySem.W.nsIn K mainGlobals "list" = some none)
    (z_min : PySem.W.nsIn K mainGlobals "min" = some none)
    (z_range : PySem.W.nsIn K mainGlobals "range" = some none)
    (z_sorted : PySem.W.nsIn K mainGlobals "sorted" = some none)
    (z_str : PySem.W.nsIn K mainGlobals "str" = some none)
    (z_tuple : PySem.W.nsIn K mainGlobals "tuple" = some none)
    : ∃ fd : FuncData, (∀ (s : Shared) (v : Value), BindsTo s fd ⟨[v], []⟩ [("script", v)]) ∧ ∀ base : Heap, K.In base → base.Ns mainGlobals mg → FnOk l.prog w K mg base CX0 5 fa fd ["script"] (spF K m_law) := by
  have e := hfa.symm.trans (PySem.W.mg_of X G a14)
  cases e
  have B : Bs mg := ⟨PySem.W.mg_none_of X G z_abs, PySem.W.mg_none_of X G z_bool, PySem.W.mg_none_of X G z_int, PySem.W.mg_none_of X G z_isinstance, PySem.W.mg_none_of X G z_len, PySem.W.mg_none_of X G z_list, PySem.W.mg_none_of X G z_min, PySem.W.mg_none_of X G z_range, PySem.W.mg_none_of X G z_sorted, PySem.W.mg_none_of X G z_str, PySem.W.mg_none_of X G z_tuple⟩
  have F1 := fun_mk (st := s_sign_of) l1 c1 k1
  have F2 := fun_mk (st := s_key_behind) l2 c2 k2
  have F3 := fun_mk (st := s_key) l3 c3 k3
  have F4 := fun_mk (st := s__law_flow) l4 c4 k4
  have F5 := fun_mk (st := s__law_draw) l5 c5 k5
  have F6 := fun_mk (st := s__law_pick) l6 c6 k6
  have F7 := fun_mk (st := s__law_shuffled) l7 c7 k7
  have F8 := fun_mk (st := s__law_some) l8 c8 k8
  have F9 := fun_mk (st := s__law_same) l9 c9 k9
  have F10 := fun_mk (st := s__law_alphabet) l10 c10 k10
  have F11 := fun_mk (st := s__law_rules) l11 c11 k11
  have F12 := fun_mk (st := s__law_key) l12 c12 k12
  have F13 := fun_mk (st := s__law_alike) l13 c13 k13
  have F14 := fun_mk (st := s_law) l14 c14 k14
  refine ⟨PySem.W.fnOf "law" "law" (defArgs s_law) (defBody s_law) (defScope s_law) .none kV14 dc14 pm14 an14 cd14 ct14, fun s v => .of_eq rfl, fun base _ _ => ?_⟩
  have b1 := F1.binds (ps := ["rules", "letter"]) fun _ _ _ _ _ _ us hl => match us, hl with | [_, _], _ => rfl
  have o1 : FnOk l.prog w K mg base CX0 1 f1 _ ["rules", "letter"] (spF K m_sign_of) := ok_sign_of F1 B 
  have c_sign_of := fn_m F1 (PySem.W.mg_of X G a1) b1 o1
  have b2 := F2.binds (ps := ["rules", "doubled", "begun", "typed"]) fun _ _ _ _ _ _ us hl => match us, hl with | [_, _, _, _], _ => rfl
  have o2 : FnOk l.prog w K mg base CX0 2 f2 _ ["rules", "doubled", "begun", "typed"] (spF K m_key_behind) := ok_key_behind F2 B c_sign_of
  have c_key_behind := fn_m F2 (PySem.W.mg_of X G a2) b2 o2
  have b3 := F3.binds (ps := ["rules", "doubled", "word"]) fun _ _ _ _ _ _ us hl => match us, hl with | [_, _, _], _ => rfl
  have o3 : FnOk l.prog w K mg base CX0 3 f3 _ ["rules", "doubled", "word"] (spF K m_key) := ok_key F3 B c_key_behind
  have c_key := fn_m F3 (PySem.W.mg_of X G a3) b3 o3
  have c_k0_key := fn_k (n := 0) (m := 3) (ks := ["word", "doubled", "rules"]) (perm := [2, 1, 0]) F3 (PySem.W.mg_of X G a3) (by simp) (fun _ _ _ _ _ _ us ws h1 h2 => match us, ws, h1, h2 with | [], [_, _, _], _, _ => rfl) o3
  have b4 := F4.binds (ps := ["script"]) fun _ _ _ _ _ _ us hl => match us, hl with | [_], _ => rfl
  have o4 : FnOk l.prog w K mg base CX0 1 f4 _ ["script"] (spF K m__law_flow) := ok__law_flow F4 B 
  have c__law_flow := fn_m F4 (PySem.W.mg_of X G a4) b4 o4
  have b5 := F5.binds (ps := ["flow", "many"]) fun _ _ _ _ _ _ us hl => match us, hl with | [_, _], _ => rfl
  have o5 : FnOk l.prog w K mg base CX0 1 f5 _ ["flow", "many"] (spF K m__law_draw) := ok__law_draw F5 B 
  have c__law_draw := fn_m F5 (PySem.W.mg_of X G a5) b5 o5
  have b6 := F6.binds (ps := ["flow", "some"]) fun _ _ _ _ _ _ us hl => match us, hl with | [_, _], _ => rfl
  have o6 : FnOk l.prog w K mg base CX0 2 f6 _ ["flow", "some"] (spF K m__law_pick) := ok__law_pick F6 B c__law_draw
  have c__law_pick := fn_m F6 (PySem.W.mg_of X G a6) b6 o6
  have b7 := F7.binds (ps := ["flow", "some"]) fun _ _ _ _ _ _ us hl => match us, hl with | [_, _], _ => rfl
  have o7 : FnOk l.prog w K mg base CX0 2 f7 _ ["flow", "some"] (spF K m__law_shuffled) := ok__law_shuffled F7 B c__law_draw
  have c__law_shuffled := fn_m F7 (PySem.W.mg_of X G a7) b7 o7
  have b8 := F8.binds (ps := ["flow", "some", "least", "most"]) fun _ _ _ _ _ _ us hl => match us, hl with | [_, _, _, _], _ => rfl
  have o8 : FnOk l.prog w K mg base CX0 3 f8 _ ["flow", "some", "least", "most"] (spF K m__law_some) := ok__law_some F8 B c__law_shuffled c__law_draw
  have c__law_some := fn_m F8 (PySem.W.mg_of X G a8) b8 o8
  have b9 := F9.binds (ps := ["told", "due"]) fun _ _ _ _ _ _ us hl => match us, hl with | [_, _], _ => rfl
  have o9 : FnOk l.prog w K mg base CX0 3 f9 _ ["told", "due"] (spF K (m__law_same 2)) := ok__law_same F9 B (PySem.W.mg_of X G a9) b9  2
  have c__law_same := fn_m F9 (PySem.W.mg_of X G a9) b9 o9
  have b10 := F10.binds (ps := ["flow", "many", "blank"]) fun _ _ _ _ _ _ us hl => match us, hl with | [_, _, _], _ => rfl
  have o10 : FnOk l.prog w K mg base CX0 4 f10 _ ["flow", "many", "blank"] (spF K m__law_alphabet) := ok__law_alphabet F10 B c__law_some
  have c__law_alphabet := fn_m F10 (PySem.W.mg_of X G a10) b10 o10
  have b11 := F11.binds (ps := ["flow", "letters"]) fun _ _ _ _ _ _ us hl => match us, hl with | [_, _], _ => rfl
  have o11 : FnOk l.prog w K mg base CX0 3 f11 _ ["flow", "letters"] (spF K m__law_rules) := ok__law_rules F11 B c__law_shuffled c__law_draw c__law_pick
  have c__law_rules := fn_m F11 (PySem.W.mg_of X G a11) b11 o11
  have b12 := F12.binds (ps := ["rules", "doubled", "word"]) fun _ _ _ _ _ _ us hl => match us, hl with | [_, _, _], _ => rfl
  have o12 : FnOk l.prog w K mg base CX0 1 f12 _ ["rules", "doubled", "word"] (spF K m__law_key) := ok__law_key F12 B 
  have c__law_key := fn_m F12 (PySem.W.mg_of X G a12) b12 o12
  have b13 := F13.binds (ps := ["flow", "rules", "word"]) fun _ _ _ _ _ _ us hl => match us, hl with | [_, _, _], _ => rfl
  have o13 : FnOk l.prog w K mg base CX0 3 f13 _ ["flow", "rules", "word"] (spF K m__law_alike) := ok__law_alike F13 B c__law_draw c__law_pick
  have c__law_alike := fn_m F13 (PySem.W.mg_of X G a13) b13 o13
  have b14 := F14.binds (ps := ["script"]) fun _ _ _ _ _ _ us hl => match us, hl with | [_], _ => rfl
  exact ok_law F14 B c__law_flow c__law_alphabet c__law_rules c__law_same c__law_draw c__law_key c_key c__law_some c__law_pick c__law_alike c_k0_key
end G68

namespace G68
open PySem PySem.Spec PyProof.Rows L2 Md
theorem draw_ok {F : Ob} {S : Store} {n : Int} (hF : FlowOk F) (h0 : 0 < n) (h1 : n < 1073741824) : Ev (callD m__law_draw [.loc 0, .int n] (F :: S)) fun d S1 => ∃ i F', d = .int i ∧ 0 ≤ i ∧ i < n ∧ FlowOk F' ∧ S1 = F' :: S := by
  refine Ev.call1 hF.locs (by simp) ?_
  obtain ⟨a, p, q, r, cs, rfl, hc, hl, hq⟩ := hF
  have hcs : 0 < cs.length := List.length_pos_iff.mpr hc
  obtain ⟨c0, e0⟩ := cell_at (cs := cs) (i := 0) (by omega) (by omega)
  have fin : ∀ x : Int, 0 ≤ x % n ∧ x % n < n := fun x => ⟨Int.emod_nonneg _ (by omega), Int.emod_lt_of_pos _ h0⟩
  have hpow : CPow 10 18 := by decide
  have ok1 : ∀ a p q r, 0 ≤ q → FlowOk (fl a p q r cs) := fun a p q r h => ⟨a, p, q, r, cs, rfl, hc, hl, h⟩
  have cm : ∀ x : Int, ∀ k : Int, 0 ≤ k → k < 18446744073709551616 → CMul x k := fun x k h1 h2 => .inr ⟨by omega, by omega⟩
  unfold m__law_draw
  rw [ev_def]
  refine ⟨rfl, ?_⟩
  refine Ev.sq (fun e S1 => e = [some (.loc 0), some (.int n), none, none, none, none, none] ∧ S1 = [fl a p q (r + 1) cs]) (by simp) fun e S1 h => ?_
  obtain ⟨rfl, rfl⟩ := h
  refine Ev.sq (fun e S1 => e = [some (.loc 0), some (.int n), some (.lst (cs.map .int)), none, none, none, none] ∧ S1 = [fl a p q (r + 1) cs]) (by simp) fun e S1 h => ?_
  obtain ⟨rfl, rfl⟩ := h
  refine Ev.sq (fun e S1 => e = [some (.loc 0), some (.int n), some (.lst (cs.map .int)), none, none, none, none] ∧ ∃ a p q, 0 ≤ q ∧ S1 = [fl a p q (r + 1) cs]) ?_ fun e S1 h => ?_
  · by_cases hp : p = 0
    · by_cases hd : c0 % 2 = 0
      · by_cases hq2 : q < cs.length
        · obtain ⟨c3, e3⟩ := cell_at (cs := cs) hq hq2
          by_cases hb : 1000000000000000000 ≤ c3
          · simp [hp, e0, e3, hpow, hd, hq2, hb]
            exact ⟨_, _, _, (by omega : 0 ≤ q + 1), rfl⟩
          · simp [hp, e0, e3, hpow, hd, hq2, hb]
            exact ⟨_, _, _, hq, rfl⟩
        · simp [hp, e0, hpow, hd, hq2]
          exact ⟨_, _, _, hq, rfl⟩
      · simp [hp, e0, hpow, hd]
        exact ⟨_, _, _, hq, rfl⟩
    · simp [hp, e0, hpow]
      exact ⟨_, _, _, hq, rfl⟩
  clear hq
  obtain ⟨rfl, a, p, q, hq, rfl⟩ := h
  refine Ev.seq (R := fun o S1 => (o = .nx [some (.loc 0), some (.int n), some (.lst (cs.map .int)), none, none, none, none] ∧ S1 = [fl a p q (r + 1) cs]) ∨ ∃ i F', o = .ret (.int i) ∧ 0 ≤ i ∧ i < n ∧ FlowOk F' ∧ S1 = [F']) ?_ fun o S1 h => ?_
  · by_cases hp : 0 < p
    · simp [hp, h0, h1]
      have := fin a
      exact ⟨.inr ⟨by split <;> decide, by split <;> decide⟩, this.1, this.2, ok1 _ _ _ _ hq⟩
    · simp [hp]
  rcases h with ⟨rfl, rfl⟩ | ⟨i, F', rfl, h2, h3, h4, rfl⟩
  · have hm := Int.emod_nonneg (r + 1) (b := (cs.length : Int)) (by omega)
    have hm2 := Int.emod_lt_of_pos (r + 1) (b := (cs.length : Int)) (by omega)
    obtain ⟨c1, e1⟩ := cell_at (cs := cs) hm hm2
    obtain ⟨c2, e2⟩ := cell_at (cs := cs) (i := if (cs.length : Int) - 1 < q then (cs.length : Int) - 1 else q) (by split <;> omega) (by split <;> omega)
    simp [hcs, e1, e2, hpow]
    have cs1 : ∀ x y : Int, ∀ k : Int, 0 < k → k < 18446744073709551616 → CMul (x % k) (y % k) := fun x y k h1 h2 => cm _ _ (Int.emod_nonneg _ (by omega)) (by have := Int.emod_lt_of_pos y h1; omega)
    refine ⟨cm _ _ (by omega) (by omega), cm _ _ (by omega) (by omega), cs1 _ _ _ (by omega) (by omega), cm _ _ (by omega) (by omega), cs1 _ _ _ (by omega) (by omega), h0, (fin _).1, (fin _).2, ok1 _ _ _ _ ?_⟩
    split <;> omega
  · simp [h2, h3, h4, h4.locs]
end G68

namespace G68
open PySem PySem.Spec PyProof.Rows L2 Md
theorem pick_ok {F : Ob} {S : Store} {xs : List D} (hF : FlowOk F) (h0 : xs ≠ []) (h1 : xs.length < 1000000000) (hx : locsL xs = []) : Ev (callD m__law_pick [.loc 0, .lst xs] (F :: S)) fun d S1 => ∃ F', d ∈ xs ∧ FlowOk F' ∧ S1 = F' :: S := by
  have hl := List.length_pos_iff.mpr h0
  refine Ev.call1 hF.locs (by simp [hx]) ?_
  unfold m__law_pick
  rw [ev_def]
  refine ⟨rfl, ?_⟩
  simp
  refine (draw_ok hF (by omega) (by omega)).imp fun d S1 q => ?_
  obtain ⟨i, F', rfl, h2, h3, h4, rfl⟩ := q
  have hi : i.toNat < xs.length := by omega
  have e : xs[i.toNat]? = some xs[i.toNat] := by simp [hi]
  rw [ixD_lst (atI_int h2 e)]
  simp [h4, h4.locs, locsL_inv hx]
theorem perm_erase {α : Type} : ∀ (l : List α) (k : Nat) (h : k < l.length), ([l[k]] ++ l.eraseIdx k).Perm l
  | a :: l, 0, _ => by simp
  | a :: l, k + 1, h => by
    simp only [List.getElem_cons_succ, List.eraseIdx_cons_succ]
    exact (List.Perm.swap a _ _).trans ((perm_erase l k (by simpa using h)).cons a)
theorem shuf_ok {F : Ob} {S : Store} {xs : List D} (hF : FlowOk F) (h1 : xs.length < 1000000) (hx : locsL xs = []) : Ev (callD m__law_shuffled [.loc 0, .lst xs] (F :: S)) fun d S1 => ∃ F' ys, d = .lst ys ∧ ys.Perm xs ∧ FlowOk F' ∧ S1 = F' :: S := by
  have hs := sl_big
  refine Ev.call1 hF.locs (by simp [hx]) ?_
  unfold m__law_shuffled
  rw [ev_def]
  refine ⟨rfl, ?_⟩
  simp [RgLim]
  refine ⟨by omega, by simp [rgD]; omega, ?_⟩
  refine Ev.comp (ys := []) (fun ys rest S1 => ∃ F' left, FlowOk F' ∧ S1 = [F', .lst left] ∧ (ys ++ left).Perm xs ∧ rest.length = left.length) ?_ ?_ ?_
  · rintro d ds ys S1 ⟨F', left, h4, rfl, h5, h6⟩
    have hl : left.length = ds.length + 1 := by simpa using h6.symm
    have hl2 := h5.length_eq
    simp at hl2
    simp
    refine (draw_ok (S := [.lst left]) h4 (by omega) (by omega)).imp fun d S1 q => ?_
    obtain ⟨i, F'', rfl, h2, h3, h4, rfl⟩ := q
    obtain ⟨k, rfl⟩ := Int.eq_ofNat_of_zero_le h2
    have hi : k < left.length := by omega
    have e : left[k]? = some left[k] := by simp [hi]
    rw [ev_nil, pop_l1 e (by omega), ev_ok]
    refine ⟨F'', _, h4, rfl, ?_, by rw [List.length_eraseIdx]; simp [hi]; omega⟩
    refine List.Perm.trans ?_ h5
    rw [List.append_assoc]
    exact List.Perm.append_left _ (perm_erase left k hi)
  · exact ⟨F, xs, hF, rfl, by simp, by simp [rgD]⟩
  · rintro zs S1 ⟨F', left, h4, rfl, h5, h6⟩
    have : left = [] := by cases left with | nil => rfl | cons _ _ => simp at h6
    subst this
    simp at h5
    have hz : locsL zs = [] := locsL_all fun x hx' => locsL_inv hx x (h5.mem_iff.mp hx')
    simp [h4.locs, h4, hz, h5]
theorem some_ok {F : Ob} {S : Store} {xs : List D} {lo hi : Nat} (hF : FlowOk F) (h1 : xs.length < 1000000) (hx : locsL xs = []) (h2 : lo ≤ hi) (h3 : hi < 1000000) : Ev (callD m__law_some [.loc 0, .lst xs, .int lo, .int hi] (F :: S)) fun d S1 => ∃ F', ∃ ys : List D, ∃ k : Nat, d = .lst (ys.take k) ∧ lo ≤ k ∧ k ≤ hi ∧ ys.Perm xs ∧ FlowOk F' ∧ S1 = F' :: S := by
  refine Ev.call1 hF.locs (by simp [hx]) ?_
  unfold m__law_some
  rw [ev_def]
  refine ⟨rfl, ?_⟩
  simp
  refine (shuf_ok hF h1 hx).imp fun d S1 q => ?_
  obtain ⟨F', ys, rfl, hp, h4, rfl⟩ := q
  simp
  refine (draw_ok h4 (by omega) (by omega)).imp fun d S1 q => ?_
  obtain ⟨i, F'', rfl, h5, h6, h7, rfl⟩ := q
  obtain ⟨k, rfl⟩ := Int.eq_ofNat_of_zero_le h5
  have e : (lo : Int) + (k : Int) = ((lo + k : Nat) : Int) := by omega
  simp only [ev_nil, addD_int, ev_ok]
  rw [e, slD_lst, cutL_to]
  have hz : locsL (ys.take (lo + k)) = [] := locsL_all fun x hx' => locsL_inv hx x (hp.mem_iff.mp (List.mem_of_mem_take hx'))
  simp [h7, h7.locs, hz]
  exact ⟨F'', ys, lo + k, rfl, by omega, by omega, hp, h7, rfl⟩
end G68

namespace G68
open PySem PySem.Spec PyProof.Rows L2 Md
def alpha : List Nat := (List.range 26).map (97 + ·)
theorem lit_alpha : D.str "abcdefghijklmnopqrstuvwxyz" = st alpha := by rfl
theorem lit_us : D.str "_" = st [95] := by rfl
theorem lit_z : D.str "z" = st [122] := by rfl
theorem lit_e : D.str "" = st [] := by rfl
/-- letters of a machine -/
def LetOk (cs : List Nat) : Prop := cs.Nodup ∧ 1 ≤ cs.length ∧ cs.length ≤ 8 ∧ ∀ c ∈ cs, c < 128
theorem alphabet_ok {F : Ob} {S : Store} {m : Nat} {b : Bool} (hF : FlowOk F) (h1 : 1 ≤ m) (h2 : m ≤ 8) : Ev (callD m__law_alphabet [.loc 0, .int m, .bl b] (F :: S)) fun d S1 => ∃ F' cs, d = st cs ∧ LetOk cs ∧ FlowOk F' ∧ S1 = F' :: S := by
  have hs := sl_big
  refine Ev.call1 hF.locs (by simp) ?_
  unfold m__law_alphabet
  rw [ev_def]
  refine ⟨rfl, ?_⟩
  obtain ⟨k, hk, hk2⟩ : ∃ k : Nat, (if b = true then 1 else 0 : Int) = k ∧ k ≤ 1 := by
    cases b
    · exact ⟨0, rfl, by omega⟩
    · exact ⟨1, rfl, by omega⟩
  have e1 : (m : Int) - (k : Int) = ((m - k : Nat) : Int) := by omega
  simp [lit_alpha, lit_us, lit_e, hk, e1, RgOk]
  refine ⟨by omega, ?_⟩
  rw [mulD_lst (by simp; omega) (by omega)]
  simp [hk, e1]
  refine ⟨by decide, ?_⟩
  refine (some_ok hF (by simp [rgD]) (locsL_all fun x hx => ?_) (Nat.le_refl _) (by omega)).imp fun d S1 q => ?_
  · obtain ⟨i, _, rfl⟩ := List.mem_map.mp hx; simp
  obtain ⟨F', ys, j, rfl, hj1, hj2, hp, h4, rfl⟩ := q
  have : j = m - k := by omega
  subst this
  obtain ⟨zs, hz, rfl⟩ := perm_map_inv hp rfl
  rw [← List.map_take]
  have hzm : ∀ i ∈ zs.take (m - k), i < 26 := fun i hi => List.mem_range.mp (hz.mem_iff.mp (List.mem_of_mem_take hi))
  have hzl : (zs.take (m - k)).length = m - k := by
    have := hz.length_eq
    simp at this ⊢
    omega
  generalize hus : zs.take (m - k) = us at hzm hzl ⊢
  have hnd : us.Nodup := hus ▸ List.Sublist.nodup (List.take_sublist _ _) (hz.nodup_iff.mpr List.nodup_range)
  simp
  refine ⟨by omega, ?_⟩
  refine Ev.compP (c := fun _ => true) (y := fun i => st [97 + i]) ?_ ?_
  · intro i hi
    refine ⟨_, bindP_nm, ?_⟩
    have hi := hzm i hi
    have e : alpha[i]? = some (97 + i) := by simp [alpha, hi]
    simp
    rw [ixD_st (by rw [alpha]; simp; omega) (Md.atI_nat e)]
    simp
  · have e3 : us.map (fun i => st [97 + i]) = sgs (us.map (97 + ·)) := by unfold sgs; rw [List.map_map]; rfl
    have e4 : List.replicate k (st [95]) = sgs (List.replicate k 95) := by unfold sgs; rw [List.map_replicate]
    rw [List.filter_eq_self.mpr (fun _ _ => rfl), e3, e4, ← sgs_app]
    obtain ⟨ds, hd, e5⟩ := sort_sgs (cs := List.replicate k 95 ++ us.map (97 + ·)) (S := [F']) (by simp; omega)
    simp [e5, isTy_str, lit_e]
    rw [join_sgs (by rw [hd.length_eq]; simp; omega)]
    refine ⟨by omega, ?_⟩
    simp [h4, h4.locs]
    have hl := hd.length_eq
    simp at hl
    refine ⟨hd.nodup_iff.mpr ?_, by omega, by omega, fun c hc => ?_⟩
    · rw [List.nodup_append]
      refine ⟨?_, ?_, ?_⟩
      · have : k = 0 ∨ k = 1 := by omega
        rcases this with rfl | rfl <;> simp
      · exact List.Pairwise.map _ (fun a b h => by omega) hnd
      · intro a ha b hb e
        obtain ⟨i, hi, rfl⟩ := List.mem_map.mp hb
        have := (List.mem_replicate.mp ha).2
        omega
    · have hc := hd.mem_iff.mp hc
      rcases List.mem_append.mp hc with hc | hc
      · have := (List.mem_replicate.mp hc).2
        omega
      · obtain ⟨i, hi, rfl⟩ := List.mem_map.mp hc
        have := hzm i hi
        omega
end G68

namespace G68
open PySem PySem.Spec PyProof.Rows L2 Md
/-- a rule: its letters, its sign -/
abbrev Rl := List Nat × List Nat
def rD (r : Rl) : D := .tup [st r.1, st r.2]
theorem rD_locs (rs : List Rl) : locsL (rs.map rD) = [] := locsL_all fun x hx => by obtain ⟨r, _, rfl⟩ := List.mem_map.mp hx; simp [rD]
/-- rules, of letters that are not in lf -/
structure RsOk (rs : List Rl) (lf : List Nat) : Prop where
  nd : (rs.flatMap (·.1) ++ lf).Nodup
  ne : ∀ r ∈ rs, r.1 ≠ []
  sg : ∀ r ∈ rs, r.2.length ≤ 1
  lt : ∀ c ∈ rs.flatMap (·.1) ++ lf, c < 128
  ls : ∀ r ∈ rs, ∀ c ∈ r.2, c < 128
  tot : (rs.flatMap (·.1) ++ lf).length ≤ 8
theorem RsOk.add {rs : List Rl} {lf ds sg : List Nat} {m : Nat} (h : RsOk rs lf) (hd : ds.Perm (lf.take m)) (hm : lf.take m ≠ []) (h1 : sg.length ≤ 1) (h2 : ∀ c ∈ sg, c < 128) : RsOk (rs ++ [(ds, sg)]) (lf.drop m) := by
  have p : ((rs ++ [(ds, sg)]).flatMap (·.1) ++ lf.drop m).Perm (rs.flatMap (·.1) ++ lf) := by
    rw [List.flatMap_append, List.append_assoc]
    refine List.Perm.append_left _ ?_
    simp
    refine (hd.append_right _).trans ?_
    rw [List.take_append_drop]
  refine ⟨p.nodup_iff.mpr h.nd, ?_, ?_, fun c hc => h.lt c (p.mem_iff.mp hc), ?_, by rw [p.length_eq]; exact h.tot⟩
  · intro r hr
    rcases List.mem_append.mp hr with hr | hr
    · exact h.ne r hr
    · cases List.mem_singleton.mp hr
      intro e
      have e : ds = [] := e
      rw [e] at hd
      exact hm hd.nil_eq.symm
  · intro r hr
    rcases List.mem_append.mp hr with hr | hr
    · exact h.sg r hr
    · cases List.mem_singleton.mp hr; exact h1
  · intro r hr
    rcases List.mem_append.mp hr with hr | hr
    · exact h.ls r hr
    · cases List.mem_singleton.mp hr; exact h2
theorem RsOk.drop {rs : List Rl} {lf : List Nat} (h : RsOk rs lf) : RsOk rs [] :=
  ⟨by rw [List.append_nil]; exact (List.nodup_append.mp h.nd).1, h.ne, h.sg, fun c hc => h.lt c (by rw [List.append_nil] at hc; exact List.mem_append_left _ hc), h.ls, by have := h.tot; simp at this ⊢; omega⟩
inductive RInv (cs : List Nat) : List D → Md.Env → Store → Prop
  | mk {lf : List Nat} {F : Ob} {rs : List Rl} {x4 x5 x6 x7 : Option D} {rest : List D} (hF : FlowOk F) (hr : RsOk rs lf) (hn : rs.length + rest.length ≤ 9) (hl : lf.length ≤ 8) :
    RInv cs rest [some (.loc 0), some (st cs), some (.lst (sgs lf)), some (.loc 1), x4, x5, x6, x7] [F, .lst (rs.map rD)]
theorem rules_ok {F : Ob} {S : Store} {cs : List Nat} (hF : FlowOk F) (hc : LetOk cs) : Ev (callD m__law_rules [.loc 0, st cs] (F :: S)) fun d S1 => ∃ F', ∃ rs : List Rl, d = .tup (rs.map rD) ∧ RsOk rs [] ∧ FlowOk F' ∧ S1 = F' :: S := by
  have hs := sl_big
  obtain ⟨hc1, hc2, hc3, hc4⟩ := hc
  refine Ev.call1 hF.locs (by simp) ?_
  unfold m__law_rules
  rw [ev_def]
  refine ⟨rfl, ?_⟩
  have hls : listF [st cs] [F] = some (sgs cs) := by rw [listF_st', if_pos (by omega)]
  simp [hls]
  refine (shuf_ok hF (by simp; omega) (sgs_locs _)).imp fun d S1 q => ?_
  obtain ⟨F1, ys, rfl, hp, h4, rfl⟩ := q
  obtain ⟨lf, hlf, rfl⟩ := perm_map_inv hp rfl
  simp
  refine (draw_ok h4 (by omega) (by omega)).imp fun d S1 q => ?_
  obtain ⟨i, F2, rfl, h5, h6, h7, rfl⟩ := q
  obtain ⟨k, rfl⟩ := Int.eq_ofNat_of_zero_le h5
  simp [RgLim]
  refine ⟨by omega, ?_⟩
  refine Ev.for (RInv cs) ?_ ?_ ?_
  · intro d rest env S1 h
    obtain ⟨hF, hr, hn, hl⟩ := h
    rename_i lf F rs x4 x5 x6 x7
    refine ⟨_, bindP_nm, ?_⟩
    have hlt : ∀ c ∈ lf, c < 128 := fun c hc => hr.lt c (List.mem_append_right _ hc)
    have hn' : rs.length + rest.length ≤ 8 := by simp at hn; omega
    by_cases hlf : lf = []
    · have he : lf.isEmpty = true := by simp [hlf]
      simp [neD_sgs hlt, he]
      exact .mk hF hr (by omega) hl
    have hpos := List.length_pos_iff.mpr hlf
    have he : lf.isEmpty = false := by simp [hlf]
    simp [neD_sgs hlt, he]
    refine Ev.imp (draw_ok hF ?_ ?_) fun d S1 q => ?_
    · split <;> omega
    · split <;> omega
    obtain ⟨i, F3, rfl, h5, h6, h7, rfl⟩ := q
    obtain ⟨j, rfl⟩ := Int.eq_ofNat_of_zero_le h5
    have hj : 1 + j ≤ lf.length := by split at h6 <;> omega
    obtain ⟨m, e, hm1, hm2⟩ : ∃ m : Nat, (1 : Int) + (j : Int) = (m : Int) ∧ 1 ≤ m ∧ m ≤ lf.length := ⟨1 + j, by omega, by omega, hj⟩
    have hq1 : lf.take m ≠ [] := fun z => by have := congrArg List.length z; rw [List.length_take, Nat.min_eq_left hm2, List.length_nil] at this; omega
    obtain ⟨c0, hc0⟩ : ∃ c, (lf.take m)[0]? = some c := ⟨(lf.take m)[0]'(List.length_pos_iff.mpr hq1), List.getElem?_eq_getElem _⟩
    obtain ⟨c9, hc9⟩ : ∃ c, (lf.take m).getLast? = some c := ⟨(lf.take m).getLast hq1, List.getLast?_eq_some_getLast hq1⟩
    have hls2 : ∀ S, listF [st cs] S = some (sgs cs) := fun S => by rw [listF_st', if_pos (by omega)]
    have i0 : atI (lf.take m) 0 = some c0 := Md.atI_nat hc0
    have i9 : atI (lf.take m) (-1) = some c9 := atI_last hc9
    simp [e, slD_lst, cutL_sgs, cutL_to, cutL_from, ix_sgs i0, ix_sgs i9, hls2, lit_e, lit_us, lit_z]
    have hcne : sgs cs ≠ [] := fun z => by have := congrArg List.length z; simp at this; rw [this] at hc2; simp at hc2
    refine (pick_ok h7 hcne (by simp; omega) (sgs_locs _)).imp fun d S1 q => ?_
    obtain ⟨F4, hd, h8, rfl⟩ := q
    obtain ⟨cc, hcc, rfl⟩ := List.mem_map.mp hd
    simp [lit_us, lit_z, lit_e]
    refine ⟨by omega, ?_⟩
    refine (pick_ok h8 (by simp) (by simp) (by simp)).imp fun d S1 q => ?_
    obtain ⟨F5, hd, h9, rfl⟩ := q
    obtain ⟨sg, rfl, hsg, hsg2⟩ : ∃ sg, d = st sg ∧ sg.length ≤ 1 ∧ ∀ c ∈ sg, c < 128 := by
      have b0 := hlt _ (List.mem_of_mem_take (List.mem_of_getElem? hc0))
      have b9 := hlt _ (List.mem_of_mem_take (List.mem_of_getLast? hc9))
      have bc := hc4 _ hcc
      simp at hd
      rcases hd with rfl | rfl | rfl | rfl | rfl | rfl
      · exact ⟨_, rfl, by simp, by simp⟩
      · exact ⟨_, rfl, by simp, by simpa using b0⟩
      · exact ⟨_, rfl, by simp, by simpa using b9⟩
      · exact ⟨_, rfl, by simp, by simpa using bc⟩
      · exact ⟨_, rfl, by simp, by simp⟩
      · exact ⟨_, rfl, by simp, by simp⟩
    obtain ⟨ds, hds, e5⟩ := sort_sgs (cs := lf.take m) (S := [F5, .lst (rs.map rD)]) (by simp; omega)
    simp [lit_e, e5, isTy_str]
    rw [join_sgs (by rw [hds.length_eq]; simp; omega)]
    simp
    have e7 : rs.map rD ++ [D.tup [st ds, st sg]] = (rs ++ [(ds, sg)]).map rD := by simp [rD]
    rw [e7]
    exact ⟨by omega, by omega, .mk h9 (hr.add hds hq1 hsg hsg2) (by simp; omega) (by simp; omega)⟩
  · intro env S1 h
    obtain ⟨hF, hr, hn, hl⟩ := h
    simp
    exact ⟨rD_locs _, hF.locs, _, _, rfl, hr.drop, hF, rfl⟩
  · exact .mk (rs := []) (lf := lf) h7 ⟨by simpa using hlf.nodup_iff.mpr hc1, by simp, by simp, fun c hc => hc4 c (hlf.mem_iff.mp (by simpa using hc)), by simp, by simp; rw [hlf.length_eq]; exact hc3⟩ (by simp [rgD]; omega) (by rw [hlf.length_eq]; exact hc3)
end G68

/-! The plain law: keys by signs. -/
namespace G68
abbrev RlM := List Nat × List Nat
def signOf (rs : List RlM) (c : Nat) : List Nat := match rs.find? fun r => decide (c ∈ r.1) with
  | some r => r.2
  | none => [c]
def push (d : Bool) (made : List Nat) (c : Nat) : List Nat := if (d && made.getLast? == some c) = true then made else made ++ [c]
def keyL (d : Bool) (b : List Nat) (xs : List Nat) : List Nat := xs.foldl (push d) b
theorem keyL_nil {d : Bool} {b : List Nat} : keyL d b [] = b := rfl
theorem keyL_cons {d : Bool} {b : List Nat} {x : Nat} {xs : List Nat} : keyL d b (x :: xs) = keyL d (push d b x) xs := rfl
theorem keyL_app {d : Bool} {b xs ys : List Nat} : keyL d b (xs ++ ys) = keyL d (keyL d b xs) ys := List.foldl_append
theorem push_f {b : List Nat} {c : Nat} : push false b c = b ++ [c] := by simp [push]
theorem keyL_f {b : List Nat} : ∀ {xs : List Nat}, keyL false b xs = b ++ xs := by
  intro xs
  induction xs generalizing b with
  | nil => rw [keyL_nil, List.append_nil]
  | cons x xs ih => rw [keyL_cons, push_f, ih, List.append_assoc]; rfl
theorem push_last {d : Bool} {p : List Nat} {l c : Nat} : push d (p ++ [l]) c = p ++ push d [l] c := by
  unfold push
  rw [List.getLast?_append]
  simp
  split <;> simp
theorem push_ne {d : Bool} {l c : Nat} {t : List Nat} : ∃ u m, push d (l :: t) c = l :: u ∧ (l :: u) = m ∧ m ≠ [] := by
  unfold push
  split
  · exact ⟨t, _, rfl, rfl, by simp⟩
  · exact ⟨t ++ [c], _, rfl, rfl, by simp⟩
theorem keyL_head {d : Bool} {l : Nat} {t : List Nat} : ∀ {xs : List Nat}, ∃ u, keyL d (l :: t) xs = l :: u := by
  intro xs
  induction xs generalizing t with
  | nil => exact ⟨t, rfl⟩
  | cons x xs ih =>
    obtain ⟨u, _, e, _, _⟩ := push_ne (d := d) (l := l) (c := x) (t := t)
    rw [keyL_cons, e]
    exact ih
theorem split_last : ∀ (b : List Nat), b ≠ [] → ∃ p l, b = p ++ [l] := fun b h => ⟨b.dropLast, b.getLast h, (List.dropLast_concat_getLast h).symm⟩
theorem push_pre {d : Bool} {p b : List Nat} {c : Nat} (h : b ≠ []) : push d (p ++ b) c = p ++ push d b c := by
  obtain ⟨q, l, rfl⟩ := split_last b h
  rw [← List.append_assoc, push_last, push_last (p := q), List.append_assoc]
theorem push_nn {d : Bool} {b : List Nat} {c : Nat} (h : b ≠ []) : push d b c ≠ [] := by
  unfold push
  split
  · exact h
  · simp
theorem keyL_pre {d : Bool} {p : List Nat} : ∀ {xs b : List Nat}, b ≠ [] → keyL d (p ++ b) xs = p ++ keyL d b xs := by
  intro xs
  induction xs with
  | nil => intro b h; rfl
  | cons x xs ih =>
    intro b h
    rw [keyL_cons, push_pre h, ih (push_nn h), keyL_cons]
/-- the seam -/
theorem keyL_seam {xs ys : List Nat} : keyL true [] (xs ++ ys) = keyL true [] xs ++ (if keyL true [] xs ≠ [] ∧ keyL true [] ys ≠ [] ∧ (keyL true [] xs).getLast? = (keyL true [] ys).head? then (keyL true [] ys).drop 1 else keyL true [] ys) := by
  rw [keyL_app]
  generalize keyL true [] xs = m
  cases m with
  | nil => simp
  | cons a t =>
    cases ys with
    | nil => simp [keyL_nil]
    | cons y ys =>
      have e0 : keyL true [] (y :: ys) = keyL true [y] ys := by rw [keyL_cons]; rfl
      obtain ⟨u, e1⟩ := keyL_head (d := true) (l := y) (t := []) (xs := ys)
      rw [e0, e1]
      obtain ⟨p, l, e2⟩ := split_last (a :: t) (by simp)
      rw [e2, keyL_cons]
      by_cases h : l = y
      · subst h
        have : push true (p ++ [l]) l = p ++ [l] := by unfold push; simp
        rw [this, keyL_pre (by simp), e1]
        simp
      · have : push true (p ++ [l]) y = (p ++ [l]) ++ [y] := by unfold push; simp [h]
        rw [this, keyL_pre (by simp), e1]
        simp [h]
theorem keyL_nodup {d : Bool} : ∀ {xs b : List Nat}, (b ++ xs).Nodup → keyL d b xs = b ++ xs := by
  intro xs
  induction xs with
  | nil => intro b _; rw [keyL_nil, List.append_nil]
  | cons x xs ih =>
    intro b h
    have hp : push d b x = b ++ [x] := by
      unfold push
      rw [if_neg]
      intro e
      simp at e
      have := List.mem_of_getLast? e.2
      exact (List.nodup_append.mp h).2.2 x this x List.mem_cons_self rfl
    rw [keyL_cons, hp, ih (by rw [List.append_assoc]; exact h), List.append_assoc]; rfl
/-! letters of disjoint rules -/
theorem find_mem {rs : List RlM} (hd : (rs.flatMap (·.1)).Nodup) {r : RlM} (hr : r ∈ rs) {c : Nat} (hc : c ∈ r.1) : (rs.find? fun r => decide (c ∈ r.1)) = some r := by
  induction rs with
  | nil => cases hr
  | cons q rs ih =>
    rw [List.flatMap_cons] at hd
    obtain ⟨h1, h2, h3⟩ := List.nodup_append.mp hd
    rcases List.mem_cons.mp hr with rfl | hr
    · rw [List.find?_cons_of_pos (by simpa using hc)]
    · rw [List.find?_cons_of_neg, ih h2 hr]
      simp
      exact fun z => h3 c z c (List.mem_flatMap.mpr ⟨r, hr, hc⟩) rfl
theorem signOf_mem {rs : List RlM} (hd : (rs.flatMap (·.1)).Nodup) {r : RlM} (hr : r ∈ rs) {c : Nat} (hc : c ∈ r.1) : signOf rs c = r.2 := by
  unfold signOf
  rw [find_mem hd hr hc]
theorem signOf_le {rs : List RlM} (hs : ∀ r ∈ rs, r.2.length ≤ 1) (c : Nat) : (signOf rs c).length ≤ 1 := by
  unfold signOf
  split
  · rename_i r h
    exact hs r (List.mem_of_find?_eq_some h)
  · simp
end G68

namespace G68
open PySem PySem.Spec PyProof.Rows L2 Md
theorem sign_ok {S : Store} {rs : List Rl} {c : Nat} : Ev (callD m_sign_of [.tup (rs.map rD), st [c]] S) fun d S1 => d = st (signOf rs c) ∧ S1 = S := by
  refine Ev.call0 (by simp [rD_locs]) ?_
  unfold m_sign_of
  rw [ev_def]
  refine ⟨rfl, ?_⟩
  simp
  refine Ev.for (fun rest env S1 => ∃ r2 x2 x3, rest = r2.map rD ∧ env = [some (.tup (rs.map rD)), some (st [c]), x2, x3] ∧ signOf rs c = signOf r2 c) ?_ ?_ ⟨rs, none, none, rfl, rfl, rfl⟩
  · rintro d rest env S1 ⟨r2, x2, x3, h1, rfl, h2⟩
    cases r2 with
    | nil => cases h1
    | cons r r2 =>
      injection h1 with h1 h3
      subst h1 h3
      refine ⟨_, by simp [rD]; rfl, ?_⟩
      by_cases hc : c ∈ r.1
      · have : signOf (r :: r2) c = r.2 := by unfold signOf; rw [List.find?_cons_of_pos (by simpa using hc)]
        simp [hc, h2, this]
      · have : signOf (r :: r2) c = signOf r2 c := by unfold signOf; rw [List.find?_cons_of_neg (by simpa using hc)]
        simp [hc, h2, this]
        exact ⟨r2, rfl, rfl⟩
  · rintro env S1 ⟨r2, x2, x3, h1, rfl, h2⟩
    have : r2 = [] := by cases r2 with | nil => rfl | cons _ _ => cases h1
    subst this
    have : signOf [] c = [c] := rfl
    simp [h2, this]
theorem ends_one {a : List Nat} {c : Nat} : endsL a [c] = (a.getLast? == some c) := by
  unfold endsL
  cases h : a.getLast? with
  | none =>
    have : a = [] := List.getLast?_eq_none_iff.mp h
    subst this; rfl
  | some l =>
    have hn : a ≠ [] := fun e => by subst e; cases h
    obtain ⟨p, m, rfl⟩ := split_last a hn
    simp at h
    subst h
    simp
theorem step_ends {d : Bool} {a s : List Nat} (hs : s.length ≤ 1) : keyL d a s = if (d && endsL a s) = true then a else a ++ s := by
  cases s with
  | nil => rw [keyL_nil]; split <;> simp
  | cons c s =>
    have : s = [] := by cases s with | nil => rfl | cons _ _ => simp at hs
    subst this
    rw [ends_one, keyL_cons, keyL_nil]; first | rfl | skip
theorem keyL_len {d : Bool} {a s : List Nat} (hs : s.length ≤ 1) : (keyL d a s).length ≤ a.length + 1 := by
  rw [step_ends hs]
  split <;> simp <;> omega
/-- the key of a word -/
def keyW (rs : List Rl) (d : Bool) (w : List Nat) : List Nat := keyL d [] (w.flatMap (signOf rs))
theorem keyL_flen {rs : List Rl} {d : Bool} (hr : ∀ r ∈ rs, r.2.length ≤ 1) : ∀ {w b : List Nat}, (keyL d b (w.flatMap (signOf rs))).length ≤ b.length + w.length := by
  intro w
  induction w with
  | nil => intro b; simp [keyL_nil]
  | cons c w ih =>
    intro b
    rw [List.flatMap_cons, keyL_app]
    have h1 := keyL_len (d := d) (a := b) (signOf_le hr c)
    have h2 := ih (b := keyL d b (signOf rs c))
    rw [List.length_cons]
    omega
theorem keyW_len {rs : List Rl} {d : Bool} {w : List Nat} (hr : ∀ r ∈ rs, r.2.length ≤ 1) : (keyW rs d w).length ≤ w.length := by
  have := keyL_flen (d := d) (w := w) (b := []) hr
  simpa [keyW] using this
theorem behind_ok {S : Store} {rs : List Rl} {d : Bool} {b w : List Nat} (hr : ∀ r ∈ rs, r.2.length ≤ 1) (hw : b.length + w.length ≤ 100000) : Ev (callD m_key_behind [.tup (rs.map rD), .bl d, st b, st w] S) fun d' S1 => d' = st (keyL d b (w.flatMap (signOf rs))) ∧ S1 = S := by
  have hs := sl_big
  refine Ev.call0 (by simp [rD_locs]) ?_
  unfold m_key_behind
  rw [ev_def]
  refine ⟨rfl, ?_⟩
  simp
  refine Ev.for (fun rest env S1 => ∃ w2 b2 x4 x5, rest = sgs w2 ∧ env = [some (.tup (rs.map rD)), some (.bl d), some (st b2), some (st w), x4, x5] ∧ keyL d b (w.flatMap (signOf rs)) = keyL d b2 (w2.flatMap (signOf rs)) ∧ b2.length + w2.length ≤ 100000) ?_ ?_ ⟨w, b, none, none, rfl, rfl, rfl, hw⟩
  · rintro x rest env S1 ⟨w2, b2, x4, x5, h1, rfl, h2, h3⟩
    cases w2 with
    | nil => cases h1
    | cons c w2 =>
      injection h1 with h1 h4
      subst h1 h4
      refine ⟨_, bindP_nm, ?_⟩
      have hl := signOf_le hr c
      have hk := keyL_len (d := d) (a := b2) hl
      rw [List.flatMap_cons, keyL_app] at h2
      simp at h3
      simp
      refine sign_ok.imp fun d' S2 q => ?_
      obtain ⟨rfl, rfl⟩ := q
      simp
      by_cases hd : d = true
      · by_cases he : endsL b2 (signOf rs c) = true
        · rw [step_ends hl] at h2
          simp [hd, he] at h2
          simp [hd, he]
          exact ⟨w2, rfl, h2, by omega⟩
        · rw [step_ends hl] at h2
          simp [hd, he] at h2
          simp [hd, he]
          exact ⟨by omega, w2, rfl, h2, by omega⟩
      · rw [step_ends hl] at h2
        simp [hd] at h2
        simp [hd]
        exact ⟨by omega, w2, rfl, h2, by omega⟩
  · rintro env S1 ⟨w2, b2, x4, x5, h1, rfl, h2, h3⟩
    have : w2 = [] := by cases w2 with | nil => rfl | cons _ _ => cases h1
    subst this
    simp [h2, keyL_nil]
theorem key_ok {S : Store} {rs : List Rl} {d : Bool} {w : List Nat} (hr : ∀ r ∈ rs, r.2.length ≤ 1) (hw : w.length ≤ 100000) : Ev (callD m_key [.tup (rs.map rD), .bl d, st w] S) fun d' S1 => d' = st (keyW rs d w) ∧ S1 = S := by
  refine Ev.call0 (by simp [rD_locs]) ?_
  unfold m_key
  rw [ev_def]
  refine ⟨rfl, ?_⟩
  simp [lit_e]
  refine (behind_ok hr (by simpa using hw)).imp fun d' S1 q => ?_
  obtain ⟨rfl, rfl⟩ := q
  simp [keyW]
def lastS (a : List Nat) : List Nat := cutL a (some ((a.length : Int) - 1)) none
theorem lastS_nil : lastS [] = [] := by rfl
theorem lastS_app {p : List Nat} {l : Nat} : lastS (p ++ [l]) = [l] := by
  unfold lastS
  have e : (((p ++ [l]).length : Int) - 1) = ((p.length : Nat) : Int) := by simp
  rw [e, cutL_from]
  simp
theorem step_key {d : Bool} {a s : List Nat} (hs : s.length ≤ 1) : keyL d a s = if (!d || (!decide (s = lastS a) || decide (a = []))) = true then a ++ s else a := by
  rw [step_ends hs]
  cases d with
  | false => simp
  | true =>
    by_cases ha : a = []
    · subst ha
      cases s with
      | nil => simp
      | cons c s => simp [endsL]
    · obtain ⟨p, l, rfl⟩ := split_last a ha
      rw [lastS_app]
      cases s with
      | nil => simp
      | cons c s =>
        have : s = [] := by cases s with | nil => rfl | cons _ _ => simp at hs
        subst this
        rw [ends_one]
        by_cases e : l = c
        · subst e; simp
        · have e2 : ¬ c = l := fun z => e z.symm
          simp [e, e2]
/-- what the dict holds -/
def DkOk (rs : List Rl) (kvs : List (Key × D)) : Prop := ∀ c, lookD kvs (kS [c]) = (rs.find? fun r => decide (c ∈ r.1)).map fun r => st r.2
inductive KInv (rs : List Rl) (d : Bool) (w : List Nat) : List D → Md.Env → Store → Prop
  | mk {done rest : List Rl} {kvs : List (Key × D)} {x4 x5 x6 x7 : Option D} (e : rs = done ++ rest) (h : DkOk done kvs) (hl : kvs.length ≤ (done.flatMap (·.1)).length) :
    KInv rs d w (rest.map rD) [some (.tup (rs.map rD)), some (.bl d), some (st w), some (.loc 0), x4, x5, x6, x7] [.dk kvs]
inductive JInv (rs : List Rl) (d : Bool) (w : List Nat) (done : List Rl) (r : Rl) : List D → Md.Env → Store → Prop
  | mk {p q : List Nat} {kvs : List (Key × D)} {x6 x7 : Option D} (e : r.1 = p ++ q) (h : ∀ c, lookD kvs (kS [c]) = if c ∈ p then some (st r.2) else (done.find? fun r => decide (c ∈ r.1)).map fun r => st r.2) (hl : kvs.length ≤ (done.flatMap (·.1)).length + p.length) :
    JInv rs d w done r (sgs q) [some (.tup (rs.map rD)), some (.bl d), some (st w), some (.loc 0), some (st r.1), some (st r.2), x6, x7] [.dk kvs]
theorem lawkey_ok {S : Store} {rs : List Rl} {d : Bool} {w : List Nat} (hr : RsOk rs []) (hw : w.length ≤ 100000) : Ev (callD m__law_key [.tup (rs.map rD), .bl d, st w] S) fun d' S1 => d' = st (keyW rs d w) ∧ S1 = S := by
  have hs := sl_big
  have hnd : (rs.flatMap (·.1)).Nodup := by have := hr.nd; rwa [List.append_nil] at this
  have htot : (rs.flatMap (·.1)).length ≤ 8 := by have := hr.tot; rwa [List.append_nil] at this
  refine Ev.call0 (by simp [rD_locs]) ?_
  unfold m__law_key
  rw [ev_def]
  refine ⟨rfl, ?_⟩
  simp
  refine Ev.for (KInv rs d w) ?_ ?_ (.mk (done := []) (rest := rs) (kvs := []) rfl (fun c => rfl) (by simp))
  · intro x rest env S1 h
    generalize hx : x :: rest = xs at h
    obtain ⟨e, h, hl⟩ := h
    rename_i done rest2 kvs x4 x5 x6 x7
    cases rest2 with
    | nil => cases hx
    | cons r rest2 =>
      injection hx with h1 h2
      subst h1 h2
      refine ⟨_, by simp [rD]; rfl, ?_⟩
      simp
      have hlen : (done.flatMap (·.1)).length + r.1.length ≤ 8 := by
        rw [e] at htot
        simp at htot ⊢
        omega
      refine Ev.for (JInv rs d w done r) ?_ ?_ (.mk (p := []) (q := r.1) rfl (fun c => by simpa using h c) (by simpa using hl))
      · intro x rest env S1 h
        generalize hx : x :: rest = xs at h
        obtain ⟨e2, h, hl⟩ := h
        rename_i p q kvs x6 x7
        cases q with
        | nil => cases hx
        | cons c q =>
          injection hx with h1 h2
          subst h1 h2
          refine ⟨_, bindP_nm, ?_⟩
          have : r.1.length = p.length + q.length + 1 := by rw [e2]; simp; omega
          simp [setD_k0 (keyD_st)]
          refine ⟨by omega, ?_⟩
          refine .mk (p := p ++ [c]) (by rw [e2, List.append_assoc]; rfl) (fun c' => ?_) (by have := putD_len (kvs := kvs) (k := kS [c]) (v := st r.2); rw [List.length_append, List.length_singleton]; omega)
          rw [lookD_put, h]
          by_cases hc : c' = c
          · subst hc; simp
          · simp [hc]
      · intro env S1 h
        generalize hx : ([] : List D) = xs at h
        obtain ⟨e2, h, hl⟩ := h
        rename_i p q kvs x6 x7
        have : q = [] := by cases q with | nil => rfl | cons _ _ => cases hx
        subst this
        rw [List.append_nil] at e2
        subst e2
        simp
        refine .mk (done := done ++ [r]) (by rw [e, List.append_assoc]; rfl) (fun c => ?_) (by simp at hl ⊢; exact hl)
        rw [h c, List.find?_append]
        by_cases hc : c ∈ r.1
        · have hn : (done.find? fun r => decide (c ∈ r.1)) = none := by
            rw [List.find?_eq_none]
            intro q hq
            simp
            intro hcq
            rw [e, List.flatMap_append, List.flatMap_cons] at hnd
            exact (List.nodup_append.mp hnd).2.2 c (List.mem_flatMap.mpr ⟨q, hq, hcq⟩) c (List.mem_append_left _ hc) rfl
          rw [hn]
          simp [hc]
        · simp [hc]
  · intro env S1 h
    generalize hx : ([] : List D) = xs at h
    obtain ⟨e, h, hl⟩ := h
    rename_i done rest2 kvs x4 x5 x6 x7
    have : rest2 = [] := by cases rest2 with | nil => rfl | cons _ _ => cases hx
    subst this
    rw [List.append_nil] at e
    subst e
    simp [lit_e]
    refine Ev.for (fun rest env S1 => ∃ w2 b2 x4 x5 x6, rest = sgs w2 ∧ env = [some (.tup (rs.map rD)), some (.bl d), some (st w), some (.loc 0), x4, x5, x6, some (st b2)] ∧ keyW rs d w = keyL d b2 (w2.flatMap (signOf rs)) ∧ b2.length + w2.length ≤ 100000 ∧ S1 = [.dk kvs]) ?_ ?_ ⟨w, [], x4, x5, x6, rfl, rfl, rfl, by simpa using hw, rfl⟩
    · rintro x rest env S1 ⟨w2, b2, x4, x5, x6, h1, rfl, h2, h3, rfl⟩
      cases w2 with
      | nil => cases h1
      | cons c w2 =>
        injection h1 with h1 h4
        subst h1 h4
        refine ⟨_, bindP_nm, ?_⟩
        have hl := signOf_le hr.sg c
        have hk := keyL_len (d := d) (a := b2) hl
        rw [List.flatMap_cons, keyL_app, step_key hl] at h2
        rw [step_key hl] at hk
        simp at h3
        have hg : dgetD (.loc 0) (st [c]) [.dk kvs] = some ((rs.find? fun r => decide (c ∈ r.1)).map fun r => st r.2) := by rw [dget_0 keyD_st, h c]
        refine Ev.sq (fun e S1 => e = [some (.tup (rs.map rD)), some (.bl d), some (st w), some (.loc 0), x4, some (st (signOf rs c)), some (st [c]), some (st b2)] ∧ S1 = [.dk kvs]) ?_ ?_
        · cases hf : rs.find? fun r => decide (c ∈ r.1) with
          | none => simp [hg, hf, signOf]
          | some r => simp [hg, hf, signOf]
        rintro e S1 ⟨rfl, rfl⟩
        generalize signOf rs c = s at hl h2 hk
        have hsl : ∀ S, slD (st b2) (some ((b2.length : Int) - 1)) none S = ok (st (lastS b2)) S := fun S => by rw [slD_st, if_pos (by omega)]; rfl
        have hb : b2.length ≤ sizeLine := by omega
        cases d with
        | false =>
          simp at h2 hk
          simp
          exact ⟨by omega, w2, rfl, h2, by omega⟩
        | true =>
          by_cases hs1 : s = lastS b2
          · by_cases hs2 : b2 = []
            · subst hs2
              rw [lastS_nil] at hs1
              subst hs1
              have hsl0 : ∀ S, slD (st []) (some (-1)) none S = ok (st []) S := fun S => by rw [slD_st, if_pos (by omega)]; rfl
              simp at h2 hk
              simp [hsl0]
              exact ⟨w2, rfl, h2, by omega⟩
            · simp [hs1, hs2] at h2 hk
              simp [hsl, hb, hs1, hs2]
              exact ⟨w2, rfl, h2, by omega⟩
          · simp [hs1] at h2 hk
            simp [hsl, hb, hs1]
            exact ⟨by omega, w2, rfl, h2, by omega⟩
    · rintro env S1 ⟨w2, b2, x4, x5, x6, h1, rfl, h2, h3, rfl⟩
      have : w2 = [] := by cases w2 with | nil => rfl | cons _ _ => cases h1
      subst this
      simp [h2, keyL_nil]
end G68

namespace G68
open PySem PySem.Spec PyProof.Rows L2 Md
theorem same_ok {S : Store} {a b : List Nat} : Ev (callD (m__law_same 2) [st a, st b] S) fun d S1 => d = .bl (decide (a = b)) ∧ S1 = S := by
  refine Ev.call0 (by simp) ?_
  unfold m__law_same
  rw [ev_def]
  refine ⟨rfl, ?_⟩
  simp
theorem alike_ok {F : Ob} {S : Store} {rs : List Rl} {w : List Nat} (hF : FlowOk F) (hr : RsOk rs []) (hw : w.length ≤ 100000) : Ev (callD m__law_alike [.loc 0, .tup (rs.map rD), st w] (F :: S)) fun d S1 => ∃ F' w', d = st w' ∧ w'.flatMap (signOf rs) = w.flatMap (signOf rs) ∧ w'.length ≤ w.length + 1 ∧ FlowOk F' ∧ S1 = F' :: S := by
  have hs := sl_big
  have hnd : (rs.flatMap (·.1)).Nodup := by have := hr.nd; rwa [List.append_nil] at this
  have hlt : ∀ r ∈ rs, ∀ c ∈ r.1, c < 128 := fun r h c hc => hr.lt c (by rw [List.append_nil]; exact List.mem_flatMap.mpr ⟨r, h, hc⟩)
  have hlen : rs.length ≤ 8 := by
    have h1 := hr.tot
    have h2 := hr.ne
    have : ∀ l : List Rl, (∀ r ∈ l, r.1 ≠ []) → l.length ≤ (l.flatMap (·.1)).length := by
      intro l
      induction l with
      | nil => intro _; simp
      | cons r l ih =>
        intro h
        have h3 := ih fun q hq => h q (List.mem_cons_of_mem _ hq)
        have h4 := List.length_pos_iff.mpr (h r List.mem_cons_self)
        rw [List.flatMap_cons, List.length_append, List.length_cons]
        omega
    have := this rs h2
    rw [List.append_nil] at h1
    omega
  have hrl : ∀ r ∈ rs, r.1.length ≤ 8 := fun r h => by
    have h1 := hr.tot
    rw [List.append_nil] at h1
    obtain ⟨a, b, e⟩ := List.append_of_mem h
    rw [e, List.flatMap_append, List.flatMap_cons, List.length_append, List.length_append] at h1
    omega
  refine Ev.call1 hF.locs (by simp [rD_locs]) ?_
  unfold m__law_alike
  rw [ev_def]
  refine ⟨rfl, ?_⟩
  have hw2 : w.length ≤ sizeLine := by omega
  refine Ev.sq (fun e S1 => ∃ k : Nat, ∃ F1, e = [some (.loc 0), some (.tup (rs.map rD)), some (st w), some (.int k), none, none, none, none] ∧ k ≤ w.length ∧ FlowOk F1 ∧ S1 = [F1]) ?_ ?_
  · simp [hw2]
    refine (draw_ok hF (by omega) (by omega)).imp fun d S1 q => ?_
    obtain ⟨i, F1, rfl, h1, h2, h3, rfl⟩ := q
    obtain ⟨k, rfl⟩ := Int.eq_ofNat_of_zero_le h1
    simp
    exact ⟨k, rfl, by omega, h3⟩
  rintro e S1 ⟨k, F1, rfl, hk, hF1, rfl⟩
  refine Ev.sq (fun e S1 => ∃ G : List (List Nat), e = [some (.loc 0), some (.tup (rs.map rD)), some (st w), some (.int k), some (.lst (G.map st)), none, none, none] ∧ (∀ x ∈ G, x ≠ [] ∧ x.length ≤ 8 ∧ ∀ c ∈ x, c < 128 ∧ signOf rs c = []) ∧ G.length ≤ 8 ∧ S1 = [F1]) ?_ ?_
  · simp
    refine ⟨by omega, ?_⟩
    refine Ev.compP (c := fun r => decide (r.2 = [])) (y := fun r => st r.1) ?_ ?_
    · intro r hr'
      refine ⟨_, by simp [rD]; rfl, ?_⟩
      simp [lit_e]
    have hg : ((rs.filter fun r => decide (r.2 = [])).map fun r => st r.1) = ((rs.filter fun r => decide (r.2 = [])).map (·.1)).map st := by rw [List.map_map]; rfl
    rw [hg]
    simp only [bindP_nm, ev_ok]
    refine ⟨_, rfl, _, rfl, ?_, ?_, trivial⟩
    · intro x hx
      obtain ⟨r, h5, rfl⟩ := List.mem_map.mp hx
      obtain ⟨h6, h7⟩ := List.mem_filter.mp h5
      exact ⟨hr.ne r h6, hrl r h6, fun c hc => ⟨hlt r h6 c hc, (signOf_mem hnd h6 hc).trans (by simpa using h7)⟩⟩
    · have := List.length_filter_le (fun r : Rl => decide (r.2 = [])) rs
      rw [List.length_map]
      omega
  rintro e S1 ⟨G, rfl, hG, hGl, rfl⟩
  have hsp : w.take k ++ w.drop k = w := List.take_append_drop k w
  refine Ev.seq (R := fun o S1 => (o = .nx [some (.loc 0), some (.tup (rs.map rD)), some (st w), some (.int k), some (.lst (G.map st)), none, none, none] ∧ ∃ F2, FlowOk F2 ∧ S1 = [F2]) ∨ ∃ w' F2, o = .ret (st w') ∧ w'.flatMap (signOf rs) = w.flatMap (signOf rs) ∧ w'.length ≤ w.length + 1 ∧ FlowOk F2 ∧ S1 = [F2]) ?_ ?_
  · have hnil : ∀ S, neD (.lst (G.map st)) (.lst []) S = ok (.bl (!G.isEmpty)) S := fun S => neD_strs_nil fun x hx c hc => by have := ((hG x hx).2.2 c hc).1; omega
    by_cases hGe : G.isEmpty = true
    · simp [hnil, hGe, hF1]
    · simp at hGe
      have hGe2 : G.isEmpty = false := by simpa using hGe
      by_cases h40 : (w.length : Int) < 40
      · simp [hnil, hGe2, hw2, h40]
        refine (draw_ok hF1 (by omega) (by omega)).imp fun d S1 q => ?_
        obtain ⟨i, F2, rfl, h1, h2, h3, rfl⟩ := q
        by_cases hi : i = 0
        · simp [hi, slD_st, hw2, cutL_to]
          refine (pick_ok h3 (by simpa using hGe) (by simp; omega) (by simp)).imp fun d S1 q => ?_
          obtain ⟨F3, hd, h4, rfl⟩ := q
          obtain ⟨x, hx, rfl⟩ := List.mem_map.mp hd
          obtain ⟨h5, h6, h7⟩ := hG x hx
          simp [listF_st']
          rw [if_pos (by omega)]
          simp
          refine (pick_ok h4 (fun z => h5 (by simpa using congrArg List.length z)) (by simp; omega) (sgs_locs _)).imp fun d S1 q => ?_
          obtain ⟨F5, hd, h8, rfl⟩ := q
          obtain ⟨c, hc, rfl⟩ := List.mem_map.mp hd
          simp [slD_st, hw2, cutL_from]
          have e9 : signOf rs c = [] := (h7 c hc).2
          rw [e9, List.nil_append, ← List.flatMap_append, hsp]
          exact ⟨by omega, by omega, rfl, by omega, h8⟩
        · simp [hi, h3]
      · simp [hnil, hGe2, hw2, h40, hF1]
  rintro o S1 (⟨rfl, F2, hF2, rfl⟩ | ⟨w', F2, rfl, h1, h2, h3, rfl⟩)
  · refine Ev.sq (fun e S1 => ∃ h : List (List Nat), e = [some (.loc 0), some (.tup (rs.map rD)), some (st w), some (.int k), some (.lst (G.map st)), none, none, some (.lst (h.map st))] ∧ (∀ x ∈ h, x ≠ [] ∧ x.length ≤ 8 ∧ ∃ c0, w[k]? = some c0 ∧ ∀ c ∈ x, c < 128 ∧ signOf rs c = signOf rs c0) ∧ S1 = [F2]) ?_ ?_
    · simp
      refine ⟨by omega, ?_⟩
      have e1 : (k : Int) + 1 = ((k + 1 : Nat) : Int) := by omega
      cases hw3 : w[k]? with
      | none =>
        have hk2 : w.length ≤ k := List.getElem?_eq_none_iff.mp hw3
        refine Ev.compP (c := fun r => false) (y := fun r => st r.1) ?_ ?_
        · intro r hr'
          refine ⟨_, by simp [rD]; rfl, ?_⟩
          simp [lit_e, slD_st, hw2]
          rw [e1, cutL_mid, List.drop_of_length_le hk2]
          simp
        · simp
          exact ⟨[], by simp, by simp⟩
      | some c0 =>
        have hk2 : k < w.length := (List.getElem?_eq_some_iff.mp hw3).1
        refine Ev.compP (c := fun r => decide (c0 ∈ r.1)) (y := fun r => st r.1) ?_ ?_
        · intro r hr'
          refine ⟨_, by simp [rD]; rfl, ?_⟩
          simp [lit_e, slD_st, hw2]
          rw [e1, cutL_mid]
          have e2 : ((w.drop k).take (k + 1 - k)) = [c0] := by
            rw [List.drop_eq_getElem_cons hk2]
            have := (List.getElem?_eq_some_iff.mp hw3).2
            simp [this]
          rw [e2]
          simp
          rw [ixD_st hw2 (Md.atI_nat hw3)]
          simp
        · have hg : ((rs.filter fun r => decide (c0 ∈ r.1)).map fun r => st r.1) = ((rs.filter fun r => decide (c0 ∈ r.1)).map (·.1)).map st := by rw [List.map_map]; rfl
          rw [hg]
          simp only [bindP_nm, ev_ok]
          refine ⟨_, rfl, _, rfl, ?_, trivial⟩
          intro x hx
          obtain ⟨r, h5, rfl⟩ := List.mem_map.mp hx
          obtain ⟨h6, h7⟩ := List.mem_filter.mp h5
          have h7 : c0 ∈ r.1 := by simpa using h7
          exact ⟨hr.ne r h6, hrl r h6, c0, rfl, fun c hc => ⟨hlt r h6 c hc, (signOf_mem hnd h6 hc).trans (signOf_mem hnd h6 h7).symm⟩⟩
    · rintro e S1 ⟨h, rfl, hh, rfl⟩
      have hnil : ∀ S, neD (.lst (h.map st)) (.lst []) S = ok (.bl (!h.isEmpty)) S := fun S => neD_strs_nil fun x hx c hc => by obtain ⟨_, _, c0, _, z⟩ := hh x hx; have := (z c hc).1; omega
      cases h with
      | nil =>
        have hnil0 := hnil [F2]
        simp at hnil0
        simp [hnil0, hF2, hF2.locs]
      | cons x h =>
        obtain ⟨h5, h6, c0, h7, h8⟩ := hh x List.mem_cons_self
        have hnil0 := hnil [F2]
        simp only [List.map_cons] at hnil0
        have hi0 : ∀ S, ixD (.lst (st x :: h.map st)) (.int 0) S = ok (st x) S := fun S => ixD_lst (show atI _ (0 : Int) = _ from Md.atI_nat (k := 0) rfl)
        simp [hnil0, slD_st, hw2, cutL_to, hi0, listF_st']
        rw [if_pos (by omega)]
        simp
        refine (pick_ok hF2 (fun z => h5 (by simpa using congrArg List.length z)) (by simp; omega) (sgs_locs _)).imp fun d S1 q => ?_
        obtain ⟨F5, hd, h9, rfl⟩ := q
        obtain ⟨c, hc, rfl⟩ := List.mem_map.mp hd
        have e1 : (k : Int) + 1 = ((k + 1 : Nat) : Int) := by omega
        simp [slD_st, hw2]
        rw [e1, cutL_from]
        have hk2 : k < w.length := (List.getElem?_eq_some_iff.mp h7).1
        have e3 : w = w.take k ++ ([c0] ++ w.drop (k + 1)) := by
          conv => lhs; rw [← hsp, List.drop_eq_getElem_cons hk2, (List.getElem?_eq_some_iff.mp h7).2]
          rfl
        have e4 : (w.take k).flatMap (signOf rs) ++ (signOf rs c ++ (w.drop (k + 1)).flatMap (signOf rs)) = w.flatMap (signOf rs) := by
          conv => rhs; rw [e3]
          rw [(h8 c hc).2, List.flatMap_append, List.flatMap_append]
          simp
        simp
        exact ⟨by omega, by omega, h9.locs, e4, by omega, h9⟩
  · simp [h1, h2, h3, h3.locs]
end G68

namespace G68
open PySem PySem.Spec PyProof.Rows L2 Md
theorem flow_ok {S : Store} {ns : List Int} : Ev (callD m__law_flow [.fz (ns.map .int)] S) fun d S1 => ∃ F, d = .loc S.length ∧ FlowOk F ∧ S1 = S ++ [F] := by
  have hs := sl_big
  refine Ev.callN (by simp) ?_
  unfold m__law_flow
  rw [ev_def]
  refine ⟨rfl, ?_⟩
  have hsl : ∀ S, slD (.fz (ns.map .int)) none (some 63) S = ok (.lst ((ns.take 63).map .int)) S := fun S => by
    show ok (D.lst (cutL (ns.map D.int) none (some ((63 : Nat) : Int)))) S = _
    rw [cutL_to, List.map_take]
  simp [hsl]
  refine ⟨by omega, ?_⟩
  rw [← List.map_take]
  refine Ev.compP (c := fun _ => true) (y := fun n => .int (if n < 0 then -n else n)) ?_ ?_
  · intro n hn
    exact ⟨_, bindP_nm, by simp⟩
  · have e : ((ns.take 63).filter fun _ => true).map (fun n => D.int (if n < 0 then -n else n)) = ((ns.take 63).map fun n => if n < 0 then -n else n).map D.int := by
      rw [List.filter_eq_self.mpr (fun _ _ => rfl), List.map_map]; rfl
    rw [e]
    have hl : ((ns.take 63).map fun n => if n < 0 then -n else n).length ≤ 63 := by rw [List.length_map, List.length_take]; omega
    generalize ((ns.take 63).map fun n => if n < 0 then -n else n) = cs at hl
    have e2 : Ob.lst [.int 0, .int 0, .int 0, .int 0, .lst (cs.map D.int ++ [.int 7])] = fl 0 0 0 0 (cs ++ [7]) := by unfold fl; simp
    simp
    rw [e2]
    exact ⟨by omega, by omega, by omega, fl_locs, 0, 0, 0, 0, _, rfl, by simp, by simp; omega, by omega⟩
inductive LInv (rs : List Rl) (cs : List Nat) (dbl : Bool) (x0 : Option D) : List D → Md.Env → Store → Prop
  | mk {F : Ob} {rest : List D} {x5 x6 x7 x8 x9 x10 x11 x12 x13 x14 : Option D} (hF : FlowOk F) :
    LInv rs cs dbl x0 rest [x0, some (.loc 0), some (st cs), some (.tup (rs.map rD)), some (.bl dbl), x5, x6, x7, x8, x9, x10, x11, x12, x13, x14] [F]
theorem law_ok {ns : List Int} : Ev (m_law [.fz (ns.map .int)] []) fun d S1 => d = .bl true := by
  have hs := sl_big
  unfold m_law
  rw [ev_def]
  refine ⟨rfl, ?_⟩
  refine Ev.sq (fun e S1 => ∃ F, FlowOk F ∧ e = [some (.fz (ns.map .int)), some (.loc 0), none, none, none, none, none, none, none, none, none, none, none, none, none] ∧ S1 = [F]) ?_ ?_
  · simp
    refine flow_ok.imp fun d S1 q => ?_
    obtain ⟨F, rfl, hF, rfl⟩ := q
    simp [hF]
  generalize (D.fz (ns.map .int)) = x0
  rintro e S1 ⟨F, hF, rfl, rfl⟩
  refine Ev.sq (fun e S1 => ∃ F cs, FlowOk F ∧ LetOk cs ∧ e = [some x0, some (.loc 0), some (st cs), none, none, none, none, none, none, none, none, none, none, none, none] ∧ S1 = [F]) ?_ ?_
  · simp
    refine (draw_ok hF (by omega) (by omega)).imp fun d S1 q => ?_
    obtain ⟨i, F, rfl, h1, h2, hF, rfl⟩ := q
    simp
    refine (draw_ok hF (by omega) (by omega)).imp fun d S1 q => ?_
    obtain ⟨j, F, rfl, h3, h4, hF, rfl⟩ := q
    obtain ⟨m, e, hm1, hm2⟩ : ∃ m : Nat, (1 : Int) + i = m ∧ 1 ≤ m ∧ m ≤ 8 := ⟨(1 + i).toNat, by omega, by omega, by omega⟩
    simp [e]
    refine (alphabet_ok hF hm1 hm2).imp fun d S1 q => ?_
    obtain ⟨F, cs, rfl, hcs, hF, rfl⟩ := q
    simp
    exact ⟨F, hF, cs, hcs, rfl, rfl⟩
  rintro e S1 ⟨F, cs, hF, hcs, rfl, rfl⟩
  refine Ev.sq (fun e S1 => ∃ F rs, FlowOk F ∧ RsOk rs [] ∧ e = [some x0, some (.loc 0), some (st cs), some (.tup (rs.map rD)), none, none, none, none, none, none, none, none, none, none, none] ∧ S1 = [F]) ?_ ?_
  · simp
    refine (rules_ok hF hcs).imp fun d S1 q => ?_
    obtain ⟨F, rs, rfl, hrs, hF, rfl⟩ := q
    simp
    exact ⟨F, hF, rs, hrs, rfl, rfl⟩
  rintro e S1 ⟨F, rs, hF, hrs, rfl, rfl⟩
  refine Ev.sq (fun e S1 => ∃ F dbl, FlowOk F ∧ e = [some x0, some (.loc 0), some (st cs), some (.tup (rs.map rD)), some (.bl dbl), none, none, none, none, none, none, none, none, none, none] ∧ S1 = [F]) ?_ ?_
  · simp
    refine (draw_ok hF (by omega) (by omega)).imp fun d S1 q => ?_
    obtain ⟨i, F, rfl, h1, h2, hF, rfl⟩ := q
    simp
    exact ⟨hF, by omega⟩
  rintro e S1 ⟨F, dbl, hF, rfl, rfl⟩
  obtain ⟨hc1, hc2, hc3, hc4⟩ := hcs
  have hcne : sgs cs ≠ [] := fun z => by have := congrArg List.length z; simp at this; rw [this] at hc2; simp at hc2
  have hll : ∀ S, listF [st cs] S = some (sgs cs) := fun S => by rw [listF_st', if_pos (by omega)]
  refine Ev.sq (LInv rs cs dbl (some x0) []) ?_ ?_
  · simp [RgLim]
    refine Ev.for (LInv rs cs dbl (some x0)) ?_ (fun env S h => ⟨_, rfl, h⟩) (.mk hF)
    intro x rest e S1 h
    obtain ⟨hF⟩ := h
    rename_i F x5 x6 x7 x8 x9 x10 x11 x12 x13 x14
    refine ⟨_, bindP_nm, ?_⟩
    generalize some x = x5
    simp only [List.set_cons_succ, List.set_cons_zero]
    refine Ev.sq (fun e S1 => ∃ F p, FlowOk F ∧ p ≠ [] ∧ p.length ≤ 8 ∧ e = [some x0, some (.loc 0), some (st cs), some (.tup (rs.map rD)), some (.bl dbl), x5, some (.lst (sgs p)), x7, x8, x9, x10, x11, x12, x13, x14] ∧ S1 = [F]) ?_ ?_
    · simp
      refine (draw_ok hF (by omega) (by omega)).imp fun d S1 q => ?_
      obtain ⟨i, F, rfl, h1, h2, hF, rfl⟩ := q
      have fin : ∀ (F' : Ob) (ys : List D) (k : Nat), ys.Perm (sgs cs) → 1 ≤ k → FlowOk F' → ∃ p, p ≠ [] ∧ p.length ≤ 8 ∧ ys.take k = sgs p := by
        intro F' ys k hp hk hF'
        obtain ⟨zs, hz, rfl⟩ := perm_map_inv hp rfl
        refine ⟨zs.take k, ?_, ?_, ?_⟩
        · intro e
          have e := congrArg List.length e
          rw [List.length_take, hz.length_eq, List.length_nil] at e
          omega
        · rw [List.length_take, hz.length_eq]; omega
        · show (sgs zs).take k = _
          rw [sgs_take]
      by_cases hi : i = 0
      · simp [hi, hll]
        refine ⟨by omega, ?_⟩
        refine (some_ok hF (by simp; omega) (sgs_locs _) (lo := 1) (hi := cs.length) (by omega) (by omega)).imp fun d S1 q => ?_
        obtain ⟨F, ys, k, rfl, h3, h4, hp, hF, rfl⟩ := q
        obtain ⟨p, h5, h6, e⟩ := fin F ys k hp h3 hF
        rw [e]
        simp
        exact ⟨F, hF, p, h5, h6, rfl, rfl⟩
      · simp [hi, hll]
        refine (some_ok hF (by simp; omega) (sgs_locs _) (lo := 1) (hi := 2) (by omega) (by omega)).imp fun d S1 q => ?_
        obtain ⟨F, ys, k, rfl, h3, h4, hp, hF, rfl⟩ := q
        obtain ⟨p, h5, h6, e⟩ := fin F ys k hp h3 hF
        rw [e]
        simp
        exact ⟨F, hF, p, h5, h6, rfl, rfl⟩
    rintro e S1 ⟨F, p, hF, hp1, hp2, rfl, rfl⟩
    have hpne : sgs p ≠ [] := fun z => hp1 (by have := congrArg List.length z; simp at this; exact List.length_eq_zero_iff.mp (by simpa using this))
    refine Ev.sq (fun e S1 => ∃ F w, FlowOk F ∧ w.length ≤ 40 ∧ e = [some x0, some (.loc 0), some (st cs), some (.tup (rs.map rD)), some (.bl dbl), x5, some (.lst (sgs p)), some (st w), x8, x9, x10, x11, x12, x13, x14] ∧ S1 = [F]) ?_ ?_
    · simp [lit_e]
      refine ⟨by omega, ?_⟩
      refine (pick_ok hF (by simp) (by simp) (by simp)).imp fun d S1 q => ?_
      obtain ⟨F, hd, hF, rfl⟩ := q
      obtain ⟨n, rfl, hn⟩ : ∃ n : Nat, d = .int n ∧ n ≤ 40 := by
        simp at hd
        rcases hd with rfl | rfl | rfl | rfl | rfl | rfl
        · exact ⟨0, rfl, by omega⟩
        · exact ⟨1, rfl, by omega⟩
        · exact ⟨2, rfl, by omega⟩
        · exact ⟨5, rfl, by omega⟩
        · exact ⟨12, rfl, by omega⟩
        · exact ⟨40, rfl, by omega⟩
      simp [RgLim]
      refine ⟨by omega, by simp [rgD]; omega, ?_⟩
      refine Ev.comp (ys := []) (fun ys rest S1 => ∃ F w, FlowOk F ∧ ys = sgs w ∧ w.length + rest.length ≤ 40 ∧ S1 = [F]) ?_ ?_ ?_
      · rintro d ds ys S1 ⟨F, w, hF, rfl, h1, rfl⟩
        refine ⟨_, bindP_nm, ?_⟩
        simp
        refine (pick_ok hF hpne (by simp; omega) (sgs_locs _)).imp fun d S1 q => ?_
        obtain ⟨F, hd, hF, rfl⟩ := q
        obtain ⟨c, hc, rfl⟩ := List.mem_map.mp hd
        exact ⟨F, w ++ [c], hF, by rw [sgs_app]; rfl, by simp at h1 ⊢; omega, rfl⟩
      · exact ⟨F, [], hF, rfl, by simp [rgD]; omega, rfl⟩
      · rintro zs S1 ⟨F, w, hF, h1, h2, rfl⟩
        rw [List.nil_append] at h1
        subst h1
        simp at h2
        simp [lit_e]
        rw [join_sgs (by omega)]
        simp
        exact ⟨F, hF, w, h2, rfl, rfl⟩
    rintro e S1 ⟨F, w, hF, hw, rfl, rfl⟩
    have hw2 : w.length ≤ sizeLine := by omega
    have hky : ∀ S dd, Ev (callD m_key [.tup (rs.map rD), .bl dd, st w] S) fun d' S1 => d' = st (keyW rs dd w) ∧ S1 = S := fun S dd => key_ok hrs.sg (by omega)
    have hlk : ∀ S dd, Ev (callD m__law_key [.tup (rs.map rD), .bl dd, st w] S) fun d' S1 => d' = st (keyW rs dd w) ∧ S1 = S := fun S dd => lawkey_ok hrs (by omega)
    refine Ev.sq (fun e S1 => e = [some x0, some (.loc 0), some (st cs), some (.tup (rs.map rD)), some (.bl dbl), x5, some (.lst (sgs p)), some (st w), x8, some (st (keyW rs dbl w)), x10, x11, x12, x13, x14] ∧ S1 = [F]) ?_ ?_
    · simp
      refine (hlk _ _).imp fun d S1 q => ?_
      obtain ⟨rfl, rfl⟩ := q
      simp
    rintro e S1 ⟨rfl, rfl⟩
    refine Ev.sq (fun e S1 => ∃ F, FlowOk F ∧ e = [some x0, some (.loc 0), some (st cs), some (.tup (rs.map rD)), some (.bl dbl), x5, some (.lst (sgs p)), some (st w), x8, some (st (keyW rs dbl w)), some (st (keyW rs dbl w)), x11, x12, x13, x14] ∧ S1 = [F]) ?_ ?_
    · simp
      refine (draw_ok hF (by omega) (by omega)).imp fun d S1 q => ?_
      obtain ⟨i, F, rfl, h1, h2, hF, rfl⟩ := q
      by_cases hi : i = 0
      · simp [hi]
        refine (hky _ _).imp fun d S1 q => ?_
        obtain ⟨rfl, rfl⟩ := q
        simp [hF]
      · simp [hi, permD]
        refine (hky _ _).imp fun d S1 q => ?_
        obtain ⟨rfl, rfl⟩ := q
        simp [hF]
    rintro e S1 ⟨F, hF, rfl, rfl⟩
    refine Ev.sq (fun e S1 => e = [some x0, some (.loc 0), some (st cs), some (.tup (rs.map rD)), some (.bl dbl), x5, some (.lst (sgs p)), some (st w), x8, some (st (keyW rs dbl w)), some (st (keyW rs dbl w)), x11, x12, x13, x14] ∧ S1 = [F]) ?_ ?_
    · simp
      refine same_ok.imp fun d S1 q => ?_
      obtain ⟨rfl, rfl⟩ := q
      simp
      refine (hky _ _).imp fun d S1 q => ?_
      obtain ⟨rfl, rfl⟩ := q
      simp
      refine (hlk _ _).imp fun d S1 q => ?_
      obtain ⟨rfl, rfl⟩ := q
      simp
      refine same_ok.imp fun d S1 q => ?_
      obtain ⟨rfl, rfl⟩ := q
      simp
    rintro e S1 ⟨rfl, rfl⟩
    refine Ev.sq (fun e S1 => ∃ F, FlowOk F ∧ e = [some x0, some (.loc 0), some (st cs), some (.tup (rs.map rD)), some (.bl dbl), x5, some (.lst (sgs p)), some (st w), x8, some (st (keyW rs dbl w)), some (st (keyW rs dbl w)), x11, x12, x13, x14] ∧ S1 = [F]) ?_ ?_
    · simp
      refine (alike_ok hF hrs (by omega)).imp fun d S1 q => ?_
      obtain ⟨F, w', rfl, h1, h2, hF, rfl⟩ := q
      simp
      refine (key_ok hrs.sg (by omega)).imp fun d S1 q => ?_
      obtain ⟨rfl, rfl⟩ := q
      have e1 : keyW rs dbl w' = keyW rs dbl w := by unfold keyW; rw [h1]
      simp [e1]
      refine same_ok.imp fun d S1 q => ?_
      obtain ⟨rfl, rfl⟩ := q
      simp [hF]
    rintro e S1 ⟨F, hF, rfl, rfl⟩
    refine Ev.sq (fun e S1 => ∃ F, ∃ k : Nat, FlowOk F ∧ k ≤ w.length ∧ e = [some x0, some (.loc 0), some (st cs), some (.tup (rs.map rD)), some (.bl dbl), x5, some (.lst (sgs p)), some (st w), x8, some (st (keyW rs dbl w)), some (st (keyW rs dbl w)), some (.int k), x12, x13, x14] ∧ S1 = [F]) ?_ ?_
    · simp [hw2]
      refine (draw_ok hF (by omega) (by omega)).imp fun d S1 q => ?_
      obtain ⟨i, F, rfl, h1, h2, hF, rfl⟩ := q
      obtain ⟨k, rfl⟩ := Int.eq_ofNat_of_zero_le h1
      simp
      exact ⟨F, hF, k, by omega, rfl, rfl⟩
    rintro e S1 ⟨F, k, hF, hk, rfl, rfl⟩
    refine Ev.sq (fun e S1 => e = [some x0, some (.loc 0), some (st cs), some (.tup (rs.map rD)), some (.bl dbl), x5, some (.lst (sgs p)), some (st w), x8, some (st (keyW rs dbl w)), some (st (keyW rs dbl w)), some (.int k), some (st (keyW rs dbl (w.take k))), some (st (keyW rs dbl (w.drop k))), x14] ∧ S1 = [F]) ?_ ?_
    · simp [slD_st, hw2, cutL_to, cutL_from]
      refine (key_ok hrs.sg (by simp; omega)).imp fun d S1 q => ?_
      obtain ⟨rfl, rfl⟩ := q
      simp [slD_st, hw2, cutL_to, cutL_from]
      refine (key_ok hrs.sg (by simp; omega)).imp fun d S1 q => ?_
      obtain ⟨rfl, rfl⟩ := q
      simp
    rintro e S1 ⟨rfl, rfl⟩
    have hsp : w.take k ++ w.drop k = w := List.take_append_drop k w
    have hkl : ∀ (v : List Nat), v.length ≤ w.length → (keyW rs dbl v).length ≤ 40 := by
      intro v hv
      have := keyW_len (rs := rs) (d := dbl) (w := v) hrs.sg
      omega
    have l1 := hkl (w.take k) (by rw [List.length_take]; omega)
    have l2 := hkl (w.drop k) (by rw [List.length_drop]; omega)
    have hseam : keyW rs dbl w = keyW rs dbl (w.take k) ++ (keyW rs dbl (w.drop k)).drop (if dbl = true ∧ keyW rs dbl (w.take k) ≠ [] ∧ keyW rs dbl (w.drop k) ≠ [] ∧ (keyW rs dbl (w.take k)).getLast? = (keyW rs dbl (w.drop k)).head? then 1 else 0) := by
      unfold keyW
      conv => lhs; rw [← hsp, List.flatMap_append]
      cases dbl with
      | false => rw [keyL_f, keyL_f, keyL_f]; simp
      | true =>
        rw [keyL_seam]
        split
        · rename_i h
          rw [if_pos ⟨rfl, h⟩]
        · rename_i h
          rw [if_neg (fun z => h z.2), List.drop_zero]
    generalize keyW rs dbl (w.take k) = one at l1 hseam
    generalize keyW rs dbl (w.drop k) = two at l2 hseam
    generalize keyW rs dbl w = due at hseam
    refine Ev.sq (fun e S1 => e = [some x0, some (.loc 0), some (st cs), some (.tup (rs.map rD)), some (.bl dbl), x5, some (.lst (sgs p)), some (st w), x8, some (st due), some (st due), some (.int k), some (st one), some (st two), some (.int ((if dbl = true ∧ one ≠ [] ∧ two ≠ [] ∧ one.getLast? = two.head? then 1 else 0 : Nat) : Int))] ∧ S1 = [F]) ?_ ?_
    · cases dbl with
      | false => simp
      | true =>
        by_cases h1 : one = []
        · simp [h1, lit_e]
        · by_cases h2 : two = []
          · simp [h1, h2, lit_e]
          · obtain ⟨a, ha⟩ : ∃ a, one.getLast? = some a := ⟨one.getLast h1, List.getLast?_eq_some_getLast h1⟩
            obtain ⟨b, hb⟩ : ∃ b, two.head? = some b := ⟨two.head h2, List.head?_eq_some_head h2⟩
            have i1 : ∀ S, ixD (st one) (.int (-1)) S = ok (st [a]) S := fun S => ixD_st (by omega) (atI_last ha)
            have i2 : ∀ S, ixD (st two) (.int 0) S = ok (st [b]) S := fun S => ixD_st (by omega) (show atI two (0 : Int) = _ from Md.atI_nat (k := 0) (by rw [← List.head?_eq_getElem?]; exact hb))
            simp [h1, h2, lit_e, i1, i2, ha, hb]
            by_cases hab : a = b
            · simp [hab, h1, h2, ha, hb]
            · simp [hab, h1, h2, ha, hb]
    rintro e S1 ⟨rfl, rfl⟩
    generalize (if dbl = true ∧ one ≠ [] ∧ two ≠ [] ∧ one.getLast? = two.head? then 1 else 0 : Nat) = sm at hseam ⊢
    have l2' : two.length ≤ sizeLine := by omega
    simp [slD_st, l2', cutL_from]
    refine ⟨by omega, ?_⟩
    rw [hseam]
    simp
    exact .mk hF
  · rintro e S1 h
    obtain ⟨hF⟩ := h
    have e0 : keyW [] dbl cs = cs := by
      unfold keyW
      have : cs.flatMap (signOf []) = cs := by
        have : signOf [] = fun c => [c] := by funext c; rfl
        rw [this, List.flatMap_singleton']
      rw [this, keyL_nodup (by simpa using hc1)]; rfl
    simp
    refine (key_ok (rs := []) (d := dbl) (w := cs) (by simp) (by omega)).imp fun d S1 q => ?_
    obtain ⟨rfl, rfl⟩ := q
    rw [e0]
    simp
    refine same_ok.imp fun d S1 q => ?_
    obtain ⟨rfl, rfl⟩ := q
    simp
end G68

open PySem PySem.W PyProof.Rows
set_option maxHeartbeats 0 in
theorem PySem.Challenge.cw_fewoffers_k68_keys_of_eight_rules_holds : PySem.Challenge.rw_fewoffers_k68_keys_of_eight_rules.Holds := by
  w_on; o_law; k_head; (case hw => w_witness2)
  k_fill
  refine L2.walk_of (l := PySem.Challenge.rw_fewoffers_k68_keys_of_eight_rules) (n := 63) (k := 5) (x := "script") (CX := fun _ => L2.CX0) (sp := fun w => Md.spF _ G68.m_law) rfl (by decide) rfl ⟨rfl, by decide, by decide⟩ (fun w h Y => PySem.W.kIn_of Y) ?F (fun _ _ a ns hl _ hS => Md.spF_law hS G68.law_ok) (fun _ _ _ _ _ h => h)
  case F =>
    intro w mg fa h KX G hmg
    refine' G68.all_mk KX G hmg ?a1 ?l1 ?c1 ?k1 ?a2 ?l2 ?c2 ?k2 ?a3 ?l3 ?c3 ?k3 ?a4 ?l4 ?c4 ?k4 ?a5 ?l5 ?c5 ?k5 ?a6 ?l6 ?c6 ?k6 ?a7 ?l7 ?c7 ?k7 ?a8 ?l8 ?c8 ?k8 ?a9 ?l9 ?c9 ?k9 ?a10 ?l10 ?c10 ?k10 ?a11 ?l11 ?c11 ?k11 ?a12 ?l12 ?c12 ?k12 ?a13 ?l13 ?c13 ?k13 ?a14 ?l14 ?c14 ?k14 ?z_abs ?z_bool ?z_int ?z_isinstance ?z_len ?z_list ?z_min ?z_range ?z_sorted ?z_str ?z_tuple
    (case a1 => k_is); (case l1 => k_is); (case c1 => k_is); (case k1 => k_is); (case a2 => k_is); (case l2 => k_is); (case c2 => k_is); (case k2 => k_is); (case a3 => k_is); (case l3 => k_is); (case c3 => k_is); (case k3 => k_is); (case a4 => k_is); (case l4 => k_is); (case c4 => k_is); (case k4 => k_is); (case a5 => k_is); (case l5 => k_is); (case c5 => k_is); (case k5 => k_is); (case a6 => k_is); (case l6 => k_is); (case c6 => k_is); (case k6 => k_is); (case a7 => k_is); (case l7 => k_is); (case c7 => k_is); (case k7 => k_is); (case a8 => k_is); (case l8 => k_is); (case c8 => k_is); (case k8 => k_is); (case a9 => k_is); (case l9 => k_is); (case c9 => k_is); (case k9 => k_is); (case a10 => k_is); (case l10 => k_is); (case c10 => k_is); (case k10 => k_is); (case a11 => k_is); (case l11 => k_is); (case c11 => k_is); (case k11 => k_is); (case a12 => k_is); (case l12 => k_is); (case c12 => k_is); (case k12 => k_is); (case a13 => k_is); (case l13 => k_is); (case c13 => k_is); (case k13 => k_is); (case a14 => k_is); (case l14 => k_is); (case c14 => k_is); (case k14 => k_is); (case z_abs => k_is); (case z_bool => k_is); (case z_int => k_is); (case z_isinstance => k_is); (case z_len => k_is); (case z_list => k_is); (case z_min => k_is); (case z_range => k_is); (case z_sorted => k_is); (case z_str => k_is); (case z_tuple => k_is)
