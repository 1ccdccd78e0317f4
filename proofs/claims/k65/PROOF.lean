import PyProof.Rows.All
import HandS.ForMost
import HandS.ForExc
import HandS.Wide
import HandS.IsInst
import HandS.SortInts
import HandS.Comp
import HandS.WideBits
import HandS.Style
import HandS.TupLe
import PySem.Challenge.RW_keystuned_k65_near_closings
import HandS.EndBits
set_option Elab.async false
set_option linter.all false
set_option maxRecDepth 100000
set_option maxHeartbeats 4000000
set_option exponentiation.threshold 20000
/-! KtA: values as plain data, what stands for them in the abstract heap, who owns which lists. -/
namespace KT
open PySem PySem.Spec PyProof.Rows L2

abbrev D := PyData

mutual
/-- no list within: it never changes -/
def imm : D → Bool
  | .list _ => false
  | .dict _ => true
  | .tuple ds => immL ds
  | .none => true
  | .bool _ => true
  | .int _ => true
  | .str _ => true
def immL : List D → Bool
  | [] => true
  | d :: ds => imm d && immL ds
end

/-- the written part's list -/
def WrL (K : PySem.W.Frag) (a : Addr) (xs : List V) : Prop :=
  ∃ (o : Obj) (its : Array Value) (n : Nat), K.lookup a = some o ∧ o.cls = .type "list" ∧ o.dict = none ∧ o.data = .seq its n ∧ its.size ≤ sizeLine ∧ Vals xs its.toList

mutual
/-- v stands for d; N: the addresses of its lists, from the outside in (.dict stands for the script: a list that is never written) -/
inductive Rp (K : PySem.W.Frag) (H : Hp) : V → D → List Addr → Prop
  | non : Rp K H .non .none []
  | bl (c : Bool) : Rp K H (.bl c) (.bool c) []
  | int (i : Int) : Rp K H (.int i) (.int i) []
  | str (x : Str) : Rp K H (.str x) (.str x) []
  | lst {a : Addr} {xs : List V} {ds : List D} {N : List Addr} : H a = some (.lst xs) → Rps K H xs ds N → Rp K H (.ref a) (.list ds) (a :: N)
  | tup {a : Addr} {xs : List V} {ds : List D} {N : List Addr} : SqT K H a xs → Rps K H xs ds N → Rp K H (.ref a) (.tuple ds) N
  | scr {a : Addr} {ns : List Int} : ((∃ o, H a = some (.frz o (.lst (ns.map V.int)))) ∨ WrL K a (ns.map V.int)) → Rp K H (.ref a) (.dict (ns.map fun n => (.int n, .none))) []
inductive Rps (K : PySem.W.Frag) (H : Hp) : List V → List D → List Addr → Prop
  | nil : Rps K H [] [] []
  | cons {v : V} {vs : List V} {d : D} {ds : List D} {N M : List Addr} : Rp K H v d N → Rps K H vs ds M → Rps K H (v :: vs) (d :: ds) (N ++ M)
end

section
variable {K : PySem.W.Frag} {H H' : Hp}

theorem Same.upd_new {H : Hp} {p : Addr} {o : HO} (h : H p = none) : Same H (upd H p o) := fun b x e => by
  rw [upd_ne (ne_of_none e h)]; exact e

theorem SqT.same {a : Addr} {xs : List V} (e : Same H H') (h : SqT K H a xs) : SqT K H' a xs := by
  rcases h with (h | ⟨o, h⟩) | h
  · exact .inl (.inl (e _ _ h))
  · exact .inl (.inr ⟨o, e _ _ h⟩)
  · exact .inr h

mutual
theorem Rp.same (e : Same H H') {v : V} {d : D} {N : List Addr} : Rp K H v d N → Rp K H' v d N
  | .non => .non
  | .bl c => .bl c
  | .int i => .int i
  | .str x => .str x
  | .lst h r => .lst (e _ _ h) (Rps.same e r)
  | .tup h r => .tup (SqT.same e h) (Rps.same e r)
  | .scr h => .scr (h.imp (fun ⟨o, q⟩ => ⟨o, e _ _ q⟩) id)
theorem Rps.same (e : Same H H') {vs : List V} {ds : List D} {N : List Addr} : Rps K H vs ds N → Rps K H' vs ds N
  | .nil => .nil
  | .cons r s => .cons (Rp.same e r) (Rps.same e s)
end

mutual
/-- the lists of a value are tracked -/
theorem Rp.trk {v : V} {d : D} {N : List Addr} : Rp K H v d N → ∀ a ∈ N, H a ≠ none
  | .non => fun _ h => nomatch h
  | .bl _ => fun _ h => nomatch h
  | .int _ => fun _ h => nomatch h
  | .str _ => fun _ h => nomatch h
  | .lst h r => fun a ha => by
    rcases List.mem_cons.mp ha with rfl | ha
    · rw [h]; simp
    · exact r.trk a ha
  | .tup h r => r.trk
  | .scr _ => fun _ h => nomatch h
theorem Rps.trk {vs : List V} {ds : List D} {N : List Addr} : Rps K H vs ds N → ∀ a ∈ N, H a ≠ none
  | .nil => fun _ h => nomatch h
  | .cons r s => fun a ha => (List.mem_append.mp ha).elim (r.trk a) (s.trk a)
end

theorem SqT.upd {a p : Addr} {xs ys zs : List V} (hp : H p = some (.lst zs)) (h : SqT K H a xs) : SqT K (upd H p (.lst ys)) a xs := by
  rcases h with (h | ⟨o, h⟩) | h
  · exact .inl (.inl (by rw [upd_ne (ne_of h hp (by intro z; cases z))]; exact h))
  · exact .inl (.inr ⟨o, by rw [upd_ne (ne_of h hp (by intro z; cases z))]; exact h⟩)
  · exact .inr h

mutual
/-- another list has changed -/
theorem Rp.upd {p : Addr} {ys zs : List V} (hp : H p = some (.lst zs)) {v : V} {d : D} {N : List Addr} : Rp K H v d N → p ∉ N → Rp K (upd H p (.lst ys)) v d N
  | .non, _ => .non
  | .bl c, _ => .bl c
  | .int i, _ => .int i
  | .str x, _ => .str x
  | .lst h r, n => .lst (by rw [upd_ne (fun e => n (by rw [e]; exact List.mem_cons_self))]; exact h) (Rps.upd hp r fun z => n (List.mem_cons_of_mem _ z))
  | .tup h r, n => .tup (SqT.upd hp h) (Rps.upd hp r n)
  | .scr h, _ => .scr (h.imp (fun ⟨o, q⟩ => ⟨o, by rw [upd_ne (ne_of q hp (by intro z; cases z))]; exact q⟩) id)
theorem Rps.upd {p : Addr} {ys zs : List V} (hp : H p = some (.lst zs)) {vs : List V} {ds : List D} {N : List Addr} : Rps K H vs ds N → p ∉ N → Rps K (upd H p (.lst ys)) vs ds N
  | .nil, _ => .nil
  | .cons r s, n => .cons (Rp.upd hp r fun z => n (List.mem_append_left _ z)) (Rps.upd hp s fun z => n (List.mem_append_right _ z))
end

mutual
theorem Rp.imm {v : V} {d : D} {N : List Addr} : Rp K H v d N → imm d = true → N = []
  | .non, _ => rfl
  | .bl x, _ => rfl
  | .int x, _ => rfl
  | .str x, _ => rfl
  | .lst _ _, h => by simp [KT.imm] at h
  | .tup h r, i => Rps.imm r (by simpa [KT.imm] using i)
  | .scr _, _ => rfl
theorem Rps.imm {vs : List V} {ds : List D} {N : List Addr} : Rps K H vs ds N → immL ds = true → N = []
  | .nil, _ => rfl
  | .cons (d := d) (ds := ds) r s, i => by
    have i' : KT.imm d = true ∧ immL ds = true := by simpa [immL] using i
    rw [Rp.imm r i'.1, Rps.imm s i'.2]
    rfl
end

theorem Rps.length : ∀ {vs : List V} {ds : List D} {N : List Addr}, Rps K H vs ds N → vs.length = ds.length
  | _, _, _, .nil => rfl
  | _, _, _, .cons _ s => by simp [Rps.length s]

/-- an item of a sequence -/
theorem Rps.get : ∀ {vs : List V} {ds : List D} {N : List Addr} {i : Nat} {d : D}, Rps K H vs ds N → ds[i]? = some d →
    ∃ v A M B, vs[i]? = some v ∧ N = A ++ M ++ B ∧ Rp K H v d M
  | _, _, _, _, _, .nil, e => by simp at e
  | _, _, _, 0, d, .cons (N := N) (M := M) r s, e => by
    simp at e; subst e
    exact ⟨_, [], N, M, rfl, by simp, r⟩
  | _, _, _, i + 1, d, .cons (N := N) (M := M) r s, e => by
    obtain ⟨v, A, M', B, h1, h2, h3⟩ := Rps.get (i := i) (d := d) s (by simpa using e)
    exact ⟨v, N ++ A, M', B, by simpa using h1, by rw [h2]; simp, h3⟩
theorem Rps.getV : ∀ {vs : List V} {ds : List D} {N : List Addr} {i : Nat} {v : V}, Rps K H vs ds N → vs[i]? = some v →
    ∃ d A M B, ds[i]? = some d ∧ N = A ++ M ++ B ∧ Rp K H v d M := fun {vs ds N i v} r e => by
  have hl := r.length
  have hi : i < ds.length := by rw [← hl]; exact (List.getElem?_eq_some_iff.mp e).1
  obtain ⟨v', A, M, B, h1, h2, h3⟩ := r.get (i := i) (d := ds[i]) (List.getElem?_eq_getElem hi)
  rw [e] at h1
  cases h1
  exact ⟨_, A, M, B, List.getElem?_eq_getElem hi, h2, h3⟩
/-- an item replaced -/
theorem Rps.set : ∀ {vs : List V} {ds : List D} {N : List Addr} {i : Nat} {v : V} {d : D} {M : List Addr}, Rps K H vs ds N → Rp K H v d M → i < ds.length →
    ∃ A O B, N = A ++ O ++ B ∧ Rps K H (vs.set i v) (ds.set i d) (A ++ M ++ B)
  | _, _, _, _, _, _, _, .nil, _, h => by simp at h
  | _, _, _, 0, v, d, M, .cons (N := N) (M := M') r s, q, _ => ⟨[], N, M', by simp, by simpa using Rps.cons q s⟩
  | _, _, _, i + 1, v, d, M, .cons (N := N) (M := M') r s, q, h => by
    obtain ⟨A, O, B, h1, h2⟩ := Rps.set (i := i) s q (by simpa using h)
    exact ⟨N ++ A, O, B, by rw [h1]; simp, by simpa [List.append_assoc] using Rps.cons r h2⟩
theorem Rps.append : ∀ {vs ws : List V} {ds es : List D} {N M : List Addr}, Rps K H vs ds N → Rps K H ws es M → Rps K H (vs ++ ws) (ds ++ es) (N ++ M)
  | _, _, _, _, _, _, .nil, s => by simpa using s
  | _, _, _, _, _, _, .cons r t, s => by simpa [List.append_assoc] using Rps.cons r (Rps.append t s)
theorem Rps.one {v : V} {d : D} {N : List Addr} (r : Rp K H v d N) : Rps K H [v] [d] N := by
  simpa using Rps.cons r .nil
theorem Rps.take : ∀ (k : Nat) {vs : List V} {ds : List D} {N : List Addr}, Rps K H vs ds N → ∃ A B, N = A ++ B ∧ Rps K H (vs.take k) (ds.take k) A ∧ Rps K H (vs.drop k) (ds.drop k) B
  | 0, _, _, N, r => ⟨[], N, rfl, by simpa using Rps.nil, by simpa using r⟩
  | k + 1, _, _, _, .nil => ⟨[], [], rfl, by simpa using Rps.nil, by simpa using Rps.nil⟩
  | k + 1, _, _, _, .cons (N := N) (M := M) r s => by
    obtain ⟨A, B, h1, h2, h3⟩ := Rps.take k s
    exact ⟨N ++ A, B, by rw [h1]; simp, by simpa using Rps.cons r h2, by simpa using h3⟩
end

/-! ### a value of an expression, a slot of a def -/
/-- own: all its lists are its own, no other name or object holds them; roots: but the names whose lists it may hold -/
structure Val where
  d : D
  own : Bool
  roots : List Nat
structure Slot where
  d : D
  own : Bool
  pin : Bool
abbrev En := List (Option Slot)
abbrev Nu := Nat → List Addr

/-- the heap H, reached from H0 (what stood there stands), holds the names' data -/
structure EnvOk (K : PySem.W.Frag) (H0 : Hp) (π : Nat → Option V) (H : Hp) (σ : L2.St) (δ : En) (ν : Nu) : Prop where
  len : δ.length = σ.length
  sm : Same H0 H
  at_ : ∀ i s, δ[i]? = some (some s) → ∃ v, σ[i]? = some (some v) ∧ Rp K H v s.d (ν i) ∧ (s.pin = true → π i = some v)
  nd : ∀ i s, δ[i]? = some (some s) → s.own = true → (ν i).Nodup ∧ ∀ a ∈ ν i, H0 a = none
  dj : ∀ i j s t, i ≠ j → δ[i]? = some (some s) → s.own = true → δ[j]? = some (some t) → ∀ a ∈ ν i, a ∉ ν j

/-- a value come by from the heap H in H' -/
structure VOk (K : PySem.W.Frag) (H : Hp) (δ : En) (ν : Nu) (H' : Hp) (v : V) (x : Val) (M : List Addr) : Prop where
  rp : Rp K H' v x.d M
  nd : x.own = true → M.Nodup
  fr : x.own = true → ∀ a ∈ M, H a = none ∨ ∃ j ∈ x.roots, ∃ s, δ[j]? = some (some s) ∧ s.own = true ∧ a ∈ ν j
  al : ∀ j s, δ[j]? = some (some s) → s.own = true → j ∉ x.roots → ∀ a ∈ ν j, a ∉ M

section
variable {K : PySem.W.Frag} {H0 H H1 H' : Hp} {π : Nat → Option V} {σ : L2.St} {δ : En} {ν : Nu} {v : V} {x : Val} {M : List Addr}

theorem EnvOk.same (e : EnvOk K H0 π H σ δ ν) (s : Same H H') : EnvOk K H0 π H' σ δ ν :=
  ⟨e.len, e.sm.trans s, fun i t h => let ⟨v, a, b, c⟩ := e.at_ i t h; ⟨v, a, b.same s, c⟩, e.nd, e.dj⟩
theorem EnvOk.trk (e : EnvOk K H0 π H σ δ ν) {j : Nat} {s : Slot} (h : δ[j]? = some (some s)) : ∀ a ∈ ν j, H a ≠ none :=
  let ⟨_, _, r, _⟩ := e.at_ j s h; r.trk

theorem VOk.same (q : VOk K H δ ν H1 v x M) (s : Same H1 H') : VOk K H δ ν H' v x M := ⟨q.rp.same s, q.nd, q.fr, q.al⟩
/-- seen from an earlier heap -/
theorem VOk.back (q : VOk K H1 δ ν H' v x M) (s : Same H H1) : VOk K H δ ν H' v x M :=
  ⟨q.rp, q.nd, fun o a ha => (q.fr o a ha).imp (fun z => s.free z) id, q.al⟩

/-- a value without lists is nobody's -/
def nv (x : Val) : Val := ⟨x.d, (match imm x.d with | true => true | false => x.own), (match imm x.d with | true => [] | false => x.roots)⟩
theorem VOk.nv (q : VOk K H δ ν H' v x M) : ∃ M', VOk K H δ ν H' v (nv x) M' := by
  unfold KT.nv
  cases h : KT.imm x.d with
  | true => exact ⟨[], q.rp.imm h ▸ q.rp, fun _ => List.nodup_nil, fun _ _ h => (nomatch h), fun _ _ _ _ _ _ _ h => (nomatch h)⟩
  | false => exact ⟨M, q⟩
/-- a value without lists, made -/
theorem VOk.imm {d : D} {N : List Addr} (r : Rp K H' v d N) (h : imm d = true) : VOk K H δ ν H' v ⟨d, true, []⟩ [] :=
  ⟨r.imm h ▸ r, fun _ => List.nodup_nil, fun _ _ h => (nomatch h), fun _ _ _ _ _ _ _ h => (nomatch h)⟩

/-- the names given up -/
def killR (δ : En) : List Nat → En
  | [] => δ
  | j :: r => (killR δ r).set j none
/-- the names whose lists are no more their own -/
def demS : Option Slot → Option Slot
  | some s => some { s with own := false }
  | none => none
def demR (δ : En) : List Nat → En
  | [] => δ
  | j :: r => match (killR δ [])[j]? with
    | some o => (demR δ r).set j (demS o)
    | none => demR δ r
theorem killR_len (δ : En) : ∀ r, (killR δ r).length = δ.length
  | [] => rfl
  | j :: r => by simp [killR, killR_len δ r]
theorem killR_some {δ : En} {i : Nat} {s : Slot} : ∀ {r : List Nat}, (killR δ r)[i]? = some (some s) → δ[i]? = some (some s) ∧ i ∉ r
  | [], h => ⟨h, by simp⟩
  | j :: r, h => by
    simp only [killR] at h
    by_cases e : j = i
    · subst e
      by_cases hl : j < (killR δ r).length
      · rw [List.getElem?_set_self hl] at h; cases h
      · rw [List.getElem?_eq_none (by simpa using hl)] at h; cases h
    · rw [List.getElem?_set_ne e] at h
      obtain ⟨h1, h2⟩ := killR_some h
      exact ⟨h1, by simp only [List.mem_cons, not_or]; exact ⟨fun z => e z.symm, h2⟩⟩
theorem demR_len (δ : En) : ∀ r, (demR δ r).length = δ.length
  | [] => rfl
  | j :: r => by
    simp only [demR]
    split
    · simp [demR_len δ r]
    · exact demR_len δ r
theorem demR_some {δ : En} {i : Nat} {s : Slot} : ∀ {r : List Nat}, (demR δ r)[i]? = some (some s) →
    ∃ t, δ[i]? = some (some t) ∧ s.d = t.d ∧ s.pin = t.pin ∧ (s.own = true → t.own = true ∧ i ∉ r)
  | [], h => ⟨s, h, rfl, rfl, fun z => ⟨z, by simp⟩⟩
  | j :: r, h => by
    simp only [demR, killR] at h
    split at h
    · rename_i o ho
      by_cases e : j = i
      · subst e
        have hl : j < (demR δ r).length := by rw [demR_len]; exact (List.getElem?_eq_some_iff.mp ho).1
        rw [List.getElem?_set_self hl] at h
        cases o with
        | none => simp [demS] at h
        | some t =>
          simp [demS] at h
          subst h
          exact ⟨t, ho, rfl, rfl, fun z => (nomatch z)⟩
      · rw [List.getElem?_set_ne e] at h
        obtain ⟨t, h1, h2, h3, h4⟩ := demR_some h
        exact ⟨t, h1, h2, h3, fun z => ⟨(h4 z).1, by simp only [List.mem_cons, not_or]; exact ⟨fun z => e z.symm, (h4 z).2⟩⟩⟩
    · rename_i ho
      obtain ⟨t, h1, h2, h3, h4⟩ := demR_some h
      refine ⟨t, h1, h2, h3, fun z => ⟨(h4 z).1, ?_⟩⟩
      simp only [List.mem_cons, not_or]
      refine ⟨fun z => ?_, (h4 z).2⟩
      subst z
      rw [h1] at ho; cases ho

/-! the same with the names' list kept written out, for computing -/
def setK : En → Nat → Option Slot → (En → Prop) → Prop
  | [], _, _, P => P []
  | _ :: r, 0, o, P => P (o :: r)
  | a :: r, i + 1, o, P => setK r i o fun r' => P (a :: r')
theorem setK_eq : ∀ (δ : En) (i : Nat) (o : Option Slot) (P : En → Prop), setK δ i o P = P (δ.set i o)
  | [], _, _, _ => rfl
  | _ :: _, 0, _, _ => rfl
  | a :: r, i + 1, o, P => by
    show setK r i o (fun r' => P (a :: r')) = _
    rw [setK_eq r i o]
    rfl
def killK : En → List Nat → (En → Prop) → Prop
  | δ, [], P => P δ
  | δ, j :: r, P => killK δ r fun δ' => setK δ' j none P
theorem killK_eq : ∀ (r : List Nat) (δ : En) (P : En → Prop), killK δ r P = P (killR δ r)
  | [], _, _ => rfl
  | j :: r, δ, P => by
    show killK δ r (fun δ' => setK δ' j none P) = _
    rw [killK_eq r δ, setK_eq]
    rfl
def demK : En → List Nat → (En → Prop) → Prop
  | δ, [], P => P δ
  | δ, j :: r, P => match δ[j]? with
    | some o => demK δ r fun δ' => setK δ' j (demS o) P
    | none => demK δ r P
theorem demK_eq : ∀ (r : List Nat) (δ : En) (P : En → Prop), demK δ r P = P (demR δ r)
  | [], _, _ => rfl
  | j :: r, δ, P => by
    show (match δ[j]? with | some o => demK δ r fun δ' => setK δ' j (demS o) P | none => demK δ r P) = P (match (killR δ [])[j]? with | some o => (demR δ r).set j (demS o) | none => demR δ r)
    simp only [killR]
    cases δ[j]? with
    | none => exact demK_eq r δ P
    | some o =>
      show demK δ r (fun δ' => setK δ' j (demS o) P) = _
      rw [demK_eq r δ, setK_eq]
theorem EnvOk.kill (e : EnvOk K H0 π H σ δ ν) (r : List Nat) : EnvOk K H0 π H σ (killR δ r) ν :=
  ⟨(killR_len δ r).trans e.len, e.sm, fun i s h => e.at_ i s (killR_some h).1, fun i s h => e.nd i s (killR_some h).1, fun i j s t n h o h' => e.dj i j s t n (killR_some h).1 o (killR_some h').1⟩
theorem EnvOk.dem (e : EnvOk K H0 π H σ δ ν) (r : List Nat) : EnvOk K H0 π H σ (demR δ r) ν := by
  refine ⟨(demR_len δ r).trans e.len, e.sm, fun i s h => ?_, fun i s h o => ?_, fun i j s t n h o h' => ?_⟩
  · obtain ⟨t, h1, h2, h3, h4⟩ := demR_some h
    obtain ⟨v, a, b, c⟩ := e.at_ i t h1
    exact ⟨v, a, h2 ▸ b, fun z => c (h3 ▸ z)⟩
  · obtain ⟨t, h1, h2, h3, h4⟩ := demR_some h
    exact e.nd i t h1 (h4 o).1
  · obtain ⟨t1, h1, h2, h3, h4⟩ := demR_some h
    obtain ⟨t2, h5, _⟩ := demR_some h'
    exact e.dj i j t1 t2 n h1 (h4 o).1 h5

/-- a value that no name's list meddles with -/
structure FOk (K : PySem.W.Frag) (H0 : Hp) (δ : En) (ν : Nu) (H' : Hp) (v : V) (d : D) (own : Bool) (M : List Addr) : Prop where
  rp : Rp K H' v d M
  nd : own = true → M.Nodup
  fr : own = true → ∀ a ∈ M, H0 a = none
  dj : own = true → ∀ a ∈ M, ∀ j s, δ[j]? = some (some s) → a ∉ ν j
  al : ∀ j s, δ[j]? = some (some s) → s.own = true → ∀ a ∈ ν j, a ∉ M

theorem VOk.killed (e : EnvOk K H0 π H σ δ ν) (q : VOk K H δ ν H' v x M) : FOk K H0 (killR δ x.roots) ν H' v x.d x.own M := by
  refine ⟨q.rp, q.nd, fun o a ha => ?_, fun o a ha j s h hj => ?_, fun j s h o a ha => ?_⟩
  · rcases q.fr o a ha with z | ⟨k, _, s, hk, ho, hm⟩
    · exact e.sm.free z
    · exact (e.nd k s hk ho).2 a hm
  · obtain ⟨h1, h2⟩ := killR_some h
    rcases q.fr o a ha with z | ⟨k, hkr, t, hk, ho, hm⟩
    · exact e.trk h1 a hj z
    · by_cases ek : k = j
      · subst ek; exact h2 hkr
      · exact e.dj k j t s ek hk ho h1 a hm hj
  · obtain ⟨h1, h2⟩ := killR_some h
    exact q.al j s h1 o h2 a ha
theorem VOk.demoted (e : EnvOk K H0 π H σ δ ν) (q : VOk K H δ ν H' v x M) : FOk K H0 (demR δ x.roots) ν H' v x.d false M := by
  refine ⟨q.rp, fun z => (nomatch z), fun z => (nomatch z), fun z => (nomatch z), fun j s h o a ha => ?_⟩
  obtain ⟨t, h1, h2, h3, h4⟩ := demR_some h
  exact q.al j t h1 (h4 o).1 (h4 o).2 a ha

/-- a name is given a value -/
theorem EnvOk.set (e : EnvOk K H0 π H σ δ ν) {d : D} {own : Bool} (q : FOk K H0 δ ν H v d own M) (i : Nat) :
    EnvOk K H0 π H (σ.set i (some v)) (δ.set i (some ⟨d, own, false⟩)) (fun j => if j = i then M else ν j) := by
  have look : ∀ j s, (δ.set i (some ⟨d, own, false⟩))[j]? = some (some s) → (j = i ∧ s = ⟨d, own, false⟩ ∧ i < δ.length) ∨ (j ≠ i ∧ δ[j]? = some (some s)) := fun j s h => by
    by_cases ej : j = i
    · subst ej
      by_cases hl : j < δ.length
      · rw [List.getElem?_set_self hl] at h
        cases h
        exact .inl ⟨rfl, rfl, hl⟩
      · rw [List.getElem?_eq_none (by simpa using hl)] at h; cases h
    · rw [List.getElem?_set_ne (Ne.symm ej)] at h
      exact .inr ⟨ej, h⟩
  refine ⟨by simpa using e.len, e.sm, fun j s h => ?_, fun j s h o => ?_, fun j k s t n h o h' a ha => ?_⟩
  · rcases look j s h with ⟨rfl, rfl, hl⟩ | ⟨n, h⟩
    · refine ⟨v, List.getElem?_set_self (by rw [← e.len]; exact hl), ?_, fun z => (nomatch z)⟩
      rw [if_pos rfl]
      exact q.rp
    · obtain ⟨w, a, b, c⟩ := e.at_ j s h
      refine ⟨w, by rw [List.getElem?_set_ne (Ne.symm n)]; exact a, ?_, c⟩
      rw [if_neg n]
      exact b
  · show (if j = i then M else ν j).Nodup ∧ ∀ a ∈ (if j = i then M else ν j), H0 a = none
    rcases look j s h with ⟨rfl, rfl, hl⟩ | ⟨n, h⟩
    · rw [if_pos rfl]
      exact ⟨q.nd o, q.fr o⟩
    · rw [if_neg n]
      exact e.nd j s h o
  · have ha : a ∈ (if j = i then M else ν j) := ha
    show a ∉ (if k = i then M else ν k)
    rcases look j s h with ⟨rfl, rfl, hl⟩ | ⟨n1, h2⟩
    · rw [if_pos rfl] at ha
      rcases look k t h' with ⟨rfl, _, _⟩ | ⟨n2, h3⟩
      · exact absurd rfl n
      · rw [if_neg n2]
        exact q.dj o a ha k t h3
    · have ha2 : a ∈ ν j := by
        rw [if_neg n1] at ha
        exact ha
      rcases look k t h' with ⟨rfl, _, _⟩ | ⟨n2, h3⟩
      · rw [if_pos rfl]
        exact q.al j s h2 o a ha2
      · rw [if_neg n2]
        exact e.dj j k s t n h2 o h3 a ha2
end
end KT
/-! KtB: an expression as a predicate over plain data (DE), its judgement EV, the rules. -/
namespace KT
open PySem PySem.Spec PyProof.Rows L2

abbrev DE := En → (Val → Prop) → Prop
abbrev DA := En → (List Val → Prop) → Prop

def semE (K : PySem.W.Frag) (H0 : Hp) (π : Nat → Option V) (f : DE) : TE := fun σ H Q =>
  ∃ δ ν, EnvOk K H0 π H σ δ ν ∧ f δ fun x => ∀ v H' M, Same H H' → VOk K H δ ν H' v x M → Q v H'

structure EV (X : Cx) (e : Expr) (f : DE) : Prop where
  mono : ∀ δ (P P' : Val → Prop), (∀ x, P x → P' x) → f δ P → f δ P'
  pe : ∀ H0 π, PE X e (semE X.K H0 π f)

theorem pei {X : Cx} {e : Expr} {t t' : TE} (h : PE X e t) (i : ∀ σ H Q, t' σ H Q → t σ H Q) : PE X e t' :=
  ⟨fun pins s σ H Q I q => h.run pins s σ H Q I (i σ H Q q)⟩
theorem pti {X : Cx} {e : Expr} {t t' : TT} (h : PT X e t) (i : ∀ σ H Q, t' σ H Q → t σ H Q) : PT X e t' :=
  ⟨fun pins s σ H Q I q => h.run pins s σ H Q I (i σ H Q q)⟩
theorem pai {X : Cx} {e : List Expr} {t t' : TA} (h : PA X e t) (i : ∀ σ H Q, t' σ H Q → t σ H Q) : PA X e t' :=
  ⟨fun pos pins s σ H Q I q => h.run pos pins s σ H Q I (i σ H Q q)⟩

/-- lists of values, come by one after another -/
inductive VsOk (K : PySem.W.Frag) : Hp → En → Nu → Hp → List V → List Val → List (List Addr) → Prop
  | nil {H δ ν H'} : VsOk K H δ ν H' [] [] []
  | cons {H δ ν H' v x M vs xs Ms} : VOk K H δ ν H' v x M → VsOk K H δ ν H' vs xs Ms →
      (∀ (i : Nat) (y : Val) (My : List Addr), xs[i]? = some y → Ms[i]? = some My → y.own = true → (∀ k ∈ y.roots, k ∉ x.roots) → ∀ a ∈ My, a ∉ M) → VsOk K H δ ν H' (v :: vs) (x :: xs) (M :: Ms)
section
variable {K : PySem.W.Frag} {H0 H H1 H' : Hp} {π : Nat → Option V} {σ : L2.St} {δ : En} {ν : Nu}
theorem VsOk.same : ∀ {vs : List V} {xs : List Val} {Ms : List (List Addr)}, VsOk K H δ ν H1 vs xs Ms → Same H1 H' → VsOk K H δ ν H' vs xs Ms
  | _, _, _, .nil, _ => .nil
  | _, _, _, .cons q r c, s => .cons (q.same s) (r.same s) c
theorem VsOk.back : ∀ {vs : List V} {xs : List Val} {Ms : List (List Addr)}, VsOk K H1 δ ν H' vs xs Ms → Same H H1 → VsOk K H δ ν H' vs xs Ms
  | _, _, _, .nil, _ => .nil
  | _, _, _, .cons q r c, s => .cons (q.back s) (r.back s) c
theorem VsOk.get : ∀ {vs : List V} {xs : List Val} {Ms : List (List Addr)} {i : Nat} {x : Val} {M : List Addr}, VsOk K H δ ν H' vs xs Ms → xs[i]? = some x → Ms[i]? = some M → ∃ v, VOk K H δ ν H' v x M
  | _, _, _, _, _, _, .nil, e, _ => by simp at e
  | _, _, _, 0, x, M, .cons q r c, e, f => by simp at e f; subst e f; exact ⟨_, q⟩
  | _, _, _, i + 1, x, M, .cons q r c, e, f => VsOk.get (i := i) r (by simpa using e) (by simpa using f)
theorem VsOk.rps : ∀ {vs : List V} {xs : List Val} {Ms : List (List Addr)}, VsOk K H δ ν H' vs xs Ms → Rps K H' vs (xs.map Val.d) Ms.flatten
  | _, _, _, .nil => .nil
  | _, _, _, .cons q r _ => by simpa using Rps.cons q.rp r.rps
theorem VsOk.length : ∀ {vs : List V} {xs : List Val} {Ms : List (List Addr)}, VsOk K H δ ν H' vs xs Ms → vs.length = xs.length
  | _, _, _, .nil => rfl
  | _, _, _, .cons _ r _ => by simp [r.length]
theorem VsOk.lenM : ∀ {vs : List V} {xs : List Val} {Ms : List (List Addr)}, VsOk K H δ ν H' vs xs Ms → Ms.length = xs.length
  | _, _, _, .nil => rfl
  | _, _, _, .cons _ r _ => by simp [r.lenM]
/-- which names' lists a value may hold -/
theorem VsOk.al : ∀ {vs : List V} {xs : List Val} {Ms : List (List Addr)}, VsOk K H δ ν H' vs xs Ms → ∀ j s, δ[j]? = some (some s) → s.own = true → j ∉ xs.flatMap Val.roots → ∀ a ∈ ν j, a ∉ Ms.flatten
  | _, _, _, .nil => fun _ _ _ _ _ _ _ h => by simp at h
  | _, _, _, .cons q r _ => fun j s h o n a ha hm => by
    simp only [List.flatMap_cons, List.mem_append, not_or] at n
    simp only [List.flatten_cons, List.mem_append] at hm
    exact hm.elim (q.al j s h o n.1 a ha) (r.al j s h o n.2 a ha)
theorem VsOk.fr : ∀ {vs : List V} {xs : List Val} {Ms : List (List Addr)}, VsOk K H δ ν H' vs xs Ms → xs.all Val.own = true → ∀ a ∈ Ms.flatten, H a = none ∨ ∃ j ∈ xs.flatMap Val.roots, ∃ s, δ[j]? = some (some s) ∧ s.own = true ∧ a ∈ ν j
  | _, _, _, .nil, _ => fun _ h => by simp at h
  | _, _, _, .cons (x := x) (xs := xs) q r _, h => fun a ha => by
    have h' : x.own = true ∧ xs.all Val.own = true := by rw [List.all_cons, Bool.and_eq_true] at h; exact h
    simp only [List.flatten_cons, List.mem_append] at ha
    rcases ha with ha | ha
    · rcases q.fr h'.1 a ha with z | ⟨j, hj, z⟩
      · exact .inl z
      · exact .inr ⟨j, by simp [hj], z⟩
    · rcases r.fr h'.2 a ha with z | ⟨j, hj, z⟩
      · exact .inl z
      · exact .inr ⟨j, by
          simp only [List.flatMap_cons, List.mem_append]
          exact .inr hj, z⟩
theorem mem_flat_get {α : Type} : ∀ {Ms : List (List α)} {a : α}, a ∈ Ms.flatten → ∃ (i : Nat) (M : List α), Ms[i]? = some M ∧ a ∈ M
  | [], _, h => by simp at h
  | M :: Ms, a, h => by
    simp only [List.flatten_cons, List.mem_append] at h
    rcases h with h | h
    · exact ⟨0, M, rfl, h⟩
    · obtain ⟨i, M', e, q⟩ := mem_flat_get h
      exact ⟨i + 1, M', by simpa using e, q⟩
theorem VsOk.nd : ∀ {vs : List V} {xs : List Val} {Ms : List (List Addr)}, VsOk K H δ ν H' vs xs Ms → xs.all Val.own = true → (xs.flatMap Val.roots).Nodup → Ms.flatten.Nodup
  | _, _, _, .nil, _, _ => by simp
  | _, _, _, .cons (x := x) (xs := xs) (Ms := Ms) q r c, h, n => by
    have h' : x.own = true ∧ xs.all Val.own = true := by rw [List.all_cons, Bool.and_eq_true] at h; exact h
    rw [List.flatMap_cons, List.nodup_append] at n
    rw [List.flatten_cons, List.nodup_append]
    refine ⟨q.nd h'.1, r.nd h'.2 n.2.1, fun a ha b hb e => ?_⟩
    subst e
    obtain ⟨i, My, e1, e2⟩ := mem_flat_get hb
    have hi : i < xs.length := by rw [← r.lenM]; exact (List.getElem?_eq_some_iff.mp e1).1
    have hy : xs[i]? = some xs[i] := List.getElem?_eq_getElem hi
    have ho : (xs[i]).own = true := List.all_eq_true.mp h'.2 _ (List.getElem_mem hi)
    exact c i xs[i] My hy e1 ho (fun k hk hk' => n.2.2 k hk' k (List.mem_flatMap.mpr ⟨xs[i], List.getElem_mem hi, hk⟩) rfl) a e2 ha
end

def semA (K : PySem.W.Frag) (H0 : Hp) (π : Nat → Option V) (f : DA) : TA := fun σ H Q =>
  ∃ δ ν, EnvOk K H0 π H σ δ ν ∧ f δ fun xs => ∀ vs H' Ms, Same H H' → VsOk K H δ ν H' vs xs Ms → Q vs H'
structure EA (X : Cx) (es : List Expr) (f : DA) : Prop where
  mono : ∀ δ (P P' : List Val → Prop), (∀ x, P x → P' x) → f δ P → f δ P'
  pa : ∀ H0 π, PA X es (semA X.K H0 π f)

section
variable {X : Cx} {a b e : Expr} {es : List Expr} {fa fb f : DE} {g : DA} {pos : Pos}

/-! ### argument lists -/
def aNil : DA := fun _ P => P []
def aCons (f : DE) (g : DA) : DA := fun δ P => f δ fun x => g δ fun xs => P (x :: xs)
theorem ea_nil : EA X [] aNil :=
  ⟨fun _ _ _ h q => h _ q, fun H0 π => pai pa_nil fun σ H Q ⟨δ, ν, _, q⟩ => q [] H [] (Same.refl H) .nil⟩
theorem ea_cons (ha : EV X e f) (hr : EA X es g) (hs : starEach (e :: es) X.env = (false, eval e X.env) :: starEach es X.env := by rfl) : EA X (e :: es) (aCons f g) := by
  refine ⟨fun δ P P' h q => ha.mono _ _ _ (fun x q => hr.mono _ _ _ (fun xs q => h _ q) q) q, fun H0 π => pai (pa_cons (ha.pe H0 π) (hr.pa H0 π) hs) fun σ H Q ⟨δ, ν, E, q⟩ => ?_⟩
  refine ⟨δ, ν, E, ha.mono _ _ _ (fun x q v H1 M s1 o1 => ?_) q⟩
  refine ⟨δ, ν, E.same s1, hr.mono _ _ _ (fun xs q vs H2 Ms s2 o2 => ?_) q⟩
  refine q (v :: vs) H2 (M :: Ms) (s1.trans s2) (.cons (o1.same s2) (o2.back s1) fun i y My hy hM ho hr a ha hm => ?_)
  obtain ⟨_, oy⟩ := o2.get hy hM
  rcases oy.fr ho a ha with z | ⟨k, hk, t, ht, hto, hka⟩
  · exact o1.rp.trk a hm z
  · exact o1.al k t ht hto (hr k hk) a hka hm

/-! ### names, constants -/
def dVar (i : Nat) : DE := fun δ P => match δ[i]? with
  | some (some s) => P (nv ⟨s.d, s.own, [i]⟩)
  | _ => False
def dC (d : D) : DE := fun _ P => P ⟨d, true, []⟩
theorem slot_vok {K : PySem.W.Frag} {H0 H : Hp} {π : Nat → Option V} {σ : L2.St} {δ : En} {ν : Nu} (E : EnvOk K H0 π H σ δ ν) {i : Nat} {s : Slot} (h : δ[i]? = some (some s)) :
    ∃ v, σ[i]? = some (some v) ∧ VOk K H δ ν H v ⟨s.d, s.own, [i]⟩ (ν i) := by
  obtain ⟨v, hv, r, _⟩ := E.at_ i s h
  refine ⟨v, hv, r, fun o => (E.nd i s h o).1, fun o a ha => .inr ⟨i, by simp, s, h, o, ha⟩, fun j t hj ho hn a ha => ?_⟩
  have n : j ≠ i := fun e => hn (by simp [e])
  exact E.dj j i t s n hj ho h a ha
theorem ev_var (i : Nat) {x : Str} {pos : Pos} (hN : X.N[i]? = some x := by rfl) (hv : Vis X.env.scope x := by first | exact Or.inl rfl | exact Or.inr (Or.inl rfl) | exact Or.inr (Or.inr rfl)) (hd : (x == ("__debug__" : Str)) = false := by decide)
    (hcd : (x == ("__classdict__" : Str)) = false := by decide) : EV X (.Name x pos) (dVar i) := by
  refine ⟨fun δ P P' h q => ?_, fun H0 π => pei (pe_var hN hv hd hcd) fun σ H Q ⟨δ, ν, E, q⟩ => ?_⟩
  · unfold dVar at *
    split at q
    · exact h _ q
    · exact q.elim
  · unfold dVar at q
    split at q
    · rename_i s hs
      obtain ⟨v, hv, o⟩ := slot_vok E hs
      obtain ⟨M', o'⟩ := o.nv
      exact ⟨v, hv, q v H M' (Same.refl H) o'⟩
    · exact q.elim
theorem ev_c {e : Expr} {v : V} {d : D} (hp : PE X e (tC v)) (r : ∀ K H, Rp K H v d []) : EV X e (dC d) :=
  ⟨fun _ _ _ h q => h _ q, fun H0 π => pei hp fun σ H Q ⟨δ, ν, _, q⟩ => q v H [] (Same.refl H) ⟨r _ _, fun _ => List.nodup_nil, fun _ _ h => (nomatch h), fun _ _ _ _ _ _ _ h => (nomatch h)⟩⟩
theorem ev_int {i j pos} : EV X (.Constant (.int i) j pos) (dC (.int i)) := ev_c pe_int fun _ _ => .int _
theorem ev_bl {b j pos} : EV X (.Constant (.bool b) j pos) (dC (.bool b)) := ev_c pe_bl fun _ _ => .bl _
theorem ev_non {j pos} : EV X (.Constant .none j pos) (dC .none) := ev_c pe_non fun _ _ => .non
theorem ev_str {x j pos} : EV X (.Constant (.str x) j pos) (dC (.str x)) := ev_c pe_str fun _ _ => .str _

/-! ### operations that give something new -/
/-- a fresh value behind H -/
def FR (K : PySem.W.Frag) (H : Hp) (Q : D → Prop) : VK := fun v H' => ∃ d M, Same H H' ∧ Rp K H' v d M ∧ M.Nodup ∧ (∀ a ∈ M, H a = none) ∧ Q d
theorem FR.imm {K : PySem.W.Frag} {H : Hp} {Q : D → Prop} {v : V} {d : D} {N : List Addr} (r : Rp K H v d N) (i : imm d = true) (q : Q d) : FR K H Q v H :=
  ⟨d, [], Same.refl H, r.imm i ▸ r, List.nodup_nil, fun _ h => (nomatch h), q⟩
theorem FR.vok {K : PySem.W.Frag} {H0 H H1 H' : Hp} {δ : En} {ν : Nu} {v : V} {d : D} {M : List Addr} (s : Same H H1) (r : Rp K H' v d M) (n : M.Nodup) (f : ∀ a ∈ M, H1 a = none)
    {π : Nat → Option V} {σ : L2.St} (E : EnvOk K H0 π H σ δ ν) : VOk K H δ ν H' v ⟨d, true, []⟩ M :=
  ⟨r, fun _ => n, fun _ a ha => .inl (s.free (f a ha)), fun j t h _ _ a ha hm => E.trk h a ha (s.free (f a hm))⟩
abbrev K2 := D → D → (D → Prop) → Prop
/-- k tells what the operation r makes of two data -/
structure R2Ok (X : Cx) (r : R2) (k : K2) : Prop where
  mono : ∀ d e (Q Q' : D → Prop), (∀ x, Q x → Q' x) → k d e Q → k d e Q'
  ok : ∀ (H : Hp) (x y : V) (d e : D) (N M : List Addr) (Q : D → Prop) (R : VK), Rp X.K H x d N → Rp X.K H y e M → k d e Q → (∀ v H', FR X.K H Q v H' → R v H') → r x y H R
def dBin (k : K2) (fa fb : DE) : DE := fun δ P => fa δ fun x => fb δ fun y => k x.d y.d fun d => P ⟨d, true, []⟩
theorem ev_bin2 {e : Expr} {r : R2} {k : K2} (hk : R2Ok X r k) (ha : EV X a fa) (hb : EV X b fb) (hp : ∀ {ta tb : TE}, PE X a ta → PE X b tb → PE X e (tOp r ta tb)) : EV X e (dBin k fa fb) := by
  refine ⟨fun δ P P' h q => ha.mono _ _ _ (fun x q => hb.mono _ _ _ (fun y q => hk.mono _ _ _ _ (fun d q => h _ q) q) q) q, fun H0 π => pei (hp (ha.pe H0 π) (hb.pe H0 π)) fun σ H Q ⟨δ, ν, E, q⟩ => ?_⟩
  refine ⟨δ, ν, E, ha.mono _ _ _ (fun x q v H1 M s1 o1 => ?_) q⟩
  refine ⟨δ, ν, E.same s1, hb.mono _ _ _ (fun y q w H2 N s2 o2 => ?_) q⟩
  refine hk.ok H2 v w x.d y.d M N _ _ (o1.rp.same s2) o2.rp q fun u H3 ⟨d, M', s3, r3, n3, f3, q3⟩ => ?_
  exact q3 u H3 M' ((s1.trans s2).trans s3) (FR.vok (s1.trans s2) r3 n3 f3 E)
theorem ev_op {op : Operator} {r : R2} {k : K2} (ho : OpR X (binaryOp op) r) (hk : R2Ok X r k) (ha : EV X a fa) (hb : EV X b fb) : EV X (.BinOp a op b pos) (dBin k fa fb) :=
  ev_bin2 hk ha hb fun h1 h2 => pe_op ho h1 h2
theorem ev_cmp {op : CmpOp} {r : R2} {k : K2} (ho : OpR X (compareOp op) r) (hk : R2Ok X r k) (ha : EV X a fa) (hb : EV X b fb) (hm : behindInMarks op b = false) : EV X (.Compare a [op] [b] pos) (dBin k fa fb) :=
  ev_bin2 hk ha hb fun h1 h2 => pe_cmpR ho h1 h2 hm
theorem ev_ix2 {r : R2} {k : K2} (hr : IxR X r) (hk : R2Ok X r k) (ha : EV X a fa) (hb : EV X b fb) (hs : PlainIx b) : EV X (.Subscript a b pos) (dBin k fa fb) :=
  ev_bin2 hk ha hb fun h1 h2 => pe_ix hr h1 h2 hs
/-- one-place -/
abbrev K1 := D → (D → Prop) → Prop
def dUn (k : K1) (fa : DE) : DE := fun δ P => fa δ fun x => k x.d fun d => P ⟨d, true, []⟩
structure R1Ok (X : Cx) (r : V → Hp → VK → Prop) (k : K1) : Prop where
  mono : ∀ d (Q Q' : D → Prop), (∀ x, Q x → Q' x) → k d Q → k d Q'
  ok : ∀ (H : Hp) (x : V) (d : D) (N : List Addr) (Q : D → Prop) (R : VK), Rp X.K H x d N → k d Q → (∀ v H', FR X.K H Q v H' → R v H') → r x H R
theorem ev_un {op : UnaryOp} {r : V → Hp → VK → Prop} {k : K1} (ho : UnR X (unaryOp op) r) (hk : R1Ok X r k) (ha : EV X a fa) : EV X (.UnaryOp op a pos) (dUn k fa) := by
  refine ⟨fun δ P P' h q => ha.mono _ _ _ (fun x q => hk.mono _ _ _ (fun d q => h _ q) q) q, fun H0 π => pei (pe_un ho (ha.pe H0 π)) fun σ H Q ⟨δ, ν, E, q⟩ => ?_⟩
  refine ⟨δ, ν, E, ha.mono _ _ _ (fun x q v H1 M s1 o1 => ?_) q⟩
  refine hk.ok H1 v x.d M _ _ o1.rp q fun u H3 ⟨d, M', s3, r3, n3, f3, q3⟩ => ?_
  exact q3 u H3 M' (s1.trans s3) (FR.vok s1 r3 n3 f3 E)
/-- a call of a built-in -/
abbrev KL := List D → (D → Prop) → Prop
structure RLOk (X : Cx) (r : List V → Hp → VK → Prop) (k : KL) : Prop where
  mono : ∀ ds (Q Q' : D → Prop), (∀ x, Q x → Q' x) → k ds Q → k ds Q'
  ok : ∀ (H : Hp) (xs : List V) (ds : List D) (N : List Addr) (Q : D → Prop) (R : VK), Rps X.K H xs ds N → k ds Q → (∀ v H', FR X.K H Q v H' → R v H') → r xs H R
def dCall (k : KL) (g : DA) : DE := fun δ P => g δ fun xs => k (xs.map Val.d) fun d => P ⟨d, true, []⟩
theorem ev_callG {e' : Expr} {r : List V → Hp → VK → Prop} {k : KL} (hk : RLOk X r k) (ha : EA X es g) (hp : ∀ {t : TA}, PA X es t → PE X e' (fun σ H Q => t σ H fun xs H1 => r xs H1 Q)) : EV X e' (dCall k g) := by
  refine ⟨fun δ P P' h q => ha.mono _ _ _ (fun x q => hk.mono _ _ _ (fun d q => h _ q) q) q, fun H0 π => pei (hp (ha.pa H0 π)) fun σ H Q ⟨δ, ν, E, q⟩ => ?_⟩
  refine ⟨δ, ν, E, ha.mono _ _ _ (fun xs q vs H1 Ms s1 o1 => ?_) q⟩
  refine hk.ok H1 vs _ _ _ _ o1.rps q fun u H3 ⟨d, M', s3, r3, n3, f3, q3⟩ => ?_
  exact q3 u H3 M' (s1.trans s3) (FR.vok s1 r3 n3 f3 E)
theorem ev_callB {id : String} {x : Str} {p : Pos} {r : List V → Hp → VK → Prop} {k : KL} (hc : CallR X (.builtin id) r) (hk : RLOk X r k) (hg : Gl X x) (hm : X.mg x = none) (hv : bootBuiltins x = some (.builtin id)) (ha : EA X (e :: es) g)
    (hn : x ≠ "__name__" := by decide) (hdb : (x == ("__debug__" : Str)) = false := by decide)
    (he : starEach (e :: es) X.env = (false, eval e X.env) :: starEach es X.env := by rfl) (hpl : (backTo pos (starEach es X.env)).any (·.1) = false := by rfl) : EV X (.Call (.Name x p) (e :: es) [] pos) (dCall k g) :=
  ev_callG hk ha fun h => pe_callB hc hg hm hv h hn hdb he hpl
theorem ev_callTy {T : String} {x : Str} {p : Pos} {r : List V → Hp → VK → Prop} {k : KL} (hc : CallR X (.type T) r) (hk : RLOk X r k) (hg : Gl X x) (hm : X.mg x = none) (hv : bootBuiltins x = some (.type T)) (ha : EA X (e :: es) g)
    (hn : x ≠ "__name__" := by decide) (hdb : (x == ("__debug__" : Str)) = false := by decide)
    (he : starEach (e :: es) X.env = (false, eval e X.env) :: starEach es X.env := by rfl) (hpl : (backTo pos (starEach es X.env)).any (·.1) = false := by rfl) : EV X (.Call (.Name x p) (e :: es) [] pos) (dCall k g) :=
  ev_callG hk ha fun h => pe_callTy hc hg hm hv h hn hdb he hpl

/-! ### a call of a def -/
abbrev W := List D → (D → Prop) → Prop
/-- a def's promise from its predicate over data; n: how many parameters -/
def spOf (K : PySem.W.Frag) (n : Nat) (w : W) : Sp := fun vs H Q _ => vs.length = n ∧ ∃ ds N, Rps K H vs ds N ∧ ∃ Qd, w ds Qd ∧ ∀ d, Qd d → ∀ v H' M, Same H H' → Rp K H' v d M → M.Nodup → (∀ a ∈ M, H a = none) → Q v H'
/-- what a call of such a def makes of its arguments -/
def wCall (n : Nat) (w : W) : KL := fun ds Q => ds.length = n ∧ ∃ Qd, w ds Qd ∧ ∀ d, Qd d → Q d
theorem rl_def {w : W} {n : Nat} {E : XK} : RLOk X (fun vs H Q => spOf X.K n w vs H Q E) (wCall n w) := by
  refine ⟨fun ds Q Q' h ⟨q1, Qd, q2, q3⟩ => ⟨q1, Qd, q2, fun d z => h _ (q3 d z)⟩, fun H xs ds N Q R r ⟨q1, Qd, q2, q3⟩ h => ?_⟩
  exact ⟨by rw [r.length]; exact q1, ds, N, r, Qd, q2, fun d z v H' M s r n f => h v H' ⟨d, M, s, r, n, f, q3 d z⟩⟩
/-- a def of the text that keeps such a promise, by its name -/
structure Cal (P : Program) (w : World) (K : PySem.W.Frag) (mg : Str → Option Value) (base : Heap) (x : Str) (k n : Nat) (wf : W) : Prop where
  ex : ∃ (f : Addr) (fd : FuncData) (ps : List Str), FnOk P w K mg base CX0 k f fd ps (spOf K n wf) ∧ mg x = some (.ref f) ∧ PySem.W.keepIn K (.ref f) = true ∧ Binds K fd ps []
theorem ev_callC {j k n : Nat} {wf : W} {x : Str} {p : Pos} (c : Cal X.prog X.w X.K X.mg X.base x k n wf) (hg : Gl X x) (hr : Room j X.A) (ha : EA X (e :: es) g) (hk : k ≤ j := by decide)
    (hdb : (x == ("__debug__" : Str)) = false := by decide) (he : starEach (e :: es) X.env = (false, eval e X.env) :: starEach es X.env := by rfl) (hpl : (backTo pos (starEach es X.env)).any (·.1) = false := by rfl) :
    EV X (.Call (.Name x p) (e :: es) [] pos) (dCall (wCall n wf) g) :=
  ev_callG (rl_def (X := X) (E := L2.E0)) ha fun {t} h => by
    obtain ⟨f, fd, ps, F, hm, kp, hb⟩ := c.ex
    have q := pe_call (p := p) (pos := pos) F (hr.mono hk) hg hm kp hb .nil L2.pass0 h hdb he hpl
    have e : tCall (spOf X.K n wf) [] L2.E0 t = fun σ H Q => t σ H fun xs H1 => spOf X.K n wf xs H1 Q L2.E0 := by
      funext σ H Q
      unfold tCall
      simp only [List.append_nil]
    rw [e] at q
    exact q
end
end KT
/-! KtC: the operations. -/
namespace KT
open PySem PySem.Spec PyProof.Rows L2

/-! ### what stands for what -/
section
variable {K : PySem.W.Frag} {H : Hp} {v : V} {N : List Addr}
theorem Rp.int_ {i : Int} (r : Rp K H v (.int i) N) : v = .int i := by cases r; rfl
theorem Rp.bool_ {b : Bool} (r : Rp K H v (.bool b) N) : v = .bl b := by cases r; rfl
theorem Rp.none_ (r : Rp K H v .none N) : v = .non := by cases r; rfl
theorem Rp.str_ {x : Str} (r : Rp K H v (.str x) N) : v = .str x := by cases r; rfl
theorem Rp.list_ {ds : List D} (r : Rp K H v (.list ds) N) : ∃ a xs M, v = .ref a ∧ N = a :: M ∧ H a = some (.lst xs) ∧ Rps K H xs ds M := by
  cases r with
  | lst h r => exact ⟨_, _, _, rfl, rfl, h, r⟩
theorem Rp.tuple_ {ds : List D} (r : Rp K H v (.tuple ds) N) : ∃ a xs, v = .ref a ∧ SqT K H a xs ∧ Rps K H xs ds N := by
  cases r with
  | tup h r => exact ⟨_, _, rfl, h, r⟩
theorem Rps.ints : ∀ {xs : List V} {ns : List Int} {N : List Addr}, Rps K H xs (ns.map PyData.int) N → xs = ns.map V.int
  | _, [], _, .nil => rfl
  | _, n :: ns, _, .cons r s => by rw [r.int_, s.ints]; rfl
theorem Rps.strs : ∀ {xs : List V} {ns : List Str} {N : List Addr}, Rps K H xs (ns.map PyData.str) N → xs = ns.map V.str
  | _, [], _, .nil => rfl
  | _, n :: ns, _, .cons r s => by rw [r.str_, s.strs]; rfl
theorem rps_ints (K : PySem.W.Frag) (H : Hp) : ∀ ns : List Int, Rps K H (ns.map V.int) (ns.map PyData.int) []
  | [] => .nil
  | n :: ns => by simpa using Rps.cons (.int n) (rps_ints K H ns)
theorem imm_ints : ∀ ns : List Int, immL (ns.map PyData.int) = true
  | [] => rfl
  | n :: ns => by simp [immL, KT.imm, imm_ints ns]
theorem FR.newL {Q : D → Prop} {p : Addr} {xs : List V} {ds : List D} (hp : H p = none) (r : Rps K H xs ds N) (i : immL ds = true) (q : Q (.list ds)) : FR K H Q (.ref p) (upd H p (.lst xs)) := by
  have e := r.imm i
  subst e
  exact ⟨.list ds, [p], Same.upd_new hp, .lst upd_same (r.same (Same.upd_new hp)), by simp, fun a ha => by rw [List.mem_singleton.mp ha]; exact hp, q⟩
theorem FR.newT {Q : D → Prop} {p : Addr} {xs : List V} {ds : List D} (hp : H p = none) (r : Rps K H xs ds N) (i : immL ds = true) (q : Q (.tuple ds)) : FR K H Q (.ref p) (upd H p (.tup xs)) := by
  have e := r.imm i
  subst e
  exact ⟨.tuple ds, [], Same.upd_new hp, .tup (.inl (.inl upd_same)) (r.same (Same.upd_new hp)), by simp, fun a ha => (nomatch ha), q⟩
theorem immL_of {ds : List D} : immL ds = true ↔ ∀ d ∈ ds, imm d = true := by
  induction ds with
  | nil => simp [immL]
  | cons d ds ih => simp [immL, ih]
theorem immL_append (xs ys : List D) : immL (xs ++ ys) = (immL xs && immL ys) := by
  induction xs with
  | nil => simp [immL]
  | cons x xs ih => simp [immL, ih, Bool.and_assoc]
end

section
variable {X : Cx}
theorem OpR.or {f : Value → Value → Sem Value} {r r' : R2} (h : OpR X f r) (h' : OpR X f r') : OpR X f (fun x y H Q => r x y H Q ∨ r' x y H Q) := by
  intro pins s σ H x y v u Q I rx ry q
  rcases q with q | q
  · exact h pins s σ H x y v u Q I rx ry q
  · exact h' pins s σ H x y v u Q I rx ry q

/-! ### + - * // % ** -/
def kAdd : K2 := fun d e Q => match d, e with
  | .int i, .int j => Q (.int (i + j))
  | .str x, .str y => x.length + y.length ≤ sizeLine ∧ Q (.str (x ++ y))
  | .list xs, .list ys => (immL xs = true ∧ immL ys = true ∧ xs.length + ys.length ≤ sizeLine) ∧ Q (.list (xs ++ ys))
  | .tuple xs, .tuple ys => (immL xs = true ∧ immL ys = true ∧ xs ≠ [] ∧ xs.length + ys.length ≤ sizeLine) ∧ Q (.tuple (xs ++ ys))
  | _, _ => False
def rAddG (K : PySem.W.Frag) : R2 := fun x y H Q => (rI0 fun i j => .int (i + j)) x y H Q ∨ ((∃ i j, x = .str i ∧ y = .str j ∧ i.length + j.length ≤ sizeLine ∧ Q (.str (i ++ j)) H) ∨ (rCat x y H Q ∨ rCatT K x y H Q))
theorem op_addG : OpR X (binaryOp .Add) (rAddG X.K) := op_add.or (op_add_str.or (op_cat.or op_catT))
theorem ok_add : R2Ok X (rAddG X.K) kAdd := by
  refine ⟨fun d e Q Q' h q => ?_, fun H x y d e N M Q R r1 r2 q h => ?_⟩
  · unfold kAdd at *
    split at q
    · exact h _ q
    · exact ⟨q.1, h _ q.2⟩
    · exact ⟨q.1, h _ q.2⟩
    · exact ⟨q.1, h _ q.2⟩
    · exact q.elim
  · unfold kAdd at q
    split at q
    · exact .inl ⟨_, _, r1.int_, r2.int_, h _ _ (FR.imm (.int _) rfl q)⟩
    · exact .inr (.inl ⟨_, _, r1.str_, r2.str_, q.1, h _ _ (FR.imm (.str _) rfl q.2)⟩)
    · obtain ⟨⟨i1, i2, hz⟩, q⟩ := q
      obtain ⟨a, xs, A, rfl, rfl, ha, s1⟩ := r1.list_
      obtain ⟨b, ys, B, rfl, rfl, hb, s2⟩ := r2.list_
      refine .inr (.inr (.inl ⟨a, b, xs, ys, rfl, rfl, ha, hb, by rw [s1.length, s2.length]; exact hz, fun p hp => h _ _ (FR.newL hp (s1.append s2) ?_ q)⟩))
      rw [immL_append, i1, i2]; rfl
    · obtain ⟨⟨i1, i2, ne, hz⟩, q⟩ := q
      obtain ⟨a, xs, rfl, ha, s1⟩ := r1.tuple_
      obtain ⟨b, ys, rfl, hb, s2⟩ := r2.tuple_
      refine .inr (.inr (.inr ⟨a, b, xs, ys, rfl, rfl, ha, hb, fun e => ne ?_, by rw [s1.length, s2.length]; exact hz, fun e => ?_, fun _ p hp => h _ _ (FR.newT hp (s1.append s2) ?_ q)⟩))
      · have := s1.length
        rw [e] at this
        exact List.length_eq_zero_iff.mp this.symm
      · subst e
        cases s2
        rw [List.append_nil] at q
        have ei := s1.imm i1
        subst ei
        exact h _ _ ⟨_, [], Same.refl H, .tup ha s1, List.nodup_nil, fun _ z => (nomatch z), q⟩
      · rw [immL_append, i1, i2]; rfl
    · exact q.elim
/-- ints alone, under a condition -/
def kII (C : Int → Int → Prop) (g : Int → Int → D) : K2 := fun d e Q => match d, e with
  | .int i, .int j => C i j ∧ Q (g i j)
  | _, _ => False
theorem ok_II {C : Int → Int → Prop} {g : Int → Int → V} {g' : Int → Int → D} (hg : ∀ K H i j, Rp K H (g i j) (g' i j) []) (hi : ∀ i j, imm (g' i j) = true) : R2Ok X (rI C g) (kII C g') := by
  refine ⟨fun d e Q Q' h q => ?_, fun H x y d e N M Q R r1 r2 q h => ?_⟩
  · unfold kII at *
    split at q
    · exact ⟨q.1, h _ q.2⟩
    · exact q.elim
  · unfold kII at q
    split at q
    · exact ⟨_, _, r1.int_, r2.int_, q.1, h _ _ (FR.imm (hg _ _ _ _) (hi _ _) q.2)⟩
    · exact q.elim
def kI0 (g : Int → Int → D) : K2 := fun d e Q => match d, e with
  | .int i, .int j => Q (g i j)
  | _, _ => False
theorem ok_I0 {g : Int → Int → V} {g' : Int → Int → D} (hg : ∀ K H i j, Rp K H (g i j) (g' i j) []) (hi : ∀ i j, imm (g' i j) = true) : R2Ok X (rI0 g) (kI0 g') := by
  refine ⟨fun d e Q Q' h q => ?_, fun H x y d e N M Q R r1 r2 q h => ?_⟩
  · unfold kI0 at *
    split at q
    · exact h _ q
    · exact q.elim
  · unfold kI0 at q
    split at q
    · exact ⟨_, _, r1.int_, r2.int_, h _ _ (FR.imm (hg _ _ _ _) (hi _ _) q)⟩
    · exact q.elim
def kSub : K2 := kI0 fun i j => .int (i - j)
theorem ok_sub : R2Ok X (rI0 fun i j => .int (i - j)) kSub := ok_I0 (fun _ _ _ _ => .int _) fun _ _ => rfl
/-- the size of a product is known -/
def MulOk (i j : Int) : Prop := CMul i j ∨ CMulW i j
def DivOk (_ j : Int) : Prop := 0 < j ∧ j.natAbs.log2 < 9000
def ModOk (_ j : Int) : Prop := 0 < j
def kMul : K2 := fun d e Q => match d, e with
  | .int i, .int j => MulOk i j ∧ Q (.int (i * j))
  | .list xs, .int k => (immL xs = true ∧ -(2 ^ 63) ≤ k ∧ k < 2 ^ 63 ∧ xs.length * k.toNat ≤ sizeLine) ∧ Q (.list (List.replicate k.toNat xs).flatten)
  | _, _ => False
def rMulG : R2 := fun x y H Q => rI CMul (fun i j => .int (i * j)) x y H Q ∨ (rI CMulW (fun i j => .int (i * j)) x y H Q ∨ rRep x y H Q)
theorem op_mulG : OpR X (binaryOp .Mult) rMulG := op_mul.or (op_mulW.or op_rep)
theorem Rps.rep {K : PySem.W.Frag} {H : Hp} {xs : List V} {ds : List D} (r : Rps K H xs ds []) : ∀ k : Nat, Rps K H (List.replicate k xs).flatten (List.replicate k ds).flatten []
  | 0 => .nil
  | k + 1 => by
    rw [List.replicate_succ, List.replicate_succ, List.flatten_cons, List.flatten_cons]
    simpa using r.append (Rps.rep r k)
theorem immL_rep {ds : List D} (h : immL ds = true) : ∀ k : Nat, immL (List.replicate k ds).flatten = true
  | 0 => rfl
  | k + 1 => by rw [List.replicate_succ, List.flatten_cons, immL_append, h, immL_rep h k]; rfl
theorem ok_mul : R2Ok X rMulG kMul := by
  refine ⟨fun d e Q Q' h q => ?_, fun H x y d e N M Q R r1 r2 q h => ?_⟩
  · unfold kMul at *
    split at q
    · exact ⟨q.1, h _ q.2⟩
    · exact ⟨q.1, h _ q.2⟩
    · exact q.elim
  · unfold kMul at q
    split at q
    · rcases q with ⟨c | c, q⟩
      · exact .inl ⟨_, _, r1.int_, r2.int_, c, h _ _ (FR.imm (.int _) rfl q)⟩
      · exact .inr (.inl ⟨_, _, r1.int_, r2.int_, c, h _ _ (FR.imm (.int _) rfl q)⟩)
    · obtain ⟨⟨i1, k1, k2, hz⟩, q⟩ := q
      obtain ⟨a, xs, A, rfl, rfl, ha, s1⟩ := r1.list_
      have ei := s1.imm i1
      subst ei
      exact .inr (.inr ⟨a, _, xs, rfl, r2.int_, ha, k1, k2, by rw [s1.length]; exact hz, fun p hp => h _ _ (FR.newL hp (s1.rep _) (immL_rep i1 _) q)⟩)
    · exact q.elim
def kDiv : K2 := kII DivOk fun i j => .int (i / j)
theorem ok_div : R2Ok X (rI CDivW fun i j => .int (i / j)) kDiv := ok_II (fun _ _ _ _ => .int _) fun _ _ => rfl
def kMod : K2 := kII ModOk fun i j => .int (i % j)
theorem ok_mod : R2Ok X (rI (fun _ j => 0 < j) fun i j => .int (i % j)) kMod := ok_II (fun _ _ _ _ => .int _) fun _ _ => rfl
def PowOk (i j : Int) : Prop := 0 ≤ j ∧ j ≤ 1000000 ∧ i.natAbs < 2 ^ 64
def kPow : K2 := kII PowOk fun i j => .int (i ^ j.toNat)
theorem ok_pow : R2Ok X (rI CPow fun i j => .int (i ^ j.toNat)) kPow := ok_II (fun _ _ _ _ => .int _) fun _ _ => rfl
/-! ### comparisons -/
def kLt : K2 := kI0 fun i j => .bool (decide (i < j))
def kLe : K2 := kI0 fun i j => .bool (decide (i ≤ j))
def kGt : K2 := kI0 fun i j => .bool (decide (j < i))
def kGe : K2 := kI0 fun i j => .bool (decide (j ≤ i))
theorem ok_lt : R2Ok X (rI0 fun i j => .bl (decide (i < j))) kLt := ok_I0 (fun _ _ _ _ => .bl _) fun _ _ => rfl
theorem ok_le : R2Ok X (rI0 fun i j => .bl (decide (i ≤ j))) kLe := ok_I0 (fun _ _ _ _ => .bl _) fun _ _ => rfl
theorem ok_gt : R2Ok X (rI0 fun i j => .bl (decide (j < i))) kGt := ok_I0 (fun _ _ _ _ => .bl _) fun _ _ => rfl
theorem ok_ge : R2Ok X (rI0 fun i j => .bl (decide (j ≤ i))) kGe := ok_I0 (fun _ _ _ _ => .bl _) fun _ _ => rfl
mutual
theorem Rp.dp {K : PySem.W.Frag} {H : Hp} {v : V} {d : D} {N : List Addr} : Rp K H v d N → SeqAt.shaped d = true → Dp K H v d
  | .non, _ => .non
  | .bl c, _ => .bl c
  | .int i, _ => .int i
  | .str x, _ => .str x
  | .lst h r, s => .lst (SqL.of h) (Rps.dp r (by
    have := SeqAt.canLay_of_shaped s
    simpa [PyData.canLay0] using this))
  | .tup h r, s => .tup h (Rps.dp r (by
    have := SeqAt.canLay_of_shaped s
    simpa [PyData.canLay0] using this))
  | .scr _, s => by
    have := SeqAt.canLay_of_shaped s
    simp [PyData.canLay0] at this
theorem Rps.dp {K : PySem.W.Frag} {H : Hp} {vs : List V} {ds : List D} {N : List Addr} : Rps K H vs ds N → PyData.canLayAll0 ds = true → DpAll K H vs ds
  | .nil, _ => .nil
  | .cons (d := d) (ds := ds) r s, h => by
    have h' : d.canLay0 = true ∧ PyData.canLayAll0 ds = true := by simpa [PyData.canLayAll0] using h
    exact .cons (Rp.dpC r h'.1) (Rps.dp s h'.2)
theorem Rp.dpC {K : PySem.W.Frag} {H : Hp} {v : V} {d : D} {N : List Addr} : Rp K H v d N → d.canLay0 = true → Dp K H v d
  | .non, _ => .non
  | .bl c, _ => .bl c
  | .int i, _ => .int i
  | .str x, _ => .str x
  | .lst h r, s => .lst (SqL.of h) (Rps.dp r (by simpa [PyData.canLay0] using s))
  | .tup h r, s => .tup h (Rps.dp r (by simpa [PyData.canLay0] using s))
  | .scr _, s => by simp [PyData.canLay0] at s
end
def ng (neg b : Bool) : Bool := match neg with
  | true => !b
  | false => b
@[simp] theorem ng_t (b : Bool) : ng true b = !b := rfl
@[simp] theorem ng_f (b : Bool) : ng false b = b := rfl
theorem ng_if (neg b : Bool) : (if neg then !b else b) = ng neg b := by cases neg <;> rfl
def kEqB (neg : Bool) : K2 := fun d e Q => match d, e with
  | .int i, .int j => Q (.bool (ng neg (decide (i = j))))
  | .str i, .str j => Q (.bool (ng neg (decide (i = j))))
  | d, e => (SeqAt.shaped d = true ∧ SeqAt.shaped e = true) ∧ Q (.bool (ng neg (PyData.eqv d e)))
abbrev kEq : K2 := kEqB false
abbrev kNe : K2 := kEqB true
theorem mono_eqB (neg : Bool) : ∀ d e (Q Q' : D → Prop), (∀ x, Q x → Q' x) → kEqB neg d e Q → kEqB neg d e Q' := fun d e Q Q' h q => by
  unfold kEqB at *
  split at q
  · exact h _ q
  · exact h _ q
  · exact ⟨q.1, h _ q.2⟩
theorem op_eqG (hu : X.A.units + 64 < cLine) : OpR X (compareOp .Eq) (fun x y H Q => rEq x y H Q ∨ rEqD X.K x y H Q) := op_eq.or (op_eqD hu)
theorem op_neG (hu : X.A.units + 64 < cLine) : OpR X (compareOp .NotEq) (fun x y H Q => rNe x y H Q ∨ rNeD X.K x y H Q) := op_ne.or (op_neD hu)
theorem ok_eq : R2Ok X (fun x y H Q => rEq x y H Q ∨ rEqD X.K x y H Q) kEq := by
  refine ⟨mono_eqB _, fun H x y d e N M Q R r1 r2 q h => ?_⟩
  unfold kEq kEqB at q
  split at q
  · rw [r1.int_, r2.int_]
    refine .inl ⟨rfl, h _ _ (FR.imm (.bl _) rfl ?_)⟩
    rw [show ∀ i j : Int, decide (V.int i = V.int j) = decide (i = j) from fun i j => by simp]
    exact q
  · rw [r1.str_, r2.str_]
    refine .inl ⟨rfl, h _ _ (FR.imm (.bl _) rfl ?_)⟩
    rw [show ∀ i j : Str, decide (V.str i = V.str j) = decide (i = j) from fun i j => by simp]
    exact q
  · exact .inr ⟨_, _, r1.dp q.1.1, r2.dp q.1.2, q.1.1, q.1.2, h _ _ (FR.imm (.bl _) rfl q.2)⟩
theorem ok_ne : R2Ok X (fun x y H Q => rNe x y H Q ∨ rNeD X.K x y H Q) kNe := by
  refine ⟨mono_eqB _, fun H x y d e N M Q R r1 r2 q h => ?_⟩
  unfold kNe kEqB at q
  split at q
  · rw [r1.int_, r2.int_]
    refine .inl ⟨rfl, h _ _ (FR.imm (.bl _) rfl ?_)⟩
    rw [show ∀ i j : Int, decide (V.int i = V.int j) = decide (i = j) from fun i j => by simp]
    exact q
  · rw [r1.str_, r2.str_]
    refine .inl ⟨rfl, h _ _ (FR.imm (.bl _) rfl ?_)⟩
    rw [show ∀ i j : Str, decide (V.str i = V.str j) = decide (i = j) from fun i j => by simp]
    exact q
  · exact .inr ⟨_, _, r1.dp q.1.1, r2.dp q.1.2, q.1.1, q.1.2, h _ _ (FR.imm (.bl _) rfl q.2)⟩
/-- in, not in, over flat things -/
def flatD : D → Bool
  | .none => true
  | .bool _ => true
  | .int _ => true
  | .str _ => true
  | _ => false
theorem flat_rp {K : PySem.W.Frag} {H : Hp} {v : V} {d : D} {N : List Addr} (r : Rp K H v d N) (f : flatD d = true) : flatV v = true ∧ ∀ {w e M}, Rp K H w e M → flatD e = true → eqV v w = PyData.eqv d e := by
  cases r <;> simp only [flatD] at f <;> first | exact absurd f (by decide) | skip
  all_goals refine ⟨rfl, fun {w e M} r2 f2 => ?_⟩
  all_goals cases r2 <;> simp only [flatD] at f2 <;> first | exact absurd f2 (by decide) | rfl
theorem flat_rps {K : PySem.W.Frag} {H : Hp} {v : V} {d : D} {N : List Addr} (r : Rp K H v d N) (f : flatD d = true) : ∀ {xs : List V} {ds : List D} {M : List Addr}, Rps K H xs ds M → ds.all flatD = true → xs.all flatV = true ∧ inV v xs = ds.any fun e => PyData.eqv e d
  | _, _, _, .nil, _ => ⟨rfl, rfl⟩
  | _, _, _, .cons (d := e) (ds := es) r1 s, h => by
    have h' : flatD e = true ∧ es.all flatD = true := by rw [List.all_cons, Bool.and_eq_true] at h; exact h
    obtain ⟨a, b⟩ := flat_rps r f s h'.2
    obtain ⟨c, g⟩ := flat_rp r1 h'.1
    refine ⟨by rw [List.all_cons, c, a]; rfl, ?_⟩
    show (eqV _ v || inV v _) = _
    rw [b, List.any_cons, g r f]
def kInB (neg : Bool) : K2 := fun d e Q => match e with
  | .list ds => (flatD d = true ∧ ds.all flatD = true) ∧ Q (.bool (ng neg (ds.any fun e => PyData.eqv e d)))
  | .tuple ds => (flatD d = true ∧ ds.all flatD = true) ∧ Q (.bool (ng neg (ds.any fun e => PyData.eqv e d)))
  | _ => False
abbrev kIn : K2 := kInB false
abbrev kNotIn : K2 := kInB true
theorem ok_inB (neg : Bool) : R2Ok X (rIn X.K neg) (kInB neg) := by
  refine ⟨fun d e Q Q' h q => ?_, fun H x y d e N M Q R r1 r2 q h => ?_⟩
  · unfold kInB at *
    split at q
    · exact ⟨q.1, h _ q.2⟩
    · exact ⟨q.1, h _ q.2⟩
    · exact q.elim
  · unfold kInB at q
    split at q
    · obtain ⟨⟨f1, f2⟩, q⟩ := q
      obtain ⟨a, xs, A, rfl, rfl, ha, s⟩ := r2.list_
      obtain ⟨g1, g2⟩ := flat_rps r1 f1 s f2
      refine ⟨a, xs, rfl, .inl (SqL.of ha), (flat_rp r1 f1).1, g1, h _ _ (FR.imm (.bl _) rfl ?_)⟩
      rw [g2, ng_if]; exact q
    · obtain ⟨⟨f1, f2⟩, q⟩ := q
      obtain ⟨a, xs, rfl, ha, s⟩ := r2.tuple_
      obtain ⟨g1, g2⟩ := flat_rps r1 f1 s f2
      refine ⟨a, xs, rfl, .inr ha, (flat_rp r1 f1).1, g1, h _ _ (FR.imm (.bl _) rfl ?_)⟩
      rw [g2, ng_if]; exact q
    · exact q.elim

/-! ### - not, is None, and, or -/
def kNeg : K1 := fun d Q => match d with
  | .int i => Q (.int (-i))
  | _ => False
theorem ok_neg : R1Ok X (rU fun i => .int (-i)) kNeg := by
  refine ⟨fun d Q Q' h q => ?_, fun H x d N Q R r q h => ?_⟩
  · unfold kNeg at *; split at q
    · exact h _ q
    · exact q.elim
  · unfold kNeg at q; split at q
    · exact ⟨_, r.int_, h _ _ (FR.imm (.int _) rfl q)⟩
    · exact q.elim
variable {a b e : Expr} {es : List Expr} {fa fb f : DE} {g : DA} {pos : Pos}
theorem ev_un1 {e : Expr} {r : V → Hp → VK → Prop} {k : K1} (hk : R1Ok X r k) (ha : EV X a fa) (hp : ∀ {ta : TE}, PE X a ta → PE X e (tUn r ta)) : EV X e (dUn k fa) := by
  refine ⟨fun δ P P' h q => ha.mono _ _ _ (fun x q => hk.mono _ _ _ (fun d q => h _ q) q) q, fun H0 π => pei (hp (ha.pe H0 π)) fun σ H Q ⟨δ, ν, E, q⟩ => ?_⟩
  refine ⟨δ, ν, E, ha.mono _ _ _ (fun x q v H1 M s1 o1 => ?_) q⟩
  refine hk.ok H1 v x.d M _ _ o1.rp q fun u H3 ⟨d, M', s3, r3, n3, f3, q3⟩ => ?_
  exact q3 u H3 M' (s1.trans s3) (FR.vok s1 r3 n3 f3 E)
def kNot : K1 := fun d Q => match d with
  | .bool b => Q (.bool (!b))
  | _ => False
theorem ok_not : R1Ok X (fun x H Q => ∃ c, x = .bl c ∧ Q (.bl (!c)) H) kNot := by
  refine ⟨fun d Q Q' h q => ?_, fun H x d N Q R r q h => ?_⟩
  · unfold kNot at *; split at q
    · exact h _ q
    · exact q.elim
  · unfold kNot at q; split at q
    · exact ⟨_, r.bool_, h _ _ (FR.imm (.bl _) rfl q)⟩
    · exact q.elim
theorem ev_not (ha : EV X a fa) : EV X (.UnaryOp .Not a pos) (dUn kNot fa) := ev_un1 ok_not ha fun h => pe_not h
theorem Rp.non_iff {K : PySem.W.Frag} {H : Hp} {v : V} {d : D} {N : List Addr} (r : Rp K H v d N) : decide (v = .non) = (match d with | .none => true | _ => false) := by
  cases r <;> simp
def isNone : D → Bool
  | .none => true
  | _ => false
def kIsN (neg : Bool) : K1 := fun d Q => Q (.bool (ng neg (isNone d)))
theorem Rp.isNone {K : PySem.W.Frag} {H : Hp} {v : V} {d : D} {N : List Addr} (r : Rp K H v d N) : decide (v = .non) = KT.isNone d := by
  cases r <;> simp [KT.isNone]
theorem ok_isN : R1Ok X (fun x H Q => Q (.bl (decide (x = .non))) H) (kIsN false) := by
  refine ⟨fun d Q Q' h q => h _ q, fun H x d N Q R r q h => ?_⟩
  refine h _ _ (FR.imm (.bl _) rfl ?_)
  rw [r.isNone]; exact q
theorem ok_notN : R1Ok X (fun x H Q => Q (.bl (!decide (x = .non))) H) (kIsN true) := by
  refine ⟨fun d Q Q' h q => h _ q, fun H x d N Q R r q h => ?_⟩
  refine h _ _ (FR.imm (.bl _) rfl ?_)
  rw [r.isNone]; exact q
theorem ev_isN {j pos'} (ha : EV X a fa) : EV X (.Compare a [.Is] [.Constant .none j pos'] pos) (dUn (kIsN false) fa) := ev_un1 ok_isN ha fun h => pe_cmp (pc_isN h)
theorem ev_notN {j pos'} (ha : EV X a fa) : EV X (.Compare a [.IsNot] [.Constant .none j pos'] pos) (dUn (kIsN true) fa) := ev_un1 ok_notN ha fun h => pe_cmp (pc_notN h)

def dAnd (fa fb : DE) : DE := fun δ P => fa δ fun x => match x.d with
  | .bool b => (match b with
    | true => fb δ P
    | false => P ⟨.bool false, true, []⟩)
  | _ => False
def dOr (fa fb : DE) : DE := fun δ P => fa δ fun x => match x.d with
  | .bool b => (match b with
    | true => P ⟨.bool true, true, []⟩
    | false => fb δ P)
  | _ => False
theorem vok_bool {K : PySem.W.Frag} {H H' : Hp} {δ : En} {ν : Nu} {b : Bool} : VOk K H δ ν H' (.bl b) ⟨.bool b, true, []⟩ [] :=
  ⟨.bl _, fun _ => List.nodup_nil, fun _ _ h => (nomatch h), fun _ _ _ _ _ _ _ h => (nomatch h)⟩
theorem ev_one {op} (ha : EV X a fa) : EV X (.BoolOp op [a] pos) fa := ⟨ha.mono, fun H0 π => pe_one (ha.pe H0 π)⟩
theorem ev_and {rest : List Expr} (ha : EV X a fa) (hb : EV X (.BoolOp .And (b :: rest) pos) fb) : EV X (.BoolOp .And (a :: b :: rest) pos) (dAnd fa fb) := by
  refine ⟨fun δ P P' h q => ha.mono _ _ _ (fun x q => ?_) q, fun H0 π => pei (pe_and (ha.pe H0 π) (hb.pe H0 π)) fun σ H Q ⟨δ, ν, E, q⟩ => ?_⟩
  · cases hx : x.d <;> rw [hx] at q <;> first | exact q.elim | skip
    rename_i c
    cases c
    · exact h _ q
    · exact hb.mono _ _ _ h q
  · refine ⟨δ, ν, E, ha.mono _ _ _ (fun x q v H1 M s1 o1 => ?_) q⟩
    have r := o1.rp
    cases hx : x.d <;> rw [hx] at q r <;> first | exact q.elim | skip
    rename_i c
    cases c
    · exact ⟨false, r.bool_, q _ _ _ s1 vok_bool⟩
    · exact ⟨true, r.bool_, ⟨δ, ν, E.same s1, hb.mono _ _ _ (fun y q w H2 N s2 o2 => q w H2 N (s1.trans s2) (o2.back s1)) q⟩⟩
theorem ev_or {rest : List Expr} (ha : EV X a fa) (hb : EV X (.BoolOp .Or (b :: rest) pos) fb) : EV X (.BoolOp .Or (a :: b :: rest) pos) (dOr fa fb) := by
  refine ⟨fun δ P P' h q => ha.mono _ _ _ (fun x q => ?_) q, fun H0 π => pei (pe_or (ha.pe H0 π) (hb.pe H0 π)) fun σ H Q ⟨δ, ν, E, q⟩ => ?_⟩
  · cases hx : x.d <;> rw [hx] at q <;> first | exact q.elim | skip
    rename_i c
    cases c
    · exact hb.mono _ _ _ h q
    · exact h _ q
  · refine ⟨δ, ν, E, ha.mono _ _ _ (fun x q v H1 M s1 o1 => ?_) q⟩
    have r := o1.rp
    cases hx : x.d <;> rw [hx] at q r <;> first | exact q.elim | skip
    rename_i c
    cases c
    · exact ⟨false, r.bool_, ⟨δ, ν, E.same s1, hb.mono _ _ _ (fun y q w H2 N s2 o2 => q w H2 N (s1.trans s2) (o2.back s1)) q⟩⟩
    · exact ⟨true, r.bool_, q _ _ _ s1 vok_bool⟩

/-! ### tests -/
abbrev DT := En → (Bool → Prop) → Prop
def semT (K : PySem.W.Frag) (H0 : Hp) (π : Nat → Option V) (f : DT) : TT := fun σ H Q => ∃ δ ν, EnvOk K H0 π H σ δ ν ∧ f δ fun b => ∀ H', Same H H' → Q b H'
structure ET (X : Cx) (e : Expr) (f : DT) : Prop where
  mono : ∀ δ (P P' : Bool → Prop), (∀ x, P x → P' x) → f δ P → f δ P'
  pt : ∀ H0 π, PT X e (semT X.K H0 π f)
structure EW (X : Cx) (e : Expr) (f : DT) : Prop where
  mono : ∀ δ (P P' : Bool → Prop), (∀ x, P x → P' x) → f δ P → f δ P'
  pw : ∀ H0 π, PW X e (semT X.K H0 π f)
theorem EW.et {f : DT} (h : EW X e f) : ET X e f := ⟨h.mono, fun H0 π => (h.pw H0 π).pt⟩
def dTst (f : DE) : DT := fun δ P => f δ fun x => match x.d with
  | .bool b => P b
  | _ => False
theorem tst_mono (h : ∀ δ (P P' : Val → Prop), (∀ x, P x → P' x) → f δ P → f δ P') : ∀ δ (P P' : Bool → Prop), (∀ x, P x → P' x) → dTst f δ P → dTst f δ P' := fun δ P P' i q => h _ _ _ (fun x q => by
  revert q; split
  · exact i _
  · exact id) q
/-- what a value's reading gives a test -/
theorem tst_sem {K : PySem.W.Frag} {H0 : Hp} {π : Nat → Option V} {σ : L2.St} {H : Hp} {Q : Bool → Hp → Prop} (hm : ∀ δ (P P' : Val → Prop), (∀ x, P x → P' x) → f δ P → f δ P') (h : semT K H0 π (dTst f) σ H Q) :
    semE K H0 π f σ H fun x H' => ∃ k, x = .bl k ∧ Q k H' := by
  obtain ⟨δ, ν, E, q⟩ := h
  refine ⟨δ, ν, E, hm _ _ _ (fun x q v H1 M s1 o1 => ?_) q⟩
  have r := o1.rp
  revert q; split
  · rename_i b e; intro q
    rw [e] at r
    exact ⟨b, r.bool_, q _ s1⟩
  · exact False.elim
theorem et_val (h : EV X e f) (he : ∀ whole, isTrue e X.env whole = (do let v ← whole; standAt e.pos; holding [v] (truthy v)) := by intro _; rfl) : ET X e (dTst f) :=
  ⟨tst_mono h.mono, fun H0 π => pti (pt_val (h.pe H0 π) he) fun σ H Q q => tst_sem h.mono q⟩
theorem et_bin2 {e : Expr} {r : R2} {k : K2} (hk : R2Ok X r k) (ha : EV X a fa) (hb : EV X b fb) (hp : ∀ {ta tb : TE}, PE X a ta → PE X b tb → PT X e (tTest (tOp r ta tb))) : ET X e (dTst (dBin k fa fb)) := by
  have hm : ∀ δ (P P' : Val → Prop), (∀ x, P x → P' x) → dBin k fa fb δ P → dBin k fa fb δ P' := fun δ P P' h q => ha.mono _ _ _ (fun x q => hb.mono _ _ _ (fun y q => hk.mono _ _ _ _ (fun d q => h _ q) q) q) q
  refine ⟨tst_mono hm, fun H0 π => pti (hp (ha.pe H0 π) (hb.pe H0 π)) fun σ H Q h => ?_⟩
  obtain ⟨δ, ν, E, q⟩ := tst_sem hm h
  refine ⟨δ, ν, E, ha.mono _ _ _ (fun x q v H1 M s1 o1 => ?_) q⟩
  refine ⟨δ, ν, E.same s1, hb.mono _ _ _ (fun y q w H2 N s2 o2 => ?_) q⟩
  refine hk.ok H2 v w x.d y.d M N _ _ (o1.rp.same s2) o2.rp q fun u H3 ⟨d, M', s3, r3, n3, f3, q3⟩ => ?_
  exact q3 u H3 M' ((s1.trans s2).trans s3) (FR.vok (s1.trans s2) r3 n3 f3 E)
theorem et_cmp {op : CmpOp} {r : R2} {k : K2} (ho : OpR X (compareOp op) r) (hk : R2Ok X r k) (ha : EV X a fa) (hb : EV X b fb) (hm : behindInMarks op b = false) : ET X (.Compare a [op] [b] pos) (dTst (dBin k fa fb)) :=
  et_bin2 hk ha hb fun h1 h2 => pt_cmpR ho h1 h2 hm
theorem et_un1 {e : Expr} {r : V → Hp → VK → Prop} {k : K1} (hk : R1Ok X r k) (ha : EV X a fa) (hp : ∀ {ta : TE}, PE X a ta → PT X e (tB (tUn r ta))) : ET X e (dTst (dUn k fa)) := by
  have hm : ∀ δ (P P' : Val → Prop), (∀ x, P x → P' x) → dUn k fa δ P → dUn k fa δ P' := fun δ P P' h q => ha.mono _ _ _ (fun x q => hk.mono _ _ _ (fun d q => h _ q) q) q
  refine ⟨tst_mono hm, fun H0 π => pti (hp (ha.pe H0 π)) fun σ H Q h => ?_⟩
  obtain ⟨δ, ν, E, q⟩ := tst_sem hm h
  refine ⟨δ, ν, E, ha.mono _ _ _ (fun x q v H1 M s1 o1 => ?_) q⟩
  refine hk.ok H1 v x.d M _ _ o1.rp q fun u H3 ⟨d, M', s3, r3, n3, f3, q3⟩ => ?_
  exact q3 u H3 M' (s1.trans s3) (FR.vok s1 r3 n3 f3 E)
theorem et_isN {j pos'} (ha : EV X a fa) : ET X (.Compare a [.Is] [.Constant .none j pos'] pos) (dTst (dUn (kIsN false) fa)) := et_un1 ok_isN ha fun h => pt_cmp (pc_isN h)
theorem et_notN {j pos'} (ha : EV X a fa) : ET X (.Compare a [.IsNot] [.Constant .none j pos'] pos) (dTst (dUn (kIsN true) fa)) := et_un1 ok_notN ha fun h => pt_cmp (pc_notN h)
variable {ta tb t : DT} {rest : List Expr}
def dtAnd (ta tb : DT) : DT := fun δ P => ta δ fun c => match c with
  | true => tb δ P
  | false => P false
def dtOr (ta tb : DT) : DT := fun δ P => ta δ fun c => match c with
  | true => P true
  | false => tb δ P
def dtNot (ta : DT) : DT := fun δ P => ta δ fun c => P (!c)
theorem ew_and1 (ha : ET X a ta) : EW X (.BoolOp .And [a] pos) ta := ⟨ha.mono, fun H0 π => pw_and1 (ha.pt H0 π)⟩
theorem ew_or1 (ha : ET X a ta) : EW X (.BoolOp .Or [a] pos) ta := ⟨ha.mono, fun H0 π => pw_or1 (ha.pt H0 π)⟩
theorem pwi {X : Cx} {e : Expr} {t t' : TT} (h : PW X e t) (i : ∀ σ H Q, t' σ H Q → t σ H Q) : PW X e t' :=
  ⟨fun wh pins s σ H Q I q => h.run wh pins s σ H Q I (i σ H Q q)⟩
theorem ew_and (ha : ET X a ta) (hb : EW X (.BoolOp .And (b :: rest) pos) tb) : EW X (.BoolOp .And (a :: b :: rest) pos) (dtAnd ta tb) := by
  refine ⟨fun δ P P' h q => ha.mono _ _ _ (fun c q => ?_) q, fun H0 π => pwi (pw_and (ha.pt H0 π) (hb.pw H0 π)) fun σ H Q ⟨δ, ν, E, q⟩ => ?_⟩
  · cases c
    · exact h _ q
    · exact hb.mono _ _ _ h q
  · refine ⟨δ, ν, E, ha.mono _ _ _ (fun c q H1 s1 => ?_) q⟩
    cases c
    · exact q _ s1
    · exact ⟨δ, ν, E.same s1, hb.mono _ _ _ (fun b q H2 s2 => q _ (s1.trans s2)) q⟩
theorem ew_or (ha : ET X a ta) (hb : EW X (.BoolOp .Or (b :: rest) pos) tb) : EW X (.BoolOp .Or (a :: b :: rest) pos) (dtOr ta tb) := by
  refine ⟨fun δ P P' h q => ha.mono _ _ _ (fun c q => ?_) q, fun H0 π => pwi (pw_or (ha.pt H0 π) (hb.pw H0 π)) fun σ H Q ⟨δ, ν, E, q⟩ => ?_⟩
  · cases c
    · exact hb.mono _ _ _ h q
    · exact h _ q
  · refine ⟨δ, ν, E, ha.mono _ _ _ (fun c q H1 s1 => ?_) q⟩
    cases c
    · exact ⟨δ, ν, E.same s1, hb.mono _ _ _ (fun b q H2 s2 => q _ (s1.trans s2)) q⟩
    · exact q _ s1
theorem et_not (ha : ET X a ta) : ET X (.UnaryOp .Not a pos) (dtNot ta) :=
  ⟨fun δ P P' h q => ha.mono _ _ _ (fun c q => h _ q) q, fun H0 π => pti (pt_not (ha.pt H0 π)) fun σ H Q ⟨δ, ν, E, q⟩ => ⟨δ, ν, E, q⟩⟩
theorem ev_ifExp {c : Expr} (hc : ET X c t) (ha : EV X a fa) (hb : EV X b fb) : EV X (.IfExp c a b pos) (fun δ P => t δ fun k => match k with | true => fa δ P | false => fb δ P) := by
  refine ⟨fun δ P P' h q => hc.mono _ _ _ (fun c q => ?_) q, fun H0 π => pei (pe_ifExp (hc.pt H0 π) (ha.pe H0 π) (hb.pe H0 π)) fun σ H Q ⟨δ, ν, E, q⟩ => ?_⟩
  · cases c
    · exact hb.mono _ _ _ h q
    · exact ha.mono _ _ _ h q
  · refine ⟨δ, ν, E, hc.mono _ _ _ (fun c q H1 s1 => ?_) q⟩
    cases c
    · exact ⟨δ, ν, E.same s1, hb.mono _ _ _ (fun y q w H2 N s2 o2 => q w H2 N (s1.trans s2) (o2.back s1)) q⟩
    · exact ⟨δ, ν, E.same s1, ha.mono _ _ _ (fun y q w H2 N s2 o2 => q w H2 N (s1.trans s2) (o2.back s1)) q⟩
end
end KT
/-! KtD: items, slices, displays, built-ins. -/
namespace KT
open PySem PySem.Spec PyProof.Rows L2

section
variable {K : PySem.W.Frag} {H0 H H1 H' : Hp} {π : Nat → Option V} {σ : L2.St} {δ : En} {ν : Nu} {v : V} {x : Val} {M : List Addr}
/-- a part of a value -/
theorem VOk.part (q : VOk K H δ ν H' v x M) {w : V} {d : D} {L : List Addr} (r : Rp K H' w d L) (sub : L.Sublist M) : VOk K H δ ν H' w ⟨d, x.own, x.roots⟩ L :=
  ⟨r, fun o => (q.nd o).sublist sub, fun o a ha => q.fr o a (sub.subset ha), fun j s h o n a ha hm => q.al j s h o n a ha (sub.subset hm)⟩
/-- a new list of parts -/
theorem VOk.newL (E : EnvOk K H0 π H σ δ ν) (s0 : Same H H1) (q : VOk K H δ ν H1 v x M) {p : Addr} {xs : List V} {ds : List D} {L : List Addr} (hp : H1 p = none) (r : Rps K H1 xs ds L) (sub : L.Sublist M) :
    VOk K H δ ν (upd H1 p (.lst xs)) (.ref p) ⟨.list ds, x.own, x.roots⟩ (p :: L) := by
  have npm : ∀ a ∈ L, a ≠ p := fun a ha e => r.trk a ha (e ▸ hp)
  refine ⟨.lst upd_same (r.same (Same.upd_new hp)), fun o => List.nodup_cons.mpr ⟨fun h => npm p h rfl, (q.nd o).sublist sub⟩, fun o a ha => ?_, fun j s h o n a ha hm => ?_⟩
  · rcases List.mem_cons.mp ha with rfl | ha
    · exact .inl (s0.free hp)
    · exact q.fr o a (sub.subset ha)
  · rcases List.mem_cons.mp hm with rfl | hm
    · exact E.trk h a ha (s0.free hp)
    · exact q.al j s h o n a ha (sub.subset hm)
end

section
variable {X : Cx} {a b e : Expr} {es : List Expr} {fa fb f : DE} {g : DA} {pos : Pos}

/-! ### xs[i] -/
def kSubs (dx dy : D) (own : Bool) (roots : List Nat) (P : Val → Prop) : Prop := match dx, dy with
  | .list ds, .int i => ∃ d, atI ds i = some d ∧ P (nv ⟨d, own, roots⟩)
  | .tuple ds, .int i => ∃ d, atI ds i = some d ∧ P (nv ⟨d, own, roots⟩)
  | .str z, .int i => ∃ c, (z.length ≤ sizeLine ∧ atI z.cps.toList i = some c) ∧ P ⟨.str ⟨#[c]⟩, true, []⟩
  | _, _ => False
theorem mono_subs {dx dy : D} {own : Bool} {roots : List Nat} {P P' : Val → Prop} (h : ∀ x, P x → P' x) (q : kSubs dx dy own roots P) : kSubs dx dy own roots P' := by
  cases dx <;> cases dy <;> first | exact q.elim | (obtain ⟨d, a, b⟩ := q; exact ⟨d, a, h _ b⟩)
def dSub (fa fb : DE) : DE := fun δ P => fa δ fun x => fb δ fun y => kSubs x.d y.d x.own x.roots P
theorem Rps.at_ {K : PySem.W.Frag} {H : Hp} {xs : List V} {ds : List D} {N : List Addr} {i : Int} {d : D} (r : Rps K H xs ds N) (h : atI ds i = some d) : ∃ v L, atI xs i = some v ∧ L.Sublist N ∧ Rp K H v d L := by
  unfold atI at *
  rw [r.length]
  cases e : ixN ds.length i with
  | none => rw [e] at h; simp at h
  | some j =>
    rw [e] at h
    obtain ⟨v, A, M, B, h1, h2, h3⟩ := r.get (i := j) (d := d) (by simpa using h)
    refine ⟨v, M, by simpa using h1, ?_, h3⟩
    rw [h2]
    exact (List.sublist_append_right A M).trans (List.sublist_append_left (A ++ M) B)
theorem ev_sub (ha : EV X a fa) (hb : EV X b fb) (hs : PlainIx b) : EV X (.Subscript a b pos) (dSub fa fb) := by
  refine ⟨fun δ P P' h q => ha.mono _ _ _ (fun x q => hb.mono _ _ _ (fun y q => ?_) q) q, fun H0 π => pei (pe_ix ix_seq (ha.pe H0 π) (hb.pe H0 π) hs) fun σ H Q ⟨δ, ν, E, q⟩ => ?_⟩
  · exact mono_subs h q
  · refine ⟨δ, ν, E, ha.mono _ _ _ (fun x q v H1 M s1 o1 => ?_) q⟩
    refine ⟨δ, ν, E.same s1, hb.mono _ _ _ (fun y q w H2 N s2 o2 => ?_) q⟩
    have r1 := o1.rp.same s2
    have r2 := o2.rp
    unfold kSubs at q
    revert q; split
    · rename_i ds i ed ei
      rintro ⟨d, h1, q⟩
      rw [ei] at r2
      rw [ed] at r1
      obtain ⟨l, xs, A, rfl, rfl, hl, s⟩ := r1.list_
      obtain ⟨u, L, h2, h3, h4⟩ := s.at_ h1
      obtain ⟨M', o'⟩ := ((o1.same s2).part h4 (h3.trans (List.sublist_cons_self l A))).nv
      exact .inl ⟨l, xs, i, u, rfl, r2.int_, SqL.of hl, h2, q u H2 M' (s1.trans s2) o'⟩
    · rename_i ds i ed ei
      rintro ⟨d, h1, q⟩
      rw [ei] at r2
      rw [ed] at r1
      obtain ⟨l, xs, rfl, hl, s⟩ := r1.tuple_
      obtain ⟨u, L, h2, h3, h4⟩ := s.at_ h1
      obtain ⟨M', o'⟩ := ((o1.same s2).part h4 h3).nv
      exact .inr (.inl ⟨l, xs, i, u, rfl, r2.int_, hl, h2, q u H2 M' (s1.trans s2) o'⟩)
    · rename_i z i ed ei
      rintro ⟨c, ⟨hz, h1⟩, q⟩
      rw [ei] at r2
      rw [ed] at r1
      exact .inr (.inr ⟨z, i, c, r1.str_, r2.int_, hz, h1, q _ H2 [] (s1.trans s2) (VOk.imm (.str _) rfl)⟩)
    · exact False.elim

/-! ### xs[a:b] -/
def cutD (ds : List D) (lo hi : Option Int) : List D := (ds.drop (HT.sIx ds.length 0 lo)).take (HT.sIx ds.length ds.length hi - HT.sIx ds.length 0 lo)
abbrev DO := En → (Option Int → Prop) → Prop
def dNo : DO := fun _ P => P none
def dSo (f : DE) : DO := fun δ P => f δ fun x => match x.d with
  | .int i => P (some i)
  | _ => False
def semO (K : PySem.W.Frag) (H0 : Hp) (π : Nat → Option V) (f : DO) : TO := fun σ H Q => ∃ δ ν, EnvOk K H0 π H σ δ ν ∧ f δ fun b => ∀ H', Same H H' → Q b H'
structure EO (X : Cx) (e : Option Expr) (f : DO) : Prop where
  mono : ∀ δ (P P' : Option Int → Prop), (∀ x, P x → P' x) → f δ P → f δ P'
  po : ∀ H0 π, PO X e (semO X.K H0 π f)
theorem poi {X : Cx} {e : Option Expr} {t t' : TO} (h : PO X e t) (i : ∀ σ H Q, t' σ H Q → t σ H Q) : PO X e t' :=
  ⟨fun pins s σ H Q I q => h.run pins s σ H Q I (i σ H Q q)⟩
theorem eo_none : EO X none dNo := ⟨fun _ _ _ h q => h _ q, fun H0 π => poi po_none fun σ H Q ⟨δ, ν, E, q⟩ => q H (Same.refl H)⟩
theorem eo_some (h : EV X e f) : EO X (some e) (dSo f) := by
  refine ⟨fun δ P P' i q => h.mono _ _ _ (fun x q => ?_) q, fun H0 π => poi (po_some (h.pe H0 π)) fun σ H Q ⟨δ, ν, E, q⟩ => ?_⟩
  · revert q; split
    · exact i _
    · exact id
  · refine ⟨δ, ν, E, h.mono _ _ _ (fun x q v H1 M s1 o1 => ?_) q⟩
    have r := o1.rp
    revert q; split
    · rename_i i e; intro q
      rw [e] at r
      exact ⟨i, r.int_, q _ s1⟩
    · exact False.elim
/-- a list of such items: new and its own where they bear no list -/
def mkL (ds : List D) (own : Bool) (roots : List Nat) : Val := ⟨.list ds, (match immL ds with | true => true | false => own), (match immL ds with | true => [] | false => roots)⟩
def scrL : List (D × D) → Option (List D)
  | [] => some []
  | (.int n, .none) :: r => (scrL r).map (PyData.int n :: ·)
  | _ :: _ => none
def dSlice (fa : DE) (lo hi : DO) : DE := fun δ P => fa δ fun x => lo δ fun i => hi δ fun j => match x.d with
  | .list ds => P (mkL (cutD ds i j) x.own x.roots)
  | .str z => z.length ≤ sizeLine ∧ P ⟨.str (cutS z i j), true, []⟩
  | .tuple ds => (immL ds = true ∧ ¬ (HT.sIx ds.length 0 i = 0 ∧ HT.sIx ds.length ds.length j = ds.length)) ∧ P ⟨.tuple (cutD ds i j), true, []⟩
  | .dict kvs => ∃ ns : List Int, kvs = ns.map (fun n => (.int n, .none)) ∧ P ⟨.list (cutD (ns.map PyData.int) i j), true, []⟩
  | _ => False
theorem Rps.cut {K : PySem.W.Frag} {H : Hp} {xs : List V} {ds : List D} {N : List Addr} (r : Rps K H xs ds N) (lo hi : Option Int) : ∃ L, L.Sublist N ∧ Rps K H (cutV xs lo hi) (cutD ds lo hi) L := by
  unfold cutV cutD
  rw [r.length]
  obtain ⟨A, B, h1, h2, h3⟩ := r.take (HT.sIx ds.length 0 lo)
  obtain ⟨C, E, h4, h5, h6⟩ := h3.take (HT.sIx ds.length ds.length hi - HT.sIx ds.length 0 lo)
  refine ⟨C, ?_, h5⟩
  rw [h1, h4]
  exact (List.sublist_append_left C E).trans (List.sublist_append_right A (C ++ E))
theorem cutD_mem {ds : List D} {lo hi : Option Int} {d : D} (h : d ∈ cutD ds lo hi) : d ∈ ds := List.mem_of_mem_drop (List.mem_of_mem_take h)
theorem immL_cut {ds : List D} (h : immL ds = true) (lo hi : Option Int) : immL (cutD ds lo hi) = true := immL_of.mpr fun d hd => immL_of.mp h d (cutD_mem hd)
theorem sl_all {X : Cx} : SlR X (fun x lo hi H Q => rSlL X.K x lo hi H Q ∨ (rSlS x lo hi H Q ∨ rSlT X.K x lo hi H Q)) := sl_list.or (sl_str.or sl_tup)
theorem script_inj {ns ms : List Int} (h : (ns.map fun n => ((PyData.int n : D), (PyData.none : D))) = ms.map fun n => (PyData.int n, PyData.none)) : ns = ms := by
  induction ns generalizing ms with
  | nil => cases ms with
    | nil => rfl
    | cons _ _ => simp at h
  | cons n ns ih => cases ms with
    | nil => simp at h
    | cons m ms =>
      simp only [List.map_cons, List.cons.injEq, Prod.mk.injEq, PyData.int.injEq, and_true] at h
      rw [h.1, ih h.2]
theorem ev_slice {lo hi : Option Expr} {fl fh : DO} {p2 : Pos} (ha : EV X a fa) (hl : EO X lo fl) (hh : EO X hi fh) : EV X (.Subscript a (.Slice lo hi none p2) pos) (dSlice fa fl fh) := by
  refine ⟨fun δ P P' h q => ha.mono _ _ _ (fun x q => hl.mono _ _ _ (fun i q => hh.mono _ _ _ (fun j q => ?_) q) q) q, fun H0 π => pei (pe_slice sl_all (ha.pe H0 π) (hl.po H0 π) (hh.po H0 π)) fun σ H Q ⟨δ, ν, E, q⟩ => ?_⟩
  · revert q; split
    · exact h _
    · exact fun ⟨a, b⟩ => ⟨a, h _ b⟩
    · exact fun ⟨a, b⟩ => ⟨a, h _ b⟩
    · exact fun ⟨a, b, c⟩ => ⟨a, b, h _ c⟩
    · exact id
  · refine ⟨δ, ν, E, ha.mono _ _ _ (fun x q v H1 M s1 o1 => ?_) q⟩
    refine ⟨δ, ν, E.same s1, hl.mono _ _ _ (fun i q H2 s2 => ?_) q⟩
    refine ⟨δ, ν, (E.same s1).same s2, hh.mono _ _ _ (fun j q H3 s3 => ?_) q⟩
    have sA := (s1.trans s2).trans s3
    have oA := o1.same (s2.trans s3)
    have r := oA.rp
    revert q; split
    · rename_i ds ed
      intro q
      rw [ed] at r
      obtain ⟨l, xs, A, rfl, rfl, hl, s⟩ := r.list_
      refine .inl ⟨l, xs, rfl, SqL.of hl, fun p hp => ?_⟩
      obtain ⟨L, hs, hr⟩ := s.cut i j
      unfold mkL at q
      cases hi : immL (cutD ds i j) with
      | true =>
        rw [hi] at q
        have e := hr.imm hi
        subst e
        exact q _ _ _ (sA.trans (Same.upd_new hp)) (FR.vok (sA) (.lst upd_same (hr.same (Same.upd_new hp))) (by simp) (fun a ha => by rw [List.mem_singleton.mp ha]; exact hp) E)
      | false =>
        rw [hi] at q
        exact q _ _ _ (sA.trans (Same.upd_new hp)) (VOk.newL E sA oA hp hr (hs.trans (List.sublist_cons_self l A)))
    · rename_i z ed
      rintro ⟨hz, q⟩
      rw [ed] at r
      exact .inr (.inl ⟨z, r.str_, hz, q _ _ _ sA (VOk.imm (.str _) rfl)⟩)
    · rename_i ds ed
      rintro ⟨⟨hi, hw⟩, q⟩
      rw [ed] at r
      obtain ⟨l, xs, rfl, hl, s⟩ := r.tuple_
      obtain ⟨L, hs, hr⟩ := s.cut i j
      refine .inr (.inr ⟨l, xs, rfl, hl, by rw [s.length]; exact hw, fun p hp => ?_⟩)
      have e := hr.imm (immL_cut hi i j)
      subst e
      exact q _ _ _ (sA.trans (Same.upd_new hp)) (FR.vok sA (.tup (.inl (.inl upd_same)) (hr.same (Same.upd_new hp))) List.nodup_nil (fun a ha => (nomatch ha)) E)
    · rename_i kvs ed
      rintro ⟨ns, e, q⟩
      rw [ed, e] at r
      generalize hk : (ns.map fun n => ((PyData.int n : D), (PyData.none : D))) = kk at r
      cases r with
      | @scr l ms hsc =>
        have e2 := script_inj hk
        subst e2
        have sq : SqL X.K H3 l (ns.map V.int) := by
          rcases hsc with ⟨o, h⟩ | h
          · exact .inl (.inr ⟨o, h⟩)
          · exact .inr h
        refine .inl ⟨l, _, rfl, sq, fun p hp => ?_⟩
        obtain ⟨L, hs, hr⟩ := (rps_ints X.K H3 ns).cut i j
        have e := hr.imm (immL_cut (imm_ints ns) i j)
        subst e
        exact q _ _ _ (sA.trans (Same.upd_new hp)) (FR.vok sA (.lst upd_same (hr.same (Same.upd_new hp))) (by simp) (fun a ha => by rw [List.mem_singleton.mp ha]; exact hp) E)
    · exact False.elim

/-! ### displays -/
def ndB : List Nat → Bool
  | [] => true
  | x :: xs => !xs.contains x && ndB xs
theorem ndB_ok : ∀ {xs : List Nat}, ndB xs = true → xs.Nodup
  | [], _ => List.nodup_nil
  | x :: xs, h => by
    have h' : (!xs.contains x) = true ∧ ndB xs = true := by simpa only [ndB, Bool.and_eq_true] using h
    exact List.nodup_cons.mpr ⟨by simpa using h'.1, ndB_ok h'.2⟩
def mkV (c : List D → D) (xs : List Val) : Val := ⟨c (xs.map Val.d), xs.all Val.own && ndB (xs.flatMap Val.roots), xs.flatMap Val.roots⟩
def dLst (g : DA) : DE := fun δ P => g δ fun xs => xs.length ≤ sizeLine ∧ P (mkV .list xs)
def dTup (g : DA) : DE := fun δ P => g δ fun xs => xs.length ≤ sizeLine ∧ P (mkV .tuple xs)
theorem ev_lst (ha : EA X es g) : EV X (.List es pos) (dLst g) := by
  refine ⟨fun δ P P' h q => ha.mono _ _ _ (fun xs q => ⟨q.1, h _ q.2⟩) q, fun H0 π => pei (pe_lst (ha.pa H0 π)) fun σ H Q ⟨δ, ν, E, q⟩ => ?_⟩
  refine ⟨δ, ν, E, ha.mono _ _ _ (fun xs q vs H1 Ms s1 o1 => ⟨by rw [o1.length]; exact q.1, fun p hp => ?_⟩) q⟩
  have npm : ∀ a ∈ Ms.flatten, a ≠ p := fun a ha e => o1.rps.trk a ha (e ▸ hp)
  refine q.2 _ _ (p :: Ms.flatten) (s1.trans (Same.upd_new hp)) ⟨.lst upd_same (o1.rps.same (Same.upd_new hp)), fun o => ?_, fun o a ha => ?_, fun j s h o n a ha hm => ?_⟩
  · have o' : xs.all Val.own = true ∧ ndB (xs.flatMap Val.roots) = true := by simpa only [mkV, Bool.and_eq_true] using o
    exact List.nodup_cons.mpr ⟨fun h => npm p h rfl, o1.nd o'.1 (ndB_ok o'.2)⟩
  · have o' : xs.all Val.own = true ∧ ndB (xs.flatMap Val.roots) = true := by simpa only [mkV, Bool.and_eq_true] using o
    rcases List.mem_cons.mp ha with rfl | ha
    · exact .inl (s1.free hp)
    · exact o1.fr o'.1 a ha
  · rcases List.mem_cons.mp hm with rfl | hm
    · exact E.trk h a ha (s1.free hp)
    · exact o1.al j s h o n a ha hm
theorem ev_tup {x1} (ha : EA X es g) : EV X (.Tuple es x1 pos) (dTup g) := by
  refine ⟨fun δ P P' h q => ha.mono _ _ _ (fun xs q => ⟨q.1, h _ q.2⟩) q, fun H0 π => pei (pe_tup (ha.pa H0 π)) fun σ H Q ⟨δ, ν, E, q⟩ => ?_⟩
  refine ⟨δ, ν, E, ha.mono _ _ _ (fun xs q vs H1 Ms s1 o1 => ⟨by rw [o1.length]; exact q.1, fun p hp => ?_⟩) q⟩
  refine q.2 _ _ Ms.flatten (s1.trans (Same.upd_new hp)) ⟨.tup (.inl (.inl upd_same)) (o1.rps.same (Same.upd_new hp)), fun o => ?_, fun o a ha => ?_, fun j s h o n a ha hm => o1.al j s h o n a ha hm⟩
  · have o' : xs.all Val.own = true ∧ ndB (xs.flatMap Val.roots) = true := by simpa only [mkV, Bool.and_eq_true] using o
    exact o1.nd o'.1 (ndB_ok o'.2)
  · have o' : xs.all Val.own = true ∧ ndB (xs.flatMap Val.roots) = true := by simpa only [mkV, Bool.and_eq_true] using o
    exact o1.fr o'.1 a ha

/-! ### built-ins -/
theorem Rps.one_ {K : PySem.W.Frag} {H : Hp} {xs : List V} {d : D} {N : List Addr} (r : Rps K H xs [d] N) : ∃ v, xs = [v] ∧ Rp K H v d N := by
  cases r with
  | cons r s => cases s; exact ⟨_, rfl, by simpa using r⟩
theorem Rps.two_ {K : PySem.W.Frag} {H : Hp} {xs : List V} {d e : D} {N : List Addr} (r : Rps K H xs [d, e] N) : ∃ v w A B, xs = [v, w] ∧ Rp K H v d A ∧ Rp K H w e B := by
  cases r with
  | cons r s =>
    obtain ⟨w, rfl, q⟩ := s.one_
    exact ⟨_, _, _, _, rfl, r, q⟩
def kLen : KL := fun ds Q => match ds with
  | [.list xs] => Q (.int xs.length)
  | [.tuple xs] => Q (.int xs.length)
  | [.str z] => z.length ≤ sizeLine ∧ Q (.int z.length)
  | _ => False
theorem call_lenG : CallR X (.builtin "len") (fun xs H Q => (∃ p ys, xs = [.ref p] ∧ (SqL X.K H p ys ∨ SqT X.K H p ys) ∧ Q (.int ys.length) H) ∨ (∃ z, xs = [.str z] ∧ z.length ≤ sizeLine ∧ Q (.int z.length) H)) :=
  call_len_seq.or call_len_str
theorem ok_len : RLOk X (fun xs H Q => (∃ p ys, xs = [.ref p] ∧ (SqL X.K H p ys ∨ SqT X.K H p ys) ∧ Q (.int ys.length) H) ∨ (∃ z, xs = [.str z] ∧ z.length ≤ sizeLine ∧ Q (.int z.length) H)) kLen := by
  refine ⟨fun ds Q Q' h q => ?_, fun H xs ds N Q R r q h => ?_⟩
  · unfold kLen at *; split at q
    · exact h _ q
    · exact h _ q
    · exact ⟨q.1, h _ q.2⟩
    · exact q.elim
  · unfold kLen at q; split at q
    · obtain ⟨v, rfl, u⟩ := r.one_
      obtain ⟨a, ys, M, rfl, rfl, ha, s⟩ := u.list_
      refine .inl ⟨a, ys, rfl, .inl (SqL.of ha), h _ _ (FR.imm (.int _) rfl ?_)⟩
      rw [s.length]; exact q
    · obtain ⟨v, rfl, u⟩ := r.one_
      obtain ⟨a, ys, rfl, ha, s⟩ := u.tuple_
      refine .inl ⟨a, ys, rfl, .inr ha, h _ _ (FR.imm (.int _) rfl ?_)⟩
      rw [s.length]; exact q
    · obtain ⟨v, rfl, u⟩ := r.one_
      rw [u.str_]
      exact .inr ⟨_, rfl, q.1, h _ _ (FR.imm (.int _) rfl q.2)⟩
    · exact q.elim
def kAbs : KL := fun ds Q => match ds with
  | [.int i] => Q (.int i.natAbs)
  | _ => False
theorem ok_abs : RLOk X (fun xs H Q => ∃ i, xs = [.int i] ∧ Q (.int (if i < 0 then -i else i)) H) kAbs := by
  refine ⟨fun ds Q Q' h q => ?_, fun H xs ds N Q R r q h => ?_⟩
  · unfold kAbs at *; split at q
    · exact h _ q
    · exact q.elim
  · unfold kAbs at q; split at q
    · rename_i i
      obtain ⟨v, rfl, u⟩ := r.one_
      rw [u.int_]
      refine ⟨_, rfl, h _ _ (FR.imm (.int _) rfl ?_)⟩
      rw [show (if i < 0 then -i else i) = (i.natAbs : Int) by split <;> omega]
      exact q
    · exact q.elim
/-- max, min: of two ints or of one list of ints -/
def kMax : KL := fun ds Q => match ds with
  | [.int i, .int j] => Q (.int (max i j))
  | [.list xs] => ∃ ns : List Int, (xs = ns.map PyData.int ∧ 0 < ns.length) ∧ ∀ m, m ∈ ns → (∀ y, y ∈ ns → y ≤ m) → Q (.int m)
  | _ => False
def kMin : KL := fun ds Q => match ds with
  | [.int i, .int j] => Q (.int (min i j))
  | [.list xs] => ∃ ns : List Int, (xs = ns.map PyData.int ∧ 0 < ns.length) ∧ ∀ m, m ∈ ns → (∀ y, y ∈ ns → m ≤ y) → Q (.int m)
  | _ => False
theorem ok_max : RLOk X (fun xs H Q => (∃ i j, xs = [.int i, .int j] ∧ Q (.int (if j > i then j else i)) H) ∨ rMax X.K xs H Q) kMax := by
  refine ⟨fun ds Q Q' h q => ?_, fun H xs ds N Q R r q h => ?_⟩
  · unfold kMax at *; split at q
    · exact h _ q
    · obtain ⟨ns, a, b⟩ := q
      exact ⟨ns, a, fun m x y => h _ (b m x y)⟩
    · exact q.elim
  · unfold kMax at q; split at q
    · rename_i i j
      obtain ⟨v, w, A, B, rfl, r1, r2⟩ := r.two_
      rw [r1.int_, r2.int_]
      refine .inl ⟨_, _, rfl, h _ _ (FR.imm (.int _) rfl ?_)⟩
      rw [show (if j > i then j else i) = max i j by split <;> omega]
      exact q
    · obtain ⟨ns, ⟨rfl, b⟩, c⟩ := q
      obtain ⟨v, rfl, u⟩ := r.one_
      obtain ⟨a, ys, M, rfl, rfl, ha, s⟩ := u.list_
      have e := s.ints
      subst e
      exact .inr ⟨a, ns, rfl, SqL.of ha, b, fun m x y => h _ _ (FR.imm (.int _) rfl (c m x y))⟩
    · exact q.elim
theorem ok_min : RLOk X (fun xs H Q => (∃ i j, xs = [.int i, .int j] ∧ Q (.int (if j < i then j else i)) H) ∨ rMin X.K xs H Q) kMin := by
  refine ⟨fun ds Q Q' h q => ?_, fun H xs ds N Q R r q h => ?_⟩
  · unfold kMin at *; split at q
    · exact h _ q
    · obtain ⟨ns, a, b⟩ := q
      exact ⟨ns, a, fun m x y => h _ (b m x y)⟩
    · exact q.elim
  · unfold kMin at q; split at q
    · rename_i i j
      obtain ⟨v, w, A, B, rfl, r1, r2⟩ := r.two_
      rw [r1.int_, r2.int_]
      refine .inl ⟨_, _, rfl, h _ _ (FR.imm (.int _) rfl ?_)⟩
      rw [show (if j < i then j else i) = min i j by split <;> omega]
      exact q
    · obtain ⟨ns, ⟨rfl, b⟩, c⟩ := q
      obtain ⟨v, rfl, u⟩ := r.one_
      obtain ⟨a, ys, M, rfl, rfl, ha, s⟩ := u.list_
      have e := s.ints
      subst e
      exact .inr ⟨a, ns, rfl, SqL.of ha, b, fun m x y => h _ _ (FR.imm (.int _) rfl (c m x y))⟩
    · exact q.elim
theorem call_maxG (hc : X.calm = true) : CallR X (.builtin "max") (fun xs H Q => (∃ i j, xs = [.int i, .int j] ∧ Q (.int (if j > i then j else i)) H) ∨ rMax X.K xs H Q) := (call_max2 hc).or (cr_max hc)
theorem call_minG (hc : X.calm = true) : CallR X (.builtin "min") (fun xs H Q => (∃ i j, xs = [.int i, .int j] ∧ Q (.int (if j < i then j else i)) H) ∨ rMin X.K xs H Q) := (call_min2 hc).or (cr_min hc)
def kSum : KL := fun ds Q => match ds with
  | [.list xs] => ∃ ns : List Int, xs = ns.map PyData.int ∧ Q (.int ns.sum)
  | _ => False
theorem ok_sum : RLOk X (rSum X.K) kSum := by
  refine ⟨fun ds Q Q' h q => ?_, fun H xs ds N Q R r q h => ?_⟩
  · unfold kSum at *; split at q
    · obtain ⟨ns, a, b⟩ := q
      exact ⟨ns, a, h _ b⟩
    · exact q.elim
  · unfold kSum at q; split at q
    · obtain ⟨ns, rfl, c⟩ := q
      obtain ⟨v, rfl, u⟩ := r.one_
      obtain ⟨a, ys, M, rfl, rfl, ha, s⟩ := u.list_
      have e := s.ints
      subst e
      exact ⟨a, ns, rfl, SqL.of ha, h _ _ (FR.imm (.int _) rfl c)⟩
    · exact q.elim
def kList : KL := fun ds Q => match ds with
  | [.list xs] => immL xs = true ∧ Q (.list xs)
  | [.tuple xs] => immL xs = true ∧ Q (.list xs)
  | _ => False
theorem ok_list : RLOk X (fun xs H Q => ∃ p ys, xs = [.ref p] ∧ (SqL X.K H p ys ∨ SqT X.K H p ys) ∧ ∀ l, H l = none → Q (.ref l) (upd H l (.lst ys))) kList := by
  refine ⟨fun ds Q Q' h q => ?_, fun H xs ds N Q R r q h => ?_⟩
  · unfold kList at *; split at q
    · exact ⟨q.1, h _ q.2⟩
    · exact ⟨q.1, h _ q.2⟩
    · exact q.elim
  · unfold kList at q; split at q
    · obtain ⟨v, rfl, u⟩ := r.one_
      obtain ⟨a, ys, M, rfl, rfl, ha, s⟩ := u.list_
      exact ⟨a, ys, rfl, .inl (SqL.of ha), fun l hl => h _ _ (FR.newL hl s q.1 q.2)⟩
    · obtain ⟨v, rfl, u⟩ := r.one_
      obtain ⟨a, ys, rfl, ha, s⟩ := u.tuple_
      exact ⟨a, ys, rfl, .inr ha, fun l hl => h _ _ (FR.newL hl s q.1 q.2)⟩
    · exact q.elim
def kTuple : KL := fun ds Q => match ds with
  | [.list xs] => immL xs = true ∧ Q (.tuple xs)
  | [.tuple xs] => immL xs = true ∧ Q (.tuple xs)
  | _ => False
theorem ok_tuple : RLOk X (fun xs H Q => ∃ p ys, xs = [.ref p] ∧ ((SqL X.K H p ys ∧ ∀ l, H l = none → Q (.ref l) (upd H l (.tup ys))) ∨ (SqT X.K H p ys ∧ Q (.ref p) H))) kTuple := by
  refine ⟨fun ds Q Q' h q => ?_, fun H xs ds N Q R r q h => ?_⟩
  · unfold kTuple at *; split at q
    · exact ⟨q.1, h _ q.2⟩
    · exact ⟨q.1, h _ q.2⟩
    · exact q.elim
  · unfold kTuple at q; split at q
    · obtain ⟨v, rfl, u⟩ := r.one_
      obtain ⟨a, ys, M, rfl, rfl, ha, s⟩ := u.list_
      exact ⟨a, ys, rfl, .inl ⟨SqL.of ha, fun l hl => h _ _ (FR.newT hl s q.1 q.2)⟩⟩
    · obtain ⟨v, rfl, u⟩ := r.one_
      obtain ⟨a, ys, rfl, ha, s⟩ := u.tuple_
      exact ⟨a, ys, rfl, .inr ⟨ha, h _ _ (FR.imm (.tup ha s) (by simpa [KT.imm] using q.1) q.2)⟩⟩
    · exact q.elim
def kInt : KL := fun ds Q => match ds with
  | [.int i] => Q (.int i)
  | [.bool b] => Q (.int (if b then 1 else 0))
  | _ => False
theorem ok_int : RLOk X (fun xs H Q => (∃ i, xs = [.int i] ∧ Q (.int i) H) ∨ ∃ k, xs = [.bl k] ∧ Q (.int (if k then 1 else 0)) H) kInt := by
  refine ⟨fun ds Q Q' h q => ?_, fun H xs ds N Q R r q h => ?_⟩
  · unfold kInt at *; split at q
    · exact h _ q
    · exact h _ q
    · exact q.elim
  · unfold kInt at q; split at q
    · obtain ⟨v, rfl, u⟩ := r.one_
      rw [u.int_]
      exact .inl ⟨_, rfl, h _ _ (FR.imm (.int _) rfl q)⟩
    · obtain ⟨v, rfl, u⟩ := r.one_
      rw [u.bool_]
      exact .inr ⟨_, rfl, h _ _ (FR.imm (.int _) rfl q)⟩
    · exact q.elim
def kSorted : KL := fun ds Q => match ds with
  | [.list xs] => ∃ ns : List Int, xs = ns.map PyData.int ∧ ∀ ms : List Int, ms.Perm ns → ms.Pairwise (· ≤ ·) → Q (.list (ms.map PyData.int))
  | _ => False
theorem ok_sorted : RLOk X (rSortedI X.K) kSorted := by
  refine ⟨fun ds Q Q' h q => ?_, fun H xs ds N Q R r q h => ?_⟩
  · unfold kSorted at *; split at q
    · obtain ⟨ns, a, b⟩ := q
      exact ⟨ns, a, fun ms x y => h _ (b ms x y)⟩
    · exact q.elim
  · unfold kSorted at q; split at q
    · obtain ⟨ns, rfl, c⟩ := q
      obtain ⟨v, rfl, u⟩ := r.one_
      obtain ⟨a, ys, M, rfl, rfl, ha, s⟩ := u.list_
      have e := s.ints
      subst e
      exact ⟨a, ns, rfl, SqL.of ha, fun ms p x y hp => h _ _ (FR.newL hp (rps_ints _ _ ms) (imm_ints ms) (c ms x y))⟩
    · exact q.elim

/-! ### isinstance of a built-in class -/
def tyD : D → String
  | .none => "NoneType"
  | .bool _ => "bool"
  | .int _ => "int"
  | .str _ => "str"
  | .list _ => "list"
  | .tuple _ => "tuple"
  | .dict _ => "list"
def isiB (T : String) : D → Bool
  | .none => T == "NoneType"
  | .bool _ => T == "bool" || T == "int"
  | .int _ => T == "int"
  | .str _ => T == "str"
  | .list _ => T == "list"
  | .tuple _ => T == "tuple"
  | .dict _ => T == "list"
def kIsi (T : String) : K1 := fun d Q => Q (.bool (isiB T d))
theorem Rp.tyx {K : PySem.W.Frag} {H : Hp} {v : V} {d : D} {N : List Addr} (r : Rp K H v d N) : TyX K H v (.type (tyD d)) := by
  cases r with
  | non => exact .base .non
  | bl c => exact .base (.bl c)
  | int i => exact .base (.int i)
  | str x => exact .base (.str x)
  | lst h _ => exact .base (.lst h)
  | tup h _ =>
    rcases h with (h | ⟨o, h⟩) | ⟨o, its, n, h1, h2, h3⟩
    · exact .base (.tup h)
    · exact .fTuple h
    · exact .kTuple h1 h2
  | scr h =>
    rcases h with ⟨o, h⟩ | ⟨o, its, n, h1, h2, h3⟩
    · exact .base (.frz h)
    · exact .kList h1 h2
theorem ev_isi {T : String} {x : Str} {p p' : Pos} (hg : Gl X "isinstance") (hm : X.mg "isinstance" = none) (hgT : Gl X x) (hmT : X.mg x = none) (hvT : bootBuiltins x = some (.type T)) (ha : EV X a fa)
    (hk : (["NoneType", "bool", "int", "str", "list", "tuple"].all fun U => kitB U T == some (if U == "bool" then T == "bool" || T == "int" else T == U)) = true) (hn : x ≠ "__name__" := by decide) (hdb : (x == ("__debug__" : Str)) = false := by decide)
    (he : starEach [a, .Name x p'] X.env = (false, eval a X.env) :: starEach [.Name x p'] X.env := by rfl) (he2 : starEach [Expr.Name x p'] X.env = (false, eval (.Name x p') X.env) :: starEach [] X.env := by rfl)
    (hpl : (backTo pos (starEach [Expr.Name x p'] X.env)).any (·.1) = false := by rfl) :
    EV X (.Call (.Name "isinstance" p) [a, .Name x p'] [] pos) (dUn (kIsi T) fa) := by
  have hk1 : R1Ok X (fun u H Q => rIsi X.K [u, .ty T] H Q) (kIsi T) := by
    refine ⟨fun d Q Q' h q => h _ q, fun H u d N Q R r q h => ⟨u, .ty T, _, _, isiB T d, rfl, .ty T, r.tyx, kit_ty ?_, h _ _ (FR.imm (.bl _) rfl q)⟩⟩
    have g : ∀ U ∈ ["NoneType", "bool", "int", "str", "list", "tuple"], kitB U T = some (if U == "bool" then T == "bool" || T == "int" else T == U) := fun U hU => by
      simpa using List.all_eq_true.mp hk U hU
    cases d <;> exact g _ (by simp [tyD])
  exact ev_un1 hk1 ha fun {ta} h => pe_callB call_isi hg hm boot_isinstance (pa_cons h (pa_cons (pe_bltn hgT hmT hvT (v := .ty T) rfl hn hdb) pa_nil he2) he) (by decide) (by decide) he hpl
end
end KT
/-! KtE: statements. -/
namespace KT
open PySem PySem.Spec PyProof.Rows L2

structure DEnds where
  nx : En → Prop
  rt : Val → En → Prop
abbrev DS := DEnds → En → Prop
/-- the wanted ends, as the data see them -/
def dEnds (K : PySem.W.Frag) (H0 : Hp) (π : Nat → Option V) (D : Ends) : DEnds where
  nx := fun δ => ∀ σ H ν, EnvOk K H0 π H σ δ ν → D.nx σ H
  rt := fun x δ => ∀ v σ H H' ν M, EnvOk K H0 π H σ δ ν → Same H H' → VOk K H δ ν H' v x M → D.rt v H'
def semS (K : PySem.W.Frag) (H0 : Hp) (π : Nat → Option V) (m : DS) : TS := fun D σ H => ∃ δ ν, EnvOk K H0 π H σ δ ν ∧ m (dEnds K H0 π D) δ
def MonoS (m : DS) : Prop := ∀ (A B : DEnds) δ, (∀ δ, A.nx δ → B.nx δ) → (∀ x δ, A.rt x δ → B.rt x δ) → m A δ → m B δ
structure SV (X : Cx) (st : Stmt) (m : DS) : Prop where
  mono : MonoS m
  ps : ∀ H0 π, PS X st (semS X.K H0 π m)
structure SVs (X : Cx) (st : List Stmt) (m : DS) : Prop where
  mono : MonoS m
  pss : ∀ H0 π, PSs X st (semS X.K H0 π m)
theorem psi {X : Cx} {st : Stmt} {t t' : TS} (h : PS X st t) (i : ∀ D σ H, t' D σ H → t D σ H) : PS X st t' :=
  ⟨fun pins s σ H D I q => h.run pins s σ H D I (i D σ H q)⟩
theorem pssi {X : Cx} {st : List Stmt} {t t' : TS} (h : PSs X st t) (i : ∀ D σ H, t' D σ H → t D σ H) : PSs X st t' :=
  ⟨fun pins s σ H D I q => h.run pins s σ H D I (i D σ H q)⟩
section
variable {X : Cx} {a b e c : Expr} {es : List Expr} {fa fb f : DE} {g : DA} {t : DT} {pos : Pos} {st : Stmt} {sts : List Stmt} {m n : DS}

def mNil : DS := fun E δ => E.nx δ
def mSeq (m n : DS) : DS := fun E δ => m ⟨n E, E.rt⟩ δ
theorem svs_nil : SVs X [] mNil := ⟨fun A B δ h1 h2 q => h1 _ q, fun H0 π => pssi pss_nil fun D σ H ⟨δ, ν, E, q⟩ => q σ H ν E⟩
theorem mseq_mono (h1 : MonoS m) (h2 : MonoS n) : MonoS (mSeq m n) := fun A B δ i1 i2 q => h1 ⟨n A, A.rt⟩ ⟨n B, B.rt⟩ δ (fun δ q => h2 A B δ i1 i2 q) i2 q
theorem svs_cons (h1 : SV X st m) (h2 : SVs X sts n) : SVs X (st :: sts) (mSeq m n) := by
  refine ⟨mseq_mono h1.mono h2.mono, fun H0 π => pssi (pss_cons (h1.ps H0 π) (h2.pss H0 π)) fun D σ H ⟨δ, ν, E, q⟩ => ?_⟩
  exact ⟨δ, ν, E, h1.mono ⟨n (dEnds X.K H0 π D), (dEnds X.K H0 π D).rt⟩ _ _ (fun δ q σ' H' ν' E' => ⟨δ, ν', E', q⟩) (fun x δ q => q) q⟩
theorem svs_one (h1 : SV X st m) : SVs X [st] m := ⟨h1.mono, fun H0 π => pss_one (h1.ps H0 π)⟩
theorem sv_pass : SV X (.Pass pos) mNil := ⟨fun A B δ h1 h2 q => h1 _ q, fun H0 π => psi ps_pass fun D σ H ⟨δ, ν, E, q⟩ => q σ H ν E⟩

/-- x = e; k: the names in e are given up (else their lists are shared from here on) -/
def stor (δ : En) (i : Nat) (x : Val) (k : Bool) : En := match k with
  | true => (killR δ x.roots).set i (some ⟨x.d, x.own, false⟩)
  | false => (demR δ x.roots).set i (some ⟨x.d, (match x.roots with | [] => x.own | _ => false), false⟩)
def storK (δ : En) (i : Nat) (x : Val) (k : Bool) (P : En → Prop) : Prop := match k with
  | true => killK δ x.roots fun δ' => setK δ' i (some ⟨x.d, x.own, false⟩) P
  | false => demK δ x.roots fun δ' => setK δ' i (some ⟨x.d, (match x.roots with | [] => x.own | _ => false), false⟩) P
theorem storK_eq (δ : En) (i : Nat) (x : Val) (k : Bool) (P : En → Prop) : storK δ i x k P = P (stor δ i x k) := by
  cases k
  · show demK δ x.roots (fun δ' => setK δ' i _ P) = _
    rw [demK_eq, setK_eq]
    rfl
  · show killK δ x.roots (fun δ' => setK δ' i _ P) = _
    rw [killK_eq, setK_eq]
    rfl
def mSet (i : Nat) (k : Bool) (f : DE) : DS := fun E δ => f δ fun x => storK δ i x k E.nx
theorem stor_ok {K : PySem.W.Frag} {H0 H H' : Hp} {π : Nat → Option V} {σ : L2.St} {δ : En} {ν : Nu} {v : V} {x : Val} {M : List Addr} (E : EnvOk K H0 π H σ δ ν) (s : Same H H') (q : VOk K H δ ν H' v x M) (i : Nat) (k : Bool) :
    EnvOk K H0 π H' (σ.set i (some v)) (stor δ i x k) (fun j => if j = i then M else ν j) := by
  unfold stor
  cases k with
  | true => exact ((E.same s).kill x.roots).set (q.killed E) i
  | false =>
    dsimp only
    split
    · rename_i e
      have q' := q.killed E
      rw [e] at q' ⊢
      exact (E.same s).set q' i
    · exact ((E.same s).dem x.roots).set (q.demoted E) i
theorem set_sem {H0 : Hp} {π : Nat → Option V} {K : PySem.W.Frag} {i : Nat} {k : Bool} (hm : ∀ δ (P P' : Val → Prop), (∀ x, P x → P' x) → f δ P → f δ P') {D : Ends} {σ : L2.St} {H : Hp} (h : semS K H0 π (mSet i k f) D σ H) :
    tAsg (semE K H0 π f) (gName i) D σ H := by
  obtain ⟨δ, ν, E, q⟩ := h
  exact ⟨δ, ν, E, hm _ _ _ (fun x q v H1 M s1 o1 => by rw [storK_eq] at q; exact q _ _ _ (stor_ok E s1 o1 i k)) q⟩
theorem mset_mono {i : Nat} {k : Bool} (hm : ∀ δ (P P' : Val → Prop), (∀ x, P x → P' x) → f δ P → f δ P') : MonoS (mSet i k f) := fun A B δ h1 h2 q => hm _ _ _ (fun x q => by rw [storK_eq] at q ⊢; exact h1 _ q) q
theorem sv_set (i : Nat) (k : Bool) {x : Str} {pos' : Pos} (hN : X.N.Nodup) (he : EV X e f) (hi : X.N[i]? = some x := by rfl) (hx : Loc X.env.scope x := by first | exact Or.inl rfl | exact Or.inr rfl)
    (hs : swapsWith e (some (.Name x pos')) pos.line X.env = pure false := by rfl) (hf : X.fn x = true ∨ X.env.scope.names.lookup x = some .local := by first | exact .inl rfl | exact .inr rfl | assumption) :
    SV X (.Assign [.Name x pos'] e pos) (mSet i k f) :=
  ⟨mset_mono he.mono, fun H0 π => psi (ps_set hN hi hx (he.pe H0 π) hs hf) fun D σ H h => set_sem he.mono h⟩
/-- return -/
def mRet (f : DE) : DS := fun E δ => f δ fun x => E.rt x δ
theorem sv_ret (he : EV X e f) : SV X (.Return (some e) pos) (mRet f) := by
  refine ⟨fun A B δ h1 h2 q => he.mono _ _ _ (fun x q => h2 _ _ q) q, fun H0 π => psi (ps_ret (he.pe H0 π)) fun D σ H ⟨δ, ν, E, q⟩ => ?_⟩
  exact ⟨δ, ν, E, he.mono _ _ _ (fun x q v H1 M s1 o1 => q v σ H H1 ν M E s1 o1) q⟩
def mRetN : DS := fun E δ => E.rt ⟨.none, true, []⟩ δ
theorem sv_retN : SV X (.Return none pos) mRetN := by
  refine ⟨fun A B δ h1 h2 q => h2 _ _ q, fun H0 π => psi ps_retN fun D σ H ⟨δ, ν, E, q⟩ => ?_⟩
  exact q .non σ H H ν [] E (Same.refl H) (VOk.imm .non rfl)
/-- an expression alone -/
def mExpr (f : DE) : DS := fun E δ => f δ fun _ => E.nx δ
theorem sv_expr (he : EV X e f) (hs : swapsWith e none pos.line X.env = pure false := by rfl) : SV X (.Expr e pos) (mExpr f) := by
  refine ⟨fun A B δ h1 h2 q => he.mono _ _ _ (fun x q => h1 _ q) q, fun H0 π => psi (ps_expr (he.pe H0 π) hs) fun D σ H ⟨δ, ν, E, q⟩ => ?_⟩
  exact ⟨δ, ν, E, he.mono _ _ _ (fun x q v H1 M s1 o1 => q _ _ _ (E.same s1)) q⟩
/-- if -/
def mIf (t : DT) (m n : DS) : DS := fun E δ => t δ fun b => match b with
  | true => m E δ
  | false => n E δ
theorem sv_if {sa sb : List Stmt} (hc : ET X c t) (ha : SVs X sa m) (hb : SVs X sb n) : SV X (.If c sa sb pos) (mIf t m n) := by
  refine ⟨fun A B δ h1 h2 q => hc.mono _ _ _ (fun b q => ?_) q, fun H0 π => psi (ps_if (hc.pt H0 π) (ha.pss H0 π) (hb.pss H0 π)) fun D σ H ⟨δ, ν, E, q⟩ => ?_⟩
  · cases b
    · exact hb.mono A B δ h1 h2 q
    · exact ha.mono A B δ h1 h2 q
  · refine ⟨δ, ν, E, hc.mono _ _ _ (fun b q H1 s1 => ?_) q⟩
    cases b
    · exact ⟨δ, ν, E.same s1, q⟩
    · exact ⟨δ, ν, E.same s1, q⟩
/-- while -/
def whI (t : DT) (m : DS) (E : DEnds) : Nat → En → Prop
  | 0, _ => False
  | n + 1, δ => t δ fun b => match b with
    | true => m ⟨whI t m E n, E.rt⟩ δ
    | false => E.nx δ
def mWhile (t : DT) (m : DS) : DS := fun E δ => ∃ n, whI t m E n δ
theorem whI_mono (ht : ∀ δ (P P' : Bool → Prop), (∀ x, P x → P' x) → t δ P → t δ P') (hm : MonoS m) {A B : DEnds} (h1 : ∀ δ, A.nx δ → B.nx δ) (h2 : ∀ x δ, A.rt x δ → B.rt x δ) : ∀ n δ, whI t m A n δ → whI t m B n δ
  | 0, _, q => q
  | n + 1, δ, q => ht _ _ _ (fun b q => by
    cases b
    · exact h1 _ q
    · exact hm ⟨whI t m A n, A.rt⟩ ⟨whI t m B n, B.rt⟩ δ (fun δ q => whI_mono ht hm h1 h2 n δ q) h2 q) q
theorem sv_while {sa : List Stmt} (hp : PassesOwn (model X.prog X.w) X.A X.env X.xe) (hc : ET X c t) (ha : SVs X sa m) : SV X (.While c sa [] pos) (mWhile t m) := by
  refine ⟨fun A B δ h1 h2 ⟨n, q⟩ => ⟨n, whI_mono hc.mono ha.mono h1 h2 n δ q⟩, fun H0 π => psi (ps_while hp (hc.pt H0 π) (ha.pss H0 π)) fun D σ H ⟨δ, ν, E, n, q⟩ => ?_⟩
  refine ⟨fun n σ H => ∃ δ ν, EnvOk X.K H0 π H σ δ ν ∧ whI t m (dEnds X.K H0 π D) n δ, ⟨n, δ, ν, E, q⟩, fun n σ H ⟨δ, ν, E, q⟩ => ?_⟩
  cases n with
  | zero => exact q.elim
  | succ n =>
    refine ⟨δ, ν, E, hc.mono _ _ _ (fun b q H1 s1 => ?_) q⟩
    cases b with
    | false => exact q _ _ _ (E.same s1)
    | true =>
      rw [if_pos rfl]
      refine ⟨fun σ H => ∃ δ ν, EnvOk X.K H0 π H σ δ ν ∧ whI t m (dEnds X.K H0 π D) n δ, fun σ' H' q => ⟨n, Nat.lt_succ_self n, q⟩, δ, ν, E.same s1, ?_⟩
      exact ha.mono ⟨whI t m (dEnds X.K H0 π D) n, (dEnds X.K H0 π D).rt⟩ _ _ (fun δ q σ' H' ν' E' => ⟨δ, ν', E', q⟩) (fun x δ q => q) q

/-! ### targets -/
/-- a, b, .. = the items of a tuple -/
def setAll : En → List Nat → List D → Bool → En
  | δ, i :: is, d :: ds, o => setAll (δ.set i (some ⟨d, o, false⟩)) is ds o
  | δ, _, _, _ => δ
def setAllK : En → List Nat → List D → Bool → (En → Prop) → Prop
  | δ, i :: is, d :: ds, o, P => setK δ i (some ⟨d, o, false⟩) fun δ' => setAllK δ' is ds o P
  | δ, _, _, _, P => P δ
theorem setAllK_eq : ∀ (is : List Nat) (ds : List D) (δ : En) (o : Bool) (P : En → Prop), setAllK δ is ds o P = P (setAll δ is ds o)
  | [], ds, δ, o, P => by simp only [setAllK, setAll]
  | i :: is, [], δ, o, P => by simp only [setAllK, setAll]
  | i :: is, d :: ds, δ, o, P => by
    simp only [setAllK, setAll]
    rw [setK_eq, setAllK_eq is ds]
def setAllV : L2.St → List Nat → List V → L2.St
  | σ, i :: is, v :: vs => setAllV (σ.set i (some v)) is vs
  | σ, _, _ => σ
def setNu : Nu → Nat → List Addr → Nu := fun ν i M j => if j = i then M else ν j
theorem set_all_ok {K : PySem.W.Frag} {H0 H : Hp} {π : Nat → Option V} {o : Bool} : ∀ {is : List Nat} {σ : L2.St} {δ : En} {ν : Nu} {vs : List V} {ds : List D} {N : List Addr}, EnvOk K H0 π H σ δ ν → Rps K H vs ds N →
    (o = true → N.Nodup ∧ (∀ a ∈ N, H0 a = none) ∧ ∀ a ∈ N, ∀ j s, δ[j]? = some (some s) → a ∉ ν j) → (∀ j s, δ[j]? = some (some s) → s.own = true → ∀ a ∈ ν j, a ∉ N) → ∃ ν', EnvOk K H0 π H (setAllV σ is vs) (setAll δ is ds o) ν'
  | [], σ, δ, ν, _, _, _, E, r, _, _ => ⟨ν, by simpa only [setAll, setAllV] using E⟩
  | i :: is, σ, δ, ν, _, _, _, E, .nil, _, _ => ⟨ν, by simpa only [setAll, setAllV] using E⟩
  | i :: is, σ, δ, ν, _, _, _, E, .cons (v := v) (vs := vs) (d := d) (ds := ds) (N := N1) (M := N2) r s, h1, h2 => by
    have q : FOk K H0 δ ν H v d o N1 := by
      refine ⟨r, fun z => (List.nodup_append.mp (h1 z).1).1, fun z a ha => (h1 z).2.1 a (List.mem_append_left _ ha), fun z a ha => (h1 z).2.2 a (List.mem_append_left _ ha), fun j t ht ho a ha hm => h2 j t ht ho a ha (List.mem_append_left _ hm)⟩
    have E' := E.set q i
    simp only [setAll, setAllV]
    refine set_all_ok E' s (fun z => ⟨(List.nodup_append.mp (h1 z).1).2.1, fun a ha => (h1 z).2.1 a (List.mem_append_right _ ha), fun a ha j t ht => ?_⟩) fun j t ht ho a ha hm => ?_
    · show a ∉ (if j = i then N1 else ν j)
      by_cases ej : j = i
      · rw [if_pos ej]
        exact fun hm => (List.nodup_append.mp (h1 z).1).2.2 a hm a ha rfl
      · rw [if_neg ej]
        rw [List.getElem?_set_ne (Ne.symm ej)] at ht
        exact (h1 z).2.2 a (List.mem_append_right _ ha) j t ht
    · have ha : a ∈ (if j = i then N1 else ν j) := ha
      by_cases ej : j = i
      · subst ej
        rw [if_pos rfl] at ha
        by_cases hl : j < δ.length
        · rw [List.getElem?_set_self hl] at ht
          cases ht
          have z : o = true := ho
          exact (List.nodup_append.mp (h1 z).1).2.2 a ha a hm rfl
        · rw [List.getElem?_eq_none (by simpa using hl)] at ht; cases ht
      · rw [if_neg ej] at ha
        rw [List.getElem?_set_ne (Ne.symm ej)] at ht
        exact h2 j t ht ho a ha (List.mem_append_right _ hm)
def gNames : List Nat → TGs
  | [] => gNil
  | i :: is => gCons (gName i) (gNames is)
theorem gnames_ok : ∀ {is : List Nat} {vs : List V} {σ : L2.St} {H : Hp} {Q : L2.St → Hp → Prop}, vs.length = is.length → Q (setAllV σ is vs) H → gNames is vs σ H Q
  | [], [], _, _, _, _, q => ⟨rfl, q⟩
  | i :: is, v :: vs, _, _, _, h, q => ⟨v, vs, rfl, gnames_ok (by simpa using h) q⟩
/-- what is stored at a target: a name, or a tuple of names -/
inductive Tgt where
  | nm (i : Nat)
  | tp (is : List Nat)
def gOf (K : PySem.W.Frag) : Tgt → TG
  | .nm i => gName i
  | .tp is => gTup K is.length (gNames is)
def asgT (t : Tgt) (d : D) (o : Bool) (δ : En) (P : En → Prop) : Prop := match t with
  | .nm i => setK δ i (some ⟨d, o, false⟩) P
  | .tp is => (match d with
    | .tuple ds => ds.length = is.length ∧ setAllK δ is ds o P
    | _ => False)
theorem asgT_nm {i : Nat} {d : D} {o : Bool} {δ : En} {P : En → Prop} : asgT (.nm i) d o δ P = P (δ.set i (some ⟨d, o, false⟩)) := setK_eq _ _ _ _
theorem asgT_tp {is : List Nat} {ds : List D} {o : Bool} {δ : En} {P : En → Prop} : asgT (.tp is) (.tuple ds) o δ P = (ds.length = is.length ∧ P (setAll δ is ds o)) := by
  show (ds.length = is.length ∧ setAllK δ is ds o P) = _
  rw [setAllK_eq]
theorem asgT_mono {tg : Tgt} {d : D} {o : Bool} {δ : En} {P Q : En → Prop} (h : ∀ δ, P δ → Q δ) (q : asgT tg d o δ P) : asgT tg d o δ Q := by
  cases tg with
  | nm i =>
    rw [asgT_nm] at q ⊢
    exact h _ q
  | tp is =>
    cases d with
    | tuple ds =>
      rw [asgT_tp] at q ⊢
      exact ⟨q.1, h _ q.2⟩
    | _ => exact q.elim
theorem asgT_ok {K : PySem.W.Frag} {H0 H : Hp} {π : Nat → Option V} {σ : L2.St} {δ : En} {ν : Nu} {v : V} {d : D} {o : Bool} {M : List Addr} {tg : Tgt} {P : En → Prop} {Q : L2.St → Hp → Prop} (E : EnvOk K H0 π H σ δ ν) (q : FOk K H0 δ ν H v d o M)
    (h : asgT tg d o δ P) (i : ∀ σ' δ' ν', EnvOk K H0 π H σ' δ' ν' → P δ' → Q σ' H) : gOf K tg v σ H Q := by
  cases tg with
  | nm j =>
    rw [asgT_nm] at h
    exact i _ _ _ (E.set q j) h
  | tp is =>
    have r := q.rp
    cases d with
    | tuple ds =>
      rw [asgT_tp] at h
      obtain ⟨hl, h⟩ := h
      obtain ⟨a, xs, rfl, ha, s⟩ := r.tuple_
      obtain ⟨ν', E'⟩ := set_all_ok (is := is) E s (fun z => ⟨q.nd z, q.fr z, q.dj z⟩) q.al
      exact ⟨a, xs, rfl, ha, by rw [s.length]; exact hl, gnames_ok (by rw [s.length]; exact hl) (i _ _ _ E' h)⟩
    | _ => exact h.elim
/-- the targets of the text -/
structure TgOk (X : Cx) (tgt : Expr) (tg : Tgt) : Prop where
  pg : PG X tgt (gOf X.K tg)
theorem tg_nm (i : Nat) {x : Str} {pos : Pos} (hN : X.N.Nodup) (hi : X.N[i]? = some x := by rfl) (hx : Loc X.env.scope x := by first | exact Or.inl rfl | exact Or.inr rfl)
    (hf : X.fn x = true ∨ X.env.scope.names.lookup x = some .local := by first | exact .inl rfl | exact .inr rfl | assumption) : TgOk X (.Name x pos) (.nm i) := ⟨pg_name hN hi hx hf⟩
theorem tg_tp {es : List Expr} {is : List Nat} {k : Nat} {pos : Pos} (hc : X.calm = true) (h : PGs X es (gNames is)) (hn : (assignEach es X.env).length = is.length := by rfl) (hst : (assignEach es X.env).findIdx? (·.1) = none := by rfl) :
    TgOk X (.Tuple es k pos) (.tp is) := ⟨pg_tup hc h hn hst⟩
/-- a, b = e -/
def mAsg (tg : Tgt) (k : Bool) (f : DE) : DS := fun E δ => f δ fun x => match k with
  | true => killK δ x.roots fun δ' => asgT tg x.d x.own δ' E.nx
  | false => demK δ x.roots fun δ' => asgT tg x.d (match x.roots with | [] => x.own | _ => false) δ' E.nx
theorem sv_asg {tgt : Expr} {tg : Tgt} (k : Bool) (he : EV X e f) (hg : TgOk X tgt tg) (hs : swapsWithSole [tgt] e pos.line X.env = pure false := by rfl) (hw : swappedStores [tgt] e X.env = pure none := by rfl)
    (h1 : (assignEach [tgt] X.env).map (·.2) = [assign tgt X.env] := by rfl) : SV X (.Assign [tgt] e pos) (mAsg tg k f) := by
  refine ⟨fun A B δ h1 h2 q => he.mono _ _ _ (fun x q => ?_) q, fun H0 π => psi (ps_asg (he.pe H0 π) hg.pg hs hw h1) fun D σ H ⟨δ, ν, E, q⟩ => ?_⟩
  · cases k
    · dsimp only at q ⊢
      rw [demK_eq] at q ⊢
      exact asgT_mono h1 q
    · dsimp only at q ⊢
      rw [killK_eq] at q ⊢
      exact asgT_mono h1 q
  · refine ⟨δ, ν, E, he.mono _ _ _ (fun x q v H1 M s1 o1 => ?_) q⟩
    cases k with
    | true =>
      dsimp only at q
      rw [killK_eq] at q
      exact asgT_ok ((E.same s1).kill x.roots) (o1.killed E) q fun σ' δ' ν' E' q => q _ _ _ E'
    | false =>
      dsimp only at q
      rw [demK_eq] at q
      revert q
      split
      · rename_i er
        intro q
        have o2 := o1.killed E
        rw [er] at o2 q
        exact asgT_ok (E.same s1) o2 q fun σ' δ' ν' E' q => q _ _ _ E'
      · intro q
        exact asgT_ok ((E.same s1).dem x.roots) (o1.demoted E) q fun σ' δ' ν' E' q => q _ _ _ E'
end

/-! ### a def -/
/-- the parameters at the entry -/
def initE (n : Nat) (ds : List D) : En := ds.map (fun d => some ⟨d, false, true⟩) ++ List.replicate (n - ds.length) none
def initK : Nat → List D → (En → Prop) → Prop
  | n + 1, d :: ds, P => initK n ds fun δ => P (some ⟨d, false, true⟩ :: δ)
  | n + 1, [], P => initK n [] fun δ => P (none :: δ)
  | 0, ds, P => P (ds.map fun d => some ⟨d, false, true⟩)
theorem initK_eq : ∀ (n : Nat) (ds : List D) (P : En → Prop), initK n ds P = P (initE n ds)
  | 0, ds, P => by simp [initK, initE]
  | n + 1, [], P => by
    simp only [initK]
    rw [initK_eq n []]
    simp [initE, List.replicate_succ]
  | n + 1, d :: ds, P => by
    simp only [initK]
    rw [initK_eq n ds]
    simp [initE]
def runF (n : Nat) (m : DS) : W := fun ds Q => initK n ds fun δ => m ⟨fun _ => Q .none, fun x _ => x.own = true ∧ Q x.d⟩ δ
theorem init_look {n : Nat} {ds : List D} {i : Nat} {s : Slot} (h : (initE n ds)[i]? = some (some s)) : ∃ d, ds[i]? = some d ∧ s = ⟨d, false, true⟩ := by
  unfold initE at h
  by_cases hi : i < ds.length
  · rw [List.getElem?_append_left (by simpa using hi), List.getElem?_map, List.getElem?_eq_getElem hi] at h
    simp only [Option.map_some, Option.some.injEq] at h
    exact ⟨ds[i], List.getElem?_eq_getElem hi, h.symm⟩
  · rw [List.getElem?_append_right (by simpa using hi), List.getElem?_replicate] at h
    split at h <;> simp at h
theorem init_ok {K : PySem.W.Frag} {H : Hp} {N : List Str} {vs : List V} {ds : List D} {M : List Addr} (r : Rps K H vs ds M) (hl : vs.length ≤ N.length) : ∃ ν, EnvOk K H (fun i => vs[i]?) H (start N vs) (initE N.length ds) ν := by
  have all : ∀ i d, ds[i]? = some d → ∃ v L, vs[i]? = some v ∧ Rp K H v d L := fun i d h => by
    obtain ⟨v, A, L, B, h1, _, h3⟩ := r.get h
    exact ⟨v, L, h1, h3⟩
  have hν : ∃ ν : Nu, ∀ i d, ds[i]? = some d → ∃ v, vs[i]? = some v ∧ Rp K H v d (ν i) := by
    refine ⟨fun i => match h : ds[i]? with | some d => Classical.choose (Classical.choose_spec (all i d h)) | none => [], fun i d h => ?_⟩
    dsimp only
    split
    · rename_i d' h'
      rw [h] at h'
      cases h'
      exact ⟨_, Classical.choose_spec (Classical.choose_spec (all i d h))⟩
    · rename_i h'
      rw [h] at h'
      cases h'
  obtain ⟨ν, hν⟩ := hν
  refine ⟨ν, ?_, Same.refl H, fun i s h => ?_, fun i s h o => ?_, fun i j s t n h o => ?_⟩
  · have := r.length
    simp [initE, L2.start]; omega
  · obtain ⟨d, hd, rfl⟩ := init_look h
    obtain ⟨v, hv, rv⟩ := hν i d hd
    refine ⟨v, ?_, rv, fun _ => hv⟩
    unfold L2.start
    have hi : i < vs.length := (List.getElem?_eq_some_iff.mp hv).1
    rw [List.getElem?_append_left (by simpa using hi), List.getElem?_map, hv]
    rfl
  · obtain ⟨d, _, rfl⟩ := init_look h
    cases o
  · obtain ⟨d, _, rfl⟩ := init_look h
    cases o
section
variable {P : Program} {w : World} {K : PySem.W.Frag} {mg : Str → Option Value} {base : Heap}
/-- a def keeps the promise of its body's predicate -/
theorem ok_def {x qual : Str} {st : Stmt} {f : Addr} {fd : FuncData} {N ps : List Str} {k : Nat} {m : DS} (F : L2.Fun K x qual st f fd) (S : FnScope N ps (defScope st))
    (hbody : ∀ (cdv : Value) (A : Around) (outer : List Env) (s : Shared) (H : Hp) (E : XK), Room k (A.deeper (envOfC qual (defScope st) s.heap.objs.size f cdv)) →
      SVs (cxOf L2.CX0 P w K mg base N qual (defScope st) f cdv A outer s H E).nox (defBody st) m) (hpn : ps.length ≤ N.length := by decide) :
    FnOk P w K mg base L2.CX0 (k + 1) f fd ps (spOf K ps.length (runF N.length m)) := by
  refine F.ok S (fun vs H Q E h => h.1) fun cdv A outer s H vs Q E hr h => ?_
  obtain ⟨hl, ds, M, r, Qd, q, hQ⟩ := h
  have B := hbody cdv A outer s H E hr
  obtain ⟨ν, e⟩ := init_ok (N := N) r (by rw [hl]; exact hpn)
  have q : m ⟨fun _ => Qd .none, fun x _ => x.own = true ∧ Qd x.d⟩ (initE N.length ds) := by
    have q' := q
    unfold runF at q'
    rw [initK_eq] at q'
    exact q'
  refine ⟨_, B.pss H (fun i => vs[i]?), initE N.length ds, ν, e, ?_⟩
  refine B.mono _ _ _ (fun δ q σ' H' ν' E' => ?_) (fun y δ q v σ' H1 H' ν' M' E' s1 o => ?_) q
  · exact hQ _ q .non H' [] E'.sm .non List.nodup_nil fun _ z => (nomatch z)
  · obtain ⟨ho, q⟩ := q
    refine hQ _ q v H' M' (E'.sm.trans s1) o.rp (o.nd ho) fun a ha => ?_
    rcases o.fr ho a ha with z | ⟨j, _, t, ht, hto, hm⟩
    · exact E'.sm.free z
    · exact (E'.nd j t ht hto).2 a hm
/-- .. as one that may be called -/
theorem cal_def {x : Str} {st : Stmt} {f : Addr} {fd : FuncData} {N ps : List Str} {k : Nat} {m : DS} (F : L2.Fun K x x st f fd) (S : FnScope N ps (defScope st)) (hm : mg x = some (.ref f)) (hb : Binds K fd ps [])
    (hbody : ∀ (cdv : Value) (A : Around) (outer : List Env) (s : Shared) (H : Hp) (E : XK), Room k (A.deeper (envOfC x (defScope st) s.heap.objs.size f cdv)) →
      SVs (cxOf L2.CX0 P w K mg base N x (defScope st) f cdv A outer s H E).nox (defBody st) m) (hpn : ps.length ≤ N.length := by decide) : Cal P w K mg base x (k + 1) ps.length (runF N.length m) :=
  ⟨f, fd, ps, ok_def F S hbody hpn, hm, F.kp, hb⟩
end
end KT
/-! KtF: loops, lists changed in place. -/
namespace KT
open PySem PySem.Spec PyProof.Rows L2

/-! ### loops over data -/
/-- n turns from turn i on -/
def loopN (body : Nat → (En → Prop) → En → Prop) : Nat → Nat → (En → Prop) → En → Prop
  | 0, _, P, δ => P δ
  | n + 1, i, P, δ => body i (loopN body n (i + 1) P) δ
/-- .. that no computation opens -/
@[irreducible] def LoopN (body : Nat → (En → Prop) → En → Prop) (n i : Nat) (P : En → Prop) (δ : En) : Prop := loopN body n i P δ
theorem LoopN_to {body : Nat → (En → Prop) → En → Prop} {n i : Nat} {P : En → Prop} {δ : En} (h : LoopN body n i P δ) : loopN body n i P δ := by
  unfold LoopN at h
  exact h
theorem LoopN_of {body : Nat → (En → Prop) → En → Prop} {n i : Nat} {P : En → Prop} {δ : En} (h : loopN body n i P δ) : LoopN body n i P δ := by
  unfold LoopN
  exact h
theorem loopN_mono {body body' : Nat → (En → Prop) → En → Prop} (hb : ∀ i (P Q : En → Prop), (∀ δ, P δ → Q δ) → ∀ δ, body i P δ → body' i Q δ) {P Q : En → Prop} (h : ∀ δ, P δ → Q δ) : ∀ n i δ, loopN body n i P δ → loopN body' n i Q δ
  | 0, _, _, q => h _ q
  | n + 1, i, δ, q => hb i _ _ (fun δ q => loopN_mono hb h n (i + 1) δ q) δ q

section
variable {K : PySem.W.Frag} {H0 H H1 H' : Hp} {π : Nat → Option V} {σ : L2.St} {δ : En} {ν : Nu} {v : V} {x : Val} {M : List Addr}
/-- a value without lists, to be stored -/
theorem FOk.imm {d : D} (r : Rp K H' v d M) (h : imm d = true) (o : Bool) : FOk K H0 δ ν H' v d o M := by
  have e := r.imm h
  subst e
  exact ⟨r, fun _ => List.nodup_nil, fun _ _ z => (nomatch z), fun _ _ z => (nomatch z), fun _ _ _ _ _ _ z => (nomatch z)⟩

/-! the heap that is shut: all but the names' own lists -/
open Classical in
noncomputable def shut (H : Hp) (δ : En) (ν : Nu) : Hp := fun a => if ∃ i s, δ[i]? = some (some s) ∧ s.own = true ∧ a ∈ ν i then none else H a
theorem shut_same (H : Hp) (δ : En) (ν : Nu) : Same (shut H δ ν) H := fun b o h => by
  unfold shut at h
  split at h
  · cases h
  · exact h
mutual
theorem Rp.lsts {v : V} {d : D} {N : List Addr} : Rp K H v d N → ∀ a ∈ N, ∃ xs, H a = some (.lst xs)
  | .non => fun _ h => nomatch h
  | .bl _ => fun _ h => nomatch h
  | .int _ => fun _ h => nomatch h
  | .str _ => fun _ h => nomatch h
  | .lst h r => fun a ha => by
    rcases List.mem_cons.mp ha with rfl | ha
    · exact ⟨_, h⟩
    · exact r.lsts a ha
  | .tup h r => r.lsts
  | .scr _ => fun _ h => nomatch h
theorem Rps.lsts {vs : List V} {ds : List D} {N : List Addr} : Rps K H vs ds N → ∀ a ∈ N, ∃ xs, H a = some (.lst xs)
  | .nil => fun _ h => nomatch h
  | .cons r s => fun a ha => (List.mem_append.mp ha).elim (r.lsts a) (s.lsts a)
end
mutual
/-- what a value needs of the heap: its lists and what is no list -/
theorem Rp.keep {v : V} {d : D} {N : List Addr} : Rp K H v d N → (∀ a o, H a = some o → (a ∈ N ∨ ∀ xs, o ≠ .lst xs) → H' a = some o) → Rp K H' v d N
  | .non, _ => .non
  | .bl c, _ => .bl c
  | .int i, _ => .int i
  | .str x, _ => .str x
  | .lst h r, k => .lst (k _ _ h (.inl List.mem_cons_self)) (Rps.keep r fun a o e q => k a o e (q.imp (List.mem_cons_of_mem _) id))
  | .tup h r, k => .tup (h.imp (fun z => z.imp (fun z => k _ _ z (.inr fun _ e => nomatch e)) fun ⟨o, z⟩ => ⟨o, k _ _ z (.inr fun _ e => nomatch e)⟩) id) (Rps.keep r k)
  | .scr h, k => .scr (h.imp (fun ⟨o, q⟩ => ⟨o, k _ _ q (.inr fun _ e => nomatch e)⟩) id)
theorem Rps.keep {vs : List V} {ds : List D} {N : List Addr} : Rps K H vs ds N → (∀ a o, H a = some o → (a ∈ N ∨ ∀ xs, o ≠ .lst xs) → H' a = some o) → Rps K H' vs ds N
  | .nil, _ => .nil
  | .cons r s, k => .cons (Rp.keep r fun a o e q => k a o e (q.imp (List.mem_append_left _) id)) (Rps.keep s fun a o e q => k a o e (q.imp (List.mem_append_right _) id))
end
theorem EnvOk.shut (E : EnvOk K H0 π H σ δ ν) : EnvOk K (shut H δ ν) π H σ δ ν := by
  refine ⟨E.len, shut_same H δ ν, E.at_, fun i s h o => ⟨(E.nd i s h o).1, fun a ha => ?_⟩, E.dj⟩
  unfold KT.shut
  rw [if_pos ⟨i, s, h, o, ha⟩]
theorem shut_over (E : EnvOk K H0 π H σ δ ν) : Same H0 (shut H δ ν) := fun b o h => by
  unfold shut
  rw [if_neg]
  · exact E.sm b o h
  · rintro ⟨i, s, hs, ho, hm⟩
    rw [(E.nd i s hs ho).2 b hm] at h
    cases h
theorem EnvOk.open {H2 : Hp} (E : EnvOk K H2 π H σ δ ν) (s : Same H0 H2) : EnvOk K H0 π H σ δ ν :=
  ⟨E.len, s.trans E.sm, E.at_, fun i t h o => ⟨(E.nd i t h o).1, fun a ha => s.free ((E.nd i t h o).2 a ha)⟩, E.dj⟩
/-- a value that touches no name's own list stands in the shut heap -/
theorem Rp.shut (E : EnvOk K H0 π H σ δ ν) {v : V} {d : D} {N : List Addr} (r : Rp K H v d N) (al : ∀ j s, δ[j]? = some (some s) → s.own = true → ∀ a ∈ ν j, a ∉ N) : Rp K (shut H δ ν) v d N := by
  refine r.keep fun a o e q => ?_
  unfold KT.shut
  rw [if_neg]
  · exact e
  · rintro ⟨i, s, hs, ho, hm⟩
    rcases q with q | q
    · exact al i s hs ho a hm q
    · obtain ⟨v', _, rv, _⟩ := E.at_ i s hs
      obtain ⟨xs, e'⟩ := rv.lsts a hm
      rw [e] at e'
      cases e'
      exact q xs rfl
/-- a part of the shut heap, to be stored as shared -/
theorem FOk.shared {H2 : Hp} (E : EnvOk K H2 π H σ δ ν) {d : D} {L : List Addr} (r : Rp K H2 v d L) : FOk K H2 δ ν H v d false L :=
  ⟨r.same E.sm, fun z => (nomatch z), fun z => (nomatch z), fun z => (nomatch z), fun j s h o a ha hm => r.trk a hm ((E.nd j s h o).2 a ha)⟩
end

section
variable {X : Cx} {a b e c : Expr} {es : List Expr} {fa fb f : DE} {g : DA} {t : DT} {pos : Pos} {st : Stmt} {sts : List Stmt} {m n : DS}

/-! ### for over a range -/
def rg1 (ds : List D) (P : Int → Nat → Prop) : Prop := match ds with
  | [.int j] => (-(2 ^ 62) ≤ j ∧ j < 2 ^ 62) ∧ P 0 j.toNat
  | _ => False
def rg2 (ds : List D) (P : Int → Nat → Prop) : Prop := match ds with
  | [.int i, .int j] => (-(2 ^ 62) ≤ i ∧ i < 2 ^ 62 ∧ -(2 ^ 62) ≤ j ∧ j < 2 ^ 62) ∧ P i (j - i).toNat
  | _ => False
theorem rg1_mono {ds : List D} {P Q : Int → Nat → Prop} (h : ∀ i n, P i n → Q i n) (q : rg1 ds P) : rg1 ds Q := by
  unfold rg1 at *
  split at q
  · exact ⟨q.1, h _ _ q.2⟩
  · exact q.elim
theorem rg2_mono {ds : List D} {P Q : Int → Nat → Prop} (h : ∀ i n, P i n → Q i n) (q : rg2 ds P) : rg2 ds Q := by
  unfold rg2 at *
  split at q
  · exact ⟨q.1, h _ _ q.2⟩
  · exact q.elim
def bodyR (tg : Tgt) (wl : List Nat) (m : DS) (E : DEnds) (lo : Int) : Nat → (En → Prop) → En → Prop := fun k P δ => asgT tg (.int (lo + k)) true (killR δ wl) fun δ' => m ⟨P, E.rt⟩ δ'
def mForR (rg : List D → (Int → Nat → Prop) → Prop) (tg : Tgt) (wl : List Nat) (g : DA) (m : DS) : DS := fun E δ => g δ fun xs => rg (xs.map Val.d) fun lo n => LoopN (bodyR tg wl m E lo) n 0 (fun δ => E.nx (killR δ wl)) δ
theorem bodyR_mono {tg : Tgt} {wl : List Nat} (hm : MonoS m) {A B : DEnds} (h2 : ∀ x δ, A.rt x δ → B.rt x δ) {lo : Int} : ∀ i (P Q : En → Prop), (∀ δ, P δ → Q δ) → ∀ δ, bodyR tg wl m A lo i P δ → bodyR tg wl m B lo i Q δ := fun i P Q h δ q =>
  asgT_mono (fun δ q => hm ⟨P, A.rt⟩ ⟨Q, B.rt⟩ δ h h2 q) q
theorem forR_sem {tg : Tgt} {wl : List Nat} {H0 : Hp} {π : Nat → Option V} {lo : Int} {n : Nat} (hm : MonoS m) {D : Ends} {σ : L2.St} {H : Hp} {δ : En} {ν : Nu} (E : EnvOk X.K H0 π H σ δ ν)
    (q : loopN (bodyR tg wl m (dEnds X.K H0 π D) lo) n 0 (fun δ => (dEnds X.K H0 π D).nx (killR δ wl)) δ) :
    ∃ W : Nat → Nat → L2.St → Hp → Prop, (∃ m, W 0 m σ H) ∧ ∀ i k σ H, W i k σ H →
      ((Itr lo n).stop i H ∧ D.nx σ H) ∨ ((Itr lo n).go i H ∧ ∃ N : L2.St → Hp → Prop, (∀ σ' H', N σ' H' → ∃ m', m' < k ∧ W (i + 1) m' σ' H') ∧ ∀ x H', (Itr lo n).yld i H x H' → gOf X.K tg x σ H' fun σ2 H2 => semS X.K H0 π m { D with nx := N, ct := N, bk := D.nx } σ2 H2) := by
  refine for_range (lo := lo) (n := n) (fun k σ H => ∃ δ ν, EnvOk X.K H0 π H σ δ ν ∧ loopN (bodyR tg wl m (dEnds X.K H0 π D) lo) (n - k) k (fun δ => (dEnds X.K H0 π D).nx (killR δ wl)) δ) ⟨δ, ν, E, q⟩ (fun k σ H hk ⟨δ, ν, E, q⟩ => ?_) fun σ H ⟨δ, ν, E, q⟩ => ?_
  · obtain ⟨r, hr⟩ : ∃ r, n - k = r + 1 := ⟨n - k - 1, by omega⟩
    have hr2 : n - (k + 1) = r := by omega
    rw [hr] at q
    refine asgT_ok (E.kill wl) (FOk.imm (.int _) rfl true) q fun σ' δ' ν' E' q => ⟨δ', ν', E', ?_⟩
    exact hm ⟨loopN (bodyR tg wl m (dEnds X.K H0 π D) lo) r (k + 1) (fun δ => (dEnds X.K H0 π D).nx (killR δ wl)), (dEnds X.K H0 π D).rt⟩ _ _ (fun δ q σ'' H'' ν'' E'' => ⟨δ, ν'', E'', by rw [hr2]; exact q⟩) (fun x δ q => q) q
  · rw [Nat.sub_self] at q
    exact q _ _ _ (E.kill wl)
theorem mforR_mono {rg : List D → (Int → Nat → Prop) → Prop} {tg : Tgt} {wl : List Nat} (hr : ∀ {ds : List D} {P Q : Int → Nat → Prop}, (∀ i n, P i n → Q i n) → rg ds P → rg ds Q)
    (hg : ∀ δ (P P' : List Val → Prop), (∀ x, P x → P' x) → g δ P → g δ P') (hm : MonoS m) : MonoS (mForR rg tg wl g m) := fun A B δ h1 h2 q =>
  hg _ _ _ (fun xs q => hr (fun i n q => LoopN_of (loopN_mono (bodyR_mono hm h2) (fun δ q => h1 _ q) _ _ _ (LoopN_to q))) q) q
theorem sv_forR1 {tgt : Expr} {tg : Tgt} (wl : List Nat) {body : List Stmt} {p pos' : Pos} (hp : PassesOwn (model X.prog X.w) X.A X.env X.xe) (hc : X.calm = true) (hr : Gl X "range") (hmr : X.mg "range" = none) (ha : EA X [a] g) (htg : TgOk X tgt tg) (hb : SVs X body m)
    (hs1 : starEach [a] X.env = [(false, eval a X.env)] := by rfl) (hs : ∀ x, foldedSetIterable (.Call (.Name "range" p) [a] [] pos') X.env x = pure x := by intro _; rfl) :
    SV X (.For tgt (.Call (.Name "range" p) [a] [] pos') body [] pos) (mForR rg1 tg wl g m) := by
  refine ⟨mforR_mono rg1_mono ha.mono hb.mono, fun H0 π => psi (ps_for hp hc (pi_range1 hr hmr (ha.pa H0 π) hs1) htg.pg (hb.pss H0 π) hs) fun D σ H ⟨δ, ν, E, q⟩ => ?_⟩
  refine ⟨δ, ν, E, ha.mono _ _ _ (fun xs q vs H1 Ms s1 o1 => ?_) q⟩
  have r := o1.rps
  revert q
  generalize xs.map Val.d = ds at r
  intro q
  unfold rg1 at q
  split at q
  · obtain ⟨v, rfl, u⟩ := r.one_
    rw [u.int_]
    exact ⟨_, rfl, q.1.1, q.1.2, forR_sem hb.mono (E.same s1) (LoopN_to q.2)⟩
  · exact q.elim
theorem sv_forR2 {tgt : Expr} {tg : Tgt} (wl : List Nat) {body : List Stmt} {p pos' : Pos} (hp : PassesOwn (model X.prog X.w) X.A X.env X.xe) (hc : X.calm = true) (hr : Gl X "range") (hmr : X.mg "range" = none) (ha : EA X [a, b] g) (htg : TgOk X tgt tg) (hb : SVs X body m)
    (hs1 : starEach [a, b] X.env = [(false, eval a X.env), (false, eval b X.env)] := by rfl) (hs2 : starEach [b] X.env = [(false, eval b X.env)] := by rfl) (hs : ∀ x, foldedSetIterable (.Call (.Name "range" p) [a, b] [] pos') X.env x = pure x := by intro _; rfl) :
    SV X (.For tgt (.Call (.Name "range" p) [a, b] [] pos') body [] pos) (mForR rg2 tg wl g m) := by
  refine ⟨mforR_mono rg2_mono ha.mono hb.mono, fun H0 π => psi (ps_for hp hc (pi_range2 hr hmr (ha.pa H0 π) hs1 hs2) htg.pg (hb.pss H0 π) hs) fun D σ H ⟨δ, ν, E, q⟩ => ?_⟩
  refine ⟨δ, ν, E, ha.mono _ _ _ (fun xs q vs H1 Ms s1 o1 => ?_) q⟩
  have r := o1.rps
  revert q
  generalize xs.map Val.d = ds at r
  intro q
  unfold rg2 at q
  split at q
  · obtain ⟨v, w, A, B, rfl, u1, u2⟩ := r.two_
    rw [u1.int_, u2.int_]
    exact ⟨_, _, rfl, q.1, forR_sem hb.mono (E.same s1) (LoopN_to q.2)⟩
  · exact q.elim

/-! ### for over a list or a tuple -/
/-- what is walked: a list or a tuple at an address -/
def iSeq (K : PySem.W.Frag) (tl : TE) : TI := fun σ H R => tl σ H fun x H1 => ∃ a, x = .ref a ∧ (((∃ xs, SqL K H1 a xs) ∧ R (Itl K a) H1) ∨ ((∃ xs, SqT K H1 a xs) ∧ R (Itt K a) H1))
theorem pi_seq {tgt l : Expr} {tl : TE} (hl : PE X l tl) : PI X tgt l (iSeq X.K tl) := by
  refine ⟨fun pins s σ H R I h => ?_⟩
  refine thn (hl.run pins s σ H _ I h) fun v s1 h2 => ?_
  obtain ⟨x, H1, I1, r1, a, e, q⟩ := h2
  subst e
  rcases q with ⟨hq, q⟩ | ⟨hq, q⟩
  · have P : PE X l (fun σ2 H2 Q => False) := ⟨fun _ _ _ _ _ _ z => z.elim⟩
    obtain ⟨xs, hq⟩ := hq
    cases r1
    obtain ⟨its, rv, p, hz⟩ := I1.list hq
    refine wpAny_pyIter_list p.isList ⟨s1.heap.objs.size, [s1.heap.objs.size], _, _, H1, rfl, ?_, turn_list a _, ⟨_, Heap.get?_push_size _ rfl, rfl, rfl⟩, fun b hb => ?_, q⟩
    · exact I1.kept (t' := s1.toks) fun b o e => Heap.get?_push_of_some _ e
    · rw [List.mem_singleton.mp hb]
      exact I1.fpOk (Nat.le_refl _) (I1.hok.fresh (Nat.le_refl _))
  · obtain ⟨xs, hq⟩ := hq
    cases r1
    obtain ⟨its, rv, p, hz⟩ := I1.tuple hq
    refine wpAny_pyIter_tuple (show s1.heap.IsTuple a its.toArray from p) ⟨s1.heap.objs.size, [s1.heap.objs.size], _, _, H1, rfl, ?_, turn_tuple a _, ⟨_, Heap.get?_push_size _ rfl, rfl, rfl⟩, fun b hb => ?_, q⟩
    · exact I1.kept (t' := s1.toks) fun b o e => Heap.get?_push_of_some _ e
    · rw [List.mem_singleton.mp hb]
      exact I1.fpOk (Nat.le_refl _) (I1.hok.fresh (Nat.le_refl _))
/-- the turns over a list's items -/
def loopL (body : D → (En → Prop) → En → Prop) : List D → (En → Prop) → En → Prop
  | [], P, δ => P δ
  | d :: ds, P, δ => body d (loopL body ds P) δ
@[irreducible] def LoopL (body : D → (En → Prop) → En → Prop) (ds : List D) (P : En → Prop) (δ : En) : Prop := loopL body ds P δ
theorem LoopL_to {body : D → (En → Prop) → En → Prop} {ds : List D} {P : En → Prop} {δ : En} (h : LoopL body ds P δ) : loopL body ds P δ := by
  unfold LoopL at h
  exact h
theorem LoopL_of {body : D → (En → Prop) → En → Prop} {ds : List D} {P : En → Prop} {δ : En} (h : loopL body ds P δ) : LoopL body ds P δ := by
  unfold LoopL
  exact h
theorem loopL_mono {body body' : D → (En → Prop) → En → Prop} (hb : ∀ i (P Q : En → Prop), (∀ δ, P δ → Q δ) → ∀ δ, body i P δ → body' i Q δ) {P Q : En → Prop} (h : ∀ δ, P δ → Q δ) : ∀ ds δ, loopL body ds P δ → loopL body' ds Q δ
  | [], _, q => h _ q
  | d :: ds, δ, q => hb d _ _ (fun δ q => loopL_mono hb h ds δ q) δ q
def seqOf : D → Option (List D)
  | .list ds => some ds
  | .tuple ds => some ds
  | _ => none
def bodyV (tg : Tgt) (wl : List Nat) (m : DS) (E : DEnds) : D → (En → Prop) → En → Prop := fun d P δ => asgT tg d (imm d) (killR δ wl) fun δ' => m ⟨P, E.rt⟩ δ'
/-- over a value that no name changes meanwhile -/
def mForV (tg : Tgt) (wl : List Nat) (f : DE) (m : DS) : DS := fun E δ => f δ fun x => match seqOf x.d with
  | some ds => LoopL (bodyV tg wl m E) ds (fun δ => E.nx (killR δ wl)) (demR δ x.roots)
  | none => False
theorem bodyV_mono {tg : Tgt} {wl : List Nat} (hm : MonoS m) {A B : DEnds} (h2 : ∀ x δ, A.rt x δ → B.rt x δ) : ∀ i (P Q : En → Prop), (∀ δ, P δ → Q δ) → ∀ δ, bodyV tg wl m A i P δ → bodyV tg wl m B i Q δ := fun i P Q h δ q =>
  asgT_mono (fun δ q => hm ⟨P, A.rt⟩ ⟨Q, B.rt⟩ δ h h2 q) q
theorem mforV_mono {tg : Tgt} {wl : List Nat} (hf : ∀ δ (P P' : Val → Prop), (∀ x, P x → P' x) → f δ P → f δ P') (hm : MonoS m) : MonoS (mForV tg wl f m) := fun A B δ h1 h2 q => hf _ _ _ (fun x q => by
  revert q
  split
  · exact fun q => LoopL_of (loopL_mono (bodyV_mono hm h2) (fun δ q => h1 _ q) _ _ (LoopL_to q))
  · exact id) q
theorem dEnds_open {K : PySem.W.Frag} {H0 H2 : Hp} {π : Nat → Option V} {D : Ends} (s : Same H0 H2) : (∀ δ, (dEnds K H0 π D).nx δ → (dEnds K H2 π D).nx δ) ∧ ∀ x δ, (dEnds K H0 π D).rt x δ → (dEnds K H2 π D).rt x δ :=
  ⟨fun δ q σ H ν E => q σ H ν (E.open s), fun x δ q v σ H H' ν M E => q v σ H H' ν M (E.open s)⟩
theorem FOk.item {K : PySem.W.Frag} {H2 H : Hp} {π : Nat → Option V} {σ : L2.St} {δ : En} {ν : Nu} {v : V} {d : D} {L : List Addr} (E : EnvOk K H2 π H σ δ ν) (r : Rp K H2 v d L) : FOk K H2 δ ν H v d (KT.imm d) L := by
  cases h : KT.imm d with
  | true => exact FOk.imm (r.same E.sm) h true
  | false => exact FOk.shared E r
/-- the loop's turns, the walked thing standing in the shut heap -/
theorem forV_sem {tg : Tgt} {wl : List Nat} {H2 : Hp} {π : Nat → Option V} {ds : List KT.D} (hm : MonoS m) {D : Ends} {σ : L2.St} {H : Hp} {δ : En} {ν : Nu} {p : Addr} {d : KT.D} {M : List Addr} (E : EnvOk X.K H2 π H σ δ ν)
    (r : Rp X.K H2 (.ref p) d M) (hd : seqOf d = some ds) {F : DEnds} (hF : ∀ x δ, F.rt x δ → (dEnds X.K H2 π D).rt x δ) (hn : ∀ δ, F.nx δ → (dEnds X.K H2 π D).nx δ) {t2 : TS} (ht : ∀ D' σ H, semS X.K H2 π m D' σ H → t2 D' σ H)
    (q : loopL (bodyV tg wl m F) ds (fun δ => F.nx (killR δ wl)) δ) (J : It) (hJ : (∃ xs, d = .list xs ∧ J = Itl X.K p) ∨ (∃ xs, d = .tuple xs ∧ J = Itt X.K p)) :
    ∃ W : Nat → Nat → L2.St → Hp → Prop, (∃ m, W 0 m σ H) ∧ ∀ i k σ H, W i k σ H →
      (J.stop i H ∧ D.nx σ H) ∨ (J.go i H ∧ ∃ N : L2.St → Hp → Prop, (∀ σ' H', N σ' H' → ∃ m', m' < k ∧ W (i + 1) m' σ' H') ∧ ∀ x H', J.yld i H x H' → gOf X.K tg x σ H' fun σ3 H3 => t2 { D with nx := N, ct := N, bk := D.nx } σ3 H3) := by
  have turn : ∀ (i : Nat) (x : V) (xs : List V) (L : List Addr) (σ : L2.St) (H : Hp), Rps X.K H2 xs ds L → xs[i]? = some x → (∃ δ ν, EnvOk X.K H2 π H σ δ ν ∧ loopL (bodyV tg wl m F) (ds.drop i) (fun δ => F.nx (killR δ wl)) δ) →
      gOf X.K tg x σ H fun σ3 H3 => t2 { D with nx := fun σ H => ∃ δ ν, EnvOk X.K H2 π H σ δ ν ∧ loopL (bodyV tg wl m F) (ds.drop (i + 1)) (fun δ => F.nx (killR δ wl)) δ, ct := fun σ H => ∃ δ ν, EnvOk X.K H2 π H σ δ ν ∧ loopL (bodyV tg wl m F) (ds.drop (i + 1)) (fun δ => F.nx (killR δ wl)) δ, bk := D.nx } σ3 H3 := by
    intro i x xs L σ H hs hx ⟨δ, ν, E, q⟩
    obtain ⟨e, A, L', B, h1, h2, h3⟩ := hs.getV hx
    obtain ⟨hi, hie⟩ := List.getElem?_eq_some_iff.mp h1
    rw [List.drop_eq_getElem_cons hi, hie] at q
    refine asgT_ok (E.kill wl) (FOk.item (E.kill wl) h3) q fun σ' δ' ν' E' q => ht _ _ _ ⟨δ', ν', E', ?_⟩
    exact hm ⟨loopL (bodyV tg wl m F) (ds.drop (i + 1)) (fun δ => F.nx (killR δ wl)), F.rt⟩ _ _ (fun δ q σ'' H'' ν'' E'' => ⟨δ, ν'', E'', q⟩) hF q
  have fin : ∀ σ H, (∃ δ ν, EnvOk X.K H2 π H σ δ ν ∧ loopL (bodyV tg wl m F) (ds.drop ds.length) (fun δ => F.nx (killR δ wl)) δ) → D.nx σ H := by
    intro σ H ⟨δ, ν, E, q⟩
    rw [List.drop_length] at q
    exact hn _ q _ _ _ (E.kill wl)
  rcases hJ with ⟨xs', rfl, rfl⟩ | ⟨xs', rfl, rfl⟩
  · cases hd
    obtain ⟨a, xs, L, e, rfl, ha, s⟩ := r.list_
    cases e
    refine for_list (K := X.K) (a := p) (xs := xs) (g := gOf X.K tg) (fun i σ H => ∃ δ ν, EnvOk X.K H2 π H σ δ ν ∧ loopL (bodyV tg wl m F) (ds.drop i) (fun δ => F.nx (killR δ wl)) δ) ⟨δ, ν, E, q⟩ (fun i σ H _ ⟨δ, ν, E, _⟩ => SqL.of (E.sm _ _ ha)) (fun i x σ H hx h => turn i x xs L σ H s hx h) (fun σ H h => fin σ H ?_)
    rw [s.length] at h
    exact h
  · cases hd
    obtain ⟨a, xs, e, ha, s⟩ := r.tuple_
    cases e
    refine for_tup (K := X.K) (a := p) (xs := xs) (g := gOf X.K tg) (fun i σ H => ∃ δ ν, EnvOk X.K H2 π H σ δ ν ∧ loopL (bodyV tg wl m F) (ds.drop i) (fun δ => F.nx (killR δ wl)) δ) ⟨δ, ν, E, q⟩ (fun i σ H _ ⟨δ, ν, E, _⟩ => SqT.same E.sm ha) (fun i x σ H hx h => turn i x xs M σ H s hx h) (fun σ H h => fin σ H ?_)
    rw [s.length] at h
    exact h
/-- a block at any shut heap, any pins -/
def semAny (K : PySem.W.Frag) (m : DS) : TS := fun D σ H => ∃ H2 π, semS K H2 π m D σ H
theorem SVs.any (h : SVs X sts m) : PSs X sts (semAny X.K m) := ⟨fun pins s σ H D I ⟨H2, π, q⟩ => (h.pss H2 π).run pins s σ H D I q⟩
theorem sv_forV {tgt iter : Expr} {tg : Tgt} (wl : List Nat) {body : List Stmt} (hp : PassesOwn (model X.prog X.w) X.A X.env X.xe) (hc : X.calm = true) (he : EV X iter f) (htg : TgOk X tgt tg) (hb : SVs X body m)
    (hs : ∀ x, foldedSetIterable iter X.env x = pure x := by intro _; rfl) : SV X (.For tgt iter body [] pos) (mForV tg wl f m) := by
  refine ⟨mforV_mono he.mono hb.mono, fun H0 π => psi (ps_for hp hc (pi_seq (he.pe H0 π)) htg.pg hb.any hs) fun D σ H ⟨δ, ν, E, q⟩ => ?_⟩
  refine ⟨δ, ν, E, he.mono _ _ _ (fun x q v H1 M s1 o1 => ?_) q⟩
  have E1 := (E.same s1).dem x.roots
  have o2 := o1.demoted E
  have r2 := Rp.shut E1 o1.rp o2.al
  have E2 := E1.shut
  have so : Same H0 (shut H1 (demR δ x.roots) ν) := shut_over E1
  have go : ∀ (p : Addr) (ds : List KT.D) (J : It), v = .ref p → seqOf x.d = some ds → ((∃ xs, x.d = .list xs ∧ J = Itl X.K p) ∨ (∃ xs, x.d = .tuple xs ∧ J = Itt X.K p)) → loopL (bodyV tg wl m (dEnds X.K H0 π D)) ds (fun δ => (dEnds X.K H0 π D).nx (killR δ wl)) (demR δ x.roots) →
      ∃ W : Nat → Nat → L2.St → Hp → Prop, (∃ m, W 0 m σ H1) ∧ ∀ i k σ H, W i k σ H →
        (J.stop i H ∧ D.nx σ H) ∨ (J.go i H ∧ ∃ N : L2.St → Hp → Prop, (∀ σ' H', N σ' H' → ∃ m', m' < k ∧ W (i + 1) m' σ' H') ∧ ∀ x H', J.yld i H x H' → gOf X.K tg x σ H' fun σ3 H3 => semAny X.K m { D with nx := N, ct := N, bk := D.nx } σ3 H3) := by
    intro p ds J ev hd hJ q
    subst ev
    exact forV_sem hb.mono E2 r2 hd (dEnds_open so).2 (dEnds_open so).1 (fun D' σ H h => ⟨_, _, h⟩) q J hJ
  have r := o1.rp
  revert q
  cases hx : x.d with
  | list ds =>
    intro q
    rw [hx] at r
    obtain ⟨a, xs, L, rfl, _, ha, s⟩ := r.list_
    exact ⟨a, rfl, .inl ⟨⟨xs, SqL.of ha⟩, go a ds _ rfl (by rw [hx]; rfl) (.inl ⟨ds, hx, rfl⟩) (LoopL_to q)⟩⟩
  | tuple ds =>
    intro q
    rw [hx] at r
    obtain ⟨a, xs, rfl, ha, s⟩ := r.tuple_
    exact ⟨a, rfl, .inr ⟨⟨xs, ha⟩, go a ds _ rfl (by rw [hx]; rfl) (.inr ⟨ds, hx, rfl⟩) (LoopL_to q)⟩⟩
  | _ => exact False.elim
end
end KT
/-! KtG: for over a name, comprehensions, lists changed in place. -/
namespace KT
open PySem PySem.Spec PyProof.Rows L2

/-! ### a name that stays while its list is walked -/
def unpin (j : Nat) (p : Bool) (δ : En) : En := match p with
  | true => δ
  | false => (match δ[j]? with
    | some (some t) => δ.set j (some ⟨t.d, t.own, false⟩)
    | _ => δ)
theorem unpin_look {j : Nat} {p : Bool} {δ : En} {i : Nat} {s : Slot} (h : (unpin j p δ)[i]? = some (some s)) : ∃ t, δ[i]? = some (some t) ∧ s.d = t.d ∧ s.own = t.own ∧ (s.pin = true → t.pin = true ∧ (i = j → p = true)) := by
  unfold unpin at h
  cases p with
  | true => exact ⟨s, h, rfl, rfl, fun z => ⟨z, fun _ => rfl⟩⟩
  | false =>
    dsimp only at h
    split at h
    · rename_i t ht
      by_cases e : j = i
      · subst e
        rw [List.getElem?_set_self (List.getElem?_eq_some_iff.mp ht).1] at h
        cases h
        exact ⟨t, ht, rfl, rfl, fun z => (nomatch z)⟩
      · rw [List.getElem?_set_ne e] at h
        exact ⟨s, h, rfl, rfl, fun z => ⟨z, fun z' => absurd z'.symm e⟩⟩
    · rename_i hn
      refine ⟨s, h, rfl, rfl, fun z => ⟨z, fun z' => ?_⟩⟩
      subst z'
      exact absurd h (hn s)
theorem unpin_there {j : Nat} {p : Bool} {δ : En} {i : Nat} {t : Slot} (h : δ[i]? = some (some t)) : ∃ s, (unpin j p δ)[i]? = some (some s) ∧ s.own = t.own := by
  unfold unpin
  cases p with
  | true => exact ⟨t, h, rfl⟩
  | false =>
    dsimp only
    split
    · rename_i u hu
      by_cases e : j = i
      · subst e
        rw [h] at hu
        cases hu
        exact ⟨_, List.getElem?_set_self (List.getElem?_eq_some_iff.mp h).1, rfl⟩
      · exact ⟨t, by rw [List.getElem?_set_ne e]; exact h, rfl⟩
    · exact ⟨t, h, rfl⟩
theorem unpin_len (j : Nat) (p : Bool) (δ : En) : (unpin j p δ).length = δ.length := by
  unfold unpin
  cases p
  · dsimp only; split <;> simp
  · rfl
section
variable {K : PySem.W.Frag} {H0 H H1 H' : Hp} {π : Nat → Option V} {σ : L2.St} {δ : En} {ν : Nu} {v : V} {x : Val} {M : List Addr}
/-- the same names, less owned, pinned otherwise -/
theorem EnvOk.re (E : EnvOk K H0 π H σ δ ν) {δ' : En} {π' : Nat → Option V} (hl : δ'.length = δ.length)
    (h : ∀ i s, δ'[i]? = some (some s) → ∃ t, δ[i]? = some (some t) ∧ s.d = t.d ∧ (s.own = true → t.own = true) ∧ (s.pin = true → ∀ v, σ[i]? = some (some v) → π' i = some v)) : EnvOk K H0 π' H σ δ' ν := by
  refine ⟨hl.trans E.len, E.sm, fun i s hs => ?_, fun i s hs o => ?_, fun i j s t n hs o ht => ?_⟩
  · obtain ⟨t, h1, h2, h3, h4⟩ := h i s hs
    obtain ⟨w, a, b, c⟩ := E.at_ i t h1
    exact ⟨w, a, h2 ▸ b, fun z => h4 z w a⟩
  · obtain ⟨t, h1, h2, h3, h4⟩ := h i s hs
    exact E.nd i t h1 (h3 o)
  · obtain ⟨t1, h1, h2, h3, h4⟩ := h i s hs
    obtain ⟨t2, h5, _⟩ := h j t ht
    exact E.dj i j t1 t2 n h1 (h3 o) h5
def pinTo (π : Nat → Option V) (j : Nat) (v : V) : Nat → Option V := fun i => if i = j then some v else π i
theorem EnvOk.pin (E : EnvOk K H0 π H σ δ ν) {j : Nat} {s : Slot} {o : Bool} (hj : δ[j]? = some (some s)) (hv : σ[j]? = some (some v)) (ho : o = true → s.own = true) : EnvOk K H0 (pinTo π j v) H σ (δ.set j (some ⟨s.d, o, true⟩)) ν := by
  have hl := (List.getElem?_eq_some_iff.mp hj).1
  refine E.re (by simp) fun i t h => ?_
  by_cases e : j = i
  · subst e
    rw [List.getElem?_set_self hl] at h
    cases h
    exact ⟨s, hj, rfl, ho, fun _ w hw => by rw [hv] at hw; cases hw; simp [pinTo]⟩
  · rw [List.getElem?_set_ne e] at h
    refine ⟨t, h, rfl, id, fun z w hw => ?_⟩
    obtain ⟨w', a, _, c⟩ := E.at_ i t h
    rw [hw] at a
    cases a
    unfold pinTo
    rw [if_neg (Ne.symm e)]
    exact c z
theorem EnvOk.unpin (E : EnvOk K H0 (pinTo π j v) H σ δ ν) {p : Bool} (hp : p = true → π j = some v) : EnvOk K H0 π H σ (unpin j p δ) ν := by
  refine E.re (unpin_len _ _ _) fun i s h => ?_
  obtain ⟨t, h1, h2, h3, h4⟩ := unpin_look h
  refine ⟨t, h1, h2, fun z => h3 ▸ z, fun z w hw => ?_⟩
  obtain ⟨w', a, _, c⟩ := E.at_ i t h1
  rw [hw] at a
  cases a
  have q := c (h4 z).1
  unfold pinTo at q
  split at q
  · rename_i e
    subst e
    rw [hp ((h4 z).2 rfl)]
    exact q
  · exact q
theorem VOk.unpin (q : VOk K H δ ν H' v x M) (j : Nat) (p : Bool) : VOk K H (unpin j p δ) ν H' v x M :=
  ⟨q.rp, q.nd, fun o a ha => (q.fr o a ha).imp id fun ⟨k, hk, s, h1, h2, h3⟩ => let ⟨t, h4, h5⟩ := unpin_there h1; ⟨k, hk, t, h4, h5.trans h2, h3⟩,
    fun k s h o n a ha => let ⟨t, h1, _, h3, _⟩ := unpin_look h; q.al k t h1 (h3 ▸ o) n a ha⟩
end
section
variable {X : Cx} {a b e c : Expr} {es : List Expr} {fa fb f : DE} {g : DA} {t : DT} {pos : Pos} {st : Stmt} {sts : List Stmt} {m n : DS}
def bodyN (j : Nat) (s : Slot) (tg : Tgt) (wl : List Nat) (m : DS) (E : DEnds) : D → (En → Prop) → En → Prop := fun d P δ => δ[j]? = some (some s) ∧ asgT tg d (imm d) (killR δ wl) fun δ' => m ⟨P, E.rt⟩ δ'
def ownN (ds : List D) (o : Bool) : Bool := match immL ds with
  | true => o
  | false => false
def mForN (tg : Tgt) (wl : List Nat) (j : Nat) (m : DS) : DS := fun E δ => match δ[j]? with
  | some (some s) => (match seqOf s.d with
    | some ds => LoopL (bodyN j ⟨s.d, ownN ds s.own, true⟩ tg wl m ⟨E.nx, fun x δ => E.rt x (unpin j s.pin δ)⟩) ds (fun δ => δ[j]? = some (some ⟨s.d, ownN ds s.own, true⟩) ∧ E.nx (unpin j s.pin (killR δ wl))) (δ.set j (some ⟨s.d, ownN ds s.own, true⟩))
    | none => False)
  | _ => False
theorem bodyN_mono {j : Nat} {s : Slot} {tg : Tgt} {wl : List Nat} (hm : MonoS m) {A B : DEnds} (h2 : ∀ x δ, A.rt x δ → B.rt x δ) : ∀ i (P Q : En → Prop), (∀ δ, P δ → Q δ) → ∀ δ, bodyN j s tg wl m A i P δ → bodyN j s tg wl m B i Q δ := fun i P Q h δ q =>
  ⟨q.1, asgT_mono (fun δ q => hm ⟨P, A.rt⟩ ⟨Q, B.rt⟩ δ h h2 q) q.2⟩
theorem mforN_mono {tg : Tgt} {wl : List Nat} {j : Nat} (hm : MonoS m) : MonoS (mForN tg wl j m) := fun A B δ h1 h2 q => by
  unfold mForN at *
  split at q
  · rename_i s hs
    split at q
    · exact LoopL_of (loopL_mono (bodyN_mono (A := ⟨A.nx, fun x δ => A.rt x (unpin j s.pin δ)⟩) (B := ⟨B.nx, fun x δ => B.rt x (unpin j s.pin δ)⟩) hm fun x δ q => h2 _ _ q) (fun δ q => ⟨q.1, h1 _ q.2⟩) _ _ (LoopL_to q))
    · exact q.elim
  · exact q.elim
theorem ownN_le {ds : List D} {o : Bool} (h : ownN ds o = true) : o = true ∧ immL ds = true := by
  unfold ownN at h
  split at h
  · rename_i e; exact ⟨h, e⟩
  · cases h
theorem sv_forN {tgt : Expr} {x : Str} {tg : Tgt} (wl : List Nat) (j : Nat) {body : List Stmt} {px : Pos} (hp : PassesOwn (model X.prog X.w) X.A X.env X.xe) (hc : X.calm = true) (htg : TgOk X tgt tg) (hb : SVs X body m)
    (hN : X.N[j]? = some x := by rfl) (hv : Vis X.env.scope x := by first | exact Or.inl rfl | exact Or.inr (Or.inl rfl) | exact Or.inr (Or.inr rfl)) (hd : (x == ("__debug__" : Str)) = false := by decide)
    (hcd : (x == ("__classdict__" : Str)) = false := by decide) (hs : ∀ y, foldedSetIterable (.Name x px) X.env y = pure y := by intro _; rfl) : SV X (.For tgt (.Name x px) body [] pos) (mForN tg wl j m) := by
  refine ⟨mforN_mono hb.mono, fun H0 π => psi (ps_for hp hc (pi_seq (pe_var hN hv hd hcd)) htg.pg hb.any hs) fun D σ H ⟨δ, ν, E, q⟩ => ?_⟩
  unfold mForN at q
  split at q
  · rename_i s hj
    split at q
    · rename_i ds hds
      obtain ⟨v, hv', r, hpin⟩ := E.at_ j s hj
      have E1 : EnvOk X.K H0 (pinTo π j v) H σ (δ.set j (some ⟨s.d, ownN ds s.own, true⟩)) ν := E.pin hj hv' fun z => (ownN_le z).1
      have nxO : ∀ {σ' : L2.St} {H' : Hp} {ν' : Nu} {δ' : En}, EnvOk X.K H0 (pinTo π j v) H' σ' δ' ν' → (dEnds X.K H0 π D).nx (unpin j s.pin (killR δ' wl)) → D.nx σ' H' := fun E' q => q _ _ _ ((E'.kill wl).unpin hpin)
      have rtO : ∀ x δ', (dEnds X.K H0 π D).rt x (unpin j s.pin δ') → (dEnds X.K H0 (pinTo π j v) D).rt x δ' := fun x δ' q v' σ' H1 H2 ν' M E' s1 o1 => q v' σ' H1 H2 ν' M (E'.unpin hpin) s1 (o1.unpin j s.pin)
      -- the list or tuple as it stands at a turn
      have seqAt : ∀ {σ' : L2.St} {H' : Hp} {ν' : Nu} {δ' : En}, EnvOk X.K H0 (pinTo π j v) H' σ' δ' ν' → δ'[j]? = some (some ⟨s.d, ownN ds s.own, true⟩) → Rp X.K H' v s.d (ν' j) := fun E' h => by
        obtain ⟨w, _, r', hp'⟩ := E'.at_ j _ h
        have e := hp' rfl
        unfold pinTo at e
        rw [if_pos rfl] at e
        cases e
        exact r'
      have itemOk : ∀ {σ' : L2.St} {H' : Hp} {ν' : Nu} {δ' : En} {u : V} {d : KT.D} {L : List Addr}, EnvOk X.K H0 (pinTo π j v) H' σ' δ' ν' → δ'[j]? = some (some ⟨s.d, ownN ds s.own, true⟩) → Rp X.K H' u d L → (∀ a ∈ L, a ∈ ν' j) → d ∈ ds →
          FOk X.K H0 (killR δ' wl) ν' H' u d (KT.imm d) L := fun {σ' H' ν' δ' u d L} E' h ru hsub hmem => by
        cases hi : KT.imm d with
        | true => exact FOk.imm ru hi true
        | false =>
          have hno : ownN ds s.own = false := by
            cases hz : ownN ds s.own with
            | false => rfl
            | true =>
              have z := immL_of.mp (ownN_le hz).2 d hmem
              rw [hi] at z
              exact z.symm
          refine ⟨ru, fun z => (nomatch z), fun z => (nomatch z), fun z => (nomatch z), fun k t hk ho a ha hm => ?_⟩
          have hk' := (killR_some hk).1
          have n : k ≠ j := fun e => by
            subst e
            rw [h] at hk'
            cases hk'
            rw [hno] at ho
            cases ho
          exact E'.dj k j t _ n hk' ho h a ha (hsub a hm)
      refine ⟨v, hv', ?_⟩
      have W1 : ∀ (J : It), True → True := fun _ _ => trivial
      let Pv : Nat → L2.St → Hp → Prop := fun i σ H => ∃ δ ν, EnvOk X.K H0 (pinTo π j v) H σ δ ν ∧ loopL (bodyN j ⟨s.d, ownN ds s.own, true⟩ tg wl m ⟨(dEnds X.K H0 π D).nx, fun x δ => (dEnds X.K H0 π D).rt x (unpin j s.pin δ)⟩) (ds.drop i) (fun δ => δ[j]? = some (some ⟨s.d, ownN ds s.own, true⟩) ∧ (dEnds X.K H0 π D).nx (unpin j s.pin (killR δ wl))) δ
      have start0 : Pv 0 σ H := ⟨_, ν, E1, LoopL_to q⟩
      have there : ∀ i σ H, i ≤ ds.length → Pv i σ H → ∃ δ ν, EnvOk X.K H0 (pinTo π j v) H σ δ ν ∧ δ[j]? = some (some ⟨s.d, ownN ds s.own, true⟩) := fun i σ H hi ⟨δ, ν, E', q⟩ => by
        refine ⟨δ, ν, E', ?_⟩
        by_cases hlt : i < ds.length
        · rw [List.drop_eq_getElem_cons hlt] at q
          exact q.1
        · rw [List.drop_eq_nil_of_le (by omega)] at q
          exact q.1
      have fin : ∀ σ H, Pv ds.length σ H → D.nx σ H := fun σ H ⟨δ, ν, E', q⟩ => by
        rw [List.drop_length] at q
        exact nxO E' q.2
      have turn : ∀ (i : Nat) (u : V) (d : KT.D) (σ : L2.St) (H : Hp), ds[i]? = some d → (∀ (δ : En) (ν : Nu), EnvOk X.K H0 (pinTo π j v) H σ δ ν → δ[j]? = some (some ⟨s.d, ownN ds s.own, true⟩) → ∃ L, Rp X.K H u d L ∧ ∀ a ∈ L, a ∈ ν j) → Pv i σ H →
          gOf X.K tg u σ H fun σ3 H3 => semAny X.K m { D with nx := Pv (i + 1), ct := Pv (i + 1), bk := D.nx } σ3 H3 := fun i u d σ H hd hu ⟨δ, ν, E', q⟩ => by
        obtain ⟨hi, hie⟩ := List.getElem?_eq_some_iff.mp hd
        rw [List.drop_eq_getElem_cons hi, hie] at q
        obtain ⟨L, ru, hsub⟩ := hu δ ν E' q.1
        refine asgT_ok (E'.kill wl) (itemOk E' q.1 ru hsub (hie ▸ List.getElem_mem hi)) q.2 fun σ' δ' ν' E'' q => ⟨H0, pinTo π j v, δ', ν', E'', ?_⟩
        exact hb.mono ⟨_, fun x δ => (dEnds X.K H0 π D).rt x (unpin j s.pin δ)⟩ _ _ (fun δ q σ'' H'' ν'' E3 => ⟨δ, ν'', E3, q⟩) rtO q
      revert hds
      cases hsd : s.d with
      | list ds' =>
        intro hds
        cases hds
        rw [hsd] at r
        obtain ⟨p, xs, L, rfl, _, hp1, rs⟩ := r.list_
        refine ⟨p, rfl, .inl ⟨⟨xs, SqL.of hp1⟩, fun i k σ H => k = ds.length - i ∧ i ≤ ds.length ∧ Pv i σ H, ⟨ds.length, by simp, Nat.zero_le _, start0⟩, ?_⟩⟩
        rintro i k σ H ⟨rfl, hi, w⟩
        obtain ⟨δ1, ν1, E', h'⟩ := there i σ H hi w
        have r' := seqAt E' h'
        rw [hsd] at r'
        obtain ⟨p', xs', L', e, _, hp2, rs'⟩ := r'.list_
        cases e
        by_cases hlt : i < ds.length
        · have hl : i < xs'.length := by rw [rs'.length]; exact hlt
          refine .inr ⟨⟨xs', xs'[i], SqL.of hp2, List.getElem?_eq_getElem hl⟩, Pv (i + 1), fun σ' H' p' => ⟨ds.length - (i + 1), by omega, rfl, hlt, p'⟩, fun u H' y => ?_⟩
          obtain ⟨e, y⟩ := y
          subst e
          refine turn i u ds[i] σ _ (List.getElem?_eq_getElem hlt) (fun δ2 ν2 E2 h2 => ?_) w
          have r2 := seqAt E2 h2
          rw [hsd] at r2
          obtain ⟨p2, ys, L2, e, eL, hp3, rs2⟩ := r2.list_
          cases e
          have hy := y ys (SqL.of hp3)
          obtain ⟨w', A, M, B, k1, k2, k3⟩ := rs2.get (List.getElem?_eq_getElem hlt)
          rw [hy] at k1
          cases k1
          exact ⟨M, k3, fun a ha => by rw [eL, k2]; simp [ha]⟩
        · have e : i = ds.length := by omega
          subst e
          exact .inl ⟨⟨xs', SqL.of hp2, by rw [rs'.length]; exact Nat.le_refl _⟩, fin σ H w⟩
      | tuple ds' =>
        intro hds
        cases hds
        rw [hsd] at r
        obtain ⟨p, xs, rfl, hp1, rs⟩ := r.tuple_
        refine ⟨p, rfl, .inr ⟨⟨xs, hp1⟩, fun i k σ H => k = ds.length - i ∧ i ≤ ds.length ∧ Pv i σ H, ⟨ds.length, by simp, Nat.zero_le _, start0⟩, ?_⟩⟩
        rintro i k σ H ⟨rfl, hi, w⟩
        obtain ⟨δ1, ν1, E', h'⟩ := there i σ H hi w
        have r' := seqAt E' h'
        rw [hsd] at r'
        obtain ⟨p', xs', e, hp2, rs'⟩ := r'.tuple_
        cases e
        by_cases hlt : i < ds.length
        · have hl : i < xs'.length := by rw [rs'.length]; exact hlt
          refine .inr ⟨⟨xs', xs'[i], hp2, List.getElem?_eq_getElem hl⟩, Pv (i + 1), fun σ' H' p' => ⟨ds.length - (i + 1), by omega, rfl, hlt, p'⟩, fun u H' y => ?_⟩
          obtain ⟨e, y⟩ := y
          subst e
          refine turn i u ds[i] σ _ (List.getElem?_eq_getElem hlt) (fun δ2 ν2 E2 h2 => ?_) w
          have r2 := seqAt E2 h2
          rw [hsd] at r2
          obtain ⟨p2, ys, e, hp3, rs2⟩ := r2.tuple_
          cases e
          have hy := y ys hp3
          obtain ⟨w', A, M, B, k1, k2, k3⟩ := rs2.get (List.getElem?_eq_getElem hlt)
          rw [hy] at k1
          cases k1
          exact ⟨M, k3, fun a ha => by rw [k2]; simp [ha]⟩
        · have e : i = ds.length := by omega
          subst e
          exact .inl ⟨⟨xs', hp2, by rw [rs'.length]; exact Nat.le_refl _⟩, fin σ H w⟩
      | _ => intro hds; cases hds
    · exact q.elim
  · exact q.elim
end
end KT
/-! KtH: comprehensions; lists changed in place; a, b = x, y. -/
namespace KT
open PySem PySem.Spec PyProof.Rows L2

/-! ### the slots of a comprehension's own names -/
theorem wipe_get (σ : L2.St) : ∀ (vs : List Nat) (i : Nat), (wipe σ vs)[i]? = if i ∈ vs then (if i < σ.length then some none else none) else σ[i]?
  | [], i => by simp [wipe]
  | v :: vs, i => by
    unfold wipe
    by_cases e : v = i
    · subst e
      simp only [List.mem_cons, true_or, if_true]
      by_cases h : v < σ.length
      · rw [List.getElem?_set_self (by rw [wipe_length]; exact h), if_pos h]
      · rw [List.getElem?_eq_none (by rw [List.length_set, wipe_length]; omega), if_neg h]
    · rw [List.getElem?_set_ne e, wipe_get σ vs i]
      have e' : i ≠ v := Ne.symm e
      simp only [List.mem_cons, e', false_or]
theorem wipe_set {σ : L2.St} {vs : List Nat} {i : Nat} (h : i ∈ vs) (o : Option V) : wipe (σ.set i o) vs = wipe σ vs := by
  apply List.ext_getElem?
  intro j
  rw [wipe_get, wipe_get, List.length_set]
  by_cases hj : j ∈ vs
  · rw [if_pos hj, if_pos hj]
  · rw [if_neg hj, if_neg hj, List.getElem?_set_ne (fun e => by subst e; exact hj h)]
theorem wipe_wipe (σ : L2.St) (vs : List Nat) : wipe (wipe σ vs) vs = wipe σ vs := by
  apply List.ext_getElem?
  intro j
  rw [wipe_get, wipe_length]
  by_cases hj : j ∈ vs
  · rw [if_pos hj, wipe_get, if_pos hj]
  · rw [if_neg hj]
theorem wipe_setAll : ∀ {is : List Nat} {σ : L2.St} {ws : List V} {vs : List Nat}, (∀ i ∈ is, i ∈ vs) → wipe (setAllV σ is ws) vs = wipe σ vs
  | [], _, _, _, _ => by simp only [setAllV]
  | _ :: _, _, [], _, _ => by simp only [setAllV]
  | i :: is, σ, w :: ws, vs, h => by
    simp only [setAllV]
    rw [wipe_setAll fun j hj => h j (List.mem_cons_of_mem _ hj), wipe_set (h i List.mem_cons_self)]
def Tgt.slots : Tgt → List Nat
  | .nm i => [i]
  | .tp is => is
theorem asgT_okW {K : PySem.W.Frag} {H0 H : Hp} {π : Nat → Option V} {σ : L2.St} {δ : En} {ν : Nu} {v : V} {d : D} {o : Bool} {M : List Addr} {tg : Tgt} {P : En → Prop} {Q : L2.St → Hp → Prop} {vs : List Nat} (E : EnvOk K H0 π H σ δ ν) (q : FOk K H0 δ ν H v d o M)
    (hs : ∀ i ∈ tg.slots, i ∈ vs) (h : asgT tg d o δ P) (i : ∀ σ' δ' ν', EnvOk K H0 π H σ' δ' ν' → wipe σ' vs = wipe σ vs → P δ' → Q σ' H) : gOf K tg v σ H Q := by
  cases tg with
  | nm j =>
    rw [asgT_nm] at h
    exact i _ _ _ (E.set q j) (wipe_set (hs j (by simp [Tgt.slots])) _) h
  | tp is =>
    have r := q.rp
    cases d with
    | tuple ds =>
      rw [asgT_tp] at h
      obtain ⟨hl, h⟩ := h
      obtain ⟨a, xs, rfl, ha, s⟩ := r.tuple_
      obtain ⟨ν', E'⟩ := set_all_ok (is := is) E s (fun z => ⟨q.nd z, q.fr z, q.dj z⟩) q.al
      exact ⟨a, xs, rfl, ha, by rw [s.length]; exact hl, gnames_ok (by rw [s.length]; exact hl) (i _ _ _ E' (wipe_setAll hs) h)⟩
    | _ => exact h.elim

/-! ### comprehensions over data -/
def lcStep (tg : Tgt) (t : DT) (fe : DE) (δ : En) : D → List D → (List D → Prop) → Prop := fun d acc P => asgT tg d (imm d) δ fun δ' => t δ' fun b => match b with
  | true => fe δ' fun y => (y.own = true ∧ y.roots = [] ∧ acc.length < sizeLine) ∧ P (acc ++ [y.d])
  | false => P acc
def lcL (step : D → List D → (List D → Prop) → Prop) : List D → List D → (List D → Prop) → Prop
  | [], acc, P => P acc
  | d :: ds, acc, P => step d acc fun acc => lcL step ds acc P
@[irreducible] def LcL (step : D → List D → (List D → Prop) → Prop) (ds acc : List D) (P : List D → Prop) : Prop := lcL step ds acc P
theorem LcL_to {step : D → List D → (List D → Prop) → Prop} {ds acc : List D} {P : List D → Prop} (h : LcL step ds acc P) : lcL step ds acc P := by
  unfold LcL at h
  exact h
theorem LcL_of {step : D → List D → (List D → Prop) → Prop} {ds acc : List D} {P : List D → Prop} (h : lcL step ds acc P) : LcL step ds acc P := by
  unfold LcL
  exact h
theorem lcL_mono {step step' : D → List D → (List D → Prop) → Prop} (hb : ∀ d acc (P Q : List D → Prop), (∀ a, P a → Q a) → step d acc P → step' d acc Q) {P Q : List D → Prop} (h : ∀ a, P a → Q a) : ∀ ds acc, lcL step ds acc P → lcL step' ds acc Q
  | [], _, q => h _ q
  | d :: ds, acc, q => hb d acc _ _ (fun a q => lcL_mono hb h ds a q) q
theorem lcStep_mono {tg : Tgt} {t : DT} {fe : DE} {δ : En} (ht : ∀ δ (P P' : Bool → Prop), (∀ x, P x → P' x) → t δ P → t δ P') (he : ∀ δ (P P' : Val → Prop), (∀ x, P x → P' x) → fe δ P → fe δ P') :
    ∀ d acc (P Q : List D → Prop), (∀ a, P a → Q a) → lcStep tg t fe δ d acc P → lcStep tg t fe δ d acc Q := fun d acc P Q h q =>
  asgT_mono (fun δ q => ht _ _ _ (fun b q => by
    cases b
    · exact h _ q
    · exact he _ _ _ (fun y q => ⟨q.1, h _ q.2⟩) q) q) q
/-- the comprehension's turns over items ds -/
def lcRun (tg : Tgt) (wl : List Nat) (t : DT) (fe : DE) (roots : List Nat) (ds : List D) (δ : En) (P : Val → Prop) : Prop :=
  killK δ wl fun δ => demK δ roots fun δ => LcL (lcStep tg t fe δ) ds [] fun acc => P ⟨.list acc, true, []⟩
theorem lcRun_eq (tg : Tgt) (wl : List Nat) (t : DT) (fe : DE) (roots : List Nat) (ds : List D) (δ : En) (P : Val → Prop) :
    lcRun tg wl t fe roots ds δ P = LcL (lcStep tg t fe (demR (killR δ wl) roots)) ds [] fun acc => P ⟨.list acc, true, []⟩ := by
  unfold lcRun
  rw [killK_eq, demK_eq]
def rgItems (lo : Int) (n : Nat) : List D := (List.range n).map fun (k : Nat) => PyData.int (lo + (k : Int))
def dLcR (rg : List D → (Int → Nat → Prop) → Prop) (tg : Tgt) (wl : List Nat) (t : DT) (fe : DE) (g : DA) : DE := fun δ P => g δ fun xs => rg (xs.map Val.d) fun lo n => lcRun tg wl t fe [] (rgItems lo n) δ P
def dLcV (tg : Tgt) (wl : List Nat) (t : DT) (fe : DE) (f : DE) : DE := fun δ P => f δ fun x => match seqOf x.d with
  | some ds => lcRun tg wl t fe x.roots ds δ P
  | none => False
def dtYes : DT := fun _ P => P true
structure ETs (X : Cx) (ifs : List Expr) (f : DT) : Prop where
  mono : ∀ δ (P P' : Bool → Prop), (∀ x, P x → P' x) → f δ P → f δ P'
  pts : ∀ H0 π, PTs X ifs (semT X.K H0 π f)
theorem ptsi {X : Cx} {e : List Expr} {t t' : TT} (h : PTs X e t) (i : ∀ σ H Q, t' σ H Q → t σ H Q) : PTs X e t' :=
  ⟨fun pins s σ H Q I q => h.run pins s σ H Q I (i σ H Q q)⟩
theorem ets_nil {X : Cx} : ETs X [] dtYes := ⟨fun _ _ _ h q => h _ q, fun H0 π => ptsi pts_nil fun σ H Q ⟨δ, ν, E, q⟩ => q H (Same.refl H)⟩
theorem ets_one {X : Cx} {c : Expr} {t : DT} (h : ET X c t) : ETs X [c] t := ⟨h.mono, fun H0 π => pts_one (h.pt H0 π)⟩

section
variable {X : Cx} {a b e c : Expr} {es : List Expr} {fa fb f fe : DE} {g : DA} {t : DT} {pos : Pos} {st : Stmt} {sts : List Stmt} {m n : DS}
def semEAny (K : PySem.W.Frag) (f : DE) : TE := fun σ H Q => ∃ H2 π, semE K H2 π f σ H Q
def semTAny (K : PySem.W.Frag) (f : DT) : TT := fun σ H Q => ∃ H2 π, semT K H2 π f σ H Q
theorem EV.any (h : EV X e f) : PE X e (semEAny X.K f) := ⟨fun pins s σ H Q I ⟨H2, π, q⟩ => (h.pe H2 π).run pins s σ H Q I q⟩
theorem ETs.any {ifs : List Expr} (h : ETs X ifs t) : PTs X ifs (semTAny X.K t) := ⟨fun pins s σ H Q I ⟨H2, π, q⟩ => (h.pts H2 π).run pins s σ H Q I q⟩

/-- the new list's turns: what holds at turn i of the heap -/
def LcInv (K : PySem.W.Frag) (H1 : Hp) (Dd : Addr) (step : D → List D → (List D → Prop) → Prop) (ds : List D) (P : List D → Prop) (i : Nat) (H : Hp) : Prop :=
  Same H1 H ∧ ∃ accV accD Ma, H Dd = some (.lst accV) ∧ Rps K H accV accD Ma ∧ (Dd :: Ma).Nodup ∧ (∀ a ∈ Ma, H1 a = none) ∧ lcL step (ds.drop i) accD P
theorem lc_turn {K : PySem.W.Frag} {H1 H2 : Hp} {π : Nat → Option V} {σ0 : L2.St} {δ1 : En} {ν : Nu} {Dd : Addr} {tg : Tgt} {vs : List Nat} {ds : List D} {P : List D → Prop} (ht : ∀ δ (P P' : Bool → Prop), (∀ x, P x → P' x) → t δ P → t δ P')
    (he : ∀ δ (P P' : Val → Prop), (∀ x, P x → P' x) → fe δ P → fe δ P') (hDd : H1 Dd = none) (E : EnvOk K H2 π H1 (wipe σ0 vs) δ1 ν) (hs : ∀ i ∈ tg.slots, i ∈ vs) {i : Nat} {x : V} {d : D} {H : Hp} (hd : ds[i]? = some d) (hx : ∃ L, Rp K H2 x d L)
    (w : LcInv K H1 Dd (lcStep tg t fe δ1) ds P i H) :
    gOf K tg x (wipe σ0 vs) H fun σ2 H2' => wipe σ2 vs = wipe σ0 vs ∧ semTAny K t σ2 H2' fun b H3 =>
      if b = true then semEAny K fe σ2 H3 fun y H4 => ∃ acc, H4 Dd = some (.lst acc) ∧ acc.length < sizeLine ∧ LcInv K H1 Dd (lcStep tg t fe δ1) ds P (i + 1) (upd H4 Dd (.lst (acc ++ [y]))) else LcInv K H1 Dd (lcStep tg t fe δ1) ds P (i + 1) H3 := by
  obtain ⟨s1, accV, accD, Ma, hD, hr, hn, hf, q⟩ := w
  obtain ⟨hi, hie⟩ := List.getElem?_eq_some_iff.mp hd
  rw [List.drop_eq_getElem_cons hi, hie] at q
  obtain ⟨L, rx⟩ := hx
  have EH := E.same s1
  have q2 : asgT tg d (imm d) δ1 fun δ' => t δ' fun b => match b with
    | true => fe δ' fun y => (y.own = true ∧ y.roots = [] ∧ accD.length < sizeLine) ∧ lcL (lcStep tg t fe δ1) (ds.drop (i + 1)) (accD ++ [y.d]) P
    | false => lcL (lcStep tg t fe δ1) (ds.drop (i + 1)) accD P := q
  refine asgT_okW EH (FOk.item EH rx) hs q2 fun σ' δ' ν' E' hw q => ⟨by rw [hw, wipe_wipe], H2, π, δ', ν', E', ht _ _ _ (fun bb q H3 s3 => ?_) q⟩
  cases bb with
  | false =>
    rw [if_neg Bool.false_ne_true]
    exact ⟨s1.trans s3, accV, accD, Ma, s3 _ _ hD, hr.same s3, hn, hf, q⟩
  | true =>
    rw [if_pos rfl]
    refine ⟨H2, π, δ', ν', E'.same s3, he _ _ _ (fun y q v H4 M s4 o => ?_) q⟩
    obtain ⟨⟨ho, hrt, hz⟩, q⟩ := q
    have sA : Same H1 H4 := (s1.trans s3).trans s4
    have hD4 : H4 Dd = some (.lst accV) := s4 _ _ (s3 _ _ hD)
    have fresh : ∀ a ∈ M, H3 a = none := fun a ha => by
      rcases o.fr ho a ha with z | ⟨k, hk, _⟩
      · exact z
      · rw [hrt] at hk; cases hk
    have nD : Dd ∉ M := fun h => by
      have := fresh Dd h
      rw [s3 _ _ hD] at this
      cases this
    have hr4 := (hr.same s3).same s4
    have nMa : ∀ a ∈ Ma, ∀ b' ∈ M, a ≠ b' := fun a ha b' hb' e => by
      subst e
      exact (hr.same s3).trk a ha (fresh a hb')
    have hn' := List.nodup_cons.mp hn
    refine ⟨accV, hD4, by rw [hr.length]; exact hz, fun b' o' e => ?_, accV ++ [v], accD ++ [y.d], Ma ++ M, upd_same, ?_, ?_, fun a ha => ?_, q⟩
    · rw [upd_ne (ne_of_none e hDd)]
      exact sA _ _ e
    · exact Rps.upd hD4 (hr4.append (Rps.one o.rp)) fun h => (List.mem_append.mp h).elim hn'.1 nD
    · refine List.nodup_cons.mpr ⟨fun h => (List.mem_append.mp h).elim hn'.1 nD, List.nodup_append.mpr ⟨hn'.2, o.nd ho, nMa⟩⟩
    · rcases List.mem_append.mp ha with h | h
      · exact hf a h
      · exact (s1.trans s3).free (fresh a h)
theorem lc_end {K : PySem.W.Frag} {H0 H H1 H' : Hp} {π : Nat → Option V} {σ : L2.St} {δ : En} {ν : Nu} {Dd : Addr} {step : D → List D → (List D → Prop) → Prop} {ds : List D} {Pv : Val → Prop} {Q : VK} (E : EnvOk K H0 π H σ δ ν) (s : Same H H1) (hDd : H1 Dd = none)
    (hP : ∀ x, Pv x → ∀ v H' M, Same H H' → VOk K H δ ν H' v x M → Q v H') {n : Nat} (hn : ds.length ≤ n) (w : LcInv K H1 Dd step ds (fun acc => Pv ⟨.list acc, true, []⟩) n H') : Q (.ref Dd) H' := by
  obtain ⟨s1, accV, accD, Ma, hD, hr, hnd, hf, q⟩ := w
  rw [List.drop_eq_nil_of_le hn] at q
  exact hP _ q _ _ _ (s.trans s1) (FR.vok s (.lst hD hr) hnd (fun a ha => by
    rcases List.mem_cons.mp ha with rfl | ha
    · exact hDd
    · exact hf a ha) E)
theorem lc_start {K : PySem.W.Frag} {H1 : Hp} {Dd : Addr} {step : D → List D → (List D → Prop) → Prop} {ds : List D} {P : List D → Prop} (hDd : H1 Dd = none) (q : lcL step ds [] P) : LcInv K H1 Dd step ds P 0 (upd H1 Dd (.lst [])) :=
  ⟨Same.upd_new hDd, [], [], [], upd_same, .nil, by simp, fun _ h => (nomatch h), q⟩
/-- the names of the comprehension's block are forgotten -/
theorem EnvOk.wiped {K : PySem.W.Frag} {H0 H : Hp} {π : Nat → Option V} {σ : L2.St} {δ : En} {ν : Nu} (E : EnvOk K H0 π H σ δ ν) (vs : List Nat) : EnvOk K H0 π H (wipe σ vs) (killR δ vs) ν := by
  have E' := E.kill vs
  refine ⟨E'.len.trans (wipe_length σ vs).symm, E'.sm, fun i s h => ?_, E'.nd, E'.dj⟩
  obtain ⟨h1, h2⟩ := killR_some h
  obtain ⟨v, x, y, z⟩ := E'.at_ i s h
  refine ⟨v, ?_, y, z⟩
  rw [wipe_get, if_neg h2]
  exact x
theorem lcR_sem {K : PySem.W.Frag} {H0 : Hp} {π : Nat → Option V} {tg : Tgt} {vs : List Nat} {σ : L2.St} {H H1 : Hp} {Q : VK} {δ : En} {ν : Nu} {lo : Int} {n : Nat} {Pv : Val → Prop} (ht : ∀ δ (P P' : Bool → Prop), (∀ x, P x → P' x) → t δ P → t δ P')
    (he : ∀ δ (P P' : Val → Prop), (∀ x, P x → P' x) → fe δ P → fe δ P') (hs : ∀ i ∈ tg.slots, i ∈ vs) (E : EnvOk K H0 π H σ δ ν) (s : Same H H1) (hP : ∀ x, Pv x → ∀ v H' M, Same H H' → VOk K H δ ν H' v x M → Q v H') (q : lcRun tg vs t fe [] (rgItems lo n) δ Pv) :
    ∀ Dd, H1 Dd = none → ∃ W : Nat → Nat → Hp → Prop, (∃ m, W 0 m (upd H1 Dd (.lst []))) ∧ ∀ i m H, W i m H →
      ((Itr lo n).stop i H ∧ Q (.ref Dd) H) ∨ ((Itr lo n).go i H ∧ ∃ Nx : Hp → Prop, (∀ H', Nx H' → ∃ m', m' < m ∧ W (i + 1) m' H') ∧ ∀ x H', (Itr lo n).yld i H x H' → gOf K tg x (wipe σ vs) H' fun σ2 H2 => wipe σ2 vs = wipe σ vs ∧ semTAny K t σ2 H2 fun b H3 =>
        if b = true then semEAny K fe σ2 H3 fun y H4 => ∃ acc, H4 Dd = some (.lst acc) ∧ acc.length < sizeLine ∧ Nx (upd H4 Dd (.lst (acc ++ [y]))) else Nx H3) := by
  intro Dd hDd
  rw [lcRun_eq] at q
  have E1 : EnvOk K H0 π H1 (wipe σ vs) (demR (killR δ vs) []) ν := ((E.same s).wiped vs).dem []
  have hl : (rgItems lo n).length = n := by simp [rgItems]
  refine lc_range (lo := lo) (n := n) (LcInv K H1 Dd (lcStep tg t fe (demR (killR δ vs) [])) (rgItems lo n) fun acc => Pv ⟨.list acc, true, []⟩) (lc_start hDd (LcL_to q)) (fun i H hi w => ?_) fun H w => lc_end E s hDd hP (by rw [hl]; exact Nat.le_refl _) w
  refine lc_turn ht he hDd E1 hs (d := .int (lo + i)) ?_ ⟨[], .int _⟩ w
  simp [rgItems, hi]
theorem lcV_sem {K : PySem.W.Frag} {H0 : Hp} {π : Nat → Option V} {tg : Tgt} {vs : List Nat} {σ : L2.St} {H H1 : Hp} {Q : VK} {δ : En} {ν : Nu} {p : Addr} {x : Val} {M : List Addr} {ds : List D} {Pv : Val → Prop} (ht : ∀ δ (P P' : Bool → Prop), (∀ x, P x → P' x) → t δ P → t δ P')
    (he : ∀ δ (P P' : Val → Prop), (∀ x, P x → P' x) → fe δ P → fe δ P') (hs : ∀ i ∈ tg.slots, i ∈ vs) (E : EnvOk K H0 π H σ δ ν) (s : Same H H1) (o : VOk K H δ ν H1 (.ref p) x M) (hds : seqOf x.d = some ds)
    (hP : ∀ x, Pv x → ∀ v H' M, Same H H' → VOk K H δ ν H' v x M → Q v H') (q : lcRun tg vs t fe x.roots ds δ Pv) (J : It) (hJ : (∃ xs, x.d = .list xs ∧ J = Itl K p) ∨ (∃ xs, x.d = .tuple xs ∧ J = Itt K p)) :
    ∀ Dd, H1 Dd = none → ∃ W : Nat → Nat → Hp → Prop, (∃ m, W 0 m (upd H1 Dd (.lst []))) ∧ ∀ i m H, W i m H →
      (J.stop i H ∧ Q (.ref Dd) H) ∨ (J.go i H ∧ ∃ Nx : Hp → Prop, (∀ H', Nx H' → ∃ m', m' < m ∧ W (i + 1) m' H') ∧ ∀ x H', J.yld i H x H' → gOf K tg x (wipe σ vs) H' fun σ2 H2 => wipe σ2 vs = wipe σ vs ∧ semTAny K t σ2 H2 fun b H3 =>
        if b = true then semEAny K fe σ2 H3 fun y H4 => ∃ acc, H4 Dd = some (.lst acc) ∧ acc.length < sizeLine ∧ Nx (upd H4 Dd (.lst (acc ++ [y]))) else Nx H3) := by
  intro Dd hDd
  rw [lcRun_eq] at q
  have E1 : EnvOk K H0 π H1 (wipe σ vs) (demR (killR δ vs) x.roots) ν := ((E.same s).wiped vs).dem x.roots
  have al : ∀ j s, (demR (killR δ vs) x.roots)[j]? = some (some s) → s.own = true → ∀ a ∈ ν j, a ∉ M := fun j s h ho a ha => by
    obtain ⟨t, h1, h2, h3, h4⟩ := demR_some h
    exact o.al j t (killR_some h1).1 (h4 ho).1 (h4 ho).2 a ha
  have r2 := Rp.shut E1 o.rp al
  have E2 := E1.shut
  rcases hJ with ⟨xs', hx, rfl⟩ | ⟨xs', hx, rfl⟩
  · rw [hx] at hds r2
    cases hds
    obtain ⟨a, xs, L, e, _, ha, rs⟩ := r2.list_
    cases e
    refine lc_list (K := K) (a := p) (xs := xs) (LcInv K H1 Dd (lcStep tg t fe (demR (killR δ vs) x.roots)) ds fun acc => Pv ⟨.list acc, true, []⟩) (lc_start hDd (LcL_to q)) (fun i H _ w => SqL.of (w.1 _ _ (shut_same _ _ _ _ _ ha))) (fun i u H hu w => ?_) fun H w => lc_end E s hDd hP (by rw [rs.length]; exact Nat.le_refl _) w
    obtain ⟨d, A, L', B, k1, k2, k3⟩ := rs.getV hu
    exact lc_turn ht he hDd E2 hs k1 ⟨L', k3⟩ w
  · rw [hx] at hds r2
    cases hds
    obtain ⟨a, xs, e, ha, rs⟩ := r2.tuple_
    cases e
    refine lc_tup (K := K) (a := p) (xs := xs) (LcInv K H1 Dd (lcStep tg t fe (demR (killR δ vs) x.roots)) ds fun acc => Pv ⟨.list acc, true, []⟩) (lc_start hDd (LcL_to q)) (fun i H _ w => SqT.same ((shut_same _ _ _).trans w.1) ha) (fun i u H hu w => ?_) fun H w => lc_end E s hDd hP (by rw [rs.length]; exact Nat.le_refl _) w
    obtain ⟨d, A, L', B, k1, k2, k3⟩ := rs.getV hu
    exact lc_turn ht he hDd E2 hs k1 ⟨L', k3⟩ w

theorem lcRun_mono {tg : Tgt} {wl : List Nat} {roots : List Nat} {ds : List D} {δ : En} (ht : ∀ δ (P P' : Bool → Prop), (∀ x, P x → P' x) → t δ P → t δ P') (he : ∀ δ (P P' : Val → Prop), (∀ x, P x → P' x) → fe δ P → fe δ P') {P Q : Val → Prop} (h : ∀ x, P x → Q x)
    (q : lcRun tg wl t fe roots ds δ P) : lcRun tg wl t fe roots ds δ Q := by
  rw [lcRun_eq] at q ⊢
  exact LcL_of (lcL_mono (lcStep_mono ht he) (fun a q => h _ q) _ _ (LcL_to q))
/-- a comprehension: src gives the turns -/
structure ELc (X : Cx) (e : Expr) (wi : TI) (tg : Tgt) (vs : List Nat) (t : DT) (fe : DE) (f : DE) : Prop where
  mono : ∀ δ (P P' : Val → Prop), (∀ x, P x → P' x) → f δ P → f δ P'
theorem dLcR_mono {rg : List D → (Int → Nat → Prop) → Prop} {tg : Tgt} {wl : List Nat} (hr : ∀ {ds : List D} {P Q : Int → Nat → Prop}, (∀ i n, P i n → Q i n) → rg ds P → rg ds Q) (hg : ∀ δ (P P' : List Val → Prop), (∀ x, P x → P' x) → g δ P → g δ P')
    (ht : ∀ δ (P P' : Bool → Prop), (∀ x, P x → P' x) → t δ P → t δ P') (he : ∀ δ (P P' : Val → Prop), (∀ x, P x → P' x) → fe δ P → fe δ P') : ∀ δ (P P' : Val → Prop), (∀ x, P x → P' x) → dLcR rg tg wl t fe g δ P → dLcR rg tg wl t fe g δ P' := fun δ P P' h q =>
  hg _ _ _ (fun xs q => hr (fun i n q => lcRun_mono ht he h q) q) q
theorem dLcV_mono {tg : Tgt} {wl : List Nat} (hf : ∀ δ (P P' : Val → Prop), (∀ x, P x → P' x) → f δ P → f δ P')
    (ht : ∀ δ (P P' : Bool → Prop), (∀ x, P x → P' x) → t δ P → t δ P') (he : ∀ δ (P P' : Val → Prop), (∀ x, P x → P' x) → fe δ P → fe δ P') : ∀ δ (P P' : Val → Prop), (∀ x, P x → P' x) → dLcV tg wl t fe f δ P → dLcV tg wl t fe f δ P' := fun δ P P' h q =>
  hf _ _ _ (fun x q => by
    revert q; split
    · exact lcRun_mono ht he h
    · exact id) q
theorem dLcR1_sem {K : PySem.W.Frag} {H0 : Hp} {π : Nat → Option V} {tg : Tgt} {vs : List Nat} {σ : L2.St} {H : Hp} {Q : VK} (hg : ∀ δ (P P' : List Val → Prop), (∀ x, P x → P' x) → g δ P → g δ P')
    (ht : ∀ δ (P P' : Bool → Prop), (∀ x, P x → P' x) → t δ P → t δ P') (he : ∀ δ (P P' : Val → Prop), (∀ x, P x → P' x) → fe δ P → fe δ P') (hs : ∀ i ∈ tg.slots, i ∈ vs) (h : semE K H0 π (dLcR rg1 tg vs t fe g) σ H Q) :
    tLc (iRng1 (semA K H0 π g)) (gOf K tg) (semTAny K t) (semEAny K fe) vs σ H Q := by
  obtain ⟨δ, ν, E, q⟩ := h
  refine ⟨δ, ν, E, hg _ _ _ (fun xs q ws H1 Ms s1 o1 => ?_) q⟩
  have r := o1.rps
  revert q
  generalize xs.map Val.d = ds at r
  intro q
  unfold rg1 at q
  split at q
  · obtain ⟨v, rfl, u⟩ := r.one_
    rw [u.int_]
    exact ⟨_, rfl, q.1.1, q.1.2, lcR_sem ht he hs E s1 (fun x q => q) q.2⟩
  · exact q.elim
theorem dLcR2_sem {K : PySem.W.Frag} {H0 : Hp} {π : Nat → Option V} {tg : Tgt} {vs : List Nat} {σ : L2.St} {H : Hp} {Q : VK} (hg : ∀ δ (P P' : List Val → Prop), (∀ x, P x → P' x) → g δ P → g δ P')
    (ht : ∀ δ (P P' : Bool → Prop), (∀ x, P x → P' x) → t δ P → t δ P') (he : ∀ δ (P P' : Val → Prop), (∀ x, P x → P' x) → fe δ P → fe δ P') (hs : ∀ i ∈ tg.slots, i ∈ vs) (h : semE K H0 π (dLcR rg2 tg vs t fe g) σ H Q) :
    tLc (iRng2 (semA K H0 π g)) (gOf K tg) (semTAny K t) (semEAny K fe) vs σ H Q := by
  obtain ⟨δ, ν, E, q⟩ := h
  refine ⟨δ, ν, E, hg _ _ _ (fun xs q ws H1 Ms s1 o1 => ?_) q⟩
  have r := o1.rps
  revert q
  generalize xs.map Val.d = ds at r
  intro q
  unfold rg2 at q
  split at q
  · obtain ⟨v, w, A, B, rfl, u1, u2⟩ := r.two_
    rw [u1.int_, u2.int_]
    exact ⟨_, _, rfl, q.1, lcR_sem ht he hs E s1 (fun x q => q) q.2⟩
  · exact q.elim
theorem dLcV_sem {K : PySem.W.Frag} {H0 : Hp} {π : Nat → Option V} {tg : Tgt} {vs : List Nat} {σ : L2.St} {H : Hp} {Q : VK} (hf : ∀ δ (P P' : Val → Prop), (∀ x, P x → P' x) → f δ P → f δ P')
    (ht : ∀ δ (P P' : Bool → Prop), (∀ x, P x → P' x) → t δ P → t δ P') (he : ∀ δ (P P' : Val → Prop), (∀ x, P x → P' x) → fe δ P → fe δ P') (hs : ∀ i ∈ tg.slots, i ∈ vs) (h : semE K H0 π (dLcV tg vs t fe f) σ H Q) :
    tLc (iSeq K (semE K H0 π f)) (gOf K tg) (semTAny K t) (semEAny K fe) vs σ H Q := by
  obtain ⟨δ, ν, E, q⟩ := h
  refine ⟨δ, ν, E, hf _ _ _ (fun x q v H1 M s1 o1 => ?_) q⟩
  have r := o1.rp
  revert q
  cases hx : x.d with
  | list ds =>
    intro q
    rw [hx] at r
    obtain ⟨a, xs, L, rfl, _, ha, s⟩ := r.list_
    exact ⟨a, rfl, .inl ⟨⟨xs, SqL.of ha⟩, lcV_sem ht he hs E s1 o1 (by rw [hx]; rfl) (fun x q => q) q _ (.inl ⟨ds, hx, rfl⟩)⟩⟩
  | tuple ds =>
    intro q
    rw [hx] at r
    obtain ⟨a, xs, rfl, ha, s⟩ := r.tuple_
    exact ⟨a, rfl, .inr ⟨⟨xs, ha⟩, lcV_sem ht he hs E s1 o1 (by rw [hx]; rfl) (fun x q => q) q _ (.inr ⟨ds, hx, rfl⟩)⟩⟩
  | _ => exact False.elim
end
end KT
/-! KtI: comprehensions as expressions and in a store; lists changed in place; a, b = x, y. -/
namespace KT
open PySem PySem.Spec PyProof.Rows L2
def MonoT (t : DT) : Prop := ∀ δ (P P' : Bool → Prop), (∀ x, P x → P' x) → t δ P → t δ P'
def MonoE (f : DE) : Prop := ∀ δ (P P' : Val → Prop), (∀ x, P x → P' x) → f δ P → f δ P'
section
variable {X : Cx} {a b e c : Expr} {es : List Expr} {fa fb f fe : DE} {g : DA} {t : DT} {pos : Pos} {st : Stmt} {sts : List Stmt} {m n : DS}
/-- what a comprehension walks -/
structure ESrc (X : Cx) (tgt iter : Expr) (tg : Tgt) (vs : List Nat) (t : DT) (fe : DE) (f : DE) : Prop where
  mono : MonoE f
  src : ∀ H0 π, ∃ wi, PI X tgt iter wi ∧ ∀ σ H Q, semE X.K H0 π f σ H Q → tLc wi (gOf X.K tg) (semTAny X.K t) (semEAny X.K fe) vs σ H Q
theorem es_R1 {tgt : Expr} {tg : Tgt} {vs : List Nat} {p pos' : Pos} (hr : Gl X "range") (hmr : X.mg "range" = none) (ha : EA X [a] g) (hs : (∀ i ∈ tg.slots, i ∈ vs) := by decide) (hs1 : starEach [a] X.env = [(false, eval a X.env)] := by rfl) (ht : MonoT t) (he : MonoE fe) :
    ESrc X tgt (.Call (.Name "range" p) [a] [] pos') tg vs t fe (dLcR rg1 tg vs t fe g) :=
  ⟨dLcR_mono rg1_mono ha.mono ht he, fun H0 π => ⟨_, pi_range1 hr hmr (ha.pa H0 π) hs1, fun σ H Q h => dLcR1_sem ha.mono ht he hs h⟩⟩
theorem es_R2 {tgt : Expr} {tg : Tgt} {vs : List Nat} {p pos' : Pos} (hr : Gl X "range") (hmr : X.mg "range" = none) (ha : EA X [a, b] g) (hs : (∀ i ∈ tg.slots, i ∈ vs) := by decide) (hs1 : starEach [a, b] X.env = [(false, eval a X.env), (false, eval b X.env)] := by rfl)
    (hs2 : starEach [b] X.env = [(false, eval b X.env)] := by rfl) (ht : MonoT t) (he : MonoE fe) :
    ESrc X tgt (.Call (.Name "range" p) [a, b] [] pos') tg vs t fe (dLcR rg2 tg vs t fe g) :=
  ⟨dLcR_mono rg2_mono ha.mono ht he, fun H0 π => ⟨_, pi_range2 hr hmr (ha.pa H0 π) hs1 hs2, fun σ H Q h => dLcR2_sem ha.mono ht he hs h⟩⟩
theorem es_V {tgt iter : Expr} {tg : Tgt} {vs : List Nat} (hf : EV X iter f) (hs : (∀ i ∈ tg.slots, i ∈ vs) := by decide) (ht : MonoT t) (he : MonoE fe) : ESrc X tgt iter tg vs t fe (dLcV tg vs t fe f) :=
  ⟨dLcV_mono hf.mono ht he, fun H0 π => ⟨_, pi_seq (hf.pe H0 π), fun σ H Q h => dLcV_sem hf.mono ht he hs h⟩⟩
theorem ev_lc {elt tgt iter : Expr} {ifs : List Expr} {scope : Scope} (own : List (Str × Nat)) {vs : List Nat} {tg : Tgt} (hc : X.calm = true) (hN : X.N.Nodup) (ok : BlkOk X.N X.env.scope scope own)
    (htg : ∀ (s : Shared) (H : Hp) (C : Addr) (cl : List (Str × Addr)) (fp : List Addr), TgOk (X.blk s H scope (compEnvC scope cl C X.env) fp) tgt tg)
    (hts : ∀ (s : Shared) (H : Hp) (C : Addr) (cl : List (Str × Addr)) (fp : List Addr), ETs (X.blk s H scope (compEnvC scope cl C X.env) fp) ifs t)
    (hel : ∀ (s : Shared) (H : Hp) (C : Addr) (cl : List (Str × Addr)) (fp : List Addr), EV (X.blk s H scope (compEnvC scope cl C X.env) fp) elt fe)
    (hsrc : MonoT t → MonoE fe → ESrc X tgt iter tg vs t fe f) (hvs : own.map (·.2) = vs := by rfl) (hs : ∀ x, foldedSetIterable iter X.env x = pure x := by intro _; rfl) :
    EV X (.ListComp elt [⟨tgt, iter, ifs, 0⟩] scope pos) f := by
  subst hvs
  have S := hsrc (hts X.s_0 X.H_0 0 [] []).mono (hel X.s_0 X.H_0 0 [] []).mono
  refine ⟨S.mono, fun H0 π => ?_⟩
  obtain ⟨wi, hi, sem⟩ := S.src H0 π
  exact pei (pe_lc hc hN hi ok (fun s H C cl fp => (htg s H C cl fp).pg) (fun s H C cl fp => (hts s H C cl fp).any) (fun s H C cl fp => (hel s H C cl fp).any) hs) sem
theorem sv_setLc {elt tgt iter : Expr} {ifs : List Expr} {scope : Scope} {y : Str} {py spos : Pos} (i : Nat) (own : List (Str × Nat)) {vs : List Nat} {tg : Tgt} (hc : X.calm = true) (hN : X.N.Nodup) (ok : BlkOk X.N X.env.scope scope own)
    (htg : ∀ (s : Shared) (H : Hp) (C : Addr) (cl : List (Str × Addr)) (fp : List Addr), TgOk (X.blk s H scope (compEnvC scope cl C X.env) fp) tgt tg)
    (hts : ∀ (s : Shared) (H : Hp) (C : Addr) (cl : List (Str × Addr)) (fp : List Addr), ETs (X.blk s H scope (compEnvC scope cl C X.env) fp) ifs t)
    (hel : ∀ (s : Shared) (H : Hp) (C : Addr) (cl : List (Str × Addr)) (fp : List Addr), EV (X.blk s H scope (compEnvC scope cl C X.env) fp) elt fe)
    (hsrc : MonoT t → MonoE fe → ESrc X tgt iter tg vs t fe f) (hy : X.N[i]? = some y := by rfl) (hyl : X.env.scope.names.lookup y = some .local := by rfl)
    (hsw : swapsWith (.ListComp elt [⟨tgt, iter, ifs, 0⟩] scope pos) (some (.Name y py)) spos.line X.env = pure true := by exact sw_true rfl rfl rfl (by decide +kernel))
    (hvs : own.map (·.2) = vs := by rfl) (hs : ∀ x, foldedSetIterable iter X.env x = pure x := by intro _; rfl) :
    SV X (.Assign [.Name y py] (.ListComp elt [⟨tgt, iter, ifs, 0⟩] scope pos) spos) (mSet i true f) := by
  subst hvs
  have S := hsrc (hts X.s_0 X.H_0 0 [] []).mono (hel X.s_0 X.H_0 0 [] []).mono
  refine ⟨mset_mono S.mono, fun H0 π => ?_⟩
  obtain ⟨wi, hi, sem⟩ := S.src H0 π
  exact psi (ps_setLc hc hN hy hyl hsw hi ok (fun s H C cl fp => (htg s H C cl fp).pg) (fun s H C cl fp => (hts s H C cl fp).any) (fun s H C cl fp => (hel s H C cl fp).any) hs) fun D σ H h => sem σ H _ (set_sem S.mono h)

/-! ### a list changed in place -/
theorem EnvOk.write {K : PySem.W.Frag} {H0 H : Hp} {π : Nat → Option V} {σ : L2.St} {δ : En} {ν : Nu} (E : EnvOk K H0 π H σ δ ν) {j : Nat} {s : Slot} {p : Addr} {N' N'' : List Addr} {xs ys : List V} {es : List D} (hj : δ[j]? = some (some s)) (ho : s.own = true)
    (hv : σ[j]? = some (some (.ref p))) (hn : ν j = p :: N') (hp : H p = some (.lst xs)) (r : Rps K H ys es N'') (nd : (p :: N'').Nodup) (fr : ∀ a ∈ N'', H0 a = none) (dj : ∀ a ∈ N'', ∀ k t, k ≠ j → δ[k]? = some (some t) → a ∉ ν k)
    (al : ∀ k t, k ≠ j → δ[k]? = some (some t) → t.own = true → ∀ a ∈ ν k, a ∉ N'') : EnvOk K H0 π (upd H p (.lst ys)) σ (δ.set j (some ⟨.list es, true, s.pin⟩)) (setNu ν j (p :: N'')) := by
  have hl := (List.getElem?_eq_some_iff.mp hj).1
  have hp0 : H0 p = none := (E.nd j s hj ho).2 p (by rw [hn]; exact List.mem_cons_self)
  have nk : ∀ k t, k ≠ j → δ[k]? = some (some t) → p ∉ ν k := fun k t n h => E.dj j k s t (Ne.symm n) hj ho h p (by rw [hn]; exact List.mem_cons_self)
  have nd' := List.nodup_cons.mp nd
  have look : ∀ k t, (δ.set j (some ⟨.list es, true, s.pin⟩))[k]? = some (some t) → (k = j ∧ t = ⟨.list es, true, s.pin⟩) ∨ (k ≠ j ∧ δ[k]? = some (some t)) := fun k t h => by
    by_cases e : k = j
    · subst e
      rw [List.getElem?_set_self hl] at h
      cases h
      exact .inl ⟨rfl, rfl⟩
    · rw [List.getElem?_set_ne (Ne.symm e)] at h
      exact .inr ⟨e, h⟩
  have nu1 : setNu ν j (p :: N'') j = p :: N'' := by simp [setNu]
  have nu2 : ∀ k, k ≠ j → setNu ν j (p :: N'') k = ν k := fun k n => by simp [setNu, n]
  refine ⟨by simpa using E.len, fun b o h => ?_, fun k t h => ?_, fun k t h o => ?_, fun k l t u n h o h' a ha => ?_⟩
  · rw [upd_ne (fun e => by subst e; rw [hp0] at h; cases h)]
    exact E.sm b o h
  · rcases look k t h with ⟨rfl, rfl⟩ | ⟨n, h⟩
    · obtain ⟨w, a, _, c⟩ := E.at_ k s hj
      rw [hv] at a
      cases a
      refine ⟨_, hv, ?_, c⟩
      rw [nu1]
      exact .lst upd_same (Rps.upd hp r nd'.1)
    · obtain ⟨w, a, b, c⟩ := E.at_ k t h
      refine ⟨w, a, ?_, c⟩
      rw [nu2 k n]
      exact Rp.upd hp b (nk k t n h)
  · rcases look k t h with ⟨rfl, rfl⟩ | ⟨n, h⟩
    · rw [nu1]
      refine ⟨nd, fun a ha => ?_⟩
      rcases List.mem_cons.mp ha with rfl | ha
      · exact hp0
      · exact fr a ha
    · rw [nu2 k n]
      exact E.nd k t h o
  · rcases look k t h with ⟨rfl, rfl⟩ | ⟨n1, h3⟩
    · rw [nu1] at ha
      rcases look l u h' with ⟨rfl, _⟩ | ⟨n2, h2⟩
      · exact absurd rfl n
      · rw [nu2 l n2]
        rcases List.mem_cons.mp ha with rfl | ha
        · exact nk l u n2 h2
        · exact dj a ha l u n2 h2
    · have ha2 : a ∈ ν k := by
        rw [nu2 k n1] at ha
        exact ha
      rcases look l u h' with ⟨rfl, _⟩ | ⟨n2, h2⟩
      · rw [nu1]
        intro hm
        rcases List.mem_cons.mp hm with rfl | hm
        · exact nk k t n1 h3 ha2
        · exact al k t n1 h3 o a ha2 hm
      · rw [nu2 l n2]
        exact E.dj k l t u n h3 o h2 a ha2
/-- the slot of a name whose list is its own -/
theorem own_list {K : PySem.W.Frag} {H0 H : Hp} {π : Nat → Option V} {σ : L2.St} {δ : En} {ν : Nu} (E : EnvOk K H0 π H σ δ ν) {j : Nat} {ds : List D} {pn : Bool} (hj : δ[j]? = some (some ⟨.list ds, true, pn⟩)) :
    ∃ p xs N', σ[j]? = some (some (.ref p)) ∧ ν j = p :: N' ∧ H p = some (.lst xs) ∧ Rps K H xs ds N' ∧ (p :: N').Nodup ∧ ∀ a ∈ N', H0 a = none := by
  obtain ⟨v, hv, r, _⟩ := E.at_ j _ hj
  obtain ⟨p, xs, N', rfl, hn, hp, rs⟩ := r.list_
  have h := E.nd j _ hj rfl
  rw [hn] at h
  exact ⟨p, xs, N', hv, hn, hp, rs, h.1, fun a ha => h.2 a (List.mem_cons_of_mem _ ha)⟩

def ownL (δ : En) (j : Nat) : Option (List D × Bool) := match δ[j]? with
  | some (some ⟨.list ds, true, pn⟩) => some (ds, pn)
  | _ => none
theorem ownL_some {δ : En} {j : Nat} {ds : List D} {pn : Bool} (h : ownL δ j = some (ds, pn)) : δ[j]? = some (some ⟨.list ds, true, pn⟩) := by
  unfold ownL at h
  split at h
  · rename_i e; cases h; exact e
  · cases h
theorem killR_at {δ : En} {j : Nat} : ∀ {r : List Nat}, r.contains j = false → (killR δ r)[j]? = δ[j]?
  | [], _ => rfl
  | i :: r, h => by
    rw [List.contains_cons, Bool.or_eq_false_iff] at h
    simp only [killR]
    rw [List.getElem?_set_ne (fun e => by subst e; simp at h), killR_at h.2]
/-- a list changed at its name, by values that come by now -/
theorem write_by {K : PySem.W.Frag} {H0 H H1 : Hp} {π : Nat → Option V} {σ : L2.St} {δ : En} {ν : Nu} {j : Nat} {ds : List D} {pn : Bool} (E : EnvOk K H0 π H σ δ ν) (hj : δ[j]? = some (some ⟨.list ds, true, pn⟩)) (s1 : Same H H1) {p : Addr} {xs : List V} {N' : List Addr}
    (hv : σ[j]? = some (some (.ref p))) (hn : ν j = p :: N') (hp : H p = some (.lst xs)) (nd : (p :: N').Nodup) (fr : ∀ a ∈ N', H0 a = none) {v : V} {x : Val} {M : List Addr} (o : VOk K H δ ν H1 v x M) (ho : x.own = true) (hr : x.roots.contains j = false)
    {ys : List V} {es : List D} {N'' : List Addr} (r : Rps K H1 ys es N'') (sub : ∀ a ∈ N'', a ∈ N' ∨ a ∈ M) (nd2 : N''.Nodup) :
    EnvOk K H0 π (upd H1 p (.lst ys)) σ ((killR δ x.roots).set j (some ⟨.list es, true, pn⟩)) (setNu ν j (p :: N'')) := by
  have E1 := (E.same s1).kill x.roots
  have F := o.killed E
  have hj1 : (killR δ x.roots)[j]? = some (some ⟨.list ds, true, pn⟩) := by rw [killR_at hr]; exact hj
  have nd' := List.nodup_cons.mp nd
  have pM : p ∉ M := fun h => F.dj ho p h j _ hj1 (by rw [hn]; exact List.mem_cons_self)
  refine E1.write hj1 rfl hv hn (s1 _ _ hp) r (List.nodup_cons.mpr ⟨fun h => (sub p h).elim nd'.1 pM, nd2⟩) (fun a ha => (sub a ha).elim (fr a) (F.fr ho a)) (fun a ha k t n h => ?_) fun k t n h ow a ha hm => ?_
  · rcases sub a ha with z | z
    · exact E1.dj j k _ t (Ne.symm n) hj1 rfl h a (by rw [hn]; exact List.mem_cons_of_mem _ z)
    · exact F.dj ho a z k t h
  · rcases sub a hm with z | z
    · exact E1.dj k j t _ n h ow hj1 a ha (by rw [hn]; exact List.mem_cons_of_mem _ z)
    · exact F.al k t h ow a ha z
/-- x.append(e) -/
def mApp (j : Nat) (f : DE) : DS := fun E δ => match ownL δ j with
  | some (ds, pn) => f δ fun x => (x.own = true ∧ x.roots.contains j = false ∧ ds.length < sizeLine) ∧ killK δ x.roots fun δ' => setK δ' j (some ⟨.list (ds ++ [x.d]), true, pn⟩) E.nx
  | none => False
theorem mApp_mono {j : Nat} (hm : MonoE f) : MonoS (mApp j f) := fun A B δ h1 h2 q => by
  unfold mApp at *
  split at q
  · refine hm _ _ _ (fun x q => ⟨q.1, ?_⟩) q
    have q2 := q.2
    rw [killK_eq, setK_eq] at q2 ⊢
    exact h1 _ q2
  · exact q.elim
theorem sv_app (j : Nat) {x : Str} {px pm pe : Pos} (he : EV X e f) (hN : X.N[j]? = some x := by rfl) (hv : Vis X.env.scope x := by first | exact Or.inl rfl | exact Or.inr (Or.inl rfl) | exact Or.inr (Or.inr rfl)) (hd : (x == ("__debug__" : Str)) = false := by decide)
    (hcd : (x == ("__classdict__" : Str)) = false := by decide) (hs1 : starEach [e] X.env = (false, eval e X.env) :: starEach [] X.env := by rfl)
    (hs : swapsWith (.Call (.Attribute (.Name x px) "append" pm) [e] [] pe) none pos.line X.env = pure false := by rfl)
    (hbm : ∀ {to : TE} {t : TA}, PE X (.Name x px) to → PA X [e] t → PE X (.Call (.Attribute (.Name x px) "append" pm) [e] [] pe) (tBM X.K "list" rAppend to t) := by
      intro _ _ h1 h2; exact pe_bm PySem.F.plainAttrs_list PySem.F.slot_list_append PySem.F.type_list_append mt_append h1 h2) :
    SV X (.Expr (.Call (.Attribute (.Name x px) "append" pm) [e] [] pe) pos) (mApp j f) := by
  refine ⟨mApp_mono he.mono, fun H0 π => psi (ps_expr (hbm (pe_var hN hv hd hcd) (pa_cons (he.pe H0 π) pa_nil hs1)) hs) fun D σ H ⟨δ, ν, E, q⟩ => ?_⟩
  unfold mApp at q
  split at q
  · rename_i ds pn hj
    have hj := ownL_some hj
    obtain ⟨p, xs, N', hv, hn, hp, rs, nd, fr⟩ := own_list E hj
    refine ⟨_, hv, .inl ⟨rfl, _, SqL.of hp⟩, δ, ν, E, he.mono _ _ _ (fun y q w H1 M s1 o1 => ?_) q⟩
    obtain ⟨⟨ho, hr, hz⟩, q⟩ := q
    rw [killK_eq, setK_eq] at q
    refine ⟨p, xs, w, rfl, rfl, s1 _ _ hp, by rw [rs.length]; exact hz, q _ _ _ (write_by E hj s1 hv hn hp nd fr o1 ho hr ((rs.same s1).append (Rps.one o1.rp)) (fun a ha => List.mem_append.mp ha) ?_)⟩
    refine List.nodup_append.mpr ⟨(List.nodup_cons.mp nd).2, o1.nd ho, fun a ha b hb e => ?_⟩
    subst e
    have hj1 : (killR δ y.roots)[j]? = some (some ⟨.list ds, true, pn⟩) := by rw [killR_at hr]; exact hj
    exact (o1.killed E).dj ho a hb j _ hj1 (by rw [hn]; exact List.mem_cons_of_mem _ ha)
  · exact q.elim
/-- x[i] = e -/
def mSetI (j : Nat) (fi fe : DE) : DS := fun E δ => match ownL δ j with
  | some (ds, pn) => fe δ fun x => fi δ fun y => (match y.d with
    | .int k => ∃ m, (x.own = true ∧ x.roots.contains j = false ∧ ixN ds.length k = some m) ∧ killK δ x.roots fun δ' => setK δ' j (some ⟨.list (ds.set m x.d), true, pn⟩) E.nx
    | _ => False)
  | none => False
theorem mSetI_mono {j : Nat} {fi fe : DE} (hi : MonoE fi) (he : MonoE fe) : MonoS (mSetI j fi fe) := fun A B δ h1 h2 q => by
  unfold mSetI at *
  split at q
  · refine he _ _ _ (fun x q => hi _ _ _ (fun y q => ?_) q) q
    split at q
    · rename_i hy
      obtain ⟨m, a, b⟩ := q
      refine ⟨m, a, ?_⟩
      rw [killK_eq, setK_eq] at b ⊢
      exact h1 _ b
    · exact q.elim
  · exact q.elim
theorem sv_setI (j : Nat) {x : Str} {px ps : Pos} {i e : Expr} {fi fe : DE} (hi : EV X i fi) (he : EV X e fe) (hN : X.N[j]? = some x := by rfl) (hv : Vis X.env.scope x := by first | exact Or.inl rfl | exact Or.inr (Or.inl rfl) | exact Or.inr (Or.inr rfl))
    (hd : (x == ("__debug__" : Str)) = false := by decide) (hcd : (x == ("__classdict__" : Str)) = false := by decide)
    (ha : ∀ v, assign (.Subscript (.Name x px) i ps) X.env v = (do
      let ov ← holding [v] (eval (.Name x px) X.env)
      let iv ← holding [v, ov] (eval i X.env)
      standAt ps
      holding [v, ov, iv] (setItem ov iv v)
      release [v, ov, iv] []) := by intro _; rfl)
    (hs : swapsWithSole [.Subscript (.Name x px) i ps] e pos.line X.env = pure false := by rfl) (hw : swappedStores [.Subscript (.Name x px) i ps] e X.env = pure none := by rfl)
    (h1 : (assignEach [.Subscript (.Name x px) i ps] X.env).map (·.2) = [assign (.Subscript (.Name x px) i ps) X.env] := by rfl) :
    SV X (.Assign [.Subscript (.Name x px) i ps] e pos) (mSetI j fi fe) := by
  refine ⟨mSetI_mono hi.mono he.mono, fun H0 π => psi (ps_asg (he.pe H0 π) (pg_sub (pe_var hN hv hd hcd) (hi.pe H0 π) set_list ha) hs hw h1) fun D σ H ⟨δ, ν, E, q⟩ => ?_⟩
  unfold mSetI at q
  split at q
  · rename_i ds pn hj0
    have hj := ownL_some hj0
    obtain ⟨p, xs, N', hv', hn, hp, rs, nd, fr⟩ := own_list E hj
    refine ⟨δ, ν, E, he.mono _ _ _ (fun y q w H1 M s1 o1 => ?_) q⟩
    refine ⟨_, hv', δ, ν, E.same s1, hi.mono _ _ _ (fun z q u H2 L s2 o2 => ?_) q⟩
    have rz := o2.rp
    revert q
    cases hz : z.d <;> first | exact False.elim | skip
    rename_i k
    rintro ⟨m, ⟨ho, hr, hm⟩, q⟩
    rw [killK_eq, setK_eq] at q
    rw [hz] at rz
    have hml : m < ds.length := by
      unfold ixN at hm
      split at hm
      · split at hm
        · cases hm; omega
        · cases hm
      · split at hm
        · cases hm; omega
        · cases hm
    have s12 := s1.trans s2
    obtain ⟨A, O, B, e1, r2⟩ := (rs.same s12).set (o1.rp.same s2) hml
    refine ⟨p, xs, k, m, rfl, rz.int_, s12 _ _ hp, by rw [rs.length]; exact hm, q _ _ _ (write_by E hj s12 hv' hn hp nd fr (o1.same s2) ho hr r2 (fun a ha => ?_) ?_)⟩
    · rw [e1]
      simp only [List.mem_append] at ha ⊢
      rcases ha with (h | h) | h
      · exact .inl (.inl (.inl h))
      · exact .inr h
      · exact .inl (.inr h)
    · have hj1 : (killR δ y.roots)[j]? = some (some ⟨.list ds, true, pn⟩) := by rw [killR_at hr]; exact hj
      have F := o1.killed E
      have nN : N'.Nodup := (List.nodup_cons.mp nd).2
      have sep : ∀ a ∈ N', ∀ b ∈ M, a ≠ b := fun a ha b hb e => by
        subst e
        exact F.dj ho a hb j _ hj1 (by rw [hn]; exact List.mem_cons_of_mem _ ha)
      rw [e1] at nN sep
      rw [List.nodup_append] at nN
      rw [List.nodup_append] at nN
      obtain ⟨⟨nA, nO, nAO⟩, nB, nAB⟩ := nN
      rw [List.nodup_append, List.nodup_append]
      refine ⟨⟨nA, o1.nd ho, fun a ha b hb => sep a (by simp [ha]) b hb⟩, nB, fun a ha b hb => ?_⟩
      rcases List.mem_append.mp ha with ha | ha
      · exact nAB a (List.mem_append_left _ ha) b hb
      · exact fun e => sep b (by simp [hb]) a ha e.symm
  · exact q.elim
end
end KT
/-! KtJ: the law's end. -/
namespace KT
open PySem PySem.Spec PyProof.Rows L2
def dIf (t : DT) (fa fb : DE) : DE := fun δ P => t δ fun k => match k with
  | true => fa δ P
  | false => fb δ P
/-- the script as data -/
def scr (ns : List Int) : D := .dict (ns.map fun n => (.int n, .none))
/-- what the law's call asks, from its predicate -/
theorem law_sp {K : PySem.W.Frag} {wl : W} (h : ∀ ns : List Int, ns.length ≤ 63 → (∀ z ∈ ns, Builtin.Int.intBits z ≤ 1048576) → wl [scr ns] fun d => d = .bool true) (H : Hp) (a : Addr) (ns : List Int) (hl : ns.length ≤ 63) (hb : ∀ z ∈ ns, Builtin.Int.intBits z ≤ 1048576) (hO : Only H)
    (hS : SqL K H a (ns.map V.int)) : spOf K 1 wl [.ref a] H (fun v _ => v = .bl true) fun _ _ _ => False := by
  have r : Rp K H (.ref a) (scr ns) [] := by
    refine .scr ?_
    rcases hS with (z | ⟨o, z⟩) | z
    · rcases hO a with q | ⟨o, xs, q⟩
      · rw [q] at z; cases z
      · rw [q] at z; cases z
    · exact .inl ⟨o, z⟩
    · exact .inr z
  refine ⟨rfl, [scr ns], [] ++ [], .cons r .nil, _, h ns hl hb, fun d e v H' M _ r' _ _ => ?_⟩
  subst e
  exact r'.bool_
end KT
/-! KtK: a list within a list of a name, changed in place. -/
namespace KT
open PySem PySem.Spec PyProof.Rows L2
theorem EnvOk.writeD {K : PySem.W.Frag} {H0 H : Hp} {π : Nat → Option V} {σ : L2.St} {δ : En} {ν : Nu} (E : EnvOk K H0 π H σ δ ν) {j : Nat} {s : Slot} {v : V} {q : Addr} {zs ys : List V} {d' : D} {N2 : List Addr} (hj : δ[j]? = some (some s)) (ho : s.own = true)
    (hv : σ[j]? = some (some v)) (hq : q ∈ ν j) (hp : H q = some (.lst zs)) (r : Rp K (upd H q (.lst ys)) v d' N2) (nd : N2.Nodup) (fr : ∀ a ∈ N2, H0 a = none) (dj : ∀ a ∈ N2, ∀ k t, k ≠ j → δ[k]? = some (some t) → a ∉ ν k)
    (al : ∀ k t, k ≠ j → δ[k]? = some (some t) → t.own = true → ∀ a ∈ ν k, a ∉ N2) : EnvOk K H0 π (upd H q (.lst ys)) σ (δ.set j (some ⟨d', true, s.pin⟩)) (setNu ν j N2) := by
  have hl := (List.getElem?_eq_some_iff.mp hj).1
  have hp0 : H0 q = none := (E.nd j s hj ho).2 q hq
  have nk : ∀ k t, k ≠ j → δ[k]? = some (some t) → q ∉ ν k := fun k t n h => E.dj j k s t (Ne.symm n) hj ho h q hq
  have look : ∀ k t, (δ.set j (some ⟨d', true, s.pin⟩))[k]? = some (some t) → (k = j ∧ t = ⟨d', true, s.pin⟩) ∨ (k ≠ j ∧ δ[k]? = some (some t)) := fun k t h => by
    by_cases e : k = j
    · subst e
      rw [List.getElem?_set_self hl] at h
      cases h
      exact .inl ⟨rfl, rfl⟩
    · rw [List.getElem?_set_ne (Ne.symm e)] at h
      exact .inr ⟨e, h⟩
  have nu1 : setNu ν j N2 j = N2 := by simp [setNu]
  have nu2 : ∀ k, k ≠ j → setNu ν j N2 k = ν k := fun k n => by simp [setNu, n]
  refine ⟨by simpa using E.len, fun b o h => ?_, fun k t h => ?_, fun k t h o => ?_, fun k l t u n h o h' a ha => ?_⟩
  · rw [upd_ne (fun e => by subst e; rw [hp0] at h; cases h)]
    exact E.sm b o h
  · rcases look k t h with ⟨rfl, rfl⟩ | ⟨n, h⟩
    · obtain ⟨w, a, _, c⟩ := E.at_ k s hj
      rw [hv] at a
      cases a
      refine ⟨_, hv, ?_, c⟩
      rw [nu1]
      exact r
    · obtain ⟨w, a, b, c⟩ := E.at_ k t h
      refine ⟨w, a, ?_, c⟩
      rw [nu2 k n]
      exact Rp.upd hp b (nk k t n h)
  · rcases look k t h with ⟨rfl, rfl⟩ | ⟨n, h⟩
    · rw [nu1]
      exact ⟨nd, fr⟩
    · rw [nu2 k n]
      exact E.nd k t h o
  · rcases look k t h with ⟨rfl, rfl⟩ | ⟨n1, h3⟩
    · rw [nu1] at ha
      rcases look l u h' with ⟨rfl, _⟩ | ⟨n2, h2⟩
      · exact absurd rfl n
      · rw [nu2 l n2]
        exact dj a ha l u n2 h2
    · have ha2 : a ∈ ν k := by
        rw [nu2 k n1] at ha
        exact ha
      rcases look l u h' with ⟨rfl, _⟩ | ⟨n2, h2⟩
      · rw [nu1]
        exact al k t n1 h3 o a ha2
      · rw [nu2 l n2]
        exact E.dj k l t u n h3 o h2 a ha2
/-- an item, and what comes about where a list within it changes -/
theorem Rps.get2 {K : PySem.W.Frag} {H : Hp} : ∀ {vs : List V} {ds : List D} {N : List Addr} {i : Nat} {d : D}, Rps K H vs ds N → ds[i]? = some d →
    ∃ v A M B, vs[i]? = some v ∧ N = A ++ M ++ B ∧ Rp K H v d M ∧ ∀ (q : Addr) (ys zs : List V), H q = some (.lst zs) → q ∉ A → q ∉ B → ∀ d' M2, Rp K (L2.upd H q (.lst ys)) v d' M2 → Rps K (L2.upd H q (.lst ys)) vs (ds.set i d') (A ++ M2 ++ B)
  | _, _, _, _, _, .nil, e => by simp at e
  | _, _, _, 0, d, .cons (N := N) (M := M) r s, e => by
    simp at e; subst e
    exact ⟨_, [], N, M, rfl, by simp, r, fun q ys zs hq _ hB d' M2 r' => by simpa using Rps.cons r' (Rps.upd hq s hB)⟩
  | _, _, _, i + 1, d, .cons (N := N) (M := M) r s, e => by
    obtain ⟨v, A, M', B, h1, h2, h3, h4⟩ := Rps.get2 (i := i) (d := d) s (by simpa using e)
    refine ⟨v, N ++ A, M', B, by simpa using h1, by rw [h2]; simp, h3, fun q ys zs hq hA hB d' M2 r' => ?_⟩
    have hA' : ¬ (q ∈ N ∨ q ∈ A) := fun h => hA (List.mem_append.mpr h)
    have t := h4 q ys zs hq (fun h => hA' (.inr h)) hB d' M2 r'
    simpa [List.append_assoc] using Rps.cons (Rp.upd hq r fun h => hA' (.inl h)) t
section
variable {X : Cx} {f fi : DE}
/-- x[i].append(e) -/
def mAppI (j : Nat) (fi f : DE) : DS := fun E δ => match ownL δ j with
  | some (ds, pn) => fi δ fun y => (match y.d with
    | .int k => ∃ m es, (ixN ds.length k = some m ∧ ds[m]? = some (.list es)) ∧ f δ fun x => (x.own = true ∧ x.roots.contains j = false ∧ es.length < sizeLine) ∧ killK δ x.roots fun δ' => setK δ' j (some ⟨.list (ds.set m (.list (es ++ [x.d]))), true, pn⟩) E.nx
    | _ => False)
  | none => False
theorem mAppI_mono {j : Nat} (hi : MonoE fi) (hm : MonoE f) : MonoS (mAppI j fi f) := fun A B δ h1 h2 q => by
  unfold mAppI at *
  split at q
  · refine hi _ _ _ (fun y q => ?_) q
    split at q
    · rename_i hy
      obtain ⟨m, es, a, q⟩ := q
      refine ⟨m, es, a, hm _ _ _ (fun x q => ⟨q.1, ?_⟩) q⟩
      have q2 := q.2
      rw [killK_eq, setK_eq] at q2 ⊢
      exact h1 _ q2
    · exact q.elim
  · exact q.elim
theorem sv_appI (j : Nat) {x : Str} {px ps pm pe : Pos} {i e : Expr} (hi : EV X i fi) (hs0 : PlainIx i) (he : EV X e f) (hN : X.N[j]? = some x := by rfl) (hv : Vis X.env.scope x := by first | exact Or.inl rfl | exact Or.inr (Or.inl rfl) | exact Or.inr (Or.inr rfl)) (hd : (x == ("__debug__" : Str)) = false := by decide)
    (hcd : (x == ("__classdict__" : Str)) = false := by decide) (hs1 : starEach [e] X.env = (false, eval e X.env) :: starEach [] X.env := by rfl)
    (hs : swapsWith (.Call (.Attribute (.Subscript (.Name x px) i ps) "append" pm) [e] [] pe) none pos.line X.env = pure false := by rfl)
    (hbm : ∀ {to : TE} {t : TA}, PE X (.Subscript (.Name x px) i ps) to → PA X [e] t → PE X (.Call (.Attribute (.Subscript (.Name x px) i ps) "append" pm) [e] [] pe) (tBM X.K "list" rAppend to t) := by
      intro _ _ h1 h2; exact pe_bm PySem.F.plainAttrs_list PySem.F.slot_list_append PySem.F.type_list_append mt_append h1 h2) :
    SV X (.Expr (.Call (.Attribute (.Subscript (.Name x px) i ps) "append" pm) [e] [] pe) pos) (mAppI j fi f) := by
  refine ⟨mAppI_mono hi.mono he.mono, fun H0 π => psi (ps_expr (hbm (pe_ix ix_seq (pe_var hN hv hd hcd) (hi.pe H0 π) hs0) (pa_cons (he.pe H0 π) pa_nil hs1)) hs) fun D σ H ⟨δ, ν, E, q⟩ => ?_⟩
  unfold mAppI at q
  split at q
  · rename_i ds pn hj
    have hj := ownL_some hj
    obtain ⟨p, xs, N', hv, hn, hp, rs, nd, fr⟩ := own_list E hj
    refine ⟨_, hv, δ, ν, E, hi.mono _ _ _ (fun z q u H1 L s1 o1 => ?_) q⟩
    have rz := o1.rp
    revert q
    cases hz : z.d <;> first | exact False.elim | skip
    rename_i k
    rintro ⟨m, es, ⟨hm, hes⟩, q⟩
    rw [hz] at rz
    obtain ⟨v, A, M, B, g1, g2, g3, g4⟩ := (rs.same s1).get2 hes
    obtain ⟨a, ys, M', rfl, rfl, ha, rs'⟩ := g3.list_
    have hat : atI xs k = some (.ref a) := by
      unfold atI
      rw [rs.length, hm]
      exact g1
    refine .inl ⟨p, xs, k, .ref a, rfl, rz.int_, SqL.of (s1 _ _ hp), hat, .inl ⟨rfl, _, SqL.of ha⟩, δ, ν, E.same s1, he.mono _ _ _ (fun y q w H2 W s2 o2 => ?_) q⟩
    obtain ⟨⟨ho, hr, hz⟩, q⟩ := q
    rw [killK_eq, setK_eq] at q
    have s12 := s1.trans s2
    obtain ⟨v2, A2, M2, B2, k1, k2, k3, k4⟩ := (rs.same s12).get2 hes
    rw [g1] at k1
    cases k1
    obtain ⟨a2, ys2, M3, e1, rfl, ha2, rs2⟩ := k3.list_
    cases e1
    have e2 := s2 _ _ ha
    rw [ha2] at e2
    cases e2
    have E1 := (E.same s12).kill y.roots
    have F := o2.killed (E.same s1)
    have hj1 : (killR δ y.roots)[j]? = some (some ⟨.list ds, true, pn⟩) := by rw [killR_at hr]; exact hj
    have nN : N'.Nodup := (List.nodup_cons.mp nd).2
    have aN : a ∈ N' := by rw [k2]; simp
    have pN : p ∉ N' := (List.nodup_cons.mp nd).1
    have nN2 := nN
    rw [k2, List.nodup_append, List.nodup_append] at nN2
    obtain ⟨⟨nA, nM, nAM⟩, nB, nAB⟩ := nN2
    have aA : a ∉ A2 := fun h => nAM a h a List.mem_cons_self rfl
    have aB : a ∉ B2 := fun h => nAB a (List.mem_append_right _ List.mem_cons_self) a h rfl
    have nM' := List.nodup_cons.mp nM
    have sep : ∀ b ∈ N', ∀ c ∈ W, b ≠ c := fun b hb c hc e => by
      subst e
      exact F.dj ho b hc j _ hj1 (by rw [hn]; exact List.mem_cons_of_mem _ hb)
    have pW : p ∉ W := fun h => F.dj ho p h j _ hj1 (by rw [hn]; exact List.mem_cons_self)
    have aW : a ∉ W := fun h => sep a aN a h rfl
    have r0 : Rps X.K (upd H2 a (.lst (ys ++ [w]))) (ys ++ [w]) (es ++ [y.d]) (M3 ++ W) := Rps.upd ha2 (rs2.append (Rps.one o2.rp)) fun h => (List.mem_append.mp h).elim nM'.1 aW
    have r1 : Rp X.K (upd H2 a (.lst (ys ++ [w]))) (.ref a) (.list (es ++ [y.d])) (a :: (M3 ++ W)) := .lst upd_same r0
    have r2 := k4 a (ys ++ [w]) ys ha2 aA aB _ _ r1
    have hpa : p ≠ a := fun e => pN (by rw [e]; exact aN)
    have r3 : Rp X.K (upd H2 a (.lst (ys ++ [w]))) (.ref p) (.list (ds.set m (.list (es ++ [y.d])))) (p :: (A2 ++ a :: (M3 ++ W) ++ B2)) :=
      .lst (by rw [upd_ne hpa]; exact s12 _ _ hp) r2
    have inN : ∀ b, b ∈ A2 ++ a :: (M3 ++ W) ++ B2 → b ∈ N' ∨ b ∈ W := fun b hb => by
      rw [k2]
      simp only [List.mem_append, List.mem_cons] at hb ⊢
      rcases hb with (h | h | h | h) | h
      · exact .inl (.inl (.inl h))
      · exact .inl (.inl (.inr (.inl h)))
      · exact .inl (.inl (.inr (.inr h)))
      · exact .inr h
      · exact .inl (.inr h)
    refine ⟨a, ys, w, rfl, rfl, ha2, by rw [rs2.length]; exact hz, q _ _ _ (E1.writeD (s := ⟨.list ds, true, pn⟩) hj1 rfl hv (by rw [hn]; exact List.mem_cons_of_mem _ aN) ha2 r3 ?_ ?_ ?_ ?_)⟩
    · refine List.nodup_cons.mpr ⟨fun h => (inN p h).elim pN pW, ?_⟩
      have nMW : (a :: (M3 ++ W)).Nodup := by
        refine List.nodup_cons.mpr ⟨fun h => (List.mem_append.mp h).elim nM'.1 aW, List.nodup_append.mpr ⟨nM'.2, o2.nd ho, fun b hb c hc => sep b (by rw [k2]; simp [hb]) c hc⟩⟩
      refine List.nodup_append.mpr ⟨List.nodup_append.mpr ⟨nA, nMW, fun b hb c hc => ?_⟩, nB, fun b hb c hc => ?_⟩
      · rcases List.mem_cons.mp hc with rfl | hc
        · exact nAM b hb c List.mem_cons_self
        · rcases List.mem_append.mp hc with hc | hc
          · exact nAM b hb c (List.mem_cons_of_mem _ hc)
          · exact sep b (by rw [k2]; simp [hb]) c hc
      · rcases List.mem_append.mp hb with hb | hb
        · exact nAB b (List.mem_append_left _ hb) c hc
        · rcases List.mem_cons.mp hb with rfl | hb
          · exact nAB b (List.mem_append_right _ List.mem_cons_self) c hc
          · rcases List.mem_append.mp hb with hb | hb
            · exact nAB b (List.mem_append_right _ (List.mem_cons_of_mem _ hb)) c hc
            · exact fun e => sep c (by rw [k2]; simp [hc]) b hb e.symm
    · intro b hb
      rcases List.mem_cons.mp hb with rfl | hb
      · exact (E.nd j _ hj rfl).2 b (by rw [hn]; exact List.mem_cons_self)
      · rcases inN b hb with h | h
        · exact fr b h
        · exact F.fr ho b h
    · intro b hb k' t n h
      rcases List.mem_cons.mp hb with rfl | hb
      · exact E1.dj j k' _ t (Ne.symm n) hj1 rfl h b (by rw [hn]; exact List.mem_cons_self)
      · rcases inN b hb with z | z
        · exact E1.dj j k' _ t (Ne.symm n) hj1 rfl h b (by rw [hn]; exact List.mem_cons_of_mem _ z)
        · exact F.dj ho b z k' t h
    · intro k' t n h ow b hb hm
      rcases List.mem_cons.mp hm with rfl | hm
      · exact E1.dj k' j t _ n h ow hj1 b hb (by rw [hn]; exact List.mem_cons_self)
      · rcases inN b hm with z | z
        · exact E1.dj k' j t _ n h ow hj1 b hb (by rw [hn]; exact List.mem_cons_of_mem _ z)
        · exact F.al k' t h ow b hb z
  · exact q.elim
end
/-! ### a test after which the ways meet again -/
@[irreducible] def mIfJ (t : DT) (m n : DS) : DS := mIf t m n
theorem mIfJ_eq (t : DT) (m n : DS) : mIfJ t m n = mIf t m n := by unfold mIfJ; rfl
theorem sv_ifJ {X : Cx} {st : Stmt} {t : DT} {m n : DS} (h : SV X st (mIf t m n)) : SV X st (mIfJ t m n) := by rw [mIfJ_eq]; exact h
/-- e tells the names behind it -/
theorem ifJ {t : DT} {m n : DS} {N : En → Prop} {rt : Val → En → Prop} {δ : En} {α : Type} (e : α → En) (h : ∀ a, N (e a)) (k : ∀ N : En → Prop, (∀ a, N (e a)) → mIf t m n ⟨N, rt⟩ δ) : mIfJ t m n ⟨N, rt⟩ δ := by rw [mIfJ_eq]; exact k N h
theorem ifN {t : DT} {m n : DS} {E : DEnds} {δ : En} (k : mIf t m n E δ) : mIfJ t m n E δ := by rw [mIfJ_eq]; exact k
/-! ### a name that is lent for a while -/
mutual
theorem Rp.nodes {K : PySem.W.Frag} {H : Hp} {v : V} {d : D} {N : List Addr} : Rp K H v d N → ∀ a ∈ N, H a ≠ none
  | .non, _, h => nomatch h
  | .bl _, _, h => nomatch h
  | .int _, _, h => nomatch h
  | .str _, _, h => nomatch h
  | .lst h r, a, ha => by
    rcases List.mem_cons.mp ha with rfl | ha
    · rw [h]; exact fun z => nomatch z
    · exact Rps.nodes r a ha
  | .tup _ r, a, ha => Rps.nodes r a ha
  | .scr _, _, h => nomatch h
theorem Rps.nodes {K : PySem.W.Frag} {H : Hp} {vs : List V} {ds : List D} {N : List Addr} : Rps K H vs ds N → ∀ a ∈ N, H a ≠ none
  | .nil, _, h => nomatch h
  | .cons r s, a, ha => (List.mem_append.mp ha).elim (Rp.nodes r a) (Rps.nodes s a)
end
def Clean (j : Nat) (δ δ' : En) : Prop := ∀ k t, k ≠ j → δ'[k]? = some (some t) → t.own = true ∨ imm t.d = true ∨ (t.pin = true ∧ t.own = false ∧ δ[k]? = some (some t))
open Classical in
theorem EnvOk.back {K : PySem.W.Frag} {H0 H H' : Hp} {π : Nat → Option V} {σ σ' : L2.St} {δ δ' : En} {ν ν' : Nu} (E : EnvOk K H0 π H σ δ ν) {j : Nat} {s : Slot} {v : V} (hj : δ[j]? = some (some s)) (ho : s.own = true) (hp : s.pin = false) (hv : σ[j]? = some (some v))
    (E' : EnvOk K (KT.shut H (δ.set j (some ⟨s.d, false, true⟩)) ν) (pinTo π j v) H' σ' δ' ν') (hj' : δ'[j]? = some (some ⟨s.d, false, true⟩)) (cl : Clean j δ δ') : ∃ ν'', EnvOk K H0 π H' σ' (δ'.set j (some s)) ν'' := by
  have hl := (List.getElem?_eq_some_iff.mp hj).1
  have hl' := (List.getElem?_eq_some_iff.mp hj').1
  have E1 : EnvOk K H0 (pinTo π j v) H σ (δ.set j (some ⟨s.d, false, true⟩)) ν := E.pin hj hv (o := false) fun z => nomatch z
  have so : Same H0 (KT.shut H (δ.set j (some ⟨s.d, false, true⟩)) ν) := shut_over E1
  -- what stands in the shut heap
  have keep : ∀ (k : Nat) (t : Slot) (w : V), (k = j ∨ t.own = false) → δ[k]? = some (some t) → Rp K H w t.d (ν k) → Rp K (KT.shut H (δ.set j (some ⟨s.d, false, true⟩)) ν) w t.d (ν k) := fun k t w hk ht r => Rp.shut E1 r fun l u hu huo a ha => by
    by_cases e : l = j
    · subst e
      rw [List.getElem?_set_self hl] at hu
      cases hu
      cases huo
    · rw [List.getElem?_set_ne (Ne.symm e)] at hu
      have n : l ≠ k := fun z => by
        subst z
        rcases hk with hk | hk
        · exact e hk
        · rw [hu] at ht
          cases ht
          rw [hk] at huo
          cases huo
      exact E.dj l k u t n hu huo ht a ha
  obtain ⟨v0, hv0, r0, _⟩ := E.at_ j s hj
  rw [hv] at hv0
  cases hv0
  have rj := keep j s v (.inl rfl) hj r0
  let C : Nat → Prop := fun k => ∃ t : Slot, δ'[k]? = some (some t) ∧ t.own = false ∧ imm t.d = false
  let ν2 : Nu := fun k => if k = j then ν j else if C k then ν k else ν' k
  have nj : ν2 j = ν j := if_pos rfl
  have n1 : ∀ k t, k ≠ j → δ'[k]? = some (some t) → (t.own = true ∨ imm t.d = true) → ν2 k = ν' k := fun k t n h ho => by
    show (if k = j then ν j else if C k then ν k else ν' k) = ν' k
    rw [if_neg n, if_neg]
    rintro ⟨t', h', a, b⟩
    rw [h] at h'
    cases h'
    rcases ho with ho | ho
    · rw [a] at ho; cases ho
    · rw [b] at ho; cases ho
  have n2 : ∀ k t, k ≠ j → δ'[k]? = some (some t) → t.own = false → imm t.d = false → ν2 k = ν k := fun k t n h a b => by
    show (if k = j then ν j else if C k then ν k else ν' k) = ν k
    rw [if_neg n, if_pos ⟨t, h, a, b⟩]
  have look : ∀ k t, (δ'.set j (some s))[k]? = some (some t) → (k = j ∧ t = s) ∨ (k ≠ j ∧ δ'[k]? = some (some t)) := fun k t h => by
    by_cases e : k = j
    · subst e
      rw [List.getElem?_set_self hl'] at h
      cases h
      exact .inl ⟨rfl, rfl⟩
    · rw [List.getElem?_set_ne (Ne.symm e)] at h
      exact .inr ⟨e, h⟩
  -- the pinned ones
  have pinned : ∀ k t, k ≠ j → δ'[k]? = some (some t) → t.own = false → imm t.d = false → t.pin = true ∧ δ[k]? = some (some t) := fun k t n h a b => by
    rcases cl k t n h with z | z | z
    · rw [a] at z; cases z
    · rw [b] at z; cases z
    · exact ⟨z.1, z.2.2⟩
  have at2 : ∀ k t, k ≠ j → δ'[k]? = some (some t) → ∃ w, σ'[k]? = some (some w) ∧ Rp K H' w t.d (ν2 k) ∧ (t.pin = true → π k = some w) := fun k t n h => by
    obtain ⟨w, a, b, c⟩ := E'.at_ k t h
    have c' : t.pin = true → π k = some w := fun z => by
      have q := c z
      unfold pinTo at q
      rw [if_neg n] at q
      exact q
    cases ho : t.own with
    | true => exact ⟨w, a, by rw [n1 k t n h (.inl ho)]; exact b, c'⟩
    | false =>
      cases hi : imm t.d with
      | true => exact ⟨w, a, by rw [n1 k t n h (.inr hi)]; exact b, c'⟩
      | false =>
        obtain ⟨hpn, hk⟩ := pinned k t n h ho hi
        obtain ⟨w0, a0, b0, c0⟩ := E.at_ k t hk
        have e := c' hpn
        rw [c0 hpn] at e
        cases e
        exact ⟨_, a, by rw [n2 k t n h ho hi]; exact (keep k t _ (.inr ho) hk b0).same E'.sm, c'⟩
  -- own lists lie beyond the shut heap
  have far : ∀ k t, k ≠ j → δ'[k]? = some (some t) → t.own = true → ∀ a ∈ ν2 k, KT.shut H (δ.set j (some ⟨s.d, false, true⟩)) ν a = none := fun k t n h o a ha => by
    rw [n1 k t n h (.inl o)] at ha
    exact (E'.nd k t h o).2 a ha
  refine ⟨ν2, by simpa using E'.len, so.trans E'.sm, fun k t h => ?_, fun k t h o => ?_, fun k l t u n h o h' a ha ham => ?_⟩
  · rcases look k t h with ⟨rfl, rfl⟩ | ⟨n, h⟩
    · obtain ⟨w, a, _, c⟩ := E'.at_ k _ hj'
      have q := c rfl
      unfold pinTo at q
      rw [if_pos rfl] at q
      cases q
      exact ⟨v, a, by rw [nj]; exact rj.same E'.sm, fun z => by rw [hp] at z; cases z⟩
    · exact at2 k t n h
  · rcases look k t h with ⟨rfl, rfl⟩ | ⟨n, h⟩
    · rw [nj]; exact E.nd k t hj ho
    · rw [n1 k t n h (.inl o)]
      exact ⟨(E'.nd k t h o).1, fun a ha => so.free ((E'.nd k t h o).2 a ha)⟩
  · rcases look k t h with ⟨rfl, rfl⟩ | ⟨nk, h⟩
    · rw [nj] at ha
      rcases look l u h' with ⟨rfl, rfl⟩ | ⟨nl, h2⟩
      · exact n rfl
      · cases uo : u.own with
        | true => exact rj.nodes a ha (far l u nl h2 uo a ham)
        | false =>
          cases ui : imm u.d with
          | true =>
            rw [n1 l u nl h2 (.inr ui)] at ham
            obtain ⟨w, _, b, _⟩ := E'.at_ l u h2
            rw [b.imm ui] at ham
            cases ham
          | false =>
            rw [n2 l u nl h2 uo ui] at ham
            exact E.dj k l t u n hj ho (pinned l u nl h2 uo ui).2 a ha ham
    · have hf := far k t nk h o a ha
      rcases look l u h' with ⟨rfl, rfl⟩ | ⟨nl, h2⟩
      · rw [nj] at ham
        exact rj.nodes a ham hf
      · cases uo : u.own with
        | true =>
          rw [n1 k t nk h (.inl o)] at ha
          rw [n1 l u nl h2 (.inl uo)] at ham
          exact E'.dj k l t u n h o h2 a ha ham
        | false =>
          cases ui : imm u.d with
          | true =>
            rw [n1 l u nl h2 (.inr ui)] at ham
            obtain ⟨w, _, b, _⟩ := E'.at_ l u h2
            rw [b.imm ui] at ham
            cases ham
          | false =>
            rw [n2 l u nl h2 uo ui] at ham
            have hk := (pinned l u nl h2 uo ui).2
            obtain ⟨w0, _, b0, _⟩ := E.at_ l u hk
            exact (keep l u w0 (.inr uo) hk b0).nodes a ham hf
/-- the statement, j lent: its list is not changed in it, and it is the name's own again behind it -/
def mLend (j : Nat) (m : DS) : DS := fun E δ => match δ[j]? with
  | some (some ⟨d, true, false⟩) => m ⟨fun δ' => (δ'[j]? = some (some ⟨d, false, true⟩) ∧ Clean j δ δ') ∧ E.nx (δ'.set j (some ⟨d, true, false⟩)), fun x δ' => E.rt x (unpin j false δ')⟩ (δ.set j (some ⟨d, false, true⟩))
  | _ => False
theorem mLend_mono {j : Nat} {m : DS} (hm : MonoS m) : MonoS (mLend j m) := fun A B δ h1 h2 q => by
  unfold mLend at *
  split at q
  · refine hm _ _ _ (fun δ q => ?_) (fun x δ q => ?_) q
    · exact ⟨q.1, h1 _ q.2⟩
    · exact h2 _ _ q
  · exact q.elim
theorem sv_lend {X : Cx} {st : Stmt} {m : DS} (j : Nat) (h : SV X st m) : SV X st (mLend j m) := by
  have any : PS X st (semAny X.K m) := ⟨fun pins s σ H D I ⟨H2, π, q⟩ => (h.ps H2 π).run pins s σ H D I q⟩
  refine ⟨mLend_mono h.mono, fun H0 π => psi any fun D σ H ⟨δ, ν, E, q⟩ => ?_⟩
  unfold mLend at q
  split at q
  · rename_i d hj
    obtain ⟨v, hv, r, _⟩ := E.at_ j _ hj
    have E1 : EnvOk X.K H0 (pinTo π j v) H σ (δ.set j (some ⟨d, false, true⟩)) ν := E.pin hj hv (o := false) fun z => nomatch z
    have so := shut_over E1
    refine ⟨_, pinTo π j v, _, ν, E1.shut, h.mono _ _ _ (fun δ' q σ' H' ν' E' => ?_) (fun x δ' q v' σ' H1 H2 ν' M E' s1 o1 => ?_) q⟩
    · obtain ⟨ν2, E2⟩ := E.back hj rfl rfl hv E' q.1.1 q.1.2
      exact q.2 _ _ _ E2
    · exact q v' σ' H1 H2 ν' M ((E'.open so).unpin fun z => nomatch z) s1 (o1.unpin j false)
  · exact q.elim
/-- what is behind a lent name, slot by slot -/
def cleanL (j : Nat) : Nat → En → En → Prop
  | i, o :: δ, none :: δ' => cleanL j (i + 1) δ δ'
  | i, o :: δ, some t :: δ' => (i = j ∨ t.own = true ∨ imm t.d = true ∨ (t.pin = true ∧ t.own = false ∧ o = some t)) ∧ cleanL j (i + 1) δ δ'
  | _, _, [] => True
  | _, [], _ :: _ => False
theorem cleanL_at {j : Nat} : ∀ {i : Nat} {δ δ' : En}, cleanL j i δ δ' → ∀ k t, i + k ≠ j → δ'[k]? = some (some t) → t.own = true ∨ imm t.d = true ∨ (t.pin = true ∧ t.own = false ∧ δ[k]? = some (some t))
  | _, _, [], _, k, t, _, h => by simp at h
  | _, [], _ :: _, q, _, _, _, _ => q.elim
  | i, o :: δ, none :: δ', q, k, t, n, h => by
    cases k with
    | zero => simp at h
    | succ k => exact cleanL_at (i := i + 1) q k t (by omega) (by simpa using h)
  | i, o :: δ, some u :: δ', q, k, t, n, h => by
    cases k with
    | zero =>
      simp at h
      subst h
      rcases q.1 with z | z | z | z
      · exact absurd z (by simpa using n)
      · exact .inl z
      · exact .inr (.inl z)
      · exact .inr (.inr ⟨z.1, z.2.1, by simpa using z.2.2⟩)
    | succ k => exact cleanL_at (i := i + 1) q.2 k t (by omega) (by simpa using h)
theorem clean_of {j : Nat} {δ δ' : En} (h : cleanL j 0 δ δ') : Clean j δ δ' := fun k t n hk => cleanL_at h k t (by simpa using n) hk
end KT
/-! KtL: lists of lists joined. -/
namespace KT
open PySem PySem.Spec PyProof.Rows L2
section
variable {X : Cx} {a b e : Expr} {fa fb f : DE} {pos : Pos}
/-- xs + ys, the items kept by both -/
def dCat (fa fb : DE) : DE := fun δ P => fa δ fun x => fb δ fun y => match x.d, y.d with
  | .list xs, .list ys => xs.length + ys.length ≤ sizeLine ∧ P ⟨.list (xs ++ ys), false, x.roots ++ y.roots⟩
  | _, _ => False
theorem ev_cat (ha : EV X a fa) (hb : EV X b fb) : EV X (.BinOp a .Add b pos) (dCat fa fb) := by
  refine ⟨fun δ P P' h q => ha.mono _ _ _ (fun x q => hb.mono _ _ _ (fun y q => ?_) q) q, fun H0 π => pei (pe_op op_cat (ha.pe H0 π) (hb.pe H0 π)) fun σ H Q ⟨δ, ν, E, q⟩ => ?_⟩
  · split at q
    · exact ⟨q.1, h _ q.2⟩
    · exact q.elim
  · refine ⟨δ, ν, E, ha.mono _ _ _ (fun x q v H1 M s1 o1 => ?_) q⟩
    refine ⟨δ, ν, E.same s1, hb.mono _ _ _ (fun y q w H2 N s2 o2 => ?_) q⟩
    split at q
    · rename_i xs ys ex ey
      obtain ⟨hz, q⟩ := q
      have r1 := o1.rp.same s2
      have r2 := o2.rp
      rw [ex] at r1
      rw [ey] at r2
      obtain ⟨p1, vs, A, rfl, eM, h1, t1⟩ := r1.list_
      obtain ⟨p2, ws, B, rfl, eN, h2, t2⟩ := r2.list_
      refine ⟨p1, p2, vs, ws, rfl, rfl, h1, h2, by rw [t1.length, t2.length]; exact hz, fun p hp => ?_⟩
      have s3 : Same H2 (upd H2 p (.lst (vs ++ ws))) := Same.upd_new hp
      refine q _ _ (p :: (A ++ B)) ((s1.trans s2).trans s3) ⟨.lst upd_same ((t1.append t2).same s3), fun z => (nomatch z), fun z => (nomatch z), fun j t hj ho hn a ha hm => ?_⟩
      have hn1 : j ∉ x.roots := fun z => hn (List.mem_append_left _ z)
      have hn2 : j ∉ y.roots := fun z => hn (List.mem_append_right _ z)
      rcases List.mem_cons.mp hm with rfl | hm
      · exact ((E.same (s1.trans s2)).trk hj) _ ha hp
      · rcases List.mem_append.mp hm with hm | hm
        · exact o1.al j t hj ho hn1 a ha (by rw [eM]; exact List.mem_cons_of_mem _ hm)
        · exact o2.al j t hj ho hn2 a ha (by rw [eN]; exact List.mem_cons_of_mem _ hm)
    · exact q.elim
end
end KT
/-! KtM: raise where it is not reached, a < b < c, x.reverse(), bit_length, a module's constant, a, b = x, y, x[i][j] = e. -/
namespace KT
open PySem PySem.Spec PyProof.Rows L2
section
variable {X : Cx} {a b c e : Expr} {fa fb fc f fi fj : DE} {pos : Pos} {st : Stmt}
/-- a statement that is not reached -/
def mNever : DS := fun _ _ => False
theorem sv_never : SV X st mNever := ⟨fun _ _ _ _ _ q => q.elim, fun H0 π => psi ps_never fun D σ H ⟨_, _, _, q⟩ => q.elim⟩
/-- a < b < c -/
def dChain (k k' : K2) (fa fb fc : DE) : DE := fun δ P => fa δ fun x => fb δ fun y => k x.d y.d fun d => match d with
  | .bool t => (match t with
    | true => fc δ fun z => k' y.d z.d fun d => P ⟨d, true, []⟩
    | false => P ⟨.bool false, true, []⟩)
  | _ => False
theorem chain_mono {k k' : K2} {r r' : R2} (hk : R2Ok X r k) (hk' : R2Ok X r' k') (ha : EV X a fa) (hb : EV X b fb) (hc : EV X c fc) : ∀ δ (P P' : Val → Prop), (∀ x, P x → P' x) → dChain k k' fa fb fc δ P → dChain k k' fa fb fc δ P' :=
  fun δ P P' h q => ha.mono _ _ _ (fun x q => hb.mono _ _ _ (fun y q => hk.mono _ _ _ _ (fun d q => by
    revert q
    cases d <;> try exact id
    rename_i t
    cases t
    · exact h _
    · exact hc.mono _ _ _ (fun z q => hk'.mono _ _ _ _ (fun d q => h _ q) q)) q) q) q
theorem chain_sem {k k' : K2} {r r' : R2} (hk : R2Ok X r k) (hk' : R2Ok X r' k') (ha : EV X a fa) (hb : EV X b fb) (hc : EV X c fc) {H0 : Hp} {π : Nat → Option V} {σ : L2.St} {H : Hp} {Q : VK} (h : semE X.K H0 π (dChain k k' fa fb fc) σ H Q) :
    tChain r r' (semE X.K H0 π fa) (semE X.K H0 π fb) (semE X.K H0 π fc) σ H Q := by
  obtain ⟨δ, ν, E, q⟩ := h
  refine ⟨δ, ν, E, ha.mono _ _ _ (fun x q v H1 M s1 o1 => ?_) q⟩
  refine ⟨δ, ν, E.same s1, hb.mono _ _ _ (fun y q w H2 N s2 o2 => ?_) q⟩
  refine hk.ok H2 v w x.d y.d M N _ _ (o1.rp.same s2) o2.rp q fun u H3 ⟨d, M', s3, r3, n3, f3, q3⟩ => ?_
  revert q3 r3
  cases d <;> first | exact fun _ => False.elim | skip
  rename_i t
  intro r3
  cases t with
  | false =>
    intro q3
    exact ⟨false, r3.bool_, q3 _ H3 [] ((s1.trans s2).trans s3) vok_bool⟩
  | true =>
    intro q3
    refine ⟨true, r3.bool_, ?_⟩
    rw [if_pos rfl]
    refine ⟨δ, ν, E.same ((s1.trans s2).trans s3), hc.mono _ _ _ (fun z q w2 H4 N4 s4 o4 => ?_) q3⟩
    refine hk'.ok H4 w w2 y.d z.d N N4 _ _ ((o2.rp.same s3).same s4) o4.rp q fun u5 H5 ⟨d5, M5, s5, r5, n5, f5, q5⟩ => ?_
    exact q5 u5 H5 M5 ((((s1.trans s2).trans s3).trans s4).trans s5) (FR.vok (((s1.trans s2).trans s3).trans s4) r5 n5 f5 E)
theorem ev_chain {op op' : CmpOp} {k k' : K2} {r r' : R2} (ho : OpR X (compareOp op) r) (hk : R2Ok X r k) (ho' : OpR X (compareOp op') r') (hk' : R2Ok X r' k') (ha : EV X a fa) (hb : EV X b fb) (hc : EV X c fc)
    (hm : lastMarks [op, op'] [b, c] = false := by with_unfolding_all rfl) : EV X (.Compare a [op, op'] [b, c] pos) (dChain k k' fa fb fc) :=
  ⟨chain_mono hk hk' ha hb hc, fun H0 π => pei (pe_chain ho ho' (ha.pe H0 π) (hb.pe H0 π) (hc.pe H0 π) hm) fun σ H Q h => chain_sem hk hk' ha hb hc h⟩
theorem et_chain {op op' : CmpOp} {k k' : K2} {r r' : R2} (ho : OpR X (compareOp op) r) (hk : R2Ok X r k) (ho' : OpR X (compareOp op') r') (hk' : R2Ok X r' k') (ha : EV X a fa) (hb : EV X b fb) (hc : EV X c fc)
    (hm : lastMarks [op, op'] [b, c] = false := by with_unfolding_all rfl) : ET X (.Compare a [op, op'] [b, c] pos) (dTst (dChain k k' fa fb fc)) :=
  ⟨tst_mono (chain_mono hk hk' ha hb hc), fun H0 π => pti (pt_chain ho ho' (ha.pe H0 π) (hb.pe H0 π) (hc.pe H0 π) hm) fun σ H Q h => chain_sem hk hk' ha hb hc (tst_sem (chain_mono hk hk' ha hb hc) h)⟩
/-- x.bit_length() -/
def kBits : K1 := fun d Q => match d with
  | .int i => Q (.int (Builtin.Int.intBits i : Nat))
  | _ => False
theorem ok_bits : R1Ok X (fun x H Q => ∃ i, x = .int i ∧ Q (.int (Builtin.Int.intBits i : Nat)) H) kBits := by
  refine ⟨fun d Q Q' h q => ?_, fun H x d N Q R r q h => ?_⟩
  · unfold kBits at *; split at q
    · exact h _ q
    · exact q.elim
  · unfold kBits at q; split at q
    · exact ⟨_, r.int_, h _ _ (FR.imm (.int _) rfl q)⟩
    · exact q.elim
theorem ev_bits {apos : Pos} (ha : EV X a fa) (hbase : attributeBase a "bit_length" X.env (eval a X.env) = eval a X.env := by rfl) (hline : (apos.endLine == pos.line) = true := by rfl) : EV X (.Call (.Attribute a "bit_length" apos) [] [] pos) (dUn kBits fa) :=
  ev_un1 ok_bits ha fun h => pe_bits h hbase hline
/-- a constant of the module -/
structure Glo (K : PySem.W.Frag) (mg : Str → Option Value) (x : Str) (d : D) : Prop where
  ex : ∃ (v : V) (u : Value), mg x = some u ∧ RelV v u ∧ ∀ H, Rp K H v d []
theorem ev_glob {x : Str} {d : D} (g : Glo X.K X.mg x d) (hg : Gl X x := by rfl) (hd : (x == ("__debug__" : Str)) = false := by decide) : EV X (.Name x pos) (dC d) := by
  refine ⟨fun _ _ _ h q => h _ q, fun H0 π => ?_⟩
  obtain ⟨v, u, hm, r, q⟩ := g.ex
  exact pei (pe_glob hg hm r hd) fun σ H Q ⟨δ, ν, _, h⟩ => h v H [] (Same.refl H) ⟨q H, fun _ => List.nodup_nil, fun _ _ h => (nomatch h), fun _ _ _ _ _ _ _ h => (nomatch h)⟩
theorem glo_int {K : PySem.W.Frag} {mg : Str → Option Value} {x : Str} {i : Int} {t : Nat} (h : mg x = some (.int i t)) : Glo K mg x (.int i) := ⟨.int i, _, h, ⟨_, rfl⟩, fun _ => .int i⟩
theorem glo_tup {K : PySem.W.Frag} {mg : Str → Option Value} {x : Str} {p : Addr} {o : Obj} {its : Array Value} {n : Nat} {ds : List D} {vs : List V} (h : mg x = some (.ref p)) (hl : K.lookup p = some o) (hc : o.cls = .type "tuple") (hd : o.data = .seq its n) (hz : its.size ≤ sizeLine) (hv : Vals vs its.toList)
    (r : ∀ H, Rps K H vs ds []) : Glo K mg x (.tuple ds) := ⟨.ref p, _, h, rfl, fun H => .tup (.inr ⟨o, its, n, hl, hc, hd, hz, hv⟩) (r H)⟩
end
section
variable {X : Cx} {a b c e : Expr} {fa fb fc f fi fj : DE} {pos : Pos} {st : Stmt}
/-- x.reverse(): a list without lists -/
def mRev (j : Nat) : DS := fun E δ => match ownL δ j with
  | some (ds, pn) => immL ds = true ∧ setK δ j (some ⟨.list ds.reverse, true, pn⟩) E.nx
  | none => False
theorem mRev_mono {j : Nat} : MonoS (mRev j) := fun A B δ h1 h2 q => by
  unfold mRev at *
  split at q
  · refine ⟨q.1, ?_⟩
    have q2 := q.2
    rw [setK_eq] at q2 ⊢
    exact h1 _ q2
  · exact q.elim
theorem Rps.rev0 {K : PySem.W.Frag} {H : Hp} : ∀ {vs : List V} {ds : List D}, Rps K H vs ds [] → Rps K H vs.reverse ds.reverse []
  | [], _, .nil => .nil
  | v :: vs, _, r => by
    generalize hN : ([] : List Addr) = N at r
    cases r with
    | cons r s =>
      have h := List.append_eq_nil_iff.mp hN.symm
      obtain ⟨rfl, rfl⟩ := h
      rw [List.reverse_cons, List.reverse_cons]
      simpa using (Rps.rev0 s).append (Rps.one r)
theorem sv_rev (j : Nat) {x : Str} {px pm pe : Pos} (hN : X.N[j]? = some x := by rfl) (hv : Vis X.env.scope x := by first | exact Or.inl rfl | exact Or.inr (Or.inl rfl) | exact Or.inr (Or.inr rfl)) (hd : (x == ("__debug__" : Str)) = false := by decide)
    (hcd : (x == ("__classdict__" : Str)) = false := by decide)
    (hs : swapsWith (.Call (.Attribute (.Name x px) "reverse" pm) [] [] pe) none pos.line X.env = pure false := by rfl)
    (hbm : ∀ {to : TE}, PE X (.Name x px) to → PE X (.Call (.Attribute (.Name x px) "reverse" pm) [] [] pe) (tBM0 X.K "list" rReverse to) := by
      intro _ h1; exact pe_bm0 PySem.F.plainAttrs_list PySem.F.slot_list_reverse PySem.F.type_list_reverse mt_reverse h1) :
    SV X (.Expr (.Call (.Attribute (.Name x px) "reverse" pm) [] [] pe) pos) (mRev j) := by
  refine ⟨mRev_mono, fun H0 π => psi (ps_expr (hbm (pe_var hN hv hd hcd)) hs) fun D σ H ⟨δ, ν, E, q⟩ => ?_⟩
  unfold mRev at q
  split at q
  · rename_i ds pn hj
    have hj := ownL_some hj
    obtain ⟨p, xs, N', hv, hn, hp, rs, nd, fr⟩ := own_list E hj
    obtain ⟨im, q⟩ := q
    have e0 := rs.imm im
    subst e0
    rw [setK_eq] at q
    refine ⟨_, hv, .inl ⟨rfl, _, SqL.of hp⟩, p, xs, rfl, rfl, hp, ?_⟩
    exact q _ _ _ (E.write hj rfl hv hn hp rs.rev0 nd (fun _ h => (nomatch h)) (fun _ h => (nomatch h)) fun _ _ _ _ _ _ _ h => (nomatch h))
  · exact q.elim
/-- a, b = x, y: two names of the def's own, values without lists -/
def mPar (i j : Nat) (fa fb : DE) : DS := fun E δ => fa δ fun x => fb δ fun y => (imm x.d = true ∧ imm y.d = true) ∧ setK δ i (some ⟨x.d, true, false⟩) fun δ' => setK δ' j (some ⟨y.d, true, false⟩) E.nx
theorem mPar_mono {i j : Nat} (ha : MonoE fa) (hb : MonoE fb) : MonoS (mPar i j fa fb) := fun A B δ h1 h2 q => ha _ _ _ (fun x q => hb _ _ _ (fun y q => ⟨q.1, by
  have q2 := q.2
  rw [setK_eq, setK_eq] at q2 ⊢
  exact h1 _ q2⟩) q) q
theorem sv_par (i j : Nat) {x y : Str} {px py pt : Pos} {kt k2 pt2} (hc : X.calm = true) (hN : X.N.Nodup) (ha : EV X a fa) (hb : EV X b fb) (hi : X.N[i]? = some x := by rfl) (hj : X.N[j]? = some y := by rfl) (hij : i ≠ j := by decide)
    (hx : X.env.scope.names.lookup x = some .local := by rfl) (hy : X.env.scope.names.lookup y = some .local := by rfl)
    (hs1 : starEach [a, b] X.env = (false, eval a X.env) :: starEach [b] X.env := by rfl) (hs2 : starEach [b] X.env = (false, eval b X.env) :: starEach [] X.env := by rfl)
    (hw : swappedStores [.Tuple [.Name x px, .Name y py] kt pt] (.Tuple [a, b] k2 pt2) X.env = pure (some [x, y]) := by rfl)
    (hs : swapsWithSole [.Tuple [.Name x px, .Name y py] kt pt] (.Tuple [a, b] k2 pt2) pos.line X.env = pure false := by rfl) :
    SV X (.Assign [.Tuple [.Name x px, .Name y py] kt pt] (.Tuple [a, b] k2 pt2) pos) (mPar i j fa fb) := by
  refine ⟨mPar_mono ha.mono hb.mono, fun H0 π => psi (ps_par hc hN hi hj hij hx hy (pa_cons (ha.pe H0 π) (pa_cons (hb.pe H0 π) pa_nil hs2) hs1) hw hs) fun D σ H ⟨δ, ν, E, q⟩ => ?_⟩
  refine ⟨δ, ν, E, ha.mono _ _ _ (fun x q v H1 M s1 o1 => ?_) q⟩
  refine ⟨δ, ν, E.same s1, hb.mono _ _ _ (fun y q w H2 N s2 o2 => ?_) q⟩
  obtain ⟨⟨i1, i2⟩, q⟩ := q
  rw [setK_eq, setK_eq] at q
  refine ⟨v, w, rfl, q _ _ _ ((EnvOk.set (E.same (s1.trans s2)) (FOk.imm (o1.rp.same s2) i1 true) i).set (FOk.imm o2.rp i2 true) j)⟩
/-- x[a][b] = e, e without lists -/
def mSetII (j : Nat) (fi fj fe : DE) : DS := fun E δ => match ownL δ j with
  | some (ds, pn) => fe δ fun x => fi δ fun y => (match y.d with
    | .int k => ∃ m es, (ixN ds.length k = some m ∧ ds[m]? = some (.list es)) ∧ fj δ fun z => (match z.d with
      | .int l => ∃ n, (imm x.d = true ∧ ixN es.length l = some n) ∧ setK δ j (some ⟨.list (ds.set m (.list (es.set n x.d))), true, pn⟩) E.nx
      | _ => False)
    | _ => False)
  | none => False
theorem mSetII_mono {j : Nat} {fe : DE} (hi : MonoE fi) (hj : MonoE fj) (he : MonoE fe) : MonoS (mSetII j fi fj fe) := fun A B δ h1 h2 q => by
  unfold mSetII at *
  split at q
  · refine he _ _ _ (fun x q => hi _ _ _ (fun y q => ?_) q) q
    split at q
    · obtain ⟨m, es, a, q⟩ := q
      refine ⟨m, es, a, hj _ _ _ (fun z q => ?_) q⟩
      split at q
      · obtain ⟨n, a2, q⟩ := q
        refine ⟨n, a2, ?_⟩
        rw [setK_eq] at q ⊢
        exact h1 _ q
      · exact q.elim
    · exact q.elim
  · exact q.elim
theorem sv_setII (j : Nat) {x : Str} {px ps ps2 : Pos} {a b e : Expr} {fe : DE} (hi : EV X a fi) (hs0 : PlainIx a) (hj0 : EV X b fj) (he : EV X e fe) (hN : X.N[j]? = some x := by rfl) (hv : Vis X.env.scope x := by first | exact Or.inl rfl | exact Or.inr (Or.inl rfl) | exact Or.inr (Or.inr rfl))
    (hd : (x == ("__debug__" : Str)) = false := by decide) (hcd : (x == ("__classdict__" : Str)) = false := by decide)
    (ha : ∀ v, assign (.Subscript (.Subscript (.Name x px) a ps2) b ps) X.env v = (do
      let ov ← holding [v] (eval (.Subscript (.Name x px) a ps2) X.env)
      let iv ← holding [v, ov] (eval b X.env)
      standAt ps
      holding [v, ov, iv] (setItem ov iv v)
      release [v, ov, iv] []) := by intro _; rfl)
    (hs : swapsWithSole [.Subscript (.Subscript (.Name x px) a ps2) b ps] e pos.line X.env = pure false := by rfl) (hw : swappedStores [.Subscript (.Subscript (.Name x px) a ps2) b ps] e X.env = pure none := by rfl)
    (h1 : (assignEach [.Subscript (.Subscript (.Name x px) a ps2) b ps] X.env).map (·.2) = [assign (.Subscript (.Subscript (.Name x px) a ps2) b ps) X.env] := by rfl) :
    SV X (.Assign [.Subscript (.Subscript (.Name x px) a ps2) b ps] e pos) (mSetII j fi fj fe) := by
  refine ⟨mSetII_mono hi.mono hj0.mono he.mono, fun H0 π => psi (ps_asg (he.pe H0 π) (pg_sub (pe_ix ix_seq (pe_var hN hv hd hcd) (hi.pe H0 π) hs0) (hj0.pe H0 π) set_list ha) hs hw h1) fun D σ H ⟨δ, ν, E, q⟩ => ?_⟩
  unfold mSetII at q
  split at q
  · rename_i ds pn hj
    have hj := ownL_some hj
    obtain ⟨p, xs, N', hv, hn, hp, rs, nd, fr⟩ := own_list E hj
    refine ⟨δ, ν, E, he.mono _ _ _ (fun y q w H1 M s1 o1 => ?_) q⟩
    refine ⟨_, hv, δ, ν, E.same s1, hi.mono _ _ _ (fun z q u H2 L s2 o2 => ?_) q⟩
    have rz := o2.rp
    revert q
    cases hz : z.d <;> first | exact False.elim | skip
    rename_i k
    rintro ⟨m, es, ⟨hm, hes⟩, q⟩
    rw [hz] at rz
    obtain ⟨v, A, M1, B, g1, g2, g3, g4⟩ := (rs.same (s1.trans s2)).get2 hes
    obtain ⟨a1, ys, M', rfl, rfl, ha1, rs'⟩ := g3.list_
    have hat : atI xs k = some (.ref a1) := by
      unfold atI
      rw [rs.length, hm]
      exact g1
    refine .inl ⟨p, xs, k, .ref a1, rfl, rz.int_, SqL.of ((s1.trans s2) _ _ hp), hat, δ, ν, E.same (s1.trans s2), hj0.mono _ _ _ (fun t q u3 H3 L3 s3 o3 => ?_) q⟩
    have rt := o3.rp
    revert q
    cases ht : t.d <;> first | exact False.elim | skip
    rename_i l
    rintro ⟨n, ⟨im, hl⟩, q⟩
    rw [ht] at rt
    rw [setK_eq] at q
    have s13 := (s1.trans s2).trans s3
    obtain ⟨v2, A2, M2, B2, k1, k2, k3, k4⟩ := (rs.same s13).get2 hes
    rw [g1] at k1
    cases k1
    obtain ⟨a2, ys2, M3, e1, rfl, ha2, rs2⟩ := k3.list_
    cases e1
    have e2 := s3 _ _ ha1
    rw [ha2] at e2
    cases e2
    have rw0 : Rp X.K H3 w y.d [] := by
      have r := (o1.rp.same s2).same s3
      rw [r.imm im] at r
      exact r
    have hnl : n < es.length := by
      unfold ixN at hl
      split at hl
      · split at hl
        · cases hl; omega
        · cases hl
      · split at hl
        · cases hl; omega
        · cases hl
    obtain ⟨A3, O3, B3, f1, f2⟩ := rs2.set rw0 hnl
    have nN : N'.Nodup := (List.nodup_cons.mp nd).2
    have aN : a1 ∈ N' := by rw [k2]; simp
    have pN : p ∉ N' := (List.nodup_cons.mp nd).1
    have nN2 := nN
    rw [k2, List.nodup_append, List.nodup_append] at nN2
    obtain ⟨⟨nA, nM, nAM⟩, nB, nAB⟩ := nN2
    have aA : a1 ∉ A2 := fun h => nAM a1 h a1 List.mem_cons_self rfl
    have aB : a1 ∉ B2 := fun h => nAB a1 (List.mem_append_right _ List.mem_cons_self) a1 h rfl
    have nM' := List.nodup_cons.mp nM
    have sub3 : (A3 ++ [] ++ B3).Sublist M3 := by
      rw [f1, List.append_nil]
      exact (List.sublist_append_left A3 O3).append (List.Sublist.refl B3)
    have r0 := Rps.upd (ys := ys.set n w) ha2 f2 fun h => nM'.1 (sub3.mem h)
    have r1 : Rp X.K (upd H3 a1 (.lst (ys.set n w))) (.ref a1) (.list (es.set n y.d)) (a1 :: (A3 ++ [] ++ B3)) := .lst upd_same r0
    have r2 := k4 a1 (ys.set n w) ys ha2 aA aB _ _ r1
    have hpa : p ≠ a1 := fun e => pN (by rw [e]; exact aN)
    have r3 : Rp X.K (upd H3 a1 (.lst (ys.set n w))) (.ref p) (.list (ds.set m (.list (es.set n y.d)))) (p :: (A2 ++ a1 :: (A3 ++ [] ++ B3) ++ B2)) :=
      .lst (by rw [upd_ne hpa]; exact s13 _ _ hp) r2
    have subN : (A2 ++ a1 :: (A3 ++ [] ++ B3) ++ B2).Sublist N' := by
      rw [k2]
      exact ((List.Sublist.refl A2).append (sub3.cons₂ a1)).append (List.Sublist.refl B2)
    have E1 := E.same s13
    refine ⟨a1, ys, l, n, rfl, rt.int_, ha2, by rw [rs2.length]; exact hl, q _ _ _ (E1.writeD (s := ⟨.list ds, true, pn⟩) hj rfl hv (by rw [hn]; exact List.mem_cons_of_mem _ aN) ha2 r3 ?_ ?_ ?_ ?_)⟩
    · exact List.nodup_cons.mpr ⟨fun h => pN (subN.mem h), nN.sublist subN⟩
    · intro b hb
      rcases List.mem_cons.mp hb with rfl | hb
      · exact (E.nd j _ hj rfl).2 b (by rw [hn]; exact List.mem_cons_self)
      · exact fr b (subN.mem hb)
    · intro b hb k' t' n' h
      rcases List.mem_cons.mp hb with rfl | hb
      · exact E1.dj j k' _ t' (Ne.symm n') hj rfl h b (by rw [hn]; exact List.mem_cons_self)
      · exact E1.dj j k' _ t' (Ne.symm n') hj rfl h b (by rw [hn]; exact List.mem_cons_of_mem _ (subN.mem hb))
    · intro k' t' n' h ow b hb hm
      rcases List.mem_cons.mp hm with rfl | hm
      · exact E1.dj k' j t' _ n' h ow hj b hb (by rw [hn]; exact List.mem_cons_self)
      · exact E1.dj k' j t' _ n' h ow hj b hb (by rw [hn]; exact List.mem_cons_of_mem _ (subN.mem hm))
  · exact q.elim
end
end KT
/-! KtN: x is True, xs[::-1]. -/
namespace KT
open PySem PySem.Spec PyProof.Rows L2
section
variable {X : Cx} {a b c e : Expr} {fa fb fc f fi fj : DE} {pos : Pos} {st : Stmt}
/-- is, is not, of two bools -/
def kIsB (neg : Bool) : K2 := fun d e Q => match d, e with
  | .bool a, .bool b => Q (.bool (ng neg (decide (a = b))))
  | _, _ => False
theorem ok_isB : R2Ok X (fun x y H Q => ∃ a b, x = .bl a ∧ y = .bl b ∧ Q (.bl (decide (a = b))) H) (kIsB false) := by
  refine ⟨fun d e Q Q' h q => ?_, fun H x y d e N M Q R r1 r2 q h => ?_⟩
  · unfold kIsB at *; split at q
    · exact h _ q
    · exact q.elim
  · unfold kIsB at q; split at q
    · exact ⟨_, _, r1.bool_, r2.bool_, h _ _ (FR.imm (.bl _) rfl q)⟩
    · exact q.elim
theorem ok_isnotB : R2Ok X (fun x y H Q => ∃ a b, x = .bl a ∧ y = .bl b ∧ Q (.bl (!decide (a = b))) H) (kIsB true) := by
  refine ⟨fun d e Q Q' h q => ?_, fun H x y d e N M Q R r1 r2 q h => ?_⟩
  · unfold kIsB at *; split at q
    · exact h _ q
    · exact q.elim
  · unfold kIsB at q; split at q
    · exact ⟨_, _, r1.bool_, r2.bool_, h _ _ (FR.imm (.bl _) rfl q)⟩
    · exact q.elim
/-- xs[::-1]: a list without lists -/
def kRevs : K1 := fun d Q => match d with
  | .list ds => immL ds = true ∧ Q (.list ds.reverse)
  | _ => False
theorem ok_revs : R1Ok X (fun x H Q => ∃ a xs, x = .ref a ∧ SqL X.K H a xs ∧ ∀ p, H p = none → Q (.ref p) (upd H p (.lst xs.reverse))) kRevs := by
  refine ⟨fun d Q Q' h q => ?_, fun H x d N Q R r q h => ?_⟩
  · unfold kRevs at *; split at q
    · exact ⟨q.1, h _ q.2⟩
    · exact q.elim
  · unfold kRevs at q; split at q
    · obtain ⟨im, q⟩ := q
      obtain ⟨a, xs, M, rfl, rfl, ha, s⟩ := r.list_
      have e0 := s.imm im
      subst e0
      exact ⟨a, xs, rfl, SqL.of ha, fun p hp => h _ _ (FR.newL hp s.rev0 (immL_of.mpr fun d hd => immL_of.mp im d (List.mem_reverse.mp hd)) q)⟩
    · exact q.elim
theorem ev_revs {k : Nat} {p1 p2 p3 : Pos} (ha : EV X a fa) : EV X (.Subscript a (.Slice none none (some (.UnaryOp .USub (.Constant (.int 1) k p1) p2)) p3) pos) (dUn kRevs fa) := ev_un1 ok_revs ha fun h => pe_revL h
end
end KT
/-! KtO: a list of fresh items put behind an own list. -/
namespace KT
open PySem PySem.Spec PyProof.Rows L2
section
variable {X : Cx} {a b e : Expr} {fa fb f : DE} {pos : Pos}
/-- xs + ys where ys is new with all its items -/
def dCatO (fa fb : DE) : DE := fun δ P => fa δ fun x => fb δ fun y => match x.d, y.d with
  | .list xs, .list ys => (xs.length + ys.length ≤ sizeLine ∧ y.own = true ∧ y.roots = []) ∧ P ⟨.list (xs ++ ys), x.own, x.roots⟩
  | _, _ => False
theorem ev_catO (ha : EV X a fa) (hb : EV X b fb) : EV X (.BinOp a .Add b pos) (dCatO fa fb) := by
  refine ⟨fun δ P P' h q => ha.mono _ _ _ (fun x q => hb.mono _ _ _ (fun y q => ?_) q) q, fun H0 π => pei (pe_op op_cat (ha.pe H0 π) (hb.pe H0 π)) fun σ H Q ⟨δ, ν, E, q⟩ => ?_⟩
  · split at q
    · exact ⟨q.1, h _ q.2⟩
    · exact q.elim
  · refine ⟨δ, ν, E, ha.mono _ _ _ (fun x q v H1 M s1 o1 => ?_) q⟩
    refine ⟨δ, ν, E.same s1, hb.mono _ _ _ (fun y q w H2 N s2 o2 => ?_) q⟩
    split at q
    · rename_i xs ys ex ey
      obtain ⟨⟨hz, hy, hr⟩, q⟩ := q
      have t0 := o1.rp.trk
      have r1 := o1.rp.same s2
      have r2 := o2.rp
      rw [ex] at r1
      rw [ey] at r2
      obtain ⟨p1, vs, A, rfl, eM, h1, t1⟩ := r1.list_
      obtain ⟨p2, ws, B, rfl, eN, h2, t2⟩ := r2.list_
      have nB := o2.nd hy
      have fB : ∀ z ∈ B, H1 z = none := fun z hz => by
        rcases o2.fr hy z (by rw [eN]; exact List.mem_cons_of_mem _ hz) with h | ⟨j, hj, _⟩
        · exact h
        · rw [hr] at hj
          exact nomatch hj
      refine ⟨p1, p2, vs, ws, rfl, rfl, h1, h2, by rw [t1.length, t2.length]; exact hz, fun p hp => ?_⟩
      have s3 : Same H2 (upd H2 p (.lst (vs ++ ws))) := Same.upd_new hp
      refine q _ _ (p :: (A ++ B)) ((s1.trans s2).trans s3) ⟨.lst upd_same ((t1.append t2).same s3), fun z => ?_, fun z c hc => ?_, fun j t hj ho hn c ha hm => ?_⟩
      · have nA := o1.nd z
        rw [eM] at nA
        rw [eN] at nB
        refine List.nodup_cons.mpr ⟨fun hm => ?_, List.nodup_append.mpr ⟨(List.nodup_cons.mp nA).2, (List.nodup_cons.mp nB).2, fun c hc c' hc' e => ?_⟩⟩
        · rcases List.mem_append.mp hm with hm | hm
          · exact t1.trk p hm hp
          · exact t2.trk p hm hp
        · subst e
          exact t0 c (by rw [eM]; exact List.mem_cons_of_mem _ hc) (fB c hc')
      · rcases List.mem_cons.mp hc with rfl | hc
        · exact .inl ((s1.trans s2).free hp)
        · rcases List.mem_append.mp hc with hc | hc
          · exact o1.fr z c (by rw [eM]; exact List.mem_cons_of_mem _ hc)
          · exact .inl (s1.free (fB c hc))
      · rcases List.mem_cons.mp hm with rfl | hm
        · exact ((E.same (s1.trans s2)).trk hj) _ ha hp
        · rcases List.mem_append.mp hm with hm | hm
          · exact o1.al j t hj ho hn c ha (by rw [eM]; exact List.mem_cons_of_mem _ hm)
          · exact (E.same s1).trk hj c ha (fB c hm)
    · exact q.elim
end
/-- % by a divisor of either sign -/
def ModN (_ j : Int) : Prop := j ≠ 0
def kModN : K2 := kII ModN fun i j => .int (i.fmod j)
theorem ok_modN {X : Cx} : R2Ok X (rI (fun _ j => j ≠ 0) fun i j => .int (i.fmod j)) kModN := ok_II (fun _ _ _ _ => .int _) fun _ _ => rfl
end KT
/-! KtP: tools for the plain laws: loops, comprehensions, items, over data. -/
namespace KT
open PySem PySem.Spec PyProof.Rows L2

theorem selB {b : Bool} {A B : Prop} (h1 : b = true → A) (h2 : b = false → B) : (match (generalizing := false) b with | true => A | false => B) := by
  cases b
  · exact h2 rfl
  · exact h1 rfl
theorem selD {p : Prop} [Decidable p] {A B : Prop} (h1 : p → A) (h2 : ¬ p → B) : (match (generalizing := false) decide p with | true => A | false => B) := by
  by_cases h : p
  · rw [decide_eq_true h]; exact h1 h
  · rw [decide_eq_false h]; exact h2 h

/-- two ways that meet again: e tells the names behind them -/
theorem selJ {c : Bool} {m1 m2 : DS} {N : En → Prop} {rt : Val → En → Prop} {δ : En} {α : Type} (e : α → En) (h : ∀ a, N (e a)) (h1 : c = true → ∀ N : En → Prop, (∀ a, N (e a)) → m1 ⟨N, rt⟩ δ) (h2 : c = false → ∀ N : En → Prop, (∀ a, N (e a)) → m2 ⟨N, rt⟩ δ) :
    (match (generalizing := false) c with | true => m1 ⟨N, rt⟩ δ | false => m2 ⟨N, rt⟩ δ) := by
  cases c
  · exact h2 rfl N h
  · exact h1 rfl N h
/-! ### data -/
def dI (xs : List Int) : D := .list (xs.map PyData.int)
def dL {α : Type} (enc : α → D) (xs : List α) : D := .list (xs.map enc)
theorem dI_eq (xs : List Int) : dI xs = dL PyData.int xs := rfl

/-! ### items -/
theorem atI_map {α β : Type} (f : α → β) {xs : List α} {k : Nat} (h : k < xs.length) : atI (xs.map f) ((k : Nat) : Int) = some (f xs[k]) :=
  atI_nat (by rw [List.getElem?_map, List.getElem?_eq_getElem h]; rfl)
theorem atI_mapI {α β : Type} (f : α → β) {xs : List α} {i : Int} (h0 : 0 ≤ i) (h : i < xs.length) : ∃ hk : i.toNat < xs.length, atI (xs.map f) i = some (f xs[i.toNat]) := by
  obtain ⟨k, rfl⟩ := Int.eq_ofNat_of_zero_le h0
  have hk : k < xs.length := by omega
  exact ⟨hk, atI_map f hk⟩
theorem ixN_nat {n : Nat} {i : Int} (h0 : 0 ≤ i) (h : i < n) : ixN n i = some i.toNat := by
  unfold ixN
  rw [if_pos h0, if_pos h]

/-! ### loops -/
theorem loopN_inv {body : Nat → (En → Prop) → En → Prop} (I : Nat → En → Prop) : ∀ (n i : Nat) (P : En → Prop) (δ : En), I i δ → (∀ k δ P, i ≤ k → k < i + n → I k δ → (∀ δ', I (k + 1) δ' → P δ') → body k P δ) → (∀ δ, I (i + n) δ → P δ) → loopN body n i P δ
  | 0, i, P, δ, h, _, e => e δ h
  | n + 1, i, P, δ, h, s, e => s i δ _ (Nat.le_refl _) (by omega) h fun δ' h' => loopN_inv I n (i + 1) P δ' h' (fun k δ P h1 h2 => s k δ P (by omega) (by omega)) (fun δ h => e δ (by rw [show i + (n + 1) = i + 1 + n by omega]; exact h))
/-- for over a range, the names as they stand at each turn (the wiped ones forgotten) -/
theorem forR_fun {tg : Tgt} {wl : List Nat} {m : DS} {E : DEnds} {lo : Int} {n : Nat} {F : En → Prop} {δ : En} (f : Nat → En) (h0 : killR δ wl = f 0)
    (hs : ∀ k, k < n → ∀ P : En → Prop, (∀ δ', killR δ' wl = f (k + 1) → P δ') → asgT tg (.int (lo + k)) true (f k) fun δ' => m ⟨P, E.rt⟩ δ') (hF : F (f n)) : LoopN (bodyR tg wl m E lo) n 0 (fun δ => F (killR δ wl)) δ := by
  refine LoopN_of (loopN_inv (fun k δ => killR δ wl = f k) n 0 _ δ h0 (fun k δ P _ hk e hP => ?_) fun δ e => ?_)
  · show asgT tg _ true (killR δ wl) _
    rw [e]
    exact hs k (by omega) P hP
  · rw [e, Nat.zero_add]; exact hF
/-- the same where only something is known of the names -/
theorem forR_inv {tg : Tgt} {wl : List Nat} {m : DS} {E : DEnds} {lo : Int} {n : Nat} {F : En → Prop} {δ : En} (I : Nat → En → Prop) (h0 : I 0 (killR δ wl))
    (hs : ∀ k, k < n → ∀ δ, I k δ → ∀ P : En → Prop, (∀ δ', I (k + 1) (killR δ' wl) → P δ') → asgT tg (.int (lo + k)) true δ fun δ' => m ⟨P, E.rt⟩ δ') (hF : ∀ δ, I n δ → F δ) : LoopN (bodyR tg wl m E lo) n 0 (fun δ => F (killR δ wl)) δ := by
  refine LoopN_of (loopN_inv (fun k δ => I k (killR δ wl)) n 0 _ δ h0 (fun k δ P _ hk e hP => hs k (by omega) _ e P hP) fun δ e => hF _ (by rw [Nat.zero_add] at e; exact e))
theorem loopL_inv {body : D → (En → Prop) → En → Prop} {α : Type} (enc : α → D) (I : List α → En → Prop) : ∀ (xs pre : List α) (P : En → Prop) (δ : En), I pre δ → (∀ p x q δ P, pre ++ xs = p ++ x :: q → I p δ → (∀ δ', I (p ++ [x]) δ' → P δ') → body (enc x) P δ) → (∀ δ, I (pre ++ xs) δ → P δ) →
    loopL body (xs.map enc) P δ
  | [], pre, P, δ, h, _, e => e δ (by simpa using h)
  | x :: xs, pre, P, δ, h, s, e => s pre x xs δ _ rfl h fun δ' h' => loopL_inv enc I xs (pre ++ [x]) P δ' h' (fun p y q δ P e1 => s p y q δ P (by rw [← e1]; simp)) (fun δ h => e δ (by simpa using h))
/-- for over a value's items: pre is what has been taken -/
theorem forV_inv {tg : Tgt} {wl : List Nat} {m : DS} {E : DEnds} {F : En → Prop} {δ : En} {α : Type} {enc : α → D} {xs : List α} (I : List α → En → Prop) (h0 : I [] (killR δ wl))
    (hs : ∀ p x q, xs = p ++ x :: q → ∀ δ, I p δ → ∀ P : En → Prop, (∀ δ', I (p ++ [x]) (killR δ' wl) → P δ') → asgT tg (enc x) (imm (enc x)) δ fun δ' => m ⟨P, E.rt⟩ δ') (hF : ∀ δ, I xs δ → F δ) : LoopL (bodyV tg wl m E) (xs.map enc) (fun δ => F (killR δ wl)) δ :=
  LoopL_of (loopL_inv enc (fun p δ => I p (killR δ wl)) xs [] _ δ h0 (fun p x q δ P e h hP => hs p x q e _ h P hP) fun δ h => hF _ h)
theorem forN_inv {tg : Tgt} {wl : List Nat} {m : DS} {E : DEnds} {F : En → Prop} {δ : En} {j : Nat} {s : Slot} {α : Type} {enc : α → D} {xs : List α} (I : List α → En → Prop) (h0 : I [] (killR δ wl)) (hj : wl.contains j = false) (hI : ∀ p δ, I p δ → δ[j]? = some (some s))
    (hs : ∀ p x q, xs = p ++ x :: q → ∀ δ, I p δ → ∀ P : En → Prop, (∀ δ', I (p ++ [x]) (killR δ' wl) → P δ') → asgT tg (enc x) (imm (enc x)) δ fun δ' => m ⟨P, E.rt⟩ δ') {pn : Bool} (hF : ∀ δ, I xs δ → F (unpin j pn δ)) :
    LoopL (bodyN j s tg wl m E) (xs.map enc) (fun δ => δ[j]? = some (some s) ∧ F (unpin j pn (killR δ wl))) δ :=
  LoopL_of (loopL_inv enc (fun p δ => I p (killR δ wl)) xs [] _ δ h0 (fun p x q δ P e h hP => ⟨by rw [← killR_at hj]; exact hI _ _ h, hs p x q e _ h P hP⟩) fun δ h => ⟨by rw [← killR_at hj]; exact hI _ _ h, hF _ h⟩)

/-! ### comprehensions -/
theorem lcL_inv {step : D → List D → (List D → Prop) → Prop} {α : Type} (enc : α → D) (g : α → List D) : ∀ (xs : List α) (acc : List D) (P : List D → Prop), acc.length + xs.length ≤ sizeLine → (∀ x, (g x).length ≤ 1) →
    (∀ x ∈ xs, ∀ acc K, acc.length < sizeLine → K (acc ++ g x) → step (enc x) acc K) → P (acc ++ xs.flatMap g) → lcL step (xs.map enc) acc P
  | [], acc, P, _, _, _, h => by
    show P acc
    simpa using h
  | x :: xs, acc, P, hl, hg, hs, h => by
    simp only [List.length_cons] at hl
    refine hs x List.mem_cons_self acc _ (by omega) (lcL_inv enc g xs (acc ++ g x) P ?_ hg (fun y hy => hs y (List.mem_cons_of_mem _ hy)) ?_)
    · have := hg x
      rw [List.length_append]
      omega
    · simpa [List.append_assoc] using h
theorem lc_map {step : D → List D → (List D → Prop) → Prop} {α : Type} {enc : α → D} {xs : List α} {P : List D → Prop} (f : α → D) (hl : xs.length ≤ sizeLine) (hs : ∀ x ∈ xs, ∀ acc K, acc.length < sizeLine → K (acc ++ [f x]) → step (enc x) acc K) (h : P (xs.map f)) :
    LcL step (xs.map enc) [] P :=
  LcL_of <| lcL_inv enc (fun x => [f x]) xs [] P (by simpa using hl) (fun _ => Nat.le_refl _) hs (by
    have e : ∀ xs : List α, (xs.flatMap fun x => [f x]) = xs.map f := fun xs => by
      induction xs with
      | nil => rfl
      | cons x xs ih => simp [List.flatMap_cons, ih]
    rw [List.nil_append, e]
    exact h)
theorem lc_filter {step : D → List D → (List D → Prop) → Prop} {α : Type} {enc : α → D} {xs : List α} {P : List D → Prop} (p : α → Bool) (f : α → D) (hl : xs.length ≤ sizeLine)
    (hs : ∀ x ∈ xs, ∀ acc K, acc.length < sizeLine → (p x = true → K (acc ++ [f x])) → (p x = false → K acc) → step (enc x) acc K) (h : P ((xs.filter p).map f)) : LcL step (xs.map enc) [] P :=
  LcL_of <| lcL_inv enc (fun x => if p x then [f x] else []) xs [] P (by simpa using hl) (fun x => by split <;> simp) (fun x hx acc K ha hK => hs x hx acc K ha (fun e => by rw [e] at hK; exact hK) (fun e => by rw [e] at hK; simpa using hK)) (by
    have e : ∀ xs : List α, (xs.flatMap fun x => if p x then [f x] else []) = (xs.filter p).map f := fun xs => by
      induction xs with
      | nil => rfl
      | cons x xs ih =>
        rw [List.flatMap_cons, ih, List.filter_cons]
        split <;> simp
    rw [List.nil_append, e]
    exact h)
theorem rgItems_eq (lo : Int) (n : Nat) : rgItems lo n = (List.range n).map fun (k : Nat) => PyData.int (lo + (k : Int)) := rfl

/-! ### equality of data -/
theorem eqv_ints : ∀ xs ys : List Int, PyData.eqvAll (xs.map PyData.int) (ys.map PyData.int) = decide (xs = ys)
  | [], [] => by simp [PyData.eqvAll]
  | [], _ :: _ => by simp [PyData.eqvAll]
  | _ :: _, [] => by simp [PyData.eqvAll]
  | x :: xs, y :: ys => by
    simp only [List.map_cons, PyData.eqvAll, PyData.eqv, eqv_ints xs ys, List.cons.injEq, Bool.decide_and]
    rw [show (x == y) = decide (x = y) from rfl]
theorem eqv_dI (xs ys : List Int) : PyData.eqv (dI xs) (dI ys) = decide (xs = ys) := by
  unfold dI
  simp only [PyData.eqv]
  exact eqv_ints xs ys
theorem canLay_ints : ∀ xs : List Int, PyData.canLayAll0 (xs.map PyData.int) = true
  | [] => rfl
  | x :: xs => by simp [PyData.canLayAll0, PyData.canLay0, canLay_ints xs]
/-- data of a small depth -/
def shp (n : Nat) (d : D) : Prop := d.canLay0 = true ∧ d.depth ≤ n
theorem shp.sh {n : Nat} {d : D} (h : shp n d) (hn : n ≤ 64 := by decide) : SeqAt.shaped d = true := by
  unfold SeqAt.shaped
  rw [h.1, Bool.true_and, decide_eq_true_eq]
  exact Nat.le_trans h.2 hn
theorem depthAll_le {n : Nat} : ∀ {ds : List D}, (∀ d ∈ ds, d.depth ≤ n) → PyData.depthAll ds ≤ n
  | [], _ => by simp [PyData.depthAll]
  | d :: ds, h => by
    simp only [PyData.depthAll]
    exact Nat.max_le.mpr ⟨h d List.mem_cons_self, depthAll_le fun e he => h e (List.mem_cons_of_mem _ he)⟩
theorem layAll_of : ∀ {ds : List D}, (∀ d ∈ ds, d.canLay0 = true) → PyData.canLayAll0 ds = true
  | [], _ => rfl
  | d :: ds, h => by
    simp only [PyData.canLayAll0, h d List.mem_cons_self, layAll_of fun e he => h e (List.mem_cons_of_mem _ he), Bool.and_self]
theorem shp_list {n : Nat} {ds : List D} (h : ∀ d ∈ ds, shp n d) : shp (n + 1) (.list ds) := by
  refine ⟨?_, ?_⟩
  · simp only [PyData.canLay0]
    exact layAll_of fun d hd => (h d hd).1
  · simp only [PyData.depth]
    have := depthAll_le (n := n) fun d hd => (h d hd).2
    omega
theorem shp_tuple {n : Nat} {ds : List D} (h : ∀ d ∈ ds, shp n d) : shp (n + 1) (.tuple ds) := by
  refine ⟨?_, ?_⟩
  · simp only [PyData.canLay0]
    exact layAll_of fun d hd => (h d hd).1
  · simp only [PyData.depth]
    have := depthAll_le (n := n) fun d hd => (h d hd).2
    omega
theorem shp_int (i : Int) : shp 1 (.int i) := ⟨rfl, by simp [PyData.depth]⟩
theorem shp_bool (i : Bool) : shp 1 (.bool i) := ⟨rfl, by simp [PyData.depth]⟩
theorem shp_none : shp 1 .none := ⟨rfl, by simp [PyData.depth]⟩
theorem shp.up {n m : Nat} {d : D} (h : shp n d) (hm : n ≤ m := by decide) : shp m d := ⟨h.1, Nat.le_trans h.2 hm⟩
theorem shp_dI (xs : List Int) : shp 2 (dI xs) := shp_list fun d hd => by
  obtain ⟨x, _, rfl⟩ := List.mem_map.mp hd
  exact shp_int x
/-- equality of data by a typed reading -/
def EqEnc {α : Type} [DecidableEq α] (enc : α → D) : Prop := ∀ x y : α, PyData.eqv (enc x) (enc y) = decide (x = y)
theorem eqv_all {α : Type} [DecidableEq α] {enc : α → D} (h : EqEnc enc) : ∀ xs ys : List α, PyData.eqvAll (xs.map enc) (ys.map enc) = decide (xs = ys)
  | [], [] => by simp [PyData.eqvAll]
  | [], _ :: _ => by simp [PyData.eqvAll]
  | _ :: _, [] => by simp [PyData.eqvAll]
  | x :: xs, y :: ys => by simp only [List.map_cons, PyData.eqvAll, h x y, eqv_all h xs ys, List.cons.injEq, Bool.decide_and]
theorem eqv_dL {α : Type} [DecidableEq α] {enc : α → D} (h : EqEnc enc) (xs ys : List α) : PyData.eqv (dL enc xs) (dL enc ys) = decide (xs = ys) := by
  unfold dL
  simp only [PyData.eqv]
  exact eqv_all h xs ys
theorem eqEnc_dI : EqEnc dI := eqv_dI
theorem eqEnc_int : EqEnc PyData.int := fun x y => rfl
theorem eqEnc_dL {α : Type} [DecidableEq α] {enc : α → D} (h : EqEnc enc) : EqEnc (dL enc) := eqv_dL h
theorem kEq_list {xs ys : List D} {Q : D → Prop} {n : Nat} (h1 : shp n (.list xs)) (h2 : shp n (.list ys)) (q : Q (.bool (PyData.eqv (.list xs) (.list ys)))) (hn : n ≤ 64 := by decide) : kEqB false (.list xs) (.list ys) Q := ⟨⟨h1.sh hn, h2.sh hn⟩, q⟩
theorem kNe_list {xs ys : List D} {Q : D → Prop} {n : Nat} (h1 : shp n (.list xs)) (h2 : shp n (.list ys)) (q : Q (.bool (!PyData.eqv (.list xs) (.list ys)))) (hn : n ≤ 64 := by decide) : kEqB true (.list xs) (.list ys) Q := ⟨⟨h1.sh hn, h2.sh hn⟩, q⟩
theorem cutD_to {α : Type} (f : α → D) (xs : List α) (k : Nat) : cutD (xs.map f) none (some (k : Int)) = (xs.take k).map f := by
  unfold cutD
  rw [HT.sIx_none, HT.sIx_nat, List.drop_zero, Nat.sub_zero, List.length_map, ← List.map_take]
  congr 1
  by_cases h : k ≤ xs.length
  · rw [Nat.min_eq_left h]
  · rw [Nat.min_eq_right (by omega), List.take_of_length_le (Nat.le_refl _), List.take_of_length_le (by omega)]
theorem cutD_from {α : Type} (f : α → D) (xs : List α) (k : Nat) : cutD (xs.map f) (some (k : Int)) none = (xs.drop k).map f := by
  unfold cutD
  rw [HT.sIx_none, HT.sIx_nat, List.length_map, ← List.map_drop, ← List.map_take]
  congr 1
  by_cases h : k ≤ xs.length
  · rw [Nat.min_eq_left h, List.take_of_length_le (by simp)]
  · rw [Nat.min_eq_right (by omega), List.drop_of_length_le (Nat.le_refl _), List.drop_of_length_le (by omega)]
    simp
theorem mul_r {i j : Int} (h : -(2 ^ 64) < j ∧ j < 2 ^ 64) : MulOk i j := .inl (.inr h)
theorem mul_l {i j : Int} (h : -(2 ^ 64) < i ∧ i < 2 ^ 64) : MulOk i j := .inl (.inl h)
theorem log2_lt {n : Nat} {k : Nat} (h : n < 2 ^ k) (hk : 0 < k) : n.log2 < k := by
  by_cases h0 : n = 0
  · subst h0
    rw [Nat.log2_zero]
    exact hk
  · exact (Nat.log2_lt h0).mpr h
theorem div_ok {i j : Int} (h : 0 < j) (hj : j < 2 ^ 8000) : DivOk i j := ⟨h, Nat.lt_of_lt_of_le (log2_lt (n := j.natAbs) (k := 8000) (by
  have e : ((2 : Int) ^ 8000) = (((2 : Nat) ^ 8000 : Nat) : Int) := by rw [Int.natCast_pow]; rfl
  omega) (by decide)) (by decide)⟩
theorem div_small {i j : Int} (h : 0 < j) (hj : j < 2 ^ 64) : DivOk i j := ⟨h, Nat.lt_of_lt_of_le (log2_lt (n := j.natAbs) (k := 64) (by omega) (by decide)) (by decide)⟩
theorem pow_ok {i j : Int} (h0 : 0 ≤ j) (h1 : j ≤ 1000000) (h2 : i.natAbs < 2 ^ 64) : PowOk i j := ⟨h0, h1, h2⟩
theorem mod_pos {i j : Int} (h : 0 < j) : ModOk i j := h
theorem line_big : 100000 ≤ sizeLine := by rw [sizeLine_eq]; decide
abbrev sI (i : Int) : Option Slot := some ⟨.int i, true, false⟩
abbrev pI (i : Int) : Option Slot := some ⟨.int i, false, true⟩
abbrev pL (xs : List Int) : Option Slot := some ⟨dI xs, false, true⟩
abbrev sL (xs : List Int) : Option Slot := some ⟨dI xs, true, false⟩
/-! ### typed data of the laws -/
def oD : Option Int → D
  | none => .none
  | some i => .int i
structure Dm where
  low : Int
  high : Int
  least : Option Int
  most : Option Int
  deriving DecidableEq
def dDm (x : Dm) : D := .tuple [.int x.low, .int x.high, oD x.least, oD x.most]
@[simp] theorem imm_oD (o : Option Int) : imm (oD o) = true := by cases o <;> rfl
@[simp] theorem imm_dDm (x : Dm) : imm (dDm x) = true := by
  simp [dDm, imm, immL, imm_oD]
theorem immL_map {α : Type} {enc : α → D} (h : ∀ x, imm (enc x) = true) (xs : List α) : immL (xs.map enc) = true := immL_of.mpr fun d hd => by
  obtain ⟨x, _, rfl⟩ := List.mem_map.mp hd
  exact h x
theorem eqv_oD : EqEnc oD := fun x y => by
  cases x <;> cases y <;> simp [oD, PyData.eqv]
  rfl
theorem eqv_dDm : EqEnc dDm := fun x y => by
  obtain ⟨a, b, c, d⟩ := x
  obtain ⟨a', b', c', d'⟩ := y
  simp only [dDm, PyData.eqv, PyData.eqvAll, eqv_oD c c', eqv_oD d d', Dm.mk.injEq, Bool.decide_and, Bool.and_true]
  rfl
theorem shp_oD (o : Option Int) : shp 1 (oD o) := by
  cases o
  · exact shp_none
  · exact shp_int _
theorem shp_dDm (x : Dm) : shp 2 (dDm x) := shp_tuple fun d hd => by
  simp only [List.mem_cons, List.not_mem_nil, or_false] at hd
  rcases hd with rfl | rfl | rfl | rfl
  · exact shp_int _
  · exact shp_int _
  · exact shp_oD _
  · exact shp_oD _
theorem shp_dL {α : Type} {enc : α → D} {n : Nat} (h : ∀ x, shp n (enc x)) (xs : List α) : shp (n + 1) (dL enc xs) := shp_list fun d hd => by
  obtain ⟨x, _, rfl⟩ := List.mem_map.mp hd
  exact h x
/-- the item at a place -/
def at' (xs : List Int) (i : Int) : Int := xs.getD i.toNat 0
theorem atI_at {xs : List Int} {i : Int} (h0 : 0 ≤ i) (h : i < xs.length) : atI (xs.map PyData.int) i = some (.int (at' xs i)) := by
  obtain ⟨hk, e⟩ := atI_mapI PyData.int h0 h
  rw [e]
  simp [at', List.getD_eq_getElem?_getD, List.getElem?_eq_getElem hk]
theorem at'_nat {xs : List Int} {k : Nat} (h : k < xs.length) : at' xs k = xs[k] := by
  simp [at', List.getD_eq_getElem?_getD, List.getElem?_eq_getElem h]
theorem call_eq {w : W} {ds : List D} {Q : D → Prop} {r : D} (h : w ds (· = r)) (q : Q r) : ∃ Qd, w ds Qd ∧ ∀ d, Qd d → Q d := ⟨_, h, fun d e => e ▸ q⟩
theorem call_ex {w : W} {ds : List D} {Q Qd : D → Prop} (h : w ds Qd) (q : ∀ d, Qd d → Q d) : ∃ Qd, w ds Qd ∧ ∀ d, Qd d → Q d := ⟨_, h, q⟩
theorem dI_map {α : Type} (f : α → Int) (xs : List α) : PyData.list (xs.map fun x => PyData.int (f x)) = dI (xs.map f) := by
  simp [dI, List.map_map, Function.comp_def]
theorem dL_map {α β : Type} (enc : β → D) (f : α → β) (xs : List α) : PyData.list (xs.map fun x => enc (f x)) = dL enc (xs.map f) := by
  simp [dL, List.map_map, Function.comp_def]
theorem dI_app (xs : List Int) (a : Int) : PyData.list (List.map PyData.int xs ++ [PyData.int a]) = dI (xs ++ [a]) := by simp [dI]
theorem dL_app {α : Type} (enc : α → D) (xs : List α) (x : α) : PyData.list (List.map enc xs ++ [enc x]) = dL enc (xs ++ [x]) := by simp [dL]
/-- a list of draws -/
def Drawn (xs : List Int) : Prop := ∀ x ∈ xs, 0 ≤ x ∧ x < 1000003
theorem Drawn.app {xs : List Int} (h : Drawn xs) (a : Int) : Drawn (xs ++ [a % 1000003]) := fun x hx => by
  rcases List.mem_append.mp hx with hx | hx
  · exact h x hx
  · rw [List.mem_singleton.mp hx]
    exact ⟨Int.emod_nonneg _ (by decide), Int.emod_lt_of_pos _ (by decide)⟩
theorem Drawn.at' {xs : List Int} (h : Drawn xs) (i : Int) : 0 ≤ KT.at' xs i ∧ KT.at' xs i < 1000003 := by
  unfold KT.at'
  rw [List.getD_eq_getElem?_getD]
  cases e : xs[i.toNat]? with
  | none => exact ⟨Int.le_refl 0, by decide⟩
  | some v => exact h v (List.mem_of_getElem? e)
theorem at'_map {f : Int → Int} {xs : List Int} {i : Int} (h0 : 0 ≤ i) (h : i < xs.length) : at' (xs.map f) i = f (at' xs i) := by
  obtain ⟨k, rfl⟩ := Int.eq_ofNat_of_zero_le h0
  have hk : k < xs.length := by omega
  rw [at'_nat (by simpa using hk), at'_nat hk, List.getElem_map]
theorem at'_range {f : Nat → Int} {n : Nat} {i : Int} (h0 : 0 ≤ i) (h : i < n) : at' ((List.range n).map f) i = f i.toNat := by
  obtain ⟨k, rfl⟩ := Int.eq_ofNat_of_zero_le h0
  have hk : k < n := by omega
  rw [at'_nat (by simpa using hk)]
  simp
theorem eqv_self {n : Nat} {d : D} (h : shp n d) : PyData.eqv d d = true := PySem.SeqAt.eqv_refl d h.1
/-- a list or tuple compared with itself -/
theorem eq_self {n : Nat} {d : D} {Q : D → Prop} (h : shp n d) (q : Q (.bool true)) (hn : n ≤ 64 := by decide) : (SeqAt.shaped d = true ∧ SeqAt.shaped d = true) ∧ Q (.bool (ng false (PyData.eqv d d))) := by
  rw [eqv_self h]
  exact ⟨⟨h.sh hn, h.sh hn⟩, q⟩
theorem ne_self {n : Nat} {d : D} {Q : D → Prop} (h : shp n d) (q : Q (.bool false)) (hn : n ≤ 64 := by decide) : (SeqAt.shaped d = true ∧ SeqAt.shaped d = true) ∧ Q (.bool (ng true (PyData.eqv d d))) := by
  rw [eqv_self h]
  exact ⟨⟨h.sh hn, h.sh hn⟩, q⟩
/-- a comprehension that gives ints, data -/
theorem map_int {α : Type} (f : α → Int) (xs : List α) : (xs.map fun x => PyData.int (f x)) = (xs.map f).map PyData.int := by
  rw [List.map_map]; rfl
theorem map_enc {α β : Type} (enc : β → D) (f : α → β) (xs : List α) : (xs.map fun x => enc (f x)) = (xs.map f).map enc := by
  rw [List.map_map]; rfl
theorem lc_mapI {step : D → List D → (List D → Prop) → Prop} {α : Type} {enc : α → D} {xs : List α} {P : List D → Prop} (f : α → Int) (ys : List Int) (hl : xs.length ≤ sizeLine) (hs : ∀ x ∈ xs, ∀ acc K, acc.length < sizeLine → K (acc ++ [PyData.int (f x)]) → step (enc x) acc K)
    (e : xs.map f = ys) (h : P (ys.map PyData.int)) : LcL step (xs.map enc) [] P :=
  lc_map (fun x => PyData.int (f x)) hl hs (by rw [map_int, e]; exact h)
theorem lc_mapL {step : D → List D → (List D → Prop) → Prop} {α β : Type} {enc : α → D} {xs : List α} {P : List D → Prop} (enc2 : β → D) (f : α → β) (ys : List β) (hl : xs.length ≤ sizeLine) (hs : ∀ x ∈ xs, ∀ acc K, acc.length < sizeLine → K (acc ++ [enc2 (f x)]) → step (enc x) acc K)
    (e : xs.map f = ys) (h : P (ys.map enc2)) : LcL step (xs.map enc) [] P :=
  lc_map (fun x => enc2 (f x)) hl hs (by rw [map_enc, e]; exact h)
theorem lc_filterL {step : D → List D → (List D → Prop) → Prop} {α β : Type} {enc : α → D} {xs : List α} {P : List D → Prop} (enc2 : β → D) (p : α → Bool) (f : α → β) (ys : List β) (hl : xs.length ≤ sizeLine)
    (hs : ∀ x ∈ xs, ∀ acc K, acc.length < sizeLine → (p x = true → K (acc ++ [enc2 (f x)])) → (p x = false → K acc) → step (enc x) acc K) (e : (xs.filter p).map f = ys) (h : P (ys.map enc2)) : LcL step (xs.map enc) [] P :=
  lc_filter p (fun x => enc2 (f x)) hl hs (by rw [map_enc, e]; exact h)
/-- over a range -/
theorem lc_rgI {step : D → List D → (List D → Prop) → Prop} {lo : Int} {n : Nat} {P : List D → Prop} (f : Nat → Int) (ys : List Int) (hl : n ≤ sizeLine) (hs : ∀ k, k < n → ∀ acc K, acc.length < sizeLine → K (acc ++ [PyData.int (f k)]) → step (.int (lo + (k : Int))) acc K)
    (e : (List.range n).map f = ys) (h : P (ys.map PyData.int)) : LcL step (rgItems lo n) [] P := by
  rw [rgItems_eq]
  exact lc_mapI f ys (by simpa using hl) (fun k hk => hs k (by simpa using hk)) e h
theorem lc_rgL {step : D → List D → (List D → Prop) → Prop} {lo : Int} {n : Nat} {β : Type} {P : List D → Prop} (enc2 : β → D) (f : Nat → β) (ys : List β) (hl : n ≤ sizeLine) (hs : ∀ k, k < n → ∀ acc K, acc.length < sizeLine → K (acc ++ [enc2 (f k)]) → step (.int (lo + (k : Int))) acc K)
    (e : (List.range n).map f = ys) (h : P (ys.map enc2)) : LcL step (rgItems lo n) [] P := by
  rw [rgItems_eq]
  exact lc_mapL enc2 f ys (by simpa using hl) (fun k hk => hs k (by simpa using hk)) e h
/-- tests of a thing with itself; data that are the same by reading -/
theorem ne_m {n : Nat} {d e : D} {A B : Prop} (h : shp n d) (he : e = d) (q : B) (hn : n ≤ 64 := by decide) : (SeqAt.shaped d = true ∧ SeqAt.shaped e = true) ∧ (match (generalizing := false) ng true (PyData.eqv d e) with | true => A | false => B) := by
  subst he
  rw [eqv_self h]
  exact ⟨⟨h.sh hn, h.sh hn⟩, q⟩
theorem eq_m {n : Nat} {d e : D} {A B : Prop} (h : shp n d) (he : e = d) (q : A) (hn : n ≤ 64 := by decide) : (SeqAt.shaped d = true ∧ SeqAt.shaped e = true) ∧ (match (generalizing := false) ng false (PyData.eqv d e) with | true => A | false => B) := by
  subst he
  rw [eqv_self h]
  exact ⟨⟨h.sh hn, h.sh hn⟩, q⟩
/-! ### greatest and least of a list -/
def mx : List Int → Int
  | [] => 0
  | x :: xs => match xs with
    | [] => x
    | _ :: _ => max x (mx xs)
def mn : List Int → Int
  | [] => 0
  | x :: xs => match xs with
    | [] => x
    | _ :: _ => min x (mn xs)
theorem mx_spec : ∀ xs : List Int, 0 < xs.length → mx xs ∈ xs ∧ ∀ y ∈ xs, y ≤ mx xs
  | [], h => absurd h (by simp)
  | [x], _ => ⟨by simp [mx], fun y hy => by simp at hy; subst hy; simp [mx]⟩
  | x :: z :: xs, _ => by
    have ih := mx_spec (z :: xs) (by simp)
    have e : mx (x :: z :: xs) = max x (mx (z :: xs)) := rfl
    rw [e]
    refine ⟨?_, fun y hy => ?_⟩
    · by_cases h : x ≤ mx (z :: xs)
      · rw [Int.max_eq_right h]; exact List.mem_cons_of_mem _ ih.1
      · rw [Int.max_eq_left (by omega)]; exact List.mem_cons_self
    · rcases List.mem_cons.mp hy with rfl | hy
      · omega
      · have := ih.2 y hy; omega
theorem mn_spec : ∀ xs : List Int, 0 < xs.length → mn xs ∈ xs ∧ ∀ y ∈ xs, mn xs ≤ y
  | [], h => absurd h (by simp)
  | [x], _ => ⟨by simp [mn], fun y hy => by simp at hy; subst hy; simp [mn]⟩
  | x :: z :: xs, _ => by
    have ih := mn_spec (z :: xs) (by simp)
    have e : mn (x :: z :: xs) = min x (mn (z :: xs)) := rfl
    rw [e]
    refine ⟨?_, fun y hy => ?_⟩
    · by_cases h : x ≤ mn (z :: xs)
      · rw [Int.min_eq_left h]; exact List.mem_cons_self
      · rw [Int.min_eq_right (by omega)]; exact List.mem_cons_of_mem _ ih.1
    · rcases List.mem_cons.mp hy with rfl | hy
      · omega
      · have := ih.2 y hy; omega
theorem kmx {xs : List Int} {A : Int → Prop} (h : 0 < xs.length) (q : A (mx xs)) : ∃ ns : List Int, (xs.map PyData.int = ns.map PyData.int ∧ 0 < ns.length) ∧ ∀ m, m ∈ ns → (∀ y, y ∈ ns → y ≤ m) → A m :=
  ⟨xs, ⟨rfl, h⟩, fun m hm hy => by
    have a := (mx_spec xs h).2 m hm
    have b := hy _ (mx_spec xs h).1
    rw [show m = mx xs by omega]
    exact q⟩
theorem kmn {xs : List Int} {A : Int → Prop} (h : 0 < xs.length) (q : A (mn xs)) : ∃ ns : List Int, (xs.map PyData.int = ns.map PyData.int ∧ 0 < ns.length) ∧ ∀ m, m ∈ ns → (∀ y, y ∈ ns → m ≤ y) → A m :=
  ⟨xs, ⟨rfl, h⟩, fun m hm hy => by
    have a := (mn_spec xs h).2 m hm
    have b := hy _ (mn_spec xs h).1
    rw [show m = mn xs by omega]
    exact q⟩
/-- a list of one number, times -/
theorem rep_ints (v : Int) : ∀ n : Nat, (List.replicate n [PyData.int v]).flatten = (List.replicate n v).map PyData.int
  | 0 => rfl
  | n + 1 => by
    rw [List.replicate_succ, List.flatten_cons, rep_ints v n, List.replicate_succ, List.map_cons]
    rfl
theorem same_len {α : Type} {xs ys : List α} (h : xs = ys) : xs.length = ys.length := by rw [h]
theorem dI_set (xs : List Int) (k : Nat) (v : Int) : PyData.list ((xs.map PyData.int).set k (.int v)) = dI (xs.set k v) := by
  unfold dI
  rw [List.map_set]
theorem atI_set {ys : List Int} {m : Nat} {v i : Int} (h0 : 0 ≤ i) (h : i < ys.length) : atI ((ys.map PyData.int).set m (.int v)) i = some (.int (at' (ys.set m v) i)) := by
  rw [show (ys.map PyData.int).set m (.int v) = (ys.set m v).map PyData.int from (List.map_set ..).symm]
  exact atI_at h0 (by simpa using h)
theorem dI_set2 (xs : List Int) (k l : Nat) (v w : Int) : PyData.list (((xs.map PyData.int).set k (.int v)).set l (.int w)) = dI ((xs.set k v).set l w) := by
  unfold dI
  rw [List.map_set, List.map_set]
/-- an item of the names, by another reading -/
theorem env_eq {d e : D} {F : D → En} {N : En → Prop} (h : d = e) (q : N (F e)) : N (F d) := h ▸ q
/-! ### loops and meeting ways, told by the names that change alone -/
def setSl : En → List Nat → List (Option Slot) → En
  | δ, j :: js, s :: ss => setSl (δ.set j s) js ss
  | δ, [], _ => δ
  | δ, _ :: _, [] => δ
def setSlK : En → List Nat → List (Option Slot) → (En → Prop) → Prop
  | δ, j :: js, s :: ss, P => setK δ j s fun δ' => setSlK δ' js ss P
  | δ, [], _, P => P δ
  | δ, _ :: _, [], P => P δ
theorem setSlK_eq : ∀ (js : List Nat) (ss : List (Option Slot)) (δ : En) (P : En → Prop), setSlK δ js ss P = P (setSl δ js ss)
  | [], _, _, _ => by simp only [setSlK, setSl]
  | _ :: _, [], _, _ => by simp only [setSlK, setSl]
  | j :: js, s :: ss, δ, P => by
    show setK δ j s (fun δ' => setSlK δ' js ss P) = P (setSl (δ.set j s) js ss)
    rw [setK_eq, setSlK_eq js ss]
theorem forR_st {tg : Tgt} {wl : List Nat} {m : DS} {E : DEnds} {lo : Int} {n : Nat} {F : En → Prop} {δ : En} {α : Type} (js : List Nat) (f : α → List (Option Slot)) (I : Nat → α → Prop) (a0 : α) (hI : I 0 a0) (h0 : killR δ wl = setSl (killR δ wl) js (f a0))
    (hs : ∀ k, k < n → ∀ a, I k a → ∀ P : En → Prop, (∀ a' δ', I (k + 1) a' → killR δ' wl = setSl (killR δ wl) js (f a') → P δ') → killK δ wl fun δ0 => setSlK δ0 js (f a) fun δ1 => asgT tg (.int (lo + k)) true δ1 fun δ' => m ⟨P, E.rt⟩ δ')
    (hF : ∀ a, I n a → killK δ wl fun δ0 => setSlK δ0 js (f a) F) : LoopN (bodyR tg wl m E lo) n 0 (fun δ => F (killR δ wl)) δ := by
  refine forR_inv (fun k δ' => ∃ a, I k a ∧ δ' = setSl (killR δ wl) js (f a)) ⟨a0, hI, h0⟩ (fun k hk δ' ⟨a, ha, e⟩ P hP => ?_) (fun δ' ⟨a, ha, e⟩ => ?_)
  · have q := hs k hk a ha P fun a' δ'' h1 h2 => hP δ'' ⟨a', h1, h2⟩
    rw [killK_eq, setSlK_eq] at q
    rw [e]
    exact q
  · have q := hF a ha
    rw [killK_eq, setSlK_eq] at q
    rw [e]
    exact q
theorem forR_same {tg : Tgt} {wl : List Nat} {m : DS} {E : DEnds} {lo : Int} {n : Nat} {F : En → Prop} {δ : En}
    (hs : ∀ k, k < n → ∀ P : En → Prop, (∀ δ', killR δ' wl = killR δ wl → P δ') → killK δ wl fun δ1 => asgT tg (.int (lo + k)) true δ1 fun δ' => m ⟨P, E.rt⟩ δ')
    (hF : killK δ wl F) : LoopN (bodyR tg wl m E lo) n 0 (fun δ => F (killR δ wl)) δ := by
  refine forR_inv (fun k δ' => δ' = killR δ wl) rfl (fun k hk δ' e P hP => ?_) (fun δ' e => ?_)
  · have q := hs k hk P fun δ'' h2 => hP δ'' h2
    rw [killK_eq] at q
    rw [e]
    exact q
  · rw [killK_eq] at hF
    rw [e]
    exact hF
theorem forV_st {tg : Tgt} {wl : List Nat} {m : DS} {E : DEnds} {F : En → Prop} {δ : En} {β : Type} {enc : β → D} {xs : List β} {α : Type} (js : List Nat) (f : α → List (Option Slot)) (I : List β → α → Prop) (a0 : α) (hI : I [] a0) (h0 : killR δ wl = setSl (killR δ wl) js (f a0))
    (hs : ∀ p x q, xs = p ++ x :: q → ∀ a, I p a → ∀ P : En → Prop, (∀ a' δ', I (p ++ [x]) a' → killR δ' wl = setSl (killR δ wl) js (f a') → P δ') → killK δ wl fun δ0 => setSlK δ0 js (f a) fun δ1 => asgT tg (enc x) (imm (enc x)) δ1 fun δ' => m ⟨P, E.rt⟩ δ')
    (hF : ∀ a, I xs a → killK δ wl fun δ0 => setSlK δ0 js (f a) F) : LoopL (bodyV tg wl m E) (xs.map enc) (fun δ => F (killR δ wl)) δ := by
  refine forV_inv (fun p δ' => ∃ a, I p a ∧ δ' = setSl (killR δ wl) js (f a)) ⟨a0, hI, h0⟩ (fun p x q ex δ' ⟨a, ha, e⟩ P hP => ?_) (fun δ' ⟨a, ha, e⟩ => ?_)
  · have q := hs p x q ex a ha P fun a' δ'' h1 h2 => hP δ'' ⟨a', h1, h2⟩
    rw [killK_eq, setSlK_eq] at q
    rw [e]
    exact q
  · have q := hF a ha
    rw [killK_eq, setSlK_eq] at q
    rw [e]
    exact q
theorem forV_same {tg : Tgt} {wl : List Nat} {m : DS} {E : DEnds} {F : En → Prop} {δ : En} {β : Type} {enc : β → D} {xs : List β}
    (hs : ∀ p x q, xs = p ++ x :: q → ∀ P : En → Prop, (∀ δ', killR δ' wl = killR δ wl → P δ') → killK δ wl fun δ1 => asgT tg (enc x) (imm (enc x)) δ1 fun δ' => m ⟨P, E.rt⟩ δ')
    (hF : killK δ wl F) : LoopL (bodyV tg wl m E) (xs.map enc) (fun δ => F (killR δ wl)) δ := by
  refine forV_inv (fun p δ' => δ' = killR δ wl) rfl (fun p x q ex δ' e P hP => ?_) (fun δ' e => ?_)
  · have q := hs p x q ex P fun δ'' h2 => hP δ'' h2
    rw [killK_eq] at q
    rw [e]
    exact q
  · rw [killK_eq] at hF
    rw [e]
    exact hF
theorem setSl_at {j : Nat} : ∀ {js : List Nat} {ss : List (Option Slot)} {δ : En}, js.contains j = false → (setSl δ js ss)[j]? = δ[j]?
  | [], _, _, _ => by simp only [setSl]
  | _ :: _, [], _, _ => by simp only [setSl]
  | i :: js, s :: ss, δ, h => by
    have h' : (j == i) = false ∧ js.contains j = false := by simpa using h
    show (setSl (δ.set i s) js ss)[j]? = _
    rw [setSl_at h'.2, List.getElem?_set_ne (fun e => by subst e; simp at h')]
/-- over a name's list: the name keeps its value -/
theorem forN_st {tg : Tgt} {wl : List Nat} {m : DS} {E : DEnds} {F : En → Prop} {δ : En} {j : Nat} {s : Slot} {β : Type} {enc : β → D} {xs : List β} {α : Type} (js : List Nat) (f : α → List (Option Slot)) (I : List β → α → Prop) (a0 : α) (hI : I [] a0) (h0 : killR δ wl = setSl (killR δ wl) js (f a0))
    (hj : wl.contains j = false) (hjs : js.contains j = false) (hjj : δ[j]? = some (some s))
    (hs : ∀ p x q, xs = p ++ x :: q → ∀ a, I p a → ∀ P : En → Prop, (∀ a' δ', I (p ++ [x]) a' → killR δ' wl = setSl (killR δ wl) js (f a') → P δ') → killK δ wl fun δ0 => setSlK δ0 js (f a) fun δ1 => asgT tg (enc x) (imm (enc x)) δ1 fun δ' => m ⟨P, E.rt⟩ δ')
    {pn : Bool} (hF : ∀ a, I xs a → killK δ wl fun δ0 => setSlK δ0 js (f a) fun δ1 => F (unpin j pn δ1)) :
    LoopL (bodyN j s tg wl m E) (xs.map enc) (fun δ => δ[j]? = some (some s) ∧ F (unpin j pn (killR δ wl))) δ := by
  refine forN_inv (fun p δ' => ∃ a, I p a ∧ δ' = setSl (killR δ wl) js (f a)) ⟨a0, hI, h0⟩ hj (fun p δ' ⟨a, _, e⟩ => by rw [e, setSl_at hjs, killR_at hj, hjj]) (fun p x q ex δ' ⟨a, ha, e⟩ P hP => ?_) (fun δ' ⟨a, ha, e⟩ => ?_)
  · have q := hs p x q ex a ha P fun a' δ'' h1 h2 => hP δ'' ⟨a', h1, h2⟩
    rw [killK_eq, setSlK_eq] at q
    rw [e]
    exact q
  · have q := hF a ha
    rw [killK_eq, setSlK_eq] at q
    rw [e]
    exact q
theorem forN_same {tg : Tgt} {wl : List Nat} {m : DS} {E : DEnds} {F : En → Prop} {δ : En} {j : Nat} {s : Slot} {β : Type} {enc : β → D} {xs : List β} (hj : wl.contains j = false) (hjj : δ[j]? = some (some s))
    (hs : ∀ p x q, xs = p ++ x :: q → ∀ P : En → Prop, (∀ δ', killR δ' wl = killR δ wl → P δ') → killK δ wl fun δ1 => asgT tg (enc x) (imm (enc x)) δ1 fun δ' => m ⟨P, E.rt⟩ δ')
    {pn : Bool} (hF : killK δ wl fun δ1 => F (unpin j pn δ1)) :
    LoopL (bodyN j s tg wl m E) (xs.map enc) (fun δ => δ[j]? = some (some s) ∧ F (unpin j pn (killR δ wl))) δ := by
  refine forN_inv (fun p δ' => δ' = killR δ wl) rfl hj (fun p δ' e => by rw [e, killR_at hj, hjj]) (fun p x q ex δ' e P hP => ?_) (fun δ' e => ?_)
  · have q := hs p x q ex P fun δ'' h2 => hP δ'' h2
    rw [killK_eq] at q
    rw [e]
    exact q
  · rw [killK_eq] at hF
    rw [e]
    exact hF
/-- ways that meet: js tells which names differ -/
theorem ifJs {t : DT} {m n : DS} {N : En → Prop} {rt : Val → En → Prop} {δ : En} {α : Type} (js : List Nat) (f : α → List (Option Slot)) (h : ∀ a, setSlK δ js (f a) N) (k : ∀ N : En → Prop, (∀ a, N (setSl δ js (f a))) → mIf t m n ⟨N, rt⟩ δ) : mIfJ t m n ⟨N, rt⟩ δ :=
  ifJ (fun a => setSl δ js (f a)) (fun a => by have q := h a; rw [setSlK_eq] at q; exact q) k
/-- one name's list that grows -/
abbrev sD (d : D) : List (Option Slot) := [some ⟨d, true, false⟩]
theorem ownP {α : Type} {enc : α → D} (xs : List α) : ownN (xs.map enc) false = false := by unfold ownN; split <;> rfl
/-! ### while -/
theorem wh_inv {t : DT} {m : DS} {E : DEnds} {δ : En} (I : Nat → En → Prop) (n0 : Nat) (h : I n0 δ) (hs : ∀ n δ, I n δ → ∀ P : En → Prop, (∀ k δ', k < n → I k δ' → P δ') → t δ fun b => match b with | true => m ⟨P, E.rt⟩ δ | false => E.nx δ) : ∃ n, whI t m E n δ := by
  have main : ∀ N n δ, n < N → I n δ → whI t m E N δ := fun N => by
    induction N with
    | zero => intro n δ hn _; omega
    | succ N ih => intro n δ hn hI; exact hs n δ hI (whI t m E N) fun k δ' hk hI' => ih k δ' (by omega) hI'
  exact ⟨n0 + 1, main _ _ _ (Nat.lt_succ_self _) h⟩
theorem wh_st {t : DT} {m : DS} {E : DEnds} {δ : En} {α : Type} (js : List Nat) (f : α → List (Option Slot)) (I : Nat → α → Prop) (n0 : Nat) (a0 : α) (hI : I n0 a0) (h0 : δ = setSl δ js (f a0))
    (hs : ∀ n a, I n a → ∀ P : En → Prop, (∀ k a' δ', k < n → I k a' → δ' = setSl δ js (f a') → P δ') → setSlK δ js (f a) fun δ1 => t δ1 fun b => match b with | true => m ⟨P, E.rt⟩ δ1 | false => E.nx δ1) : ∃ n, whI t m E n δ := by
  refine wh_inv (fun n δ' => ∃ a, I n a ∧ δ' = setSl δ js (f a)) n0 ⟨a0, hI, h0⟩ fun n δ' ⟨a, ha, e⟩ P hP => ?_
  have q := hs n a ha P fun k a' δ'' hk h1 h2 => hP k δ'' hk ⟨a', h1, h2⟩
  rw [setSlK_eq] at q
  rw [e]
  exact q
/-! ### tuples of ints -/
abbrev dT (v : List Int) : D := .tuple (v.map PyData.int)
theorem imm_dT (v : List Int) : imm (dT v) = true := imm_ints v
theorem demT {x : Val} {δ : En} {F : En → Prop} (h : imm x.d = true) (q : F δ) : demK δ (nv x).roots F := by
  unfold nv
  rw [h]
  exact q
end KT
namespace KM
open PySem PySem.Spec PyProof.Rows L2 KT
def g_PRIMES : D := (.tuple [(.int 2), (.int 3), (.int 5), (.int 7), (.int 11), (.int 13)])
/-- raised(base, times); slots: 0 base, 1 times, 2 result, 3 square -/
def m_raised : DS :=
  (mSeq (mSet 2 true (dC (.int 1)))
  (mSeq (mSet 3 true (dVar 0))
  (mSeq (mWhile (dTst (dBin kGt (dVar 1) (dC (.int 0))))
  (mSeq (mIfJ (dTst (dBin kEq (dBin kMod (dVar 1) (dC (.int 2))) (dC (.int 1))))
  (mSet 2 true (dBin kMul (dVar 2) (dVar 3)))
  mNil)
  (mSeq (mSet 1 true (dBin kDiv (dVar 1) (dC (.int 2))))
  (mIf (dTst (dBin kGt (dVar 1) (dC (.int 0))))
  (mSet 3 true (dBin kMul (dVar 3) (dVar 3)))
  mNil))))
  (mRet (dVar 2)))))
def w_raised : W := runF 4 m_raised
/-- reaches(numerator, denominator, exponent); slots: 0 numerator, 1 denominator, 2 exponent -/
def m_reaches : DS :=
  (mSeq (mIf (dTst (dBin kGe (dVar 2) (dC (.int 0))))
  (mRet (dBin kLe (dBin kMul (dVar 1) (dCall (wCall 2 w_raised) (aCons (dC (.int 2)) (aCons (dVar 2) aNil)))) (dVar 0)))
  mNil)
  (mRet (dBin kLe (dVar 1) (dBin kMul (dVar 0) (dCall (wCall 2 w_raised) (aCons (dC (.int 2)) (aCons (dUn kNeg (dVar 2)) aNil)))))))
def w_reaches : W := runF 3 m_reaches
/-- floor_log2(numerator, denominator); slots: 0 numerator, 1 denominator, 2 exponent -/
def m_floor_log2 : DS :=
  (mSeq (mSet 2 true (dBin kSub (dUn kBits (dVar 0)) (dUn kBits (dVar 1))))
  (mSeq (mIf (dTst (dCall (wCall 3 w_reaches) (aCons (dVar 0) (aCons (dVar 1) (aCons (dVar 2) aNil)))))
  (mRet (dVar 2))
  mNil)
  (mRet (dBin kSub (dVar 2) (dC (.int 1))))))
def w_floor_log2 : W := runF 3 m_floor_log2
/-- common_divisor(first, second); slots: 0 first, 1 second -/
def m_common_divisor : DS :=
  (mSeq (mWhile (dTst (dBin kNe (dVar 1) (dC (.int 0))))
  (mPar 0 1 (dVar 1) (dBin kModN (dVar 0) (dVar 1))))
  (mRet (dCall kAbs (aCons (dVar 0) aNil))))
def w_common_divisor : W := runF 2 m_common_divisor
/-- fraction_of(vector); slots: 0 vector, 1 numerator, 2 denominator, 3 at -/
def m_fraction_of : DS :=
  (mSeq (mSet 1 true (dC (.int 1)))
  (mSeq (mSet 2 true (dC (.int 1)))
  (mSeq (mForR rg1 (.nm 3) [3] (aCons (dC (.int 6)) aNil)
  (mIf (dTst (dBin kGt (dSub (dVar 0) (dVar 3)) (dC (.int 0))))
  (mSet 1 true (dBin kMul (dVar 1) (dCall (wCall 2 w_raised) (aCons (dSub (dC g_PRIMES) (dVar 3)) (aCons (dSub (dVar 0) (dVar 3)) aNil)))))
  (mSet 2 true (dBin kMul (dVar 2) (dCall (wCall 2 w_raised) (aCons (dSub (dC g_PRIMES) (dVar 3)) (aCons (dUn kNeg (dSub (dVar 0) (dVar 3))) aNil)))))))
  (mRet (dTup (aCons (dVar 1) (aCons (dVar 2) aNil)))))))
def w_fraction_of : W := runF 4 m_fraction_of
/-- quotient(first, second); slots: 0 first, 1 second, 2 at -/
def m_quotient : DS :=
  (mRet (dCall kTuple (aCons (dLcR rg1 (.nm 2) [2] dtYes (dBin kSub (dSub (dVar 0) (dVar 2)) (dSub (dVar 1) (dVar 2))) (aCons (dC (.int 6)) aNil)) aNil)))
def w_quotient : W := runF 3 m_quotient
/-- power(vector, times); slots: 0 vector, 1 times, 2 exponent -/
def m_power : DS :=
  (mRet (dCall kTuple (aCons (dLcV (.nm 2) [2] dtYes (dBin kMul (dVar 2) (dVar 1)) (dVar 0)) aNil)))
def w_power : W := runF 3 m_power
/-- compare(first, second); slots: 0 first, 1 second, 2 numerator, 3 denominator -/
def m_compare : DS :=
  (mSeq (mAsg (.tp [2, 3]) true (dCall (wCall 1 w_fraction_of) (aCons (dCall (wCall 2 w_quotient) (aCons (dVar 0) (aCons (dVar 1) aNil))) aNil)))
  (mSeq (mIf (dTst (dBin kLt (dVar 2) (dVar 3)))
  (mRet (dUn kNeg (dC (.int 1))))
  mNil)
  (mSeq (mIf (dTst (dBin kGt (dVar 2) (dVar 3)))
  (mRet (dC (.int 1)))
  mNil)
  (mRet (dC (.int 0))))))
def w_compare : W := runF 4 m_compare
/-- octaves(vector); slots: 0 vector, 1 numerator, 2 denominator -/
def m_octaves : DS :=
  (mSeq (mAsg (.tp [1, 2]) true (dCall (wCall 1 w_fraction_of) (aCons (dVar 0) aNil)))
  (mRet (dCall (wCall 2 w_floor_log2) (aCons (dVar 1) (aCons (dVar 2) aNil)))))
def w_octaves : W := runF 3 m_octaves
/-- winds(generator, period, turns); slots: 0 generator, 1 period, 2 turns, 3 total, 4 low, 5 high, 6 middle -/
def m_winds : DS :=
  (mSeq (mSet 3 true (dCall (wCall 2 w_power) (aCons (dVar 0) (aCons (dVar 2) aNil))))
  (mSeq (mSet 4 true (dC (.int 0)))
  (mSeq (mSet 5 true (dBin kAdd (dBin kDiv (dCall (wCall 1 w_octaves) (aCons (dVar 3) aNil)) (dCall (wCall 1 w_octaves) (aCons (dVar 1) aNil))) (dC (.int 1))))
  (mSeq (mWhile (dTst (dBin kGt (dBin kSub (dVar 5) (dVar 4)) (dC (.int 1))))
  (mSeq (mSet 6 true (dBin kDiv (dBin kAdd (dVar 4) (dVar 5)) (dC (.int 2))))
  (mIf (dTst (dBin kLe (dCall (wCall 2 w_compare) (aCons (dCall (wCall 2 w_power) (aCons (dVar 1) (aCons (dVar 6) aNil))) (aCons (dVar 3) aNil))) (dC (.int 0))))
  (mSet 4 true (dVar 6))
  (mSet 5 true (dVar 6)))))
  (mRet (dVar 4))))))
def w_winds : W := runF 7 m_winds
/-- left_over(generator, period, turns); slots: 0 generator, 1 period, 2 turns -/
def m_left_over : DS :=
  (mRet (dCall (wCall 2 w_quotient) (aCons (dCall (wCall 2 w_power) (aCons (dVar 0) (aCons (dVar 2) aNil))) (aCons (dCall (wCall 2 w_power) (aCons (dVar 1) (aCons (dCall (wCall 3 w_winds) (aCons (dVar 0) (aCons (dVar 1) (aCons (dVar 2) aNil)))) aNil))) aNil))))
def w_left_over : W := runF 3 m_left_over
/-- nearness(generator, period, turns); slots: 0 generator, 1 period, 2 turns, 3 below, 4 above -/
def m_nearness : DS :=
  (mSeq (mSet 3 true (dCall (wCall 3 w_left_over) (aCons (dVar 0) (aCons (dVar 1) (aCons (dVar 2) aNil)))))
  (mSeq (mSet 4 true (dCall (wCall 2 w_quotient) (aCons (dVar 1) (aCons (dVar 3) aNil))))
  (mSeq (mIf (dTst (dBin kLe (dCall (wCall 2 w_compare) (aCons (dVar 3) (aCons (dVar 4) aNil))) (dC (.int 0))))
  (mRet (dVar 3))
  mNil)
  (mRet (dVar 4)))))
def w_nearness : W := runF 5 m_nearness
/-- closes(generator, period); slots: 0 generator, 1 period, 2 at, 3 common, 4 turns, 5 rounds -/
def m_closes : DS :=
  (mSeq (mSet 2 true (dC (.int 0)))
  (mSeq (mWhile (dTst (dBin kEq (dSub (dVar 0) (dVar 2)) (dC (.int 0))))
  (mSet 2 true (dBin kAdd (dVar 2) (dC (.int 1)))))
  (mSeq (mIf (dTst (dBin kEq (dSub (dVar 1) (dVar 2)) (dC (.int 0))))
  (mRet (dC .none))
  mNil)
  (mSeq (mSet 3 true (dCall (wCall 2 w_common_divisor) (aCons (dCall kAbs (aCons (dSub (dVar 0) (dVar 2)) aNil)) (aCons (dSub (dVar 1) (dVar 2)) aNil))))
  (mSeq (mSet 4 true (dBin kDiv (dCall kAbs (aCons (dSub (dVar 1) (dVar 2)) aNil)) (dVar 3)))
  (mSeq (mSet 5 true (dBin kDiv (dCall kAbs (aCons (dSub (dVar 0) (dVar 2)) aNil)) (dVar 3)))
  (mSeq (mIf (dTst (dBin kEq (dCall (wCall 2 w_power) (aCons (dVar 0) (aCons (dVar 4) aNil))) (dCall (wCall 2 w_power) (aCons (dVar 1) (aCons (dVar 5) aNil)))))
  (mRet (dTup (aCons (dVar 4) (aCons (dVar 5) aNil))))
  mNil)
  (mRet (dC .none)))))))))
def w_closes : W := runF 6 m_closes
/-- near_turns(generator, period, limit); slots: 0 generator, 1 period, 2 limit, 3 best, 4 found, 5 turns, 6 present -/
def m_near_turns : DS :=
  (mSeq (mSet 3 true (dCall (wCall 3 w_nearness) (aCons (dVar 0) (aCons (dVar 1) (aCons (dC (.int 1)) aNil)))))
  (mSeq (mSet 4 true (dLst (aCons (dC (.int 1)) aNil)))
  (mSeq (mForR rg2 (.nm 5) [5, 6] (aCons (dC (.int 2)) (aCons (dBin kAdd (dVar 2) (dC (.int 1))) aNil))
  (mSeq (mSet 6 true (dCall (wCall 3 w_nearness) (aCons (dVar 0) (aCons (dVar 1) (aCons (dVar 5) aNil)))))
  (mIf (dTst (dBin kLt (dCall (wCall 2 w_compare) (aCons (dVar 6) (aCons (dVar 3) aNil))) (dC (.int 0))))
  (mSeq (mSet 3 true (dVar 6))
  (mApp 4 (dVar 5)))
  mNil)))
  (mRet (dVar 4)))))
def w_near_turns : W := runF 7 m_near_turns
/-- _law_draws(script, many); slots: 0 script, 1 many, 2 found, 3 cell, 4 number, 5 k, 6 mixed, 7 base -/
def m__law_draws : DS :=
  (mSeq (mSet 2 true (dLst aNil))
  (mSeq (mForV (.nm 3) [3, 4, 5, 6] (dSlice (dVar 0) dNo (dSo (dC (.int 63))))
  (mSeq (mSet 4 true (dCall kAbs (aCons (dCall kInt (aCons (dVar 3) aNil)) aNil)))
  (mIf (dTst (dBin kGe (dVar 4) (dBin kPow (dC (.int 10)) (dC (.int 18)))))
  (mForR rg1 (.nm 5) [5] (aCons (dC (.int 60)) aNil)
  (mIf (dTst (dBin kGt (dVar 4) (dC (.int 0))))
  (mSeq (mApp 2 (dBin kMod (dVar 4) (dC (.int 1000003))))
  (mSet 4 true (dBin kDiv (dVar 4) (dC (.int 1000003)))))
  mNil))
  (mSeq (mSet 6 true (dBin kMod (dBin kAdd (dBin kAdd (dBin kMul (dVar 4) (dC (.int 48271))) (dBin kMul (dC (.int 7)) (dCall kLen (aCons (dVar 2) aNil)))) (dC (.int 11))) (dC (.int 2147483647))))
  (mForR rg1 (.nm 5) [5] (aCons (dC (.int 4)) aNil)
  (mSeq (mSet 6 true (dBin kMod (dBin kAdd (dBin kAdd (dBin kAdd (dBin kMul (dVar 6) (dC (.int 69621))) (dBin kDiv (dVar 6) (dC (.int 65536)))) (dBin kMul (dC (.int 13)) (dVar 5))) (dC (.int 5))) (dC (.int 2147483629))))
  (mApp 2 (dBin kMod (dBin kDiv (dVar 6) (dC (.int 8))) (dC (.int 1000003))))))))))
  (mSeq (mForR rg1 (.nm 5) [5, 7] (aCons (dVar 1) aNil)
  (mIf (dTst (dBin kLt (dCall kLen (aCons (dVar 2) aNil)) (dVar 1)))
  (mSeq (mSet 7 true (dC (.int 0)))
  (mSeq (mIf (dTst (dBin kGt (dCall kLen (aCons (dVar 2) aNil)) (dC (.int 0))))
  (mSet 7 false (dSub (dVar 2) (dBin kMod (dVar 5) (dCall kLen (aCons (dVar 2) aNil)))))
  mNil)
  (mApp 2 (dBin kMod (dBin kAdd (dBin kAdd (dBin kMul (dVar 7) (dC (.int 16807))) (dBin kMul (dC (.int 31)) (dCall kLen (aCons (dVar 2) aNil)))) (dC (.int 17))) (dC (.int 1000003))))))
  mNil))
  (mRet (dSlice (dVar 2) dNo (dSo (dVar 1)))))))
def w__law_draws : W := runF 8 m__law_draws
/-- _law_is_number(value); slots: 0 value -/
def m__law_is_number : DS :=
  (mRet (dAnd (dUn (kIsi "int") (dVar 0)) (dUn kNot (dUn (kIsi "bool") (dVar 0)))))
def w__law_is_number : W := runF 1 m__law_is_number
/-- _law_is_numbers(value, many); slots: 0 value, 1 many, 2 item -/
def m__law_is_numbers : DS :=
  (mSeq (mIf (dtOr (dtNot (dTst (dUn (kIsi "list") (dVar 0)))) (dTst (dBin kNe (dCall kLen (aCons (dVar 0) aNil)) (dVar 1))))
  (mRet (dC (.bool false)))
  mNil)
  (mSeq (mForN (.nm 2) [2] 0
  (mIf (dtNot (dTst (dCall (wCall 1 w__law_is_number) (aCons (dVar 2) aNil))))
  (mRet (dC (.bool false)))
  mNil))
  (mRet (dC (.bool true)))))
def w__law_is_numbers : W := runF 3 m__law_is_numbers
/-- _law_power(base, times); slots: 0 base, 1 times, 2 result -/
def m__law_power : DS :=
  (mSeq (mSet 2 true (dC (.int 1)))
  (mSeq (mWhile (dTst (dBin kGt (dVar 1) (dC (.int 0))))
  (mSeq (mIfJ (dTst (dBin kEq (dBin kMod (dVar 1) (dC (.int 2))) (dC (.int 1))))
  (mSet 2 true (dBin kMul (dVar 2) (dVar 0)))
  mNil)
  (mSeq (mSet 0 true (dBin kMul (dVar 0) (dVar 0)))
  (mSet 1 true (dBin kDiv (dVar 1) (dC (.int 2)))))))
  (mRet (dVar 2))))
def w__law_power : W := runF 3 m__law_power
/-- _law_fraction(vector); slots: 0 vector, 1 primes, 2 above, 3 below, 4 k -/
def m__law_fraction : DS :=
  (mSeq (mSet 1 true (dLst (aCons (dC (.int 2)) (aCons (dC (.int 3)) (aCons (dC (.int 5)) (aCons (dC (.int 7)) (aCons (dC (.int 11)) (aCons (dC (.int 13)) aNil))))))))
  (mSeq (mSet 2 true (dC (.int 1)))
  (mSeq (mSet 3 true (dC (.int 1)))
  (mSeq (mForR rg1 (.nm 4) [4] (aCons (dC (.int 6)) aNil)
  (mIf (dTst (dBin kGe (dSub (dVar 0) (dVar 4)) (dC (.int 0))))
  (mSet 2 true (dBin kMul (dVar 2) (dCall (wCall 2 w__law_power) (aCons (dSub (dVar 1) (dVar 4)) (aCons (dSub (dVar 0) (dVar 4)) aNil)))))
  (mSet 3 true (dBin kMul (dVar 3) (dCall (wCall 2 w__law_power) (aCons (dSub (dVar 1) (dVar 4)) (aCons (dUn kNeg (dSub (dVar 0) (dVar 4))) aNil)))))))
  (mRet (dTup (aCons (dVar 2) (aCons (dVar 3) aNil))))))))
def w__law_fraction : W := runF 5 m__law_fraction
/-- _law_sign(vector); slots: 0 vector, 1 above, 2 below -/
def m__law_sign : DS :=
  (mSeq (mAsg (.tp [1, 2]) true (dCall (wCall 1 w__law_fraction) (aCons (dVar 0) aNil)))
  (mSeq (mIf (dTst (dBin kGt (dVar 1) (dVar 2)))
  (mRet (dC (.int 1)))
  mNil)
  (mSeq (mIf (dTst (dBin kLt (dVar 1) (dVar 2)))
  (mRet (dUn kNeg (dC (.int 1))))
  mNil)
  (mRet (dC (.int 0))))))
def w__law_sign : W := runF 3 m__law_sign
/-- _law_times(vector, times); slots: 0 vector, 1 times, 2 entry -/
def m__law_times : DS :=
  (mRet (dCall kTuple (aCons (dLcV (.nm 2) [2] dtYes (dBin kMul (dVar 2) (dVar 1)) (dVar 0)) aNil)))
def w__law_times : W := runF 3 m__law_times
/-- _law_floor_log(above, below); slots: 0 above, 1 below, 2 steps -/
def m__law_floor_log : DS :=
  (mSeq (mSet 2 true (dBin kSub (dUn kBits (dVar 0)) (dUn kBits (dVar 1))))
  (mSeq (mIf (dtAnd (dTst (dBin kGe (dVar 2) (dC (.int 0)))) (dTst (dBin kGt (dBin kMul (dVar 1) (dCall (wCall 2 w__law_power) (aCons (dC (.int 2)) (aCons (dVar 2) aNil)))) (dVar 0))))
  (mRet (dBin kSub (dVar 2) (dC (.int 1))))
  mNil)
  (mSeq (mIf (dtAnd (dTst (dBin kLt (dVar 2) (dC (.int 0)))) (dTst (dBin kGt (dVar 1) (dBin kMul (dVar 0) (dCall (wCall 2 w__law_power) (aCons (dC (.int 2)) (aCons (dUn kNeg (dVar 2)) aNil)))))))
  (mRet (dBin kSub (dVar 2) (dC (.int 1))))
  mNil)
  (mRet (dVar 2)))))
def w__law_floor_log : W := runF 3 m__law_floor_log
/-- _law_spiral(draws, at); slots: 0 draws, 1 at, 2 generators, 3 periods, 4 spread, 5 found, 6 k, 7 vector, 8 sign, 9 j, 10 entry -/
def m__law_spiral : DS :=
  (mSeq (mSet 2 true (dLst (aCons (dTup (aCons (dUn kNeg (dC (.int 1))) (aCons (dC (.int 1)) (aCons (dC (.int 0)) (aCons (dC (.int 0)) (aCons (dC (.int 0)) (aCons (dC (.int 0)) aNil))))))) (aCons (dTup (aCons (dUn kNeg (dC (.int 2))) (aCons (dC (.int 0)) (aCons (dC (.int 1)) (aCons (dC (.int 0)) (aCons (dC (.int 0)) (aCons (dC (.int 0)) aNil))))))) (aCons (dTup (aCons (dUn kNeg (dC (.int 2))) (aCons (dC (.int 0)) (aCons (dC (.int 0)) (aCons (dC (.int 1)) (aCons (dC (.int 0)) (aCons (dC (.int 0)) aNil))))))) (aCons (dTup (aCons (dC (.int 1)) (aCons (dC (.int 1)) (aCons (dUn kNeg (dC (.int 1))) (aCons (dC (.int 0)) (aCons (dC (.int 0)) (aCons (dC (.int 0)) aNil))))))) (aCons (dTup (aCons (dC (.int 2)) (aCons (dUn kNeg (dC (.int 1))) (aCons (dC (.int 0)) (aCons (dC (.int 0)) (aCons (dC (.int 0)) (aCons (dC (.int 0)) aNil))))))) aNil)))))))
  (mSeq (mSet 3 true (dLst (aCons (dTup (aCons (dC (.int 1)) (aCons (dC (.int 0)) (aCons (dC (.int 0)) (aCons (dC (.int 0)) (aCons (dC (.int 0)) (aCons (dC (.int 0)) aNil))))))) (aCons (dTup (aCons (dC (.int 0)) (aCons (dC (.int 1)) (aCons (dC (.int 0)) (aCons (dC (.int 0)) (aCons (dC (.int 0)) (aCons (dC (.int 0)) aNil))))))) (aCons (dTup (aCons (dC (.int 2)) (aCons (dC (.int 0)) (aCons (dC (.int 0)) (aCons (dC (.int 0)) (aCons (dC (.int 0)) (aCons (dC (.int 0)) aNil))))))) (aCons (dTup (aCons (dUn kNeg (dC (.int 1))) (aCons (dC (.int 0)) (aCons (dC (.int 1)) (aCons (dC (.int 0)) (aCons (dC (.int 0)) (aCons (dC (.int 0)) aNil))))))) aNil))))))
  (mSeq (mIf (dTst (dBin kEq (dBin kMod (dSub (dVar 0) (dVar 1)) (dC (.int 2))) (dC (.int 0))))
  (mRet (dTup (aCons (dSub (dVar 2) (dBin kMod (dSub (dVar 0) (dBin kAdd (dVar 1) (dC (.int 1)))) (dC (.int 5)))) (aCons (dSub (dVar 3) (dCall kMax (aCons (dBin kSub (dBin kMod (dSub (dVar 0) (dBin kAdd (dVar 1) (dC (.int 2)))) (dC (.int 7))) (dC (.int 3))) (aCons (dC (.int 0)) aNil)))) aNil))))
  mNil)
  (mSeq (mSet 4 true (dSub (dLst (aCons (dC (.int 1)) (aCons (dC (.int 2)) (aCons (dC (.int 2)) (aCons (dC (.int 7)) aNil))))) (dBin kMod (dBin kDiv (dSub (dVar 0) (dVar 1)) (dC (.int 2))) (dC (.int 4)))))
  (mSeq (mSet 5 true (dLst aNil))
  (mSeq (mForR rg1 (.nm 6) [6, 7, 8] (aCons (dC (.int 2)) aNil)
  (mSeq (mSet 7 true (dLcR rg1 (.nm 9) [9] dtYes (dBin kSub (dBin kMod (dSub (dVar 0) (dBin kAdd (dBin kAdd (dBin kAdd (dVar 1) (dC (.int 3))) (dBin kMul (dC (.int 6)) (dVar 6))) (dVar 9))) (dBin kAdd (dBin kMul (dC (.int 2)) (dVar 4)) (dC (.int 1)))) (dVar 4)) (aCons (dC (.int 6)) aNil)))
  (mSeq (mSet 8 true (dCall (wCall 1 w__law_sign) (aCons (dVar 7) aNil)))
  (mSeq (mIfJ (dTst (dBin kLt (dVar 8) (dC (.int 0))))
  (mSet 7 true (dLcV (.nm 10) [10] dtYes (dUn kNeg (dVar 10)) (dVar 7)))
  mNil)
  (mSeq (mIfJ (dtAnd (dTst (dBin kEq (dVar 8) (dC (.int 0)))) (dTst (dBin kEq (dVar 6) (dC (.int 0)))))
  (mSet 7 true (dLst (aCons (dUn kNeg (dC (.int 1))) (aCons (dC (.int 1)) (aCons (dC (.int 0)) (aCons (dC (.int 0)) (aCons (dC (.int 0)) (aCons (dC (.int 0)) aNil))))))))
  mNil)
  (mSeq (mSetI 7 (dC (.int 0)) (dBin kAdd (dSub (dVar 7) (dC (.int 0))) (dVar 6)))
  (mApp 5 (dCall kTuple (aCons (dVar 7) aNil)))))))))
  (mRet (dTup (aCons (dSub (dVar 5) (dC (.int 0))) (aCons (dSub (dVar 5) (dC (.int 1))) aNil))))))))))
def w__law_spiral : W := runF 11 m__law_spiral
/-- _law_height(generator, period, turns, rounds); slots: 0 generator, 1 period, 2 turns, 3 rounds, 4 k -/
def m__law_height : DS :=
  (mRet (dCall kTuple (aCons (dLcR rg1 (.nm 4) [4] dtYes (dBin kSub (dBin kMul (dSub (dVar 0) (dVar 4)) (dVar 2)) (dBin kMul (dSub (dVar 1) (dVar 4)) (dVar 3))) (aCons (dC (.int 6)) aNil)) aNil)))
def w__law_height : W := runF 5 m__law_height
/-- _law_winds(generator, period, turns); slots: 0 generator, 1 period, 2 turns, 3 above, 4 below, 5 low, 6 high, 7 k, 8 middle -/
def m__law_winds : DS :=
  (mSeq (mAsg (.tp [3, 4]) true (dCall (wCall 1 w__law_fraction) (aCons (dCall (wCall 2 w__law_times) (aCons (dVar 0) (aCons (dVar 2) aNil))) aNil)))
  (mSeq (mSet 5 true (dC (.int 0)))
  (mSeq (mSet 6 true (dBin kAdd (dCall (wCall 2 w__law_floor_log) (aCons (dVar 3) (aCons (dVar 4) aNil))) (dC (.int 1))))
  (mSeq (mForR rg1 (.nm 7) [7, 8] (aCons (dC (.int 60)) aNil)
  (mIf (dTst (dBin kGt (dBin kSub (dVar 6) (dVar 5)) (dC (.int 1))))
  (mSeq (mSet 8 true (dBin kDiv (dBin kAdd (dVar 5) (dVar 6)) (dC (.int 2))))
  (mIf (dTst (dBin kGe (dCall (wCall 1 w__law_sign) (aCons (dCall (wCall 4 w__law_height) (aCons (dVar 0) (aCons (dVar 1) (aCons (dVar 2) (aCons (dVar 8) aNil))))) aNil)) (dC (.int 0))))
  (mSet 5 true (dVar 8))
  (mSet 6 true (dVar 8))))
  mNil))
  (mRet (dVar 5))))))
def w__law_winds : W := runF 9 m__law_winds
/-- _law_nearness(generator, period, turns); slots: 0 generator, 1 period, 2 turns, 3 low, 4 high, 5 k -/
def m__law_nearness : DS :=
  (mSeq (mSet 3 true (dCall (wCall 4 w__law_height) (aCons (dVar 0) (aCons (dVar 1) (aCons (dVar 2) (aCons (dCall (wCall 3 w__law_winds) (aCons (dVar 0) (aCons (dVar 1) (aCons (dVar 2) aNil)))) aNil))))))
  (mSeq (mSet 4 true (dCall kTuple (aCons (dLcR rg1 (.nm 5) [5] dtYes (dBin kSub (dSub (dVar 1) (dVar 5)) (dSub (dVar 3) (dVar 5))) (aCons (dC (.int 6)) aNil)) aNil)))
  (mSeq (mIf (dTst (dBin kGe (dCall (wCall 1 w__law_sign) (aCons (dLcR rg1 (.nm 5) [5] dtYes (dBin kSub (dSub (dVar 4) (dVar 5)) (dSub (dVar 3) (dVar 5))) (aCons (dC (.int 6)) aNil)) aNil)) (dC (.int 0))))
  (mRet (dVar 3))
  mNil)
  (mRet (dVar 4)))))
def w__law_nearness : W := runF 6 m__law_nearness
/-- _law_records(generator, period, limit); slots: 0 generator, 1 period, 2 limit, 3 best, 4 found, 5 turns, 6 present, 7 k -/
def m__law_records : DS :=
  (mSeq (mSet 3 true (dCall (wCall 3 w__law_nearness) (aCons (dVar 0) (aCons (dVar 1) (aCons (dC (.int 1)) aNil)))))
  (mSeq (mSet 4 true (dLst (aCons (dC (.int 1)) aNil)))
  (mSeq (mForR rg2 (.nm 5) [5, 6] (aCons (dC (.int 2)) (aCons (dBin kAdd (dVar 2) (dC (.int 1))) aNil))
  (mSeq (mSet 6 true (dCall (wCall 3 w__law_nearness) (aCons (dVar 0) (aCons (dVar 1) (aCons (dVar 5) aNil)))))
  (mIf (dTst (dBin kLt (dCall (wCall 1 w__law_sign) (aCons (dLcR rg1 (.nm 7) [7] dtYes (dBin kSub (dSub (dVar 6) (dVar 7)) (dSub (dVar 3) (dVar 7))) (aCons (dC (.int 6)) aNil)) aNil)) (dC (.int 0))))
  (mSeq (mSet 3 true (dVar 6))
  (mApp 4 (dVar 5)))
  mNil)))
  (mRet (dVar 4)))))
def w__law_records : W := runF 8 m__law_records
/-- _law_asks(generator, period, limit, due); slots: 0 generator, 1 period, 2 limit, 3 due, 4 told -/
def m__law_asks : DS :=
  (mSeq (mSet 4 true (dCall (wCall 3 w_near_turns) (aCons (dVar 0) (aCons (dVar 1) (aCons (dVar 2) aNil)))))
  (mRet (dAnd (dCall (wCall 2 w__law_is_numbers) (aCons (dVar 4) (aCons (dCall kLen (aCons (dVar 3) aNil)) aNil))) (dBin kEq (dVar 4) (dVar 3)))))
def w__law_asks : W := runF 5 m__law_asks
/-- law(script); slots: 0 script, 1 draws, 2 generator, 3 period, 4 limit, 5 one, 6 two, 7 at, 8 due, 9 less, 10 closing, 11 far, 12 known, 13 k, 14 turns -/
def m_law : DS :=
  (mSeq (mSet 1 true (dCall (wCall 2 w__law_draws) (aCons (dVar 0) (aCons (dC (.int 40)) aNil))))
  (mSeq (mAsg (.tp [2, 3]) true (dCall (wCall 2 w__law_spiral) (aCons (dVar 1) (aCons (dC (.int 0)) aNil))))
  (mSeq (mSet 4 true (dBin kAdd (dBin kMod (dSub (dVar 1) (dC (.int 20))) (dC (.int 10))) (dC (.int 1))))
  (mSeq (mIfJ (dtAnd (dTst (dBin kEq (dBin kMod (dSub (dVar 1) (dC (.int 0))) (dC (.int 2))) (dC (.int 0)))) (dTst (dBin kEq (dBin kMod (dSub (dVar 1) (dC (.int 21))) (dC (.int 8))) (dC (.int 0)))))
  (mSet 4 true (dBin kAdd (dBin kMod (dSub (dVar 1) (dC (.int 20))) (dC (.int 60))) (dC (.int 1))))
  mNil)
  (mSeq (mIfJ (dTst (dBin kEq (dBin kMod (dSub (dVar 1) (dC (.int 22))) (dC (.int 4))) (dC (.int 0))))
  (mSeq (mSet 5 true (dBin kAdd (dBin kMod (dSub (dVar 1) (dC (.int 23))) (dC (.int 8))) (dC (.int 1))))
  (mSeq (mSet 6 true (dBin kAdd (dBin kMod (dSub (dVar 1) (dC (.int 24))) (dC (.int 8))) (dC (.int 1))))
  (mSeq (mSet 7 true (dBin kMod (dSub (dVar 1) (dC (.int 25))) (dC (.int 3))))
  (mSeq (mSet 2 true (dCall kTuple (aCons (dLcR rg1 (.nm 13) [13] dtYes (dBin kMul (dVar 5) (dCall kInt (aCons (dBin kEq (dVar 13) (dVar 7)) aNil))) (aCons (dC (.int 6)) aNil)) aNil)))
  (mSet 3 true (dCall kTuple (aCons (dLcR rg1 (.nm 13) [13] dtYes (dBin kMul (dVar 6) (dCall kInt (aCons (dBin kEq (dVar 13) (dVar 7)) aNil))) (aCons (dC (.int 6)) aNil)) aNil)))))))
  mNil)
  (mSeq (mSet 8 true (dCall (wCall 3 w__law_records) (aCons (dVar 2) (aCons (dVar 3) (aCons (dVar 4) aNil)))))
  (mSeq (mIf (dtNot (dTst (dCall (wCall 4 w__law_asks) (aCons (dVar 2) (aCons (dVar 3) (aCons (dVar 4) (aCons (dVar 8) aNil)))))))
  (mRet (dC (.bool false)))
  mNil)
  (mSeq (mSet 9 true (dBin kAdd (dBin kMod (dSub (dVar 1) (dC (.int 26))) (dVar 4)) (dC (.int 1))))
  (mSeq (mIf (dtNot (dTst (dCall (wCall 4 w__law_asks) (aCons (dVar 2) (aCons (dVar 3) (aCons (dVar 9) (aCons (dLcV (.nm 14) [14] (dTst (dBin kLe (dVar 14) (dVar 9))) (dVar 14) (dVar 8)) aNil)))))))
  (mRet (dC (.bool false)))
  mNil)
  (mSeq (mIf (dtNot (dTst (dCall (wCall 4 w__law_asks) (aCons (dVar 2) (aCons (dVar 3) (aCons (dC (.int 1)) (aCons (dLst (aCons (dC (.int 1)) aNil)) aNil)))))))
  (mRet (dC (.bool false)))
  mNil)
  (mSeq (mSet 10 true (dCall (wCall 2 w_closes) (aCons (dVar 2) (aCons (dVar 3) aNil))))
  (mSeq (mIf (dtAnd (dTst (dUn (kIsN true) (dVar 10))) (dtAnd (dTst (dBin kLe (dSub (dVar 10) (dC (.int 0))) (dVar 4))) (dTst (dBin kNe (dSub (dVar 8) (dBin kSub (dCall kLen (aCons (dVar 8) aNil)) (dC (.int 1)))) (dSub (dVar 10) (dC (.int 0)))))))
  (mRet (dC (.bool false)))
  mNil)
  (mSeq (mIf (dtAnd (dTst (dBin kEq (dBin kMod (dSub (dVar 1) (dC (.int 27))) (dC (.int 16))) (dC (.int 0)))) (dTst (dBin kNe (dCall (wCall 3 w_near_turns) (aCons (dTup (aCons (dUn kNeg (dC (.int 1))) (aCons (dC (.int 1)) (aCons (dC (.int 0)) (aCons (dC (.int 0)) (aCons (dC (.int 0)) (aCons (dC (.int 0)) aNil))))))) (aCons (dTup (aCons (dC (.int 1)) (aCons (dC (.int 0)) (aCons (dC (.int 0)) (aCons (dC (.int 0)) (aCons (dC (.int 0)) (aCons (dC (.int 0)) aNil))))))) (aCons (dC (.int 60)) aNil)))) (dLst (aCons (dC (.int 1)) (aCons (dC (.int 2)) (aCons (dC (.int 5)) (aCons (dC (.int 12)) (aCons (dC (.int 41)) (aCons (dC (.int 53)) aNil))))))))))
  (mRet (dC (.bool false)))
  mNil)
  (mSeq (mIf (dTst (dBin kNe (dCall (wCall 3 w_near_turns) (aCons (dTup (aCons (dUn kNeg (dC (.int 1))) (aCons (dC (.int 1)) (aCons (dC (.int 0)) (aCons (dC (.int 0)) (aCons (dC (.int 0)) (aCons (dC (.int 0)) aNil))))))) (aCons (dTup (aCons (dC (.int 1)) (aCons (dC (.int 0)) (aCons (dC (.int 0)) (aCons (dC (.int 0)) (aCons (dC (.int 0)) (aCons (dC (.int 0)) aNil))))))) (aCons (dC (.int 11)) aNil)))) (dLst (aCons (dC (.int 1)) (aCons (dC (.int 2)) (aCons (dC (.int 5)) aNil))))))
  (mRet (dC (.bool false)))
  mNil)
  (mSeq (mIfJ (dTst (dBin kEq (dBin kMod (dSub (dVar 1) (dC (.int 28))) (dC (.int 64))) (dC (.int 0))))
  (mSeq (mSet 11 true (dBin kAdd (dC (.int 61)) (dBin kMod (dSub (dVar 1) (dC (.int 29))) (dC (.int 340)))))
  (mSeq (mSet 12 true (dLcV (.nm 14) [14] (dTst (dBin kLe (dVar 14) (dVar 11))) (dVar 14) (dLst (aCons (dC (.int 1)) (aCons (dC (.int 2)) (aCons (dC (.int 5)) (aCons (dC (.int 12)) (aCons (dC (.int 41)) (aCons (dC (.int 53)) (aCons (dC (.int 306)) aNil))))))))))
  (mIf (dtNot (dTst (dCall (wCall 4 w__law_asks) (aCons (dTup (aCons (dUn kNeg (dC (.int 1))) (aCons (dC (.int 1)) (aCons (dC (.int 0)) (aCons (dC (.int 0)) (aCons (dC (.int 0)) (aCons (dC (.int 0)) aNil))))))) (aCons (dTup (aCons (dC (.int 1)) (aCons (dC (.int 0)) (aCons (dC (.int 0)) (aCons (dC (.int 0)) (aCons (dC (.int 0)) (aCons (dC (.int 0)) aNil))))))) (aCons (dVar 11) (aCons (dVar 12) aNil)))))))
  (mRet (dC (.bool false)))
  mNil)))
  mNil)
  (mRet (dCall (wCall 4 w__law_asks) (aCons (dVar 2) (aCons (dVar 3) (aCons (dBin kAdd (dBin kDiv (dVar 4) (dC (.int 2))) (dC (.int 1))) (aCons (dLcV (.nm 14) [14] (dTst (dBin kLe (dVar 14) (dBin kAdd (dBin kDiv (dVar 4) (dC (.int 2))) (dC (.int 1))))) (dVar 14) (dVar 8)) aNil)))))))))))))))))))))
def w_law : W := runF 15 m_law
end KM
namespace KM
open PySem PySem.Spec PyProof.Rows L2 KT
local macro_rules | `(tactic| walk_at "kw") => `(tactic| (conv => whnf))
local macro_rules | `(tactic| walk_at "ks") => `(tactic| (first | (with_reducible rfl) | (with_reducible exact mod_pos (by first | decide | omega)) | (with_reducible exact div_small (by first | decide | omega) (by first | decide | omega)) | (with_reducible exact mod_pos (by rw [List.length_map]; omega)) | (with_reducible exact mul_r (by decide)) | (with_reducible exact mul_l (by decide)) | (with_reducible exact pow_ok (by decide) (by decide) (by decide)) | (with_reducible exact imm_ints _) | (with_reducible exact immL_map imm_dDm _) | decide | (with_reducible assumption) | omega | ((with_reducible apply And.intro) <;> omega) | (simp only [List.length_map, List.length_append, List.length_cons, List.length_nil]; omega) | (exact ⟨rfl, rfl, by (simp only [List.length_map, List.length_append, List.length_cons, List.length_nil]); omega⟩) | (exact ⟨rfl, rfl, by first | assumption | omega⟩) | (exact rfl) | (refine immL_map (fun _ => ?_) _; rfl) | (exact ⟨by simp [mkV, nv, imm, immL, ndB], by simp [mkV, nv, imm, immL], by first | assumption | omega⟩)))
local macro_rules | `(tactic| walk_at "k") => `(tactic| ((conv => whnf); repeat ((first | ((with_reducible apply And.intro); (· walk_at "ks")) | (refine ⟨_, atI_at (by first | decide | omega | (rw [List.length_map]; omega)) (by first | decide | omega | (rw [List.length_map]; omega)), ?_⟩) | (refine demT (imm_dT _) ?_) | (refine ⟨_, ⟨rfl, rfl, ixN_nat (by first | decide | omega | (rw [List.length_map]; omega)) (by first | (rw [List.length_map]; omega) | (rw [List.length_set, List.length_map]; omega))⟩, ?_⟩)); (conv => whnf))))
/-- 2 to the k is at most n / d -/
def Rc (n d : Nat) (k : Int) : Prop := d * 2 ^ k.toNat ≤ n * 2 ^ (-k).toNat
instance (n d : Nat) (k : Int) : Decidable (Rc n d k) := by unfold Rc; infer_instance
theorem two_pos (j : Nat) : 0 < 2 ^ j := Nat.pow_pos (by decide)
theorem Rc_at (n d : Nat) (k : Int) (j : Nat) (h : -k ≤ j) : Rc n d k ↔ d * 2 ^ (k + j).toNat ≤ n * 2 ^ j := by
  unfold Rc
  by_cases h0 : 0 ≤ k
  · obtain ⟨m, rfl⟩ := Int.eq_ofNat_of_zero_le h0
    rw [show (-(m : Int)).toNat = 0 by omega, show ((m : Int) + (j : Int)).toNat = m + j by omega, show (m : Int).toNat = m by omega, Nat.pow_add, ← Nat.mul_assoc, Nat.pow_zero, Nat.mul_one]
    exact (Nat.mul_le_mul_right_iff (two_pos j)).symm
  · obtain ⟨m, hm⟩ := Int.eq_ofNat_of_zero_le (a := -k) (by omega)
    obtain ⟨i, rfl⟩ : ∃ i, j = i + m := ⟨j - m, by omega⟩
    rw [show k.toNat = 0 by omega, show (-k).toNat = m by omega, show (k + ((i + m : Nat) : Int)).toNat = i by omega, Nat.pow_zero, Nat.mul_one, Nat.pow_add, Nat.mul_comm (2 ^ i), ← Nat.mul_assoc]
    exact (Nat.mul_le_mul_right_iff (two_pos i)).symm
theorem Rc_anti {n d : Nat} {k l : Int} (h : k ≤ l) (r : Rc n d l) : Rc n d k := by
  have hj : -k ≤ ((-k).toNat : Int) := by omega
  rw [Rc_at n d l (-k).toNat (by omega)] at r
  rw [Rc_at n d k (-k).toNat hj]
  refine Nat.le_trans (Nat.mul_le_mul_left d (Nat.pow_le_pow_right (by decide) (by omega))) r
/-- the only k with 2 ^ k at most n / d and 2 ^ (k + 1) greater -/
def IsFl (n d : Nat) (k : Int) : Prop := Rc n d k ∧ ¬ Rc n d (k + 1)
theorem IsFl.uniq {n d : Nat} {k l : Int} (h : IsFl n d k) (g : IsFl n d l) : k = l := by
  rcases Int.lt_trichotomy k l with z | z | z
  · exact absurd (Rc_anti (by omega) g.1) h.2
  · exact z
  · exact absurd (Rc_anti (by omega) h.1) g.2
def bitsN (n : Nat) : Nat := if n = 0 then 0 else n.log2 + 1
theorem intBits_nat (n : Nat) : Builtin.Int.intBits (n : Int) = bitsN n := by
  unfold Builtin.Int.intBits bitsN
  by_cases h : n = 0
  · simp [h]
  · rw [if_neg h, if_neg (by simpa using h)]
    simp
theorem bits_le {n : Nat} (h : 0 < n) : 2 ^ (bitsN n - 1) ≤ n := by
  unfold bitsN
  rw [if_neg (by omega), Nat.add_sub_cancel]
  exact Nat.log2_self_le (by omega)
theorem bits_lt (n : Nat) : n < 2 ^ bitsN n := by
  unfold bitsN
  by_cases h : n = 0
  · rw [if_pos h, h]; decide
  · rw [if_neg h]
    exact Nat.lt_log2_self
theorem bits_pos {n : Nat} (h : 0 < n) : 0 < bitsN n := by
  unfold bitsN
  rw [if_neg (by omega)]
  omega
theorem bits_of {n k : Nat} (h : n < 2 ^ k) : bitsN n ≤ k := by
  by_cases h0 : n = 0
  · simp [bitsN, h0]
  · have := bits_le (n := n) (by omega)
    have q := Nat.lt_of_le_of_lt this h
    have := (Nat.pow_lt_pow_iff_right (by decide : 1 < 2)).mp q
    omega
/-- floor of the logarithm -/
def flog (n d : Nat) : Int := if Rc n d ((bitsN n : Int) - bitsN d) then (bitsN n : Int) - bitsN d else (bitsN n : Int) - bitsN d - 1
theorem flog_is {n d : Nat} (hn : 0 < n) (hd : 0 < d) : IsFl n d (flog n d) := by
  have n1 := bits_le hn
  have n2 := bits_lt n
  have d1 := bits_le hd
  have d2 := bits_lt d
  have n3 := bits_pos hn
  have d3 := bits_pos hd
  have lo : Rc n d ((bitsN n : Int) - bitsN d - 1) := by
    rw [Rc_at n d _ (bitsN d) (by omega), show ((bitsN n : Int) - bitsN d - 1 + (bitsN d : Int)).toNat = bitsN n - 1 by omega, Nat.mul_comm d]
    exact Nat.mul_le_mul n1 (Nat.le_of_lt d2)
  have hi : ¬ Rc n d ((bitsN n : Int) - bitsN d + 1) := by
    rw [Rc_at n d _ (bitsN d) (by omega), show ((bitsN n : Int) - bitsN d + 1 + (bitsN d : Int)).toNat = bitsN n + 1 by omega]
    intro h
    have a : 2 ^ (bitsN d - 1) * 2 ^ (bitsN n + 1) ≤ d * 2 ^ (bitsN n + 1) := Nat.mul_le_mul_right _ d1
    have b : n * 2 ^ bitsN d < 2 ^ bitsN n * 2 ^ bitsN d := Nat.mul_lt_mul_of_pos_right n2 (two_pos _)
    rw [← Nat.pow_add] at a b
    rw [show bitsN d - 1 + (bitsN n + 1) = bitsN n + bitsN d by omega] at a
    omega
  unfold flog
  split
  · rename_i h
    exact ⟨h, hi⟩
  · rename_i h
    exact ⟨lo, by rw [show (bitsN n : Int) - bitsN d - 1 + 1 = (bitsN n : Int) - bitsN d by omega]; exact h⟩
theorem flog_b {n d a : Nat} (hn : n < 2 ^ a) (hd : d < 2 ^ a) : -(a : Int) - 1 ≤ flog n d ∧ flog n d ≤ a := by
  have := bits_of hn
  have := bits_of hd
  unfold flog
  split <;> omega
/-- a vector's fraction -/
def prm : List Nat := [2, 3, 5, 7, 11, 13]
def fAt (v : List Int) (i : Nat) : Nat := (prm.getD i 1) ^ (at' v i).toNat
def gAt (v : List Int) (i : Nat) : Nat := (prm.getD i 1) ^ (-(at' v i)).toNat
def fN (v : List Int) : Nat → Nat
  | 0 => 1
  | n + 1 => fN v n * fAt v n
def gN (v : List Int) : Nat → Nat
  | 0 => 1
  | n + 1 => gN v n * gAt v n
theorem prm_pos (i : Nat) : 0 < prm.getD i 1 := by
  have : i = 0 ∨ i = 1 ∨ i = 2 ∨ i = 3 ∨ i = 4 ∨ i = 5 ∨ 6 ≤ i := by omega
  rcases this with rfl | rfl | rfl | rfl | rfl | rfl | h <;> first | decide | skip
  rw [List.getD_eq_getElem?_getD, List.getElem?_eq_none (by simpa [prm] using h)]
  decide
theorem fN_pos (v : List Int) : ∀ n, 0 < fN v n
  | 0 => Nat.one_pos
  | n + 1 => Nat.mul_pos (fN_pos v n) (Nat.pow_pos (prm_pos n))
theorem gN_pos (v : List Int) : ∀ n, 0 < gN v n
  | 0 => Nat.one_pos
  | n + 1 => Nat.mul_pos (gN_pos v n) (Nat.pow_pos (prm_pos n))
theorem gN_neg (v : List Int) : ∀ n, n ≤ v.length → gN v n = fN (v.map (- ·)) n
  | 0, _ => rfl
  | n + 1, h => by
    show gN v n * gAt v n = fN _ n * fAt _ n
    rw [gN_neg v n (by omega)]
    congr 1
    unfold gAt fAt
    rw [at'_map (by omega) (by omega)]
theorem prm_le (i : Nat) : prm.getD i 1 ≤ 2 ^ 4 := by
  have : i = 0 ∨ i = 1 ∨ i = 2 ∨ i = 3 ∨ i = 4 ∨ i = 5 ∨ 6 ≤ i := by omega
  rcases this with rfl | rfl | rfl | rfl | rfl | rfl | h <;> first | decide | skip
  rw [List.getD_eq_getElem?_getD, List.getElem?_eq_none (by simpa [prm] using h)]
  decide
theorem fN_lt {v : List Int} {b : Nat} (h : ∀ i, at' v i ≤ b) : ∀ n, fN v n ≤ 2 ^ (4 * b * n)
  | 0 => by simp [fN]
  | n + 1 => by
    have ih := fN_lt h n
    have a : fAt v n ≤ (2 ^ 4) ^ b := Nat.le_trans (Nat.pow_le_pow_left (prm_le n) _) (Nat.pow_le_pow_right (by decide) (by have := h n; omega))
    rw [← Nat.pow_mul] at a
    show fN v n * fAt v n ≤ _
    rw [Nat.mul_succ, Nat.pow_add]
    exact Nat.mul_le_mul ih a
theorem gN_lt {v : List Int} {b : Nat} (h : ∀ i, -(b : Int) ≤ at' v i) : ∀ n, gN v n ≤ 2 ^ (4 * b * n)
  | 0 => by simp [gN]
  | n + 1 => by
    have ih := gN_lt h n
    have a : gAt v n ≤ (2 ^ 4) ^ b := Nat.le_trans (Nat.pow_le_pow_left (prm_le n) _) (Nat.pow_le_pow_right (by decide) (by have := h n; omega))
    rw [← Nat.pow_mul] at a
    show gN v n * gAt v n ≤ _
    rw [Nat.mul_succ, Nat.pow_add]
    exact Nat.mul_le_mul ih a
/-- factors below powers of two -/
theorem mul_b {i j : Int} {a b : Nat} (ha : i.natAbs ≤ 2 ^ a) (hb : j.natAbs ≤ 2 ^ b) (h : a + b + 2 ≤ 1000000) : MulOk i j :=
  .inr (wide_mul (a := a + 1) (b := b + 1) (Nat.lt_of_le_of_lt ha (Nat.pow_lt_pow_right (by decide) (by omega))) (Nat.lt_of_le_of_lt hb (Nat.pow_lt_pow_right (by decide) (by omega))) (by omega) (by omega) (by omega))
theorem pow_b {b : Int} {β : Nat} (h : b.natAbs ≤ 2 ^ β) (n : Nat) : (b ^ n).natAbs ≤ 2 ^ (β * n) := by
  rw [Int.natAbs_pow, Nat.pow_mul]
  exact Nat.pow_le_pow_left h n
theorem natAbs_le_pow {n : Nat} {a : Nat} (h : n ≤ 2 ^ a) : (n : Int).natAbs ≤ 2 ^ a := by simpa using h
abbrev bI (p : Bool) (i : Int) : Option Slot := some ⟨.int i, !p, p⟩
theorem sq_step {b : Int} {s : Nat} : b ^ s * b ^ s = b ^ (2 * s) := by rw [← Int.pow_add]; congr 1; omega
theorem raised_ok (b : Int) (β n : Nat) (hb : b.natAbs ≤ 2 ^ β) (h : β * n + 2 ≤ 1000000) : w_raised [.int b, .int n] (· = .int (b ^ n)) := by
  walk_at "k"
  refine wh_st [1, 2, 3] (fun (s : Int × Nat × Nat × Nat × Bool) => [bI s.2.2.2.2 s.1, sI (b ^ s.2.2.1), sI (b ^ s.2.2.2.1)]) (fun m s => s.1 = (s.2.1 : Int) ∧ s.2.1 = m ∧ s.2.2.1 + s.2.2.2.1 * s.2.1 = n) n (n, n, 0, 1, true) ⟨rfl, rfl, by simp⟩ (by rw [Int.pow_zero, Int.pow_succ, Int.pow_zero, Int.one_mul]; rfl) (fun m s ⟨hv, hm, e⟩ P hP => ?_)
  obtain ⟨v, t, r, s, p⟩ := s
  dsimp only at hv hm e ⊢
  subst hv hm
  walk_at "k"
  refine selD (fun ht => ?_) (fun ht => ?_)
  · have ht : 0 < t := by omega
    have hst : s * 1 ≤ s * t := Nat.mul_le_mul_left s ht
    have hd : t / 2 < t := Nat.div_lt_self ht (by decide)
    have hmd := Nat.div_add_mod t 2
    have hrs : β * (r + s) ≤ β * n := Nat.mul_le_mul_left β (by omega)
    rw [Nat.mul_add] at hrs
    have e2 : ((t : Nat) : Int) / 2 = ((t / 2 : Nat) : Int) := by omega
    have est : s * t = s * (2 * (t / 2)) + s * (t % 2) := by rw [← Nat.mul_add, hmd]
    have ess : s * (2 * (t / 2)) = 2 * s * (t / 2) := by rw [← Nat.mul_assoc, Nat.mul_comm s 2]
    walk_at "k"
    refine ifJs [2] (fun (a : {a : Nat // a = r + s * (t % 2)}) => [sI (b ^ a.1)]) (fun a => ?_) (fun N hN => ?_)
    · obtain ⟨r2, hr2⟩ := a
      dsimp only
      walk_at "k"
      refine selD (fun hz => ?_) (fun hz => ?_)
      · have hss : β * (s + s) ≤ β * n := by
          refine Nat.mul_le_mul_left β ?_
          have : 2 * s * 1 ≤ 2 * s * (t / 2) := Nat.mul_le_mul_left _ (by omega)
          omega
        rw [Nat.mul_add] at hss
        walk_at "k"
        refine And.intro (mul_b (pow_b hb s) (pow_b hb s) (by omega)) ?_
        walk_at "k"
        rw [sq_step]
        exact hP _ (_, t / 2, r2, 2 * s, false) _ hd ⟨e2, rfl, by dsimp only; omega⟩ rfl
      · have z : t / 2 = 0 := by omega
        exact hP _ (_, t / 2, r2, s, false) _ hd ⟨e2, rfl, by dsimp only; rw [z] at est ⊢; omega⟩ rfl
    · walk_at "k"
      refine selD (fun hz => ?_) (fun hz => ?_)
      · have hz : t % 2 = 1 := by omega
        walk_at "k"
        refine And.intro (mul_b (pow_b hb r) (pow_b hb s) (by omega)) ?_
        walk_at "k"
        rw [← Int.pow_add]
        exact hN ⟨r + s, by rw [hz, Nat.mul_one]⟩
      · have hz : t % 2 = 0 := by omega
        exact hN ⟨r, by rw [hz, Nat.mul_zero]; rfl⟩
  · have z : t = 0 := by omega
    subst z
    rw [Nat.mul_zero, Nat.add_zero] at e
    subst e
    walk_at "k"
    rfl
theorem law_power_ok (b : Int) (β n : Nat) (hb : b.natAbs ≤ 2 ^ β) (h : β * (2 * n) + 2 ≤ 1000000) : w__law_power [.int b, .int n] (· = .int (b ^ n)) := by
  walk_at "k"
  refine wh_st [0, 1, 2] (fun (s : Int × Nat × Nat × Nat × Bool) => [bI s.2.2.2.2 (b ^ s.2.2.2.1), bI s.2.2.2.2 s.1, sI (b ^ s.2.2.1)]) (fun m s => s.1 = (s.2.1 : Int) ∧ s.2.1 = m ∧ s.2.2.1 + s.2.2.2.1 * s.2.1 = n) n (n, n, 0, 1, true) ⟨rfl, rfl, by simp⟩ (by rw [Int.pow_zero, Int.pow_succ, Int.pow_zero, Int.one_mul]; rfl) (fun m s ⟨hv, hm, e⟩ P hP => ?_)
  obtain ⟨v, t, r, s, p⟩ := s
  dsimp only at hv hm e ⊢
  subst hv hm
  walk_at "k"
  refine selD (fun ht => ?_) (fun ht => ?_)
  · have ht : 0 < t := by omega
    have hst : s * 1 ≤ s * t := Nat.mul_le_mul_left s ht
    have hd : t / 2 < t := Nat.div_lt_self ht (by decide)
    have hmd := Nat.div_add_mod t 2
    have hrs : β * (r + s) ≤ β * n := Nat.mul_le_mul_left β (by omega)
    rw [Nat.mul_add] at hrs
    have h2n : β * (2 * n) = β * n + β * n := by rw [← Nat.mul_add]; congr 1; omega
    have hss : β * (s + s) ≤ β * (n + n) := Nat.mul_le_mul_left β (by omega)
    rw [Nat.mul_add, Nat.mul_add] at hss
    have e2 : ((t : Nat) : Int) / 2 = ((t / 2 : Nat) : Int) := by omega
    have est : s * t = s * (2 * (t / 2)) + s * (t % 2) := by rw [← Nat.mul_add, hmd]
    have ess : s * (2 * (t / 2)) = 2 * s * (t / 2) := by rw [← Nat.mul_assoc, Nat.mul_comm s 2]
    walk_at "k"
    refine ifJs [2] (fun (a : {a : Nat // a = r + s * (t % 2)}) => [sI (b ^ a.1)]) (fun a => ?_) (fun N hN => ?_)
    · obtain ⟨r2, hr2⟩ := a
      dsimp only
      walk_at "k"
      refine And.intro (mul_b (pow_b hb s) (pow_b hb s) (by omega)) ?_
      walk_at "k"
      rw [sq_step]
      exact hP _ (_, t / 2, r2, 2 * s, false) _ hd ⟨e2, rfl, by dsimp only; omega⟩ rfl
    · walk_at "k"
      refine selD (fun hz => ?_) (fun hz => ?_)
      · have hz : t % 2 = 1 := by omega
        walk_at "k"
        refine And.intro (mul_b (pow_b hb r) (pow_b hb s) (by omega)) ?_
        walk_at "k"
        rw [← Int.pow_add]
        exact hN ⟨r + s, by rw [hz, Nat.mul_one]⟩
      · have hz : t % 2 = 0 := by omega
        exact hN ⟨r, by rw [hz, Nat.mul_zero]; rfl⟩
  · have z : t = 0 := by omega
    subst z
    rw [Nat.mul_zero, Nat.add_zero] at e
    subst e
    walk_at "k"
    rfl
theorem natAbs_two_pow (j : Nat) : ((2 : Int) ^ j).natAbs ≤ 2 ^ (1 * j) := pow_b (b := 2) (β := 1) (by decide) j
theorem Rc_pos {n d : Nat} {k : Int} (h : 0 ≤ k) : decide ((d : Int) * 2 ^ k.toNat ≤ n) = decide (Rc n d k) := by
  apply decide_eq_decide.mpr
  unfold Rc
  rw [show (-k).toNat = 0 by omega, Nat.pow_zero, Nat.mul_one]
  rw [show (2 : Int) ^ k.toNat = ((2 ^ k.toNat : Nat) : Int) by rw [Int.natCast_pow]; rfl, ← Int.natCast_mul]
  omega
theorem Rc_neg {n d : Nat} {k : Int} (h : ¬ 0 ≤ k) : decide ((d : Int) ≤ n * 2 ^ (-k).toNat) = decide (Rc n d k) := by
  apply decide_eq_decide.mpr
  unfold Rc
  rw [show k.toNat = 0 by omega, Nat.pow_zero, Nat.mul_one]
  rw [show (2 : Int) ^ (-k).toNat = ((2 ^ (-k).toNat : Nat) : Int) by rw [Int.natCast_pow]; rfl, ← Int.natCast_mul]
  omega
theorem reaches_ok (n d : Nat) (k : Int) (a c : Nat) (hn : n ≤ 2 ^ a) (hd : d ≤ 2 ^ a) (hk : -(c : Int) ≤ k ∧ k ≤ c) (h : a + c + 2 ≤ 1000000) : w_reaches [.int n, .int d, .int k] (· = .bool (decide (Rc n d k))) := by
  walk_at "k"
  refine selD (fun h0 => ?_) (fun h0 => ?_)
  · obtain ⟨m, rfl⟩ := Int.eq_ofNat_of_zero_le h0
    have ra := raised_ok 2 1 m (by decide) (by omega)
    walk_at "k"
    refine call_eq ra ?_
    walk_at "k"
    refine And.intro (mul_b (natAbs_le_pow hd) (natAbs_two_pow m) (by omega)) ?_
    walk_at "k"
    exact congrArg PyData.bool (Rc_pos h0)
  · obtain ⟨m, hm⟩ := Int.eq_ofNat_of_zero_le (a := -k) (by omega)
    have ra := raised_ok 2 1 m (by decide) (by omega)
    rw [← Rc_neg h0, hm]
    walk_at "k"
    rw [hm]
    refine call_eq ra ?_
    walk_at "k"
    refine And.intro (mul_b (natAbs_le_pow hn) (natAbs_two_pow m) (by omega)) ?_
    walk_at "k"
    rfl
theorem floor_log2_ok (n d a : Nat) (hn : n ≤ 2 ^ a) (hd : d ≤ 2 ^ a) (h : 2 * a + 4 ≤ 1000000) : w_floor_log2 [.int n, .int d] (· = .int (flog n d)) := by
  have b1 : bitsN n ≤ a + 1 := bits_of (Nat.lt_of_le_of_lt hn (Nat.pow_lt_pow_right (by decide) (by omega)))
  have b2 : bitsN d ≤ a + 1 := bits_of (Nat.lt_of_le_of_lt hd (Nat.pow_lt_pow_right (by decide) (by omega)))
  have re := reaches_ok n d ((bitsN n : Int) - bitsN d) a (a + 1) hn hd (by omega) (by omega)
  unfold flog
  walk_at "k"
  rw [intBits_nat, intBits_nat]
  refine call_eq re ?_
  walk_at "k"
  refine selD (fun h0 => ?_) (fun h0 => ?_)
  · rw [if_pos h0]
    walk_at "k"
    rfl
  · rw [if_neg h0]
    walk_at "k"
theorem prm_at {k : Nat} (h : k < 6) : atI [PyData.int 2, .int 3, .int 5, .int 7, .int 11, .int 13] (k : Int) = some (.int ((prm.getD k 1 : Nat) : Int)) := by
  have : k = 0 ∨ k = 1 ∨ k = 2 ∨ k = 3 ∨ k = 4 ∨ k = 5 := by omega
  rcases this with rfl | rfl | rfl | rfl | rfl | rfl <;> rfl
theorem prm_natAbs (k : Nat) : ((prm.getD k 1 : Nat) : Int).natAbs ≤ 2 ^ 4 := by
  have := prm_le k
  simpa using this
theorem fAt_pos {v : List Int} {k m : Nat} (h : at' v (k : Int) = (m : Int)) : fAt v k = (prm.getD k 1) ^ m ∧ gAt v k = 1 := by
  unfold fAt gAt
  rw [h]
  refine ⟨by congr 1, ?_⟩
  rw [show (-(m : Int)).toNat = 0 by omega, Nat.pow_zero]
theorem fAt_neg {v : List Int} {k m : Nat} (h : -(at' v (k : Int)) = (m : Int)) : gAt v k = (prm.getD k 1) ^ m ∧ fAt v k = 1 := by
  unfold fAt gAt
  rw [h]
  refine ⟨by congr 1, ?_⟩
  rw [show (at' v (k : Int)).toNat = 0 by omega, Nat.pow_zero]
theorem fraction_of_ok (v : List Int) (b : Nat) (hl : v.length = 6) (hb : ∀ i, -(b : Int) ≤ at' v i ∧ at' v i ≤ b) (h : 24 * b + 2 ≤ 1000000) : w_fraction_of [dT v] (· = .tuple [.int (fN v 6), .int (gN v 6)]) := by
  have line := line_big
  have lf := fN_lt (v := v) (b := b) fun i => (hb i).2
  have lg := gN_lt (v := v) (b := b) fun i => (hb i).1
  walk_at "k"
  refine forR_st [1, 2] (fun (s : Int × Int) => [sI s.1, sI s.2]) (fun k s => s.1 = (fN v k : Int) ∧ s.2 = (gN v k : Int)) (1, 1) ⟨rfl, rfl⟩ rfl (fun k hk s ⟨h1, h2⟩ R hR => ?_) (fun s ⟨h1, h2⟩ => ?_)
  · obtain ⟨x, y⟩ := s
    dsimp only at h1 h2 ⊢
    subst h1 h2
    have hk : k < 6 := hk
    have e0 : (0 : Int) + (k : Int) = k := Int.zero_add _
    have bk := hb k
    have lk : 4 * b * k ≤ 4 * b * 5 := Nat.mul_le_mul_left _ (by omega)
    have l1 := lf k
    have l2 := lg k
    walk_at "k"
    rw [e0]
    refine selD (fun h0 => ?_) (fun h0 => ?_)
    · obtain ⟨m, hm⟩ := Int.eq_ofNat_of_zero_le (a := at' v (k : Int)) (by omega)
      obtain ⟨f1, g1⟩ := fAt_pos hm
      have ra := raised_ok ((prm.getD k 1 : Nat) : Int) 4 m (prm_natAbs k) (by omega)
      walk_at "k"
      refine ⟨_, prm_at hk, ?_⟩
      walk_at "k"
      rw [hm]
      refine call_eq ra ?_
      walk_at "k"
      refine And.intro (mul_b (natAbs_le_pow l1) (pow_b (prm_natAbs k) m) (by omega)) ?_
      walk_at "k"
      refine hR (_, _) _ ⟨?_, ?_⟩ rfl
      · show (fN v k : Int) * ((prm.getD k 1 : Nat) : Int) ^ m = ((fN v k * fAt v k : Nat) : Int)
        rw [f1, Int.natCast_mul, Int.natCast_pow]
      · show (gN v k : Int) = ((gN v k * gAt v k : Nat) : Int)
        rw [g1, Nat.mul_one]
    · obtain ⟨m, hm⟩ := Int.eq_ofNat_of_zero_le (a := -at' v (k : Int)) (by omega)
      obtain ⟨g1, f1⟩ := fAt_neg hm
      have ra := raised_ok ((prm.getD k 1 : Nat) : Int) 4 m (prm_natAbs k) (by omega)
      walk_at "k"
      refine ⟨_, prm_at hk, ?_⟩
      walk_at "k"
      rw [hm]
      refine call_eq ra ?_
      walk_at "k"
      refine And.intro (mul_b (natAbs_le_pow l2) (pow_b (prm_natAbs k) m) (by omega)) ?_
      walk_at "k"
      refine hR (_, _) _ ⟨?_, ?_⟩ rfl
      · show (fN v k : Int) = ((fN v k * fAt v k : Nat) : Int)
        rw [f1, Nat.mul_one]
      · show (gN v k : Int) * ((prm.getD k 1 : Nat) : Int) ^ m = ((gN v k * gAt v k : Nat) : Int)
        rw [g1, Int.natCast_mul, Int.natCast_pow]
  · obtain ⟨x, y⟩ := s
    dsimp only at h1 h2 ⊢
    subst h1 h2
    walk_at "k"
    rfl
theorem law_fraction_okG (d : D) (v : List Int) (b : Nat) (hd : d = dT v ∨ d = dI v) (hl : v.length = 6) (hb : ∀ i, -(b : Int) ≤ at' v i ∧ at' v i ≤ b) (h : 24 * b + 2 ≤ 1000000) : w__law_fraction [d] (· = .tuple [.int (fN v 6), .int (gN v 6)]) := by
  have line := line_big
  have lf := fN_lt (v := v) (b := b) fun i => (hb i).2
  have lg := gN_lt (v := v) (b := b) fun i => (hb i).1
  rcases hd with rfl | rfl <;> (
  walk_at "k"
  refine forR_st [2, 3] (fun (s : Int × Int) => [sI s.1, sI s.2]) (fun k s => s.1 = (fN v k : Int) ∧ s.2 = (gN v k : Int)) (1, 1) ⟨rfl, rfl⟩ rfl (fun k hk s ⟨h1, h2⟩ R hR => ?_) (fun s ⟨h1, h2⟩ => ?_)
  · obtain ⟨x, y⟩ := s
    dsimp only at h1 h2 ⊢
    subst h1 h2
    have hk : k < 6 := hk
    have e0 : (0 : Int) + (k : Int) = k := Int.zero_add _
    have bk := hb k
    have lk : 4 * b * k ≤ 4 * b * 5 := Nat.mul_le_mul_left _ (by omega)
    have l1 := lf k
    have l2 := lg k
    walk_at "k"
    rw [e0]
    refine selD (fun h0 => ?_) (fun h0 => ?_)
    · obtain ⟨m, hm⟩ := Int.eq_ofNat_of_zero_le (a := at' v (k : Int)) (by omega)
      obtain ⟨f1, g1⟩ := fAt_pos hm
      have ra := law_power_ok ((prm.getD k 1 : Nat) : Int) 4 m (prm_natAbs k) (by omega)
      walk_at "k"
      refine ⟨_, prm_at hk, ?_⟩
      walk_at "k"
      rw [hm]
      refine call_eq ra ?_
      walk_at "k"
      refine And.intro (mul_b (natAbs_le_pow l1) (pow_b (prm_natAbs k) m) (by omega)) ?_
      walk_at "k"
      refine hR (_, _) _ ⟨?_, ?_⟩ rfl
      · show (fN v k : Int) * ((prm.getD k 1 : Nat) : Int) ^ m = ((fN v k * fAt v k : Nat) : Int)
        rw [f1, Int.natCast_mul, Int.natCast_pow]
      · show (gN v k : Int) = ((gN v k * gAt v k : Nat) : Int)
        rw [g1, Nat.mul_one]
    · obtain ⟨m, hm⟩ := Int.eq_ofNat_of_zero_le (a := -at' v (k : Int)) (by omega)
      obtain ⟨g1, f1⟩ := fAt_neg hm
      have ra := law_power_ok ((prm.getD k 1 : Nat) : Int) 4 m (prm_natAbs k) (by omega)
      walk_at "k"
      refine ⟨_, prm_at hk, ?_⟩
      walk_at "k"
      rw [hm]
      refine call_eq ra ?_
      walk_at "k"
      refine And.intro (mul_b (natAbs_le_pow l2) (pow_b (prm_natAbs k) m) (by omega)) ?_
      walk_at "k"
      refine hR (_, _) _ ⟨?_, ?_⟩ rfl
      · show (fN v k : Int) = ((fN v k * fAt v k : Nat) : Int)
        rw [f1, Nat.mul_one]
      · show (gN v k : Int) * ((prm.getD k 1 : Nat) : Int) ^ m = ((gN v k * gAt v k : Nat) : Int)
        rw [g1, Int.natCast_mul, Int.natCast_pow]
  · obtain ⟨x, y⟩ := s
    dsimp only at h1 h2 ⊢
    subst h1 h2
    walk_at "k"
    rfl)
theorem pow_le_b {p c : Nat} {b : Nat} {e : Int} (hp : p ≤ 2 ^ c) (he : e ≤ b) : p ^ e.toNat ≤ 2 ^ (c * b) := by
  by_cases h0 : p = 0
  · subst h0
    by_cases z : e.toNat = 0
    · rw [z, Nat.pow_zero]; exact two_pos _
    · rw [Nat.zero_pow (by omega)]; exact Nat.zero_le _
  · refine Nat.le_trans (Nat.pow_le_pow_left hp _) ?_
    rw [← Nat.pow_mul]
    exact Nat.pow_le_pow_right (by decide) (Nat.mul_le_mul_left c (by omega))
theorem fN6_lt {v : List Int} {b : Nat} (h : ∀ i, at' v i ≤ b) : fN v 6 ≤ 2 ^ (17 * b) := by
  have h0 : fAt v 0 ≤ 2 ^ (1 * b) := pow_le_b (by decide) (h _)
  have h1 : fAt v 1 ≤ 2 ^ (2 * b) := pow_le_b (by decide) (h _)
  have h2 : fAt v 2 ≤ 2 ^ (3 * b) := pow_le_b (by decide) (h _)
  have h3 : fAt v 3 ≤ 2 ^ (3 * b) := pow_le_b (by decide) (h _)
  have h4 : fAt v 4 ≤ 2 ^ (4 * b) := pow_le_b (by decide) (h _)
  have h5 : fAt v 5 ≤ 2 ^ (4 * b) := pow_le_b (by decide) (h _)
  show (((((1 * fAt v 0) * fAt v 1) * fAt v 2) * fAt v 3) * fAt v 4) * fAt v 5 ≤ _
  rw [show 17 * b = 1 * b + 2 * b + 3 * b + 3 * b + 4 * b + 4 * b by omega, Nat.pow_add, Nat.pow_add, Nat.pow_add, Nat.pow_add, Nat.pow_add, Nat.one_mul]
  exact Nat.mul_le_mul (Nat.mul_le_mul (Nat.mul_le_mul (Nat.mul_le_mul (Nat.mul_le_mul h0 h1) h2) h3) h4) h5
theorem gN6_lt {v : List Int} {b : Nat} (h : ∀ i, -(b : Int) ≤ at' v i) : gN v 6 ≤ 2 ^ (17 * b) := by
  have h' : ∀ i, -(at' v i) ≤ b := fun i => by have := h i; omega
  have h0 : gAt v 0 ≤ 2 ^ (1 * b) := pow_le_b (by decide) (h' _)
  have h1 : gAt v 1 ≤ 2 ^ (2 * b) := pow_le_b (by decide) (h' _)
  have h2 : gAt v 2 ≤ 2 ^ (3 * b) := pow_le_b (by decide) (h' _)
  have h3 : gAt v 3 ≤ 2 ^ (3 * b) := pow_le_b (by decide) (h' _)
  have h4 : gAt v 4 ≤ 2 ^ (4 * b) := pow_le_b (by decide) (h' _)
  have h5 : gAt v 5 ≤ 2 ^ (4 * b) := pow_le_b (by decide) (h' _)
  show (((((1 * gAt v 0) * gAt v 1) * gAt v 2) * gAt v 3) * gAt v 4) * gAt v 5 ≤ _
  rw [show 17 * b = 1 * b + 2 * b + 3 * b + 3 * b + 4 * b + 4 * b by omega, Nat.pow_add, Nat.pow_add, Nat.pow_add, Nat.pow_add, Nat.pow_add, Nat.one_mul]
  exact Nat.mul_le_mul (Nat.mul_le_mul (Nat.mul_le_mul (Nat.mul_le_mul (Nat.mul_le_mul h0 h1) h2) h3) h4) h5
/-- vectors: six numbers within b -/
def vec (b : Nat) (v : List Int) : Prop := v.length = 6 ∧ ∀ i, -(b : Int) ≤ at' v i ∧ at' v i ≤ b
def oct (v : List Int) : Int := flog (fN v 6) (gN v 6)
theorem octaves_ok (v : List Int) (b : Nat) (hv : vec b v) (h : 34 * b + 4 ≤ 1000000) : w_octaves [dT v] (· = .int (oct v)) := by
  have fr := fraction_of_ok v b hv.1 hv.2 (by omega)
  have fl := floor_log2_ok (fN v 6) (gN v 6) (17 * b) (fN6_lt fun i => (hv.2 i).2) (gN6_lt fun i => (hv.2 i).1) (by omega)
  walk_at "k"
  refine call_eq fr ?_
  walk_at "k"
  refine call_eq fl ?_
  walk_at "k"
  rfl
theorem at'_bd {f : Int → Int} {v : List Int} {b : Nat} (h : ∀ i, -(b : Int) ≤ f (at' v i) ∧ f (at' v i) ≤ b) (i : Int) : -(b : Int) ≤ at' (v.map f) i ∧ at' (v.map f) i ≤ b := by
  unfold at'
  rw [List.getD_eq_getElem?_getD, List.getElem?_map]
  cases e : v[i.toNat]? with
  | none => exact ⟨by simp, by simp⟩
  | some x =>
    have := h i
    unfold at' at this
    rw [List.getD_eq_getElem?_getD, e] at this
    exact this
theorem power_ok (v : List Int) (t : Int) (ht : -(2 ^ 64) < t ∧ t < 2 ^ 64) (hl : v.length ≤ 100) : w_power [dT v, .int t] (· = dT (v.map (· * t))) := by
  have line := line_big
  walk_at "k"
  refine lc_mapI (enc := PyData.int) (xs := v) (fun x => x * t) _ (by omega) (fun x hx acc K ha hK => ?_) rfl ?_
  · walk_at "k"
    refine And.intro (mul_r ht) ?_
    walk_at "k"
    exact hK
  walk_at "k"
def isNum : D → Bool
  | .int _ => true
  | _ => false
theorem is_number_ok (d : D) : w__law_is_number [d] (· = .bool (isNum d)) := by
  cases d <;> (walk_at "k"; rfl)
theorem is_numbers_ok (xs : List Int) (n : Int) : w__law_is_numbers [dI xs, .int n] (· = .bool (decide ((xs.length : Int) = n))) := by
  walk_at "k"
  rw [List.length_map]
  refine selB (fun hb => ?_) (fun hb => ?_)
  · walk_at "k"
    have : ¬ (xs.length : Int) = n := by simpa using hb
    simp [this]
  · have hn : (xs.length : Int) = n := by simpa using hb
    have him : ownN (xs.map PyData.int) false = false := by unfold ownN; split <;> rfl
    walk_at "k"
    rw [him]
    refine forN_inv (enc := PyData.int) (fun p δ => δ = [some ⟨dI xs, false, true⟩, some ⟨.int n, false, true⟩, none]) rfl rfl (fun p δ hδ => by rw [hδ]; rfl) (fun p x q e δ hδ P hP => ?_) (fun δ hδ => ?_)
    · subst hδ
      walk_at "k"
      refine call_eq (is_number_ok (.int x)) ?_
      walk_at "k"
      exact hP _ rfl
    · subst hδ
      walk_at "k"
      simp [hn]
/-- the bits of the primes; the bits of a vector's fraction, by bounds of its exponents -/
def cw (k : Nat) : Nat := [1, 2, 3, 3, 4, 4].getD k 4
def Bw (β : Nat → Nat) : Nat → Nat
  | 0 => 0
  | n + 1 => Bw β n + cw n * β n
theorem prm_cw (k : Nat) : prm.getD k 1 ≤ 2 ^ cw k := by
  have : k = 0 ∨ k = 1 ∨ k = 2 ∨ k = 3 ∨ k = 4 ∨ k = 5 ∨ 6 ≤ k := by omega
  rcases this with rfl | rfl | rfl | rfl | rfl | rfl | h <;> first | decide | skip
  rw [List.getD_eq_getElem?_getD, List.getElem?_eq_none (by simpa [prm] using h)]
  exact two_pos _
theorem fN_B {v : List Int} {β : Nat → Nat} : ∀ n : Nat, (∀ i : Nat, i < n → at' v (i : Int) ≤ β i) → fN v n ≤ 2 ^ Bw β n
  | 0, _ => Nat.le_refl _
  | n + 1, h => by
    show fN v n * fAt v n ≤ 2 ^ (Bw β n + cw n * β n)
    rw [Nat.pow_add]
    exact Nat.mul_le_mul (fN_B n fun i hi => h i (by omega)) (pow_le_b (prm_cw n) (h n (by omega)))
theorem gN_B {v : List Int} {β : Nat → Nat} : ∀ n : Nat, (∀ i : Nat, i < n → -(β i : Int) ≤ at' v (i : Int)) → gN v n ≤ 2 ^ Bw β n
  | 0, _ => Nat.le_refl _
  | n + 1, h => by
    show gN v n * gAt v n ≤ 2 ^ (Bw β n + cw n * β n)
    rw [Nat.pow_add]
    exact Nat.mul_le_mul (gN_B n fun i hi => h i (by omega)) (pow_le_b (prm_cw n) (by have := h n (by omega); omega))
theorem Bw_mono (β : Nat → Nat) {m n : Nat} (h : m ≤ n) : Bw β m ≤ Bw β n := by
  induction n with
  | zero => rw [show m = 0 by omega]; exact Nat.le_refl _
  | succ n ih =>
    rcases Nat.lt_or_ge m (n + 1) with z | z
    · exact Nat.le_trans (ih (by omega)) (Nat.le_add_right _ _)
    · rw [show m = n + 1 by omega]; exact Nat.le_refl _
/-- exponents within bounds -/
def vecB (β : Nat → Nat) (v : List Int) : Prop := v.length = 6 ∧ ∀ i : Nat, i < 6 → -(β i : Int) ≤ at' v (i : Int) ∧ at' v (i : Int) ≤ β i
theorem prm_natAbsB (k : Nat) : ((prm.getD k 1 : Nat) : Int).natAbs ≤ 2 ^ cw k := by
  have := prm_cw k
  simpa using this
theorem fraction_of_okB (v : List Int) (β : Nat → Nat) (hv : vecB β v) (h : Bw β 6 + 2 ≤ 1000000) : w_fraction_of [dT v] (· = .tuple [.int (fN v 6), .int (gN v 6)]) := by
  have line := line_big
  have hl := hv.1
  walk_at "k"
  refine forR_st [1, 2] (fun (s : Int × Int) => [sI s.1, sI s.2]) (fun k s => s.1 = (fN v k : Int) ∧ s.2 = (gN v k : Int)) (1, 1) ⟨rfl, rfl⟩ rfl (fun k hk s ⟨h1, h2⟩ R hR => ?_) (fun s ⟨h1, h2⟩ => ?_)
  · obtain ⟨x, y⟩ := s
    dsimp only at h1 h2 ⊢
    subst h1 h2
    have hk : k < 6 := hk
    have e0 : (0 : Int) + (k : Int) = k := Int.zero_add _
    have bk := hv.2 k hk
    have lk : Bw β k + cw k * β k ≤ Bw β 6 := Bw_mono β (show k + 1 ≤ 6 by omega)
    have l1 := fN_B (v := v) (β := β) k fun i hi => (hv.2 i (by omega)).2
    have l2 := gN_B (v := v) (β := β) k fun i hi => (hv.2 i (by omega)).1
    walk_at "k"
    rw [e0]
    refine selD (fun h0 => ?_) (fun h0 => ?_)
    · obtain ⟨m, hm⟩ := Int.eq_ofNat_of_zero_le (a := at' v (k : Int)) (by omega)
      obtain ⟨f1, g1⟩ := fAt_pos hm
      have cm : cw k * m ≤ cw k * β k := Nat.mul_le_mul_left _ (by omega)
      have ra := raised_ok ((prm.getD k 1 : Nat) : Int) (cw k) m (prm_natAbsB k) (by omega)
      walk_at "k"
      refine ⟨_, prm_at hk, ?_⟩
      walk_at "k"
      rw [hm]
      refine call_eq ra ?_
      walk_at "k"
      refine And.intro (mul_b (natAbs_le_pow l1) (pow_b (prm_natAbsB k) m) (by omega)) ?_
      walk_at "k"
      refine hR (_, _) _ ⟨?_, ?_⟩ rfl
      · show (fN v k : Int) * ((prm.getD k 1 : Nat) : Int) ^ m = ((fN v k * fAt v k : Nat) : Int)
        rw [f1, Int.natCast_mul, Int.natCast_pow]
      · show (gN v k : Int) = ((gN v k * gAt v k : Nat) : Int)
        rw [g1, Nat.mul_one]
    · obtain ⟨m, hm⟩ := Int.eq_ofNat_of_zero_le (a := -at' v (k : Int)) (by omega)
      obtain ⟨g1, f1⟩ := fAt_neg hm
      have cm : cw k * m ≤ cw k * β k := Nat.mul_le_mul_left _ (by omega)
      have ra := raised_ok ((prm.getD k 1 : Nat) : Int) (cw k) m (prm_natAbsB k) (by omega)
      walk_at "k"
      refine ⟨_, prm_at hk, ?_⟩
      walk_at "k"
      rw [hm]
      refine call_eq ra ?_
      walk_at "k"
      refine And.intro (mul_b (natAbs_le_pow l2) (pow_b (prm_natAbsB k) m) (by omega)) ?_
      walk_at "k"
      refine hR (_, _) _ ⟨?_, ?_⟩ rfl
      · show (fN v k : Int) = ((fN v k * fAt v k : Nat) : Int)
        rw [f1, Nat.mul_one]
      · show (gN v k : Int) * ((prm.getD k 1 : Nat) : Int) ^ m = ((gN v k * gAt v k : Nat) : Int)
        rw [g1, Int.natCast_mul, Int.natCast_pow]
  · obtain ⟨x, y⟩ := s
    dsimp only at h1 h2 ⊢
    subst h1 h2
    walk_at "k"
    rfl
theorem law_fraction_okB (d : D) (v : List Int) (β : Nat → Nat) (hd : d = dT v ∨ d = dI v) (hv : vecB β v) (h : Bw β 6 + 2 ≤ 1000000) (h2 : ∀ k, k < 6 → cw k * (2 * β k) + 2 ≤ 1000000) : w__law_fraction [d] (· = .tuple [.int (fN v 6), .int (gN v 6)]) := by
  have line := line_big
  have hl := hv.1
  rcases hd with rfl | rfl <;> (
  walk_at "k"
  refine forR_st [2, 3] (fun (s : Int × Int) => [sI s.1, sI s.2]) (fun k s => s.1 = (fN v k : Int) ∧ s.2 = (gN v k : Int)) (1, 1) ⟨rfl, rfl⟩ rfl (fun k hk s ⟨h1, h2⟩ R hR => ?_) (fun s ⟨h1, h2⟩ => ?_)
  · obtain ⟨x, y⟩ := s
    dsimp only at h1 h2 ⊢
    subst h1 h2
    have hk : k < 6 := hk
    have e0 : (0 : Int) + (k : Int) = k := Int.zero_add _
    have bk := hv.2 k hk
    have lk : Bw β k + cw k * β k ≤ Bw β 6 := Bw_mono β (show k + 1 ≤ 6 by omega)
    have l1 := fN_B (v := v) (β := β) k fun i hi => (hv.2 i (by omega)).2
    have l2 := gN_B (v := v) (β := β) k fun i hi => (hv.2 i (by omega)).1
    have h2k := h2 k hk
    walk_at "k"
    rw [e0]
    refine selD (fun h0 => ?_) (fun h0 => ?_)
    · obtain ⟨m, hm⟩ := Int.eq_ofNat_of_zero_le (a := at' v (k : Int)) (by omega)
      obtain ⟨f1, g1⟩ := fAt_pos hm
      have cm : cw k * m ≤ cw k * β k := Nat.mul_le_mul_left _ (by omega)
      have cm2 : cw k * (2 * m) ≤ cw k * (2 * β k) := Nat.mul_le_mul_left _ (by omega)
      have ra := law_power_ok ((prm.getD k 1 : Nat) : Int) (cw k) m (prm_natAbsB k) (by omega)
      walk_at "k"
      refine ⟨_, prm_at hk, ?_⟩
      walk_at "k"
      rw [hm]
      refine call_eq ra ?_
      walk_at "k"
      refine And.intro (mul_b (natAbs_le_pow l1) (pow_b (prm_natAbsB k) m) (by omega)) ?_
      walk_at "k"
      refine hR (_, _) _ ⟨?_, ?_⟩ rfl
      · show (fN v k : Int) * ((prm.getD k 1 : Nat) : Int) ^ m = ((fN v k * fAt v k : Nat) : Int)
        rw [f1, Int.natCast_mul, Int.natCast_pow]
      · show (gN v k : Int) = ((gN v k * gAt v k : Nat) : Int)
        rw [g1, Nat.mul_one]
    · obtain ⟨m, hm⟩ := Int.eq_ofNat_of_zero_le (a := -at' v (k : Int)) (by omega)
      obtain ⟨g1, f1⟩ := fAt_neg hm
      have cm : cw k * m ≤ cw k * β k := Nat.mul_le_mul_left _ (by omega)
      have cm2 : cw k * (2 * m) ≤ cw k * (2 * β k) := Nat.mul_le_mul_left _ (by omega)
      have ra := law_power_ok ((prm.getD k 1 : Nat) : Int) (cw k) m (prm_natAbsB k) (by omega)
      walk_at "k"
      refine ⟨_, prm_at hk, ?_⟩
      walk_at "k"
      rw [hm]
      refine call_eq ra ?_
      walk_at "k"
      refine And.intro (mul_b (natAbs_le_pow l2) (pow_b (prm_natAbsB k) m) (by omega)) ?_
      walk_at "k"
      refine hR (_, _) _ ⟨?_, ?_⟩ rfl
      · show (fN v k : Int) = ((fN v k * fAt v k : Nat) : Int)
        rw [f1, Nat.mul_one]
      · show (gN v k : Int) * ((prm.getD k 1 : Nat) : Int) ^ m = ((gN v k * gAt v k : Nat) : Int)
        rw [g1, Int.natCast_mul, Int.natCast_pow]
  · obtain ⟨x, y⟩ := s
    dsimp only at h1 h2 ⊢
    subst h1 h2
    walk_at "k"
    rfl)
theorem law_times_ok (d : D) (v : List Int) (t : Int) (hd : d = dT v ∨ d = dI v) (ht : -(2 ^ 64) < t ∧ t < 2 ^ 64) (hl : v.length ≤ 100) : w__law_times [d, .int t] (· = dT (v.map (· * t))) := by
  have line := line_big
  rcases hd with rfl | rfl <;> (
  walk_at "k"
  refine lc_mapI (enc := PyData.int) (xs := v) (fun x => x * t) _ (by omega) (fun x hx acc K ha hK => ?_) rfl ?_
  · walk_at "k"
    refine And.intro (mul_r ht) ?_
    walk_at "k"
    exact hK
  walk_at "k")
theorem Rc_pos' {n d : Nat} {k : Int} (h : 0 ≤ k) : decide ((n : Int) < (d : Int) * 2 ^ k.toNat) = !decide (Rc n d k) := by
  rw [← Rc_pos h]
  by_cases z : (d : Int) * 2 ^ k.toNat ≤ n
  · rw [decide_eq_true z, decide_eq_false (by omega)]; rfl
  · rw [decide_eq_false z, decide_eq_true (by omega)]; rfl
theorem Rc_neg' {n d : Nat} {k : Int} (h : ¬ 0 ≤ k) : decide ((n : Int) * 2 ^ (-k).toNat < (d : Int)) = !decide (Rc n d k) := by
  rw [← Rc_neg h]
  by_cases z : (d : Int) ≤ n * 2 ^ (-k).toNat
  · rw [decide_eq_true z, decide_eq_false (by omega)]; rfl
  · rw [decide_eq_false z, decide_eq_true (by omega)]; rfl
theorem law_floor_log_ok (n d a : Nat) (hn : n ≤ 2 ^ a) (hd : d ≤ 2 ^ a) (h : 2 * a + 5 ≤ 1000000) : w__law_floor_log [.int n, .int d] (· = .int (flog n d)) := by
  have b1 : bitsN n ≤ a + 1 := bits_of (Nat.lt_of_le_of_lt hn (Nat.pow_lt_pow_right (by decide) (by omega)))
  have b2 : bitsN d ≤ a + 1 := bits_of (Nat.lt_of_le_of_lt hd (Nat.pow_lt_pow_right (by decide) (by omega)))
  unfold flog
  walk_at "k"
  rw [intBits_nat, intBits_nat]
  refine selD (fun h0 => ?_) (fun h0 => ?_)
  · obtain ⟨m, hm⟩ := Int.eq_ofNat_of_zero_le h0
    have ra := law_power_ok 2 1 m (by decide) (by omega)
    have key := Rc_pos' (n := n) (d := d) (k := (m : Int)) (by omega)
    rw [Int.toNat_natCast, ← hm] at key
    rw [← hm] at ra
    walk_at "k"
    refine call_eq ra ?_
    walk_at "k"
    refine And.intro (mul_b (natAbs_le_pow hd) (natAbs_two_pow m) (by omega)) ?_
    walk_at "k"
    rw [key]
    by_cases z : Rc n d ((bitsN n : Int) - bitsN d)
    · rw [if_pos z, decide_eq_true z]
      walk_at "k"
      refine selD (fun h1 => by exfalso; omega) (fun _ => ?_)
      walk_at "k"
      rfl
    · rw [if_neg z, decide_eq_false z]
      walk_at "k"
  · obtain ⟨m, hm⟩ := Int.eq_ofNat_of_zero_le (a := -((bitsN n : Int) - bitsN d)) (by omega)
    have ra := law_power_ok 2 1 m (by decide) (by omega)
    have key := Rc_neg' (n := n) (d := d) (k := (bitsN n : Int) - bitsN d) h0
    rw [hm, Int.toNat_natCast] at key
    rw [← hm] at ra
    walk_at "k"
    refine selD (fun h1 => ?_) (fun h1 => by exfalso; omega)
    walk_at "k"
    refine call_eq ra ?_
    walk_at "k"
    refine And.intro (mul_b (natAbs_le_pow hn) (natAbs_two_pow m) (by omega)) ?_
    walk_at "k"
    rw [key]
    by_cases z : Rc n d ((bitsN n : Int) - bitsN d)
    · rw [if_pos z, decide_eq_true z]
      walk_at "k"
      rfl
    · rw [if_neg z, decide_eq_false z]
      walk_at "k"
/-- twice a square is no square -/
theorem no_sq2 : ∀ (a b : Nat), a * a = 2 * (b * b) → b = 0
  | a, b => fun h => by
    by_cases hb : b = 0
    · exact hb
    · exfalso
      have ea : a % 2 = 0 := by
        rcases Nat.mod_two_eq_zero_or_one a with z | z
        · exact z
        · have q : (a * a) % 2 = 1 := by rw [Nat.mul_mod, z]
          omega
      obtain ⟨c, rfl⟩ : ∃ c, a = 2 * c := ⟨a / 2, by omega⟩
      have h2 : b * b = 2 * (c * c) := by
        rw [show 2 * c * (2 * c) = 2 * (2 * (c * c)) by rw [Nat.mul_mul_mul_comm]; omega] at h
        omega
      have lt : c < b := by
        rcases Nat.lt_or_ge c b with z | z
        · exact z
        · have : b * b ≤ c * c := Nat.mul_le_mul z z
          have p : 0 < b * b := Nat.mul_pos (by omega) (by omega)
          omega
      have z := no_sq2 b c h2
      subst z
      have : 0 < b * b := Nat.mul_pos (by omega) (by omega)
      omega
termination_by _ b => b
theorem sq_odd (b m : Nat) : b * b * 2 ^ (2 * m + 1) = 2 * (b * 2 ^ m * (b * 2 ^ m)) := by
  rw [Nat.mul_mul_mul_comm, ← Nat.pow_add, Nat.pow_succ, ← Nat.mul_assoc, Nat.mul_comm _ 2, show 2 * m = m + m by omega]
/-- t is the nearest whole number to half the logarithm -/
def IsNr (n d : Nat) (t : Int) : Prop := Rc n d (2 * t - 1) ∧ ¬ Rc n d (2 * t + 1)
theorem IsNr.uniq {n d : Nat} {t s : Int} (h : IsNr n d t) (g : IsNr n d s) : t = s := by
  rcases Int.lt_trichotomy t s with z | z | z
  · exact absurd (Rc_anti (by omega) g.1) h.2
  · exact z
  · exact absurd (Rc_anti (by omega) h.1) g.2
theorem IsFl.nr {n d : Nat} {k : Int} (h : IsFl n d k) : IsNr n d ((k + 1) / 2) := ⟨Rc_anti (by omega) h.1, fun r => h.2 (Rc_anti (by omega) r)⟩
theorem Rc_swap {n d : Nat} {k : Int} : Rc d n (-k) ↔ n * 2 ^ (-k).toNat ≤ d * 2 ^ k.toNat := by
  unfold Rc
  rw [Int.neg_neg]
theorem IsNr.swap {a b : Nat} {t : Int} (ha : 0 < a) (hb : 0 < b) (h : IsNr (a * a) (b * b) t) : IsNr (b * b) (a * a) (-t) := by
  obtain ⟨h1, h2⟩ := h
  constructor
  · rw [show 2 * -t - 1 = -(2 * t + 1) by omega, Rc_swap]
    unfold Rc at h2
    omega
  · rw [show 2 * -t + 1 = -(2 * t - 1) by omega, Rc_swap]
    intro q
    unfold Rc at h1
    have e := Nat.le_antisymm h1 q
    by_cases h0 : 0 < t
    · obtain ⟨m, hm⟩ := Int.eq_ofNat_of_zero_le (a := t - 1) (by omega)
      rw [show (2 * t - 1).toNat = 2 * m + 1 by omega, show (-(2 * t - 1)).toNat = 0 by omega, Nat.pow_zero, Nat.mul_one] at e
      have z := no_sq2 a (b * 2 ^ m) (by rw [← e, sq_odd])
      have : 0 < b * 2 ^ m := Nat.mul_pos hb (two_pos m)
      omega
    · obtain ⟨m, hm⟩ := Int.eq_ofNat_of_zero_le (a := -t) (by omega)
      rw [show (2 * t - 1).toNat = 0 by omega, show (-(2 * t - 1)).toNat = 2 * m + 1 by omega, Nat.pow_zero, Nat.mul_one] at e
      have z := no_sq2 b (a * 2 ^ m) (by rw [e, sq_odd])
      have : 0 < a * 2 ^ m := Nat.mul_pos ha (two_pos m)
      omega
/-- the nearest number of steps -/
def nst (D : Int) (v : List Int) : Int := (oct (v.map (· * (2 * D))) + 1) / 2
theorem at'_mapz {f : Int → Int} (hf : f 0 = 0) (v : List Int) (i : Int) : at' (v.map f) i = f (at' v i) := by
  unfold at'
  rw [List.getD_eq_getElem?_getD, List.getD_eq_getElem?_getD, List.getElem?_map]
  cases v[i.toNat]? with
  | none => exact hf.symm
  | some x => rfl
theorem dbl_toNat (x : Int) : (x * 2).toNat = x.toNat + x.toNat := by omega
theorem fAt_sq (D : Int) (v : List Int) (i : Nat) : fAt (v.map (· * (2 * D))) i = fAt (v.map (· * D)) i * fAt (v.map (· * D)) i := by
  unfold fAt
  rw [at'_mapz (by simp), at'_mapz (by simp), ← Nat.pow_add]
  congr 1
  rw [show at' v i * (2 * D) = at' v i * D * 2 by rw [Int.mul_assoc, Int.mul_comm 2 D]]
  exact dbl_toNat _
theorem gAt_sq (D : Int) (v : List Int) (i : Nat) : gAt (v.map (· * (2 * D))) i = gAt (v.map (· * D)) i * gAt (v.map (· * D)) i := by
  unfold gAt
  rw [at'_mapz (by simp), at'_mapz (by simp), ← Nat.pow_add]
  congr 1
  rw [show at' v i * (2 * D) = at' v i * D * 2 by rw [Int.mul_assoc, Int.mul_comm 2 D], ← Int.neg_mul]
  exact dbl_toNat _
theorem fN_sq (D : Int) (v : List Int) : ∀ n, fN (v.map (· * (2 * D))) n = fN (v.map (· * D)) n * fN (v.map (· * D)) n
  | 0 => rfl
  | n + 1 => by
    show fN _ n * fAt _ n = _
    rw [fN_sq D v n, fAt_sq, Nat.mul_mul_mul_comm]
    rfl
theorem gN_sq (D : Int) (v : List Int) : ∀ n, gN (v.map (· * (2 * D))) n = gN (v.map (· * D)) n * gN (v.map (· * D)) n
  | 0 => rfl
  | n + 1 => by
    show gN _ n * gAt _ n = _
    rw [gN_sq D v n, gAt_sq, Nat.mul_mul_mul_comm]
    rfl
theorem nst_is (D : Int) (v : List Int) : IsNr (fN (v.map (· * (2 * D))) 6) (gN (v.map (· * (2 * D))) 6) (nst D v) := (flog_is (fN_pos _ _) (gN_pos _ _)).nr
theorem fN_neg (v : List Int) : ∀ n, fN (v.map (- ·)) n = gN v n
  | 0 => rfl
  | n + 1 => by
    show fN _ n * fAt _ n = gN v n * gAt v n
    rw [fN_neg v n]
    unfold fAt gAt
    rw [at'_mapz (by simp)]
theorem gN_neg' (v : List Int) : ∀ n, gN (v.map (- ·)) n = fN v n
  | 0 => rfl
  | n + 1 => by
    show gN _ n * gAt _ n = fN v n * fAt v n
    rw [gN_neg' v n]
    unfold fAt gAt
    rw [at'_mapz (by simp), Int.neg_neg]
theorem nst_neg (D : Int) (v : List Int) : nst D (v.map (- ·)) = -nst D v := by
  have h := nst_is D v
  rw [fN_sq, gN_sq] at h
  have g := nst_is D (v.map (- ·))
  have e : (v.map (- ·)).map (· * (2 * D)) = (v.map (· * (2 * D))).map (- ·) := by simp [List.map_map, Function.comp_def, Int.neg_mul]
  rw [e, fN_neg, gN_neg', fN_sq, gN_sq] at g
  exact g.uniq (h.swap (fN_pos _ _) (gN_pos _ _))
/-- the difference of two vectors -/
def qv (v w : List Int) : List Int := (List.range 6).map fun (k : Nat) => at' v k - at' w k
theorem qv_at (v w : List Int) {k : Nat} (h : k < 6) : at' (qv v w) k = at' v k - at' w k := by
  unfold qv
  rw [at'_range (f := fun (k : Nat) => at' v k - at' w k) (by omega) (by omega), Int.toNat_natCast]
theorem qv_len (v w : List Int) : (qv v w).length = 6 := by simp [qv]
theorem quotient_ok (v w : List Int) (hv : v.length = 6) (hw : w.length = 6) : w_quotient [dT v, dT w] (· = dT (qv v w)) := by
  have line := line_big
  walk_at "k"
  refine lc_rgI (fun (k : Nat) => at' v k - at' w k) (qv v w) (by omega) (fun k hk acc K ha hK => ?_) rfl ?_
  · have hk : k < 6 := hk
    have e0 : (0 : Int) + (k : Int) = k := Int.zero_add _
    walk_at "k"
    rw [e0]
    exact hK
  walk_at "k"
def sgn (a b : Nat) : Int := if a < b then -1 else if b < a then 1 else 0
def cmpV (v w : List Int) : Int := sgn (fN (qv v w) 6) (gN (qv v w) 6)
theorem compare_okB (v w : List Int) (β : Nat → Nat) (hv : v.length = 6) (hw : w.length = 6) (hq : vecB β (qv v w)) (h : Bw β 6 + 2 ≤ 1000000) : w_compare [dT v, dT w] (· = .int (cmpV v w)) := by
  have fr := fraction_of_okB (qv v w) β hq h
  unfold cmpV sgn
  generalize fN (qv v w) 6 = x at fr ⊢
  generalize gN (qv v w) 6 = y at fr ⊢
  walk_at "k"
  refine call_eq (quotient_ok v w hv hw) ?_
  walk_at "k"
  refine call_eq fr ?_
  walk_at "k"
  refine selD (fun h1 => ?_) (fun h1 => ?_)
  · rw [if_pos (by omega)]
    walk_at "k"
  · rw [if_neg (by omega)]
    walk_at "k"
    refine selD (fun h2 => ?_) (fun h2 => ?_)
    · rw [if_pos (by omega)]
      walk_at "k"
      try rfl
    · rw [if_neg (by omega)]
      walk_at "k"
      try rfl
theorem vec6 {v : List Int} (h : v.length = 6) : ∃ a b c d e f, v = [a, b, c, d, e, f] := by
  match v, h with
  | [a, b, c, d, e, f], _ => exact ⟨a, b, c, d, e, f, rfl⟩
structure V6 where
  a : Int
  b : Int
  c : Int
  d : Int
  e : Int
  f : Int
def V6.l (x : V6) : List Int := [x.a, x.b, x.c, x.d, x.e, x.f]
abbrev dV (x : V6) : D := dT x.l
def V6.of (v : List Int) : V6 := ⟨at' v 0, at' v 1, at' v 2, at' v 3, at' v 4, at' v 5⟩
theorem V6.of_l {v : List Int} (h : v.length = 6) : (V6.of v).l = v := by
  obtain ⟨a, b, c, d, e, f, rfl⟩ := vec6 h
  rfl
/-- vectors within b, their 2 * D-folds -/
def vin (b : Nat) (x : V6) : Prop := ∀ z ∈ x.l, -(b : Int) ≤ z ∧ z ≤ b
theorem vin_at {b : Nat} {x : V6} (h : vin b x) (i : Int) : -(b : Int) ≤ at' x.l i ∧ at' x.l i ≤ b := by
  unfold at'
  rw [List.getD_eq_getElem?_getD]
  cases e : x.l[i.toNat]? with
  | none => simp
  | some z => exact h z (List.mem_of_getElem? e)
theorem mul_bd {x : Int} {b c : Nat} {D : Int} (h : -(b : Int) ≤ x ∧ x ≤ b) (hD : 0 ≤ D ∧ D ≤ c) : -((b * c : Nat) : Int) ≤ x * D ∧ x * D ≤ ((b * c : Nat) : Int) := by
  obtain ⟨d, rfl⟩ := Int.eq_ofNat_of_zero_le hD.1
  have u : x * (d : Int) ≤ (b : Int) * d := Int.mul_le_mul_of_nonneg_right h.2 (by omega)
  have l : -(b : Int) * d ≤ x * (d : Int) := Int.mul_le_mul_of_nonneg_right h.1 (by omega)
  have q : b * d ≤ b * c := Nat.mul_le_mul_left b (by omega)
  rw [Int.neg_mul] at l
  have e : (b : Int) * d = ((b * d : Nat) : Int) := by rw [Int.natCast_mul]
  omega
theorem Bw_const (b : Nat) : Bw (fun _ => b) 6 = 17 * b := by
  show 0 + 1 * b + 2 * b + 3 * b + 3 * b + 4 * b + 4 * b = 17 * b
  omega
/-! equal parts of a fraction: no exponents -/
theorem prm_cop {j k : Nat} (hj : j < 6) (hk : k < 6) (h : j ≠ k) : Nat.Coprime (prm.getD j 1) (prm.getD k 1) := by
  have a : j = 0 ∨ j = 1 ∨ j = 2 ∨ j = 3 ∨ j = 4 ∨ j = 5 := by omega
  have b : k = 0 ∨ k = 1 ∨ k = 2 ∨ k = 3 ∨ k = 4 ∨ k = 5 := by omega
  rcases a with rfl | rfl | rfl | rfl | rfl | rfl <;> rcases b with rfl | rfl | rfl | rfl | rfl | rfl <;> first | exact absurd rfl h | decide
theorem cop_gN {v : List Int} {k : Nat} (hk : k < 6) (h : 0 ≤ at' v (k : Int)) : ∀ n, n ≤ 6 → Nat.Coprime (prm.getD k 1) (gN v n)
  | 0, _ => Nat.coprime_one_right _
  | n + 1, hn => by
    show Nat.Coprime _ (gN v n * gAt v n)
    refine Nat.Coprime.mul_right (cop_gN hk h n (by omega)) ?_
    unfold gAt
    by_cases e : n = k
    · subst e
      rw [show (-(at' v (n : Int))).toNat = 0 by omega, Nat.pow_zero]
      exact Nat.coprime_one_right _
    · exact Nat.Coprime.pow_right _ (prm_cop hk (by omega) (Ne.symm e))
theorem dvd_fN {v : List Int} {k : Nat} (h : 0 < at' v (k : Int)) : ∀ n, k < n → prm.getD k 1 ∣ fN v n
  | 0, h0 => by omega
  | n + 1, h0 => by
    show _ ∣ fN v n * fAt v n
    by_cases e : n = k
    · subst e
      refine Nat.dvd_trans ?_ (Nat.dvd_mul_left _ _)
      unfold fAt
      obtain ⟨m, hm⟩ : ∃ m, (at' v (n : Int)).toNat = m + 1 := ⟨(at' v (n : Int)).toNat - 1, by omega⟩
      rw [hm, Nat.pow_succ]
      exact Nat.dvd_mul_left _ _
    · exact Nat.dvd_trans (dvd_fN h n (by omega)) (Nat.dvd_mul_right _ _)
theorem prm_ne1 {k : Nat} (hk : k < 6) : prm.getD k 1 ≠ 1 := by
  have b : k = 0 ∨ k = 1 ∨ k = 2 ∨ k = 3 ∨ k = 4 ∨ k = 5 := by omega
  rcases b with rfl | rfl | rfl | rfl | rfl | rfl <;> decide
theorem fg_le0 {v : List Int} (h : fN v 6 = gN v 6) {k : Nat} (hk : k < 6) : at' v (k : Int) ≤ 0 := by
  rcases Int.lt_or_le 0 (at' v (k : Int)) with z | z
  · exfalso
    have d := dvd_fN z 6 hk
    rw [h] at d
    have c := cop_gN hk (Int.le_of_lt z) 6 (Nat.le_refl _)
    exact prm_ne1 hk (Nat.Coprime.eq_one_of_dvd c d)
  · exact z
theorem fg_eq0 {v : List Int} (hl : v.length = 6) (h : fN v 6 = gN v 6) : v = [0, 0, 0, 0, 0, 0] := by
  have a : ∀ k : Nat, k < 6 → at' v (k : Int) = 0 := fun k hk => by
    have u := fg_le0 h hk
    have h' : fN (v.map (- ·)) 6 = gN (v.map (- ·)) 6 := by rw [fN_neg, gN_neg', h]
    have w := fg_le0 h' hk
    rw [at'_mapz (by simp)] at w
    omega
  obtain ⟨a0, a1, a2, a3, a4, a5, rfl⟩ := vec6 hl
  have q0 : a0 = 0 := a 0 (by decide)
  have q1 : a1 = 0 := a 1 (by decide)
  have q2 : a2 = 0 := a 2 (by decide)
  have q3 : a3 = 0 := a 3 (by decide)
  have q4 : a4 = 0 := a 4 (by decide)
  have q5 : a5 = 0 := a 5 (by decide)
  subst q0 q1 q2 q3 q4 q5
  rfl
theorem cross_lt {x y P Q : Nat} (hx : 0 < x) (hy : 0 < y) (hP : 0 < P) (hQ : 0 < Q) (h : x * P = y * Q) : x < y ↔ Q < P := by
  constructor
  · intro l
    rcases Nat.lt_or_ge Q P with z | z
    · exact z
    · have a : x * P ≤ x * Q := Nat.mul_le_mul_left x z
      have b : x * Q < y * Q := Nat.mul_lt_mul_of_pos_right l hQ
      omega
  · intro l
    rcases Nat.lt_or_ge x y with z | z
    · exact z
    · have a : y * P ≤ x * P := Nat.mul_le_mul_right P z
      have b : y * Q < y * P := Nat.mul_lt_mul_of_pos_left l hy
      omega
/-! the vectors as an ordered group -/
def V6.add (x y : V6) : V6 := ⟨x.a + y.a, x.b + y.b, x.c + y.c, x.d + y.d, x.e + y.e, x.f + y.f⟩
def V6.neg (x : V6) : V6 := ⟨-x.a, -x.b, -x.c, -x.d, -x.e, -x.f⟩
def V6.mul (x : V6) (t : Int) : V6 := ⟨x.a * t, x.b * t, x.c * t, x.d * t, x.e * t, x.f * t⟩
def V6.oct (t : Int) : V6 := ⟨t, 0, 0, 0, 0, 0⟩
theorem V6.ext' {x y : V6} (h0 : x.a = y.a) (h1 : x.b = y.b) (h2 : x.c = y.c) (h3 : x.d = y.d) (h4 : x.e = y.e) (h5 : x.f = y.f) : x = y := by
  cases x; cases y; simp_all
theorem pow_cross' (p : Nat) (x y : Int) : p ^ (x + y).toNat * (p ^ (-x).toNat * p ^ (-y).toNat) = p ^ (-(x + y)).toNat * (p ^ x.toNat * p ^ y.toNat) := by
  rw [← Nat.pow_add, ← Nat.pow_add, ← Nat.pow_add, ← Nat.pow_add]
  congr 1
  omega
theorem V6.at_add (x y : V6) {n : Nat} (h : n < 6) : at' (x.add y).l (n : Int) = at' x.l (n : Int) + at' y.l (n : Int) := by
  have : n = 0 ∨ n = 1 ∨ n = 2 ∨ n = 3 ∨ n = 4 ∨ n = 5 := by omega
  rcases this with rfl | rfl | rfl | rfl | rfl | rfl <;> rfl
theorem crossA (x y : V6) : ∀ n, n ≤ 6 → fN (x.add y).l n * (gN x.l n * gN y.l n) = gN (x.add y).l n * (fN x.l n * fN y.l n)
  | 0, _ => rfl
  | n + 1, h => by
    have ih := crossA x y n (by omega)
    have st : fAt (x.add y).l n * (gAt x.l n * gAt y.l n) = gAt (x.add y).l n * (fAt x.l n * fAt y.l n) := by
      unfold fAt gAt
      rw [V6.at_add x y (by omega)]
      exact pow_cross' _ _ _
    show fN (x.add y).l n * fAt (x.add y).l n * (gN x.l n * gAt x.l n * (gN y.l n * gAt y.l n)) = gN (x.add y).l n * gAt (x.add y).l n * (fN x.l n * fAt x.l n * (fN y.l n * fAt y.l n))
    rw [Nat.mul_mul_mul_comm (gN x.l n), Nat.mul_mul_mul_comm (fN (x.add y).l n), ih, st, Nat.mul_mul_mul_comm (fN x.l n), Nat.mul_mul_mul_comm (gN (x.add y).l n)]
/-- the ratio is at least 1 -/
def Pos (x : V6) : Prop := gN x.l 6 ≤ fN x.l 6
instance (x : V6) : Decidable (Pos x) := inferInstanceAs (Decidable (_ ≤ _))
theorem not_pos {x : V6} : ¬ Pos x ↔ fN x.l 6 < gN x.l 6 := Nat.not_le
theorem Pos_sum (x y : V6) : Pos (x.add y) ↔ gN x.l 6 * gN y.l 6 ≤ fN x.l 6 * fN y.l 6 := by
  have c := cross_lt (fN_pos _ 6) (gN_pos _ 6) (Nat.mul_pos (gN_pos x.l 6) (gN_pos y.l 6)) (Nat.mul_pos (fN_pos x.l 6) (fN_pos y.l 6)) (crossA x y 6 (Nat.le_refl _))
  unfold Pos
  omega
theorem Pos.add {x y : V6} (h : Pos x) (g : Pos y) : Pos (x.add y) := (Pos_sum x y).mpr (Nat.mul_le_mul h g)
theorem V6.neg_l (x : V6) : x.neg.l = x.l.map (- ·) := rfl
theorem Pos_neg (x : V6) : Pos x.neg ↔ fN x.l 6 ≤ gN x.l 6 := by
  unfold Pos
  rw [V6.neg_l, fN_neg, gN_neg']
theorem Pos.total (x : V6) : Pos x ∨ Pos x.neg := by
  rw [Pos_neg]
  unfold Pos
  omega
theorem Pos.zero {x : V6} (h : Pos x) (g : Pos x.neg) : x = V6.oct 0 := by
  rw [Pos_neg] at g
  have e := fg_eq0 rfl (Nat.le_antisymm g h)
  cases x
  simp [V6.l] at e
  simp [V6.oct, e]
theorem Pos.of_not {x : V6} (h : ¬ Pos x) : Pos x.neg := (Pos.total x).resolve_left h
theorem oct_f (k : Int) : fN (V6.oct k).l 6 = 2 ^ k.toNat := by
  show 1 * 2 ^ k.toNat * 3 ^ (0 : Int).toNat * 5 ^ (0 : Int).toNat * 7 ^ (0 : Int).toNat * 11 ^ (0 : Int).toNat * 13 ^ (0 : Int).toNat = _
  simp
theorem oct_g (k : Int) : gN (V6.oct k).l 6 = 2 ^ (-k).toNat := by
  show 1 * 2 ^ (-k).toNat * 3 ^ (-0 : Int).toNat * 5 ^ (-0 : Int).toNat * 7 ^ (-0 : Int).toNat * 11 ^ (-0 : Int).toNat * 13 ^ (-0 : Int).toNat = _
  simp
theorem Rc_Pos (x : V6) (k : Int) : Rc (fN x.l 6) (gN x.l 6) k ↔ Pos (x.add (V6.oct (-k))) := by
  rw [Pos_sum, oct_f, oct_g, Int.neg_neg]
  exact Iff.rfl
theorem mul_l' (x : V6) (t : Int) : (x.mul t).l = x.l.map (· * t) := rfl
theorem Pos_of_eq {x y : V6} (h : Pos x) (e : x = y) : Pos y := e ▸ h
theorem oct_pos {k : Int} (h : 0 ≤ k) : Pos (V6.oct k) := by
  unfold Pos
  rw [oct_f, oct_g, show (-k).toNat = 0 by omega]
  exact Nat.pow_pos (by decide)
theorem add0 (x : V6) : x.add (V6.oct 0) = x := by
  apply V6.ext' <;> simp [V6.add, V6.oct]
def V6.sub (x y : V6) : V6 := ⟨x.a - y.a, x.b - y.b, x.c - y.c, x.d - y.d, x.e - y.e, x.f - y.f⟩
theorem qv_sub (x y : V6) : qv x.l y.l = (x.sub y).l := rfl
theorem pos_zero : Pos (V6.oct 0) := oct_pos (Int.le_refl 0)
theorem Pos.mulN {p : V6} (h : Pos p) : ∀ k : Nat, Pos (p.mul k)
  | 0 => Pos_of_eq pos_zero (by apply V6.ext' <;> simp [V6.mul, V6.oct])
  | k + 1 => Pos_of_eq ((h.mulN k).add h) (by apply V6.ext' <;> simp [V6.mul, V6.add] <;> grind)
theorem Pos.mulI {p : V6} (h : Pos p) {k : Int} (hk : 0 ≤ k) : Pos (p.mul k) := by
  obtain ⟨n, rfl⟩ := Int.eq_ofNat_of_zero_le hk
  exact h.mulN n
/-- the period goes w times into t turns -/
def IsW (g p : V6) (t w : Int) : Prop := Pos ((g.mul t).sub (p.mul w)) ∧ ¬ Pos ((g.mul t).sub (p.mul (w + 1)))
theorem pos_less {g p : V6} (hp : Pos p) {t v w : Int} (h : w ≤ v) (q : Pos ((g.mul t).sub (p.mul v))) : Pos ((g.mul t).sub (p.mul w)) :=
  Pos_of_eq (q.add (hp.mulI (k := v - w) (by omega))) (by apply V6.ext' <;> simp [V6.mul, V6.add, V6.sub] <;> grind)
theorem IsW.uniq {g p : V6} (hp : Pos p) {t v w : Int} (h : IsW g p t v) (k : IsW g p t w) : v = w := by
  rcases Int.lt_trichotomy v w with z | z | z
  · exact absurd (pos_less hp (by omega) k.1) h.2
  · exact z
  · exact absurd (pos_less hp (by omega) h.1) k.2
theorem IsW.ex {g p : V6} {t : Int} (h0 : Pos ((g.mul t).sub (p.mul 0))) : ∀ n : Nat, ¬ Pos ((g.mul t).sub (p.mul n)) → ∃ w : Int, 0 ≤ w ∧ w < n ∧ IsW g p t w
  | 0, h => absurd h0 h
  | n + 1, h => by
    by_cases q : Pos ((g.mul t).sub (p.mul n))
    · exact ⟨n, by omega, by omega, q, by simpa using h⟩
    · obtain ⟨w, a, b, c⟩ := IsW.ex h0 n q
      exact ⟨w, a, by omega, c⟩
open Classical in
noncomputable def wd (g p : V6) (t : Int) : Int := if h : ∃ w, IsW g p t w then h.choose else 0
theorem wd_eq {g p : V6} (hp : Pos p) {t w : Int} (h : IsW g p t w) : wd g p t = w := by
  have e : ∃ w, IsW g p t w := ⟨w, h⟩
  unfold wd
  rw [dif_pos e]
  exact IsW.uniq hp e.choose_spec h
theorem oct_is (x : V6) : Pos (x.add (V6.oct (-oct x.l))) ∧ ¬ Pos (x.add (V6.oct (-(oct x.l + 1)))) := by
  have := flog_is (fN_pos x.l 6) (gN_pos x.l 6)
  exact ⟨(Rc_Pos x _).mp this.1, fun q => this.2 ((Rc_Pos x _).mpr q)⟩
theorem oct_ge {x : V6} {k : Int} (h : Pos (x.add (V6.oct (-k)))) : k ≤ oct x.l := by
  rcases Int.lt_or_le (oct x.l) k with z | z
  · exfalso
    refine (oct_is x).2 (Pos_of_eq (h.add (oct_pos (k := k - (oct x.l + 1)) (by omega))) ?_)
    apply V6.ext' <;> simp [V6.add, V6.oct] <;> omega
  · exact z
/-- a spiral with its bounds -/
structure Sp (g p : V6) (b c T O : Nat) : Prop where
  oO : ∀ t : Int, 0 ≤ t ∧ t ≤ T → oct (g.mul t).l ≤ O
  O1 : O ≤ 50000
  g1 : ¬ Pos g.neg
  p2 : Pos (p.add (V6.oct (-1)))
  gb : vin b g
  pb : vin c p
  h : c * (O + 2) + b * T ≤ 58000
  T1 : T ≤ 1000
  bT : b * T ≤ 20000
  c1 : c ≤ 1000
theorem Sp.pp {g p : V6} {b c T O : Nat} (s : Sp g p b c T O) : Pos p := Pos_of_eq (s.p2.add (oct_pos (k := 1) (by decide))) (by apply V6.ext' <;> simp [V6.add, V6.oct] <;> omega)
theorem Sp.gp {g p : V6} {b c T O : Nat} (s : Sp g p b c T O) : Pos g := (Pos.total g).resolve_right s.g1
theorem vin_mulI {b m : Nat} {x : V6} {t : Int} (h : vin b x) (ht : 0 ≤ t ∧ t ≤ m) : vin (b * m) (x.mul t) := fun z hz => by
  rw [mul_l'] at hz
  obtain ⟨y, hy, rfl⟩ := List.mem_map.mp hz
  exact mul_bd (h y hy) ht
theorem vin_sub {b c : Nat} {x y : V6} (h : vin b x) (g : vin c y) : vin (b + c) (x.sub y) := fun z hz => by
  obtain ⟨a0, a1, a2, a3, a4, a5⟩ := x
  obtain ⟨b0, b1, b2, b3, b4, b5⟩ := y
  have x0 := h a0 (by simp [V6.l])
  have x1 := h a1 (by simp [V6.l])
  have x2 := h a2 (by simp [V6.l])
  have x3 := h a3 (by simp [V6.l])
  have x4 := h a4 (by simp [V6.l])
  have x5 := h a5 (by simp [V6.l])
  have y0 := g b0 (by simp [V6.l])
  have y1 := g b1 (by simp [V6.l])
  have y2 := g b2 (by simp [V6.l])
  have y3 := g b3 (by simp [V6.l])
  have y4 := g b4 (by simp [V6.l])
  have y5 := g b5 (by simp [V6.l])
  simp only [V6.l, V6.sub, List.mem_cons, List.not_mem_nil, or_false] at hz
  rcases hz with rfl | rfl | rfl | rfl | rfl | rfl <;> omega
theorem vin.up {b c : Nat} {x : V6} (h : vin b x) (hb : b ≤ c) : vin c x := fun z hz => by have := h z hz; omega
theorem vin.vec {b : Nat} {x : V6} (h : vin b x) : vec b x.l := ⟨rfl, vin_at h⟩
theorem vin.vecB {b : Nat} {x : V6} (h : vin b x) : vecB (fun _ => b) x.l := ⟨rfl, fun i _ => vin_at h i⟩
theorem oct_le {b : Nat} {x : V6} (h : vin b x) : oct x.l ≤ 17 * b + 1 := by
  have := (flog_b (n := fN x.l 6) (d := gN x.l 6) (a := 17 * b + 1) (Nat.lt_of_le_of_lt (fN6_lt fun i => (vin_at h i).2) (Nat.pow_lt_pow_right (by decide) (by omega))) (Nat.lt_of_le_of_lt (gN6_lt fun i => (vin_at h i).1) (Nat.pow_lt_pow_right (by decide) (by omega)))).2
  unfold oct
  omega
/-- as often as the octaves tell, and once more, is too often -/
theorem too_high {g p : V6} {b c T O : Nat} (s : Sp g p b c T O) {t : Int} (ht : 0 ≤ t) : 0 ≤ oct (g.mul t).l ∧ 1 ≤ oct p.l ∧ ¬ Pos ((g.mul t).sub (p.mul (oct (g.mul t).l / oct p.l + 1))) := by
  have o0 : 0 ≤ oct (g.mul t).l := oct_ge (Pos_of_eq (s.gp.mulI ht) (by apply V6.ext' <;> simp [V6.add, V6.oct]))
  have o1 : 1 ≤ oct p.l := oct_ge s.p2
  refine ⟨o0, o1, fun q => (oct_is (g.mul t)).2 ?_⟩
  have d := Int.mul_ediv_add_emod (oct (g.mul t).l) (oct p.l)
  have m := Int.emod_lt_of_pos (oct (g.mul t).l) (b := oct p.l) (by omega)
  have q0 : 0 ≤ oct (g.mul t).l / oct p.l := Int.ediv_nonneg o0 (by omega)
  have r := ((oct_is p).1).mulI (k := oct (g.mul t).l / oct p.l + 1) (by omega)
  generalize oct (g.mul t).l / oct p.l = k at *
  have hh : oct (g.mul t).l + 1 ≤ oct p.l * (k + 1) := by rw [Int.mul_add]; omega
  refine Pos_of_eq ((q.add r).add (oct_pos (k := oct p.l * (k + 1) - (oct (g.mul t).l + 1)) (by omega))) ?_
  apply V6.ext' <;> simp [V6.add, V6.sub, V6.mul, V6.oct] <;> grind
theorem wd_is {g p : V6} {b c T O : Nat} (s : Sp g p b c T O) {t : Int} (ht : 0 ≤ t ∧ t ≤ T) : IsW g p t (wd g p t) ∧ 0 ≤ wd g p t ∧ wd g p t ≤ O ∧ wd g p t ≤ oct (g.mul t).l := by
  obtain ⟨o0, o1, th⟩ := too_high s ht.1
  have ol := s.oO t ht
  have hq : oct (g.mul t).l / oct p.l ≤ oct (g.mul t).l := Int.ediv_le_self _ o0
  have q0 : 0 ≤ oct (g.mul t).l / oct p.l := Int.ediv_nonneg o0 (by omega)
  obtain ⟨n, hn⟩ := Int.eq_ofNat_of_zero_le q0
  rw [hn] at th hq
  obtain ⟨w, w0, w1, hw⟩ := IsW.ex (g := g) (p := p) (t := t) (Pos_of_eq (s.gp.mulI ht.1) (by apply V6.ext' <;> simp [V6.sub, V6.mul])) (n + 1) (by simpa using th)
  rw [wd_eq s.pp hw]
  exact ⟨hw, w0, by omega, by omega⟩
theorem neg_sub (x y : V6) : (x.sub y).neg = y.sub x := by
  apply V6.ext' <;> simp [V6.neg, V6.sub] <;> omega
theorem cmp_le (x y : V6) : cmpV x.l y.l ≤ 0 ↔ Pos (y.sub x) := by
  rw [← neg_sub, Pos_neg, ← qv_sub]
  unfold cmpV sgn
  split
  · constructor <;> omega
  · split
    · constructor <;> omega
    · constructor <;> omega
/-- the left over and the nearness -/
noncomputable def lov (g p : V6) (t : Int) : V6 := (g.mul t).sub (p.mul (wd g p t))
noncomputable def nrv (g p : V6) (t : Int) : V6 := if Pos ((p.sub (lov g p t)).sub (lov g p t)) then lov g p t else p.sub (lov g p t)
theorem sub_ok (x y : V6) : w_quotient [dV x, dV y] (· = dV (x.sub y)) := quotient_ok x.l y.l rfl rfl
theorem pow6_ok (x : V6) (t : Int) (ht : -(2 ^ 64) < t ∧ t < 2 ^ 64) : w_power [dV x, .int t] (· = dV (x.mul t)) := power_ok x.l t ht (Nat.le_of_lt_succ (by show 6 < 101; decide))
theorem fit50 {x : V6} (h : vin 58000 x) : vecB (fun _ => 58000) x.l ∧ Bw (fun _ => 58000) 6 + 2 ≤ 1000000 := ⟨h.vecB, by rw [Bw_const]; decide⟩
theorem cmp_ok (x y : V6) (h : vin 58000 (x.sub y)) : w_compare [dV x, dV y] (· = .int (cmpV x.l y.l)) :=
  compare_okB x.l y.l _ rfl rfl (fit50 h).1 (fit50 h).2
theorem frac_ok (d : D) (x : V6) (hd : d = dV x ∨ d = dI x.l) (h : vin 58000 x) : w__law_fraction [d] (· = .tuple [.int (fN x.l 6), .int (gN x.l 6)]) :=
  law_fraction_okB d x.l _ hd (fit50 h).1 (fit50 h).2 (fun k hk => by
    have : k = 0 ∨ k = 1 ∨ k = 2 ∨ k = 3 ∨ k = 4 ∨ k = 5 := by omega
    rcases this with rfl | rfl | rfl | rfl | rfl | rfl <;> decide +kernel)
def sg (x : V6) : Int := if gN x.l 6 < fN x.l 6 then 1 else if fN x.l 6 < gN x.l 6 then -1 else 0
theorem sg_neg (x : V6) : sg x < 0 ↔ ¬ Pos x := by
  unfold sg Pos
  split
  · constructor <;> omega
  · split
    · constructor <;> omega
    · constructor <;> omega
theorem sg_zero {x : V6} (h : sg x = 0) : x = V6.oct 0 := by
  have e : fN x.l 6 = gN x.l 6 := by
    unfold sg at h
    split at h
    · omega
    · split at h
      · omega
      · omega
  have z := fg_eq0 (v := x.l) rfl e
  cases x
  simp [V6.l] at z
  simp [V6.oct, z]
theorem sign_ok (d : D) (x : V6) (hd : d = dV x ∨ d = dI x.l) (h : vin 58000 x) : w__law_sign [d] (· = .int (sg x)) := by
  have fr := frac_ok d x hd h
  unfold sg
  generalize fN x.l 6 = f at *
  generalize gN x.l 6 = g at *
  have main : w__law_sign [d] (· = .int (if g < f then 1 else if f < g then -1 else 0)) := by
    rcases hd with rfl | rfl
    all_goals
      walk_at "k"
      refine call_eq fr ?_
      walk_at "k"
      refine selD (fun h1 => ?_) (fun h1 => ?_)
      · rw [if_pos (by omega)]
        walk_at "k"
        try rfl
      · rw [if_neg (by omega)]
        walk_at "k"
        refine selD (fun h2 => ?_) (fun h2 => ?_)
        · rw [if_pos (by omega)]
          walk_at "k"
          try rfl
        · rw [if_neg (by omega)]
          walk_at "k"
          try rfl
  exact main
theorem winds_ok {g p : V6} {b c T O : Nat} (s : Sp g p b c T O) {t : Int} (ht : 0 ≤ t ∧ t ≤ T) : w_winds [dV g, dV p, .int t] (· = .int (wd g p t)) := by
  have T1 := s.T1
  have hO := s.O1
  obtain ⟨o0, o1, th⟩ := too_high s ht.1
  have gb := vin_mulI s.gb ht
  have ol := s.oO t ht
  have hh := s.h
  have hq : oct (g.mul t).l / oct p.l ≤ oct (g.mul t).l := Int.ediv_le_self _ o0
  have q0 : 0 ≤ oct (g.mul t).l / oct p.l := Int.ediv_nonneg o0 (by omega)
  have f0 : Pos ((g.mul t).sub (p.mul 0)) := Pos_of_eq (s.gp.mulI ht.1) (by apply V6.ext' <;> simp [V6.sub, V6.mul])
  have bT := s.bT
  have c1 := s.c1
  have olp := oct_le s.pb
  walk_at "k"
  refine call_eq (pow6_ok g t (by omega)) ?_
  walk_at "k"
  refine call_eq (octaves_ok _ (b * T) gb.vec (by omega)) ?_
  walk_at "k"
  refine call_eq (octaves_ok _ c s.pb.vec (by omega)) ?_
  walk_at "k"
  generalize hH : oct (g.mul t).l / oct p.l + 1 = H at *
  have hH2 : H ≤ ((O + 1 : Nat) : Int) := by omega
  refine wh_st [4, 5, 6] (fun (s : Int × Int × Option Slot) => [sI s.1, sI s.2.1, s.2.2]) (fun n s => 0 ≤ s.1 ∧ s.1 < s.2.1 ∧ s.2.1 ≤ H ∧ (s.2.1 - s.1).toNat = n ∧ Pos ((g.mul t).sub (p.mul s.1)) ∧ ¬ Pos ((g.mul t).sub (p.mul s.2.1))) (H - 0).toNat (0, H, none) ⟨Int.le_refl 0, (show (0 : Int) < H by omega), Int.le_refl H, rfl, f0, th⟩ rfl (fun n a ⟨a0, a1, a2, a3, a4, a5⟩ P hP => ?_)
  obtain ⟨low, high, o⟩ := a
  dsimp only at a0 a1 a2 a3 a4 a5 ⊢
  walk_at "k"
  refine selD (fun h1 => ?_) (fun h1 => ?_)
  · have hm : low < (low + high) / 2 ∧ (low + high) / 2 < high := by omega
    have vb : vin 58000 ((p.mul ((low + high) / 2)).sub (g.mul t)) := (vin_sub (vin_mulI (m := O + 1) s.pb (by omega)) gb).up (by
      have : c * (O + 1) ≤ c * (O + 2) := Nat.mul_le_mul_left c (by omega)
      omega)
    have cl := cmp_le (p.mul ((low + high) / 2)) (g.mul t)
    walk_at "k"
    refine call_eq (pow6_ok p ((low + high) / 2) (by omega)) ?_
    walk_at "k"
    refine call_eq (cmp_ok _ _ vb) ?_
    walk_at "k"
    refine selD (fun h2 => ?_) (fun h2 => ?_)
    · walk_at "k"
      exact hP (high - (low + high) / 2).toNat ((low + high) / 2, high, _) _ (by omega) ⟨(show 0 ≤ (low + high) / 2 by omega), hm.2, a2, rfl, cl.mp h2, a5⟩ rfl
    · walk_at "k"
      exact hP ((low + high) / 2 - low).toNat (low, (low + high) / 2, _) _ (by omega) ⟨a0, hm.1, (show (low + high) / 2 ≤ H by omega), rfl, a4, fun q => h2 (cl.mpr q)⟩ rfl
  · walk_at "k"
    have e : high = low + 1 := by omega
    rw [e] at a5
    rw [wd_eq s.pp ⟨a4, a5⟩]
    rfl
theorem lov_vin {g p : V6} {b c T O : Nat} (s : Sp g p b c T O) {t : Int} (ht : 0 ≤ t ∧ t ≤ T) : vin (c * (O) + b * T) (lov g p t) := by
  obtain ⟨h1, h2, h3, h4⟩ := wd_is s ht
  exact (vin_sub (vin_mulI s.gb ht) (vin_mulI (m := O) s.pb (by omega))).up (by omega)
theorem left_ok {g p : V6} {b c T O : Nat} (s : Sp g p b c T O) {t : Int} (ht : 0 ≤ t ∧ t ≤ T) : w_left_over [dV g, dV p, .int t] (· = dV (lov g p t)) := by
  have T1 := s.T1
  have hO := s.O1
  have bT := s.bT
  obtain ⟨h1, h2, h3, h4⟩ := wd_is s ht
  walk_at "k"
  refine call_eq (pow6_ok g t (by omega)) ?_
  walk_at "k"
  refine call_eq (winds_ok s ht) ?_
  walk_at "k"
  refine call_eq (pow6_ok p _ (by omega)) ?_
  walk_at "k"
  refine call_eq (sub_ok _ _) ?_
  walk_at "k"
  rfl
theorem near_ok {g p : V6} {b c T O : Nat} (s : Sp g p b c T O) {t : Int} (ht : 0 ≤ t ∧ t ≤ T) (hb : c + 2 * (c * (O) + b * T) ≤ 58000) : w_nearness [dV g, dV p, .int t] (· = dV (nrv g p t)) := by
  have lb := lov_vin s ht
  unfold nrv
  walk_at "k"
  refine call_eq (left_ok s ht) ?_
  walk_at "k"
  refine call_eq (sub_ok _ _) ?_
  walk_at "k"
  refine call_eq (cmp_ok (lov g p t) (p.sub (lov g p t)) ((vin_sub lb (vin_sub s.pb lb)).up (by omega))) ?_
  have cl := cmp_le (lov g p t) (p.sub (lov g p t))
  walk_at "k"
  refine selD (fun h2 => ?_) (fun h2 => ?_)
  · rw [if_pos (cl.mp h2)]
    walk_at "k"
    rfl
  · rw [if_neg (fun q => h2 (cl.mpr q))]
    walk_at "k"
    rfl
theorem height_ok (g p : V6) (t w : Int) (ht : -(2 ^ 64) < t ∧ t < 2 ^ 64) (hw : -(2 ^ 64) < w ∧ w < 2 ^ 64) : w__law_height [dV g, dV p, .int t, .int w] (· = dV ((g.mul t).sub (p.mul w))) := by
  have line := line_big
  have lg : g.l.length = 6 := rfl
  have lp : p.l.length = 6 := rfl
  have go : w__law_height [dT g.l, dT p.l, .int t, .int w] (· = dT ((List.range 6).map fun (k : Nat) => at' g.l k * t - at' p.l k * w)) := by
    generalize g.l = v at *
    generalize p.l = u at *
    walk_at "k"
    refine lc_rgI (fun (k : Nat) => at' v k * t - at' u k * w) _ (by omega) (fun k hk acc K ha hK => ?_) rfl ?_
    · have hk : k < 6 := hk
      have e0 : (0 : Int) + (k : Int) = k := Int.zero_add _
      walk_at "k"
      refine And.intro (mul_r ht) ?_
      walk_at "k"
      refine And.intro (mul_r hw) ?_
      walk_at "k"
      rw [e0]
      exact hK
    walk_at "k"
    rfl
  exact go
theorem times6_ok (x : V6) (t : Int) (ht : -(2 ^ 64) < t ∧ t < 2 ^ 64) : w__law_times [dV x, .int t] (· = dV (x.mul t)) := law_times_ok (dV x) x.l t (.inl rfl) ht (Nat.le_of_lt_succ (by show 6 < 101; decide))
theorem shp_dV (x : V6) : shp 2 (dV x) := shp_tuple fun d hd => by
  obtain ⟨x, _, rfl⟩ := List.mem_map.mp hd
  exact shp_int x
theorem sg_pos {x : V6} (h : ¬ sg x < 0) : Pos x := Decidable.not_not.mp fun q => h ((sg_neg x).mpr q)
theorem sg_str {x : V6} (h : ¬ sg x < 0) (h0 : sg x ≠ 0) : ¬ Pos x.neg := fun q => by
  have p := sg_pos h
  rw [Pos_neg] at q
  unfold Pos at p
  apply h0
  unfold sg
  rw [if_neg (by omega), if_neg (by omega)]
theorem neg_neg6 (x : V6) : x.neg.neg = x := by
  apply V6.ext' <;> simp [V6.neg]
theorem vin_neg {b : Nat} {x : V6} (h : vin b x) : vin b x.neg := fun z hz => by
  rw [V6.neg_l] at hz
  obtain ⟨y, hy, rfl⟩ := List.mem_map.mp hz
  have := h y hy
  omega
theorem gens_at {i : Int} (h0 : 0 ≤ i) (h1 : i < 5) : ∃ x : V6, atI [dV ⟨-1, 1, 0, 0, 0, 0⟩, dV ⟨-2, 0, 1, 0, 0, 0⟩, dV ⟨-2, 0, 0, 1, 0, 0⟩, dV ⟨1, 1, -1, 0, 0, 0⟩, dV ⟨2, -1, 0, 0, 0, 0⟩] i = some (dV x) ∧ vin 2 x ∧ ¬ Pos x.neg := by
  have : i = 0 ∨ i = 1 ∨ i = 2 ∨ i = 3 ∨ i = 4 := by omega
  have v : ∀ x ∈ [(⟨-1, 1, 0, 0, 0, 0⟩ : V6), ⟨-2, 0, 1, 0, 0, 0⟩, ⟨-2, 0, 0, 1, 0, 0⟩, ⟨1, 1, -1, 0, 0, 0⟩, ⟨2, -1, 0, 0, 0, 0⟩], (∀ z ∈ x.l, -((2 : Nat) : Int) ≤ z ∧ z ≤ (2 : Nat)) ∧ ¬ Pos x.neg := by decide +kernel
  rcases this with rfl | rfl | rfl | rfl | rfl
  · exact ⟨_, rfl, v ⟨-1, 1, 0, 0, 0, 0⟩ (by simp)⟩
  · exact ⟨_, rfl, v ⟨-2, 0, 1, 0, 0, 0⟩ (by simp)⟩
  · exact ⟨_, rfl, v ⟨-2, 0, 0, 1, 0, 0⟩ (by simp)⟩
  · exact ⟨_, rfl, v ⟨1, 1, -1, 0, 0, 0⟩ (by simp)⟩
  · exact ⟨_, rfl, v ⟨2, -1, 0, 0, 0, 0⟩ (by simp)⟩
theorem pers_at {i : Int} (h0 : 0 ≤ i) (h1 : i < 4) : ∃ x : V6, atI [dV ⟨1, 0, 0, 0, 0, 0⟩, dV ⟨0, 1, 0, 0, 0, 0⟩, dV ⟨2, 0, 0, 0, 0, 0⟩, dV ⟨-1, 0, 1, 0, 0, 0⟩] i = some (dV x) ∧ vin 2 x ∧ Pos (x.add (V6.oct (-1))) := by
  have : i = 0 ∨ i = 1 ∨ i = 2 ∨ i = 3 := by omega
  have v : ∀ x ∈ [(⟨1, 0, 0, 0, 0, 0⟩ : V6), ⟨0, 1, 0, 0, 0, 0⟩, ⟨2, 0, 0, 0, 0, 0⟩, ⟨-1, 0, 1, 0, 0, 0⟩], (∀ z ∈ x.l, -((2 : Nat) : Int) ≤ z ∧ z ≤ (2 : Nat)) ∧ Pos (x.add (V6.oct (-1))) := by decide +kernel
  rcases this with rfl | rfl | rfl | rfl
  · exact ⟨_, rfl, v ⟨1, 0, 0, 0, 0, 0⟩ (by simp)⟩
  · exact ⟨_, rfl, v ⟨0, 1, 0, 0, 0, 0⟩ (by simp)⟩
  · exact ⟨_, rfl, v ⟨2, 0, 0, 0, 0, 0⟩ (by simp)⟩
  · exact ⟨_, rfl, v ⟨-1, 0, 1, 0, 0, 0⟩ (by simp)⟩
theorem spread_at {i : Int} (h0 : 0 ≤ i) (h1 : i < 4) : ∃ s : Int, atI [PyData.int 1, .int 2, .int 2, .int 7] i = some (.int s) ∧ 1 ≤ s ∧ s ≤ 7 := by
  have : i = 0 ∨ i = 1 ∨ i = 2 ∨ i = 3 := by omega
  rcases this with rfl | rfl | rfl | rfl
  · exact ⟨1, rfl, by decide⟩
  · exact ⟨2, rfl, by decide⟩
  · exact ⟨2, rfl, by decide⟩
  · exact ⟨7, rfl, by decide⟩
/-- the first vector and the second one -/
def SpV (vs : List V6) : Prop := (∀ x, vs[0]? = some x → vin 7 x ∧ ¬ Pos x.neg) ∧ (∀ x, vs[1]? = some x → vin 8 x ∧ Pos (x.add (V6.oct (-1))))
def Spi (ds : List Int) (g p : V6) : Prop := ¬ Pos g.neg ∧ Pos (p.add (V6.oct (-1))) ∧ ((at' ds 0 % 2 = 0 ∧ vin 2 g ∧ vin 2 p) ∨ (¬ at' ds 0 % 2 = 0 ∧ vin 7 g ∧ vin 8 p))
theorem spiral_ok (ds : List Int) (hl : 23 ≤ ds.length) (hd : Drawn ds) : w__law_spiral [dI ds, .int 0] fun d => ∃ g p, d = .tuple [dV g, dV p] ∧ Spi ds g p := by
  have line := line_big
  walk_at "k"
  refine selD (fun h => ?_) (fun h => ?_)
  · obtain ⟨g, eg, g2, gs⟩ := gens_at (i := at' ds 1 % 5) (by omega) (by omega)
    walk_at "k"
    refine ⟨_, eg, ?_⟩
    obtain ⟨p, ep, p2, ps⟩ := pers_at (i := max (at' ds (0 + 2) % 7 - 3) 0) (by omega) (by omega)
    walk_at "k"
    refine ⟨_, ep, ?_⟩
    walk_at "k"
    exact ⟨g, p, rfl, gs, ps, .inl ⟨h, g2, p2⟩⟩
  · walk_at "k"
    obtain ⟨sp, es, s1, s7⟩ := spread_at (i := at' ds 0 / 2 % 4) (by omega) (by omega)
    refine ⟨_, es, ?_⟩
    have ms : ∀ x : Int, 0 ≤ x % (2 * sp + 1) ∧ x % (2 * sp + 1) < 2 * sp + 1 := fun x => ⟨Int.emod_nonneg _ (by omega), Int.emod_lt_of_pos _ (by omega)⟩
    walk_at "k"
    refine forR_st [5] (fun d => sD d) (fun k d => ∃ vs : List V6, d = dL dV vs ∧ vs.length = k ∧ SpV vs) _ ⟨[], rfl, rfl, ⟨(fun x h => nomatch h), (fun x h => nomatch h)⟩⟩ rfl (fun k hk _ ⟨vs, e, lv, hv⟩ R hR => ?_) (fun _ ⟨vs, e, lv, hv⟩ => ?_)
    · subst e
      have hk : k < 2 := hk
      have big : (List.map dV vs).length < sizeLine := by rw [List.length_map]; omega
      walk_at "k"
      obtain ⟨x0, ex0, vx0⟩ : ∃ x0 : V6, (List.range (Int.toNat 6)).map (fun (j : Nat) => at' ds (0 + 3 + 6 * (0 + (k : Int)) + (j : Int)) % (2 * sp + 1) - sp) = x0.l ∧ vin 7 x0 := ⟨⟨_, _, _, _, _, _⟩, rfl, fun z hz => by
        have b : ∀ j : Nat, -7 ≤ at' ds (0 + 3 + 6 * (0 + (k : Int)) + (j : Int)) % (2 * sp + 1) - sp ∧ at' ds (0 + 3 + 6 * (0 + (k : Int)) + (j : Int)) % (2 * sp + 1) - sp ≤ 7 := fun j => by
          have := ms (at' ds (0 + 3 + 6 * (0 + (k : Int)) + (j : Int)))
          omega
        simp only [V6.l, List.mem_cons, List.not_mem_nil, or_false] at hz
        rcases hz with rfl | rfl | rfl | rfl | rfl | rfl
        · exact b 0
        · exact b 1
        · exact b 2
        · exact b 3
        · exact b 4
        · exact b 5⟩
      refine lc_rgI (fun (j : Nat) => at' ds (0 + 3 + 6 * (0 + (k : Int)) + (j : Int)) % (2 * sp + 1) - sp) x0.l (by omega) (fun j hj acc K ha hK => ?_) ex0 ?_
      · have hj : j < 6 := hj
        have e0 : (0 : Int) + (j : Int) = j := Int.zero_add _
        walk_at "k"
        rw [e0]
        exact hK
      walk_at "k"
      refine call_eq (sign_ok _ x0 (.inr rfl) (vx0.up (by decide))) ?_
      have sn := sg_neg x0
      walk_at "k"
      refine ifJs [7] (fun (a : {x : V6 // vin 7 x ∧ Pos x ∧ (sg x0 ≠ 0 → ¬ Pos x.neg)}) => [some ⟨dI a.1.l, true, false⟩]) (fun a => ?_) (fun N hN => ?_)
      · obtain ⟨x1, v1, p1, s1'⟩ := a
        dsimp only
        walk_at "k"
        refine ifJs [7] (fun (a : {x : V6 // vin 7 x ∧ Pos x ∧ (k = 0 → ¬ Pos x.neg)}) => [some ⟨dI a.1.l, true, false⟩]) (fun a => ?_) (fun N hN => ?_)
        · obtain ⟨⟨a0, a1, a2, a3, a4, a5⟩, v2, p2, s2⟩ := a
          dsimp only
          walk_at "k"
          refine ⟨_, rfl, ?_⟩
          walk_at "k"
          refine ⟨_, ⟨rfl, rfl, rfl⟩, ?_⟩
          walk_at "k"
          have key : SpV (vs ++ [⟨a0 + (0 + (k : Int)), a1, a2, a3, a4, a5⟩]) := by
            have k01 : k = 0 ∨ k = 1 := by omega
            rcases k01 with rfl | rfl
            · match vs, lv with
              | [], _ =>
              refine ⟨fun x hx => ?_, fun x hx => nomatch hx⟩
              have hx : some (⟨a0 + (0 + ((0 : Nat) : Int)), a1, a2, a3, a4, a5⟩ : V6) = some x := hx
              have e0 : a0 + (0 + ((0 : Nat) : Int)) = a0 := by omega
              rw [e0] at hx
              rw [← Option.some.inj hx]
              exact ⟨v2, s2 rfl⟩
            · match vs, lv with
              | [g], _ =>
              refine ⟨fun x hx => hv.1 x hx, fun x hx => ?_⟩
              have hx : some (⟨a0 + (0 + ((1 : Nat) : Int)), a1, a2, a3, a4, a5⟩ : V6) = some x := hx
              rw [← Option.some.inj hx]
              refine ⟨fun z hz => ?_, Pos_of_eq p2 (by apply V6.ext' <;> simp [V6.add, V6.oct] <;> omega)⟩
              have q := fun z hz => v2 z hz
              have x0 := q a0 (by simp [V6.l])
              have x1 := q a1 (by simp [V6.l])
              have x2 := q a2 (by simp [V6.l])
              have x3 := q a3 (by simp [V6.l])
              have x4 := q a4 (by simp [V6.l])
              have x5 := q a5 (by simp [V6.l])
              simp only [V6.l, List.mem_cons, List.not_mem_nil, or_false] at hz
              rcases hz with rfl | rfl | rfl | rfl | rfl | rfl <;> omega
          exact hR _ _ ⟨_, dL_app dV vs _, by simp [lv], key⟩ rfl
        · walk_at "k"
          refine selD (fun h1 => ?_) (fun h1 => ?_)
          · walk_at "k"
            refine selD (fun h2 => ?_) (fun h2 => ?_)
            · walk_at "k"
              have q : (∀ z ∈ V6.l ⟨-1, 1, 0, 0, 0, 0⟩, -((7 : Nat) : Int) ≤ z ∧ z ≤ (7 : Nat)) ∧ Pos ⟨-1, 1, 0, 0, 0, 0⟩ ∧ ¬ Pos (V6.neg ⟨-1, 1, 0, 0, 0, 0⟩) := by decide +kernel
              exact hN ⟨⟨-1, 1, 0, 0, 0, 0⟩, q.1, q.2.1, fun _ => q.2.2⟩
            · exact hN ⟨x1, v1, p1, fun hk0 => absurd (by omega) h2⟩
          · exact hN ⟨x1, v1, p1, fun _ => s1' h1⟩
      · walk_at "k"
        refine selD (fun h1 => ?_) (fun h1 => ?_)
        · walk_at "k"
          refine lc_mapI (enc := PyData.int) (xs := x0.l) (- ·) x0.neg.l (by show 6 ≤ sizeLine; omega) (fun z hz acc K ha hK => ?_) rfl ?_
          · walk_at "k"
            exact hK
          walk_at "k"
          have np := sn.mp h1
          exact hN ⟨x0.neg, vin_neg vx0, Pos.of_not np, fun _ => by rw [neg_neg6]; exact np⟩
        · exact hN ⟨x0, vx0, sg_pos h1, sg_str h1⟩
    · subst e
      have lv : vs.length = 2 := lv
      match vs, lv with
      | [g, p], _ =>
      walk_at "k"
      refine ⟨_, rfl, ?_⟩
      walk_at "k"
      refine ⟨_, rfl, ?_⟩
      walk_at "k"
      have a := hv.1 g rfl
      have b := hv.2 p rfl
      exact ⟨g, p, rfl, a.2, b.2, .inr ⟨h, a.1, b.1⟩⟩
/-- the names of _law_draws: found, cell, number, k, mixed, base -/
def dS (ns : List Int) (many : Int) (d : D) (cell number k mixed base : Option Slot) : En := [some ⟨scr ns, false, true⟩, some ⟨.int many, false, true⟩, some ⟨d, true, false⟩, cell, number, k, mixed, base]
theorem draws_ok (ns : List Int) (h63 : ns.length ≤ 63) (many : Nat) (hm : many ≤ 1000) : w__law_draws [scr ns, .int many] fun d => ∃ xs : List Int, d = dI xs ∧ xs.length = many ∧ Drawn xs := by
  have line := line_big
  walk_at "k"
  refine ⟨ns, rfl, ?_⟩
  walk_at "k"
  rw [show KT.cutD (List.map PyData.int ns) none (some 63) = (ns.take 63).map PyData.int from cutD_to _ ns 63]
  refine forV_inv (fun p δ => ∃ xs, δ = dS ns many (dI xs) none none none none none ∧ Drawn xs ∧ xs.length ≤ 60 * p.length) ⟨[], rfl, fun _ h => (nomatch h), Nat.zero_le _⟩ (fun p x q e δ ⟨xs, hδ, hd, hl⟩ P hP => ?_) (fun δ ⟨xs, hδ, hd, hl⟩ => ?_)
  · subst hδ
    have hp : p.length ≤ 62 := by
      have := congrArg List.length e
      simp only [List.length_take, List.length_append, List.length_cons] at this
      omega
    walk_at "k"
    refine selD (fun h => ?_) (fun h => ?_)
    · walk_at "k"
      refine forR_inv (fun k δ => ∃ d ys n, δ = dS ns many d (sI x) (sI n) none none none ∧ d = dI ys ∧ Drawn ys ∧ ys.length ≤ xs.length + k) ⟨_, xs, _, rfl, rfl, hd, Nat.le_refl _⟩ (fun k hk δ ⟨d, ys, n, hδ, hd2, hy, hyl⟩ R hR => ?_) (fun δ ⟨d, ys, n, hδ, hd2, hy, hyl⟩ => ?_)
      · subst hδ hd2
        have hk : k < 60 := hk
        walk_at "k"
        refine selD (fun h2 => ?_) (fun h2 => ?_)
        · walk_at "k"
          refine hR _ ⟨_, ys ++ [n % 1000003], n / 1000003, rfl, dI_app _ _, hy.app _, by simp; omega⟩
        · exact hR _ ⟨_, ys, n, rfl, rfl, hy, by omega⟩
      · subst hδ hd2
        exact hP _ ⟨ys, rfl, hy, by
          have hyl : ys.length ≤ xs.length + 60 := hyl
          simp; omega⟩
    · walk_at "k"
      refine forR_inv (fun k δ => ∃ d ys n, δ = dS ns many d (sI x) (sI x.natAbs) none (sI n) none ∧ d = dI ys ∧ Drawn ys ∧ ys.length ≤ xs.length + k) ⟨_, xs, _, rfl, rfl, hd, Nat.le_refl _⟩ (fun k hk δ ⟨d, ys, n, hδ, hd2, hy, hyl⟩ R hR => ?_) (fun δ ⟨d, ys, n, hδ, hd2, hy, hyl⟩ => ?_)
      · subst hδ hd2
        have hk : k < 4 := hk
        walk_at "k"
        exact hR _ ⟨_, ys ++ [_ % 1000003], _, rfl, dI_app _ _, hy.app _, by simp; omega⟩
      · subst hδ hd2
        exact hP _ ⟨ys, rfl, hy, by
          have hyl : ys.length ≤ xs.length + 4 := hyl
          simp; omega⟩
  · subst hδ
    have hl2 : xs.length ≤ 3780 := by
      rw [List.length_take] at hl
      omega
    walk_at "k"
    refine forR_inv (fun k δ => ∃ d ys, δ = dS ns many d none none none none none ∧ d = dI ys ∧ Drawn ys ∧ ys.length ≤ xs.length + k ∧ (k ≤ ys.length ∨ many ≤ ys.length)) ⟨_, xs, rfl, rfl, hd, Nat.le_refl _, .inl (Nat.zero_le _)⟩ (fun k hk δ ⟨d, ys, hδ, hd2, hy, hyl, hyk⟩ R hR => ?_) (fun δ ⟨d, ys, hδ, hd2, hy, hyl, hyk⟩ => ?_)
    · subst hδ hd2
      have hk : k < many := by simpa using hk
      walk_at "k"
      rw [List.length_map]
      refine selD (fun h => ?_) (fun h => ?_)
      · walk_at "k"
        rw [List.length_map]
        refine selD (fun h2 => ?_) (fun h2 => ?_)
        · have hm0 : 0 ≤ (0 + (k : Int)) % (ys.length : Int) := Int.emod_nonneg _ (by omega)
          have hm1 : (0 + (k : Int)) % (ys.length : Int) < (ys.length : Int) := Int.emod_lt_of_pos _ (by omega)
          walk_at "k"
          exact hR _ ⟨_, ys ++ [_ % 1000003], rfl, dI_app _ _, hy.app _, by simp; omega, by simp; omega⟩
        · walk_at "k"
          exact hR _ ⟨_, ys ++ [_ % 1000003], rfl, dI_app _ _, hy.app _, by simp; omega, by simp; omega⟩
      · exact hR _ ⟨_, ys, rfl, rfl, hy, by omega, .inr (by omega)⟩
    · subst hδ hd2
      have hyk : many ≤ ys.length := by
        have : (many : Int).toNat ≤ ys.length ∨ many ≤ ys.length := hyk
        omega
      walk_at "k"
      rw [show KT.cutD (List.map PyData.int ys) none (some (many : Int)) = (ys.take many).map PyData.int from cutD_to _ ys many]
      unfold mkL
      rw [imm_ints]
      exact ⟨rfl, ys.take many, rfl, by rw [List.length_take]; omega, fun x hx => hy x (List.mem_of_mem_take hx)⟩
theorem oct_m1 : ¬ Pos (V6.oct (-1)) := by decide +kernel
theorem Sp.pn {g p : V6} {b c T O : Nat} (s : Sp g p b c T O) : ¬ Pos p.neg := fun q =>
  oct_m1 (Pos_of_eq (q.add s.p2) (by apply V6.ext' <;> simp [V6.add, V6.neg, V6.oct] <;> omega))
theorem fmod_less {x y : Int} (h : y ≠ 0) : (x.fmod y).natAbs < y.natAbs := by
  rcases Int.lt_or_lt_of_ne h with h | h
  · have e := Int.neg_fmod_neg (-x) (-y)
    rw [Int.neg_neg, Int.neg_neg] at e
    have a := Int.fmod_nonneg_of_pos (-x) (b := -y) (by omega)
    have b := Int.fmod_lt_of_pos (-x) (b := -y) (by omega)
    omega
  · have a := Int.fmod_nonneg_of_pos x h
    have b := Int.fmod_lt_of_pos x h
    omega
theorem fmod_def2 (x y : Int) : x.fmod y = x - y * x.fdiv y := Int.fmod_def x y
/-- the greatest common divisor, told by whole sums -/
theorem common_ok (a b : Int) (hb : b ≠ 0) : w_common_divisor [.int a, .int b] fun d => ∃ c A B u v : Int, d = .int c ∧ 0 < c ∧ a = A * c ∧ b = B * c ∧ c = u * a + v * b := by
  walk_at "k"
  refine wh_st [0, 1] (fun (s : Int × Int × Bool) => [bI s.2.2 s.1, bI s.2.2 s.2.1]) (fun n s => s.2.1.natAbs = n ∧ (∃ u v u' v' : Int, s.1 = u * a + v * b ∧ s.2.1 = u' * a + v' * b) ∧ ∃ r q r' q' : Int, a = r * s.1 + q * s.2.1 ∧ b = r' * s.1 + q' * s.2.1) b.natAbs (a, b, true) ⟨rfl, ⟨1, 0, 0, 1, by simp, by simp⟩, ⟨1, 0, 0, 1, by simp, by simp⟩⟩ rfl (fun n s ⟨h1, ⟨u, v, u', v', e1, e2⟩, ⟨r, q, r', q', e3, e4⟩⟩ P hP => ?_)
  obtain ⟨x, y, o⟩ := s
  dsimp only at h1 e1 e2 e3 e4 ⊢
  walk_at "k"
  rw [ng_t]
  by_cases hy : y = 0
  · rw [decide_eq_true hy]
    walk_at "k"
    subst hy
    have e3 : a = r * x := by rw [e3, Int.mul_zero, Int.add_zero]
    have e4 : b = r' * x := by rw [e4, Int.mul_zero, Int.add_zero]
    have x0 : x ≠ 0 := fun z => hb (by rw [e4, z, Int.mul_zero])
    rcases Int.lt_or_lt_of_ne x0 with h | h
    · refine ⟨x.natAbs, -r, -r', -u, -v, rfl, by omega, ?_, ?_, ?_⟩
      · rw [show (x.natAbs : Int) = -x by omega]; grind
      · rw [show (x.natAbs : Int) = -x by omega]; grind
      · rw [show (x.natAbs : Int) = -x by omega]; grind
    · refine ⟨x.natAbs, r, r', u, v, rfl, by omega, ?_, ?_, ?_⟩
      · rw [show (x.natAbs : Int) = x by omega]; exact e3
      · rw [show (x.natAbs : Int) = x by omega]; exact e4
      · rw [show (x.natAbs : Int) = x by omega]; exact e1
  · rw [decide_eq_false hy]
    have l := fmod_less (x := x) hy
    walk_at "k"
    refine And.intro hy ?_
    walk_at "k"
    have fd := Int.fmod_def x y
    have key : (∃ u v u' v' : Int, y = u * a + v * b ∧ x.fmod y = u' * a + v' * b) ∧ ∃ r q r' q' : Int, a = r * y + q * x.fmod y ∧ b = r' * y + q' * x.fmod y := by
      generalize x.fmod y = m at *
      generalize x.fdiv y = k at *
      exact ⟨⟨u', v', u - k * u', v - k * v', e2, by grind⟩, ⟨r * k + q, r, r' * k + q', r', by grind, by grind⟩⟩
    exact And.intro ⟨rfl, rfl⟩ (hP (x.fmod y).natAbs (y, x.fmod y, false) _ (by omega) ⟨rfl, key⟩ rfl)
theorem at_mul (x : V6) (t : Int) (k : Int) : at' (x.mul t).l k = at' x.l k * t := by
  rw [mul_l', at'_mapz (by simp)]
theorem v6_at {x y : V6} (h : ∀ k : Nat, k < 6 → at' x.l k = at' y.l k) : x = y :=
  V6.ext' (h 0 (by decide)) (h 1 (by decide)) (h 2 (by decide)) (h 3 (by decide)) (h 4 (by decide)) (h 5 (by decide))
theorem mul_eq {g p : V6} {t r : Int} (h : g.mul t = p.mul r) (k : Int) : at' g.l k * t = at' p.l k * r := by
  rw [← at_mul, ← at_mul, h]
theorem mul_eq' {g p : V6} {t r : Int} (h : ∀ k : Nat, k < 6 → at' g.l k * t = at' p.l k * r) : g.mul t = p.mul r :=
  v6_at fun k hk => by rw [at_mul, at_mul]; exact h k hk
def Cl (g p : V6) : Option (Int × Int) → Prop
  | some (m, n) => (1 ≤ m ∧ m ≤ 8) ∧ (1 ≤ n ∧ n ≤ 8) ∧ g.mul m = p.mul n ∧ ∀ t r : Int, 1 ≤ t → 1 ≤ r → g.mul t = p.mul r → m ≤ t
  | none => ∀ t r : Int, 1 ≤ t → 1 ≤ r → g.mul t ≠ p.mul r
def dCl : Option (Int × Int) → D
  | some (m, n) => .tuple [.int m, .int n]
  | none => .none
theorem l_inj {x y : V6} (h : x.l = y.l) : x = y := v6_at fun k _ => by rw [h]
theorem v6_nz {x : V6} (h : ¬ Pos x.neg) : ∃ k : Nat, k < 6 ∧ at' x.l k ≠ 0 := by
  refine Classical.byContradiction fun q => h ?_
  have z : x = V6.oct 0 := v6_at fun k hk => by
    have : at' x.l k = 0 := Classical.byContradiction fun r => q ⟨k, hk, r⟩
    rw [this]
    have : k = 0 ∨ k = 1 ∨ k = 2 ∨ k = 3 ∨ k = 4 ∨ k = 5 := by omega
    rcases this with rfl | rfl | rfl | rfl | rfl | rfl <;> rfl
  rw [z]
  decide +kernel
/-- the numbers told by one prime -/
theorem cl_of {g p : V6} {k : Nat} (gk : at' g.l k ≠ 0) (pk : at' p.l k ≠ 0) (g8 : -8 ≤ at' g.l k ∧ at' g.l k ≤ 8) (p8 : -8 ≤ at' p.l k ∧ at' p.l k ≤ 8) {c A B u v : Int} (c0 : 0 < c) (ea : ((at' g.l k).natAbs : Int) = A * c) (eb : at' p.l k = B * c) (ec : c = u * (at' g.l k).natAbs + v * at' p.l k) :
    ((at' p.l k).natAbs : Int) / c = B.natAbs ∧ ((at' g.l k).natAbs : Int) / c = A ∧ (if (g.mul B.natAbs).l = (p.mul A).l then Cl g p (some (B.natAbs, A)) else Cl g p none) := by
  generalize hx : at' g.l k = x at *
  generalize hy : at' p.l k = y at *
  have ey : (y.natAbs : Int) = B.natAbs * c := by
    rw [eb, Int.natAbs_mul, Int.natCast_mul]
    congr 1
    omega
  have B0 : B ≠ 0 := fun z => pk (by rw [eb, z, Int.zero_mul])
  have A0 : 0 < A := by
    rcases Int.lt_or_le 0 A with h | h
    · exact h
    · exfalso
      have : A * c ≤ 0 := Int.mul_nonpos_of_nonpos_of_nonneg h (by omega)
      omega
  have A8 : A ≤ 8 := by
    have : A * 1 ≤ A * c := Int.mul_le_mul_of_nonneg_left (by omega) (by omega)
    omega
  have B8 : (B.natAbs : Int) ≤ 8 := by
    have : (B.natAbs : Int) * 1 ≤ B.natAbs * c := Int.mul_le_mul_of_nonneg_left (by omega) (by omega)
    omega
  have bz : 1 = u * A + v * B := by
    have : c * 1 = c * (u * A + v * B) := by
      rw [Int.mul_one]
      rw [ea, eb] at ec
      grind
    exact Int.eq_of_mul_eq_mul_left (by omega) this
  /- any pair is a multiple -/
  have key : ∀ t r : Int, 1 ≤ t → 1 ≤ r → g.mul t = p.mul r → ∃ q : Int, 1 ≤ q ∧ t = B.natAbs * q ∧ r = A * q := fun t r ht hr e => by
    have e1 := mul_eq e k
    rw [hx, hy] at e1
    have e2 : (x.natAbs : Int) * t = y.natAbs * r := by
      have := congrArg Int.natAbs e1
      rw [Int.natAbs_mul, Int.natAbs_mul] at this
      have q := congrArg (fun n : Nat => (n : Int)) this
      simp only [Int.natCast_mul] at q
      rw [show (t.natAbs : Int) = t by omega, show (r.natAbs : Int) = r by omega] at q
      exact q
    rw [ea, ey] at e2
    have e3 : A * t = B.natAbs * r := by
      have : c * (A * t) = c * (B.natAbs * r) := by grind
      exact Int.eq_of_mul_eq_mul_left (by omega) this
    have sB : B = B.natAbs ∨ B = -(B.natAbs : Int) := by omega
    have et : ∃ q : Int, t = B.natAbs * q := by
      rcases sB with h | h
      · exact ⟨u * r + v * t, by
          have : t = (u * A + v * B) * t := by rw [← bz, Int.one_mul]
          rw [h] at this
          grind⟩
      · exact ⟨u * r - v * t, by
          have : t = (u * A + v * B) * t := by rw [← bz, Int.one_mul]
          rw [h] at this
          grind⟩
    obtain ⟨q, hq⟩ := et
    have q1 : 1 ≤ q := by
      rcases Int.lt_or_le 0 q with h | h
      · exact h
      · exfalso
        have : (B.natAbs : Int) * q ≤ 0 := Int.mul_nonpos_of_nonneg_of_nonpos (by omega) h
        omega
    refine ⟨q, q1, hq, ?_⟩
    have : (B.natAbs : Int) * r = B.natAbs * (A * q) := by
      rw [← e3, hq]
      grind
    exact Int.eq_of_mul_eq_mul_left (by omega) this
  refine ⟨by rw [ey]; exact Int.mul_ediv_cancel _ (by omega), by rw [ea]; exact Int.mul_ediv_cancel _ (by omega), ?_⟩
  split
  · rename_i e
    refine ⟨by omega, by omega, l_inj e, fun t r ht hr h => ?_⟩
    obtain ⟨q, q1, h1, h2⟩ := key t r ht hr h
    rw [h1]
    have : (B.natAbs : Int) * 1 ≤ B.natAbs * q := Int.mul_le_mul_of_nonneg_left q1 (by omega)
    omega
  · rename_i e
    refine fun t r ht hr h => e (congrArg V6.l (mul_eq' fun j hj => ?_))
    obtain ⟨q, q1, h1, h2⟩ := key t r ht hr h
    have m := mul_eq h j
    rw [h1, h2] at m
    have : q * (at' g.l j * B.natAbs) = q * (at' p.l j * A) := by grind
    exact Int.eq_of_mul_eq_mul_left (by omega) this
theorem eqv_dT (xs ys : List Int) : PyData.eqv (dT xs) (dT ys) = decide (xs = ys) := by
  rw [← eqv_ints]
  simp [PyData.eqv]
theorem closes_ok {g p : V6} (gs : ¬ Pos g.neg) (gb : vin 8 g) (pb : vin 8 p) : w_closes [dV g, dV p] fun d => ∃ o, d = dCl o ∧ Cl g p o := by
  have line := line_big
  have lg : g.l.length = 6 := rfl
  have lp : p.l.length = 6 := rfl
  obtain ⟨k0, hk0, nz⟩ := v6_nz gs
  walk_at "k"
  refine wh_st [2] (fun (k : Nat) => [sI k]) (fun n k => n = 6 - k ∧ k < 6 ∧ ∀ j : Nat, j < k → at' g.l j = 0) 6 0 ⟨rfl, by decide, fun j hj => nomatch hj⟩ rfl (fun n k ⟨h1, h2, h3⟩ P hP => ?_)
  walk_at "k"
  rw [ng_f]
  refine selD (fun h => ?_) (fun h => ?_)
  · have h6 : k + 1 < 6 := by
      rcases Nat.lt_or_ge (k + 1) 6 with q | q
      · exact q
      · exfalso
        have : k = 5 := by omega
        subst this
        rcases Nat.lt_or_ge k0 5 with z | z
        · exact nz (h3 k0 z)
        · exact nz (by rw [show k0 = 5 by omega]; exact h)
    walk_at "k"
    exact hP (6 - (k + 1)) (k + 1) _ (by omega) ⟨rfl, h6, fun j hj => by
      rcases Nat.lt_or_ge j k with z | z
      · exact h3 j z
      · rw [show j = k by omega]; exact h⟩ rfl
  · have g8 := vin_at gb (k : Int)
    have p8 := vin_at pb (k : Int)
    walk_at "k"
    rw [ng_f]
    refine selD (fun hp => ?_) (fun hp => ?_)
    · walk_at "k"
      refine ⟨none, rfl, fun t r ht hr e => ?_⟩
      have m := mul_eq e (k : Int)
      rw [hp, Int.zero_mul] at m
      rcases Int.mul_eq_zero.mp m with z | z
      · exact h z
      · omega
    · walk_at "k"
      refine call_ex (common_ok _ _ hp) ?_
      rintro _ ⟨c, A, B, u, v, rfl, c0, ea, eb, ec⟩
      obtain ⟨d1, d2, cl⟩ := cl_of h hp (by omega) (by omega) c0 ea eb ec
      have c8 : c ≤ 8 := by
        have B0 : B ≠ 0 := fun z => hp (by rw [eb, z, Int.zero_mul])
        have : (1 : Int) * c ≤ B.natAbs * c := Int.mul_le_mul_of_nonneg_right (by omega) (by omega)
        have e2 : ((at' p.l k).natAbs : Int) = B.natAbs * c := by
          rw [eb, Int.natAbs_mul, Int.natCast_mul]
          congr 1
          omega
        omega
      have b1 : 0 ≤ ((at' p.l k).natAbs : Int) / c ∧ ((at' p.l k).natAbs : Int) / c ≤ 8 := ⟨Int.ediv_nonneg (by omega) (by omega), Int.le_trans (Int.ediv_le_self _ (by omega)) (by omega)⟩
      have b2 : 0 ≤ ((at' g.l k).natAbs : Int) / c ∧ ((at' g.l k).natAbs : Int) / c ≤ 8 := ⟨Int.ediv_nonneg (by omega) (by omega), Int.le_trans (Int.ediv_le_self _ (by omega)) (by omega)⟩
      rw [← d1, ← d2] at cl
      walk_at "k"
      refine call_eq (pow6_ok g (((at' p.l k).natAbs : Int) / c) (by omega)) ?_
      walk_at "k"
      refine call_eq (pow6_ok p (((at' g.l k).natAbs : Int) / c) (by omega)) ?_
      walk_at "k"
      refine And.intro ⟨(shp_dV _).sh, (shp_dV _).sh⟩ ?_
      walk_at "k"
      rw [ng_f]
      have ev := eqv_dT (g.mul (((at' p.l k).natAbs : Int) / c)).l (p.mul (((at' g.l k).natAbs : Int) / c)).l
      split
      · rename_i hq
        have hq := of_decide_eq_true (ev.symm.trans hq)
        rw [if_pos hq] at cl
        walk_at "k"
        exact ⟨_, rfl, cl⟩
      · rename_i hq
        have hq := of_decide_eq_false (ev.symm.trans hq)
        rw [if_neg hq] at cl
        walk_at "k"
        exact ⟨none, rfl, cl⟩
def Tw (g p : V6) : Prop := ¬ Pos g.neg ∧ Pos (p.add (V6.oct (-1))) ∧ vin 8 g ∧ vin 8 p
theorem str_of {x : V6} (h : Pos (x.add (V6.oct (-1)))) : ¬ Pos x.neg := fun q =>
  oct_m1 (Pos_of_eq (q.add h) (by apply V6.ext' <;> simp [V6.add, V6.neg, V6.oct] <;> omega))
theorem mul_two {x : V6} (h : Pos (x.add (V6.oct (-1)))) {a : Int} (ha : 1 ≤ a) : Pos ((x.mul a).add (V6.oct (-1))) := by
  have q := (h.mulI (k := a) (by omega)).add (oct_pos (k := a - 1) (by omega))
  refine Pos_of_eq q ?_
  apply V6.ext' <;> simp [V6.add, V6.mul, V6.oct] <;> grind
theorem unit_step {j : Nat} {k : Int} : (if decide ((0 : Int) + (j : Int) = k) = true then (1 : Int) else 0) = if (j : Int) = k then 1 else 0 := by
  rw [Int.zero_add]
  by_cases h : (j : Int) = k <;> simp [h]
theorem Spi.tw {ds : List Int} {g p : V6} (h : Spi ds g p) : Tw g p := by
  obtain ⟨h1, h2, ⟨e, v1, v2⟩ | ⟨e, v1, v2⟩⟩ := h
  · exact ⟨h1, h2, v1.up (by decide), v2.up (by decide)⟩
  · exact ⟨h1, h2, v1.up (by decide), v2⟩
/-- records: the best so far and the turns -/
def recF (nr : Int → V6) : Nat → V6 × List Int
  | 0 => (nr 1, [1])
  | n + 1 => if Pos ((nr ((n : Int) + 2)).sub (recF nr n).1) then recF nr n else (nr ((n : Int) + 2), (recF nr n).2 ++ [(n : Int) + 2])
theorem recF_le (nr : Int → V6) : ∀ n, ∀ x ∈ (recF nr n).2, 1 ≤ x ∧ x ≤ n + 1
  | 0, x, h => by
    rw [List.mem_singleton.mp h]
    decide
  | n + 1, x, h => by
    unfold recF at h
    split at h
    · have := recF_le nr n x h
      omega
    · rcases List.mem_append.mp h with h | h
      · have := recF_le nr n x h
        omega
      · rw [List.mem_singleton.mp h]
        omega
theorem recF_len (nr : Int → V6) : ∀ n, (recF nr n).2.length ≤ n + 1
  | 0 => Nat.le_refl 1
  | n + 1 => by
    have := recF_len nr n
    unfold recF
    split
    · omega
    · simp only [List.length_append, List.length_cons, List.length_nil]
      omega
/-- the beginnings -/
theorem recF_begin (nr : Int → V6) {m : Nat} : ∀ n, m ≤ n → (recF nr n).2.filter (fun x => decide (x ≤ (m : Int) + 1)) = (recF nr m).2
  | 0, h => by
    have : m = 0 := by omega
    subst this
    rfl
  | n + 1, h => by
    by_cases e : m = n + 1
    · subst e
      exact List.filter_eq_self.mpr fun x hx => decide_eq_true (by have := recF_le nr (n + 1) x hx; omega)
    · have ih := recF_begin nr n (m := m) (by omega)
      rw [show recF nr (n + 1) = if Pos ((nr ((n : Int) + 2)).sub (recF nr n).1) then recF nr n else (nr ((n : Int) + 2), (recF nr n).2 ++ [(n : Int) + 2]) from rfl]
      split
      · exact ih
      · rw [List.filter_append, ih]
        have : ([(n : Int) + 2]).filter (fun x => decide (x ≤ (m : Int) + 1)) = [] := by
          rw [List.filter_cons, decide_eq_false (by omega)]
          rfl
        rw [this, List.append_nil]
theorem recF_congr {nr nr' : Int → V6} : ∀ n : Nat, (∀ t : Int, 1 ≤ t → t ≤ (n : Int) + 1 → nr t = nr' t) → recF nr n = recF nr' n
  | 0, h => by
    unfold recF
    rw [h 1 (by decide) (by omega)]
  | n + 1, h => by
    have ih := recF_congr n fun t h1 h2 => h t h1 (by omega)
    unfold recF
    rw [ih, h ((n : Int) + 2) (by omega) (by omega)]
/-- the fifth and the octave, reckoned out -/
def nrC (t : Int) : V6 :=
  let low := (V6.mul ⟨-1, 1, 0, 0, 0, 0⟩ t).add (V6.oct (-oct (V6.mul ⟨-1, 1, 0, 0, 0, 0⟩ t).l))
  if Pos (((V6.oct 1).sub low).sub low) then low else (V6.oct 1).sub low
theorem known400 : (recF nrC 399).2 = [1, 2, 5, 12, 41, 53, 306] := by decide +kernel
theorem cmp_lt (x y : V6) : cmpV x.l y.l < 0 ↔ ¬ Pos (x.sub y) := by
  unfold Pos
  rw [← qv_sub]
  unfold cmpV sgn
  split
  · constructor <;> omega
  · split
    · constructor <;> omega
    · constructor <;> omega
theorem nrv_vin {g p : V6} {b c T O : Nat} (s : Sp g p b c T O) {t : Int} (ht : 0 ≤ t ∧ t ≤ T) : vin (c + (c * O + b * T)) (nrv g p t) := by
  have lb := lov_vin s ht
  unfold nrv
  split
  · exact lb.up (by omega)
  · exact vin_sub s.pb lb
theorem law_winds_ok {g p : V6} {b c T O : Nat} (s : Sp g p b c T O) {t : Int} (ht : 0 ≤ t ∧ t ≤ T) : w__law_winds [dV g, dV p, .int t] (· = .int (wd g p t)) := by
  have T1 := s.T1
  have hO := s.O1
  have bT := s.bT
  have hs := s.h
  have gb := vin_mulI s.gb ht
  have fl := law_floor_log_ok (fN (g.mul t).l 6) (gN (g.mul t).l 6) (17 * (b * T)) (fN6_lt fun i => (vin_at gb i).2) (gN6_lt fun i => (vin_at gb i).1) (by omega)
  have ol := s.oO t ht
  have o0 : 0 ≤ oct (g.mul t).l := (too_high s ht.1).1
  have f0 : Pos ((g.mul t).sub (p.mul 0)) := Pos_of_eq (s.gp.mulI ht.1) (by apply V6.ext' <;> simp [V6.sub, V6.mul])
  have th : ¬ Pos ((g.mul t).sub (p.mul (oct (g.mul t).l + 1))) := fun q => (oct_is (g.mul t)).2 (by
    have r := s.p2.mulI (k := oct (g.mul t).l + 1) (by omega)
    generalize oct (g.mul t).l = k at *
    refine Pos_of_eq (q.add r) ?_
    apply V6.ext' <;> simp [V6.add, V6.sub, V6.mul, V6.oct] <;> grind)
  have ofl : flog (fN (g.mul t).l 6) (gN (g.mul t).l 6) = oct (g.mul t).l := rfl
  rw [ofl] at fl
  generalize oct (g.mul t).l = H at *
  walk_at "k"
  refine call_eq (times6_ok g t (by omega)) ?_
  walk_at "k"
  refine call_eq (frac_ok _ (g.mul t) (.inl rfl) (gb.up (by omega))) ?_
  walk_at "k"
  refine call_eq fl ?_
  walk_at "k"
  refine forR_st [5, 6] (fun (a : Int × Int) => [sI a.1, sI a.2]) (fun k a => 0 ≤ a.1 ∧ a.1 < a.2 ∧ a.2 ≤ H + 1 ∧ (a.2 - a.1 - 1) * 2 ^ k ≤ H ∧ Pos ((g.mul t).sub (p.mul a.1)) ∧ ¬ Pos ((g.mul t).sub (p.mul a.2))) (0, H + 1) ⟨Int.le_refl 0, (show (0 : Int) < H + 1 by omega), Int.le_refl _, (show (H + 1 - 0 - 1) * 2 ^ 0 ≤ H by simp), f0, th⟩ rfl (fun k hk a ⟨a0, a1, a2, a3, a4, a5⟩ R hR => ?_) (fun a ⟨a0, a1, a2, a3, a4, a5⟩ => ?_)
  · obtain ⟨low, high⟩ := a
    dsimp only at a0 a1 a2 a3 a4 a5 ⊢
    have p2 : (0 : Int) ≤ 2 ^ k := Int.le_of_lt (Int.pow_pos (by decide))
    have half : ∀ s : Int, 2 * s ≤ high - low - 1 → s * 2 ^ (k + 1) ≤ H := fun s hs2 => by
      have := Int.mul_le_mul_of_nonneg_right hs2 p2
      rw [Int.pow_succ]
      grind
    walk_at "k"
    refine selD (fun h1 => ?_) (fun h1 => ?_)
    · have hm : low < (low + high) / 2 ∧ (low + high) / 2 < high := by omega
      have vb : vin 58000 ((g.mul t).sub (p.mul ((low + high) / 2))) := (vin_sub gb (vin_mulI (m := O + 1) s.pb (by omega))).up (by
        have : c * (O + 1) ≤ c * (O + 2) := Nat.mul_le_mul_left c (by omega)
        omega)
      have sn := sg_neg ((g.mul t).sub (p.mul ((low + high) / 2)))
      walk_at "k"
      refine call_eq (height_ok g p t ((low + high) / 2) (by omega) (by omega)) ?_
      walk_at "k"
      refine call_eq (sign_ok _ _ (.inl rfl) vb) ?_
      walk_at "k"
      refine selD (fun h2 => ?_) (fun h2 => ?_)
      · walk_at "k"
        exact hR ((low + high) / 2, high) _ ⟨(show 0 ≤ (low + high) / 2 by omega), hm.2, a2, half _ (by dsimp only; omega), sg_pos (x := (g.mul t).sub (p.mul ((low + high) / 2))) (by omega), a5⟩ rfl
      · walk_at "k"
        exact hR (low, (low + high) / 2) _ ⟨a0, hm.1, (show (low + high) / 2 ≤ H + 1 by omega), half _ (by dsimp only; omega), a4, sn.mp (by omega)⟩ rfl
    · exact hR (low, high) _ ⟨a0, a1, a2, half _ (by dsimp only; omega), a4, a5⟩ rfl
  · obtain ⟨low, high⟩ := a
    dsimp only at a0 a1 a2 a3 a4 a5 ⊢
    have e : high = low + 1 := by
      have a3 : (high - low - 1) * 2 ^ 60 ≤ H := a3
      omega
    rw [e] at a5
    walk_at "k"
    rw [wd_eq s.pp ⟨a4, a5⟩]
    rfl
theorem law_near_ok {g p : V6} {b c T O : Nat} (s : Sp g p b c T O) {t : Int} (ht : 0 ≤ t ∧ t ≤ T) (hb : 2 * c + 2 * (c * O + b * T) ≤ 58000) : w__law_nearness [dV g, dV p, .int t] (· = dV (nrv g p t)) := by
  have line := line_big
  have T1 := s.T1
  have hO := s.O1
  have bT := s.bT
  obtain ⟨h1, h2, h3, h4⟩ := wd_is s ht
  have lb := lov_vin s ht
  have l1 : p.l.length = 6 := rfl
  have l2 : (lov g p t).l.length = 6 := rfl
  have l3 : (p.sub (lov g p t)).l.length = 6 := rfl
  unfold nrv
  walk_at "k"
  refine call_eq (law_winds_ok s ht) ?_
  walk_at "k"
  refine call_eq (height_ok g p t _ (by omega) (by omega)) ?_
  rw [show (g.mul t).sub (p.mul (wd g p t)) = lov g p t from rfl]
  walk_at "k"
  refine lc_rgI (fun (k : Nat) => at' p.l k - at' (lov g p t).l k) (p.sub (lov g p t)).l (by omega) (fun k hk acc K ha hK => ?_) rfl ?_
  · have hk : k < 6 := hk
    have e0 : (0 : Int) + (k : Int) = k := Int.zero_add _
    walk_at "k"
    rw [e0]
    exact hK
  walk_at "k"
  refine lc_rgI (fun (k : Nat) => at' (p.sub (lov g p t)).l k - at' (lov g p t).l k) ((p.sub (lov g p t)).sub (lov g p t)).l (by omega) (fun k hk acc K ha hK => ?_) rfl ?_
  · have hk : k < 6 := hk
    have e0 : (0 : Int) + (k : Int) = k := Int.zero_add _
    walk_at "k"
    rw [e0]
    exact hK
  walk_at "k"
  refine call_eq (sign_ok _ ((p.sub (lov g p t)).sub (lov g p t)) (.inr rfl) ((vin_sub (vin_sub s.pb lb) lb).up (by omega))) ?_
  have sn := sg_neg ((p.sub (lov g p t)).sub (lov g p t))
  walk_at "k"
  refine selD (fun h => ?_) (fun h => ?_)
  · rw [if_pos (sg_pos (by omega))]
    walk_at "k"
    rfl
  · rw [if_neg (sn.mp (by omega))]
    walk_at "k"
    rfl
theorem records_ok {g p : V6} {b c T O : Nat} (s : Sp g p b c T O) {n : Nat} (hn : n + 1 ≤ T) (hb : 2 * c + 2 * (c * O + b * T) ≤ 58000) : w__law_records [dV g, dV p, .int ((n : Int) + 1)] (· = dI (recF (nrv g p) n).2) := by
  have line := line_big
  have T1 := s.T1
  walk_at "k"
  refine call_eq (law_near_ok s (t := 1) (by omega) hb) ?_
  walk_at "k"
  refine forR_st [3, 4] (fun (a : V6 × List Int) => [some ⟨dV a.1, true, false⟩, some ⟨dI a.2, true, false⟩]) (fun k a => a = recF (nrv g p) k) (recF (nrv g p) 0) rfl rfl (fun k hk a e R hR => ?_) (fun a e => ?_)
  · have hk : k < n := by omega
    have ht : 0 ≤ (2 + (k : Int)) ∧ (2 + (k : Int)) ≤ T := by omega
    have e2 : (2 + (k : Int)) = (k : Int) + 2 := by omega
    have vb := nrv_vin s ht
    have ll := recF_len (nrv g p) k
    have bb : vin (c + (c * O + b * T)) a.1 := by
      subst e
      clear hR
      have : ∀ m : Nat, m + 1 ≤ T → vin (c + (c * O + b * T)) (recF (nrv g p) m).1 := fun m => by
        induction m with
        | zero => exact fun h => nrv_vin s (by omega)
        | succ m ih =>
          intro h
          unfold recF
          split
          · exact ih (by omega)
          · exact nrv_vin s (by omega)
      exact this k (by omega)
    rw [← e] at ll
    have rs : recF (nrv g p) (k + 1) = if Pos ((nrv g p (2 + (k : Int))).sub a.1) then a else (nrv g p (2 + (k : Int)), a.2 ++ [2 + (k : Int)]) := by
      rw [e, e2]
      rfl
    clear e
    obtain ⟨best, found⟩ := a
    dsimp only at bb ll rs ⊢
    have l1 : best.l.length = 6 := rfl
    have l2 : (nrv g p (2 + (k : Int))).l.length = 6 := rfl
    walk_at "k"
    refine call_eq (law_near_ok s ht hb) ?_
    walk_at "k"
    refine lc_rgI (fun (j : Nat) => at' (nrv g p (2 + (k : Int))).l j - at' best.l j) ((nrv g p (2 + (k : Int))).sub best).l (by omega) (fun j hj acc K ha hK => ?_) rfl ?_
    · have hj : j < 6 := hj
      have e0 : (0 : Int) + (j : Int) = j := Int.zero_add _
      walk_at "k"
      rw [e0]
      exact hK
    walk_at "k"
    refine call_eq (sign_ok _ ((nrv g p (2 + (k : Int))).sub best) (.inr rfl) ((vin_sub vb bb).up (by omega))) ?_
    have sn := sg_neg ((nrv g p (2 + (k : Int))).sub best)
    walk_at "k"
    refine selD (fun h => ?_) (fun h => ?_)
    · rw [if_neg (sn.mp h)] at rs
      walk_at "k"
      exact hR (_, _) _ rs.symm (by rw [← dI_app]; rfl)
    · rw [if_pos (Decidable.not_not.mp fun q => h (sn.mpr q))] at rs
      exact hR (_, _) _ rs.symm rfl
  · subst e
    walk_at "k"
    show dI (recF (nrv g p) ((n : Int) + 1 + 1 - 2).toNat).2 = _
    rw [show ((n : Int) + 1 + 1 - 2).toNat = n by omega]
theorem near_turns_ok {g p : V6} {b c T O : Nat} (s : Sp g p b c T O) {n : Nat} (hn : n + 1 ≤ T) (hb : 2 * c + 2 * (c * O + b * T) ≤ 58000) : w_near_turns [dV g, dV p, .int ((n : Int) + 1)] (· = dI (recF (nrv g p) n).2) := by
  have line := line_big
  have T1 := s.T1
  walk_at "k"
  refine call_eq (near_ok s (t := 1) (by omega) (by omega)) ?_
  walk_at "k"
  refine forR_st [3, 4] (fun (a : V6 × List Int) => [some ⟨dV a.1, true, false⟩, some ⟨dI a.2, true, false⟩]) (fun k a => a = recF (nrv g p) k) (recF (nrv g p) 0) rfl rfl (fun k hk a e R hR => ?_) (fun a e => ?_)
  · have hk : k < n := by omega
    have ht : 0 ≤ (2 + (k : Int)) ∧ (2 + (k : Int)) ≤ T := by omega
    have e2 : (2 + (k : Int)) = (k : Int) + 2 := by omega
    have vb := nrv_vin s ht
    have ll := recF_len (nrv g p) k
    have bb : vin (c + (c * O + b * T)) a.1 := by
      subst e
      clear hR
      have : ∀ m : Nat, m + 1 ≤ T → vin (c + (c * O + b * T)) (recF (nrv g p) m).1 := fun m => by
        induction m with
        | zero => exact fun h => nrv_vin s (by omega)
        | succ m ih =>
          intro h
          unfold recF
          split
          · exact ih (by omega)
          · exact nrv_vin s (by omega)
      exact this k (by omega)
    rw [← e] at ll
    have rs : recF (nrv g p) (k + 1) = if Pos ((nrv g p (2 + (k : Int))).sub a.1) then a else (nrv g p (2 + (k : Int)), a.2 ++ [2 + (k : Int)]) := by
      rw [e, e2]
      rfl
    clear e
    obtain ⟨best, found⟩ := a
    dsimp only at bb ll rs ⊢
    walk_at "k"
    refine call_eq (near_ok s ht (by omega)) ?_
    walk_at "k"
    refine call_eq (cmp_ok (nrv g p (2 + (k : Int))) best ((vin_sub vb bb).up (by omega))) ?_
    have cl := cmp_lt (nrv g p (2 + (k : Int))) best
    walk_at "k"
    refine selD (fun h => ?_) (fun h => ?_)
    · rw [if_neg (cl.mp h)] at rs
      walk_at "k"
      exact hR (_, _) _ rs.symm (by rw [← dI_app]; rfl)
    · rw [if_pos (Decidable.not_not.mp fun q => h (cl.mpr q))] at rs
      exact hR (_, _) _ rs.symm rfl
  · subst e
    walk_at "k"
    show dI (recF (nrv g p) ((n : Int) + 1 + 1 - 2).toNat).2 = _
    rw [show ((n : Int) + 1 + 1 - 2).toNat = n by omega]
theorem asks_near_ok {g p : V6} {b c T O : Nat} (s : Sp g p b c T O) {n : Nat} (hn : n + 1 ≤ T) (hb : 2 * c + 2 * (c * O + b * T) ≤ 58000) : w__law_asks [dV g, dV p, .int ((n : Int) + 1), dI (recF (nrv g p) n).2] (· = .bool true) := by
  walk_at "k"
  refine call_eq (near_turns_ok s hn hb) ?_
  walk_at "k"
  rw [List.length_map]
  refine call_eq (is_numbers_ok _ _) ?_
  rw [decide_eq_true rfl]
  walk_at "k"
  exact ⟨⟨(shp_dI _).sh, (shp_dI _).sh⟩, rfl, congrArg PyData.bool (eqv_self (shp_dI (recF (nrv g p) n).2))⟩
theorem lov_lt {g p : V6} {b c T O : Nat} (s : Sp g p b c T O) {t : Int} (ht : 0 ≤ t ∧ t ≤ T) : ¬ Pos ((lov g p t).sub p) := fun q =>
  (wd_is s ht).1.2 (Pos_of_eq q (by unfold lov; apply V6.ext' <;> simp [V6.sub, V6.mul] <;> grind))
theorem nrv_pos {g p : V6} {b c T O : Nat} (s : Sp g p b c T O) {t : Int} (ht : 0 ≤ t ∧ t ≤ T) : Pos (nrv g p t) := by
  have l := lov_lt s ht
  unfold nrv
  split
  · exact (wd_is s ht).1.1
  · have := Pos.of_not l
    rw [neg_sub] at this
    exact this
theorem eq_of_lov {g p : V6} {t : Int} (h : lov g p t = V6.oct 0) : g.mul t = p.mul (wd g p t) := by
  unfold lov at h
  have e0 := congrArg V6.a h
  have e1 := congrArg V6.b h
  have e2 := congrArg V6.c h
  have e3 := congrArg V6.d h
  have e4 := congrArg V6.e h
  have e5 := congrArg V6.f h
  simp only [V6.sub, V6.oct] at e0 e1 e2 e3 e4 e5
  apply V6.ext' <;> omega
theorem nrv_str {g p : V6} {b c T O : Nat} (s : Sp g p b c T O) {m n : Int} (h : Cl g p (some (m, n))) {t : Int} (ht : 0 ≤ t ∧ t ≤ T) (h1 : 1 ≤ t) (h2 : t < m) : ¬ Pos (nrv g p t).neg := fun q => by
  have z := (nrv_pos s ht).zero q
  have l := lov_lt s ht
  unfold nrv at z
  split at z
  · have e := eq_of_lov z
    have w0 := (wd_is s ht).2.1
    have w1 : 1 ≤ wd g p t := by
      rcases Int.lt_or_le 0 (wd g p t) with y | y
      · exact y
      · exfalso
        have y : wd g p t = 0 := by omega
        rw [y] at e
        obtain ⟨k, hk, nz⟩ := v6_nz s.g1
        have := mul_eq e (k : Int)
        rw [Int.mul_zero] at this
        rcases Int.mul_eq_zero.mp this with q | q
        · exact nz q
        · omega
    have := h.2.2.2 t _ h1 w1 e
    omega
  · refine l (Pos_of_eq pos_zero ?_)
    rw [← neg_sub, z]
    rfl
theorem nrv_end {g p : V6} {b c T O : Nat} (s : Sp g p b c T O) {m n : Int} (h : Cl g p (some (m, n))) : nrv g p m = V6.oct 0 := by
  have wn : wd g p m = n := wd_eq s.pp ⟨Pos_of_eq pos_zero (by
    rw [h.2.2.1]
    apply V6.ext' <;> simp [V6.sub, V6.oct]), fun q => s.pn (Pos_of_eq q (by
    rw [h.2.2.1]
    apply V6.ext' <;> simp [V6.sub, V6.neg, V6.mul] <;> grind))⟩
  have e : lov g p m = V6.oct 0 := by
    unfold lov
    rw [wn, h.2.2.1]
    apply V6.ext' <;> simp [V6.sub, V6.oct]
  unfold nrv
  rw [e, if_pos (Pos_of_eq s.pp (by apply V6.ext' <;> simp [V6.sub, V6.oct]))]
theorem rec_last {g p : V6} {b c T O : Nat} (s : Sp g p b c T O) {m n : Int} (h : Cl g p (some (m, n))) : ∀ k : Nat, k + 1 ≤ T → ((k : Int) + 1 < m → ¬ Pos (recF (nrv g p) k).1.neg) ∧ (m ≤ (k : Int) + 1 → (recF (nrv g p) k).1 = V6.oct 0 ∧ ∃ ys, (recF (nrv g p) k).2 = ys ++ [m])
  | 0, hk => by
    refine ⟨fun h1 => nrv_str s h (by omega) (by omega) (by omega), fun h1 => ?_⟩
    have e : m = 1 := by have := h.1; omega
    have z := nrv_end s h
    rw [e] at z
    exact ⟨z, [], by rw [e]; rfl⟩
  | k + 1, hk => by
    obtain ⟨i1, i2⟩ := rec_last s h k (by omega)
    have np := nrv_pos s (t := (k : Int) + 2) (by omega)
    rw [show recF (nrv g p) (k + 1) = if Pos ((nrv g p ((k : Int) + 2)).sub (recF (nrv g p) k).1) then recF (nrv g p) k else (nrv g p ((k : Int) + 2), (recF (nrv g p) k).2 ++ [(k : Int) + 2]) from rfl]
    refine ⟨fun h1 => ?_, fun h1 => ?_⟩
    · split
      · exact i1 (by omega)
      · exact nrv_str s h (by omega) (by omega) (by omega)
    · by_cases e : m = (k : Int) + 2
      · have z := nrv_end s h
        rw [e] at z
        have q := i1 (by omega)
        rw [z, if_neg fun y => q (Pos_of_eq y (by apply V6.ext' <;> simp [V6.sub, V6.oct, V6.neg]))]
        exact ⟨rfl, _, by rw [e]⟩
      · obtain ⟨z, ys, ey⟩ := i2 (by omega)
        rw [if_pos (Pos_of_eq np (by rw [z]; apply V6.ext' <;> simp [V6.sub, V6.oct]))]
        exact ⟨z, ys, ey⟩
theorem fifth_sp : Sp ⟨-1, 1, 0, 0, 0, 0⟩ ⟨1, 0, 0, 0, 0, 0⟩ 2 2 400 13601 := by
  have q : (∀ z ∈ V6.l ⟨-1, 1, 0, 0, 0, 0⟩, -((2 : Nat) : Int) ≤ z ∧ z ≤ (2 : Nat)) ∧ ¬ Pos (V6.neg ⟨-1, 1, 0, 0, 0, 0⟩) ∧ (∀ z ∈ V6.l ⟨1, 0, 0, 0, 0, 0⟩, -((2 : Nat) : Int) ≤ z ∧ z ≤ (2 : Nat)) ∧ Pos (V6.add ⟨1, 0, 0, 0, 0, 0⟩ (V6.oct (-1))) := by decide +kernel
  exact ⟨fun t ht => oct_le (vin_mulI (b := 2) (m := 400) q.1 ht), by decide, q.2.1, q.2.2.2, q.1, q.2.2.1, by decide, by decide, by decide, by decide⟩
theorem sub_oct (x : V6) (w : Int) : x.sub (V6.mul ⟨1, 0, 0, 0, 0, 0⟩ w) = x.add (V6.oct (-w)) := by
  apply V6.ext' <;> simp [V6.sub, V6.mul, V6.add, V6.oct] <;> omega
theorem fifth_nr (t : Int) : nrv ⟨-1, 1, 0, 0, 0, 0⟩ ⟨1, 0, 0, 0, 0, 0⟩ t = nrC t := by
  have oi := oct_is (V6.mul ⟨-1, 1, 0, 0, 0, 0⟩ t)
  have wn : wd ⟨-1, 1, 0, 0, 0, 0⟩ ⟨1, 0, 0, 0, 0, 0⟩ t = oct (V6.mul ⟨-1, 1, 0, 0, 0, 0⟩ t).l := wd_eq fifth_sp.pp ⟨by rw [sub_oct]; exact oi.1, by rw [sub_oct]; exact oi.2⟩
  have lo : lov ⟨-1, 1, 0, 0, 0, 0⟩ ⟨1, 0, 0, 0, 0, 0⟩ t = (V6.mul ⟨-1, 1, 0, 0, 0, 0⟩ t).add (V6.oct (-oct (V6.mul ⟨-1, 1, 0, 0, 0, 0⟩ t).l)) := by
    unfold lov
    rw [wn, sub_oct]
  unfold nrv nrC
  rw [lo]
  rfl
theorem known {m : Nat} (h : m ≤ 399) : (recF (nrv ⟨-1, 1, 0, 0, 0, 0⟩ ⟨1, 0, 0, 0, 0, 0⟩) m).2 = [1, 2, 5, 12, 41, 53, 306].filter (fun x => decide (x ≤ (m : Int) + 1)) := by
  rw [recF_congr m fun t _ _ => fifth_nr t, ← known400, recF_begin nrC 399 h]
theorem filter_ok {step : D → List D → (List D → Prop) → Prop} {P : List D → Prop} (xs ys : List Int) (l : Int) (hl : xs.length ≤ sizeLine) (hs : ∀ x ∈ xs, ∀ acc K, acc.length < sizeLine → (x ≤ l → K (acc ++ [PyData.int x])) → (¬ x ≤ l → K acc) → step (.int x) acc K) (e : xs.filter (fun x => decide (x ≤ l)) = ys) (h : P (ys.map PyData.int)) : LcL step (xs.map PyData.int) [] P :=
  lc_filterL (enc := PyData.int) PyData.int (fun x => decide (x ≤ l)) (fun x => x) ys hl (fun x hx acc K ha h1 h2 => hs x hx acc K ha (fun q => h1 (decide_eq_true q)) (fun q => h2 (decide_eq_false q))) (by rw [List.map_id', e]) h
/-- one prime alone -/
theorem oct_one {i : Nat} (hi : i < 3) {v : List Int} (h0 : ∀ k : Nat, k < 6 → k ≠ i → at' v k = 0) (h1 : 0 ≤ at' v i ∧ at' v i ≤ 480) : oct v ≤ 1441 := by
  have hb : ∀ k : Nat, k < 6 → at' v k ≤ (if k = i then 480 else 0 : Nat) ∧ -((if k = i then 480 else 0 : Nat) : Int) ≤ at' v k := fun k hk => by
    by_cases e : k = i
    · subst e
      rw [if_pos rfl]
      omega
    · rw [if_neg e, h0 k hk e]
      decide
  have B : Bw (fun k => if k = i then 480 else 0) 6 ≤ 1440 := by
    have : i = 0 ∨ i = 1 ∨ i = 2 := by omega
    rcases this with rfl | rfl | rfl <;> decide
  have f := fN_B (v := v) (β := fun k => if k = i then 480 else 0) 6 fun k hk => (hb k hk).1
  have g := gN_B (v := v) (β := fun k => if k = i then 480 else 0) 6 fun k hk => (hb k hk).2
  have := (flog_b (n := fN v 6) (d := gN v 6) (a := 1441) (Nat.lt_of_le_of_lt f (Nat.pow_lt_pow_right (by decide) (by omega))) (Nat.lt_of_le_of_lt g (Nat.pow_lt_pow_right (by decide) (by omega)))).2
  unfold oct
  omega
def Sq (g p : V6) (l : Int) : Prop := Tw g p ∧ ∃ b c T O, Sp g p b c T O ∧ 2 * c + 2 * (c * O + b * T) ≤ 58000 ∧ l ≤ T
theorem Spi.sq {ds : List Int} {g p : V6} (h : Spi ds g p) {l : Int} (hl : l ≤ 10 ∨ (at' ds 0 % 2 = 0 ∧ l ≤ 60)) : Sq g p l := by
  refine ⟨h.tw, ?_⟩
  obtain ⟨h1, h2, ⟨e, v1, v2⟩ | ⟨e, v1, v2⟩⟩ := h
  · exact ⟨2, 2, 60, 2041, ⟨fun t ht => oct_le (vin_mulI (m := 60) v1 ht), by decide, h1, h2, v1, v2, by decide, by decide, by decide, by decide⟩, by decide, by omega⟩
  · exact ⟨7, 8, 10, 1191, ⟨fun t ht => oct_le (vin_mulI (m := 10) v1 ht), by decide, h1, h2, v1, v2, by decide, by decide, by decide, by decide⟩, by decide, by omega⟩
theorem unit3 {i : Int} (h0 : 0 ≤ i) (h1 : i < 3) : ∃ y : V6, (∀ j : Nat, j < 6 → at' y.l j = if (j : Int) = i then 1 else 0) ∧ (vin 1 y ∧ Pos (y.add (V6.oct (-1)))) ∧ ∀ c : Int, (List.range (Int.toNat 6)).map (fun (j : Nat) => c * (if (j : Int) = i then (1 : Int) else 0)) = (y.mul c).l := by
  have v : ∀ x ∈ [(⟨1, 0, 0, 0, 0, 0⟩ : V6), ⟨0, 1, 0, 0, 0, 0⟩, ⟨0, 0, 1, 0, 0, 0⟩], (∀ z ∈ x.l, -((1 : Nat) : Int) ≤ z ∧ z ≤ (1 : Nat)) ∧ Pos (x.add (V6.oct (-1))) := by decide +kernel
  have : i = 0 ∨ i = 1 ∨ i = 2 := by omega
  rcases this with rfl | rfl | rfl
  · exact ⟨⟨1, 0, 0, 0, 0, 0⟩, by decide, v ⟨1, 0, 0, 0, 0, 0⟩ (by simp), fun c => by simp [List.range, List.range.loop, V6.mul, V6.l]⟩
  · exact ⟨⟨0, 1, 0, 0, 0, 0⟩, by decide, v ⟨0, 1, 0, 0, 0, 0⟩ (by simp), fun c => by simp [List.range, List.range.loop, V6.mul, V6.l]⟩
  · exact ⟨⟨0, 0, 1, 0, 0, 0⟩, by decide, v ⟨0, 0, 1, 0, 0, 0⟩ (by simp), fun c => by simp [List.range, List.range.loop, V6.mul, V6.l]⟩
theorem one_sq {y : V6} {i : Nat} (hi : i < 3) (hy : ∀ j : Nat, j < 6 → at' y.l j = if (j : Int) = (i : Int) then 1 else 0) (vy : vin 1 y) (py : Pos (y.add (V6.oct (-1)))) {m n l : Int} (hm : 1 ≤ m ∧ m ≤ 8) (hn : 1 ≤ n ∧ n ≤ 8) (hl : l ≤ 60) : Sq (y.mul m) (y.mul n) l := by
  have v1 : vin 8 (y.mul m) := (vin_mulI (m := 8) vy (by omega)).up (by decide)
  have v2 : vin 8 (y.mul n) := (vin_mulI (m := 8) vy (by omega)).up (by decide)
  refine ⟨⟨str_of (mul_two py hm.1), mul_two py hn.1, v1, v2⟩, 8, 8, 60, 1441, ⟨fun t ht => oct_one hi (fun k hk e => ?_) ?_, by decide, str_of (mul_two py hm.1), mul_two py hn.1, v1, v2, by decide, by decide, by decide, by decide⟩, by decide, by omega⟩
  · rw [at_mul, at_mul, hy k hk, if_neg (by omega)]
    simp
  · rw [at_mul, at_mul, hy i (by omega), if_pos rfl, Int.one_mul]
    obtain ⟨a, rfl⟩ := Int.eq_ofNat_of_zero_le (a := m) (by omega)
    obtain ⟨b, rfl⟩ := Int.eq_ofNat_of_zero_le ht.1
    have : a * b ≤ 8 * 60 := Nat.mul_le_mul (by omega) (by omega)
    have e : (a : Int) * b = ((a * b : Nat) : Int) := by simp
    omega
theorem last_at {xs ys : List Int} {u : Int} (e : xs = ys ++ [u]) : atI (xs.map PyData.int) (((xs.map PyData.int).length : Int) - 1) = some (.int u) := by
  subst e
  have q := atI_at (xs := ys ++ [u]) (i := (((ys ++ [u]).map PyData.int).length : Int) - 1) (by simp) (by simp; omega)
  rw [q]
  congr 2
  unfold at'
  simp
theorem law_holds (ns : List Int) (h63 : ns.length ≤ 63) (_ : ∀ z ∈ ns, Builtin.Int.intBits z ≤ 1048576) : w_law [scr ns] fun d => d = .bool true := by
  have line := line_big
  have k60 : (recF (nrv ⟨-1, 1, 0, 0, 0, 0⟩ ⟨1, 0, 0, 0, 0, 0⟩) 59).2 = [1, 2, 5, 12, 41, 53] := by rw [known (by decide)]; decide
  have k11 : (recF (nrv ⟨-1, 1, 0, 0, 0, 0⟩ ⟨1, 0, 0, 0, 0, 0⟩) 10).2 = [1, 2, 5] := by rw [known (by decide)]; decide
  have n60 := near_turns_ok fifth_sp (n := 59) (by decide) (by decide)
  rw [k60] at n60
  have n11 := near_turns_ok fifth_sp (n := 10) (by decide) (by decide)
  rw [k11] at n11
  walk_at "k"
  refine call_ex (draws_ok ns h63 40 (by decide)) ?_
  rintro _ ⟨ds, rfl, hl, hd⟩
  walk_at "k"
  refine call_ex (spiral_ok ds (by omega) hd) ?_
  rintro _ ⟨g, p, rfl, hs⟩
  walk_at "k"
  refine ifJs [4] (fun (a : {l : Int // 1 ≤ l ∧ l ≤ 60 ∧ (l ≤ 10 ∨ (at' ds 0 % 2 = 0 ∧ l ≤ 60))}) => [sI a.1]) (fun a => ?_) (fun N hN => ?_)
  · obtain ⟨l, l1, l60, hl10⟩ := a
    dsimp only
    walk_at "k"
    refine ifJs [2, 3, 5, 6, 7] (fun (a : {x : V6 × V6 // Sq x.1 x.2 l} × Option Slot × Option Slot × Option Slot) => [some ⟨dV a.1.1.1, true, false⟩, some ⟨dV a.1.1.2, true, false⟩, a.2.1, a.2.2.1, a.2.2.2]) (fun a => ?_) (fun N hN => ?_)
    · obtain ⟨⟨⟨g, p⟩, ⟨t1, t2, t3, t4⟩, b, c, T, O, s, hb, hT⟩, o1, o2, o3⟩ := a
      dsimp only at t1 t2 t3 t4 s ⊢
      clear hs
      obtain ⟨n, rfl⟩ : ∃ n : Nat, l = (n : Int) + 1 := ⟨(l - 1).toNat, by omega⟩
      have nT : n + 1 ≤ T := by omega
      walk_at "k"
      refine call_eq (records_ok s nT hb) ?_
      walk_at "k"
      refine call_eq (asks_near_ok s nT hb) ?_
      walk_at "k"
      have mm : 0 ≤ at' ds 26 % ((n : Int) + 1) ∧ at' ds 26 % ((n : Int) + 1) < (n : Int) + 1 := ⟨Int.emod_nonneg _ (by omega), Int.emod_lt_of_pos _ (by omega)⟩
      obtain ⟨m, hm⟩ := Int.eq_ofNat_of_zero_le mm.1
      have rl := recF_len (nrv g p) n
      rw [hm]
      refine filter_ok (recF (nrv g p) n).2 (recF (nrv g p) m).2 ((m : Int) + 1) (by omega) (fun x hx acc K ha h1 h2 => ?_) (recF_begin _ n (by omega)) ?_
      · walk_at "k"
        refine selD (fun h => ?_) (fun h => ?_)
        · walk_at "k"
          exact h1 h
        · exact h2 h
      walk_at "k"
      refine call_eq (asks_near_ok s (n := m) (by omega) hb) ?_
      walk_at "k"
      refine call_eq (asks_near_ok s (n := 0) (by omega) hb) ?_
      walk_at "k"
      refine call_ex (closes_ok t1 t3 t4) ?_
      rintro _ ⟨o, rfl, cl⟩
      rcases o with _ | ⟨u, v⟩
      walk_at "k"
      rotate_left
      walk_at "k"
      refine ⟨_, rfl, ?_⟩
      walk_at "k"
      refine selD (fun h => ?_) (fun h => ?_)
      obtain ⟨z, ys, ey⟩ := (rec_last s cl n nT).2 h
      walk_at "k"
      refine ⟨_, last_at ey, ?_⟩
      walk_at "k"
      refine ⟨_, rfl, ?_⟩
      walk_at "k"
      rw [decide_eq_true rfl]
      walk_at "k"
      all_goals
        walk_at "k"
        rw [ng_f]
        refine selD (fun h1 => ?_) (fun h1 => ?_)
        walk_at "k"
        refine call_eq n60 ?_
      all_goals
        walk_at "k"
        refine call_eq n11 ?_
        walk_at "k"
        refine ifJs [11, 12] (fun (a : Option Slot × Option Slot) => [a.1, a.2]) (fun a => ?_) (fun N hN => ?_)
        · obtain ⟨o4, o5⟩ := a
          dsimp only
          obtain ⟨r, hr⟩ := Int.eq_ofNat_of_zero_le (a := ((n : Int) + 1) / 2) (by omega)
          walk_at "k"
          rw [hr]
          refine filter_ok (recF (nrv g p) n).2 (recF (nrv g p) r).2 ((r : Int) + 1) (by omega) (fun x hx acc K ha h1 h2 => ?_) (recF_begin _ n (by omega)) ?_
          · walk_at "k"
            refine selD (fun h => ?_) (fun h => ?_)
            · walk_at "k"
              exact h1 (by omega)
            · exact h2 (by omega)
          walk_at "k"
          refine call_eq (asks_near_ok s (n := r) (by omega) hb) ?_
          exact ⟨rfl, rfl⟩
        · walk_at "k"
          rw [ng_f]
          refine selD (fun h3 => ?_) (fun h3 => ?_)
          · obtain ⟨w, hw⟩ := Int.eq_ofNat_of_zero_le (a := at' ds 29 % 340) (by omega)
            have ew : 61 + (w : Int) = ((60 + w : Nat) : Int) + 1 := by omega
            walk_at "k"
            rw [hw, ew]
            refine filter_ok [1, 2, 5, 12, 41, 53, 306] (recF (nrv ⟨-1, 1, 0, 0, 0, 0⟩ ⟨1, 0, 0, 0, 0, 0⟩) (60 + w)).2 (((60 + w : Nat) : Int) + 1) (by show 7 ≤ sizeLine; omega) (fun x hx acc K ha h1 h2 => ?_) (known (by omega)).symm ?_
            · walk_at "k"
              refine selD (fun h => ?_) (fun h => ?_)
              · walk_at "k"
                exact h1 (by omega)
              · exact h2 (by omega)
            walk_at "k"
            refine call_eq (asks_near_ok fifth_sp (n := 60 + w) (by omega) (by decide)) ?_
            walk_at "k"
            exact hN (_, _)
          · exact hN (_, _)
    · walk_at "k"
      rw [ng_f]
      refine selD (fun h1 => ?_) (fun h1 => ?_)
      · obtain ⟨y, hy, ⟨vy, py⟩, el⟩ := unit3 (i := at' ds 25 % 3) (by omega) (by omega)
        obtain ⟨i, hi⟩ := Int.eq_ofNat_of_zero_le (a := at' ds 25 % 3) (by omega)
        have q := one_sq (i := i) (by omega) (by rw [← hi]; exact hy) vy py (m := at' ds 23 % 8 + 1) (n := at' ds 24 % 8 + 1) (l := l) (by omega) (by omega) l60
        walk_at "k"
        refine lc_rgI (fun (j : Nat) => (at' ds 23 % 8 + 1) * (if (j : Int) = at' ds 25 % 3 then (1 : Int) else 0)) _ (by omega) (fun j hj acc K ha hK => ?_) (el _) ?_
        · walk_at "k"
          rw [ng_f, unit_step]
          refine And.intro (mul_l (by omega)) ?_
          walk_at "k"
          exact hK
        walk_at "k"
        refine lc_rgI (fun (j : Nat) => (at' ds 24 % 8 + 1) * (if (j : Int) = at' ds 25 % 3 then (1 : Int) else 0)) _ (by omega) (fun j hj acc K ha hK => ?_) (el _) ?_
        · walk_at "k"
          rw [ng_f, unit_step]
          refine And.intro (mul_l (by omega)) ?_
          walk_at "k"
          exact hK
        walk_at "k"
        exact hN (⟨(_, _), q⟩, _, _, _)
      · exact hN (⟨(g, p), hs.sq hl10⟩, _, _, _)
  · walk_at "k"
    rw [ng_f]
    refine selD (fun h1 => ?_) (fun h1 => ?_)
    · walk_at "k"
      rw [ng_f]
      refine selD (fun h2 => ?_) (fun h2 => ?_)
      · walk_at "k"
        exact hN ⟨at' ds 20 % 60 + 1, by omega, by omega, .inr ⟨h1, by omega⟩⟩
      · exact hN ⟨at' ds 20 % 10 + 1, by omega, by omega, .inl (by omega)⟩
    · exact hN ⟨at' ds 20 % 10 + 1, by omega, by omega, .inl (by omega)⟩
end KM
namespace KM
open PySem PySem.Spec PyProof.Rows L2 KT
def topS (i : Nat) : Stmt := PySem.Challenge.pw_keystuned_k65_near_closings.main.body.getD i (.Pass ⟨0, 0, 0, 0⟩)
abbrev s_raised : Stmt := topS 1
theorem sc_raised : FnScope ["base", "times", "result", "square"] ["base", "times"] (defScope s_raised) := ⟨rfl, rfl, rfl, by decide +kernel, rfl, by decide +kernel, by decide +kernel⟩
abbrev s_reaches : Stmt := topS 2
theorem sc_reaches : FnScope ["numerator", "denominator", "exponent"] ["numerator", "denominator", "exponent"] (defScope s_reaches) := ⟨rfl, rfl, rfl, by decide +kernel, rfl, by decide +kernel, by decide +kernel⟩
abbrev s_floor_log2 : Stmt := topS 3
theorem sc_floor_log2 : FnScope ["numerator", "denominator", "exponent"] ["numerator", "denominator"] (defScope s_floor_log2) := ⟨rfl, rfl, rfl, by decide +kernel, rfl, by decide +kernel, by decide +kernel⟩
abbrev s_common_divisor : Stmt := topS 4
theorem sc_common_divisor : FnScope ["first", "second"] ["first", "second"] (defScope s_common_divisor) := ⟨rfl, rfl, rfl, by decide +kernel, rfl, by decide +kernel, by decide +kernel⟩
abbrev s_fraction_of : Stmt := topS 7
theorem sc_fraction_of : FnScope ["vector", "numerator", "denominator", "at"] ["vector"] (defScope s_fraction_of) := ⟨rfl, rfl, rfl, by decide +kernel, rfl, by decide +kernel, by decide +kernel⟩
abbrev s_quotient : Stmt := topS 8
theorem sc_quotient : FnScope ["first", "second", "at"] ["first", "second"] (defScope s_quotient) := ⟨rfl, rfl, rfl, by decide +kernel, rfl, by decide +kernel, by decide +kernel⟩
abbrev s_power : Stmt := topS 9
theorem sc_power : FnScope ["vector", "times", "exponent"] ["vector", "times"] (defScope s_power) := ⟨rfl, rfl, rfl, by decide +kernel, rfl, by decide +kernel, by decide +kernel⟩
abbrev s_compare : Stmt := topS 10
theorem sc_compare : FnScope ["first", "second", "numerator", "denominator"] ["first", "second"] (defScope s_compare) := ⟨rfl, rfl, rfl, by decide +kernel, rfl, by decide +kernel, by decide +kernel⟩
abbrev s_octaves : Stmt := topS 11
theorem sc_octaves : FnScope ["vector", "numerator", "denominator"] ["vector"] (defScope s_octaves) := ⟨rfl, rfl, rfl, by decide +kernel, rfl, by decide +kernel, by decide +kernel⟩
abbrev s_winds : Stmt := topS 13
theorem sc_winds : FnScope ["generator", "period", "turns", "total", "low", "high", "middle"] ["generator", "period", "turns"] (defScope s_winds) := ⟨rfl, rfl, rfl, by decide +kernel, rfl, by decide +kernel, by decide +kernel⟩
abbrev s_left_over : Stmt := topS 14
theorem sc_left_over : FnScope ["generator", "period", "turns"] ["generator", "period", "turns"] (defScope s_left_over) := ⟨rfl, rfl, rfl, by decide +kernel, rfl, by decide +kernel, by decide +kernel⟩
abbrev s_nearness : Stmt := topS 15
theorem sc_nearness : FnScope ["generator", "period", "turns", "below", "above"] ["generator", "period", "turns"] (defScope s_nearness) := ⟨rfl, rfl, rfl, by decide +kernel, rfl, by decide +kernel, by decide +kernel⟩
abbrev s_closes : Stmt := topS 16
theorem sc_closes : FnScope ["generator", "period", "at", "common", "turns", "rounds"] ["generator", "period"] (defScope s_closes) := ⟨rfl, rfl, rfl, by decide +kernel, rfl, by decide +kernel, by decide +kernel⟩
abbrev s_near_turns : Stmt := topS 17
theorem sc_near_turns : FnScope ["generator", "period", "limit", "best", "found", "turns", "present"] ["generator", "period", "limit"] (defScope s_near_turns) := ⟨rfl, rfl, rfl, by decide +kernel, rfl, by decide +kernel, by decide +kernel⟩
abbrev s__law_draws : Stmt := topS 19
theorem sc__law_draws : FnScope ["script", "many", "found", "cell", "number", "k", "mixed", "base"] ["script", "many"] (defScope s__law_draws) := ⟨rfl, rfl, rfl, by decide +kernel, rfl, by decide +kernel, by decide +kernel⟩
abbrev s__law_is_number : Stmt := topS 20
theorem sc__law_is_number : FnScope ["value"] ["value"] (defScope s__law_is_number) := ⟨rfl, rfl, rfl, by decide +kernel, rfl, by decide +kernel, by decide +kernel⟩
abbrev s__law_is_numbers : Stmt := topS 21
theorem sc__law_is_numbers : FnScope ["value", "many", "item"] ["value", "many"] (defScope s__law_is_numbers) := ⟨rfl, rfl, rfl, by decide +kernel, rfl, by decide +kernel, by decide +kernel⟩
abbrev s__law_power : Stmt := topS 22
theorem sc__law_power : FnScope ["base", "times", "result"] ["base", "times"] (defScope s__law_power) := ⟨rfl, rfl, rfl, by decide +kernel, rfl, by decide +kernel, by decide +kernel⟩
abbrev s__law_fraction : Stmt := topS 23
theorem sc__law_fraction : FnScope ["vector", "primes", "above", "below", "k"] ["vector"] (defScope s__law_fraction) := ⟨rfl, rfl, rfl, by decide +kernel, rfl, by decide +kernel, by decide +kernel⟩
abbrev s__law_sign : Stmt := topS 24
theorem sc__law_sign : FnScope ["vector", "above", "below"] ["vector"] (defScope s__law_sign) := ⟨rfl, rfl, rfl, by decide +kernel, rfl, by decide +kernel, by decide +kernel⟩
abbrev s__law_times : Stmt := topS 25
theorem sc__law_times : FnScope ["vector", "times", "entry"] ["vector", "times"] (defScope s__law_times) := ⟨rfl, rfl, rfl, by decide +kernel, rfl, by decide +kernel, by decide +kernel⟩
abbrev s__law_floor_log : Stmt := topS 26
theorem sc__law_floor_log : FnScope ["above", "below", "steps"] ["above", "below"] (defScope s__law_floor_log) := ⟨rfl, rfl, rfl, by decide +kernel, rfl, by decide +kernel, by decide +kernel⟩
abbrev s__law_spiral : Stmt := topS 27
theorem sc__law_spiral : FnScope ["draws", "at", "generators", "periods", "spread", "found", "k", "vector", "sign", "j", "entry"] ["draws", "at"] (defScope s__law_spiral) := ⟨rfl, rfl, rfl, by decide +kernel, rfl, by decide +kernel, by decide +kernel⟩
abbrev s__law_height : Stmt := topS 28
theorem sc__law_height : FnScope ["generator", "period", "turns", "rounds", "k"] ["generator", "period", "turns", "rounds"] (defScope s__law_height) := ⟨rfl, rfl, rfl, by decide +kernel, rfl, by decide +kernel, by decide +kernel⟩
abbrev s__law_winds : Stmt := topS 29
theorem sc__law_winds : FnScope ["generator", "period", "turns", "above", "below", "low", "high", "k", "middle"] ["generator", "period", "turns"] (defScope s__law_winds) := ⟨rfl, rfl, rfl, by decide +kernel, rfl, by decide +kernel, by decide +kernel⟩
abbrev s__law_nearness : Stmt := topS 30
theorem sc__law_nearness : FnScope ["generator", "period", "turns", "low", "high", "k"] ["generator", "period", "turns"] (defScope s__law_nearness) := ⟨rfl, rfl, rfl, by decide +kernel, rfl, by decide +kernel, by decide +kernel⟩
abbrev s__law_records : Stmt := topS 31
theorem sc__law_records : FnScope ["generator", "period", "limit", "best", "found", "turns", "present", "k"] ["generator", "period", "limit"] (defScope s__law_records) := ⟨rfl, rfl, rfl, by decide +kernel, rfl, by decide +kernel, by decide +kernel⟩
abbrev s__law_asks : Stmt := topS 32
theorem sc__law_asks : FnScope ["generator", "period", "limit", "due", "told"] ["generator", "period", "limit", "due"] (defScope s__law_asks) := ⟨rfl, rfl, rfl, by decide +kernel, rfl, by decide +kernel, by decide +kernel⟩
abbrev s_law : Stmt := topS 33
theorem sc_law : FnScope ["script", "draws", "generator", "period", "limit", "one", "two", "at", "due", "less", "closing", "far", "known", "k", "turns"] ["script"] (defScope s_law) := ⟨rfl, rfl, rfl, by decide +kernel, rfl, by decide +kernel, by decide +kernel⟩
section
variable {P : Program} {w : World} {K : PySem.W.Frag} {mg : Str → Option Value} {base : Heap}
theorem c_raised {f : Addr} {fd : FuncData} (F : L2.Fun K "raised" "raised" s_raised f fd) (hm : mg "raised" = some (.ref f)) (hb : Binds K fd ["base", "times"] [])    :
    Cal P w K mg base "raised" 1 2 w_raised :=
  cal_def F sc_raised hm hb (m := m_raised) fun cdv A outer s H E hr =>
  (svs_cons (sv_set 2 true sc_raised.nd ev_int rfl (Or.inl rfl))
  (svs_cons (sv_set 3 true sc_raised.nd (ev_var 0 rfl (Or.inl rfl)) rfl (Or.inl rfl))
  (svs_cons (sv_while PassesOwn.never (et_cmp op_gt ok_gt (ev_var 1 rfl (Or.inl rfl)) ev_int (nomark _))
  (svs_cons (sv_ifJ (sv_if (et_cmp (op_eqG hr.units) ok_eq (ev_op op_mod ok_mod (ev_var 1 rfl (Or.inl rfl)) ev_int) ev_int (nomark _))
  (svs_one (sv_set 2 true sc_raised.nd (ev_op op_mulG ok_mul (ev_var 2 rfl (Or.inl rfl)) (ev_var 3 rfl (Or.inl rfl))) rfl (Or.inl rfl)))
  svs_nil))
  (svs_cons (sv_set 1 true sc_raised.nd (ev_op op_fdivW ok_div (ev_var 1 rfl (Or.inl rfl)) ev_int) rfl (Or.inl rfl))
  (svs_one (sv_if (et_cmp op_gt ok_gt (ev_var 1 rfl (Or.inl rfl)) ev_int (nomark _))
  (svs_one (sv_set 3 true sc_raised.nd (ev_op op_mulG ok_mul (ev_var 3 rfl (Or.inl rfl)) (ev_var 3 rfl (Or.inl rfl))) rfl (Or.inl rfl)))
  svs_nil)))))
  (svs_one (sv_ret (ev_var 2 rfl (Or.inl rfl)))))))
theorem c_reaches {f : Addr} {fd : FuncData} (F : L2.Fun K "reaches" "reaches" s_reaches f fd) (hm : mg "reaches" = some (.ref f)) (hb : Binds K fd ["numerator", "denominator", "exponent"] [])   (C_raised : Cal P w K mg base "raised" 1 2 w_raised) :
    Cal P w K mg base "reaches" 2 3 w_reaches :=
  cal_def F sc_reaches hm hb (m := m_reaches) fun cdv A outer s H E hr =>
  (svs_cons (sv_if (et_cmp op_ge ok_ge (ev_var 2 rfl (Or.inl rfl)) ev_int (nomark _))
  (svs_one (sv_ret (ev_cmp op_le ok_le (ev_op op_mulG ok_mul (ev_var 1 rfl (Or.inl rfl)) (ev_callC C_raised (by rfl) hr (ea_cons ev_int (ea_cons (ev_var 2 rfl (Or.inl rfl)) ea_nil)))) (ev_var 0 rfl (Or.inl rfl)) (nomark _))))
  svs_nil)
  (svs_one (sv_ret (ev_cmp op_le ok_le (ev_var 1 rfl (Or.inl rfl)) (ev_op op_mulG ok_mul (ev_var 0 rfl (Or.inl rfl)) (ev_callC C_raised (by rfl) hr (ea_cons ev_int (ea_cons (ev_un un_neg ok_neg (ev_var 2 rfl (Or.inl rfl))) ea_nil)))) (nomark _)))))
theorem c_floor_log2 {f : Addr} {fd : FuncData} (F : L2.Fun K "floor_log2" "floor_log2" s_floor_log2 f fd) (hm : mg "floor_log2" = some (.ref f)) (hb : Binds K fd ["numerator", "denominator"] [])   (C_reaches : Cal P w K mg base "reaches" 2 3 w_reaches) :
    Cal P w K mg base "floor_log2" 3 2 w_floor_log2 :=
  cal_def F sc_floor_log2 hm hb (m := m_floor_log2) fun cdv A outer s H E hr =>
  (svs_cons (sv_set 2 true sc_floor_log2.nd (ev_op op_sub ok_sub (ev_bits (ev_var 0 rfl (Or.inl rfl))) (ev_bits (ev_var 1 rfl (Or.inl rfl)))) rfl (Or.inl rfl))
  (svs_cons (sv_if (et_val (ev_callC C_reaches (by rfl) hr (ea_cons (ev_var 0 rfl (Or.inl rfl)) (ea_cons (ev_var 1 rfl (Or.inl rfl)) (ea_cons (ev_var 2 rfl (Or.inl rfl)) ea_nil)))))
  (svs_one (sv_ret (ev_var 2 rfl (Or.inl rfl))))
  svs_nil)
  (svs_one (sv_ret (ev_op op_sub ok_sub (ev_var 2 rfl (Or.inl rfl)) ev_int)))))
theorem c_common_divisor {f : Addr} {fd : FuncData} (F : L2.Fun K "common_divisor" "common_divisor" s_common_divisor f fd) (hm : mg "common_divisor" = some (.ref f)) (hb : Binds K fd ["first", "second"] []) (z_abs : mg "abs" = none)   :
    Cal P w K mg base "common_divisor" 1 2 w_common_divisor :=
  cal_def F sc_common_divisor hm hb (m := m_common_divisor) fun cdv A outer s H E hr =>
  (svs_cons (sv_while PassesOwn.never (et_cmp (op_neG hr.units) ok_ne (ev_var 1 rfl (Or.inl rfl)) ev_int (nomark _))
  (svs_one (sv_par 0 1 rfl sc_common_divisor.nd (ev_var 1 rfl (Or.inl rfl)) (ev_op op_modN ok_modN (ev_var 0 rfl (Or.inl rfl)) (ev_var 1 rfl (Or.inl rfl))))))
  (svs_one (sv_ret (ev_callB call_abs ok_abs (by rfl) z_abs PyProof.Rows.boot_abs (ea_cons (ev_var 0 rfl (Or.inl rfl)) ea_nil)))))
theorem c_fraction_of {f : Addr} {fd : FuncData} (F : L2.Fun K "fraction_of" "fraction_of" s_fraction_of f fd) (hm : mg "fraction_of" = some (.ref f)) (hb : Binds K fd ["vector"] []) (z_range : mg "range" = none) (G_PRIMES : Glo K mg "PRIMES" g_PRIMES) (C_raised : Cal P w K mg base "raised" 1 2 w_raised) :
    Cal P w K mg base "fraction_of" 2 1 w_fraction_of :=
  cal_def F sc_fraction_of hm hb (m := m_fraction_of) fun cdv A outer s H E hr =>
  (svs_cons (sv_set 1 true sc_fraction_of.nd ev_int rfl (Or.inl rfl))
  (svs_cons (sv_set 2 true sc_fraction_of.nd ev_int rfl (Or.inl rfl))
  (svs_cons (sv_forR1 [3] PassesOwn.never rfl (by rfl) z_range (ea_cons ev_int ea_nil) (tg_nm 3 sc_fraction_of.nd rfl (Or.inl rfl) (.inl rfl))
  (svs_one (sv_if (et_cmp op_gt ok_gt (ev_sub (ev_var 0 rfl (Or.inl rfl)) (ev_var 3 rfl (Or.inl rfl)) (fun _ _ => rfl)) ev_int (nomark _))
  (svs_one (sv_set 1 true sc_fraction_of.nd (ev_op op_mulG ok_mul (ev_var 1 rfl (Or.inl rfl)) (ev_callC C_raised (by rfl) hr (ea_cons (ev_sub (ev_glob G_PRIMES (by rfl)) (ev_var 3 rfl (Or.inl rfl)) (fun _ _ => rfl)) (ea_cons (ev_sub (ev_var 0 rfl (Or.inl rfl)) (ev_var 3 rfl (Or.inl rfl)) (fun _ _ => rfl)) ea_nil)))) rfl (Or.inl rfl)))
  (svs_one (sv_set 2 true sc_fraction_of.nd (ev_op op_mulG ok_mul (ev_var 2 rfl (Or.inl rfl)) (ev_callC C_raised (by rfl) hr (ea_cons (ev_sub (ev_glob G_PRIMES (by rfl)) (ev_var 3 rfl (Or.inl rfl)) (fun _ _ => rfl)) (ea_cons (ev_un un_neg ok_neg (ev_sub (ev_var 0 rfl (Or.inl rfl)) (ev_var 3 rfl (Or.inl rfl)) (fun _ _ => rfl))) ea_nil)))) rfl (Or.inl rfl))))))
  (svs_one (sv_ret (ev_tup (ea_cons (ev_var 1 rfl (Or.inl rfl)) (ea_cons (ev_var 2 rfl (Or.inl rfl)) ea_nil))))))))
theorem c_quotient {f : Addr} {fd : FuncData} (F : L2.Fun K "quotient" "quotient" s_quotient f fd) (hm : mg "quotient" = some (.ref f)) (hb : Binds K fd ["first", "second"] []) (z_range : mg "range" = none) (z_tuple : mg "tuple" = none)   :
    Cal P w K mg base "quotient" 1 2 w_quotient :=
  cal_def F sc_quotient hm hb (m := m_quotient) fun cdv A outer s H E hr =>
  (svs_one (sv_ret (ev_callTy call_tuple_of ok_tuple (by rfl) z_tuple PyProof.Rows.boot_tuple (ea_cons (ev_lc [("at", 2)] (tg := (.nm 2)) rfl sc_quotient.nd (blkOk_by (own := [("at", 2)]) (N := ["first", "second", "at"]) (sc := defScope s_quotient) (by decide +kernel)) (fun _ _ _ _ _ => (tg_nm 2 sc_quotient.nd rfl (Or.inl rfl) (.inr rfl))) (fun _ _ _ _ _ => ets_nil) (fun _ _ _ _ _ => (ev_op op_sub ok_sub (ev_sub (ev_var 0 rfl (Or.inr (Or.inl rfl))) (ev_var 2 rfl (Or.inl rfl)) (fun _ _ => rfl)) (ev_sub (ev_var 1 rfl (Or.inr (Or.inl rfl))) (ev_var 2 rfl (Or.inl rfl)) (fun _ _ => rfl)))) (fun ht he => es_R1 (by rfl) z_range (ea_cons ev_int ea_nil) (ht := ht) (he := he))) ea_nil))))
theorem c_power {f : Addr} {fd : FuncData} (F : L2.Fun K "power" "power" s_power f fd) (hm : mg "power" = some (.ref f)) (hb : Binds K fd ["vector", "times"] []) (z_tuple : mg "tuple" = none)   :
    Cal P w K mg base "power" 1 2 w_power :=
  cal_def F sc_power hm hb (m := m_power) fun cdv A outer s H E hr =>
  (svs_one (sv_ret (ev_callTy call_tuple_of ok_tuple (by rfl) z_tuple PyProof.Rows.boot_tuple (ea_cons (ev_lc [("exponent", 2)] (tg := (.nm 2)) rfl sc_power.nd (blkOk_by (own := [("exponent", 2)]) (N := ["vector", "times", "exponent"]) (sc := defScope s_power) (by decide +kernel)) (fun _ _ _ _ _ => (tg_nm 2 sc_power.nd rfl (Or.inl rfl) (.inr rfl))) (fun _ _ _ _ _ => ets_nil) (fun _ _ _ _ _ => (ev_op op_mulG ok_mul (ev_var 2 rfl (Or.inl rfl)) (ev_var 1 rfl (Or.inr (Or.inl rfl))))) (fun ht he => es_V (ev_var 0 rfl (Or.inl rfl)) (ht := ht) (he := he))) ea_nil))))
theorem c_compare {f : Addr} {fd : FuncData} (F : L2.Fun K "compare" "compare" s_compare f fd) (hm : mg "compare" = some (.ref f)) (hb : Binds K fd ["first", "second"] [])   (C_fraction_of : Cal P w K mg base "fraction_of" 2 1 w_fraction_of) (C_quotient : Cal P w K mg base "quotient" 1 2 w_quotient) :
    Cal P w K mg base "compare" 3 2 w_compare :=
  cal_def F sc_compare hm hb (m := m_compare) fun cdv A outer s H E hr =>
  (svs_cons (sv_asg true (ev_callC C_fraction_of (by rfl) hr (ea_cons (ev_callC C_quotient (by rfl) hr (ea_cons (ev_var 0 rfl (Or.inl rfl)) (ea_cons (ev_var 1 rfl (Or.inl rfl)) ea_nil))) ea_nil)) (tg_tp rfl (pgs_cons (pg_name (i := 2) sc_compare.nd rfl (Or.inl rfl) (.inl rfl)) (pgs_cons (pg_name (i := 3) sc_compare.nd rfl (Or.inl rfl) (.inl rfl)) pgs_nil))))
  (svs_cons (sv_if (et_cmp op_lt ok_lt (ev_var 2 rfl (Or.inl rfl)) (ev_var 3 rfl (Or.inl rfl)) (nomark _))
  (svs_one (sv_ret (ev_un un_neg ok_neg ev_int)))
  svs_nil)
  (svs_cons (sv_if (et_cmp op_gt ok_gt (ev_var 2 rfl (Or.inl rfl)) (ev_var 3 rfl (Or.inl rfl)) (nomark _))
  (svs_one (sv_ret ev_int))
  svs_nil)
  (svs_one (sv_ret ev_int)))))
theorem c_octaves {f : Addr} {fd : FuncData} (F : L2.Fun K "octaves" "octaves" s_octaves f fd) (hm : mg "octaves" = some (.ref f)) (hb : Binds K fd ["vector"] [])   (C_fraction_of : Cal P w K mg base "fraction_of" 2 1 w_fraction_of) (C_floor_log2 : Cal P w K mg base "floor_log2" 3 2 w_floor_log2) :
    Cal P w K mg base "octaves" 4 1 w_octaves :=
  cal_def F sc_octaves hm hb (m := m_octaves) fun cdv A outer s H E hr =>
  (svs_cons (sv_asg true (ev_callC C_fraction_of (by rfl) hr (ea_cons (ev_var 0 rfl (Or.inl rfl)) ea_nil)) (tg_tp rfl (pgs_cons (pg_name (i := 1) sc_octaves.nd rfl (Or.inl rfl) (.inl rfl)) (pgs_cons (pg_name (i := 2) sc_octaves.nd rfl (Or.inl rfl) (.inl rfl)) pgs_nil))))
  (svs_one (sv_ret (ev_callC C_floor_log2 (by rfl) hr (ea_cons (ev_var 1 rfl (Or.inl rfl)) (ea_cons (ev_var 2 rfl (Or.inl rfl)) ea_nil))))))
theorem c_winds {f : Addr} {fd : FuncData} (F : L2.Fun K "winds" "winds" s_winds f fd) (hm : mg "winds" = some (.ref f)) (hb : Binds K fd ["generator", "period", "turns"] [])   (C_power : Cal P w K mg base "power" 1 2 w_power) (C_octaves : Cal P w K mg base "octaves" 4 1 w_octaves) (C_compare : Cal P w K mg base "compare" 3 2 w_compare) :
    Cal P w K mg base "winds" 5 3 w_winds :=
  cal_def F sc_winds hm hb (m := m_winds) fun cdv A outer s H E hr =>
  (svs_cons (sv_set 3 true sc_winds.nd (ev_callC C_power (by rfl) hr (ea_cons (ev_var 0 rfl (Or.inl rfl)) (ea_cons (ev_var 2 rfl (Or.inl rfl)) ea_nil))) rfl (Or.inl rfl))
  (svs_cons (sv_set 4 true sc_winds.nd ev_int rfl (Or.inl rfl))
  (svs_cons (sv_set 5 true sc_winds.nd (ev_op op_addG ok_add (ev_op op_fdivW ok_div (ev_callC C_octaves (by rfl) hr (ea_cons (ev_var 3 rfl (Or.inl rfl)) ea_nil)) (ev_callC C_octaves (by rfl) hr (ea_cons (ev_var 1 rfl (Or.inl rfl)) ea_nil))) ev_int) rfl (Or.inl rfl))
  (svs_cons (sv_while PassesOwn.never (et_cmp op_gt ok_gt (ev_op op_sub ok_sub (ev_var 5 rfl (Or.inl rfl)) (ev_var 4 rfl (Or.inl rfl))) ev_int (nomark _))
  (svs_cons (sv_set 6 true sc_winds.nd (ev_op op_fdivW ok_div (ev_op op_addG ok_add (ev_var 4 rfl (Or.inl rfl)) (ev_var 5 rfl (Or.inl rfl))) ev_int) rfl (Or.inl rfl))
  (svs_one (sv_if (et_cmp op_le ok_le (ev_callC C_compare (by rfl) hr (ea_cons (ev_callC C_power (by rfl) hr (ea_cons (ev_var 1 rfl (Or.inl rfl)) (ea_cons (ev_var 6 rfl (Or.inl rfl)) ea_nil))) (ea_cons (ev_var 3 rfl (Or.inl rfl)) ea_nil))) ev_int (nomark _))
  (svs_one (sv_set 4 true sc_winds.nd (ev_var 6 rfl (Or.inl rfl)) rfl (Or.inl rfl)))
  (svs_one (sv_set 5 true sc_winds.nd (ev_var 6 rfl (Or.inl rfl)) rfl (Or.inl rfl)))))))
  (svs_one (sv_ret (ev_var 4 rfl (Or.inl rfl))))))))
theorem c_left_over {f : Addr} {fd : FuncData} (F : L2.Fun K "left_over" "left_over" s_left_over f fd) (hm : mg "left_over" = some (.ref f)) (hb : Binds K fd ["generator", "period", "turns"] [])   (C_quotient : Cal P w K mg base "quotient" 1 2 w_quotient) (C_power : Cal P w K mg base "power" 1 2 w_power) (C_winds : Cal P w K mg base "winds" 5 3 w_winds) :
    Cal P w K mg base "left_over" 6 3 w_left_over :=
  cal_def F sc_left_over hm hb (m := m_left_over) fun cdv A outer s H E hr =>
  (svs_one (sv_ret (ev_callC C_quotient (by rfl) hr (ea_cons (ev_callC C_power (by rfl) hr (ea_cons (ev_var 0 rfl (Or.inl rfl)) (ea_cons (ev_var 2 rfl (Or.inl rfl)) ea_nil))) (ea_cons (ev_callC C_power (by rfl) hr (ea_cons (ev_var 1 rfl (Or.inl rfl)) (ea_cons (ev_callC C_winds (by rfl) hr (ea_cons (ev_var 0 rfl (Or.inl rfl)) (ea_cons (ev_var 1 rfl (Or.inl rfl)) (ea_cons (ev_var 2 rfl (Or.inl rfl)) ea_nil)))) ea_nil))) ea_nil)))))
theorem c_nearness {f : Addr} {fd : FuncData} (F : L2.Fun K "nearness" "nearness" s_nearness f fd) (hm : mg "nearness" = some (.ref f)) (hb : Binds K fd ["generator", "period", "turns"] [])   (C_left_over : Cal P w K mg base "left_over" 6 3 w_left_over) (C_quotient : Cal P w K mg base "quotient" 1 2 w_quotient) (C_compare : Cal P w K mg base "compare" 3 2 w_compare) :
    Cal P w K mg base "nearness" 7 3 w_nearness :=
  cal_def F sc_nearness hm hb (m := m_nearness) fun cdv A outer s H E hr =>
  (svs_cons (sv_set 3 true sc_nearness.nd (ev_callC C_left_over (by rfl) hr (ea_cons (ev_var 0 rfl (Or.inl rfl)) (ea_cons (ev_var 1 rfl (Or.inl rfl)) (ea_cons (ev_var 2 rfl (Or.inl rfl)) ea_nil)))) rfl (Or.inl rfl))
  (svs_cons (sv_set 4 true sc_nearness.nd (ev_callC C_quotient (by rfl) hr (ea_cons (ev_var 1 rfl (Or.inl rfl)) (ea_cons (ev_var 3 rfl (Or.inl rfl)) ea_nil))) rfl (Or.inl rfl))
  (svs_cons (sv_if (et_cmp op_le ok_le (ev_callC C_compare (by rfl) hr (ea_cons (ev_var 3 rfl (Or.inl rfl)) (ea_cons (ev_var 4 rfl (Or.inl rfl)) ea_nil))) ev_int (nomark _))
  (svs_one (sv_ret (ev_var 3 rfl (Or.inl rfl))))
  svs_nil)
  (svs_one (sv_ret (ev_var 4 rfl (Or.inl rfl)))))))
theorem c_closes {f : Addr} {fd : FuncData} (F : L2.Fun K "closes" "closes" s_closes f fd) (hm : mg "closes" = some (.ref f)) (hb : Binds K fd ["generator", "period"] []) (z_abs : mg "abs" = none)  (C_common_divisor : Cal P w K mg base "common_divisor" 1 2 w_common_divisor) (C_power : Cal P w K mg base "power" 1 2 w_power) :
    Cal P w K mg base "closes" 2 2 w_closes :=
  cal_def F sc_closes hm hb (m := m_closes) fun cdv A outer s H E hr =>
  (svs_cons (sv_set 2 true sc_closes.nd ev_int rfl (Or.inl rfl))
  (svs_cons (sv_while PassesOwn.never (et_cmp (op_eqG hr.units) ok_eq (ev_sub (ev_var 0 rfl (Or.inl rfl)) (ev_var 2 rfl (Or.inl rfl)) (fun _ _ => rfl)) ev_int (nomark _))
  (svs_one (sv_set 2 true sc_closes.nd (ev_op op_addG ok_add (ev_var 2 rfl (Or.inl rfl)) ev_int) rfl (Or.inl rfl))))
  (svs_cons (sv_if (et_cmp (op_eqG hr.units) ok_eq (ev_sub (ev_var 1 rfl (Or.inl rfl)) (ev_var 2 rfl (Or.inl rfl)) (fun _ _ => rfl)) ev_int (nomark _))
  (svs_one (sv_ret ev_non))
  svs_nil)
  (svs_cons (sv_set 3 true sc_closes.nd (ev_callC C_common_divisor (by rfl) hr (ea_cons (ev_callB call_abs ok_abs (by rfl) z_abs PyProof.Rows.boot_abs (ea_cons (ev_sub (ev_var 0 rfl (Or.inl rfl)) (ev_var 2 rfl (Or.inl rfl)) (fun _ _ => rfl)) ea_nil)) (ea_cons (ev_sub (ev_var 1 rfl (Or.inl rfl)) (ev_var 2 rfl (Or.inl rfl)) (fun _ _ => rfl)) ea_nil))) rfl (Or.inl rfl))
  (svs_cons (sv_set 4 true sc_closes.nd (ev_op op_fdivW ok_div (ev_callB call_abs ok_abs (by rfl) z_abs PyProof.Rows.boot_abs (ea_cons (ev_sub (ev_var 1 rfl (Or.inl rfl)) (ev_var 2 rfl (Or.inl rfl)) (fun _ _ => rfl)) ea_nil)) (ev_var 3 rfl (Or.inl rfl))) rfl (Or.inl rfl))
  (svs_cons (sv_set 5 true sc_closes.nd (ev_op op_fdivW ok_div (ev_callB call_abs ok_abs (by rfl) z_abs PyProof.Rows.boot_abs (ea_cons (ev_sub (ev_var 0 rfl (Or.inl rfl)) (ev_var 2 rfl (Or.inl rfl)) (fun _ _ => rfl)) ea_nil)) (ev_var 3 rfl (Or.inl rfl))) rfl (Or.inl rfl))
  (svs_cons (sv_if (et_cmp (op_eqG hr.units) ok_eq (ev_callC C_power (by rfl) hr (ea_cons (ev_var 0 rfl (Or.inl rfl)) (ea_cons (ev_var 4 rfl (Or.inl rfl)) ea_nil))) (ev_callC C_power (by rfl) hr (ea_cons (ev_var 1 rfl (Or.inl rfl)) (ea_cons (ev_var 5 rfl (Or.inl rfl)) ea_nil))) (nomark _))
  (svs_one (sv_ret (ev_tup (ea_cons (ev_var 4 rfl (Or.inl rfl)) (ea_cons (ev_var 5 rfl (Or.inl rfl)) ea_nil)))))
  svs_nil)
  (svs_one (sv_ret ev_non)))))))))
theorem c_near_turns {f : Addr} {fd : FuncData} (F : L2.Fun K "near_turns" "near_turns" s_near_turns f fd) (hm : mg "near_turns" = some (.ref f)) (hb : Binds K fd ["generator", "period", "limit"] []) (z_range : mg "range" = none)  (C_nearness : Cal P w K mg base "nearness" 7 3 w_nearness) (C_compare : Cal P w K mg base "compare" 3 2 w_compare) :
    Cal P w K mg base "near_turns" 8 3 w_near_turns :=
  cal_def F sc_near_turns hm hb (m := m_near_turns) fun cdv A outer s H E hr =>
  (svs_cons (sv_set 3 true sc_near_turns.nd (ev_callC C_nearness (by rfl) hr (ea_cons (ev_var 0 rfl (Or.inl rfl)) (ea_cons (ev_var 1 rfl (Or.inl rfl)) (ea_cons ev_int ea_nil)))) rfl (Or.inl rfl))
  (svs_cons (sv_set 4 true sc_near_turns.nd (ev_lst (ea_cons ev_int ea_nil)) rfl (Or.inl rfl))
  (svs_cons (sv_forR2 [5, 6] PassesOwn.never rfl (by rfl) z_range (ea_cons ev_int (ea_cons (ev_op op_addG ok_add (ev_var 2 rfl (Or.inl rfl)) ev_int) ea_nil)) (tg_nm 5 sc_near_turns.nd rfl (Or.inl rfl) (.inl rfl))
  (svs_cons (sv_set 6 true sc_near_turns.nd (ev_callC C_nearness (by rfl) hr (ea_cons (ev_var 0 rfl (Or.inl rfl)) (ea_cons (ev_var 1 rfl (Or.inl rfl)) (ea_cons (ev_var 5 rfl (Or.inl rfl)) ea_nil)))) rfl (Or.inl rfl))
  (svs_one (sv_if (et_cmp op_lt ok_lt (ev_callC C_compare (by rfl) hr (ea_cons (ev_var 6 rfl (Or.inl rfl)) (ea_cons (ev_var 3 rfl (Or.inl rfl)) ea_nil))) ev_int (nomark _))
  (svs_cons (sv_set 3 true sc_near_turns.nd (ev_var 6 rfl (Or.inl rfl)) rfl (Or.inl rfl))
  (svs_one (sv_app 4 (ev_var 5 rfl (Or.inl rfl)) rfl (Or.inl rfl))))
  svs_nil))))
  (svs_one (sv_ret (ev_var 4 rfl (Or.inl rfl)))))))
theorem c__law_draws {f : Addr} {fd : FuncData} (F : L2.Fun K "_law_draws" "_law_draws" s__law_draws f fd) (hm : mg "_law_draws" = some (.ref f)) (hb : Binds K fd ["script", "many"] []) (z_abs : mg "abs" = none) (z_int : mg "int" = none) (z_len : mg "len" = none) (z_range : mg "range" = none)   :
    Cal P w K mg base "_law_draws" 1 2 w__law_draws :=
  cal_def F sc__law_draws hm hb (m := m__law_draws) fun cdv A outer s H E hr =>
  (svs_cons (sv_set 2 true sc__law_draws.nd (ev_lst ea_nil) rfl (Or.inl rfl))
  (svs_cons (sv_forV [3, 4, 5, 6] PassesOwn.never rfl (ev_slice (ev_var 0 rfl (Or.inl rfl)) eo_none (eo_some ev_int)) (tg_nm 3 sc__law_draws.nd rfl (Or.inl rfl) (.inl rfl))
  (svs_cons (sv_set 4 true sc__law_draws.nd (ev_callB call_abs ok_abs (by rfl) z_abs PyProof.Rows.boot_abs (ea_cons (ev_callTy call_int1 ok_int (by rfl) z_int PyProof.Rows.boot_int (ea_cons (ev_var 3 rfl (Or.inl rfl)) ea_nil)) ea_nil)) rfl (Or.inl rfl))
  (svs_one (sv_if (et_cmp op_ge ok_ge (ev_var 4 rfl (Or.inl rfl)) (ev_op op_pow ok_pow ev_int ev_int) (nomark _))
  (svs_one (sv_forR1 [5] PassesOwn.never rfl (by rfl) z_range (ea_cons ev_int ea_nil) (tg_nm 5 sc__law_draws.nd rfl (Or.inl rfl) (.inl rfl))
  (svs_one (sv_if (et_cmp op_gt ok_gt (ev_var 4 rfl (Or.inl rfl)) ev_int (nomark _))
  (svs_cons (sv_app 2 (ev_op op_mod ok_mod (ev_var 4 rfl (Or.inl rfl)) ev_int) rfl (Or.inl rfl))
  (svs_one (sv_set 4 true sc__law_draws.nd (ev_op op_fdivW ok_div (ev_var 4 rfl (Or.inl rfl)) ev_int) rfl (Or.inl rfl))))
  svs_nil))))
  (svs_cons (sv_set 6 true sc__law_draws.nd (ev_op op_mod ok_mod (ev_op op_addG ok_add (ev_op op_addG ok_add (ev_op op_mulG ok_mul (ev_var 4 rfl (Or.inl rfl)) ev_int) (ev_op op_mulG ok_mul ev_int (ev_callB call_lenG ok_len (by rfl) z_len PySem.boot_len (ea_cons (ev_var 2 rfl (Or.inl rfl)) ea_nil)))) ev_int) ev_int) rfl (Or.inl rfl))
  (svs_one (sv_forR1 [5] PassesOwn.never rfl (by rfl) z_range (ea_cons ev_int ea_nil) (tg_nm 5 sc__law_draws.nd rfl (Or.inl rfl) (.inl rfl))
  (svs_cons (sv_set 6 true sc__law_draws.nd (ev_op op_mod ok_mod (ev_op op_addG ok_add (ev_op op_addG ok_add (ev_op op_addG ok_add (ev_op op_mulG ok_mul (ev_var 6 rfl (Or.inl rfl)) ev_int) (ev_op op_fdivW ok_div (ev_var 6 rfl (Or.inl rfl)) ev_int)) (ev_op op_mulG ok_mul ev_int (ev_var 5 rfl (Or.inl rfl)))) ev_int) ev_int) rfl (Or.inl rfl))
  (svs_one (sv_app 2 (ev_op op_mod ok_mod (ev_op op_fdivW ok_div (ev_var 6 rfl (Or.inl rfl)) ev_int) ev_int) rfl (Or.inl rfl)))))))))))
  (svs_cons (sv_forR1 [5, 7] PassesOwn.never rfl (by rfl) z_range (ea_cons (ev_var 1 rfl (Or.inl rfl)) ea_nil) (tg_nm 5 sc__law_draws.nd rfl (Or.inl rfl) (.inl rfl))
  (svs_one (sv_if (et_cmp op_lt ok_lt (ev_callB call_lenG ok_len (by rfl) z_len PySem.boot_len (ea_cons (ev_var 2 rfl (Or.inl rfl)) ea_nil)) (ev_var 1 rfl (Or.inl rfl)) (nomark _))
  (svs_cons (sv_set 7 true sc__law_draws.nd ev_int rfl (Or.inl rfl))
  (svs_cons (sv_if (et_cmp op_gt ok_gt (ev_callB call_lenG ok_len (by rfl) z_len PySem.boot_len (ea_cons (ev_var 2 rfl (Or.inl rfl)) ea_nil)) ev_int (nomark _))
  (svs_one (sv_set 7 false sc__law_draws.nd (ev_sub (ev_var 2 rfl (Or.inl rfl)) (ev_op op_mod ok_mod (ev_var 5 rfl (Or.inl rfl)) (ev_callB call_lenG ok_len (by rfl) z_len PySem.boot_len (ea_cons (ev_var 2 rfl (Or.inl rfl)) ea_nil))) (fun _ _ => rfl)) rfl (Or.inl rfl)))
  svs_nil)
  (svs_one (sv_app 2 (ev_op op_mod ok_mod (ev_op op_addG ok_add (ev_op op_addG ok_add (ev_op op_mulG ok_mul (ev_var 7 rfl (Or.inl rfl)) ev_int) (ev_op op_mulG ok_mul ev_int (ev_callB call_lenG ok_len (by rfl) z_len PySem.boot_len (ea_cons (ev_var 2 rfl (Or.inl rfl)) ea_nil)))) ev_int) ev_int) rfl (Or.inl rfl)))))
  svs_nil)))
  (svs_one (sv_ret (ev_slice (ev_var 2 rfl (Or.inl rfl)) eo_none (eo_some (ev_var 1 rfl (Or.inl rfl)))))))))
theorem c__law_is_number {f : Addr} {fd : FuncData} (F : L2.Fun K "_law_is_number" "_law_is_number" s__law_is_number f fd) (hm : mg "_law_is_number" = some (.ref f)) (hb : Binds K fd ["value"] []) (z_bool : mg "bool" = none) (z_int : mg "int" = none) (z_isinstance : mg "isinstance" = none)   :
    Cal P w K mg base "_law_is_number" 1 1 w__law_is_number :=
  cal_def F sc__law_is_number hm hb (m := m__law_is_number) fun cdv A outer s H E hr =>
  (svs_one (sv_ret (ev_and (ev_isi (T := "int") (by rfl) z_isinstance (by rfl) z_int PyProof.Rows.boot_int (ev_var 0 rfl (Or.inl rfl)) (by decide +kernel)) (ev_one (ev_not (ev_isi (T := "bool") (by rfl) z_isinstance (by rfl) z_bool PyProof.Rows.boot_bool (ev_var 0 rfl (Or.inl rfl)) (by decide +kernel)))))))
theorem c__law_is_numbers {f : Addr} {fd : FuncData} (F : L2.Fun K "_law_is_numbers" "_law_is_numbers" s__law_is_numbers f fd) (hm : mg "_law_is_numbers" = some (.ref f)) (hb : Binds K fd ["value", "many"] []) (z_isinstance : mg "isinstance" = none) (z_len : mg "len" = none) (z_list : mg "list" = none)  (C__law_is_number : Cal P w K mg base "_law_is_number" 1 1 w__law_is_number) :
    Cal P w K mg base "_law_is_numbers" 2 2 w__law_is_numbers :=
  cal_def F sc__law_is_numbers hm hb (m := m__law_is_numbers) fun cdv A outer s H E hr =>
  (svs_cons (sv_if ((ew_or (et_not (et_val (ev_isi (T := "list") (by rfl) z_isinstance (by rfl) z_list PyProof.Rows.boot_list (ev_var 0 rfl (Or.inl rfl)) (by decide +kernel)))) (ew_or1 (et_cmp (op_neG hr.units) ok_ne (ev_callB call_lenG ok_len (by rfl) z_len PySem.boot_len (ea_cons (ev_var 0 rfl (Or.inl rfl)) ea_nil)) (ev_var 1 rfl (Or.inl rfl)) (nomark _))))).et
  (svs_one (sv_ret ev_bl))
  svs_nil)
  (svs_cons (sv_forN [2] 0 PassesOwn.never rfl (tg_nm 2 sc__law_is_numbers.nd rfl (Or.inl rfl) (.inl rfl))
  (svs_one (sv_if (et_not (et_val (ev_callC C__law_is_number (by rfl) hr (ea_cons (ev_var 2 rfl (Or.inl rfl)) ea_nil))))
  (svs_one (sv_ret ev_bl))
  svs_nil)) rfl (Or.inl rfl))
  (svs_one (sv_ret ev_bl))))
theorem c__law_power {f : Addr} {fd : FuncData} (F : L2.Fun K "_law_power" "_law_power" s__law_power f fd) (hm : mg "_law_power" = some (.ref f)) (hb : Binds K fd ["base", "times"] [])    :
    Cal P w K mg base "_law_power" 1 2 w__law_power :=
  cal_def F sc__law_power hm hb (m := m__law_power) fun cdv A outer s H E hr =>
  (svs_cons (sv_set 2 true sc__law_power.nd ev_int rfl (Or.inl rfl))
  (svs_cons (sv_while PassesOwn.never (et_cmp op_gt ok_gt (ev_var 1 rfl (Or.inl rfl)) ev_int (nomark _))
  (svs_cons (sv_ifJ (sv_if (et_cmp (op_eqG hr.units) ok_eq (ev_op op_mod ok_mod (ev_var 1 rfl (Or.inl rfl)) ev_int) ev_int (nomark _))
  (svs_one (sv_set 2 true sc__law_power.nd (ev_op op_mulG ok_mul (ev_var 2 rfl (Or.inl rfl)) (ev_var 0 rfl (Or.inl rfl))) rfl (Or.inl rfl)))
  svs_nil))
  (svs_cons (sv_set 0 true sc__law_power.nd (ev_op op_mulG ok_mul (ev_var 0 rfl (Or.inl rfl)) (ev_var 0 rfl (Or.inl rfl))) rfl (Or.inl rfl))
  (svs_one (sv_set 1 true sc__law_power.nd (ev_op op_fdivW ok_div (ev_var 1 rfl (Or.inl rfl)) ev_int) rfl (Or.inl rfl))))))
  (svs_one (sv_ret (ev_var 2 rfl (Or.inl rfl))))))
theorem c__law_fraction {f : Addr} {fd : FuncData} (F : L2.Fun K "_law_fraction" "_law_fraction" s__law_fraction f fd) (hm : mg "_law_fraction" = some (.ref f)) (hb : Binds K fd ["vector"] []) (z_range : mg "range" = none)  (C__law_power : Cal P w K mg base "_law_power" 1 2 w__law_power) :
    Cal P w K mg base "_law_fraction" 2 1 w__law_fraction :=
  cal_def F sc__law_fraction hm hb (m := m__law_fraction) fun cdv A outer s H E hr =>
  (svs_cons (sv_set 1 true sc__law_fraction.nd (ev_lst (ea_cons ev_int (ea_cons ev_int (ea_cons ev_int (ea_cons ev_int (ea_cons ev_int (ea_cons ev_int ea_nil))))))) rfl (Or.inl rfl))
  (svs_cons (sv_set 2 true sc__law_fraction.nd ev_int rfl (Or.inl rfl))
  (svs_cons (sv_set 3 true sc__law_fraction.nd ev_int rfl (Or.inl rfl))
  (svs_cons (sv_forR1 [4] PassesOwn.never rfl (by rfl) z_range (ea_cons ev_int ea_nil) (tg_nm 4 sc__law_fraction.nd rfl (Or.inl rfl) (.inl rfl))
  (svs_one (sv_if (et_cmp op_ge ok_ge (ev_sub (ev_var 0 rfl (Or.inl rfl)) (ev_var 4 rfl (Or.inl rfl)) (fun _ _ => rfl)) ev_int (nomark _))
  (svs_one (sv_set 2 true sc__law_fraction.nd (ev_op op_mulG ok_mul (ev_var 2 rfl (Or.inl rfl)) (ev_callC C__law_power (by rfl) hr (ea_cons (ev_sub (ev_var 1 rfl (Or.inl rfl)) (ev_var 4 rfl (Or.inl rfl)) (fun _ _ => rfl)) (ea_cons (ev_sub (ev_var 0 rfl (Or.inl rfl)) (ev_var 4 rfl (Or.inl rfl)) (fun _ _ => rfl)) ea_nil)))) rfl (Or.inl rfl)))
  (svs_one (sv_set 3 true sc__law_fraction.nd (ev_op op_mulG ok_mul (ev_var 3 rfl (Or.inl rfl)) (ev_callC C__law_power (by rfl) hr (ea_cons (ev_sub (ev_var 1 rfl (Or.inl rfl)) (ev_var 4 rfl (Or.inl rfl)) (fun _ _ => rfl)) (ea_cons (ev_un un_neg ok_neg (ev_sub (ev_var 0 rfl (Or.inl rfl)) (ev_var 4 rfl (Or.inl rfl)) (fun _ _ => rfl))) ea_nil)))) rfl (Or.inl rfl))))))
  (svs_one (sv_ret (ev_tup (ea_cons (ev_var 2 rfl (Or.inl rfl)) (ea_cons (ev_var 3 rfl (Or.inl rfl)) ea_nil)))))))))
theorem c__law_sign {f : Addr} {fd : FuncData} (F : L2.Fun K "_law_sign" "_law_sign" s__law_sign f fd) (hm : mg "_law_sign" = some (.ref f)) (hb : Binds K fd ["vector"] [])   (C__law_fraction : Cal P w K mg base "_law_fraction" 2 1 w__law_fraction) :
    Cal P w K mg base "_law_sign" 3 1 w__law_sign :=
  cal_def F sc__law_sign hm hb (m := m__law_sign) fun cdv A outer s H E hr =>
  (svs_cons (sv_asg true (ev_callC C__law_fraction (by rfl) hr (ea_cons (ev_var 0 rfl (Or.inl rfl)) ea_nil)) (tg_tp rfl (pgs_cons (pg_name (i := 1) sc__law_sign.nd rfl (Or.inl rfl) (.inl rfl)) (pgs_cons (pg_name (i := 2) sc__law_sign.nd rfl (Or.inl rfl) (.inl rfl)) pgs_nil))))
  (svs_cons (sv_if (et_cmp op_gt ok_gt (ev_var 1 rfl (Or.inl rfl)) (ev_var 2 rfl (Or.inl rfl)) (nomark _))
  (svs_one (sv_ret ev_int))
  svs_nil)
  (svs_cons (sv_if (et_cmp op_lt ok_lt (ev_var 1 rfl (Or.inl rfl)) (ev_var 2 rfl (Or.inl rfl)) (nomark _))
  (svs_one (sv_ret (ev_un un_neg ok_neg ev_int)))
  svs_nil)
  (svs_one (sv_ret ev_int)))))
theorem c__law_times {f : Addr} {fd : FuncData} (F : L2.Fun K "_law_times" "_law_times" s__law_times f fd) (hm : mg "_law_times" = some (.ref f)) (hb : Binds K fd ["vector", "times"] []) (z_tuple : mg "tuple" = none)   :
    Cal P w K mg base "_law_times" 1 2 w__law_times :=
  cal_def F sc__law_times hm hb (m := m__law_times) fun cdv A outer s H E hr =>
  (svs_one (sv_ret (ev_callTy call_tuple_of ok_tuple (by rfl) z_tuple PyProof.Rows.boot_tuple (ea_cons (ev_lc [("entry", 2)] (tg := (.nm 2)) rfl sc__law_times.nd (blkOk_by (own := [("entry", 2)]) (N := ["vector", "times", "entry"]) (sc := defScope s__law_times) (by decide +kernel)) (fun _ _ _ _ _ => (tg_nm 2 sc__law_times.nd rfl (Or.inl rfl) (.inr rfl))) (fun _ _ _ _ _ => ets_nil) (fun _ _ _ _ _ => (ev_op op_mulG ok_mul (ev_var 2 rfl (Or.inl rfl)) (ev_var 1 rfl (Or.inr (Or.inl rfl))))) (fun ht he => es_V (ev_var 0 rfl (Or.inl rfl)) (ht := ht) (he := he))) ea_nil))))
theorem c__law_floor_log {f : Addr} {fd : FuncData} (F : L2.Fun K "_law_floor_log" "_law_floor_log" s__law_floor_log f fd) (hm : mg "_law_floor_log" = some (.ref f)) (hb : Binds K fd ["above", "below"] [])   (C__law_power : Cal P w K mg base "_law_power" 1 2 w__law_power) :
    Cal P w K mg base "_law_floor_log" 2 2 w__law_floor_log :=
  cal_def F sc__law_floor_log hm hb (m := m__law_floor_log) fun cdv A outer s H E hr =>
  (svs_cons (sv_set 2 true sc__law_floor_log.nd (ev_op op_sub ok_sub (ev_bits (ev_var 0 rfl (Or.inl rfl))) (ev_bits (ev_var 1 rfl (Or.inl rfl)))) rfl (Or.inl rfl))
  (svs_cons (sv_if ((ew_and (et_cmp op_ge ok_ge (ev_var 2 rfl (Or.inl rfl)) ev_int (nomark _)) (ew_and1 (et_cmp op_gt ok_gt (ev_op op_mulG ok_mul (ev_var 1 rfl (Or.inl rfl)) (ev_callC C__law_power (by rfl) hr (ea_cons ev_int (ea_cons (ev_var 2 rfl (Or.inl rfl)) ea_nil)))) (ev_var 0 rfl (Or.inl rfl)) (nomark _))))).et
  (svs_one (sv_ret (ev_op op_sub ok_sub (ev_var 2 rfl (Or.inl rfl)) ev_int)))
  svs_nil)
  (svs_cons (sv_if ((ew_and (et_cmp op_lt ok_lt (ev_var 2 rfl (Or.inl rfl)) ev_int (nomark _)) (ew_and1 (et_cmp op_gt ok_gt (ev_var 1 rfl (Or.inl rfl)) (ev_op op_mulG ok_mul (ev_var 0 rfl (Or.inl rfl)) (ev_callC C__law_power (by rfl) hr (ea_cons ev_int (ea_cons (ev_un un_neg ok_neg (ev_var 2 rfl (Or.inl rfl))) ea_nil)))) (nomark _))))).et
  (svs_one (sv_ret (ev_op op_sub ok_sub (ev_var 2 rfl (Or.inl rfl)) ev_int)))
  svs_nil)
  (svs_one (sv_ret (ev_var 2 rfl (Or.inl rfl)))))))
theorem c__law_spiral {f : Addr} {fd : FuncData} (F : L2.Fun K "_law_spiral" "_law_spiral" s__law_spiral f fd) (hm : mg "_law_spiral" = some (.ref f)) (hb : Binds K fd ["draws", "at"] []) (z_max : mg "max" = none) (z_range : mg "range" = none) (z_tuple : mg "tuple" = none)  (C__law_sign : Cal P w K mg base "_law_sign" 3 1 w__law_sign) :
    Cal P w K mg base "_law_spiral" 4 2 w__law_spiral :=
  cal_def F sc__law_spiral hm hb (m := m__law_spiral) fun cdv A outer s H E hr =>
  (svs_cons (sv_set 2 true sc__law_spiral.nd (ev_lst (ea_cons (ev_tup (ea_cons (ev_un un_neg ok_neg ev_int) (ea_cons ev_int (ea_cons ev_int (ea_cons ev_int (ea_cons ev_int (ea_cons ev_int ea_nil))))))) (ea_cons (ev_tup (ea_cons (ev_un un_neg ok_neg ev_int) (ea_cons ev_int (ea_cons ev_int (ea_cons ev_int (ea_cons ev_int (ea_cons ev_int ea_nil))))))) (ea_cons (ev_tup (ea_cons (ev_un un_neg ok_neg ev_int) (ea_cons ev_int (ea_cons ev_int (ea_cons ev_int (ea_cons ev_int (ea_cons ev_int ea_nil))))))) (ea_cons (ev_tup (ea_cons ev_int (ea_cons ev_int (ea_cons (ev_un un_neg ok_neg ev_int) (ea_cons ev_int (ea_cons ev_int (ea_cons ev_int ea_nil))))))) (ea_cons (ev_tup (ea_cons ev_int (ea_cons (ev_un un_neg ok_neg ev_int) (ea_cons ev_int (ea_cons ev_int (ea_cons ev_int (ea_cons ev_int ea_nil))))))) ea_nil)))))) rfl (Or.inl rfl))
  (svs_cons (sv_set 3 true sc__law_spiral.nd (ev_lst (ea_cons (ev_tup (ea_cons ev_int (ea_cons ev_int (ea_cons ev_int (ea_cons ev_int (ea_cons ev_int (ea_cons ev_int ea_nil))))))) (ea_cons (ev_tup (ea_cons ev_int (ea_cons ev_int (ea_cons ev_int (ea_cons ev_int (ea_cons ev_int (ea_cons ev_int ea_nil))))))) (ea_cons (ev_tup (ea_cons ev_int (ea_cons ev_int (ea_cons ev_int (ea_cons ev_int (ea_cons ev_int (ea_cons ev_int ea_nil))))))) (ea_cons (ev_tup (ea_cons (ev_un un_neg ok_neg ev_int) (ea_cons ev_int (ea_cons ev_int (ea_cons ev_int (ea_cons ev_int (ea_cons ev_int ea_nil))))))) ea_nil))))) rfl (Or.inl rfl))
  (svs_cons (sv_if (et_cmp (op_eqG hr.units) ok_eq (ev_op op_mod ok_mod (ev_sub (ev_var 0 rfl (Or.inr (Or.inl rfl))) (ev_var 1 rfl (Or.inr (Or.inl rfl))) (fun _ _ => rfl)) ev_int) ev_int (nomark _))
  (svs_one (sv_ret (ev_tup (ea_cons (ev_sub (ev_var 2 rfl (Or.inl rfl)) (ev_op op_mod ok_mod (ev_sub (ev_var 0 rfl (Or.inr (Or.inl rfl))) (ev_op op_addG ok_add (ev_var 1 rfl (Or.inr (Or.inl rfl))) ev_int) (fun _ _ => rfl)) ev_int) (fun _ _ => rfl)) (ea_cons (ev_sub (ev_var 3 rfl (Or.inl rfl)) (ev_callB (call_maxG rfl) ok_max (by rfl) z_max PyProof.Rows.boot_max (ea_cons (ev_op op_sub ok_sub (ev_op op_mod ok_mod (ev_sub (ev_var 0 rfl (Or.inr (Or.inl rfl))) (ev_op op_addG ok_add (ev_var 1 rfl (Or.inr (Or.inl rfl))) ev_int) (fun _ _ => rfl)) ev_int) ev_int) (ea_cons ev_int ea_nil))) (fun _ _ => rfl)) ea_nil)))))
  svs_nil)
  (svs_cons (sv_set 4 true sc__law_spiral.nd (ev_sub (ev_lst (ea_cons ev_int (ea_cons ev_int (ea_cons ev_int (ea_cons ev_int ea_nil))))) (ev_op op_mod ok_mod (ev_op op_fdivW ok_div (ev_sub (ev_var 0 rfl (Or.inr (Or.inl rfl))) (ev_var 1 rfl (Or.inr (Or.inl rfl))) (fun _ _ => rfl)) ev_int) ev_int) (fun _ _ => rfl)) rfl (Or.inr rfl))
  (svs_cons (sv_set 5 true sc__law_spiral.nd (ev_lst ea_nil) rfl (Or.inl rfl))
  (svs_cons (sv_forR1 [6, 7, 8] PassesOwn.never rfl (by rfl) z_range (ea_cons ev_int ea_nil) (tg_nm 6 sc__law_spiral.nd rfl (Or.inr rfl) (.inl rfl))
  (svs_cons (sv_setLc 7 [("j", 9)] (tg := (.nm 9)) rfl sc__law_spiral.nd (blkOk_by (own := [("j", 9)]) (N := ["draws", "at", "generators", "periods", "spread", "found", "k", "vector", "sign", "j", "entry"]) (sc := defScope s__law_spiral) (by decide +kernel)) (fun _ _ _ _ _ => (tg_nm 9 sc__law_spiral.nd rfl (Or.inl rfl) (.inr rfl))) (fun _ _ _ _ _ => ets_nil) (fun _ _ _ _ _ => (ev_op op_sub ok_sub (ev_op op_mod ok_mod (ev_sub (ev_var 0 rfl (Or.inr (Or.inl rfl))) (ev_op op_addG ok_add (ev_op op_addG ok_add (ev_op op_addG ok_add (ev_var 1 rfl (Or.inr (Or.inl rfl))) ev_int) (ev_op op_mulG ok_mul ev_int (ev_var 6 rfl (Or.inr (Or.inl rfl))))) (ev_var 9 rfl (Or.inl rfl))) (fun _ _ => rfl)) (ev_op op_addG ok_add (ev_op op_mulG ok_mul ev_int (ev_var 4 rfl (Or.inr (Or.inl rfl)))) ev_int)) (ev_var 4 rfl (Or.inr (Or.inl rfl))))) (fun ht he => es_R1 (by rfl) z_range (ea_cons ev_int ea_nil) (ht := ht) (he := he)))
  (svs_cons (sv_set 8 true sc__law_spiral.nd (ev_callC C__law_sign (by rfl) hr (ea_cons (ev_var 7 rfl (Or.inl rfl)) ea_nil)) rfl (Or.inl rfl))
  (svs_cons (sv_ifJ (sv_if (et_cmp op_lt ok_lt (ev_var 8 rfl (Or.inl rfl)) ev_int (nomark _))
  (svs_one (sv_setLc 7 [("entry", 10)] (tg := (.nm 10)) rfl sc__law_spiral.nd (blkOk_by (own := [("entry", 10)]) (N := ["draws", "at", "generators", "periods", "spread", "found", "k", "vector", "sign", "j", "entry"]) (sc := defScope s__law_spiral) (by decide +kernel)) (fun _ _ _ _ _ => (tg_nm 10 sc__law_spiral.nd rfl (Or.inl rfl) (.inr rfl))) (fun _ _ _ _ _ => ets_nil) (fun _ _ _ _ _ => (ev_un un_neg ok_neg (ev_var 10 rfl (Or.inl rfl)))) (fun ht he => es_V (ev_var 7 rfl (Or.inl rfl)) (ht := ht) (he := he))))
  svs_nil))
  (svs_cons (sv_ifJ (sv_if ((ew_and (et_cmp (op_eqG hr.units) ok_eq (ev_var 8 rfl (Or.inl rfl)) ev_int (nomark _)) (ew_and1 (et_cmp (op_eqG hr.units) ok_eq (ev_var 6 rfl (Or.inr (Or.inl rfl))) ev_int (nomark _))))).et
  (svs_one (sv_set 7 true sc__law_spiral.nd (ev_lst (ea_cons (ev_un un_neg ok_neg ev_int) (ea_cons ev_int (ea_cons ev_int (ea_cons ev_int (ea_cons ev_int (ea_cons ev_int ea_nil))))))) rfl (Or.inl rfl)))
  svs_nil))
  (svs_cons (sv_setI 7 ev_int (ev_op op_addG ok_add (ev_sub (ev_var 7 rfl (Or.inl rfl)) ev_int (fun _ _ => rfl)) (ev_var 6 rfl (Or.inr (Or.inl rfl)))) rfl (Or.inl rfl))
  (svs_one (sv_app 5 (ev_callTy call_tuple_of ok_tuple (by rfl) z_tuple PyProof.Rows.boot_tuple (ea_cons (ev_var 7 rfl (Or.inl rfl)) ea_nil)) rfl (Or.inl rfl)))))))))
  (svs_one (sv_ret (ev_tup (ea_cons (ev_sub (ev_var 5 rfl (Or.inl rfl)) ev_int (fun _ _ => rfl)) (ea_cons (ev_sub (ev_var 5 rfl (Or.inl rfl)) ev_int (fun _ _ => rfl)) ea_nil)))))))))))
theorem c__law_height {f : Addr} {fd : FuncData} (F : L2.Fun K "_law_height" "_law_height" s__law_height f fd) (hm : mg "_law_height" = some (.ref f)) (hb : Binds K fd ["generator", "period", "turns", "rounds"] []) (z_range : mg "range" = none) (z_tuple : mg "tuple" = none)   :
    Cal P w K mg base "_law_height" 1 4 w__law_height :=
  cal_def F sc__law_height hm hb (m := m__law_height) fun cdv A outer s H E hr =>
  (svs_one (sv_ret (ev_callTy call_tuple_of ok_tuple (by rfl) z_tuple PyProof.Rows.boot_tuple (ea_cons (ev_lc [("k", 4)] (tg := (.nm 4)) rfl sc__law_height.nd (blkOk_by (own := [("k", 4)]) (N := ["generator", "period", "turns", "rounds", "k"]) (sc := defScope s__law_height) (by decide +kernel)) (fun _ _ _ _ _ => (tg_nm 4 sc__law_height.nd rfl (Or.inl rfl) (.inr rfl))) (fun _ _ _ _ _ => ets_nil) (fun _ _ _ _ _ => (ev_op op_sub ok_sub (ev_op op_mulG ok_mul (ev_sub (ev_var 0 rfl (Or.inr (Or.inl rfl))) (ev_var 4 rfl (Or.inl rfl)) (fun _ _ => rfl)) (ev_var 2 rfl (Or.inr (Or.inl rfl)))) (ev_op op_mulG ok_mul (ev_sub (ev_var 1 rfl (Or.inr (Or.inl rfl))) (ev_var 4 rfl (Or.inl rfl)) (fun _ _ => rfl)) (ev_var 3 rfl (Or.inr (Or.inl rfl)))))) (fun ht he => es_R1 (by rfl) z_range (ea_cons ev_int ea_nil) (ht := ht) (he := he))) ea_nil))))
theorem c__law_winds {f : Addr} {fd : FuncData} (F : L2.Fun K "_law_winds" "_law_winds" s__law_winds f fd) (hm : mg "_law_winds" = some (.ref f)) (hb : Binds K fd ["generator", "period", "turns"] []) (z_range : mg "range" = none)  (C__law_fraction : Cal P w K mg base "_law_fraction" 2 1 w__law_fraction) (C__law_times : Cal P w K mg base "_law_times" 1 2 w__law_times) (C__law_floor_log : Cal P w K mg base "_law_floor_log" 2 2 w__law_floor_log) (C__law_sign : Cal P w K mg base "_law_sign" 3 1 w__law_sign) (C__law_height : Cal P w K mg base "_law_height" 1 4 w__law_height) :
    Cal P w K mg base "_law_winds" 4 3 w__law_winds :=
  cal_def F sc__law_winds hm hb (m := m__law_winds) fun cdv A outer s H E hr =>
  (svs_cons (sv_asg true (ev_callC C__law_fraction (by rfl) hr (ea_cons (ev_callC C__law_times (by rfl) hr (ea_cons (ev_var 0 rfl (Or.inl rfl)) (ea_cons (ev_var 2 rfl (Or.inl rfl)) ea_nil))) ea_nil)) (tg_tp rfl (pgs_cons (pg_name (i := 3) sc__law_winds.nd rfl (Or.inl rfl) (.inl rfl)) (pgs_cons (pg_name (i := 4) sc__law_winds.nd rfl (Or.inl rfl) (.inl rfl)) pgs_nil))))
  (svs_cons (sv_set 5 true sc__law_winds.nd ev_int rfl (Or.inl rfl))
  (svs_cons (sv_set 6 true sc__law_winds.nd (ev_op op_addG ok_add (ev_callC C__law_floor_log (by rfl) hr (ea_cons (ev_var 3 rfl (Or.inl rfl)) (ea_cons (ev_var 4 rfl (Or.inl rfl)) ea_nil))) ev_int) rfl (Or.inl rfl))
  (svs_cons (sv_forR1 [7, 8] PassesOwn.never rfl (by rfl) z_range (ea_cons ev_int ea_nil) (tg_nm 7 sc__law_winds.nd rfl (Or.inl rfl) (.inl rfl))
  (svs_one (sv_if (et_cmp op_gt ok_gt (ev_op op_sub ok_sub (ev_var 6 rfl (Or.inl rfl)) (ev_var 5 rfl (Or.inl rfl))) ev_int (nomark _))
  (svs_cons (sv_set 8 true sc__law_winds.nd (ev_op op_fdivW ok_div (ev_op op_addG ok_add (ev_var 5 rfl (Or.inl rfl)) (ev_var 6 rfl (Or.inl rfl))) ev_int) rfl (Or.inl rfl))
  (svs_one (sv_if (et_cmp op_ge ok_ge (ev_callC C__law_sign (by rfl) hr (ea_cons (ev_callC C__law_height (by rfl) hr (ea_cons (ev_var 0 rfl (Or.inl rfl)) (ea_cons (ev_var 1 rfl (Or.inl rfl)) (ea_cons (ev_var 2 rfl (Or.inl rfl)) (ea_cons (ev_var 8 rfl (Or.inl rfl)) ea_nil))))) ea_nil)) ev_int (nomark _))
  (svs_one (sv_set 5 true sc__law_winds.nd (ev_var 8 rfl (Or.inl rfl)) rfl (Or.inl rfl)))
  (svs_one (sv_set 6 true sc__law_winds.nd (ev_var 8 rfl (Or.inl rfl)) rfl (Or.inl rfl))))))
  svs_nil)))
  (svs_one (sv_ret (ev_var 5 rfl (Or.inl rfl))))))))
theorem c__law_nearness {f : Addr} {fd : FuncData} (F : L2.Fun K "_law_nearness" "_law_nearness" s__law_nearness f fd) (hm : mg "_law_nearness" = some (.ref f)) (hb : Binds K fd ["generator", "period", "turns"] []) (z_range : mg "range" = none) (z_tuple : mg "tuple" = none)  (C__law_height : Cal P w K mg base "_law_height" 1 4 w__law_height) (C__law_winds : Cal P w K mg base "_law_winds" 4 3 w__law_winds) (C__law_sign : Cal P w K mg base "_law_sign" 3 1 w__law_sign) :
    Cal P w K mg base "_law_nearness" 5 3 w__law_nearness :=
  cal_def F sc__law_nearness hm hb (m := m__law_nearness) fun cdv A outer s H E hr =>
  (svs_cons (sv_set 3 true sc__law_nearness.nd (ev_callC C__law_height (by rfl) hr (ea_cons (ev_var 0 rfl (Or.inl rfl)) (ea_cons (ev_var 1 rfl (Or.inr (Or.inl rfl))) (ea_cons (ev_var 2 rfl (Or.inl rfl)) (ea_cons (ev_callC C__law_winds (by rfl) hr (ea_cons (ev_var 0 rfl (Or.inl rfl)) (ea_cons (ev_var 1 rfl (Or.inr (Or.inl rfl))) (ea_cons (ev_var 2 rfl (Or.inl rfl)) ea_nil)))) ea_nil))))) rfl (Or.inr rfl))
  (svs_cons (sv_set 4 true sc__law_nearness.nd (ev_callTy call_tuple_of ok_tuple (by rfl) z_tuple PyProof.Rows.boot_tuple (ea_cons (ev_lc [("k", 5)] (tg := (.nm 5)) rfl sc__law_nearness.nd (blkOk_by (own := [("k", 5)]) (N := ["generator", "period", "turns", "low", "high", "k"]) (sc := defScope s__law_nearness) (by decide +kernel)) (fun _ _ _ _ _ => (tg_nm 5 sc__law_nearness.nd rfl (Or.inl rfl) (.inr rfl))) (fun _ _ _ _ _ => ets_nil) (fun _ _ _ _ _ => (ev_op op_sub ok_sub (ev_sub (ev_var 1 rfl (Or.inr (Or.inl rfl))) (ev_var 5 rfl (Or.inl rfl)) (fun _ _ => rfl)) (ev_sub (ev_var 3 rfl (Or.inr (Or.inl rfl))) (ev_var 5 rfl (Or.inl rfl)) (fun _ _ => rfl)))) (fun ht he => es_R1 (by rfl) z_range (ea_cons ev_int ea_nil) (ht := ht) (he := he))) ea_nil)) rfl (Or.inr rfl))
  (svs_cons (sv_if (et_cmp op_ge ok_ge (ev_callC C__law_sign (by rfl) hr (ea_cons (ev_lc [("k", 5)] (tg := (.nm 5)) rfl sc__law_nearness.nd (blkOk_by (own := [("k", 5)]) (N := ["generator", "period", "turns", "low", "high", "k"]) (sc := defScope s__law_nearness) (by decide +kernel)) (fun _ _ _ _ _ => (tg_nm 5 sc__law_nearness.nd rfl (Or.inl rfl) (.inr rfl))) (fun _ _ _ _ _ => ets_nil) (fun _ _ _ _ _ => (ev_op op_sub ok_sub (ev_sub (ev_var 4 rfl (Or.inr (Or.inl rfl))) (ev_var 5 rfl (Or.inl rfl)) (fun _ _ => rfl)) (ev_sub (ev_var 3 rfl (Or.inr (Or.inl rfl))) (ev_var 5 rfl (Or.inl rfl)) (fun _ _ => rfl)))) (fun ht he => es_R1 (by rfl) z_range (ea_cons ev_int ea_nil) (ht := ht) (he := he))) ea_nil)) ev_int (nomark _))
  (svs_one (sv_ret (ev_var 3 rfl (Or.inr (Or.inl rfl)))))
  svs_nil)
  (svs_one (sv_ret (ev_var 4 rfl (Or.inr (Or.inl rfl))))))))
theorem c__law_records {f : Addr} {fd : FuncData} (F : L2.Fun K "_law_records" "_law_records" s__law_records f fd) (hm : mg "_law_records" = some (.ref f)) (hb : Binds K fd ["generator", "period", "limit"] []) (z_range : mg "range" = none)  (C__law_nearness : Cal P w K mg base "_law_nearness" 5 3 w__law_nearness) (C__law_sign : Cal P w K mg base "_law_sign" 3 1 w__law_sign) :
    Cal P w K mg base "_law_records" 6 3 w__law_records :=
  cal_def F sc__law_records hm hb (m := m__law_records) fun cdv A outer s H E hr =>
  (svs_cons (sv_set 3 true sc__law_records.nd (ev_callC C__law_nearness (by rfl) hr (ea_cons (ev_var 0 rfl (Or.inl rfl)) (ea_cons (ev_var 1 rfl (Or.inl rfl)) (ea_cons ev_int ea_nil)))) rfl (Or.inr rfl))
  (svs_cons (sv_set 4 true sc__law_records.nd (ev_lst (ea_cons ev_int ea_nil)) rfl (Or.inl rfl))
  (svs_cons (sv_forR2 [5, 6] PassesOwn.never rfl (by rfl) z_range (ea_cons ev_int (ea_cons (ev_op op_addG ok_add (ev_var 2 rfl (Or.inl rfl)) ev_int) ea_nil)) (tg_nm 5 sc__law_records.nd rfl (Or.inl rfl) (.inl rfl))
  (svs_cons (sv_set 6 true sc__law_records.nd (ev_callC C__law_nearness (by rfl) hr (ea_cons (ev_var 0 rfl (Or.inl rfl)) (ea_cons (ev_var 1 rfl (Or.inl rfl)) (ea_cons (ev_var 5 rfl (Or.inl rfl)) ea_nil)))) rfl (Or.inr rfl))
  (svs_one (sv_if (et_cmp op_lt ok_lt (ev_callC C__law_sign (by rfl) hr (ea_cons (ev_lc [("k", 7)] (tg := (.nm 7)) rfl sc__law_records.nd (blkOk_by (own := [("k", 7)]) (N := ["generator", "period", "limit", "best", "found", "turns", "present", "k"]) (sc := defScope s__law_records) (by decide +kernel)) (fun _ _ _ _ _ => (tg_nm 7 sc__law_records.nd rfl (Or.inl rfl) (.inr rfl))) (fun _ _ _ _ _ => ets_nil) (fun _ _ _ _ _ => (ev_op op_sub ok_sub (ev_sub (ev_var 6 rfl (Or.inr (Or.inl rfl))) (ev_var 7 rfl (Or.inl rfl)) (fun _ _ => rfl)) (ev_sub (ev_var 3 rfl (Or.inr (Or.inl rfl))) (ev_var 7 rfl (Or.inl rfl)) (fun _ _ => rfl)))) (fun ht he => es_R1 (by rfl) z_range (ea_cons ev_int ea_nil) (ht := ht) (he := he))) ea_nil)) ev_int (nomark _))
  (svs_cons (sv_set 3 true sc__law_records.nd (ev_var 6 rfl (Or.inr (Or.inl rfl))) rfl (Or.inr rfl))
  (svs_one (sv_app 4 (ev_var 5 rfl (Or.inl rfl)) rfl (Or.inl rfl))))
  svs_nil))))
  (svs_one (sv_ret (ev_var 4 rfl (Or.inl rfl)))))))
theorem c__law_asks {f : Addr} {fd : FuncData} (F : L2.Fun K "_law_asks" "_law_asks" s__law_asks f fd) (hm : mg "_law_asks" = some (.ref f)) (hb : Binds K fd ["generator", "period", "limit", "due"] []) (z_len : mg "len" = none)  (C_near_turns : Cal P w K mg base "near_turns" 8 3 w_near_turns) (C__law_is_numbers : Cal P w K mg base "_law_is_numbers" 2 2 w__law_is_numbers) :
    Cal P w K mg base "_law_asks" 9 4 w__law_asks :=
  cal_def F sc__law_asks hm hb (m := m__law_asks) fun cdv A outer s H E hr =>
  (svs_cons (sv_set 4 true sc__law_asks.nd (ev_callC C_near_turns (by rfl) hr (ea_cons (ev_var 0 rfl (Or.inl rfl)) (ea_cons (ev_var 1 rfl (Or.inl rfl)) (ea_cons (ev_var 2 rfl (Or.inl rfl)) ea_nil)))) rfl (Or.inl rfl))
  (svs_one (sv_ret (ev_and (ev_callC C__law_is_numbers (by rfl) hr (ea_cons (ev_var 4 rfl (Or.inl rfl)) (ea_cons (ev_callB call_lenG ok_len (by rfl) z_len PySem.boot_len (ea_cons (ev_var 3 rfl (Or.inl rfl)) ea_nil)) ea_nil))) (ev_one (ev_cmp (op_eqG hr.units) ok_eq (ev_var 4 rfl (Or.inl rfl)) (ev_var 3 rfl (Or.inl rfl)) (nomark _)))))))
theorem c_law {f : Addr} {fd : FuncData} (F : L2.Fun K "law" "law" s_law f fd) (hm : mg "law" = some (.ref f)) (hb : Binds K fd ["script"] []) (z_int : mg "int" = none) (z_len : mg "len" = none) (z_range : mg "range" = none) (z_tuple : mg "tuple" = none)  (C__law_draws : Cal P w K mg base "_law_draws" 1 2 w__law_draws) (C__law_spiral : Cal P w K mg base "_law_spiral" 4 2 w__law_spiral) (C__law_records : Cal P w K mg base "_law_records" 6 3 w__law_records) (C__law_asks : Cal P w K mg base "_law_asks" 9 4 w__law_asks) (C_closes : Cal P w K mg base "closes" 2 2 w_closes) (C_near_turns : Cal P w K mg base "near_turns" 8 3 w_near_turns) :
    Cal P w K mg base "law" 10 1 w_law :=
  cal_def F sc_law hm hb (m := m_law) fun cdv A outer s H E hr =>
  (svs_cons (sv_set 1 true sc_law.nd (ev_callC C__law_draws (by rfl) hr (ea_cons (ev_var 0 rfl (Or.inl rfl)) (ea_cons ev_int ea_nil))) rfl (Or.inl rfl))
  (svs_cons (sv_asg true (ev_callC C__law_spiral (by rfl) hr (ea_cons (ev_var 1 rfl (Or.inl rfl)) (ea_cons ev_int ea_nil))) (tg_tp rfl (pgs_cons (pg_name (i := 2) sc_law.nd rfl (Or.inl rfl) (.inl rfl)) (pgs_cons (pg_name (i := 3) sc_law.nd rfl (Or.inl rfl) (.inl rfl)) pgs_nil))))
  (svs_cons (sv_set 4 true sc_law.nd (ev_op op_addG ok_add (ev_op op_mod ok_mod (ev_sub (ev_var 1 rfl (Or.inl rfl)) ev_int (fun _ _ => rfl)) ev_int) ev_int) rfl (Or.inr rfl))
  (svs_cons (sv_ifJ (sv_if ((ew_and (et_cmp (op_eqG hr.units) ok_eq (ev_op op_mod ok_mod (ev_sub (ev_var 1 rfl (Or.inl rfl)) ev_int (fun _ _ => rfl)) ev_int) ev_int (nomark _)) (ew_and1 (et_cmp (op_eqG hr.units) ok_eq (ev_op op_mod ok_mod (ev_sub (ev_var 1 rfl (Or.inl rfl)) ev_int (fun _ _ => rfl)) ev_int) ev_int (nomark _))))).et
  (svs_one (sv_set 4 true sc_law.nd (ev_op op_addG ok_add (ev_op op_mod ok_mod (ev_sub (ev_var 1 rfl (Or.inl rfl)) ev_int (fun _ _ => rfl)) ev_int) ev_int) rfl (Or.inr rfl)))
  svs_nil))
  (svs_cons (sv_ifJ (sv_if (et_cmp (op_eqG hr.units) ok_eq (ev_op op_mod ok_mod (ev_sub (ev_var 1 rfl (Or.inl rfl)) ev_int (fun _ _ => rfl)) ev_int) ev_int (nomark _))
  (svs_cons (sv_set 5 true sc_law.nd (ev_op op_addG ok_add (ev_op op_mod ok_mod (ev_sub (ev_var 1 rfl (Or.inl rfl)) ev_int (fun _ _ => rfl)) ev_int) ev_int) rfl (Or.inr rfl))
  (svs_cons (sv_set 6 true sc_law.nd (ev_op op_addG ok_add (ev_op op_mod ok_mod (ev_sub (ev_var 1 rfl (Or.inl rfl)) ev_int (fun _ _ => rfl)) ev_int) ev_int) rfl (Or.inr rfl))
  (svs_cons (sv_set 7 true sc_law.nd (ev_op op_mod ok_mod (ev_sub (ev_var 1 rfl (Or.inl rfl)) ev_int (fun _ _ => rfl)) ev_int) rfl (Or.inr rfl))
  (svs_cons (sv_set 2 true sc_law.nd (ev_callTy call_tuple_of ok_tuple (by rfl) z_tuple PyProof.Rows.boot_tuple (ea_cons (ev_lc [("k", 13)] (tg := (.nm 13)) rfl sc_law.nd (blkOk_by (own := [("k", 13)]) (N := ["script", "draws", "generator", "period", "limit", "one", "two", "at", "due", "less", "closing", "far", "known", "k", "turns"]) (sc := defScope s_law) (by decide +kernel)) (fun _ _ _ _ _ => (tg_nm 13 sc_law.nd rfl (Or.inl rfl) (.inr rfl))) (fun _ _ _ _ _ => ets_nil) (fun _ _ _ _ _ => (ev_op op_mulG ok_mul (ev_var 5 rfl (Or.inr (Or.inl rfl))) (ev_callTy call_int1 ok_int (by rfl) z_int PyProof.Rows.boot_int (ea_cons (ev_cmp (op_eqG hr.units) ok_eq (ev_var 13 rfl (Or.inl rfl)) (ev_var 7 rfl (Or.inr (Or.inl rfl))) (nomark _)) ea_nil)))) (fun ht he => es_R1 (by rfl) z_range (ea_cons ev_int ea_nil) (ht := ht) (he := he))) ea_nil)) rfl (Or.inl rfl))
  (svs_one (sv_set 3 true sc_law.nd (ev_callTy call_tuple_of ok_tuple (by rfl) z_tuple PyProof.Rows.boot_tuple (ea_cons (ev_lc [("k", 13)] (tg := (.nm 13)) rfl sc_law.nd (blkOk_by (own := [("k", 13)]) (N := ["script", "draws", "generator", "period", "limit", "one", "two", "at", "due", "less", "closing", "far", "known", "k", "turns"]) (sc := defScope s_law) (by decide +kernel)) (fun _ _ _ _ _ => (tg_nm 13 sc_law.nd rfl (Or.inl rfl) (.inr rfl))) (fun _ _ _ _ _ => ets_nil) (fun _ _ _ _ _ => (ev_op op_mulG ok_mul (ev_var 6 rfl (Or.inr (Or.inl rfl))) (ev_callTy call_int1 ok_int (by rfl) z_int PyProof.Rows.boot_int (ea_cons (ev_cmp (op_eqG hr.units) ok_eq (ev_var 13 rfl (Or.inl rfl)) (ev_var 7 rfl (Or.inr (Or.inl rfl))) (nomark _)) ea_nil)))) (fun ht he => es_R1 (by rfl) z_range (ea_cons ev_int ea_nil) (ht := ht) (he := he))) ea_nil)) rfl (Or.inl rfl)))))))
  svs_nil))
  (svs_cons (sv_set 8 true sc_law.nd (ev_callC C__law_records (by rfl) hr (ea_cons (ev_var 2 rfl (Or.inl rfl)) (ea_cons (ev_var 3 rfl (Or.inl rfl)) (ea_cons (ev_var 4 rfl (Or.inr (Or.inl rfl))) ea_nil)))) rfl (Or.inl rfl))
  (svs_cons (sv_if (et_not (et_val (ev_callC C__law_asks (by rfl) hr (ea_cons (ev_var 2 rfl (Or.inl rfl)) (ea_cons (ev_var 3 rfl (Or.inl rfl)) (ea_cons (ev_var 4 rfl (Or.inr (Or.inl rfl))) (ea_cons (ev_var 8 rfl (Or.inl rfl)) ea_nil)))))))
  (svs_one (sv_ret ev_bl))
  svs_nil)
  (svs_cons (sv_set 9 true sc_law.nd (ev_op op_addG ok_add (ev_op op_mod ok_mod (ev_sub (ev_var 1 rfl (Or.inl rfl)) ev_int (fun _ _ => rfl)) (ev_var 4 rfl (Or.inr (Or.inl rfl)))) ev_int) rfl (Or.inr rfl))
  (svs_cons (sv_if (et_not (et_val (ev_callC C__law_asks (by rfl) hr (ea_cons (ev_var 2 rfl (Or.inl rfl)) (ea_cons (ev_var 3 rfl (Or.inl rfl)) (ea_cons (ev_var 9 rfl (Or.inr (Or.inl rfl))) (ea_cons (ev_lc [("turns", 14)] (tg := (.nm 14)) rfl sc_law.nd (blkOk_by (own := [("turns", 14)]) (N := ["script", "draws", "generator", "period", "limit", "one", "two", "at", "due", "less", "closing", "far", "known", "k", "turns"]) (sc := defScope s_law) (by decide +kernel)) (fun _ _ _ _ _ => (tg_nm 14 sc_law.nd rfl (Or.inl rfl) (.inr rfl))) (fun _ _ _ _ _ => (ets_one (et_cmp op_le ok_le (ev_var 14 rfl (Or.inl rfl)) (ev_var 9 rfl (Or.inr (Or.inl rfl))) (nomark _)))) (fun _ _ _ _ _ => (ev_var 14 rfl (Or.inl rfl))) (fun ht he => es_V (ev_var 8 rfl (Or.inl rfl)) (ht := ht) (he := he))) ea_nil)))))))
  (svs_one (sv_ret ev_bl))
  svs_nil)
  (svs_cons (sv_if (et_not (et_val (ev_callC C__law_asks (by rfl) hr (ea_cons (ev_var 2 rfl (Or.inl rfl)) (ea_cons (ev_var 3 rfl (Or.inl rfl)) (ea_cons ev_int (ea_cons (ev_lst (ea_cons ev_int ea_nil)) ea_nil)))))))
  (svs_one (sv_ret ev_bl))
  svs_nil)
  (svs_cons (sv_set 10 true sc_law.nd (ev_callC C_closes (by rfl) hr (ea_cons (ev_var 2 rfl (Or.inl rfl)) (ea_cons (ev_var 3 rfl (Or.inl rfl)) ea_nil))) rfl (Or.inl rfl))
  (svs_cons (sv_if ((ew_and (et_notN (ev_var 10 rfl (Or.inl rfl))) (ew_and (et_cmp op_le ok_le (ev_sub (ev_var 10 rfl (Or.inl rfl)) ev_int (fun _ _ => rfl)) (ev_var 4 rfl (Or.inr (Or.inl rfl))) (nomark _)) (ew_and1 (et_cmp (op_neG hr.units) ok_ne (ev_sub (ev_var 8 rfl (Or.inl rfl)) (ev_op op_sub ok_sub (ev_callB call_lenG ok_len (by rfl) z_len PySem.boot_len (ea_cons (ev_var 8 rfl (Or.inl rfl)) ea_nil)) ev_int) (fun _ _ => rfl)) (ev_sub (ev_var 10 rfl (Or.inl rfl)) ev_int (fun _ _ => rfl)) (nomark _)))))).et
  (svs_one (sv_ret ev_bl))
  svs_nil)
  (svs_cons (sv_if ((ew_and (et_cmp (op_eqG hr.units) ok_eq (ev_op op_mod ok_mod (ev_sub (ev_var 1 rfl (Or.inl rfl)) ev_int (fun _ _ => rfl)) ev_int) ev_int (nomark _)) (ew_and1 (et_cmp (op_neG hr.units) ok_ne (ev_callC C_near_turns (by rfl) hr (ea_cons (ev_tup (ea_cons (ev_un un_neg ok_neg ev_int) (ea_cons ev_int (ea_cons ev_int (ea_cons ev_int (ea_cons ev_int (ea_cons ev_int ea_nil))))))) (ea_cons (ev_tup (ea_cons ev_int (ea_cons ev_int (ea_cons ev_int (ea_cons ev_int (ea_cons ev_int (ea_cons ev_int ea_nil))))))) (ea_cons ev_int ea_nil)))) (ev_lst (ea_cons ev_int (ea_cons ev_int (ea_cons ev_int (ea_cons ev_int (ea_cons ev_int (ea_cons ev_int ea_nil))))))) (nomark _))))).et
  (svs_one (sv_ret ev_bl))
  svs_nil)
  (svs_cons (sv_if (et_cmp (op_neG hr.units) ok_ne (ev_callC C_near_turns (by rfl) hr (ea_cons (ev_tup (ea_cons (ev_un un_neg ok_neg ev_int) (ea_cons ev_int (ea_cons ev_int (ea_cons ev_int (ea_cons ev_int (ea_cons ev_int ea_nil))))))) (ea_cons (ev_tup (ea_cons ev_int (ea_cons ev_int (ea_cons ev_int (ea_cons ev_int (ea_cons ev_int (ea_cons ev_int ea_nil))))))) (ea_cons ev_int ea_nil)))) (ev_lst (ea_cons ev_int (ea_cons ev_int (ea_cons ev_int ea_nil)))) (nomark _))
  (svs_one (sv_ret ev_bl))
  svs_nil)
  (svs_cons (sv_ifJ (sv_if (et_cmp (op_eqG hr.units) ok_eq (ev_op op_mod ok_mod (ev_sub (ev_var 1 rfl (Or.inl rfl)) ev_int (fun _ _ => rfl)) ev_int) ev_int (nomark _))
  (svs_cons (sv_set 11 true sc_law.nd (ev_op op_addG ok_add ev_int (ev_op op_mod ok_mod (ev_sub (ev_var 1 rfl (Or.inl rfl)) ev_int (fun _ _ => rfl)) ev_int)) rfl (Or.inr rfl))
  (svs_cons (sv_setLc 12 [("turns", 14)] (tg := (.nm 14)) rfl sc_law.nd (blkOk_by (own := [("turns", 14)]) (N := ["script", "draws", "generator", "period", "limit", "one", "two", "at", "due", "less", "closing", "far", "known", "k", "turns"]) (sc := defScope s_law) (by decide +kernel)) (fun _ _ _ _ _ => (tg_nm 14 sc_law.nd rfl (Or.inl rfl) (.inr rfl))) (fun _ _ _ _ _ => (ets_one (et_cmp op_le ok_le (ev_var 14 rfl (Or.inl rfl)) (ev_var 11 rfl (Or.inr (Or.inl rfl))) (nomark _)))) (fun _ _ _ _ _ => (ev_var 14 rfl (Or.inl rfl))) (fun ht he => es_V (ev_lst (ea_cons ev_int (ea_cons ev_int (ea_cons ev_int (ea_cons ev_int (ea_cons ev_int (ea_cons ev_int (ea_cons ev_int ea_nil)))))))) (ht := ht) (he := he)))
  (svs_one (sv_if (et_not (et_val (ev_callC C__law_asks (by rfl) hr (ea_cons (ev_tup (ea_cons (ev_un un_neg ok_neg ev_int) (ea_cons ev_int (ea_cons ev_int (ea_cons ev_int (ea_cons ev_int (ea_cons ev_int ea_nil))))))) (ea_cons (ev_tup (ea_cons ev_int (ea_cons ev_int (ea_cons ev_int (ea_cons ev_int (ea_cons ev_int (ea_cons ev_int ea_nil))))))) (ea_cons (ev_var 11 rfl (Or.inr (Or.inl rfl))) (ea_cons (ev_var 12 rfl (Or.inl rfl)) ea_nil)))))))
  (svs_one (sv_ret ev_bl))
  svs_nil))))
  svs_nil))
  (svs_one (sv_ret (ev_callC C__law_asks (by rfl) hr (ea_cons (ev_var 2 rfl (Or.inl rfl)) (ea_cons (ev_var 3 rfl (Or.inl rfl)) (ea_cons (ev_op op_addG ok_add (ev_op op_fdivW ok_div (ev_var 4 rfl (Or.inr (Or.inl rfl))) ev_int) ev_int) (ea_cons (ev_lc [("turns", 14)] (tg := (.nm 14)) rfl sc_law.nd (blkOk_by (own := [("turns", 14)]) (N := ["script", "draws", "generator", "period", "limit", "one", "two", "at", "due", "less", "closing", "far", "known", "k", "turns"]) (sc := defScope s_law) (by decide +kernel)) (fun _ _ _ _ _ => (tg_nm 14 sc_law.nd rfl (Or.inl rfl) (.inr rfl))) (fun _ _ _ _ _ => (ets_one (et_cmp op_le ok_le (ev_var 14 rfl (Or.inl rfl)) (ev_op op_addG ok_add (ev_op op_fdivW ok_div (ev_var 4 rfl (Or.inr (Or.inl rfl))) ev_int) ev_int) (nomark _)))) (fun _ _ _ _ _ => (ev_var 14 rfl (Or.inl rfl))) (fun ht he => es_V (ev_var 8 rfl (Or.inl rfl)) (ht := ht) (he := he))) ea_nil))))))))))))))))))))))
end
end KM
namespace KM
open PySem PySem.Spec PyProof.Rows L2 KT
theorem ok_law {P : Program} {w : World} {K : PySem.W.Frag} {mg : Str → Option Value} {base : Heap} {f : Addr} {fd : FuncData} (F : L2.Fun K "law" "law" s_law f fd) (z_int : mg "int" = none) (z_len : mg "len" = none) (z_range : mg "range" = none) (z_tuple : mg "tuple" = none)  (C__law_draws : Cal P w K mg base "_law_draws" 1 2 w__law_draws) (C__law_spiral : Cal P w K mg base "_law_spiral" 4 2 w__law_spiral) (C__law_records : Cal P w K mg base "_law_records" 6 3 w__law_records) (C__law_asks : Cal P w K mg base "_law_asks" 9 4 w__law_asks) (C_closes : Cal P w K mg base "closes" 2 2 w_closes) (C_near_turns : Cal P w K mg base "near_turns" 8 3 w_near_turns) :
    FnOk P w K mg base L2.CX0 10 f fd ["script"] (spOf K 1 w_law) :=
  ok_def F sc_law (m := m_law) fun cdv A outer s H E hr =>
  (svs_cons (sv_set 1 true sc_law.nd (ev_callC C__law_draws (by rfl) hr (ea_cons (ev_var 0 rfl (Or.inl rfl)) (ea_cons ev_int ea_nil))) rfl (Or.inl rfl))
  (svs_cons (sv_asg true (ev_callC C__law_spiral (by rfl) hr (ea_cons (ev_var 1 rfl (Or.inl rfl)) (ea_cons ev_int ea_nil))) (tg_tp rfl (pgs_cons (pg_name (i := 2) sc_law.nd rfl (Or.inl rfl) (.inl rfl)) (pgs_cons (pg_name (i := 3) sc_law.nd rfl (Or.inl rfl) (.inl rfl)) pgs_nil))))
  (svs_cons (sv_set 4 true sc_law.nd (ev_op op_addG ok_add (ev_op op_mod ok_mod (ev_sub (ev_var 1 rfl (Or.inl rfl)) ev_int (fun _ _ => rfl)) ev_int) ev_int) rfl (Or.inr rfl))
  (svs_cons (sv_ifJ (sv_if ((ew_and (et_cmp (op_eqG hr.units) ok_eq (ev_op op_mod ok_mod (ev_sub (ev_var 1 rfl (Or.inl rfl)) ev_int (fun _ _ => rfl)) ev_int) ev_int (nomark _)) (ew_and1 (et_cmp (op_eqG hr.units) ok_eq (ev_op op_mod ok_mod (ev_sub (ev_var 1 rfl (Or.inl rfl)) ev_int (fun _ _ => rfl)) ev_int) ev_int (nomark _))))).et
  (svs_one (sv_set 4 true sc_law.nd (ev_op op_addG ok_add (ev_op op_mod ok_mod (ev_sub (ev_var 1 rfl (Or.inl rfl)) ev_int (fun _ _ => rfl)) ev_int) ev_int) rfl (Or.inr rfl)))
  svs_nil))
  (svs_cons (sv_ifJ (sv_if (et_cmp (op_eqG hr.units) ok_eq (ev_op op_mod ok_mod (ev_sub (ev_var 1 rfl (Or.inl rfl)) ev_int (fun _ _ => rfl)) ev_int) ev_int (nomark _))
  (svs_cons (sv_set 5 true sc_law.nd (ev_op op_addG ok_add (ev_op op_mod ok_mod (ev_sub (ev_var 1 rfl (Or.inl rfl)) ev_int (fun _ _ => rfl)) ev_int) ev_int) rfl (Or.inr rfl))
  (svs_cons (sv_set 6 true sc_law.nd (ev_op op_addG ok_add (ev_op op_mod ok_mod (ev_sub (ev_var 1 rfl (Or.inl rfl)) ev_int (fun _ _ => rfl)) ev_int) ev_int) rfl (Or.inr rfl))
  (svs_cons (sv_set 7 true sc_law.nd (ev_op op_mod ok_mod (ev_sub (ev_var 1 rfl (Or.inl rfl)) ev_int (fun _ _ => rfl)) ev_int) rfl (Or.inr rfl))
  (svs_cons (sv_set 2 true sc_law.nd (ev_callTy call_tuple_of ok_tuple (by rfl) z_tuple PyProof.Rows.boot_tuple (ea_cons (ev_lc [("k", 13)] (tg := (.nm 13)) rfl sc_law.nd (blkOk_by (own := [("k", 13)]) (N := ["script", "draws", "generator", "period", "limit", "one", "two", "at", "due", "less", "closing", "far", "known", "k", "turns"]) (sc := defScope s_law) (by decide +kernel)) (fun _ _ _ _ _ => (tg_nm 13 sc_law.nd rfl (Or.inl rfl) (.inr rfl))) (fun _ _ _ _ _ => ets_nil) (fun _ _ _ _ _ => (ev_op op_mulG ok_mul (ev_var 5 rfl (Or.inr (Or.inl rfl))) (ev_callTy call_int1 ok_int (by rfl) z_int PyProof.Rows.boot_int (ea_cons (ev_cmp (op_eqG hr.units) ok_eq (ev_var 13 rfl (Or.inl rfl)) (ev_var 7 rfl (Or.inr (Or.inl rfl))) (nomark _)) ea_nil)))) (fun ht he => es_R1 (by rfl) z_range (ea_cons ev_int ea_nil) (ht := ht) (he := he))) ea_nil)) rfl (Or.inl rfl))
  (svs_one (sv_set 3 true sc_law.nd (ev_callTy call_tuple_of ok_tuple (by rfl) z_tuple PyProof.Rows.boot_tuple (ea_cons (ev_lc [("k", 13)] (tg := (.nm 13)) rfl sc_law.nd (blkOk_by (own := [("k", 13)]) (N := ["script", "draws", "generator", "period", "limit", "one", "two", "at", "due", "less", "closing", "far", "known", "k", "turns"]) (sc := defScope s_law) (by decide +kernel)) (fun _ _ _ _ _ => (tg_nm 13 sc_law.nd rfl (Or.inl rfl) (.inr rfl))) (fun _ _ _ _ _ => ets_nil) (fun _ _ _ _ _ => (ev_op op_mulG ok_mul (ev_var 6 rfl (Or.inr (Or.inl rfl))) (ev_callTy call_int1 ok_int (by rfl) z_int PyProof.Rows.boot_int (ea_cons (ev_cmp (op_eqG hr.units) ok_eq (ev_var 13 rfl (Or.inl rfl)) (ev_var 7 rfl (Or.inr (Or.inl rfl))) (nomark _)) ea_nil)))) (fun ht he => es_R1 (by rfl) z_range (ea_cons ev_int ea_nil) (ht := ht) (he := he))) ea_nil)) rfl (Or.inl rfl)))))))
  svs_nil))
  (svs_cons (sv_set 8 true sc_law.nd (ev_callC C__law_records (by rfl) hr (ea_cons (ev_var 2 rfl (Or.inl rfl)) (ea_cons (ev_var 3 rfl (Or.inl rfl)) (ea_cons (ev_var 4 rfl (Or.inr (Or.inl rfl))) ea_nil)))) rfl (Or.inl rfl))
  (svs_cons (sv_if (et_not (et_val (ev_callC C__law_asks (by rfl) hr (ea_cons (ev_var 2 rfl (Or.inl rfl)) (ea_cons (ev_var 3 rfl (Or.inl rfl)) (ea_cons (ev_var 4 rfl (Or.inr (Or.inl rfl))) (ea_cons (ev_var 8 rfl (Or.inl rfl)) ea_nil)))))))
  (svs_one (sv_ret ev_bl))
  svs_nil)
  (svs_cons (sv_set 9 true sc_law.nd (ev_op op_addG ok_add (ev_op op_mod ok_mod (ev_sub (ev_var 1 rfl (Or.inl rfl)) ev_int (fun _ _ => rfl)) (ev_var 4 rfl (Or.inr (Or.inl rfl)))) ev_int) rfl (Or.inr rfl))
  (svs_cons (sv_if (et_not (et_val (ev_callC C__law_asks (by rfl) hr (ea_cons (ev_var 2 rfl (Or.inl rfl)) (ea_cons (ev_var 3 rfl (Or.inl rfl)) (ea_cons (ev_var 9 rfl (Or.inr (Or.inl rfl))) (ea_cons (ev_lc [("turns", 14)] (tg := (.nm 14)) rfl sc_law.nd (blkOk_by (own := [("turns", 14)]) (N := ["script", "draws", "generator", "period", "limit", "one", "two", "at", "due", "less", "closing", "far", "known", "k", "turns"]) (sc := defScope s_law) (by decide +kernel)) (fun _ _ _ _ _ => (tg_nm 14 sc_law.nd rfl (Or.inl rfl) (.inr rfl))) (fun _ _ _ _ _ => (ets_one (et_cmp op_le ok_le (ev_var 14 rfl (Or.inl rfl)) (ev_var 9 rfl (Or.inr (Or.inl rfl))) (nomark _)))) (fun _ _ _ _ _ => (ev_var 14 rfl (Or.inl rfl))) (fun ht he => es_V (ev_var 8 rfl (Or.inl rfl)) (ht := ht) (he := he))) ea_nil)))))))
  (svs_one (sv_ret ev_bl))
  svs_nil)
  (svs_cons (sv_if (et_not (et_val (ev_callC C__law_asks (by rfl) hr (ea_cons (ev_var 2 rfl (Or.inl rfl)) (ea_cons (ev_var 3 rfl (Or.inl rfl)) (ea_cons ev_int (ea_cons (ev_lst (ea_cons ev_int ea_nil)) ea_nil)))))))
  (svs_one (sv_ret ev_bl))
  svs_nil)
  (svs_cons (sv_set 10 true sc_law.nd (ev_callC C_closes (by rfl) hr (ea_cons (ev_var 2 rfl (Or.inl rfl)) (ea_cons (ev_var 3 rfl (Or.inl rfl)) ea_nil))) rfl (Or.inl rfl))
  (svs_cons (sv_if ((ew_and (et_notN (ev_var 10 rfl (Or.inl rfl))) (ew_and (et_cmp op_le ok_le (ev_sub (ev_var 10 rfl (Or.inl rfl)) ev_int (fun _ _ => rfl)) (ev_var 4 rfl (Or.inr (Or.inl rfl))) (nomark _)) (ew_and1 (et_cmp (op_neG hr.units) ok_ne (ev_sub (ev_var 8 rfl (Or.inl rfl)) (ev_op op_sub ok_sub (ev_callB call_lenG ok_len (by rfl) z_len PySem.boot_len (ea_cons (ev_var 8 rfl (Or.inl rfl)) ea_nil)) ev_int) (fun _ _ => rfl)) (ev_sub (ev_var 10 rfl (Or.inl rfl)) ev_int (fun _ _ => rfl)) (nomark _)))))).et
  (svs_one (sv_ret ev_bl))
  svs_nil)
  (svs_cons (sv_if ((ew_and (et_cmp (op_eqG hr.units) ok_eq (ev_op op_mod ok_mod (ev_sub (ev_var 1 rfl (Or.inl rfl)) ev_int (fun _ _ => rfl)) ev_int) ev_int (nomark _)) (ew_and1 (et_cmp (op_neG hr.units) ok_ne (ev_callC C_near_turns (by rfl) hr (ea_cons (ev_tup (ea_cons (ev_un un_neg ok_neg ev_int) (ea_cons ev_int (ea_cons ev_int (ea_cons ev_int (ea_cons ev_int (ea_cons ev_int ea_nil))))))) (ea_cons (ev_tup (ea_cons ev_int (ea_cons ev_int (ea_cons ev_int (ea_cons ev_int (ea_cons ev_int (ea_cons ev_int ea_nil))))))) (ea_cons ev_int ea_nil)))) (ev_lst (ea_cons ev_int (ea_cons ev_int (ea_cons ev_int (ea_cons ev_int (ea_cons ev_int (ea_cons ev_int ea_nil))))))) (nomark _))))).et
  (svs_one (sv_ret ev_bl))
  svs_nil)
  (svs_cons (sv_if (et_cmp (op_neG hr.units) ok_ne (ev_callC C_near_turns (by rfl) hr (ea_cons (ev_tup (ea_cons (ev_un un_neg ok_neg ev_int) (ea_cons ev_int (ea_cons ev_int (ea_cons ev_int (ea_cons ev_int (ea_cons ev_int ea_nil))))))) (ea_cons (ev_tup (ea_cons ev_int (ea_cons ev_int (ea_cons ev_int (ea_cons ev_int (ea_cons ev_int (ea_cons ev_int ea_nil))))))) (ea_cons ev_int ea_nil)))) (ev_lst (ea_cons ev_int (ea_cons ev_int (ea_cons ev_int ea_nil)))) (nomark _))
  (svs_one (sv_ret ev_bl))
  svs_nil)
  (svs_cons (sv_ifJ (sv_if (et_cmp (op_eqG hr.units) ok_eq (ev_op op_mod ok_mod (ev_sub (ev_var 1 rfl (Or.inl rfl)) ev_int (fun _ _ => rfl)) ev_int) ev_int (nomark _))
  (svs_cons (sv_set 11 true sc_law.nd (ev_op op_addG ok_add ev_int (ev_op op_mod ok_mod (ev_sub (ev_var 1 rfl (Or.inl rfl)) ev_int (fun _ _ => rfl)) ev_int)) rfl (Or.inr rfl))
  (svs_cons (sv_setLc 12 [("turns", 14)] (tg := (.nm 14)) rfl sc_law.nd (blkOk_by (own := [("turns", 14)]) (N := ["script", "draws", "generator", "period", "limit", "one", "two", "at", "due", "less", "closing", "far", "known", "k", "turns"]) (sc := defScope s_law) (by decide +kernel)) (fun _ _ _ _ _ => (tg_nm 14 sc_law.nd rfl (Or.inl rfl) (.inr rfl))) (fun _ _ _ _ _ => (ets_one (et_cmp op_le ok_le (ev_var 14 rfl (Or.inl rfl)) (ev_var 11 rfl (Or.inr (Or.inl rfl))) (nomark _)))) (fun _ _ _ _ _ => (ev_var 14 rfl (Or.inl rfl))) (fun ht he => es_V (ev_lst (ea_cons ev_int (ea_cons ev_int (ea_cons ev_int (ea_cons ev_int (ea_cons ev_int (ea_cons ev_int (ea_cons ev_int ea_nil)))))))) (ht := ht) (he := he)))
  (svs_one (sv_if (et_not (et_val (ev_callC C__law_asks (by rfl) hr (ea_cons (ev_tup (ea_cons (ev_un un_neg ok_neg ev_int) (ea_cons ev_int (ea_cons ev_int (ea_cons ev_int (ea_cons ev_int (ea_cons ev_int ea_nil))))))) (ea_cons (ev_tup (ea_cons ev_int (ea_cons ev_int (ea_cons ev_int (ea_cons ev_int (ea_cons ev_int (ea_cons ev_int ea_nil))))))) (ea_cons (ev_var 11 rfl (Or.inr (Or.inl rfl))) (ea_cons (ev_var 12 rfl (Or.inl rfl)) ea_nil)))))))
  (svs_one (sv_ret ev_bl))
  svs_nil))))
  svs_nil))
  (svs_one (sv_ret (ev_callC C__law_asks (by rfl) hr (ea_cons (ev_var 2 rfl (Or.inl rfl)) (ea_cons (ev_var 3 rfl (Or.inl rfl)) (ea_cons (ev_op op_addG ok_add (ev_op op_fdivW ok_div (ev_var 4 rfl (Or.inr (Or.inl rfl))) ev_int) ev_int) (ea_cons (ev_lc [("turns", 14)] (tg := (.nm 14)) rfl sc_law.nd (blkOk_by (own := [("turns", 14)]) (N := ["script", "draws", "generator", "period", "limit", "one", "two", "at", "due", "less", "closing", "far", "known", "k", "turns"]) (sc := defScope s_law) (by decide +kernel)) (fun _ _ _ _ _ => (tg_nm 14 sc_law.nd rfl (Or.inl rfl) (.inr rfl))) (fun _ _ _ _ _ => (ets_one (et_cmp op_le ok_le (ev_var 14 rfl (Or.inl rfl)) (ev_op op_addG ok_add (ev_op op_fdivW ok_div (ev_var 4 rfl (Or.inr (Or.inl rfl))) ev_int) ev_int) (nomark _)))) (fun _ _ _ _ _ => (ev_var 14 rfl (Or.inl rfl))) (fun ht he => es_V (ev_var 8 rfl (Or.inl rfl)) (ht := ht) (he := he))) ea_nil))))))))))))))))))))))
theorem all_mk {l : PySem.W.OpenLaw} {w : World} {K : PySem.W.Frag} {h : Heap} {mg : Str → Option Value} {fa : Addr} (X : K.In h) (G : h.Ns mainGlobals mg) (hfa : mg "law" = some (.ref fa))
    {f0 : Addr} {od0 an0 : Option Addr} {sl0 : Array (Option Value)} {oc0 kV0 dc0 pm0 cd0 ct0 : Value}
    {f1 : Addr} {od1 an1 : Option Addr} {sl1 : Array (Option Value)} {oc1 kV1 dc1 pm1 cd1 ct1 : Value}
    {f2 : Addr} {od2 an2 : Option Addr} {sl2 : Array (Option Value)} {oc2 kV2 dc2 pm2 cd2 ct2 : Value}
    {f3 : Addr} {od3 an3 : Option Addr} {sl3 : Array (Option Value)} {oc3 kV3 dc3 pm3 cd3 ct3 : Value}
    {f4 : Addr} {od4 an4 : Option Addr} {sl4 : Array (Option Value)} {oc4 kV4 dc4 pm4 cd4 ct4 : Value}
    {f5 : Addr} {od5 an5 : Option Addr} {sl5 : Array (Option Value)} {oc5 kV5 dc5 pm5 cd5 ct5 : Value}
    {f6 : Addr} {od6 an6 : Option Addr} {sl6 : Array (Option Value)} {oc6 kV6 dc6 pm6 cd6 ct6 : Value}
    {f7 : Addr} {od7 an7 : Option Addr} {sl7 : Array (Option Value)} {oc7 kV7 dc7 pm7 cd7 ct7 : Value}
    {f8 : Addr} {od8 an8 : Option Addr} {sl8 : Array (Option Value)} {oc8 kV8 dc8 pm8 cd8 ct8 : Value}
    {f9 : Addr} {od9 an9 : Option Addr} {sl9 : Array (Option Value)} {oc9 kV9 dc9 pm9 cd9 ct9 : Value}
    {f10 : Addr} {od10 an10 : Option Addr} {sl10 : Array (Option Value)} {oc10 kV10 dc10 pm10 cd10 ct10 : Value}
    {f11 : Addr} {od11 an11 : Option Addr} {sl11 : Array (Option Value)} {oc11 kV11 dc11 pm11 cd11 ct11 : Value}
    {f12 : Addr} {od12 an12 : Option Addr} {sl12 : Array (Option Value)} {oc12 kV12 dc12 pm12 cd12 ct12 : Value}
    {f13 : Addr} {od13 an13 : Option Addr} {sl13 : Array (Option Value)} {oc13 kV13 dc13 pm13 cd13 ct13 : Value}
    {f14 : Addr} {od14 an14 : Option Addr} {sl14 : Array (Option Value)} {oc14 kV14 dc14 pm14 cd14 ct14 : Value}
    {f15 : Addr} {od15 an15 : Option Addr} {sl15 : Array (Option Value)} {oc15 kV15 dc15 pm15 cd15 ct15 : Value}
    {f16 : Addr} {od16 an16 : Option Addr} {sl16 : Array (Option Value)} {oc16 kV16 dc16 pm16 cd16 ct16 : Value}
    {f17 : Addr} {od17 an17 : Option Addr} {sl17 : Array (Option Value)} {oc17 kV17 dc17 pm17 cd17 ct17 : Value}
    {f18 : Addr} {od18 an18 : Option Addr} {sl18 : Array (Option Value)} {oc18 kV18 dc18 pm18 cd18 ct18 : Value}
    {f19 : Addr} {od19 an19 : Option Addr} {sl19 : Array (Option Value)} {oc19 kV19 dc19 pm19 cd19 ct19 : Value}
    {f20 : Addr} {od20 an20 : Option Addr} {sl20 : Array (Option Value)} {oc20 kV20 dc20 pm20 cd20 ct20 : Value}
    {f21 : Addr} {od21 an21 : Option Addr} {sl21 : Array (Option Value)} {oc21 kV21 dc21 pm21 cd21 ct21 : Value}
    {f22 : Addr} {od22 an22 : Option Addr} {sl22 : Array (Option Value)} {oc22 kV22 dc22 pm22 cd22 ct22 : Value}
    {f23 : Addr} {od23 an23 : Option Addr} {sl23 : Array (Option Value)} {oc23 kV23 dc23 pm23 cd23 ct23 : Value}
    {f24 : Addr} {od24 an24 : Option Addr} {sl24 : Array (Option Value)} {oc24 kV24 dc24 pm24 cd24 ct24 : Value}
    {f25 : Addr} {od25 an25 : Option Addr} {sl25 : Array (Option Value)} {oc25 kV25 dc25 pm25 cd25 ct25 : Value}
    {f26 : Addr} {od26 an26 : Option Addr} {sl26 : Array (Option Value)} {oc26 kV26 dc26 pm26 cd26 ct26 : Value}
    {f27 : Addr} {od27 an27 : Option Addr} {sl27 : Array (Option Value)} {oc27 kV27 dc27 pm27 cd27 ct27 : Value}
    {f28 : Addr} {od28 an28 : Option Addr} {sl28 : Array (Option Value)} {oc28 kV28 dc28 pm28 cd28 ct28 : Value}
    {ga_PRIMES : Addr} {go_PRIMES : Obj}
    (a0 : PySem.W.nsIn K mainGlobals "raised" = some (some (.ref f0))) (l0 : K.lookup f0 = some ⟨oc0, od0, .func (PySem.W.fnOf "raised" "raised" (defArgs s_raised) (defBody s_raised) (defScope s_raised) .none kV0 dc0 pm0 an0 cd0 ct0), sl0⟩) (c0 : PySem.W.codeIn K cd0 "raised" = true) (k0 : PySem.W.keepIn K (.ref f0) = true)
    (a1 : PySem.W.nsIn K mainGlobals "reaches" = some (some (.ref f1))) (l1 : K.lookup f1 = some ⟨oc1, od1, .func (PySem.W.fnOf "reaches" "reaches" (defArgs s_reaches) (defBody s_reaches) (defScope s_reaches) .none kV1 dc1 pm1 an1 cd1 ct1), sl1⟩) (c1 : PySem.W.codeIn K cd1 "reaches" = true) (k1 : PySem.W.keepIn K (.ref f1) = true)
    (a2 : PySem.W.nsIn K mainGlobals "floor_log2" = some (some (.ref f2))) (l2 : K.lookup f2 = some ⟨oc2, od2, .func (PySem.W.fnOf "floor_log2" "floor_log2" (defArgs s_floor_log2) (defBody s_floor_log2) (defScope s_floor_log2) .none kV2 dc2 pm2 an2 cd2 ct2), sl2⟩) (c2 : PySem.W.codeIn K cd2 "floor_log2" = true) (k2 : PySem.W.keepIn K (.ref f2) = true)
    (a3 : PySem.W.nsIn K mainGlobals "common_divisor" = some (some (.ref f3))) (l3 : K.lookup f3 = some ⟨oc3, od3, .func (PySem.W.fnOf "common_divisor" "common_divisor" (defArgs s_common_divisor) (defBody s_common_divisor) (defScope s_common_divisor) .none kV3 dc3 pm3 an3 cd3 ct3), sl3⟩) (c3 : PySem.W.codeIn K cd3 "common_divisor" = true) (k3 : PySem.W.keepIn K (.ref f3) = true)
    (a4 : PySem.W.nsIn K mainGlobals "fraction_of" = some (some (.ref f4))) (l4 : K.lookup f4 = some ⟨oc4, od4, .func (PySem.W.fnOf "fraction_of" "fraction_of" (defArgs s_fraction_of) (defBody s_fraction_of) (defScope s_fraction_of) .none kV4 dc4 pm4 an4 cd4 ct4), sl4⟩) (c4 : PySem.W.codeIn K cd4 "fraction_of" = true) (k4 : PySem.W.keepIn K (.ref f4) = true)
    (a5 : PySem.W.nsIn K mainGlobals "quotient" = some (some (.ref f5))) (l5 : K.lookup f5 = some ⟨oc5, od5, .func (PySem.W.fnOf "quotient" "quotient" (defArgs s_quotient) (defBody s_quotient) (defScope s_quotient) .none kV5 dc5 pm5 an5 cd5 ct5), sl5⟩) (c5 : PySem.W.codeIn K cd5 "quotient" = true) (k5 : PySem.W.keepIn K (.ref f5) = true)
    (a6 : PySem.W.nsIn K mainGlobals "power" = some (some (.ref f6))) (l6 : K.lookup f6 = some ⟨oc6, od6, .func (PySem.W.fnOf "power" "power" (defArgs s_power) (defBody s_power) (defScope s_power) .none kV6 dc6 pm6 an6 cd6 ct6), sl6⟩) (c6 : PySem.W.codeIn K cd6 "power" = true) (k6 : PySem.W.keepIn K (.ref f6) = true)
    (a7 : PySem.W.nsIn K mainGlobals "compare" = some (some (.ref f7))) (l7 : K.lookup f7 = some ⟨oc7, od7, .func (PySem.W.fnOf "compare" "compare" (defArgs s_compare) (defBody s_compare) (defScope s_compare) .none kV7 dc7 pm7 an7 cd7 ct7), sl7⟩) (c7 : PySem.W.codeIn K cd7 "compare" = true) (k7 : PySem.W.keepIn K (.ref f7) = true)
    (a8 : PySem.W.nsIn K mainGlobals "octaves" = some (some (.ref f8))) (l8 : K.lookup f8 = some ⟨oc8, od8, .func (PySem.W.fnOf "octaves" "octaves" (defArgs s_octaves) (defBody s_octaves) (defScope s_octaves) .none kV8 dc8 pm8 an8 cd8 ct8), sl8⟩) (c8 : PySem.W.codeIn K cd8 "octaves" = true) (k8 : PySem.W.keepIn K (.ref f8) = true)
    (a9 : PySem.W.nsIn K mainGlobals "winds" = some (some (.ref f9))) (l9 : K.lookup f9 = some ⟨oc9, od9, .func (PySem.W.fnOf "winds" "winds" (defArgs s_winds) (defBody s_winds) (defScope s_winds) .none kV9 dc9 pm9 an9 cd9 ct9), sl9⟩) (c9 : PySem.W.codeIn K cd9 "winds" = true) (k9 : PySem.W.keepIn K (.ref f9) = true)
    (a10 : PySem.W.nsIn K mainGlobals "left_over" = some (some (.ref f10))) (l10 : K.lookup f10 = some ⟨oc10, od10, .func (PySem.W.fnOf "left_over" "left_over" (defArgs s_left_over) (defBody s_left_over) (defScope s_left_over) .none kV10 dc10 pm10 an10 cd10 ct10), sl10⟩) (c10 : PySem.W.codeIn K cd10 "left_over" = true) (k10 : PySem.W.keepIn K (.ref f10) = true)
    (a11 : PySem.W.nsIn K mainGlobals "nearness" = some (some (.ref f11))) (l11 : K.lookup f11 = some ⟨oc11, od11, .func (PySem.W.fnOf "nearness" "nearness" (defArgs s_nearness) (defBody s_nearness) (defScope s_nearness) .none kV11 dc11 pm11 an11 cd11 ct11), sl11⟩) (c11 : PySem.W.codeIn K cd11 "nearness" = true) (k11 : PySem.W.keepIn K (.ref f11) = true)
    (a12 : PySem.W.nsIn K mainGlobals "closes" = some (some (.ref f12))) (l12 : K.lookup f12 = some ⟨oc12, od12, .func (PySem.W.fnOf "closes" "closes" (defArgs s_closes) (defBody s_closes) (defScope s_closes) .none kV12 dc12 pm12 an12 cd12 ct12), sl12⟩) (c12 : PySem.W.codeIn K cd12 "closes" = true) (k12 : PySem.W.keepIn K (.ref f12) = true)
    (a13 : PySem.W.nsIn K mainGlobals "near_turns" = some (some (.ref f13))) (l13 : K.lookup f13 = some ⟨oc13, od13, .func (PySem.W.fnOf "near_turns" "near_turns" (defArgs s_near_turns) (defBody s_near_turns) (defScope s_near_turns) .none kV13 dc13 pm13 an13 cd13 ct13), sl13⟩) (c13 : PySem.W.codeIn K cd13 "near_turns" = true) (k13 : PySem.W.keepIn K (.ref f13) = true)
    (a14 : PySem.W.nsIn K mainGlobals "_law_draws" = some (some (.ref f14))) (l14 : K.lookup f14 = some ⟨oc14, od14, .func (PySem.W.fnOf "_law_draws" "_law_draws" (defArgs s__law_draws) (defBody s__law_draws) (defScope s__law_draws) .none kV14 dc14 pm14 an14 cd14 ct14), sl14⟩) (c14 : PySem.W.codeIn K cd14 "_law_draws" = true) (k14 : PySem.W.keepIn K (.ref f14) = true)
    (a15 : PySem.W.nsIn K mainGlobals "_law_is_number" = some (some (.ref f15))) (l15 : K.lookup f15 = some ⟨oc15, od15, .func (PySem.W.fnOf "_law_is_number" "_law_is_number" (defArgs s__law_is_number) (defBody s__law_is_number) (defScope s__law_is_number) .none kV15 dc15 pm15 an15 cd15 ct15), sl15⟩) (c15 : PySem.W.codeIn K cd15 "_law_is_number" = true) (k15 : PySem.W.keepIn K (.ref f15) = true)
    (a16 : PySem.W.nsIn K mainGlobals "_law_is_numbers" = some (some (.ref f16))) (l16 : K.lookup f16 = some ⟨oc16, od16, .func (PySem.W.fnOf "_law_is_numbers" "_law_is_numbers" (defArgs s__law_is_numbers) (defBody s__law_is_numbers) (defScope s__law_is_numbers) .none kV16 dc16 pm16 an16 cd16 ct16), sl16⟩) (c16 : PySem.W.codeIn K cd16 "_law_is_numbers" = true) (k16 : PySem.W.keepIn K (.ref f16) = true)
    (a17 : PySem.W.nsIn K mainGlobals "_law_power" = some (some (.ref f17))) (l17 : K.lookup f17 = some ⟨oc17, od17, .func (PySem.W.fnOf "_law_power" "_law_power" (defArgs s__law_power) (defBody s__law_power) (defScope s__law_power) .none kV17 dc17 pm17 an17 cd17 ct17), sl17⟩) (c17 : PySem.W.codeIn K cd17 "_law_power" = true) (k17 : PySem.W.keepIn K (.ref f17) = true)
    (a18 : PySem.W.nsIn K mainGlobals "_law_fraction" = some (some (.ref f18))) (l18 : K.lookup f18 = some ⟨oc18, od18, .func (PySem.W.fnOf "_law_fraction" "_law_fraction" (defArgs s__law_fraction) (defBody s__law_fraction) (defScope s__law_fraction) .none kV18 dc18 pm18 an18 cd18 ct18), sl18⟩) (c18 : PySem.W.codeIn K cd18 "_law_fraction" = true) (k18 : PySem.W.keepIn K (.ref f18) = true)
    (a19 : PySem.W.nsIn K mainGlobals "_law_sign" = some (some (.ref f19))) (l19 : K.lookup f19 = some ⟨oc19, od19, .func (PySem.W.fnOf "_law_sign" "_law_sign" (defArgs s__law_sign) (defBody s__law_sign) (defScope s__law_sign) .none kV19 dc19 pm19 an19 cd19 ct19), sl19⟩) (c19 : PySem.W.codeIn K cd19 "_law_sign" = true) (k19 : PySem.W.keepIn K (.ref f19) = true)
    (a20 : PySem.W.nsIn K mainGlobals "_law_times" = some (some (.ref f20))) (l20 : K.lookup f20 = some ⟨oc20, od20, .func (PySem.W.fnOf "_law_times" "_law_times" (defArgs s__law_times) (defBody s__law_times) (defScope s__law_times) .none kV20 dc20 pm20 an20 cd20 ct20), sl20⟩) (c20 : PySem.W.codeIn K cd20 "_law_times" = true) (k20 : PySem.W.keepIn K (.ref f20) = true)
    (a21 : PySem.W.nsIn K mainGlobals "_law_floor_log" = some (some (.ref f21))) (l21 : K.lookup f21 = some ⟨oc21, od21, .func (PySem.W.fnOf "_law_floor_log" "_law_floor_log" (defArgs s__law_floor_log) (defBody s__law_floor_log) (defScope s__law_floor_log) .none kV21 dc21 pm21 an21 cd21 ct21), sl21⟩) (c21 : PySem.W.codeIn K cd21 "_law_floor_log" = true) (k21 : PySem.W.keepIn K (.ref f21) = true)
    (a22 : PySem.W.nsIn K mainGlobals "_law_spiral" = some (some (.ref f22))) (l22 : K.lookup f22 = some ⟨oc22, od22, .func (PySem.W.fnOf "_law_spiral" "_law_spiral" (defArgs s__law_spiral) (defBody s__law_spiral) (defScope s__law_spiral) .none kV22 dc22 pm22 an22 cd22 ct22), sl22⟩) (c22 : PySem.W.codeIn K cd22 "_law_spiral" = true) (k22 : PySem.W.keepIn K (.ref f22) = true)
    (a23 : PySem.W.nsIn K mainGlobals "_law_height" = some (some (.ref f23))) (l23 : K.lookup f23 = some ⟨oc23, od23, .func (PySem.W.fnOf "_law_height" "_law_height" (defArgs s__law_height) (defBody s__law_height) (defScope s__law_height) .none kV23 dc23 pm23 an23 cd23 ct23), sl23⟩) (c23 : PySem.W.codeIn K cd23 "_law_height" = true) (k23 : PySem.W.keepIn K (.ref f23) = true)
    (a24 : PySem.W.nsIn K mainGlobals "_law_winds" = some (some (.ref f24))) (l24 : K.lookup f24 = some ⟨oc24, od24, .func (PySem.W.fnOf "_law_winds" "_law_winds" (defArgs s__law_winds) (defBody s__law_winds) (defScope s__law_winds) .none kV24 dc24 pm24 an24 cd24 ct24), sl24⟩) (c24 : PySem.W.codeIn K cd24 "_law_winds" = true) (k24 : PySem.W.keepIn K (.ref f24) = true)
    (a25 : PySem.W.nsIn K mainGlobals "_law_nearness" = some (some (.ref f25))) (l25 : K.lookup f25 = some ⟨oc25, od25, .func (PySem.W.fnOf "_law_nearness" "_law_nearness" (defArgs s__law_nearness) (defBody s__law_nearness) (defScope s__law_nearness) .none kV25 dc25 pm25 an25 cd25 ct25), sl25⟩) (c25 : PySem.W.codeIn K cd25 "_law_nearness" = true) (k25 : PySem.W.keepIn K (.ref f25) = true)
    (a26 : PySem.W.nsIn K mainGlobals "_law_records" = some (some (.ref f26))) (l26 : K.lookup f26 = some ⟨oc26, od26, .func (PySem.W.fnOf "_law_records" "_law_records" (defArgs s__law_records) (defBody s__law_records) (defScope s__law_records) .none kV26 dc26 pm26 an26 cd26 ct26), sl26⟩) (c26 : PySem.W.codeIn K cd26 "_law_records" = true) (k26 : PySem.W.keepIn K (.ref f26) = true)
    (a27 : PySem.W.nsIn K mainGlobals "_law_asks" = some (some (.ref f27))) (l27 : K.lookup f27 = some ⟨oc27, od27, .func (PySem.W.fnOf "_law_asks" "_law_asks" (defArgs s__law_asks) (defBody s__law_asks) (defScope s__law_asks) .none kV27 dc27 pm27 an27 cd27 ct27), sl27⟩) (c27 : PySem.W.codeIn K cd27 "_law_asks" = true) (k27 : PySem.W.keepIn K (.ref f27) = true)
    (a28 : PySem.W.nsIn K mainGlobals "law" = some (some (.ref f28))) (l28 : K.lookup f28 = some ⟨oc28, od28, .func (PySem.W.fnOf "law" "law" (defArgs s_law) (defBody s_law) (defScope s_law) .none kV28 dc28 pm28 an28 cd28 ct28), sl28⟩) (c28 : PySem.W.codeIn K cd28 "law" = true) (k28 : PySem.W.keepIn K (.ref f28) = true)
    (z_abs : PySem.W.nsIn K mainGlobals "abs" = some none)
    (z_bool : PySem.W.nsIn K mainGlobals "bool" = some none)
    (z_int : PySem.W.nsIn K mainGlobals "int" = some none)
    (z_isinstance : PySem.W.nsIn K mainGlobals "isinstance" = some none)
    (z_len : PySem.W.nsIn K mainGlobals "len" = some none)
    (z_list : PySem.W.nsIn K mainGlobals "list" = some none)
    (z_max : PySem.W.nsIn K mainGlobals "max" = some none)
    (z_range : PySem.W.nsIn K mainGlobals "range" = some none)
    (z_tuple : PySem.W.nsIn K mainGlobals "tuple" = some none)
    (gn_PRIMES : PySem.W.nsIn K mainGlobals "PRIMES" = some (some (.ref ga_PRIMES))) (gl_PRIMES : K.lookup ga_PRIMES = some go_PRIMES) (gt_PRIMES : ∃ its n, go_PRIMES.cls = .type "tuple" ∧ go_PRIMES.data = .seq its n ∧ its.size ≤ sizeLine ∧ Vals (([2, 3, 5, 7, 11, 13] : List Int).map V.int) its.toList) :
    ∃ fd : FuncData, (∀ (s : Shared) (v : Value), BindsTo s fd ⟨[v], []⟩ [("script", v)]) ∧ ∀ base : Heap, K.In base → base.Ns mainGlobals mg → FnOk l.prog w K mg base L2.CX0 10 fa fd ["script"] (spOf K 1 w_law) := by
  have e := hfa.symm.trans (PySem.W.mg_of X G a28)
  cases e
  have F0 := fun_mk (st := s_raised) l0 c0 k0
  have b0 := F0.binds (ps := ["base", "times"]) fun _ _ _ _ _ _ us hl => match us, hl with | [_, _], _ => rfl
  have m0 := PySem.W.mg_of X G a0
  have F1 := fun_mk (st := s_reaches) l1 c1 k1
  have b1 := F1.binds (ps := ["numerator", "denominator", "exponent"]) fun _ _ _ _ _ _ us hl => match us, hl with | [_, _, _], _ => rfl
  have m1 := PySem.W.mg_of X G a1
  have F2 := fun_mk (st := s_floor_log2) l2 c2 k2
  have b2 := F2.binds (ps := ["numerator", "denominator"]) fun _ _ _ _ _ _ us hl => match us, hl with | [_, _], _ => rfl
  have m2 := PySem.W.mg_of X G a2
  have F3 := fun_mk (st := s_common_divisor) l3 c3 k3
  have b3 := F3.binds (ps := ["first", "second"]) fun _ _ _ _ _ _ us hl => match us, hl with | [_, _], _ => rfl
  have m3 := PySem.W.mg_of X G a3
  have F4 := fun_mk (st := s_fraction_of) l4 c4 k4
  have b4 := F4.binds (ps := ["vector"]) fun _ _ _ _ _ _ us hl => match us, hl with | [_], _ => rfl
  have m4 := PySem.W.mg_of X G a4
  have F5 := fun_mk (st := s_quotient) l5 c5 k5
  have b5 := F5.binds (ps := ["first", "second"]) fun _ _ _ _ _ _ us hl => match us, hl with | [_, _], _ => rfl
  have m5 := PySem.W.mg_of X G a5
  have F6 := fun_mk (st := s_power) l6 c6 k6
  have b6 := F6.binds (ps := ["vector", "times"]) fun _ _ _ _ _ _ us hl => match us, hl with | [_, _], _ => rfl
  have m6 := PySem.W.mg_of X G a6
  have F7 := fun_mk (st := s_compare) l7 c7 k7
  have b7 := F7.binds (ps := ["first", "second"]) fun _ _ _ _ _ _ us hl => match us, hl with | [_, _], _ => rfl
  have m7 := PySem.W.mg_of X G a7
  have F8 := fun_mk (st := s_octaves) l8 c8 k8
  have b8 := F8.binds (ps := ["vector"]) fun _ _ _ _ _ _ us hl => match us, hl with | [_], _ => rfl
  have m8 := PySem.W.mg_of X G a8
  have F9 := fun_mk (st := s_winds) l9 c9 k9
  have b9 := F9.binds (ps := ["generator", "period", "turns"]) fun _ _ _ _ _ _ us hl => match us, hl with | [_, _, _], _ => rfl
  have m9 := PySem.W.mg_of X G a9
  have F10 := fun_mk (st := s_left_over) l10 c10 k10
  have b10 := F10.binds (ps := ["generator", "period", "turns"]) fun _ _ _ _ _ _ us hl => match us, hl with | [_, _, _], _ => rfl
  have m10 := PySem.W.mg_of X G a10
  have F11 := fun_mk (st := s_nearness) l11 c11 k11
  have b11 := F11.binds (ps := ["generator", "period", "turns"]) fun _ _ _ _ _ _ us hl => match us, hl with | [_, _, _], _ => rfl
  have m11 := PySem.W.mg_of X G a11
  have F12 := fun_mk (st := s_closes) l12 c12 k12
  have b12 := F12.binds (ps := ["generator", "period"]) fun _ _ _ _ _ _ us hl => match us, hl with | [_, _], _ => rfl
  have m12 := PySem.W.mg_of X G a12
  have F13 := fun_mk (st := s_near_turns) l13 c13 k13
  have b13 := F13.binds (ps := ["generator", "period", "limit"]) fun _ _ _ _ _ _ us hl => match us, hl with | [_, _, _], _ => rfl
  have m13 := PySem.W.mg_of X G a13
  have F14 := fun_mk (st := s__law_draws) l14 c14 k14
  have b14 := F14.binds (ps := ["script", "many"]) fun _ _ _ _ _ _ us hl => match us, hl with | [_, _], _ => rfl
  have m14 := PySem.W.mg_of X G a14
  have F15 := fun_mk (st := s__law_is_number) l15 c15 k15
  have b15 := F15.binds (ps := ["value"]) fun _ _ _ _ _ _ us hl => match us, hl with | [_], _ => rfl
  have m15 := PySem.W.mg_of X G a15
  have F16 := fun_mk (st := s__law_is_numbers) l16 c16 k16
  have b16 := F16.binds (ps := ["value", "many"]) fun _ _ _ _ _ _ us hl => match us, hl with | [_, _], _ => rfl
  have m16 := PySem.W.mg_of X G a16
  have F17 := fun_mk (st := s__law_power) l17 c17 k17
  have b17 := F17.binds (ps := ["base", "times"]) fun _ _ _ _ _ _ us hl => match us, hl with | [_, _], _ => rfl
  have m17 := PySem.W.mg_of X G a17
  have F18 := fun_mk (st := s__law_fraction) l18 c18 k18
  have b18 := F18.binds (ps := ["vector"]) fun _ _ _ _ _ _ us hl => match us, hl with | [_], _ => rfl
  have m18 := PySem.W.mg_of X G a18
  have F19 := fun_mk (st := s__law_sign) l19 c19 k19
  have b19 := F19.binds (ps := ["vector"]) fun _ _ _ _ _ _ us hl => match us, hl with | [_], _ => rfl
  have m19 := PySem.W.mg_of X G a19
  have F20 := fun_mk (st := s__law_times) l20 c20 k20
  have b20 := F20.binds (ps := ["vector", "times"]) fun _ _ _ _ _ _ us hl => match us, hl with | [_, _], _ => rfl
  have m20 := PySem.W.mg_of X G a20
  have F21 := fun_mk (st := s__law_floor_log) l21 c21 k21
  have b21 := F21.binds (ps := ["above", "below"]) fun _ _ _ _ _ _ us hl => match us, hl with | [_, _], _ => rfl
  have m21 := PySem.W.mg_of X G a21
  have F22 := fun_mk (st := s__law_spiral) l22 c22 k22
  have b22 := F22.binds (ps := ["draws", "at"]) fun _ _ _ _ _ _ us hl => match us, hl with | [_, _], _ => rfl
  have m22 := PySem.W.mg_of X G a22
  have F23 := fun_mk (st := s__law_height) l23 c23 k23
  have b23 := F23.binds (ps := ["generator", "period", "turns", "rounds"]) fun _ _ _ _ _ _ us hl => match us, hl with | [_, _, _, _], _ => rfl
  have m23 := PySem.W.mg_of X G a23
  have F24 := fun_mk (st := s__law_winds) l24 c24 k24
  have b24 := F24.binds (ps := ["generator", "period", "turns"]) fun _ _ _ _ _ _ us hl => match us, hl with | [_, _, _], _ => rfl
  have m24 := PySem.W.mg_of X G a24
  have F25 := fun_mk (st := s__law_nearness) l25 c25 k25
  have b25 := F25.binds (ps := ["generator", "period", "turns"]) fun _ _ _ _ _ _ us hl => match us, hl with | [_, _, _], _ => rfl
  have m25 := PySem.W.mg_of X G a25
  have F26 := fun_mk (st := s__law_records) l26 c26 k26
  have b26 := F26.binds (ps := ["generator", "period", "limit"]) fun _ _ _ _ _ _ us hl => match us, hl with | [_, _, _], _ => rfl
  have m26 := PySem.W.mg_of X G a26
  have F27 := fun_mk (st := s__law_asks) l27 c27 k27
  have b27 := F27.binds (ps := ["generator", "period", "limit", "due"]) fun _ _ _ _ _ _ us hl => match us, hl with | [_, _, _, _], _ => rfl
  have m27 := PySem.W.mg_of X G a27
  have F28 := fun_mk (st := s_law) l28 c28 k28
  have b28 := F28.binds (ps := ["script"]) fun _ _ _ _ _ _ us hl => match us, hl with | [_], _ => rfl
  have m28 := PySem.W.mg_of X G a28
  have y_abs := PySem.W.mg_none_of X G z_abs
  have y_bool := PySem.W.mg_none_of X G z_bool
  have y_int := PySem.W.mg_none_of X G z_int
  have y_isinstance := PySem.W.mg_none_of X G z_isinstance
  have y_len := PySem.W.mg_none_of X G z_len
  have y_list := PySem.W.mg_none_of X G z_list
  have y_max := PySem.W.mg_none_of X G z_max
  have y_range := PySem.W.mg_none_of X G z_range
  have y_tuple := PySem.W.mg_none_of X G z_tuple
  have G_PRIMES : Glo K mg "PRIMES" g_PRIMES := let ⟨its, n, h1, h2, h3, h4⟩ := gt_PRIMES; glo_tup (PySem.W.mg_of X G gn_PRIMES) gl_PRIMES h1 h2 h3 h4 fun H => rps_ints K H _
  refine ⟨PySem.W.fnOf "law" "law" (defArgs s_law) (defBody s_law) (defScope s_law) .none kV28 dc28 pm28 an28 cd28 ct28, fun s v => .of_eq rfl, fun base _ _ => ?_⟩
  have C14 := c__law_draws (P := l.prog) (w := w) (base := base) F14 m14 b14 y_abs y_int y_len y_range
  have C17 := c__law_power (P := l.prog) (w := w) (base := base) F17 m17 b17
  have C18 := c__law_fraction (P := l.prog) (w := w) (base := base) F18 m18 b18 y_range C17
  have C19 := c__law_sign (P := l.prog) (w := w) (base := base) F19 m19 b19 C18
  have C22 := c__law_spiral (P := l.prog) (w := w) (base := base) F22 m22 b22 y_max y_range y_tuple C19
  have C23 := c__law_height (P := l.prog) (w := w) (base := base) F23 m23 b23 y_range y_tuple
  have C20 := c__law_times (P := l.prog) (w := w) (base := base) F20 m20 b20 y_tuple
  have C21 := c__law_floor_log (P := l.prog) (w := w) (base := base) F21 m21 b21 C17
  have C24 := c__law_winds (P := l.prog) (w := w) (base := base) F24 m24 b24 y_range C18 C20 C21 C19 C23
  have C25 := c__law_nearness (P := l.prog) (w := w) (base := base) F25 m25 b25 y_range y_tuple C23 C24 C19
  have C26 := c__law_records (P := l.prog) (w := w) (base := base) F26 m26 b26 y_range C25 C19
  have C5 := c_quotient (P := l.prog) (w := w) (base := base) F5 m5 b5 y_range y_tuple
  have C6 := c_power (P := l.prog) (w := w) (base := base) F6 m6 b6 y_tuple
  have C0 := c_raised (P := l.prog) (w := w) (base := base) F0 m0 b0
  have C4 := c_fraction_of (P := l.prog) (w := w) (base := base) F4 m4 b4 y_range G_PRIMES C0
  have C1 := c_reaches (P := l.prog) (w := w) (base := base) F1 m1 b1 C0
  have C2 := c_floor_log2 (P := l.prog) (w := w) (base := base) F2 m2 b2 C1
  have C8 := c_octaves (P := l.prog) (w := w) (base := base) F8 m8 b8 C4 C2
  have C7 := c_compare (P := l.prog) (w := w) (base := base) F7 m7 b7 C4 C5
  have C9 := c_winds (P := l.prog) (w := w) (base := base) F9 m9 b9 C6 C8 C7
  have C10 := c_left_over (P := l.prog) (w := w) (base := base) F10 m10 b10 C5 C6 C9
  have C11 := c_nearness (P := l.prog) (w := w) (base := base) F11 m11 b11 C10 C5 C7
  have C13 := c_near_turns (P := l.prog) (w := w) (base := base) F13 m13 b13 y_range C11 C7
  have C15 := c__law_is_number (P := l.prog) (w := w) (base := base) F15 m15 b15 y_bool y_int y_isinstance
  have C16 := c__law_is_numbers (P := l.prog) (w := w) (base := base) F16 m16 b16 y_isinstance y_len y_list C15
  have C27 := c__law_asks (P := l.prog) (w := w) (base := base) F27 m27 b27 y_len C13 C16
  have C3 := c_common_divisor (P := l.prog) (w := w) (base := base) F3 m3 b3 y_abs
  have C12 := c_closes (P := l.prog) (w := w) (base := base) F12 m12 b12 y_abs C3 C6
  exact ok_law F28 y_int y_len y_range y_tuple C14 C22 C26 C27 C12 C13
end KM
open PySem PySem.W PyProof.Rows
set_option maxHeartbeats 0 in
theorem PySem.Challenge.cw_keystuned_k65_near_closings_holds : PySem.Challenge.rw_keystuned_k65_near_closings.Holds := by
  w_on; o_law; k_head; (case hw => w_witness2)
  k_fill
  refine L2.walk_ofB (l := PySem.Challenge.rw_keystuned_k65_near_closings) (n := 63) (k := 10) (x := "script") (CX := fun _ => L2.CX0) (sp := fun w => KT.spOf _ 1 KM.w_law) rfl (by decide) rfl ⟨rfl, by decide, by decide⟩ (fun w h Y => PySem.W.kIn_of Y) ?F (fun _ H a ns hl hb hO hS => KT.law_sp KM.law_holds H a ns hl hb hO hS) (fun _ _ _ _ _ h => h)
  case F =>
    intro w mg fa h KX G hmg
    refine' KM.all_mk KX G hmg ?a0 ?l0 ?c0 ?k0 ?a1 ?l1 ?c1 ?k1 ?a2 ?l2 ?c2 ?k2 ?a3 ?l3 ?c3 ?k3 ?a4 ?l4 ?c4 ?k4 ?a5 ?l5 ?c5 ?k5 ?a6 ?l6 ?c6 ?k6 ?a7 ?l7 ?c7 ?k7 ?a8 ?l8 ?c8 ?k8 ?a9 ?l9 ?c9 ?k9 ?a10 ?l10 ?c10 ?k10 ?a11 ?l11 ?c11 ?k11 ?a12 ?l12 ?c12 ?k12 ?a13 ?l13 ?c13 ?k13 ?a14 ?l14 ?c14 ?k14 ?a15 ?l15 ?c15 ?k15 ?a16 ?l16 ?c16 ?k16 ?a17 ?l17 ?c17 ?k17 ?a18 ?l18 ?c18 ?k18 ?a19 ?l19 ?c19 ?k19 ?a20 ?l20 ?c20 ?k20 ?a21 ?l21 ?c21 ?k21 ?a22 ?l22 ?c22 ?k22 ?a23 ?l23 ?c23 ?k23 ?a24 ?l24 ?c24 ?k24 ?a25 ?l25 ?c25 ?k25 ?a26 ?l26 ?c26 ?k26 ?a27 ?l27 ?c27 ?k27 ?a28 ?l28 ?c28 ?k28 ?z_abs ?z_bool ?z_int ?z_isinstance ?z_len ?z_list ?z_max ?z_range ?z_tuple ?gn_PRIMES ?gl_PRIMES ?gt_PRIMES
    (case a0 => k_is); (case l0 => k_is); (case c0 => k_is); (case k0 => k_is); (case a1 => k_is); (case l1 => k_is); (case c1 => k_is); (case k1 => k_is); (case a2 => k_is); (case l2 => k_is); (case c2 => k_is); (case k2 => k_is); (case a3 => k_is); (case l3 => k_is); (case c3 => k_is); (case k3 => k_is); (case a4 => k_is); (case l4 => k_is); (case c4 => k_is); (case k4 => k_is); (case a5 => k_is); (case l5 => k_is); (case c5 => k_is); (case k5 => k_is); (case a6 => k_is); (case l6 => k_is); (case c6 => k_is); (case k6 => k_is); (case a7 => k_is); (case l7 => k_is); (case c7 => k_is); (case k7 => k_is); (case a8 => k_is); (case l8 => k_is); (case c8 => k_is); (case k8 => k_is); (case a9 => k_is); (case l9 => k_is); (case c9 => k_is); (case k9 => k_is); (case a10 => k_is); (case l10 => k_is); (case c10 => k_is); (case k10 => k_is); (case a11 => k_is); (case l11 => k_is); (case c11 => k_is); (case k11 => k_is); (case a12 => k_is); (case l12 => k_is); (case c12 => k_is); (case k12 => k_is); (case a13 => k_is); (case l13 => k_is); (case c13 => k_is); (case k13 => k_is); (case a14 => k_is); (case l14 => k_is); (case c14 => k_is); (case k14 => k_is); (case a15 => k_is); (case l15 => k_is); (case c15 => k_is); (case k15 => k_is); (case a16 => k_is); (case l16 => k_is); (case c16 => k_is); (case k16 => k_is); (case a17 => k_is); (case l17 => k_is); (case c17 => k_is); (case k17 => k_is); (case a18 => k_is); (case l18 => k_is); (case c18 => k_is); (case k18 => k_is); (case a19 => k_is); (case l19 => k_is); (case c19 => k_is); (case k19 => k_is); (case a20 => k_is); (case l20 => k_is); (case c20 => k_is); (case k20 => k_is); (case a21 => k_is); (case l21 => k_is); (case c21 => k_is); (case k21 => k_is); (case a22 => k_is); (case l22 => k_is); (case c22 => k_is); (case k22 => k_is); (case a23 => k_is); (case l23 => k_is); (case c23 => k_is); (case k23 => k_is); (case a24 => k_is); (case l24 => k_is); (case c24 => k_is); (case k24 => k_is); (case a25 => k_is); (case l25 => k_is); (case c25 => k_is); (case k25 => k_is); (case a26 => k_is); (case l26 => k_is); (case c26 => k_is); (case k26 => k_is); (case a27 => k_is); (case l27 => k_is); (case c27 => k_is); (case k27 => k_is); (case a28 => k_is); (case l28 => k_is); (case c28 => k_is); (case k28 => k_is); (case z_abs => k_is); (case z_bool => k_is); (case z_int => k_is); (case z_isinstance => k_is); (case z_len => k_is); (case z_list => k_is); (case z_max => k_is); (case z_range => k_is); (case z_tuple => k_is); (case gn_PRIMES => k_is); (case gl_PRIMES => k_is); (case gt_PRIMES => exact ⟨_, _, rfl, rfl, Nat.le_trans (show 6 ≤ 100000 by decide) KT.line_big, .cons ⟨_, rfl⟩ (.cons ⟨_, rfl⟩ (.cons ⟨_, rfl⟩ (.cons ⟨_, rfl⟩ (.cons ⟨_, rfl⟩ (.cons ⟨_, rfl⟩ (.nil))))))⟩)
