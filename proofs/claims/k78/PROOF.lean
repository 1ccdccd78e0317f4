import PyProof.Rows.All
import HandS.ForMost
import HandS.ForExc
import HandS.Wide
import HandS.IsInst
import HandS.SortInts
import HandS.Comp
import PySem.Challenge.RW_keystuned_k78_players_in_turn
import HandS.EndBits
set_option Elab.async false
set_option linter.all false
set_option maxRecDepth 100000
set_option maxHeartbeats 4000000
set_option exponentiation.threshold 20000
/-! KtA: values as plain data, what stands for them in the abstract heap, who owns which lists. -/
namespace KT
open PySem PySem.Spec PyProof.Rows L2

abbrev D := PyData

mutual
/-- no list within: it never changes -/
def imm : D → Bool
  | .list _ => false
  | .dict _ => true
  | .tuple ds => immL ds
  | .none => true
  | .bool _ => true
  | .int _ => true
  | .str _ => true
def immL : List D → Bool
  | [] => true
  | d :: ds => imm d && immL ds
end

/-- the written part's list -/
def WrL (K : PySem.W.Frag) (a : Addr) (xs : List V) : Prop :=
  ∃ (o : Obj) (its : Array Value) (n : Nat), K.lookup a = some o ∧ o.cls = .type "list" ∧ o.dict = none ∧ o.data = .seq its n ∧ its.size ≤ sizeLine ∧ Vals xs its.toList

mutual
/-- v stands for d; N: the addresses of its lists, from the outside in (.dict stands for the script: a list that is never written) -/
inductive Rp (K : PySem.W.Frag) (H : Hp) : V → D → List Addr → Prop
  | non : Rp K H .non .none []
  | bl (c : Bool) : Rp K H (.bl c) (.bool c) []
  | int (i : Int) : Rp K H (.int i) (.int i) []
  | str (x : Str) : Rp K H (.str x) (.str x) []
  | lst {a : Addr} {xs : List V} {ds : List D} {N : List Addr} : H a = some (.lst xs) → Rps K H xs ds N → Rp K H (.ref a) (.list ds) (a :: N)
  | tup {a : Addr} {xs : List V} {ds : List D} {N : List Addr} : SqT K H a xs → Rps K H xs ds N → Rp K H (.ref a) (.tuple ds) N
  | scr {a : Addr} {ns : List Int} : ((∃ o, H a = some (.frz o (.lst (ns.map V.int)))) ∨ WrL K a (ns.map V.int)) → Rp K H (.ref a) (.dict (ns.map fun n => (.int n, .none))) []
inductive Rps (K : PySem.W.Frag) (H : Hp) : List V → List D → List Addr → Prop
  | nil : Rps K H [] [] []
  | cons {v : V} {vs : List V} {d : D} {ds : List D} {N M : List Addr} : Rp K H v d N → Rps K H vs ds M → Rps K H (v :: vs) (d :: ds) (N ++ M)
end

section
variable {K : PySem.W.Frag} {H H' : Hp}

theorem Same.upd_new {H : Hp} {p : Addr} {o : HO} (h : H p = none) : Same H (upd H p o) := fun b x e => by
  rw [upd_ne (ne_of_none e h)]; exact e

theorem SqT.same {a : Addr} {xs : List V} (e : Same H H') (h : SqT K H a xs) : SqT K H' a xs := by
  rcases h with (h | ⟨o, h⟩) | h
  · exact .inl (.inl (e _ _ h))
  · exact .inl (.inr ⟨o, e _ _ h⟩)
  · exact .inr h

mutual
theorem Rp.same (e : Same H H') {v : V} {d : D} {N : List Addr} : Rp K H v d N → Rp K H' v d N
  | .non => .non
  | .bl c => .bl c
  | .int i => .int i
  | .str x => .str x
  | .lst h r => .lst (e _ _ h) (Rps.same e r)
  | .tup h r => .tup (SqT.same e h) (Rps.same e r)
  | .scr h => .scr (h.imp (fun ⟨o, q⟩ => ⟨o, e _ _ q⟩) id)
theorem Rps.same (e : Same H H') {vs : List V} {ds : List D} {N : List Addr} : Rps K H vs ds N → Rps K H' vs ds N
  | .nil => .nil
  | .cons r s => .cons (Rp.same e r) (Rps.same e s)
end

mutual
/-- the lists of a value are tracked -/
theorem Rp.trk {v : V} {d : D} {N : List Addr} : Rp K H v d N → ∀ a ∈ N, H a ≠ none
  | .non => fun _ h => nomatch h
  | .bl _ => fun _ h => nomatch h
  | .int _ => fun _ h => nomatch h
  | .str _ => fun _ h => nomatch h
  | .lst h r => fun a ha => by
    rcases List.mem_cons.mp ha with rfl | ha
    · rw [h]; simp
    · exact r.trk a ha
  | .tup h r => r.trk
  | .scr _ => fun _ h => nomatch h
theorem Rps.trk {vs : List V} {ds : List D} {N : List Addr} : Rps K H vs ds N → ∀ a ∈ N, H a ≠ none
  | .nil => fun _ h => nomatch h
  | .cons r s => fun a ha => (List.mem_append.mp ha).elim (r.trk a) (s.trk a)
end

theorem SqT.upd {a p : Addr} {xs ys zs : List V} (hp : H p = some (.lst zs)) (h : SqT K H a xs) : SqT K (upd H p (.lst ys)) a xs := by
  rcases h with (h | ⟨o, h⟩) | h
  · exact .inl (.inl (by rw [upd_ne (ne_of h hp (by intro z; cases z))]; exact h))
  · exact .inl (.inr ⟨o, by rw [upd_ne (ne_of h hp (by intro z; cases z))]; exact h⟩)
  · exact .inr h

mutual
/-- another list has changed -/
theorem Rp.upd {p : Addr} {ys zs : List V} (hp : H p = some (.lst zs)) {v : V} {d : D} {N : List Addr} : Rp K H v d N → p ∉ N → Rp K (upd H p (.lst ys)) v d N
  | .non, _ => .non
  | .bl c, _ => .bl c
  | .int i, _ => .int i
  | .str x, _ => .str x
  | .lst h r, n => .lst (by rw [upd_ne (fun e => n (by rw [e]; exact List.mem_cons_self))]; exact h) (Rps.upd hp r fun z => n (List.mem_cons_of_mem _ z))
  | .tup h r, n => .tup (SqT.upd hp h) (Rps.upd hp r n)
  | .scr h, _ => .scr (h.imp (fun ⟨o, q⟩ => ⟨o, by rw [upd_ne (ne_of q hp (by intro z; cases z))]; exact q⟩) id)
theorem Rps.upd {p : Addr} {ys zs : List V} (hp : H p = some (.lst zs)) {vs : List V} {ds : List D} {N : List Addr} : Rps K H vs ds N → p ∉ N → Rps K (upd H p (.lst ys)) vs ds N
  | .nil, _ => .nil
  | .cons r s, n => .cons (Rp.upd hp r fun z => n (List.mem_append_left _ z)) (Rps.upd hp s fun z => n (List.mem_append_right _ z))
end

mutual
theorem Rp.imm {v : V} {d : D} {N : List Addr} : Rp K H v d N → imm d = true → N = []
  | .non, _ => rfl
  | .bl x, _ => rfl
  | .int x, _ => rfl
  | .str x, _ => rfl
  | .lst _ _, h => by simp [KT.imm] at h
  | .tup h r, i => Rps.imm r (by simpa [KT.imm] using i)
  | .scr _, _ => rfl
theorem Rps.imm {vs : List V} {ds : List D} {N : List Addr} : Rps K H vs ds N → immL ds = true → N = []
  | .nil, _ => rfl
  | .cons (d := d) (ds := ds) r s, i => by
    have i' : KT.imm d = true ∧ immL ds = true := by simpa [immL] using i
    rw [Rp.imm r i'.1, Rps.imm s i'.2]
    rfl
end

theorem Rps.length : ∀ {vs : List V} {ds : List D} {N : List Addr}, Rps K H vs ds N → vs.length = ds.length
  | _, _, _, .nil => rfl
  | _, _, _, .cons _ s => by simp [Rps.length s]

/-- an item of a sequence -/
theorem Rps.get : ∀ {vs : List V} {ds : List D} {N : List Addr} {i : Nat} {d : D}, Rps K H vs ds N → ds[i]? = some d →
    ∃ v A M B, vs[i]? = some v ∧ N = A ++ M ++ B ∧ Rp K H v d M
  | _, _, _, _, _, .nil, e => by simp at e
  | _, _, _, 0, d, .cons (N := N) (M := M) r s, e => by
    simp at e; subst e
    exact ⟨_, [], N, M, rfl, by simp, r⟩
  | _, _, _, i + 1, d, .cons (N := N) (M := M) r s, e => by
    obtain ⟨v, A, M', B, h1, h2, h3⟩ := Rps.get (i := i) (d := d) s (by simpa using e)
    exact ⟨v, N ++ A, M', B, by simpa using h1, by rw [h2]; simp, h3⟩
theorem Rps.getV : ∀ {vs : List V} {ds : List D} {N : List Addr} {i : Nat} {v : V}, Rps K H vs ds N → vs[i]? = some v →
    ∃ d A M B, ds[i]? = some d ∧ N = A ++ M ++ B ∧ Rp K H v d M := fun {vs ds N i v} r e => by
  have hl := r.length
  have hi : i < ds.length := by rw [← hl]; exact (List.getElem?_eq_some_iff.mp e).1
  obtain ⟨v', A, M, B, h1, h2, h3⟩ := r.get (i := i) (d := ds[i]) (List.getElem?_eq_getElem hi)
  rw [e] at h1
  cases h1
  exact ⟨_, A, M, B, List.getElem?_eq_getElem hi, h2, h3⟩
/-- an item replaced -/
theorem Rps.set : ∀ {vs : List V} {ds : List D} {N : List Addr} {i : Nat} {v : V} {d : D} {M : List Addr}, Rps K H vs ds N → Rp K H v d M → i < ds.length →
    ∃ A O B, N = A ++ O ++ B ∧ Rps K H (vs.set i v) (ds.set i d) (A ++ M ++ B)
  | _, _, _, _, _, _, _, .nil, _, h => by simp at h
  | _, _, _, 0, v, d, M, .cons (N := N) (M := M') r s, q, _ => ⟨[], N, M', by simp, by simpa using Rps.cons q s⟩
  | _, _, _, i + 1, v, d, M, .cons (N := N) (M := M') r s, q, h => by
    obtain ⟨A, O, B, h1, h2⟩ := Rps.set (i := i) s q (by simpa using h)
    exact ⟨N ++ A, O, B, by rw [h1]; simp, by simpa [List.append_assoc] using Rps.cons r h2⟩
theorem Rps.append : ∀ {vs ws : List V} {ds es : List D} {N M : List Addr}, Rps K H vs ds N → Rps K H ws es M → Rps K H (vs ++ ws) (ds ++ es) (N ++ M)
  | _, _, _, _, _, _, .nil, s => by simpa using s
  | _, _, _, _, _, _, .cons r t, s => by simpa [List.append_assoc] using Rps.cons r (Rps.append t s)
theorem Rps.one {v : V} {d : D} {N : List Addr} (r : Rp K H v d N) : Rps K H [v] [d] N := by
  simpa using Rps.cons r .nil
theorem Rps.take : ∀ (k : Nat) {vs : List V} {ds : List D} {N : List Addr}, Rps K H vs ds N → ∃ A B, N = A ++ B ∧ Rps K H (vs.take k) (ds.take k) A ∧ Rps K H (vs.drop k) (ds.drop k) B
  | 0, _, _, N, r => ⟨[], N, rfl, by simpa using Rps.nil, by simpa using r⟩
  | k + 1, _, _, _, .nil => ⟨[], [], rfl, by simpa using Rps.nil, by simpa using Rps.nil⟩
  | k + 1, _, _, _, .cons (N := N) (M := M) r s => by
    obtain ⟨A, B, h1, h2, h3⟩ := Rps.take k s
    exact ⟨N ++ A, B, by rw [h1]; simp, by simpa using Rps.cons r h2, by simpa using h3⟩
end

/-! ### a value of an expression, a slot of a def -/
/-- own: all its lists are its own, no other name or object holds them; roots: but the names whose lists it may hold -/
structure Val where
  d : D
  own : Bool
  roots : List Nat
structure Slot where
  d : D
  own : Bool
  pin : Bool
abbrev En := List (Option Slot)
abbrev Nu := Nat → List Addr

/-- the heap H, reached from H0 (what stood there stands), holds the names' data -/
structure EnvOk (K : PySem.W.Frag) (H0 : Hp) (π : Nat → Option V) (H : Hp) (σ : L2.St) (δ : En) (ν : Nu) : Prop where
  len : δ.length = σ.length
  sm : Same H0 H
  at_ : ∀ i s, δ[i]? = some (some s) → ∃ v, σ[i]? = some (some v) ∧ Rp K H v s.d (ν i) ∧ (s.pin = true → π i = some v)
  nd : ∀ i s, δ[i]? = some (some s) → s.own = true → (ν i).Nodup ∧ ∀ a ∈ ν i, H0 a = none
  dj : ∀ i j s t, i ≠ j → δ[i]? = some (some s) → s.own = true → δ[j]? = some (some t) → ∀ a ∈ ν i, a ∉ ν j

/-- a value come by from the heap H in H' -/
structure VOk (K : PySem.W.Frag) (H : Hp) (δ : En) (ν : Nu) (H' : Hp) (v : V) (x : Val) (M : List Addr) : Prop where
  rp : Rp K H' v x.d M
  nd : x.own = true → M.Nodup
  fr : x.own = true → ∀ a ∈ M, H a = none ∨ ∃ j ∈ x.roots, ∃ s, δ[j]? = some (some s) ∧ s.own = true ∧ a ∈ ν j
  al : ∀ j s, δ[j]? = some (some s) → s.own = true → j ∉ x.roots → ∀ a ∈ ν j, a ∉ M

section
variable {K : PySem.W.Frag} {H0 H H1 H' : Hp} {π : Nat → Option V} {σ : L2.St} {δ : En} {ν : Nu} {v : V} {x : Val} {M : List Addr}

theorem EnvOk.same (e : EnvOk K H0 π H σ δ ν) (s : Same H H') : EnvOk K H0 π H' σ δ ν :=
  ⟨e.len, e.sm.trans s, fun i t h => let ⟨v, a, b, c⟩ := e.at_ i t h; ⟨v, a, b.same s, c⟩, e.nd, e.dj⟩
theorem EnvOk.trk (e : EnvOk K H0 π H σ δ ν) {j : Nat} {s : Slot} (h : δ[j]? = some (some s)) : ∀ a ∈ ν j, H a ≠ none :=
  let ⟨_, _, r, _⟩ := e.at_ j s h; r.trk

theorem VOk.same (q : VOk K H δ ν H1 v x M) (s : Same H1 H') : VOk K H δ ν H' v x M := ⟨q.rp.same s, q.nd, q.fr, q.al⟩
/-- seen from an earlier heap -/
theorem VOk.back (q : VOk K H1 δ ν H' v x M) (s : Same H H1) : VOk K H δ ν H' v x M :=
  ⟨q.rp, q.nd, fun o a ha => (q.fr o a ha).imp (fun z => s.free z) id, q.al⟩

/-- a value without lists is nobody's -/
def nv (x : Val) : Val := ⟨x.d, (match imm x.d with | true => true | false => x.own), (match imm x.d with | true => [] | false => x.roots)⟩
theorem VOk.nv (q : VOk K H δ ν H' v x M) : ∃ M', VOk K H δ ν H' v (nv x) M' := by
  unfold KT.nv
  cases h : KT.imm x.d with
  | true => exact ⟨[], q.rp.imm h ▸ q.rp, fun _ => List.nodup_nil, fun _ _ h => (nomatch h), fun _ _ _ _ _ _ _ h => (nomatch h)⟩
  | false => exact ⟨M, q⟩
/-- a value without lists, made -/
theorem VOk.imm {d : D} {N : List Addr} (r : Rp K H' v d N) (h : imm d = true) : VOk K H δ ν H' v ⟨d, true, []⟩ [] :=
  ⟨r.imm h ▸ r, fun _ => List.nodup_nil, fun _ _ h => (nomatch h), fun _ _ _ _ _ _ _ h => (nomatch h)⟩

/-- the names given up -/
def killR (δ : En) : List Nat → En
  | [] => δ
  | j :: r => (killR δ r).set j none
/-- the names whose lists are no more their own -/
def demS : Option Slot → Option Slot
  | some s => some { s with own := false }
  | none => none
def demR (δ : En) : List Nat → En
  | [] => δ
  | j :: r => match (killR δ [])[j]? with
    | some o => (demR δ r).set j (demS o)
    | none => demR δ r
theorem killR_len (δ : En) : ∀ r, (killR δ r).length = δ.length
  | [] => rfl
  | j :: r => by simp [killR, killR_len δ r]
theorem killR_some {δ : En} {i : Nat} {s : Slot} : ∀ {r : List Nat}, (killR δ r)[i]? = some (some s) → δ[i]? = some (some s) ∧ i ∉ r
  | [], h => ⟨h, by simp⟩
  | j :: r, h => by
    simp only [killR] at h
    by_cases e : j = i
    · subst e
      by_cases hl : j < (killR δ r).length
      · rw [List.getElem?_set_self hl] at h; cases h
      · rw [List.getElem?_eq_none (by simpa using hl)] at h; cases h
    · rw [List.getElem?_set_ne e] at h
      obtain ⟨h1, h2⟩ := killR_some h
      exact ⟨h1, by simp only [List.mem_cons, not_or]; exact ⟨fun z => e z.symm, h2⟩⟩
theorem demR_len (δ : En) : ∀ r, (demR δ r).length = δ.length
  | [] => rfl
  | j :: r => by
    simp only [demR]
    split
    · simp [demR_len δ r]
    · exact demR_len δ r
theorem demR_some {δ : En} {i : Nat} {s : Slot} : ∀ {r : List Nat}, (demR δ r)[i]? = some (some s) →
    ∃ t, δ[i]? = some (some t) ∧ s.d = t.d ∧ s.pin = t.pin ∧ (s.own = true → t.own = true ∧ i ∉ r)
  | [], h => ⟨s, h, rfl, rfl, fun z => ⟨z, by simp⟩⟩
  | j :: r, h => by
    simp only [demR, killR] at h
    split at h
    · rename_i o ho
      by_cases e : j = i
      · subst e
        have hl : j < (demR δ r).length := by rw [demR_len]; exact (List.getElem?_eq_some_iff.mp ho).1
        rw [List.getElem?_set_self hl] at h
        cases o with
        | none => simp [demS] at h
        | some t =>
          simp [demS] at h
          subst h
          exact ⟨t, ho, rfl, rfl, fun z => (nomatch z)⟩
      · rw [List.getElem?_set_ne e] at h
        obtain ⟨t, h1, h2, h3, h4⟩ := demR_some h
        exact ⟨t, h1, h2, h3, fun z => ⟨(h4 z).1, by simp only [List.mem_cons, not_or]; exact ⟨fun z => e z.symm, (h4 z).2⟩⟩⟩
    · rename_i ho
      obtain ⟨t, h1, h2, h3, h4⟩ := demR_some h
      refine ⟨t, h1, h2, h3, fun z => ⟨(h4 z).1, ?_⟩⟩
      simp only [List.mem_cons, not_or]
      refine ⟨fun z => ?_, (h4 z).2⟩
      subst z
      rw [h1] at ho; cases ho

/-! the same with the names' list kept written out, for computing -/
def setK : En → Nat → Option Slot → (En → Prop) → Prop
  | [], _, _, P => P []
  | _ :: r, 0, o, P => P (o :: r)
  | a :: r, i + 1, o, P => setK r i o fun r' => P (a :: r')
theorem setK_eq : ∀ (δ : En) (i : Nat) (o : Option Slot) (P : En → Prop), setK δ i o P = P (δ.set i o)
  | [], _, _, _ => rfl
  | _ :: _, 0, _, _ => rfl
  | a :: r, i + 1, o, P => by
    show setK r i o (fun r' => P (a :: r')) = _
    rw [setK_eq r i o]
    rfl
def killK : En → List Nat → (En → Prop) → Prop
  | δ, [], P => P δ
  | δ, j :: r, P => killK δ r fun δ' => setK δ' j none P
theorem killK_eq : ∀ (r : List Nat) (δ : En) (P : En → Prop), killK δ r P = P (killR δ r)
  | [], _, _ => rfl
  | j :: r, δ, P => by
    show killK δ r (fun δ' => setK δ' j none P) = _
    rw [killK_eq r δ, setK_eq]
    rfl
def demK : En → List Nat → (En → Prop) → Prop
  | δ, [], P => P δ
  | δ, j :: r, P => match δ[j]? with
    | some o => demK δ r fun δ' => setK δ' j (demS o) P
    | none => demK δ r P
theorem demK_eq : ∀ (r : List Nat) (δ : En) (P : En → Prop), demK δ r P = P (demR δ r)
  | [], _, _ => rfl
  | j :: r, δ, P => by
    show (match δ[j]? with | some o => demK δ r fun δ' => setK δ' j (demS o) P | none => demK δ r P) = P (match (killR δ [])[j]? with | some o => (demR δ r).set j (demS o) | none => demR δ r)
    simp only [killR]
    cases δ[j]? with
    | none => exact demK_eq r δ P
    | some o =>
      show demK δ r (fun δ' => setK δ' j (demS o) P) = _
      rw [demK_eq r δ, setK_eq]
theorem EnvOk.kill (e : EnvOk K H0 π H σ δ ν) (r : List Nat) : EnvOk K H0 π H σ (killR δ r) ν :=
  ⟨(killR_len δ r).trans e.len, e.sm, fun i s h => e.at_ i s (killR_some h).1, fun i s h => e.nd i s (killR_some h).1, fun i j s t n h o h' => e.dj i j s t n (killR_some h).1 o (killR_some h').1⟩
theorem EnvOk.dem (e : EnvOk K H0 π H σ δ ν) (r : List Nat) : EnvOk K H0 π H σ (demR δ r) ν := by
  refine ⟨(demR_len δ r).trans e.len, e.sm, fun i s h => ?_, fun i s h o => ?_, fun i j s t n h o h' => ?_⟩
  · obtain ⟨t, h1, h2, h3, h4⟩ := demR_some h
    obtain ⟨v, a, b, c⟩ := e.at_ i t h1
    exact ⟨v, a, h2 ▸ b, fun z => c (h3 ▸ z)⟩
  · obtain ⟨t, h1, h2, h3, h4⟩ := demR_some h
    exact e.nd i t h1 (h4 o).1
  · obtain ⟨t1, h1, h2, h3, h4⟩ := demR_some h
    obtain ⟨t2, h5, _⟩ := demR_some h'
    exact e.dj i j t1 t2 n h1 (h4 o).1 h5

/-- a value that no name's list meddles with -/
structure FOk (K : PySem.W.Frag) (H0 : Hp) (δ : En) (ν : Nu) (H' : Hp) (v : V) (d : D) (own : Bool) (M : List Addr) : Prop where
  rp : Rp K H' v d M
  nd : own = true → M.Nodup
  fr : own = true → ∀ a ∈ M, H0 a = none
  dj : own = true → ∀ a ∈ M, ∀ j s, δ[j]? = some (some s) → a ∉ ν j
  al : ∀ j s, δ[j]? = some (some s) → s.own = true → ∀ a ∈ ν j, a ∉ M

theorem VOk.killed (e : EnvOk K H0 π H σ δ ν) (q : VOk K H δ ν H' v x M) : FOk K H0 (killR δ x.roots) ν H' v x.d x.own M := by
  refine ⟨q.rp, q.nd, fun o a ha => ?_, fun o a ha j s h hj => ?_, fun j s h o a ha => ?_⟩
  · rcases q.fr o a ha with z | ⟨k, _, s, hk, ho, hm⟩
    · exact e.sm.free z
    · exact (e.nd k s hk ho).2 a hm
  · obtain ⟨h1, h2⟩ := killR_some h
    rcases q.fr o a ha with z | ⟨k, hkr, t, hk, ho, hm⟩
    · exact e.trk h1 a hj z
    · by_cases ek : k = j
      · subst ek; exact h2 hkr
      · exact e.dj k j t s ek hk ho h1 a hm hj
  · obtain ⟨h1, h2⟩ := killR_some h
    exact q.al j s h1 o h2 a ha
theorem VOk.demoted (e : EnvOk K H0 π H σ δ ν) (q : VOk K H δ ν H' v x M) : FOk K H0 (demR δ x.roots) ν H' v x.d false M := by
  refine ⟨q.rp, fun z => (nomatch z), fun z => (nomatch z), fun z => (nomatch z), fun j s h o a ha => ?_⟩
  obtain ⟨t, h1, h2, h3, h4⟩ := demR_some h
  exact q.al j t h1 (h4 o).1 (h4 o).2 a ha

/-- a name is given a value -/
theorem EnvOk.set (e : EnvOk K H0 π H σ δ ν) {d : D} {own : Bool} (q : FOk K H0 δ ν H v d own M) (i : Nat) :
    EnvOk K H0 π H (σ.set i (some v)) (δ.set i (some ⟨d, own, false⟩)) (fun j => if j = i then M else ν j) := by
  have look : ∀ j s, (δ.set i (some ⟨d, own, false⟩))[j]? = some (some s) → (j = i ∧ s = ⟨d, own, false⟩ ∧ i < δ.length) ∨ (j ≠ i ∧ δ[j]? = some (some s)) := fun j s h => by
    by_cases ej : j = i
    · subst ej
      by_cases hl : j < δ.length
      · rw [List.getElem?_set_self hl] at h
        cases h
        exact .inl ⟨rfl, rfl, hl⟩
      · rw [List.getElem?_eq_none (by simpa using hl)] at h; cases h
    · rw [List.getElem?_set_ne (Ne.symm ej)] at h
      exact .inr ⟨ej, h⟩
  refine ⟨by simpa using e.len, e.sm, fun j s h => ?_, fun j s h o => ?_, fun j k s t n h o h' a ha => ?_⟩
  · rcases look j s h with ⟨rfl, rfl, hl⟩ | ⟨n, h⟩
    · refine ⟨v, List.getElem?_set_self (by rw [← e.len]; exact hl), ?_, fun z => (nomatch z)⟩
      rw [if_pos rfl]
      exact q.rp
    · obtain ⟨w, a, b, c⟩ := e.at_ j s h
      refine ⟨w, by rw [List.getElem?_set_ne (Ne.symm n)]; exact a, ?_, c⟩
      rw [if_neg n]
      exact b
  · show (if j = i then M else ν j).Nodup ∧ ∀ a ∈ (if j = i then M else ν j), H0 a = none
    rcases look j s h with ⟨rfl, rfl, hl⟩ | ⟨n, h⟩
    · rw [if_pos rfl]
      exact ⟨q.nd o, q.fr o⟩
    · rw [if_neg n]
      exact e.nd j s h o
  · have ha : a ∈ (if j = i then M else ν j) := ha
    show a ∉ (if k = i then M else ν k)
    rcases look j s h with ⟨rfl, rfl, hl⟩ | ⟨n1, h2⟩
    · rw [if_pos rfl] at ha
      rcases look k t h' with ⟨rfl, _, _⟩ | ⟨n2, h3⟩
      · exact absurd rfl n
      · rw [if_neg n2]
        exact q.dj o a ha k t h3
    · have ha2 : a ∈ ν j := by
        rw [if_neg n1] at ha
        exact ha
      rcases look k t h' with ⟨rfl, _, _⟩ | ⟨n2, h3⟩
      · rw [if_pos rfl]
        exact q.al j s h2 o a ha2
      · rw [if_neg n2]
        exact e.dj j k s t n h2 o h3 a ha2
end
end KT
/-! KtB: an expression as a predicate over plain data (DE), its judgement EV, the rules. -/
namespace KT
open PySem PySem.Spec PyProof.Rows L2

abbrev DE := En → (Val → Prop) → Prop
abbrev DA := En → (List Val → Prop) → Prop

def semE (K : PySem.W.Frag) (H0 : Hp) (π : Nat → Option V) (f : DE) : TE := fun σ H Q =>
  ∃ δ ν, EnvOk K H0 π H σ δ ν ∧ f δ fun x => ∀ v H' M, Same H H' → VOk K H δ ν H' v x M → Q v H'

structure EV (X : Cx) (e : Expr) (f : DE) : Prop where
  mono : ∀ δ (P P' : Val → Prop), (∀ x, P x → P' x) → f δ P → f δ P'
  pe : ∀ H0 π, PE X e (semE X.K H0 π f)

theorem pei {X : Cx} {e : Expr} {t t' : TE} (h : PE X e t) (i : ∀ σ H Q, t' σ H Q → t σ H Q) : PE X e t' :=
  ⟨fun pins s σ H Q I q => h.run pins s σ H Q I (i σ H Q q)⟩
theorem pti {X : Cx} {e : Expr} {t t' : TT} (h : PT X e t) (i : ∀ σ H Q, t' σ H Q → t σ H Q) : PT X e t' :=
  ⟨fun pins s σ H Q I q => h.run pins s σ H Q I (i σ H Q q)⟩
theorem pai {X : Cx} {e : List Expr} {t t' : TA} (h : PA X e t) (i : ∀ σ H Q, t' σ H Q → t σ H Q) : PA X e t' :=
  ⟨fun pos pins s σ H Q I q => h.run pos pins s σ H Q I (i σ H Q q)⟩

/-- lists of values, come by one after another -/
inductive VsOk (K : PySem.W.Frag) : Hp → En → Nu → Hp → List V → List Val → List (List Addr) → Prop
  | nil {H δ ν H'} : VsOk K H δ ν H' [] [] []
  | cons {H δ ν H' v x M vs xs Ms} : VOk K H δ ν H' v x M → VsOk K H δ ν H' vs xs Ms →
      (∀ (i : Nat) (y : Val) (My : List Addr), xs[i]? = some y → Ms[i]? = some My → y.own = true → (∀ k ∈ y.roots, k ∉ x.roots) → ∀ a ∈ My, a ∉ M) → VsOk K H δ ν H' (v :: vs) (x :: xs) (M :: Ms)
section
variable {K : PySem.W.Frag} {H0 H H1 H' : Hp} {π : Nat → Option V} {σ : L2.St} {δ : En} {ν : Nu}
theorem VsOk.same : ∀ {vs : List V} {xs : List Val} {Ms : List (List Addr)}, VsOk K H δ ν H1 vs xs Ms → Same H1 H' → VsOk K H δ ν H' vs xs Ms
  | _, _, _, .nil, _ => .nil
  | _, _, _, .cons q r c, s => .cons (q.same s) (r.same s) c
theorem VsOk.back : ∀ {vs : List V} {xs : List Val} {Ms : List (List Addr)}, VsOk K H1 δ ν H' vs xs Ms → Same H H1 → VsOk K H δ ν H' vs xs Ms
  | _, _, _, .nil, _ => .nil
  | _, _, _, .cons q r c, s => .cons (q.back s) (r.back s) c
theorem VsOk.get : ∀ {vs : List V} {xs : List Val} {Ms : List (List Addr)} {i : Nat} {x : Val} {M : List Addr}, VsOk K H δ ν H' vs xs Ms → xs[i]? = some x → Ms[i]? = some M → ∃ v, VOk K H δ ν H' v x M
  | _, _, _, _, _, _, .nil, e, _ => by simp at e
  | _, _, _, 0, x, M, .cons q r c, e, f => by simp at e f; subst e f; exact ⟨_, q⟩
  | _, _, _, i + 1, x, M, .cons q r c, e, f => VsOk.get (i := i) r (by simpa using e) (by simpa using f)
theorem VsOk.rps : ∀ {vs : List V} {xs : List Val} {Ms : List (List Addr)}, VsOk K H δ ν H' vs xs Ms → Rps K H' vs (xs.map Val.d) Ms.flatten
  | _, _, _, .nil => .nil
  | _, _, _, .cons q r _ => by simpa using Rps.cons q.rp r.rps
theorem VsOk.length : ∀ {vs : List V} {xs : List Val} {Ms : List (List Addr)}, VsOk K H δ ν H' vs xs Ms → vs.length = xs.length
  | _, _, _, .nil => rfl
  | _, _, _, .cons _ r _ => by simp [r.length]
theorem VsOk.lenM : ∀ {vs : List V} {xs : List Val} {Ms : List (List Addr)}, VsOk K H δ ν H' vs xs Ms → Ms.length = xs.length
  | _, _, _, .nil => rfl
  | _, _, _, .cons _ r _ => by simp [r.lenM]
/-- which names' lists a value may hold -/
theorem VsOk.al : ∀ {vs : List V} {xs : List Val} {Ms : List (List Addr)}, VsOk K H δ ν H' vs xs Ms → ∀ j s, δ[j]? = some (some s) → s.own = true → j ∉ xs.flatMap Val.roots → ∀ a ∈ ν j, a ∉ Ms.flatten
  | _, _, _, .nil => fun _ _ _ _ _ _ _ h => by simp at h
  | _, _, _, .cons q r _ => fun j s h o n a ha hm => by
    simp only [List.flatMap_cons, List.mem_append, not_or] at n
    simp only [List.flatten_cons, List.mem_append] at hm
    exact hm.elim (q.al j s h o n.1 a ha) (r.al j s h o n.2 a ha)
theorem VsOk.fr : ∀ {vs : List V} {xs : List Val} {Ms : List (List Addr)}, VsOk K H δ ν H' vs xs Ms → xs.all Val.own = true → ∀ a ∈ Ms.flatten, H a = none ∨ ∃ j ∈ xs.flatMap Val.roots, ∃ s, δ[j]? = some (some s) ∧ s.own = true ∧ a ∈ ν j
  | _, _, _, .nil, _ => fun _ h => by simp at h
  | _, _, _, .cons (x := x) (xs := xs) q r _, h => fun a ha => by
    have h' : x.own = true ∧ xs.all Val.own = true := by rw [List.all_cons, Bool.and_eq_true] at h; exact h
    simp only [List.flatten_cons, List.mem_append] at ha
    rcases ha with ha | ha
    · rcases q.fr h'.1 a ha with z | ⟨j, hj, z⟩
      · exact .inl z
      · exact .inr ⟨j, by simp [hj], z⟩
    · rcases r.fr h'.2 a ha with z | ⟨j, hj, z⟩
      · exact .inl z
      · exact .inr ⟨j, by
          simp only [List.flatMap_cons, List.mem_append]
          exact .inr hj, z⟩
theorem mem_flat_get {α : Type} : ∀ {Ms : List (List α)} {a : α}, a ∈ Ms.flatten → ∃ (i : Nat) (M : List α), Ms[i]? = some M ∧ a ∈ M
  | [], _, h => by simp at h
  | M :: Ms, a, h => by
    simp only [List.flatten_cons, List.mem_append] at h
    rcases h with h | h
    · exact ⟨0, M, rfl, h⟩
    · obtain ⟨i, M', e, q⟩ := mem_flat_get h
      exact ⟨i + 1, M', by simpa using e, q⟩
theorem VsOk.nd : ∀ {vs : List V} {xs : List Val} {Ms : List (List Addr)}, VsOk K H δ ν H' vs xs Ms → xs.all Val.own = true → (xs.flatMap Val.roots).Nodup → Ms.flatten.Nodup
  | _, _, _, .nil, _, _ => by simp
  | _, _, _, .cons (x := x) (xs := xs) (Ms := Ms) q r c, h, n => by
    have h' : x.own = true ∧ xs.all Val.own = true := by rw [List.all_cons, Bool.and_eq_true] at h; exact h
    rw [List.flatMap_cons, List.nodup_append] at n
    rw [List.flatten_cons, List.nodup_append]
    refine ⟨q.nd h'.1, r.nd h'.2 n.2.1, fun a ha b hb e => ?_⟩
    subst e
    obtain ⟨i, My, e1, e2⟩ := mem_flat_get hb
    have hi : i < xs.length := by rw [← r.lenM]; exact (List.getElem?_eq_some_iff.mp e1).1
    have hy : xs[i]? = some xs[i] := List.getElem?_eq_getElem hi
    have ho : (xs[i]).own = true := List.all_eq_true.mp h'.2 _ (List.getElem_mem hi)
    exact c i xs[i] My hy e1 ho (fun k hk hk' => n.2.2 k hk' k (List.mem_flatMap.mpr ⟨xs[i], List.getElem_mem hi, hk⟩) rfl) a e2 ha
end

def semA (K : PySem.W.Frag) (H0 : Hp) (π : Nat → Option V) (f : DA) : TA := fun σ H Q =>
  ∃ δ ν, EnvOk K H0 π H σ δ ν ∧ f δ fun xs => ∀ vs H' Ms, Same H H' → VsOk K H δ ν H' vs xs Ms → Q vs H'
structure EA (X : Cx) (es : List Expr) (f : DA) : Prop where
  mono : ∀ δ (P P' : List Val → Prop), (∀ x, P x → P' x) → f δ P → f δ P'
  pa : ∀ H0 π, PA X es (semA X.K H0 π f)

section
variable {X : Cx} {a b e : Expr} {es : List Expr} {fa fb f : DE} {g : DA} {pos : Pos}

/-! ### argument lists -/
def aNil : DA := fun _ P => P []
def aCons (f : DE) (g : DA) : DA := fun δ P => f δ fun x => g δ fun xs => P (x :: xs)
theorem ea_nil : EA X [] aNil :=
  ⟨fun _ _ _ h q => h _ q, fun H0 π => pai pa_nil fun σ H Q ⟨δ, ν, _, q⟩ => q [] H [] (Same.refl H) .nil⟩
theorem ea_cons (ha : EV X e f) (hr : EA X es g) (hs : starEach (e :: es) X.env = (false, eval e X.env) :: starEach es X.env := by rfl) : EA X (e :: es) (aCons f g) := by
  refine ⟨fun δ P P' h q => ha.mono _ _ _ (fun x q => hr.mono _ _ _ (fun xs q => h _ q) q) q, fun H0 π => pai (pa_cons (ha.pe H0 π) (hr.pa H0 π) hs) fun σ H Q ⟨δ, ν, E, q⟩ => ?_⟩
  refine ⟨δ, ν, E, ha.mono _ _ _ (fun x q v H1 M s1 o1 => ?_) q⟩
  refine ⟨δ, ν, E.same s1, hr.mono _ _ _ (fun xs q vs H2 Ms s2 o2 => ?_) q⟩
  refine q (v :: vs) H2 (M :: Ms) (s1.trans s2) (.cons (o1.same s2) (o2.back s1) fun i y My hy hM ho hr a ha hm => ?_)
  obtain ⟨_, oy⟩ := o2.get hy hM
  rcases oy.fr ho a ha with z | ⟨k, hk, t, ht, hto, hka⟩
  · exact o1.rp.trk a hm z
  · exact o1.al k t ht hto (hr k hk) a hka hm

/-! ### names, constants -/
def dVar (i : Nat) : DE := fun δ P => match δ[i]? with
  | some (some s) => P (nv ⟨s.d, s.own, [i]⟩)
  | _ => False
def dC (d : D) : DE := fun _ P => P ⟨d, true, []⟩
theorem slot_vok {K : PySem.W.Frag} {H0 H : Hp} {π : Nat → Option V} {σ : L2.St} {δ : En} {ν : Nu} (E : EnvOk K H0 π H σ δ ν) {i : Nat} {s : Slot} (h : δ[i]? = some (some s)) :
    ∃ v, σ[i]? = some (some v) ∧ VOk K H δ ν H v ⟨s.d, s.own, [i]⟩ (ν i) := by
  obtain ⟨v, hv, r, _⟩ := E.at_ i s h
  refine ⟨v, hv, r, fun o => (E.nd i s h o).1, fun o a ha => .inr ⟨i, by simp, s, h, o, ha⟩, fun j t hj ho hn a ha => ?_⟩
  have n : j ≠ i := fun e => hn (by simp [e])
  exact E.dj j i t s n hj ho h a ha
theorem ev_var (i : Nat) {x : Str} {pos : Pos} (hN : X.N[i]? = some x := by rfl) (hv : Vis X.env.scope x := by first | exact Or.inl rfl | exact Or.inr (Or.inl rfl) | exact Or.inr (Or.inr rfl)) (hd : (x == ("__debug__" : Str)) = false := by decide)
    (hcd : (x == ("__classdict__" : Str)) = false := by decide) : EV X (.Name x pos) (dVar i) := by
  refine ⟨fun δ P P' h q => ?_, fun H0 π => pei (pe_var hN hv hd hcd) fun σ H Q ⟨δ, ν, E, q⟩ => ?_⟩
  · unfold dVar at *
    split at q
    · exact h _ q
    · exact q.elim
  · unfold dVar at q
    split at q
    · rename_i s hs
      obtain ⟨v, hv, o⟩ := slot_vok E hs
      obtain ⟨M', o'⟩ := o.nv
      exact ⟨v, hv, q v H M' (Same.refl H) o'⟩
    · exact q.elim
theorem ev_c {e : Expr} {v : V} {d : D} (hp : PE X e (tC v)) (r : ∀ K H, Rp K H v d []) : EV X e (dC d) :=
  ⟨fun _ _ _ h q => h _ q, fun H0 π => pei hp fun σ H Q ⟨δ, ν, _, q⟩ => q v H [] (Same.refl H) ⟨r _ _, fun _ => List.nodup_nil, fun _ _ h => (nomatch h), fun _ _ _ _ _ _ _ h => (nomatch h)⟩⟩
theorem ev_int {i j pos} : EV X (.Constant (.int i) j pos) (dC (.int i)) := ev_c pe_int fun _ _ => .int _
theorem ev_bl {b j pos} : EV X (.Constant (.bool b) j pos) (dC (.bool b)) := ev_c pe_bl fun _ _ => .bl _
theorem ev_non {j pos} : EV X (.Constant .none j pos) (dC .none) := ev_c pe_non fun _ _ => .non
theorem ev_str {x j pos} : EV X (.Constant (.str x) j pos) (dC (.str x)) := ev_c pe_str fun _ _ => .str _

/-! ### operations that give something new -/
/-- a fresh value behind H -/
def FR (K : PySem.W.Frag) (H : Hp) (Q : D → Prop) : VK := fun v H' => ∃ d M, Same H H' ∧ Rp K H' v d M ∧ M.Nodup ∧ (∀ a ∈ M, H a = none) ∧ Q d
theorem FR.imm {K : PySem.W.Frag} {H : Hp} {Q : D → Prop} {v : V} {d : D} {N : List Addr} (r : Rp K H v d N) (i : imm d = true) (q : Q d) : FR K H Q v H :=
  ⟨d, [], Same.refl H, r.imm i ▸ r, List.nodup_nil, fun _ h => (nomatch h), q⟩
theorem FR.vok {K : PySem.W.Frag} {H0 H H1 H' : Hp} {δ : En} {ν : Nu} {v : V} {d : D} {M : List Addr} (s : Same H H1) (r : Rp K H' v d M) (n : M.Nodup) (f : ∀ a ∈ M, H1 a = none)
    {π : Nat → Option V} {σ : L2.St} (E : EnvOk K H0 π H σ δ ν) : VOk K H δ ν H' v ⟨d, true, []⟩ M :=
  ⟨r, fun _ => n, fun _ a ha => .inl (s.free (f a ha)), fun j t h _ _ a ha hm => E.trk h a ha (s.free (f a hm))⟩
abbrev K2 := D → D → (D → Prop) → Prop
/-- k tells what the operation r makes of two data -/
structure R2Ok (X : Cx) (r : R2) (k : K2) : Prop where
  mono : ∀ d e (Q Q' : D → Prop), (∀ x, Q x → Q' x) → k d e Q → k d e Q'
  ok : ∀ (H : Hp) (x y : V) (d e : D) (N M : List Addr) (Q : D → Prop) (R : VK), Rp X.K H x d N → Rp X.K H y e M → k d e Q → (∀ v H', FR X.K H Q v H' → R v H') → r x y H R
def dBin (k : K2) (fa fb : DE) : DE := fun δ P => fa δ fun x => fb δ fun y => k x.d y.d fun d => P ⟨d, true, []⟩
theorem ev_bin2 {e : Expr} {r : R2} {k : K2} (hk : R2Ok X r k) (ha : EV X a fa) (hb : EV X b fb) (hp : ∀ {ta tb : TE}, PE X a ta → PE X b tb → PE X e (tOp r ta tb)) : EV X e (dBin k fa fb) := by
  refine ⟨fun δ P P' h q => ha.mono _ _ _ (fun x q => hb.mono _ _ _ (fun y q => hk.mono _ _ _ _ (fun d q => h _ q) q) q) q, fun H0 π => pei (hp (ha.pe H0 π) (hb.pe H0 π)) fun σ H Q ⟨δ, ν, E, q⟩ => ?_⟩
  refine ⟨δ, ν, E, ha.mono _ _ _ (fun x q v H1 M s1 o1 => ?_) q⟩
  refine ⟨δ, ν, E.same s1, hb.mono _ _ _ (fun y q w H2 N s2 o2 => ?_) q⟩
  refine hk.ok H2 v w x.d y.d M N _ _ (o1.rp.same s2) o2.rp q fun u H3 ⟨d, M', s3, r3, n3, f3, q3⟩ => ?_
  exact q3 u H3 M' ((s1.trans s2).trans s3) (FR.vok (s1.trans s2) r3 n3 f3 E)
theorem ev_op {op : Operator} {r : R2} {k : K2} (ho : OpR X (binaryOp op) r) (hk : R2Ok X r k) (ha : EV X a fa) (hb : EV X b fb) : EV X (.BinOp a op b pos) (dBin k fa fb) :=
  ev_bin2 hk ha hb fun h1 h2 => pe_op ho h1 h2
theorem ev_cmp {op : CmpOp} {r : R2} {k : K2} (ho : OpR X (compareOp op) r) (hk : R2Ok X r k) (ha : EV X a fa) (hb : EV X b fb) (hm : behindInMarks op b = false) : EV X (.Compare a [op] [b] pos) (dBin k fa fb) :=
  ev_bin2 hk ha hb fun h1 h2 => pe_cmpR ho h1 h2 hm
theorem ev_ix2 {r : R2} {k : K2} (hr : IxR X r) (hk : R2Ok X r k) (ha : EV X a fa) (hb : EV X b fb) (hs : PlainIx b) : EV X (.Subscript a b pos) (dBin k fa fb) :=
  ev_bin2 hk ha hb fun h1 h2 => pe_ix hr h1 h2 hs
/-- one-place -/
abbrev K1 := D → (D → Prop) → Prop
def dUn (k : K1) (fa : DE) : DE := fun δ P => fa δ fun x => k x.d fun d => P ⟨d, true, []⟩
structure R1Ok (X : Cx) (r : V → Hp → VK → Prop) (k : K1) : Prop where
  mono : ∀ d (Q Q' : D → Prop), (∀ x, Q x → Q' x) → k d Q → k d Q'
  ok : ∀ (H : Hp) (x : V) (d : D) (N : List Addr) (Q : D → Prop) (R : VK), Rp X.K H x d N → k d Q → (∀ v H', FR X.K H Q v H' → R v H') → r x H R
theorem ev_un {op : UnaryOp} {r : V → Hp → VK → Prop} {k : K1} (ho : UnR X (unaryOp op) r) (hk : R1Ok X r k) (ha : EV X a fa) : EV X (.UnaryOp op a pos) (dUn k fa) := by
  refine ⟨fun δ P P' h q => ha.mono _ _ _ (fun x q => hk.mono _ _ _ (fun d q => h _ q) q) q, fun H0 π => pei (pe_un ho (ha.pe H0 π)) fun σ H Q ⟨δ, ν, E, q⟩ => ?_⟩
  refine ⟨δ, ν, E, ha.mono _ _ _ (fun x q v H1 M s1 o1 => ?_) q⟩
  refine hk.ok H1 v x.d M _ _ o1.rp q fun u H3 ⟨d, M', s3, r3, n3, f3, q3⟩ => ?_
  exact q3 u H3 M' (s1.trans s3) (FR.vok s1 r3 n3 f3 E)
/-- a call of a built-in -/
abbrev KL := List D → (D → Prop) → Prop
structure RLOk (X : Cx) (r : List V → Hp → VK → Prop) (k : KL) : Prop where
  mono : ∀ ds (Q Q' : D → Prop), (∀ x, Q x → Q' x) → k ds Q → k ds Q'
  ok : ∀ (H : Hp) (xs : List V) (ds : List D) (N : List Addr) (Q : D → Prop) (R : VK), Rps X.K H xs ds N → k ds Q → (∀ v H', FR X.K H Q v H' → R v H') → r xs H R
def dCall (k : KL) (g : DA) : DE := fun δ P => g δ fun xs => k (xs.map Val.d) fun d => P ⟨d, true, []⟩
theorem ev_callG {e' : Expr} {r : List V → Hp → VK → Prop} {k : KL} (hk : RLOk X r k) (ha : EA X es g) (hp : ∀ {t : TA}, PA X es t → PE X e' (fun σ H Q => t σ H fun xs H1 => r xs H1 Q)) : EV X e' (dCall k g) := by
  refine ⟨fun δ P P' h q => ha.mono _ _ _ (fun x q => hk.mono _ _ _ (fun d q => h _ q) q) q, fun H0 π => pei (hp (ha.pa H0 π)) fun σ H Q ⟨δ, ν, E, q⟩ => ?_⟩
  refine ⟨δ, ν, E, ha.mono _ _ _ (fun xs q vs H1 Ms s1 o1 => ?_) q⟩
  refine hk.ok H1 vs _ _ _ _ o1.rps q fun u H3 ⟨d, M', s3, r3, n3, f3, q3⟩ => ?_
  exact q3 u H3 M' (s1.trans s3) (FR.vok s1 r3 n3 f3 E)
theorem ev_callB {id : String} {x : Str} {p : Pos} {r : List V → Hp → VK → Prop} {k : KL} (hc : CallR X (.builtin id) r) (hk : RLOk X r k) (hg : Gl X x) (hm : X.mg x = none) (hv : bootBuiltins x = some (.builtin id)) (ha : EA X (e :: es) g)
    (hn : x ≠ "__name__" := by decide) (hdb : (x == ("__debug__" : Str)) = false := by decide)
    (he : starEach (e :: es) X.env = (false, eval e X.env) :: starEach es X.env := by rfl) (hpl : (backTo pos (starEach es X.env)).any (·.1) = false := by rfl) : EV X (.Call (.Name x p) (e :: es) [] pos) (dCall k g) :=
  ev_callG hk ha fun h => pe_callB hc hg hm hv h hn hdb he hpl
theorem ev_callTy {T : String} {x : Str} {p : Pos} {r : List V → Hp → VK → Prop} {k : KL} (hc : CallR X (.type T) r) (hk : RLOk X r k) (hg : Gl X x) (hm : X.mg x = none) (hv : bootBuiltins x = some (.type T)) (ha : EA X (e :: es) g)
    (hn : x ≠ "__name__" := by decide) (hdb : (x == ("__debug__" : Str)) = false := by decide)
    (he : starEach (e :: es) X.env = (false, eval e X.env) :: starEach es X.env := by rfl) (hpl : (backTo pos (starEach es X.env)).any (·.1) = false := by rfl) : EV X (.Call (.Name x p) (e :: es) [] pos) (dCall k g) :=
  ev_callG hk ha fun h => pe_callTy hc hg hm hv h hn hdb he hpl

/-! ### a call of a def -/
abbrev W := List D → (D → Prop) → Prop
/-- a def's promise from its predicate over data; n: how many parameters -/
def spOf (K : PySem.W.Frag) (n : Nat) (w : W) : Sp := fun vs H Q _ => vs.length = n ∧ ∃ ds N, Rps K H vs ds N ∧ ∃ Qd, w ds Qd ∧ ∀ d, Qd d → ∀ v H' M, Same H H' → Rp K H' v d M → M.Nodup → (∀ a ∈ M, H a = none) → Q v H'
/-- what a call of such a def makes of its arguments -/
def wCall (n : Nat) (w : W) : KL := fun ds Q => ds.length = n ∧ ∃ Qd, w ds Qd ∧ ∀ d, Qd d → Q d
theorem rl_def {w : W} {n : Nat} {E : XK} : RLOk X (fun vs H Q => spOf X.K n w vs H Q E) (wCall n w) := by
  refine ⟨fun ds Q Q' h ⟨q1, Qd, q2, q3⟩ => ⟨q1, Qd, q2, fun d z => h _ (q3 d z)⟩, fun H xs ds N Q R r ⟨q1, Qd, q2, q3⟩ h => ?_⟩
  exact ⟨by rw [r.length]; exact q1, ds, N, r, Qd, q2, fun d z v H' M s r n f => h v H' ⟨d, M, s, r, n, f, q3 d z⟩⟩
/-- a def of the text that keeps such a promise, by its name -/
structure Cal (P : Program) (w : World) (K : PySem.W.Frag) (mg : Str → Option Value) (base : Heap) (x : Str) (k n : Nat) (wf : W) : Prop where
  ex : ∃ (f : Addr) (fd : FuncData) (ps : List Str), FnOk P w K mg base CX0 k f fd ps (spOf K n wf) ∧ mg x = some (.ref f) ∧ PySem.W.keepIn K (.ref f) = true ∧ Binds K fd ps []
theorem ev_callC {j k n : Nat} {wf : W} {x : Str} {p : Pos} (c : Cal X.prog X.w X.K X.mg X.base x k n wf) (hg : Gl X x) (hr : Room j X.A) (ha : EA X (e :: es) g) (hk : k ≤ j := by decide)
    (hdb : (x == ("__debug__" : Str)) = false := by decide) (he : starEach (e :: es) X.env = (false, eval e X.env) :: starEach es X.env := by rfl) (hpl : (backTo pos (starEach es X.env)).any (·.1) = false := by rfl) :
    EV X (.Call (.Name x p) (e :: es) [] pos) (dCall (wCall n wf) g) :=
  ev_callG (rl_def (X := X) (E := L2.E0)) ha fun {t} h => by
    obtain ⟨f, fd, ps, F, hm, kp, hb⟩ := c.ex
    have q := pe_call (p := p) (pos := pos) F (hr.mono hk) hg hm kp hb .nil L2.pass0 h hdb he hpl
    have e : tCall (spOf X.K n wf) [] L2.E0 t = fun σ H Q => t σ H fun xs H1 => spOf X.K n wf xs H1 Q L2.E0 := by
      funext σ H Q
      unfold tCall
      simp only [List.append_nil]
    rw [e] at q
    exact q
end
end KT
/-! KtC: the operations. -/
namespace KT
open PySem PySem.Spec PyProof.Rows L2

/-! ### what stands for what -/
section
variable {K : PySem.W.Frag} {H : Hp} {v : V} {N : List Addr}
theorem Rp.int_ {i : Int} (r : Rp K H v (.int i) N) : v = .int i := by cases r; rfl
theorem Rp.bool_ {b : Bool} (r : Rp K H v (.bool b) N) : v = .bl b := by cases r; rfl
theorem Rp.none_ (r : Rp K H v .none N) : v = .non := by cases r; rfl
theorem Rp.str_ {x : Str} (r : Rp K H v (.str x) N) : v = .str x := by cases r; rfl
theorem Rp.list_ {ds : List D} (r : Rp K H v (.list ds) N) : ∃ a xs M, v = .ref a ∧ N = a :: M ∧ H a = some (.lst xs) ∧ Rps K H xs ds M := by
  cases r with
  | lst h r => exact ⟨_, _, _, rfl, rfl, h, r⟩
theorem Rp.tuple_ {ds : List D} (r : Rp K H v (.tuple ds) N) : ∃ a xs, v = .ref a ∧ SqT K H a xs ∧ Rps K H xs ds N := by
  cases r with
  | tup h r => exact ⟨_, _, rfl, h, r⟩
theorem Rps.ints : ∀ {xs : List V} {ns : List Int} {N : List Addr}, Rps K H xs (ns.map PyData.int) N → xs = ns.map V.int
  | _, [], _, .nil => rfl
  | _, n :: ns, _, .cons r s => by rw [r.int_, s.ints]; rfl
theorem Rps.strs : ∀ {xs : List V} {ns : List Str} {N : List Addr}, Rps K H xs (ns.map PyData.str) N → xs = ns.map V.str
  | _, [], _, .nil => rfl
  | _, n :: ns, _, .cons r s => by rw [r.str_, s.strs]; rfl
theorem rps_ints (K : PySem.W.Frag) (H : Hp) : ∀ ns : List Int, Rps K H (ns.map V.int) (ns.map PyData.int) []
  | [] => .nil
  | n :: ns => by simpa using Rps.cons (.int n) (rps_ints K H ns)
theorem imm_ints : ∀ ns : List Int, immL (ns.map PyData.int) = true
  | [] => rfl
  | n :: ns => by simp [immL, KT.imm, imm_ints ns]
theorem FR.newL {Q : D → Prop} {p : Addr} {xs : List V} {ds : List D} (hp : H p = none) (r : Rps K H xs ds N) (i : immL ds = true) (q : Q (.list ds)) : FR K H Q (.ref p) (upd H p (.lst xs)) := by
  have e := r.imm i
  subst e
  exact ⟨.list ds, [p], Same.upd_new hp, .lst upd_same (r.same (Same.upd_new hp)), by simp, fun a ha => by rw [List.mem_singleton.mp ha]; exact hp, q⟩
theorem FR.newT {Q : D → Prop} {p : Addr} {xs : List V} {ds : List D} (hp : H p = none) (r : Rps K H xs ds N) (i : immL ds = true) (q : Q (.tuple ds)) : FR K H Q (.ref p) (upd H p (.tup xs)) := by
  have e := r.imm i
  subst e
  exact ⟨.tuple ds, [], Same.upd_new hp, .tup (.inl (.inl upd_same)) (r.same (Same.upd_new hp)), by simp, fun a ha => (nomatch ha), q⟩
theorem immL_of {ds : List D} : immL ds = true ↔ ∀ d ∈ ds, imm d = true := by
  induction ds with
  | nil => simp [immL]
  | cons d ds ih => simp [immL, ih]
theorem immL_append (xs ys : List D) : immL (xs ++ ys) = (immL xs && immL ys) := by
  induction xs with
  | nil => simp [immL]
  | cons x xs ih => simp [immL, ih, Bool.and_assoc]
end

section
variable {X : Cx}
theorem OpR.or {f : Value → Value → Sem Value} {r r' : R2} (h : OpR X f r) (h' : OpR X f r') : OpR X f (fun x y H Q => r x y H Q ∨ r' x y H Q) := by
  intro pins s σ H x y v u Q I rx ry q
  rcases q with q | q
  · exact h pins s σ H x y v u Q I rx ry q
  · exact h' pins s σ H x y v u Q I rx ry q

/-! ### + - * // % ** -/
def kAdd : K2 := fun d e Q => match d, e with
  | .int i, .int j => Q (.int (i + j))
  | .str x, .str y => x.length + y.length ≤ sizeLine ∧ Q (.str (x ++ y))
  | .list xs, .list ys => (immL xs = true ∧ immL ys = true ∧ xs.length + ys.length ≤ sizeLine) ∧ Q (.list (xs ++ ys))
  | .tuple xs, .tuple ys => (immL xs = true ∧ immL ys = true ∧ xs ≠ [] ∧ xs.length + ys.length ≤ sizeLine) ∧ Q (.tuple (xs ++ ys))
  | _, _ => False
def rAddG (K : PySem.W.Frag) : R2 := fun x y H Q => (rI0 fun i j => .int (i + j)) x y H Q ∨ ((∃ i j, x = .str i ∧ y = .str j ∧ i.length + j.length ≤ sizeLine ∧ Q (.str (i ++ j)) H) ∨ (rCat x y H Q ∨ rCatT K x y H Q))
theorem op_addG : OpR X (binaryOp .Add) (rAddG X.K) := op_add.or (op_add_str.or (op_cat.or op_catT))
theorem ok_add : R2Ok X (rAddG X.K) kAdd := by
  refine ⟨fun d e Q Q' h q => ?_, fun H x y d e N M Q R r1 r2 q h => ?_⟩
  · unfold kAdd at *
    split at q
    · exact h _ q
    · exact ⟨q.1, h _ q.2⟩
    · exact ⟨q.1, h _ q.2⟩
    · exact ⟨q.1, h _ q.2⟩
    · exact q.elim
  · unfold kAdd at q
    split at q
    · exact .inl ⟨_, _, r1.int_, r2.int_, h _ _ (FR.imm (.int _) rfl q)⟩
    · exact .inr (.inl ⟨_, _, r1.str_, r2.str_, q.1, h _ _ (FR.imm (.str _) rfl q.2)⟩)
    · obtain ⟨⟨i1, i2, hz⟩, q⟩ := q
      obtain ⟨a, xs, A, rfl, rfl, ha, s1⟩ := r1.list_
      obtain ⟨b, ys, B, rfl, rfl, hb, s2⟩ := r2.list_
      refine .inr (.inr (.inl ⟨a, b, xs, ys, rfl, rfl, ha, hb, by rw [s1.length, s2.length]; exact hz, fun p hp => h _ _ (FR.newL hp (s1.append s2) ?_ q)⟩))
      rw [immL_append, i1, i2]; rfl
    · obtain ⟨⟨i1, i2, ne, hz⟩, q⟩ := q
      obtain ⟨a, xs, rfl, ha, s1⟩ := r1.tuple_
      obtain ⟨b, ys, rfl, hb, s2⟩ := r2.tuple_
      refine .inr (.inr (.inr ⟨a, b, xs, ys, rfl, rfl, ha, hb, fun e => ne ?_, by rw [s1.length, s2.length]; exact hz, fun e => ?_, fun _ p hp => h _ _ (FR.newT hp (s1.append s2) ?_ q)⟩))
      · have := s1.length
        rw [e] at this
        exact List.length_eq_zero_iff.mp this.symm
      · subst e
        cases s2
        rw [List.append_nil] at q
        have ei := s1.imm i1
        subst ei
        exact h _ _ ⟨_, [], Same.refl H, .tup ha s1, List.nodup_nil, fun _ z => (nomatch z), q⟩
      · rw [immL_append, i1, i2]; rfl
    · exact q.elim
/-- ints alone, under a condition -/
def kII (C : Int → Int → Prop) (g : Int → Int → D) : K2 := fun d e Q => match d, e with
  | .int i, .int j => C i j ∧ Q (g i j)
  | _, _ => False
theorem ok_II {C : Int → Int → Prop} {g : Int → Int → V} {g' : Int → Int → D} (hg : ∀ K H i j, Rp K H (g i j) (g' i j) []) (hi : ∀ i j, imm (g' i j) = true) : R2Ok X (rI C g) (kII C g') := by
  refine ⟨fun d e Q Q' h q => ?_, fun H x y d e N M Q R r1 r2 q h => ?_⟩
  · unfold kII at *
    split at q
    · exact ⟨q.1, h _ q.2⟩
    · exact q.elim
  · unfold kII at q
    split at q
    · exact ⟨_, _, r1.int_, r2.int_, q.1, h _ _ (FR.imm (hg _ _ _ _) (hi _ _) q.2)⟩
    · exact q.elim
def kI0 (g : Int → Int → D) : K2 := fun d e Q => match d, e with
  | .int i, .int j => Q (g i j)
  | _, _ => False
theorem ok_I0 {g : Int → Int → V} {g' : Int → Int → D} (hg : ∀ K H i j, Rp K H (g i j) (g' i j) []) (hi : ∀ i j, imm (g' i j) = true) : R2Ok X (rI0 g) (kI0 g') := by
  refine ⟨fun d e Q Q' h q => ?_, fun H x y d e N M Q R r1 r2 q h => ?_⟩
  · unfold kI0 at *
    split at q
    · exact h _ q
    · exact q.elim
  · unfold kI0 at q
    split at q
    · exact ⟨_, _, r1.int_, r2.int_, h _ _ (FR.imm (hg _ _ _ _) (hi _ _) q)⟩
    · exact q.elim
def kSub : K2 := kI0 fun i j => .int (i - j)
theorem ok_sub : R2Ok X (rI0 fun i j => .int (i - j)) kSub := ok_I0 (fun _ _ _ _ => .int _) fun _ _ => rfl
/-- the size of a product is known -/
def MulOk (i j : Int) : Prop := CMul i j ∨ CMulW i j
def DivOk (_ j : Int) : Prop := 0 < j ∧ j.natAbs.log2 < 9000
def ModOk (_ j : Int) : Prop := 0 < j
def kMul : K2 := fun d e Q => match d, e with
  | .int i, .int j => MulOk i j ∧ Q (.int (i * j))
  | .list xs, .int k => (immL xs = true ∧ -(2 ^ 63) ≤ k ∧ k < 2 ^ 63 ∧ xs.length * k.toNat ≤ sizeLine) ∧ Q (.list (List.replicate k.toNat xs).flatten)
  | _, _ => False
def rMulG : R2 := fun x y H Q => rI CMul (fun i j => .int (i * j)) x y H Q ∨ (rI CMulW (fun i j => .int (i * j)) x y H Q ∨ rRep x y H Q)
theorem op_mulG : OpR X (binaryOp .Mult) rMulG := op_mul.or (op_mulW.or op_rep)
theorem Rps.rep {K : PySem.W.Frag} {H : Hp} {xs : List V} {ds : List D} (r : Rps K H xs ds []) : ∀ k : Nat, Rps K H (List.replicate k xs).flatten (List.replicate k ds).flatten []
  | 0 => .nil
  | k + 1 => by
    rw [List.replicate_succ, List.replicate_succ, List.flatten_cons, List.flatten_cons]
    simpa using r.append (Rps.rep r k)
theorem immL_rep {ds : List D} (h : immL ds = true) : ∀ k : Nat, immL (List.replicate k ds).flatten = true
  | 0 => rfl
  | k + 1 => by rw [List.replicate_succ, List.flatten_cons, immL_append, h, immL_rep h k]; rfl
theorem ok_mul : R2Ok X rMulG kMul := by
  refine ⟨fun d e Q Q' h q => ?_, fun H x y d e N M Q R r1 r2 q h => ?_⟩
  · unfold kMul at *
    split at q
    · exact ⟨q.1, h _ q.2⟩
    · exact ⟨q.1, h _ q.2⟩
    · exact q.elim
  · unfold kMul at q
    split at q
    · rcases q with ⟨c | c, q⟩
      · exact .inl ⟨_, _, r1.int_, r2.int_, c, h _ _ (FR.imm (.int _) rfl q)⟩
      · exact .inr (.inl ⟨_, _, r1.int_, r2.int_, c, h _ _ (FR.imm (.int _) rfl q)⟩)
    · obtain ⟨⟨i1, k1, k2, hz⟩, q⟩ := q
      obtain ⟨a, xs, A, rfl, rfl, ha, s1⟩ := r1.list_
      have ei := s1.imm i1
      subst ei
      exact .inr (.inr ⟨a, _, xs, rfl, r2.int_, ha, k1, k2, by rw [s1.length]; exact hz, fun p hp => h _ _ (FR.newL hp (s1.rep _) (immL_rep i1 _) q)⟩)
    · exact q.elim
def kDiv : K2 := kII DivOk fun i j => .int (i / j)
theorem ok_div : R2Ok X (rI CDivW fun i j => .int (i / j)) kDiv := ok_II (fun _ _ _ _ => .int _) fun _ _ => rfl
def kMod : K2 := kII ModOk fun i j => .int (i % j)
theorem ok_mod : R2Ok X (rI (fun _ j => 0 < j) fun i j => .int (i % j)) kMod := ok_II (fun _ _ _ _ => .int _) fun _ _ => rfl
def PowOk (i j : Int) : Prop := 0 ≤ j ∧ j ≤ 1000000 ∧ i.natAbs < 2 ^ 64
def kPow : K2 := kII PowOk fun i j => .int (i ^ j.toNat)
theorem ok_pow : R2Ok X (rI CPow fun i j => .int (i ^ j.toNat)) kPow := ok_II (fun _ _ _ _ => .int _) fun _ _ => rfl
/-! ### comparisons -/
def kLt : K2 := kI0 fun i j => .bool (decide (i < j))
def kLe : K2 := kI0 fun i j => .bool (decide (i ≤ j))
def kGt : K2 := kI0 fun i j => .bool (decide (j < i))
def kGe : K2 := kI0 fun i j => .bool (decide (j ≤ i))
theorem ok_lt : R2Ok X (rI0 fun i j => .bl (decide (i < j))) kLt := ok_I0 (fun _ _ _ _ => .bl _) fun _ _ => rfl
theorem ok_le : R2Ok X (rI0 fun i j => .bl (decide (i ≤ j))) kLe := ok_I0 (fun _ _ _ _ => .bl _) fun _ _ => rfl
theorem ok_gt : R2Ok X (rI0 fun i j => .bl (decide (j < i))) kGt := ok_I0 (fun _ _ _ _ => .bl _) fun _ _ => rfl
theorem ok_ge : R2Ok X (rI0 fun i j => .bl (decide (j ≤ i))) kGe := ok_I0 (fun _ _ _ _ => .bl _) fun _ _ => rfl
mutual
theorem Rp.dp {K : PySem.W.Frag} {H : Hp} {v : V} {d : D} {N : List Addr} : Rp K H v d N → SeqAt.shaped d = true → Dp K H v d
  | .non, _ => .non
  | .bl c, _ => .bl c
  | .int i, _ => .int i
  | .str x, _ => .str x
  | .lst h r, s => .lst (SqL.of h) (Rps.dp r (by
    have := SeqAt.canLay_of_shaped s
    simpa [PyData.canLay0] using this))
  | .tup h r, s => .tup h (Rps.dp r (by
    have := SeqAt.canLay_of_shaped s
    simpa [PyData.canLay0] using this))
  | .scr _, s => by
    have := SeqAt.canLay_of_shaped s
    simp [PyData.canLay0] at this
theorem Rps.dp {K : PySem.W.Frag} {H : Hp} {vs : List V} {ds : List D} {N : List Addr} : Rps K H vs ds N → PyData.canLayAll0 ds = true → DpAll K H vs ds
  | .nil, _ => .nil
  | .cons (d := d) (ds := ds) r s, h => by
    have h' : d.canLay0 = true ∧ PyData.canLayAll0 ds = true := by simpa [PyData.canLayAll0] using h
    exact .cons (Rp.dpC r h'.1) (Rps.dp s h'.2)
theorem Rp.dpC {K : PySem.W.Frag} {H : Hp} {v : V} {d : D} {N : List Addr} : Rp K H v d N → d.canLay0 = true → Dp K H v d
  | .non, _ => .non
  | .bl c, _ => .bl c
  | .int i, _ => .int i
  | .str x, _ => .str x
  | .lst h r, s => .lst (SqL.of h) (Rps.dp r (by simpa [PyData.canLay0] using s))
  | .tup h r, s => .tup h (Rps.dp r (by simpa [PyData.canLay0] using s))
  | .scr _, s => by simp [PyData.canLay0] at s
end
def ng (neg b : Bool) : Bool := match neg with
  | true => !b
  | false => b
@[simp] theorem ng_t (b : Bool) : ng true b = !b := rfl
@[simp] theorem ng_f (b : Bool) : ng false b = b := rfl
theorem ng_if (neg b : Bool) : (if neg then !b else b) = ng neg b := by cases neg <;> rfl
def kEqB (neg : Bool) : K2 := fun d e Q => match d, e with
  | .int i, .int j => Q (.bool (ng neg (decide (i = j))))
  | .str i, .str j => Q (.bool (ng neg (decide (i = j))))
  | d, e => (SeqAt.shaped d = true ∧ SeqAt.shaped e = true) ∧ Q (.bool (ng neg (PyData.eqv d e)))
abbrev kEq : K2 := kEqB false
abbrev kNe : K2 := kEqB true
theorem mono_eqB (neg : Bool) : ∀ d e (Q Q' : D → Prop), (∀ x, Q x → Q' x) → kEqB neg d e Q → kEqB neg d e Q' := fun d e Q Q' h q => by
  unfold kEqB at *
  split at q
  · exact h _ q
  · exact h _ q
  · exact ⟨q.1, h _ q.2⟩
theorem op_eqG (hu : X.A.units + 64 < cLine) : OpR X (compareOp .Eq) (fun x y H Q => rEq x y H Q ∨ rEqD X.K x y H Q) := op_eq.or (op_eqD hu)
theorem op_neG (hu : X.A.units + 64 < cLine) : OpR X (compareOp .NotEq) (fun x y H Q => rNe x y H Q ∨ rNeD X.K x y H Q) := op_ne.or (op_neD hu)
theorem ok_eq : R2Ok X (fun x y H Q => rEq x y H Q ∨ rEqD X.K x y H Q) kEq := by
  refine ⟨mono_eqB _, fun H x y d e N M Q R r1 r2 q h => ?_⟩
  unfold kEq kEqB at q
  split at q
  · rw [r1.int_, r2.int_]
    refine .inl ⟨rfl, h _ _ (FR.imm (.bl _) rfl ?_)⟩
    rw [show ∀ i j : Int, decide (V.int i = V.int j) = decide (i = j) from fun i j => by simp]
    exact q
  · rw [r1.str_, r2.str_]
    refine .inl ⟨rfl, h _ _ (FR.imm (.bl _) rfl ?_)⟩
    rw [show ∀ i j : Str, decide (V.str i = V.str j) = decide (i = j) from fun i j => by simp]
    exact q
  · exact .inr ⟨_, _, r1.dp q.1.1, r2.dp q.1.2, q.1.1, q.1.2, h _ _ (FR.imm (.bl _) rfl q.2)⟩
theorem ok_ne : R2Ok X (fun x y H Q => rNe x y H Q ∨ rNeD X.K x y H Q) kNe := by
  refine ⟨mono_eqB _, fun H x y d e N M Q R r1 r2 q h => ?_⟩
  unfold kNe kEqB at q
  split at q
  · rw [r1.int_, r2.int_]
    refine .inl ⟨rfl, h _ _ (FR.imm (.bl _) rfl ?_)⟩
    rw [show ∀ i j : Int, decide (V.int i = V.int j) = decide (i = j) from fun i j => by simp]
    exact q
  · rw [r1.str_, r2.str_]
    refine .inl ⟨rfl, h _ _ (FR.imm (.bl _) rfl ?_)⟩
    rw [show ∀ i j : Str, decide (V.str i = V.str j) = decide (i = j) from fun i j => by simp]
    exact q
  · exact .inr ⟨_, _, r1.dp q.1.1, r2.dp q.1.2, q.1.1, q.1.2, h _ _ (FR.imm (.bl _) rfl q.2)⟩
/-- in, not in, over flat things -/
def flatD : D → Bool
  | .none => true
  | .bool _ => true
  | .int _ => true
  | .str _ => true
  | _ => false
theorem flat_rp {K : PySem.W.Frag} {H : Hp} {v : V} {d : D} {N : List Addr} (r : Rp K H v d N) (f : flatD d = true) : flatV v = true ∧ ∀ {w e M}, Rp K H w e M → flatD e = true → eqV v w = PyData.eqv d e := by
  cases r <;> simp only [flatD] at f <;> first | exact absurd f (by decide) | skip
  all_goals refine ⟨rfl, fun {w e M} r2 f2 => ?_⟩
  all_goals cases r2 <;> simp only [flatD] at f2 <;> first | exact absurd f2 (by decide) | rfl
theorem flat_rps {K : PySem.W.Frag} {H : Hp} {v : V} {d : D} {N : List Addr} (r : Rp K H v d N) (f : flatD d = true) : ∀ {xs : List V} {ds : List D} {M : List Addr}, Rps K H xs ds M → ds.all flatD = true → xs.all flatV = true ∧ inV v xs = ds.any fun e => PyData.eqv e d
  | _, _, _, .nil, _ => ⟨rfl, rfl⟩
  | _, _, _, .cons (d := e) (ds := es) r1 s, h => by
    have h' : flatD e = true ∧ es.all flatD = true := by rw [List.all_cons, Bool.and_eq_true] at h; exact h
    obtain ⟨a, b⟩ := flat_rps r f s h'.2
    obtain ⟨c, g⟩ := flat_rp r1 h'.1
    refine ⟨by rw [List.all_cons, c, a]; rfl, ?_⟩
    show (eqV _ v || inV v _) = _
    rw [b, List.any_cons, g r f]
def kInB (neg : Bool) : K2 := fun d e Q => match e with
  | .list ds => (flatD d = true ∧ ds.all flatD = true) ∧ Q (.bool (ng neg (ds.any fun e => PyData.eqv e d)))
  | .tuple ds => (flatD d = true ∧ ds.all flatD = true) ∧ Q (.bool (ng neg (ds.any fun e => PyData.eqv e d)))
  | _ => False
abbrev kIn : K2 := kInB false
abbrev kNotIn : K2 := kInB true
theorem ok_inB (neg : Bool) : R2Ok X (rIn X.K neg) (kInB neg) := by
  refine ⟨fun d e Q Q' h q => ?_, fun H x y d e N M Q R r1 r2 q h => ?_⟩
  · unfold kInB at *
    split at q
    · exact ⟨q.1, h _ q.2⟩
    · exact ⟨q.1, h _ q.2⟩
    · exact q.elim
  · unfold kInB at q
    split at q
    · obtain ⟨⟨f1, f2⟩, q⟩ := q
      obtain ⟨a, xs, A, rfl, rfl, ha, s⟩ := r2.list_
      obtain ⟨g1, g2⟩ := flat_rps r1 f1 s f2
      refine ⟨a, xs, rfl, .inl (SqL.of ha), (flat_rp r1 f1).1, g1, h _ _ (FR.imm (.bl _) rfl ?_)⟩
      rw [g2, ng_if]; exact q
    · obtain ⟨⟨f1, f2⟩, q⟩ := q
      obtain ⟨a, xs, rfl, ha, s⟩ := r2.tuple_
      obtain ⟨g1, g2⟩ := flat_rps r1 f1 s f2
      refine ⟨a, xs, rfl, .inr ha, (flat_rp r1 f1).1, g1, h _ _ (FR.imm (.bl _) rfl ?_)⟩
      rw [g2, ng_if]; exact q
    · exact q.elim

/-! ### - not, is None, and, or -/
def kNeg : K1 := fun d Q => match d with
  | .int i => Q (.int (-i))
  | _ => False
theorem ok_neg : R1Ok X (rU fun i => .int (-i)) kNeg := by
  refine ⟨fun d Q Q' h q => ?_, fun H x d N Q R r q h => ?_⟩
  · unfold kNeg at *; split at q
    · exact h _ q
    · exact q.elim
  · unfold kNeg at q; split at q
    · exact ⟨_, r.int_, h _ _ (FR.imm (.int _) rfl q)⟩
    · exact q.elim
variable {a b e : Expr} {es : List Expr} {fa fb f : DE} {g : DA} {pos : Pos}
theorem ev_un1 {e : Expr} {r : V → Hp → VK → Prop} {k : K1} (hk : R1Ok X r k) (ha : EV X a fa) (hp : ∀ {ta : TE}, PE X a ta → PE X e (tUn r ta)) : EV X e (dUn k fa) := by
  refine ⟨fun δ P P' h q => ha.mono _ _ _ (fun x q => hk.mono _ _ _ (fun d q => h _ q) q) q, fun H0 π => pei (hp (ha.pe H0 π)) fun σ H Q ⟨δ, ν, E, q⟩ => ?_⟩
  refine ⟨δ, ν, E, ha.mono _ _ _ (fun x q v H1 M s1 o1 => ?_) q⟩
  refine hk.ok H1 v x.d M _ _ o1.rp q fun u H3 ⟨d, M', s3, r3, n3, f3, q3⟩ => ?_
  exact q3 u H3 M' (s1.trans s3) (FR.vok s1 r3 n3 f3 E)
def kNot : K1 := fun d Q => match d with
  | .bool b => Q (.bool (!b))
  | _ => False
theorem ok_not : R1Ok X (fun x H Q => ∃ c, x = .bl c ∧ Q (.bl (!c)) H) kNot := by
  refine ⟨fun d Q Q' h q => ?_, fun H x d N Q R r q h => ?_⟩
  · unfold kNot at *; split at q
    · exact h _ q
    · exact q.elim
  · unfold kNot at q; split at q
    · exact ⟨_, r.bool_, h _ _ (FR.imm (.bl _) rfl q)⟩
    · exact q.elim
theorem ev_not (ha : EV X a fa) : EV X (.UnaryOp .Not a pos) (dUn kNot fa) := ev_un1 ok_not ha fun h => pe_not h
theorem Rp.non_iff {K : PySem.W.Frag} {H : Hp} {v : V} {d : D} {N : List Addr} (r : Rp K H v d N) : decide (v = .non) = (match d with | .none => true | _ => false) := by
  cases r <;> simp
def isNone : D → Bool
  | .none => true
  | _ => false
def kIsN (neg : Bool) : K1 := fun d Q => Q (.bool (ng neg (isNone d)))
theorem Rp.isNone {K : PySem.W.Frag} {H : Hp} {v : V} {d : D} {N : List Addr} (r : Rp K H v d N) : decide (v = .non) = KT.isNone d := by
  cases r <;> simp [KT.isNone]
theorem ok_isN : R1Ok X (fun x H Q => Q (.bl (decide (x = .non))) H) (kIsN false) := by
  refine ⟨fun d Q Q' h q => h _ q, fun H x d N Q R r q h => ?_⟩
  refine h _ _ (FR.imm (.bl _) rfl ?_)
  rw [r.isNone]; exact q
theorem ok_notN : R1Ok X (fun x H Q => Q (.bl (!decide (x = .non))) H) (kIsN true) := by
  refine ⟨fun d Q Q' h q => h _ q, fun H x d N Q R r q h => ?_⟩
  refine h _ _ (FR.imm (.bl _) rfl ?_)
  rw [r.isNone]; exact q
theorem ev_isN {j pos'} (ha : EV X a fa) : EV X (.Compare a [.Is] [.Constant .none j pos'] pos) (dUn (kIsN false) fa) := ev_un1 ok_isN ha fun h => pe_cmp (pc_isN h)
theorem ev_notN {j pos'} (ha : EV X a fa) : EV X (.Compare a [.IsNot] [.Constant .none j pos'] pos) (dUn (kIsN true) fa) := ev_un1 ok_notN ha fun h => pe_cmp (pc_notN h)

def dAnd (fa fb : DE) : DE := fun δ P => fa δ fun x => match x.d with
  | .bool b => (match b with
    | true => fb δ P
    | false => P ⟨.bool false, true, []⟩)
  | _ => False
def dOr (fa fb : DE) : DE := fun δ P => fa δ fun x => match x.d with
  | .bool b => (match b with
    | true => P ⟨.bool true, true, []⟩
    | false => fb δ P)
  | _ => False
theorem vok_bool {K : PySem.W.Frag} {H H' : Hp} {δ : En} {ν : Nu} {b : Bool} : VOk K H δ ν H' (.bl b) ⟨.bool b, true, []⟩ [] :=
  ⟨.bl _, fun _ => List.nodup_nil, fun _ _ h => (nomatch h), fun _ _ _ _ _ _ _ h => (nomatch h)⟩
theorem ev_one {op} (ha : EV X a fa) : EV X (.BoolOp op [a] pos) fa := ⟨ha.mono, fun H0 π => pe_one (ha.pe H0 π)⟩
theorem ev_and {rest : List Expr} (ha : EV X a fa) (hb : EV X (.BoolOp .And (b :: rest) pos) fb) : EV X (.BoolOp .And (a :: b :: rest) pos) (dAnd fa fb) := by
  refine ⟨fun δ P P' h q => ha.mono _ _ _ (fun x q => ?_) q, fun H0 π => pei (pe_and (ha.pe H0 π) (hb.pe H0 π)) fun σ H Q ⟨δ, ν, E, q⟩ => ?_⟩
  · cases hx : x.d <;> rw [hx] at q <;> first | exact q.elim | skip
    rename_i c
    cases c
    · exact h _ q
    · exact hb.mono _ _ _ h q
  · refine ⟨δ, ν, E, ha.mono _ _ _ (fun x q v H1 M s1 o1 => ?_) q⟩
    have r := o1.rp
    cases hx : x.d <;> rw [hx] at q r <;> first | exact q.elim | skip
    rename_i c
    cases c
    · exact ⟨false, r.bool_, q _ _ _ s1 vok_bool⟩
    · exact ⟨true, r.bool_, ⟨δ, ν, E.same s1, hb.mono _ _ _ (fun y q w H2 N s2 o2 => q w H2 N (s1.trans s2) (o2.back s1)) q⟩⟩
theorem ev_or {rest : List Expr} (ha : EV X a fa) (hb : EV X (.BoolOp .Or (b :: rest) pos) fb) : EV X (.BoolOp .Or (a :: b :: rest) pos) (dOr fa fb) := by
  refine ⟨fun δ P P' h q => ha.mono _ _ _ (fun x q => ?_) q, fun H0 π => pei (pe_or (ha.pe H0 π) (hb.pe H0 π)) fun σ H Q ⟨δ, ν, E, q⟩ => ?_⟩
  · cases hx : x.d <;> rw [hx] at q <;> first | exact q.elim | skip
    rename_i c
    cases c
    · exact hb.mono _ _ _ h q
    · exact h _ q
  · refine ⟨δ, ν, E, ha.mono _ _ _ (fun x q v H1 M s1 o1 => ?_) q⟩
    have r := o1.rp
    cases hx : x.d <;> rw [hx] at q r <;> first | exact q.elim | skip
    rename_i c
    cases c
    · exact ⟨false, r.bool_, ⟨δ, ν, E.same s1, hb.mono _ _ _ (fun y q w H2 N s2 o2 => q w H2 N (s1.trans s2) (o2.back s1)) q⟩⟩
    · exact ⟨true, r.bool_, q _ _ _ s1 vok_bool⟩

/-! ### tests -/
abbrev DT := En → (Bool → Prop) → Prop
def semT (K : PySem.W.Frag) (H0 : Hp) (π : Nat → Option V) (f : DT) : TT := fun σ H Q => ∃ δ ν, EnvOk K H0 π H σ δ ν ∧ f δ fun b => ∀ H', Same H H' → Q b H'
structure ET (X : Cx) (e : Expr) (f : DT) : Prop where
  mono : ∀ δ (P P' : Bool → Prop), (∀ x, P x → P' x) → f δ P → f δ P'
  pt : ∀ H0 π, PT X e (semT X.K H0 π f)
structure EW (X : Cx) (e : Expr) (f : DT) : Prop where
  mono : ∀ δ (P P' : Bool → Prop), (∀ x, P x → P' x) → f δ P → f δ P'
  pw : ∀ H0 π, PW X e (semT X.K H0 π f)
theorem EW.et {f : DT} (h : EW X e f) : ET X e f := ⟨h.mono, fun H0 π => (h.pw H0 π).pt⟩
def dTst (f : DE) : DT := fun δ P => f δ fun x => match x.d with
  | .bool b => P b
  | _ => False
theorem tst_mono (h : ∀ δ (P P' : Val → Prop), (∀ x, P x → P' x) → f δ P → f δ P') : ∀ δ (P P' : Bool → Prop), (∀ x, P x → P' x) → dTst f δ P → dTst f δ P' := fun δ P P' i q => h _ _ _ (fun x q => by
  revert q; split
  · exact i _
  · exact id) q
/-- what a value's reading gives a test -/
theorem tst_sem {K : PySem.W.Frag} {H0 : Hp} {π : Nat → Option V} {σ : L2.St} {H : Hp} {Q : Bool → Hp → Prop} (hm : ∀ δ (P P' : Val → Prop), (∀ x, P x → P' x) → f δ P → f δ P') (h : semT K H0 π (dTst f) σ H Q) :
    semE K H0 π f σ H fun x H' => ∃ k, x = .bl k ∧ Q k H' := by
  obtain ⟨δ, ν, E, q⟩ := h
  refine ⟨δ, ν, E, hm _ _ _ (fun x q v H1 M s1 o1 => ?_) q⟩
  have r := o1.rp
  revert q; split
  · rename_i b e; intro q
    rw [e] at r
    exact ⟨b, r.bool_, q _ s1⟩
  · exact False.elim
theorem et_val (h : EV X e f) (he : ∀ whole, isTrue e X.env whole = (do let v ← whole; standAt e.pos; holding [v] (truthy v)) := by intro _; rfl) : ET X e (dTst f) :=
  ⟨tst_mono h.mono, fun H0 π => pti (pt_val (h.pe H0 π) he) fun σ H Q q => tst_sem h.mono q⟩
theorem et_bin2 {e : Expr} {r : R2} {k : K2} (hk : R2Ok X r k) (ha : EV X a fa) (hb : EV X b fb) (hp : ∀ {ta tb : TE}, PE X a ta → PE X b tb → PT X e (tTest (tOp r ta tb))) : ET X e (dTst (dBin k fa fb)) := by
  have hm : ∀ δ (P P' : Val → Prop), (∀ x, P x → P' x) → dBin k fa fb δ P → dBin k fa fb δ P' := fun δ P P' h q => ha.mono _ _ _ (fun x q => hb.mono _ _ _ (fun y q => hk.mono _ _ _ _ (fun d q => h _ q) q) q) q
  refine ⟨tst_mono hm, fun H0 π => pti (hp (ha.pe H0 π) (hb.pe H0 π)) fun σ H Q h => ?_⟩
  obtain ⟨δ, ν, E, q⟩ := tst_sem hm h
  refine ⟨δ, ν, E, ha.mono _ _ _ (fun x q v H1 M s1 o1 => ?_) q⟩
  refine ⟨δ, ν, E.same s1, hb.mono _ _ _ (fun y q w H2 N s2 o2 => ?_) q⟩
  refine hk.ok H2 v w x.d y.d M N _ _ (o1.rp.same s2) o2.rp q fun u H3 ⟨d, M', s3, r3, n3, f3, q3⟩ => ?_
  exact q3 u H3 M' ((s1.trans s2).trans s3) (FR.vok (s1.trans s2) r3 n3 f3 E)
theorem et_cmp {op : CmpOp} {r : R2} {k : K2} (ho : OpR X (compareOp op) r) (hk : R2Ok X r k) (ha : EV X a fa) (hb : EV X b fb) (hm : behindInMarks op b = false) : ET X (.Compare a [op] [b] pos) (dTst (dBin k fa fb)) :=
  et_bin2 hk ha hb fun h1 h2 => pt_cmpR ho h1 h2 hm
theorem et_un1 {e : Expr} {r : V → Hp → VK → Prop} {k : K1} (hk : R1Ok X r k) (ha : EV X a fa) (hp : ∀ {ta : TE}, PE X a ta → PT X e (tB (tUn r ta))) : ET X e (dTst (dUn k fa)) := by
  have hm : ∀ δ (P P' : Val → Prop), (∀ x, P x → P' x) → dUn k fa δ P → dUn k fa δ P' := fun δ P P' h q => ha.mono _ _ _ (fun x q => hk.mono _ _ _ (fun d q => h _ q) q) q
  refine ⟨tst_mono hm, fun H0 π => pti (hp (ha.pe H0 π)) fun σ H Q h => ?_⟩
  obtain ⟨δ, ν, E, q⟩ := tst_sem hm h
  refine ⟨δ, ν, E, ha.mono _ _ _ (fun x q v H1 M s1 o1 => ?_) q⟩
  refine hk.ok H1 v x.d M _ _ o1.rp q fun u H3 ⟨d, M', s3, r3, n3, f3, q3⟩ => ?_
  exact q3 u H3 M' (s1.trans s3) (FR.vok s1 r3 n3 f3 E)
theorem et_isN {j pos'} (ha : EV X a fa) : ET X (.Compare a [.Is] [.Constant .none j pos'] pos) (dTst (dUn (kIsN false) fa)) := et_un1 ok_isN ha fun h => pt_cmp (pc_isN h)
theorem et_notN {j pos'} (ha : EV X a fa) : ET X (.Compare a [.IsNot] [.Constant .none j pos'] pos) (dTst (dUn (kIsN true) fa)) := et_un1 ok_notN ha fun h => pt_cmp (pc_notN h)
variable {ta tb t : DT} {rest : List Expr}
def dtAnd (ta tb : DT) : DT := fun δ P => ta δ fun c => match c with
  | true => tb δ P
  | false => P false
def dtOr (ta tb : DT) : DT := fun δ P => ta δ fun c => match c with
  | true => P true
  | false => tb δ P
def dtNot (ta : DT) : DT := fun δ P => ta δ fun c => P (!c)
theorem ew_and1 (ha : ET X a ta) : EW X (.BoolOp .And [a] pos) ta := ⟨ha.mono, fun H0 π => pw_and1 (ha.pt H0 π)⟩
theorem ew_or1 (ha : ET X a ta) : EW X (.BoolOp .Or [a] pos) ta := ⟨ha.mono, fun H0 π => pw_or1 (ha.pt H0 π)⟩
theorem pwi {X : Cx} {e : Expr} {t t' : TT} (h : PW X e t) (i : ∀ σ H Q, t' σ H Q → t σ H Q) : PW X e t' :=
  ⟨fun wh pins s σ H Q I q => h.run wh pins s σ H Q I (i σ H Q q)⟩
theorem ew_and (ha : ET X a ta) (hb : EW X (.BoolOp .And (b :: rest) pos) tb) : EW X (.BoolOp .And (a :: b :: rest) pos) (dtAnd ta tb) := by
  refine ⟨fun δ P P' h q => ha.mono _ _ _ (fun c q => ?_) q, fun H0 π => pwi (pw_and (ha.pt H0 π) (hb.pw H0 π)) fun σ H Q ⟨δ, ν, E, q⟩ => ?_⟩
  · cases c
    · exact h _ q
    · exact hb.mono _ _ _ h q
  · refine ⟨δ, ν, E, ha.mono _ _ _ (fun c q H1 s1 => ?_) q⟩
    cases c
    · exact q _ s1
    · exact ⟨δ, ν, E.same s1, hb.mono _ _ _ (fun b q H2 s2 => q _ (s1.trans s2)) q⟩
theorem ew_or (ha : ET X a ta) (hb : EW X (.BoolOp .Or (b :: rest) pos) tb) : EW X (.BoolOp .Or (a :: b :: rest) pos) (dtOr ta tb) := by
  refine ⟨fun δ P P' h q => ha.mono _ _ _ (fun c q => ?_) q, fun H0 π => pwi (pw_or (ha.pt H0 π) (hb.pw H0 π)) fun σ H Q ⟨δ, ν, E, q⟩ => ?_⟩
  · cases c
    · exact hb.mono _ _ _ h q
    · exact h _ q
  · refine ⟨δ, ν, E, ha.mono _ _ _ (fun c q H1 s1 => ?_) q⟩
    cases c
    · exact ⟨δ, ν, E.same s1, hb.mono _ _ _ (fun b q H2 s2 => q _ (s1.trans s2)) q⟩
    · exact q _ s1
theorem et_not (ha : ET X a ta) : ET X (.UnaryOp .Not a pos) (dtNot ta) :=
  ⟨fun δ P P' h q => ha.mono _ _ _ (fun c q => h _ q) q, fun H0 π => pti (pt_not (ha.pt H0 π)) fun σ H Q ⟨δ, ν, E, q⟩ => ⟨δ, ν, E, q⟩⟩
theorem ev_ifExp {c : Expr} (hc : ET X c t) (ha : EV X a fa) (hb : EV X b fb) : EV X (.IfExp c a b pos) (fun δ P => t δ fun k => match k with | true => fa δ P | false => fb δ P) := by
  refine ⟨fun δ P P' h q => hc.mono _ _ _ (fun c q => ?_) q, fun H0 π => pei (pe_ifExp (hc.pt H0 π) (ha.pe H0 π) (hb.pe H0 π)) fun σ H Q ⟨δ, ν, E, q⟩ => ?_⟩
  · cases c
    · exact hb.mono _ _ _ h q
    · exact ha.mono _ _ _ h q
  · refine ⟨δ, ν, E, hc.mono _ _ _ (fun c q H1 s1 => ?_) q⟩
    cases c
    · exact ⟨δ, ν, E.same s1, hb.mono _ _ _ (fun y q w H2 N s2 o2 => q w H2 N (s1.trans s2) (o2.back s1)) q⟩
    · exact ⟨δ, ν, E.same s1, ha.mono _ _ _ (fun y q w H2 N s2 o2 => q w H2 N (s1.trans s2) (o2.back s1)) q⟩
end
end KT
/-! KtD: items, slices, displays, built-ins. -/
namespace KT
open PySem PySem.Spec PyProof.Rows L2

section
variable {K : PySem.W.Frag} {H0 H H1 H' : Hp} {π : Nat → Option V} {σ : L2.St} {δ : En} {ν : Nu} {v : V} {x : Val} {M : List Addr}
/-- a part of a value -/
theorem VOk.part (q : VOk K H δ ν H' v x M) {w : V} {d : D} {L : List Addr} (r : Rp K H' w d L) (sub : L.Sublist M) : VOk K H δ ν H' w ⟨d, x.own, x.roots⟩ L :=
  ⟨r, fun o => (q.nd o).sublist sub, fun o a ha => q.fr o a (sub.subset ha), fun j s h o n a ha hm => q.al j s h o n a ha (sub.subset hm)⟩
/-- a new list of parts -/
theorem VOk.newL (E : EnvOk K H0 π H σ δ ν) (s0 : Same H H1) (q : VOk K H δ ν H1 v x M) {p : Addr} {xs : List V} {ds : List D} {L : List Addr} (hp : H1 p = none) (r : Rps K H1 xs ds L) (sub : L.Sublist M) :
    VOk K H δ ν (upd H1 p (.lst xs)) (.ref p) ⟨.list ds, x.own, x.roots⟩ (p :: L) := by
  have npm : ∀ a ∈ L, a ≠ p := fun a ha e => r.trk a ha (e ▸ hp)
  refine ⟨.lst upd_same (r.same (Same.upd_new hp)), fun o => List.nodup_cons.mpr ⟨fun h => npm p h rfl, (q.nd o).sublist sub⟩, fun o a ha => ?_, fun j s h o n a ha hm => ?_⟩
  · rcases List.mem_cons.mp ha with rfl | ha
    · exact .inl (s0.free hp)
    · exact q.fr o a (sub.subset ha)
  · rcases List.mem_cons.mp hm with rfl | hm
    · exact E.trk h a ha (s0.free hp)
    · exact q.al j s h o n a ha (sub.subset hm)
end

section
variable {X : Cx} {a b e : Expr} {es : List Expr} {fa fb f : DE} {g : DA} {pos : Pos}

/-! ### xs[i] -/
def kSubs (dx dy : D) (own : Bool) (roots : List Nat) (P : Val → Prop) : Prop := match dx, dy with
  | .list ds, .int i => ∃ d, atI ds i = some d ∧ P (nv ⟨d, own, roots⟩)
  | .tuple ds, .int i => ∃ d, atI ds i = some d ∧ P (nv ⟨d, own, roots⟩)
  | .str z, .int i => ∃ c, (z.length ≤ sizeLine ∧ atI z.cps.toList i = some c) ∧ P ⟨.str ⟨#[c]⟩, true, []⟩
  | _, _ => False
theorem mono_subs {dx dy : D} {own : Bool} {roots : List Nat} {P P' : Val → Prop} (h : ∀ x, P x → P' x) (q : kSubs dx dy own roots P) : kSubs dx dy own roots P' := by
  cases dx <;> cases dy <;> first | exact q.elim | (obtain ⟨d, a, b⟩ := q; exact ⟨d, a, h _ b⟩)
def dSub (fa fb : DE) : DE := fun δ P => fa δ fun x => fb δ fun y => kSubs x.d y.d x.own x.roots P
theorem Rps.at_ {K : PySem.W.Frag} {H : Hp} {xs : List V} {ds : List D} {N : List Addr} {i : Int} {d : D} (r : Rps K H xs ds N) (h : atI ds i = some d) : ∃ v L, atI xs i = some v ∧ L.Sublist N ∧ Rp K H v d L := by
  unfold atI at *
  rw [r.length]
  cases e : ixN ds.length i with
  | none => rw [e] at h; simp at h
  | some j =>
    rw [e] at h
    obtain ⟨v, A, M, B, h1, h2, h3⟩ := r.get (i := j) (d := d) (by simpa using h)
    refine ⟨v, M, by simpa using h1, ?_, h3⟩
    rw [h2]
    exact (List.sublist_append_right A M).trans (List.sublist_append_left (A ++ M) B)
theorem ev_sub (ha : EV X a fa) (hb : EV X b fb) (hs : PlainIx b) : EV X (.Subscript a b pos) (dSub fa fb) := by
  refine ⟨fun δ P P' h q => ha.mono _ _ _ (fun x q => hb.mono _ _ _ (fun y q => ?_) q) q, fun H0 π => pei (pe_ix ix_seq (ha.pe H0 π) (hb.pe H0 π) hs) fun σ H Q ⟨δ, ν, E, q⟩ => ?_⟩
  · exact mono_subs h q
  · refine ⟨δ, ν, E, ha.mono _ _ _ (fun x q v H1 M s1 o1 => ?_) q⟩
    refine ⟨δ, ν, E.same s1, hb.mono _ _ _ (fun y q w H2 N s2 o2 => ?_) q⟩
    have r1 := o1.rp.same s2
    have r2 := o2.rp
    unfold kSubs at q
    revert q; split
    · rename_i ds i ed ei
      rintro ⟨d, h1, q⟩
      rw [ei] at r2
      rw [ed] at r1
      obtain ⟨l, xs, A, rfl, rfl, hl, s⟩ := r1.list_
      obtain ⟨u, L, h2, h3, h4⟩ := s.at_ h1
      obtain ⟨M', o'⟩ := ((o1.same s2).part h4 (h3.trans (List.sublist_cons_self l A))).nv
      exact .inl ⟨l, xs, i, u, rfl, r2.int_, SqL.of hl, h2, q u H2 M' (s1.trans s2) o'⟩
    · rename_i ds i ed ei
      rintro ⟨d, h1, q⟩
      rw [ei] at r2
      rw [ed] at r1
      obtain ⟨l, xs, rfl, hl, s⟩ := r1.tuple_
      obtain ⟨u, L, h2, h3, h4⟩ := s.at_ h1
      obtain ⟨M', o'⟩ := ((o1.same s2).part h4 h3).nv
      exact .inr (.inl ⟨l, xs, i, u, rfl, r2.int_, hl, h2, q u H2 M' (s1.trans s2) o'⟩)
    · rename_i z i ed ei
      rintro ⟨c, ⟨hz, h1⟩, q⟩
      rw [ei] at r2
      rw [ed] at r1
      exact .inr (.inr ⟨z, i, c, r1.str_, r2.int_, hz, h1, q _ H2 [] (s1.trans s2) (VOk.imm (.str _) rfl)⟩)
    · exact False.elim

/-! ### xs[a:b] -/
def cutD (ds : List D) (lo hi : Option Int) : List D := (ds.drop (HT.sIx ds.length 0 lo)).take (HT.sIx ds.length ds.length hi - HT.sIx ds.length 0 lo)
abbrev DO := En → (Option Int → Prop) → Prop
def dNo : DO := fun _ P => P none
def dSo (f : DE) : DO := fun δ P => f δ fun x => match x.d with
  | .int i => P (some i)
  | _ => False
def semO (K : PySem.W.Frag) (H0 : Hp) (π : Nat → Option V) (f : DO) : TO := fun σ H Q => ∃ δ ν, EnvOk K H0 π H σ δ ν ∧ f δ fun b => ∀ H', Same H H' → Q b H'
structure EO (X : Cx) (e : Option Expr) (f : DO) : Prop where
  mono : ∀ δ (P P' : Option Int → Prop), (∀ x, P x → P' x) → f δ P → f δ P'
  po : ∀ H0 π, PO X e (semO X.K H0 π f)
theorem poi {X : Cx} {e : Option Expr} {t t' : TO} (h : PO X e t) (i : ∀ σ H Q, t' σ H Q → t σ H Q) : PO X e t' :=
  ⟨fun pins s σ H Q I q => h.run pins s σ H Q I (i σ H Q q)⟩
theorem eo_none : EO X none dNo := ⟨fun _ _ _ h q => h _ q, fun H0 π => poi po_none fun σ H Q ⟨δ, ν, E, q⟩ => q H (Same.refl H)⟩
theorem eo_some (h : EV X e f) : EO X (some e) (dSo f) := by
  refine ⟨fun δ P P' i q => h.mono _ _ _ (fun x q => ?_) q, fun H0 π => poi (po_some (h.pe H0 π)) fun σ H Q ⟨δ, ν, E, q⟩ => ?_⟩
  · revert q; split
    · exact i _
    · exact id
  · refine ⟨δ, ν, E, h.mono _ _ _ (fun x q v H1 M s1 o1 => ?_) q⟩
    have r := o1.rp
    revert q; split
    · rename_i i e; intro q
      rw [e] at r
      exact ⟨i, r.int_, q _ s1⟩
    · exact False.elim
/-- a list of such items: new and its own where they bear no list -/
def mkL (ds : List D) (own : Bool) (roots : List Nat) : Val := ⟨.list ds, (match immL ds with | true => true | false => own), (match immL ds with | true => [] | false => roots)⟩
def scrL : List (D × D) → Option (List D)
  | [] => some []
  | (.int n, .none) :: r => (scrL r).map (PyData.int n :: ·)
  | _ :: _ => none
def dSlice (fa : DE) (lo hi : DO) : DE := fun δ P => fa δ fun x => lo δ fun i => hi δ fun j => match x.d with
  | .list ds => P (mkL (cutD ds i j) x.own x.roots)
  | .str z => z.length ≤ sizeLine ∧ P ⟨.str (cutS z i j), true, []⟩
  | .tuple ds => (immL ds = true ∧ ¬ (HT.sIx ds.length 0 i = 0 ∧ HT.sIx ds.length ds.length j = ds.length)) ∧ P ⟨.tuple (cutD ds i j), true, []⟩
  | .dict kvs => ∃ ns : List Int, kvs = ns.map (fun n => (.int n, .none)) ∧ P ⟨.list (cutD (ns.map PyData.int) i j), true, []⟩
  | _ => False
theorem Rps.cut {K : PySem.W.Frag} {H : Hp} {xs : List V} {ds : List D} {N : List Addr} (r : Rps K H xs ds N) (lo hi : Option Int) : ∃ L, L.Sublist N ∧ Rps K H (cutV xs lo hi) (cutD ds lo hi) L := by
  unfold cutV cutD
  rw [r.length]
  obtain ⟨A, B, h1, h2, h3⟩ := r.take (HT.sIx ds.length 0 lo)
  obtain ⟨C, E, h4, h5, h6⟩ := h3.take (HT.sIx ds.length ds.length hi - HT.sIx ds.length 0 lo)
  refine ⟨C, ?_, h5⟩
  rw [h1, h4]
  exact (List.sublist_append_left C E).trans (List.sublist_append_right A (C ++ E))
theorem cutD_mem {ds : List D} {lo hi : Option Int} {d : D} (h : d ∈ cutD ds lo hi) : d ∈ ds := List.mem_of_mem_drop (List.mem_of_mem_take h)
theorem immL_cut {ds : List D} (h : immL ds = true) (lo hi : Option Int) : immL (cutD ds lo hi) = true := immL_of.mpr fun d hd => immL_of.mp h d (cutD_mem hd)
theorem sl_all {X : Cx} : SlR X (fun x lo hi H Q => rSlL X.K x lo hi H Q ∨ (rSlS x lo hi H Q ∨ rSlT X.K x lo hi H Q)) := sl_list.or (sl_str.or sl_tup)
theorem script_inj {ns ms : List Int} (h : (ns.map fun n => ((PyData.int n : D), (PyData.none : D))) = ms.map fun n => (PyData.int n, PyData.none)) : ns = ms := by
  induction ns generalizing ms with
  | nil => cases ms with
    | nil => rfl
    | cons _ _ => simp at h
  | cons n ns ih => cases ms with
    | nil => simp at h
    | cons m ms =>
      simp only [List.map_cons, List.cons.injEq, Prod.mk.injEq, PyData.int.injEq, and_true] at h
      rw [h.1, ih h.2]
theorem ev_slice {lo hi : Option Expr} {fl fh : DO} {p2 : Pos} (ha : EV X a fa) (hl : EO X lo fl) (hh : EO X hi fh) : EV X (.Subscript a (.Slice lo hi none p2) pos) (dSlice fa fl fh) := by
  refine ⟨fun δ P P' h q => ha.mono _ _ _ (fun x q => hl.mono _ _ _ (fun i q => hh.mono _ _ _ (fun j q => ?_) q) q) q, fun H0 π => pei (pe_slice sl_all (ha.pe H0 π) (hl.po H0 π) (hh.po H0 π)) fun σ H Q ⟨δ, ν, E, q⟩ => ?_⟩
  · revert q; split
    · exact h _
    · exact fun ⟨a, b⟩ => ⟨a, h _ b⟩
    · exact fun ⟨a, b⟩ => ⟨a, h _ b⟩
    · exact fun ⟨a, b, c⟩ => ⟨a, b, h _ c⟩
    · exact id
  · refine ⟨δ, ν, E, ha.mono _ _ _ (fun x q v H1 M s1 o1 => ?_) q⟩
    refine ⟨δ, ν, E.same s1, hl.mono _ _ _ (fun i q H2 s2 => ?_) q⟩
    refine ⟨δ, ν, (E.same s1).same s2, hh.mono _ _ _ (fun j q H3 s3 => ?_) q⟩
    have sA := (s1.trans s2).trans s3
    have oA := o1.same (s2.trans s3)
    have r := oA.rp
    revert q; split
    · rename_i ds ed
      intro q
      rw [ed] at r
      obtain ⟨l, xs, A, rfl, rfl, hl, s⟩ := r.list_
      refine .inl ⟨l, xs, rfl, SqL.of hl, fun p hp => ?_⟩
      obtain ⟨L, hs, hr⟩ := s.cut i j
      unfold mkL at q
      cases hi : immL (cutD ds i j) with
      | true =>
        rw [hi] at q
        have e := hr.imm hi
        subst e
        exact q _ _ _ (sA.trans (Same.upd_new hp)) (FR.vok (sA) (.lst upd_same (hr.same (Same.upd_new hp))) (by simp) (fun a ha => by rw [List.mem_singleton.mp ha]; exact hp) E)
      | false =>
        rw [hi] at q
        exact q _ _ _ (sA.trans (Same.upd_new hp)) (VOk.newL E sA oA hp hr (hs.trans (List.sublist_cons_self l A)))
    · rename_i z ed
      rintro ⟨hz, q⟩
      rw [ed] at r
      exact .inr (.inl ⟨z, r.str_, hz, q _ _ _ sA (VOk.imm (.str _) rfl)⟩)
    · rename_i ds ed
      rintro ⟨⟨hi, hw⟩, q⟩
      rw [ed] at r
      obtain ⟨l, xs, rfl, hl, s⟩ := r.tuple_
      obtain ⟨L, hs, hr⟩ := s.cut i j
      refine .inr (.inr ⟨l, xs, rfl, hl, by rw [s.length]; exact hw, fun p hp => ?_⟩)
      have e := hr.imm (immL_cut hi i j)
      subst e
      exact q _ _ _ (sA.trans (Same.upd_new hp)) (FR.vok sA (.tup (.inl (.inl upd_same)) (hr.same (Same.upd_new hp))) List.nodup_nil (fun a ha => (nomatch ha)) E)
    · rename_i kvs ed
      rintro ⟨ns, e, q⟩
      rw [ed, e] at r
      generalize hk : (ns.map fun n => ((PyData.int n : D), (PyData.none : D))) = kk at r
      cases r with
      | @scr l ms hsc =>
        have e2 := script_inj hk
        subst e2
        have sq : SqL X.K H3 l (ns.map V.int) := by
          rcases hsc with ⟨o, h⟩ | h
          · exact .inl (.inr ⟨o, h⟩)
          · exact .inr h
        refine .inl ⟨l, _, rfl, sq, fun p hp => ?_⟩
        obtain ⟨L, hs, hr⟩ := (rps_ints X.K H3 ns).cut i j
        have e := hr.imm (immL_cut (imm_ints ns) i j)
        subst e
        exact q _ _ _ (sA.trans (Same.upd_new hp)) (FR.vok sA (.lst upd_same (hr.same (Same.upd_new hp))) (by simp) (fun a ha => by rw [List.mem_singleton.mp ha]; exact hp) E)
    · exact False.elim

/-! ### displays -/
def ndB : List Nat → Bool
  | [] => true
  | x :: xs => !xs.contains x && ndB xs
theorem ndB_ok : ∀ {xs : List Nat}, ndB xs = true → xs.Nodup
  | [], _ => List.nodup_nil
  | x :: xs, h => by
    have h' : (!xs.contains x) = true ∧ ndB xs = true := by simpa only [ndB, Bool.and_eq_true] using h
    exact List.nodup_cons.mpr ⟨by simpa using h'.1, ndB_ok h'.2⟩
def mkV (c : List D → D) (xs : List Val) : Val := ⟨c (xs.map Val.d), xs.all Val.own && ndB (xs.flatMap Val.roots), xs.flatMap Val.roots⟩
def dLst (g : DA) : DE := fun δ P => g δ fun xs => xs.length ≤ sizeLine ∧ P (mkV .list xs)
def dTup (g : DA) : DE := fun δ P => g δ fun xs => xs.length ≤ sizeLine ∧ P (mkV .tuple xs)
theorem ev_lst (ha : EA X es g) : EV X (.List es pos) (dLst g) := by
  refine ⟨fun δ P P' h q => ha.mono _ _ _ (fun xs q => ⟨q.1, h _ q.2⟩) q, fun H0 π => pei (pe_lst (ha.pa H0 π)) fun σ H Q ⟨δ, ν, E, q⟩ => ?_⟩
  refine ⟨δ, ν, E, ha.mono _ _ _ (fun xs q vs H1 Ms s1 o1 => ⟨by rw [o1.length]; exact q.1, fun p hp => ?_⟩) q⟩
  have npm : ∀ a ∈ Ms.flatten, a ≠ p := fun a ha e => o1.rps.trk a ha (e ▸ hp)
  refine q.2 _ _ (p :: Ms.flatten) (s1.trans (Same.upd_new hp)) ⟨.lst upd_same (o1.rps.same (Same.upd_new hp)), fun o => ?_, fun o a ha => ?_, fun j s h o n a ha hm => ?_⟩
  · have o' : xs.all Val.own = true ∧ ndB (xs.flatMap Val.roots) = true := by simpa only [mkV, Bool.and_eq_true] using o
    exact List.nodup_cons.mpr ⟨fun h => npm p h rfl, o1.nd o'.1 (ndB_ok o'.2)⟩
  · have o' : xs.all Val.own = true ∧ ndB (xs.flatMap Val.roots) = true := by simpa only [mkV, Bool.and_eq_true] using o
    rcases List.mem_cons.mp ha with rfl | ha
    · exact .inl (s1.free hp)
    · exact o1.fr o'.1 a ha
  · rcases List.mem_cons.mp hm with rfl | hm
    · exact E.trk h a ha (s1.free hp)
    · exact o1.al j s h o n a ha hm
theorem ev_tup {x1} (ha : EA X es g) : EV X (.Tuple es x1 pos) (dTup g) := by
  refine ⟨fun δ P P' h q => ha.mono _ _ _ (fun xs q => ⟨q.1, h _ q.2⟩) q, fun H0 π => pei (pe_tup (ha.pa H0 π)) fun σ H Q ⟨δ, ν, E, q⟩ => ?_⟩
  refine ⟨δ, ν, E, ha.mono _ _ _ (fun xs q vs H1 Ms s1 o1 => ⟨by rw [o1.length]; exact q.1, fun p hp => ?_⟩) q⟩
  refine q.2 _ _ Ms.flatten (s1.trans (Same.upd_new hp)) ⟨.tup (.inl (.inl upd_same)) (o1.rps.same (Same.upd_new hp)), fun o => ?_, fun o a ha => ?_, fun j s h o n a ha hm => o1.al j s h o n a ha hm⟩
  · have o' : xs.all Val.own = true ∧ ndB (xs.flatMap Val.roots) = true := by simpa only [mkV, Bool.and_eq_true] using o
    exact o1.nd o'.1 (ndB_ok o'.2)
  · have o' : xs.all Val.own = true ∧ ndB (xs.flatMap Val.roots) = true := by simpa only [mkV, Bool.and_eq_true] using o
    exact o1.fr o'.1 a ha

/-! ### built-ins -/
theorem Rps.one_ {K : PySem.W.Frag} {H : Hp} {xs : List V} {d : D} {N : List Addr} (r : Rps K H xs [d] N) : ∃ v, xs = [v] ∧ Rp K H v d N := by
  cases r with
  | cons r s => cases s; exact ⟨_, rfl, by simpa using r⟩
theorem Rps.two_ {K : PySem.W.Frag} {H : Hp} {xs : List V} {d e : D} {N : List Addr} (r : Rps K H xs [d, e] N) : ∃ v w A B, xs = [v, w] ∧ Rp K H v d A ∧ Rp K H w e B := by
  cases r with
  | cons r s =>
    obtain ⟨w, rfl, q⟩ := s.one_
    exact ⟨_, _, _, _, rfl, r, q⟩
def kLen : KL := fun ds Q => match ds with
  | [.list xs] => Q (.int xs.length)
  | [.tuple xs] => Q (.int xs.length)
  | [.str z] => z.length ≤ sizeLine ∧ Q (.int z.length)
  | _ => False
theorem call_lenG : CallR X (.builtin "len") (fun xs H Q => (∃ p ys, xs = [.ref p] ∧ (SqL X.K H p ys ∨ SqT X.K H p ys) ∧ Q (.int ys.length) H) ∨ (∃ z, xs = [.str z] ∧ z.length ≤ sizeLine ∧ Q (.int z.length) H)) :=
  call_len_seq.or call_len_str
theorem ok_len : RLOk X (fun xs H Q => (∃ p ys, xs = [.ref p] ∧ (SqL X.K H p ys ∨ SqT X.K H p ys) ∧ Q (.int ys.length) H) ∨ (∃ z, xs = [.str z] ∧ z.length ≤ sizeLine ∧ Q (.int z.length) H)) kLen := by
  refine ⟨fun ds Q Q' h q => ?_, fun H xs ds N Q R r q h => ?_⟩
  · unfold kLen at *; split at q
    · exact h _ q
    · exact h _ q
    · exact ⟨q.1, h _ q.2⟩
    · exact q.elim
  · unfold kLen at q; split at q
    · obtain ⟨v, rfl, u⟩ := r.one_
      obtain ⟨a, ys, M, rfl, rfl, ha, s⟩ := u.list_
      refine .inl ⟨a, ys, rfl, .inl (SqL.of ha), h _ _ (FR.imm (.int _) rfl ?_)⟩
      rw [s.length]; exact q
    · obtain ⟨v, rfl, u⟩ := r.one_
      obtain ⟨a, ys, rfl, ha, s⟩ := u.tuple_
      refine .inl ⟨a, ys, rfl, .inr ha, h _ _ (FR.imm (.int _) rfl ?_)⟩
      rw [s.length]; exact q
    · obtain ⟨v, rfl, u⟩ := r.one_
      rw [u.str_]
      exact .inr ⟨_, rfl, q.1, h _ _ (FR.imm (.int _) rfl q.2)⟩
    · exact q.elim
def kAbs : KL := fun ds Q => match ds with
  | [.int i] => Q (.int i.natAbs)
  | _ => False
theorem ok_abs : RLOk X (fun xs H Q => ∃ i, xs = [.int i] ∧ Q (.int (if i < 0 then -i else i)) H) kAbs := by
  refine ⟨fun ds Q Q' h q => ?_, fun H xs ds N Q R r q h => ?_⟩
  · unfold kAbs at *; split at q
    · exact h _ q
    · exact q.elim
  · unfold kAbs at q; split at q
    · rename_i i
      obtain ⟨v, rfl, u⟩ := r.one_
      rw [u.int_]
      refine ⟨_, rfl, h _ _ (FR.imm (.int _) rfl ?_)⟩
      rw [show (if i < 0 then -i else i) = (i.natAbs : Int) by split <;> omega]
      exact q
    · exact q.elim
/-- max, min: of two ints or of one list of ints -/
def kMax : KL := fun ds Q => match ds with
  | [.int i, .int j] => Q (.int (max i j))
  | [.list xs] => ∃ ns : List Int, (xs = ns.map PyData.int ∧ 0 < ns.length) ∧ ∀ m, m ∈ ns → (∀ y, y ∈ ns → y ≤ m) → Q (.int m)
  | _ => False
def kMin : KL := fun ds Q => match ds with
  | [.int i, .int j] => Q (.int (min i j))
  | [.list xs] => ∃ ns : List Int, (xs = ns.map PyData.int ∧ 0 < ns.length) ∧ ∀ m, m ∈ ns → (∀ y, y ∈ ns → m ≤ y) → Q (.int m)
  | _ => False
theorem ok_max : RLOk X (fun xs H Q => (∃ i j, xs = [.int i, .int j] ∧ Q (.int (if j > i then j else i)) H) ∨ rMax X.K xs H Q) kMax := by
  refine ⟨fun ds Q Q' h q => ?_, fun H xs ds N Q R r q h => ?_⟩
  · unfold kMax at *; split at q
    · exact h _ q
    · obtain ⟨ns, a, b⟩ := q
      exact ⟨ns, a, fun m x y => h _ (b m x y)⟩
    · exact q.elim
  · unfold kMax at q; split at q
    · rename_i i j
      obtain ⟨v, w, A, B, rfl, r1, r2⟩ := r.two_
      rw [r1.int_, r2.int_]
      refine .inl ⟨_, _, rfl, h _ _ (FR.imm (.int _) rfl ?_)⟩
      rw [show (if j > i then j else i) = max i j by split <;> omega]
      exact q
    · obtain ⟨ns, ⟨rfl, b⟩, c⟩ := q
      obtain ⟨v, rfl, u⟩ := r.one_
      obtain ⟨a, ys, M, rfl, rfl, ha, s⟩ := u.list_
      have e := s.ints
      subst e
      exact .inr ⟨a, ns, rfl, SqL.of ha, b, fun m x y => h _ _ (FR.imm (.int _) rfl (c m x y))⟩
    · exact q.elim
theorem ok_min : RLOk X (fun xs H Q => (∃ i j, xs = [.int i, .int j] ∧ Q (.int (if j < i then j else i)) H) ∨ rMin X.K xs H Q) kMin := by
  refine ⟨fun ds Q Q' h q => ?_, fun H xs ds N Q R r q h => ?_⟩
  · unfold kMin at *; split at q
    · exact h _ q
    · obtain ⟨ns, a, b⟩ := q
      exact ⟨ns, a, fun m x y => h _ (b m x y)⟩
    · exact q.elim
  · unfold kMin at q; split at q
    · rename_i i j
      obtain ⟨v, w, A, B, rfl, r1, r2⟩ := r.two_
      rw [r1.int_, r2.int_]
      refine .inl ⟨_, _, rfl, h _ _ (FR.imm (.int _) rfl ?_)⟩
      rw [show (if j < i then j else i) = min i j by split <;> omega]
      exact q
    · obtain ⟨ns, ⟨rfl, b⟩, c⟩ := q
      obtain ⟨v, rfl, u⟩ := r.one_
      obtain ⟨a, ys, M, rfl, rfl, ha, s⟩ := u.list_
      have e := s.ints
      subst e
      exact .inr ⟨a, ns, rfl, SqL.of ha, b, fun m x y => h _ _ (FR.imm (.int _) rfl (c m x y))⟩
    · exact q.elim
theorem call_maxG (hc : X.calm = true) : CallR X (.builtin "max") (fun xs H Q => (∃ i j, xs = [.int i, .int j] ∧ Q (.int (if j > i then j else i)) H) ∨ rMax X.K xs H Q) := (call_max2 hc).or (cr_max hc)
theorem call_minG (hc : X.calm = true) : CallR X (.builtin "min") (fun xs H Q => (∃ i j, xs = [.int i, .int j] ∧ Q (.int (if j < i then j else i)) H) ∨ rMin X.K xs H Q) := (call_min2 hc).or (cr_min hc)
def kSum : KL := fun ds Q => match ds with
  | [.list xs] => ∃ ns : List Int, xs = ns.map PyData.int ∧ Q (.int ns.sum)
  | _ => False
theorem ok_sum : RLOk X (rSum X.K) kSum := by
  refine ⟨fun ds Q Q' h q => ?_, fun H xs ds N Q R r q h => ?_⟩
  · unfold kSum at *; split at q
    · obtain ⟨ns, a, b⟩ := q
      exact ⟨ns, a, h _ b⟩
    · exact q.elim
  · unfold kSum at q; split at q
    · obtain ⟨ns, rfl, c⟩ := q
      obtain ⟨v, rfl, u⟩ := r.one_
      obtain ⟨a, ys, M, rfl, rfl, ha, s⟩ := u.list_
      have e := s.ints
      subst e
      exact ⟨a, ns, rfl, SqL.of ha, h _ _ (FR.imm (.int _) rfl c)⟩
    · exact q.elim
def kList : KL := fun ds Q => match ds with
  | [.list xs] => immL xs = true ∧ Q (.list xs)
  | [.tuple xs] => immL xs = true ∧ Q (.list xs)
  | _ => False
theorem ok_list : RLOk X (fun xs H Q => ∃ p ys, xs = [.ref p] ∧ (SqL X.K H p ys ∨ SqT X.K H p ys) ∧ ∀ l, H l = none → Q (.ref l) (upd H l (.lst ys))) kList := by
  refine ⟨fun ds Q Q' h q => ?_, fun H xs ds N Q R r q h => ?_⟩
  · unfold kList at *; split at q
    · exact ⟨q.1, h _ q.2⟩
    · exact ⟨q.1, h _ q.2⟩
    · exact q.elim
  · unfold kList at q; split at q
    · obtain ⟨v, rfl, u⟩ := r.one_
      obtain ⟨a, ys, M, rfl, rfl, ha, s⟩ := u.list_
      exact ⟨a, ys, rfl, .inl (SqL.of ha), fun l hl => h _ _ (FR.newL hl s q.1 q.2)⟩
    · obtain ⟨v, rfl, u⟩ := r.one_
      obtain ⟨a, ys, rfl, ha, s⟩ := u.tuple_
      exact ⟨a, ys, rfl, .inr ha, fun l hl => h _ _ (FR.newL hl s q.1 q.2)⟩
    · exact q.elim
def kTuple : KL := fun ds Q => match ds with
  | [.list xs] => immL xs = true ∧ Q (.tuple xs)
  | [.tuple xs] => immL xs = true ∧ Q (.tuple xs)
  | _ => False
theorem ok_tuple : RLOk X (fun xs H Q => ∃ p ys, xs = [.ref p] ∧ ((SqL X.K H p ys ∧ ∀ l, H l = none → Q (.ref l) (upd H l (.tup ys))) ∨ (SqT X.K H p ys ∧ Q (.ref p) H))) kTuple := by
  refine ⟨fun ds Q Q' h q => ?_, fun H xs ds N Q R r q h => ?_⟩
  · unfold kTuple at *; split at q
    · exact ⟨q.1, h _ q.2⟩
    · exact ⟨q.1, h _ q.2⟩
    · exact q.elim
  · unfold kTuple at q; split at q
    · obtain ⟨v, rfl, u⟩ := r.one_
      obtain ⟨a, ys, M, rfl, rfl, ha, s⟩ := u.list_
      exact ⟨a, ys, rfl, .inl ⟨SqL.of ha, fun l hl => h _ _ (FR.newT hl s q.1 q.2)⟩⟩
    · obtain ⟨v, rfl, u⟩ := r.one_
      obtain ⟨a, ys, rfl, ha, s⟩ := u.tuple_
      exact ⟨a, ys, rfl, .inr ⟨ha, h _ _ (FR.imm (.tup ha s) (by simpa [KT.imm] using q.1) q.2)⟩⟩
    · exact q.elim
def kInt : KL := fun ds Q => match ds with
  | [.int i] => Q (.int i)
  | [.bool b] => Q (.int (if b then 1 else 0))
  | _ => False
theorem ok_int : RLOk X (fun xs H Q => (∃ i, xs = [.int i] ∧ Q (.int i) H) ∨ ∃ k, xs = [.bl k] ∧ Q (.int (if k then 1 else 0)) H) kInt := by
  refine ⟨fun ds Q Q' h q => ?_, fun H xs ds N Q R r q h => ?_⟩
  · unfold kInt at *; split at q
    · exact h _ q
    · exact h _ q
    · exact q.elim
  · unfold kInt at q; split at q
    · obtain ⟨v, rfl, u⟩ := r.one_
      rw [u.int_]
      exact .inl ⟨_, rfl, h _ _ (FR.imm (.int _) rfl q)⟩
    · obtain ⟨v, rfl, u⟩ := r.one_
      rw [u.bool_]
      exact .inr ⟨_, rfl, h _ _ (FR.imm (.int _) rfl q)⟩
    · exact q.elim
def kSorted : KL := fun ds Q => match ds with
  | [.list xs] => ∃ ns : List Int, xs = ns.map PyData.int ∧ ∀ ms : List Int, ms.Perm ns → ms.Pairwise (· ≤ ·) → Q (.list (ms.map PyData.int))
  | _ => False
theorem ok_sorted : RLOk X (rSortedI X.K) kSorted := by
  refine ⟨fun ds Q Q' h q => ?_, fun H xs ds N Q R r q h => ?_⟩
  · unfold kSorted at *; split at q
    · obtain ⟨ns, a, b⟩ := q
      exact ⟨ns, a, fun ms x y => h _ (b ms x y)⟩
    · exact q.elim
  · unfold kSorted at q; split at q
    · obtain ⟨ns, rfl, c⟩ := q
      obtain ⟨v, rfl, u⟩ := r.one_
      obtain ⟨a, ys, M, rfl, rfl, ha, s⟩ := u.list_
      have e := s.ints
      subst e
      exact ⟨a, ns, rfl, SqL.of ha, fun ms p x y hp => h _ _ (FR.newL hp (rps_ints _ _ ms) (imm_ints ms) (c ms x y))⟩
    · exact q.elim

/-! ### isinstance of a built-in class -/
def tyD : D → String
  | .none => "NoneType"
  | .bool _ => "bool"
  | .int _ => "int"
  | .str _ => "str"
  | .list _ => "list"
  | .tuple _ => "tuple"
  | .dict _ => "list"
def isiB (T : String) : D → Bool
  | .none => T == "NoneType"
  | .bool _ => T == "bool" || T == "int"
  | .int _ => T == "int"
  | .str _ => T == "str"
  | .list _ => T == "list"
  | .tuple _ => T == "tuple"
  | .dict _ => T == "list"
def kIsi (T : String) : K1 := fun d Q => Q (.bool (isiB T d))
theorem Rp.tyx {K : PySem.W.Frag} {H : Hp} {v : V} {d : D} {N : List Addr} (r : Rp K H v d N) : TyX K H v (.type (tyD d)) := by
  cases r with
  | non => exact .base .non
  | bl c => exact .base (.bl c)
  | int i => exact .base (.int i)
  | str x => exact .base (.str x)
  | lst h _ => exact .base (.lst h)
  | tup h _ =>
    rcases h with (h | ⟨o, h⟩) | ⟨o, its, n, h1, h2, h3⟩
    · exact .base (.tup h)
    · exact .fTuple h
    · exact .kTuple h1 h2
  | scr h =>
    rcases h with ⟨o, h⟩ | ⟨o, its, n, h1, h2, h3⟩
    · exact .base (.frz h)
    · exact .kList h1 h2
theorem ev_isi {T : String} {x : Str} {p p' : Pos} (hg : Gl X "isinstance") (hm : X.mg "isinstance" = none) (hgT : Gl X x) (hmT : X.mg x = none) (hvT : bootBuiltins x = some (.type T)) (ha : EV X a fa)
    (hk : (["NoneType", "bool", "int", "str", "list", "tuple"].all fun U => kitB U T == some (if U == "bool" then T == "bool" || T == "int" else T == U)) = true) (hn : x ≠ "__name__" := by decide) (hdb : (x == ("__debug__" : Str)) = false := by decide)
    (he : starEach [a, .Name x p'] X.env = (false, eval a X.env) :: starEach [.Name x p'] X.env := by rfl) (he2 : starEach [Expr.Name x p'] X.env = (false, eval (.Name x p') X.env) :: starEach [] X.env := by rfl)
    (hpl : (backTo pos (starEach [Expr.Name x p'] X.env)).any (·.1) = false := by rfl) :
    EV X (.Call (.Name "isinstance" p) [a, .Name x p'] [] pos) (dUn (kIsi T) fa) := by
  have hk1 : R1Ok X (fun u H Q => rIsi X.K [u, .ty T] H Q) (kIsi T) := by
    refine ⟨fun d Q Q' h q => h _ q, fun H u d N Q R r q h => ⟨u, .ty T, _, _, isiB T d, rfl, .ty T, r.tyx, kit_ty ?_, h _ _ (FR.imm (.bl _) rfl q)⟩⟩
    have g : ∀ U ∈ ["NoneType", "bool", "int", "str", "list", "tuple"], kitB U T = some (if U == "bool" then T == "bool" || T == "int" else T == U) := fun U hU => by
      simpa using List.all_eq_true.mp hk U hU
    cases d <;> exact g _ (by simp [tyD])
  exact ev_un1 hk1 ha fun {ta} h => pe_callB call_isi hg hm boot_isinstance (pa_cons h (pa_cons (pe_bltn hgT hmT hvT (v := .ty T) rfl hn hdb) pa_nil he2) he) (by decide) (by decide) he hpl
end
end KT
/-! KtE: statements. -/
namespace KT
open PySem PySem.Spec PyProof.Rows L2

structure DEnds where
  nx : En → Prop
  rt : Val → En → Prop
abbrev DS := DEnds → En → Prop
/-- the wanted ends, as the data see them -/
def dEnds (K : PySem.W.Frag) (H0 : Hp) (π : Nat → Option V) (D : Ends) : DEnds where
  nx := fun δ => ∀ σ H ν, EnvOk K H0 π H σ δ ν → D.nx σ H
  rt := fun x δ => ∀ v σ H H' ν M, EnvOk K H0 π H σ δ ν → Same H H' → VOk K H δ ν H' v x M → D.rt v H'
def semS (K : PySem.W.Frag) (H0 : Hp) (π : Nat → Option V) (m : DS) : TS := fun D σ H => ∃ δ ν, EnvOk K H0 π H σ δ ν ∧ m (dEnds K H0 π D) δ
def MonoS (m : DS) : Prop := ∀ (A B : DEnds) δ, (∀ δ, A.nx δ → B.nx δ) → (∀ x δ, A.rt x δ → B.rt x δ) → m A δ → m B δ
structure SV (X : Cx) (st : Stmt) (m : DS) : Prop where
  mono : MonoS m
  ps : ∀ H0 π, PS X st (semS X.K H0 π m)
structure SVs (X : Cx) (st : List Stmt) (m : DS) : Prop where
  mono : MonoS m
  pss : ∀ H0 π, PSs X st (semS X.K H0 π m)
theorem psi {X : Cx} {st : Stmt} {t t' : TS} (h : PS X st t) (i : ∀ D σ H, t' D σ H → t D σ H) : PS X st t' :=
  ⟨fun pins s σ H D I q => h.run pins s σ H D I (i D σ H q)⟩
theorem pssi {X : Cx} {st : List Stmt} {t t' : TS} (h : PSs X st t) (i : ∀ D σ H, t' D σ H → t D σ H) : PSs X st t' :=
  ⟨fun pins s σ H D I q => h.run pins s σ H D I (i D σ H q)⟩
section
variable {X : Cx} {a b e c : Expr} {es : List Expr} {fa fb f : DE} {g : DA} {t : DT} {pos : Pos} {st : Stmt} {sts : List Stmt} {m n : DS}

def mNil : DS := fun E δ => E.nx δ
def mSeq (m n : DS) : DS := fun E δ => m ⟨n E, E.rt⟩ δ
theorem svs_nil : SVs X [] mNil := ⟨fun A B δ h1 h2 q => h1 _ q, fun H0 π => pssi pss_nil fun D σ H ⟨δ, ν, E, q⟩ => q σ H ν E⟩
theorem mseq_mono (h1 : MonoS m) (h2 : MonoS n) : MonoS (mSeq m n) := fun A B δ i1 i2 q => h1 ⟨n A, A.rt⟩ ⟨n B, B.rt⟩ δ (fun δ q => h2 A B δ i1 i2 q) i2 q
theorem svs_cons (h1 : SV X st m) (h2 : SVs X sts n) : SVs X (st :: sts) (mSeq m n) := by
  refine ⟨mseq_mono h1.mono h2.mono, fun H0 π => pssi (pss_cons (h1.ps H0 π) (h2.pss H0 π)) fun D σ H ⟨δ, ν, E, q⟩ => ?_⟩
  exact ⟨δ, ν, E, h1.mono ⟨n (dEnds X.K H0 π D), (dEnds X.K H0 π D).rt⟩ _ _ (fun δ q σ' H' ν' E' => ⟨δ, ν', E', q⟩) (fun x δ q => q) q⟩
theorem svs_one (h1 : SV X st m) : SVs X [st] m := ⟨h1.mono, fun H0 π => pss_one (h1.ps H0 π)⟩
theorem sv_pass : SV X (.Pass pos) mNil := ⟨fun A B δ h1 h2 q => h1 _ q, fun H0 π => psi ps_pass fun D σ H ⟨δ, ν, E, q⟩ => q σ H ν E⟩

/-- x = e; k: the names in e are given up (else their lists are shared from here on) -/
def stor (δ : En) (i : Nat) (x : Val) (k : Bool) : En := match k with
  | true => (killR δ x.roots).set i (some ⟨x.d, x.own, false⟩)
  | false => (demR δ x.roots).set i (some ⟨x.d, (match x.roots with | [] => x.own | _ => false), false⟩)
def storK (δ : En) (i : Nat) (x : Val) (k : Bool) (P : En → Prop) : Prop := match k with
  | true => killK δ x.roots fun δ' => setK δ' i (some ⟨x.d, x.own, false⟩) P
  | false => demK δ x.roots fun δ' => setK δ' i (some ⟨x.d, (match x.roots with | [] => x.own | _ => false), false⟩) P
theorem storK_eq (δ : En) (i : Nat) (x : Val) (k : Bool) (P : En → Prop) : storK δ i x k P = P (stor δ i x k) := by
  cases k
  · show demK δ x.roots (fun δ' => setK δ' i _ P) = _
    rw [demK_eq, setK_eq]
    rfl
  · show killK δ x.roots (fun δ' => setK δ' i _ P) = _
    rw [killK_eq, setK_eq]
    rfl
def mSet (i : Nat) (k : Bool) (f : DE) : DS := fun E δ => f δ fun x => storK δ i x k E.nx
theorem stor_ok {K : PySem.W.Frag} {H0 H H' : Hp} {π : Nat → Option V} {σ : L2.St} {δ : En} {ν : Nu} {v : V} {x : Val} {M : List Addr} (E : EnvOk K H0 π H σ δ ν) (s : Same H H') (q : VOk K H δ ν H' v x M) (i : Nat) (k : Bool) :
    EnvOk K H0 π H' (σ.set i (some v)) (stor δ i x k) (fun j => if j = i then M else ν j) := by
  unfold stor
  cases k with
  | true => exact ((E.same s).kill x.roots).set (q.killed E) i
  | false =>
    dsimp only
    split
    · rename_i e
      have q' := q.killed E
      rw [e] at q' ⊢
      exact (E.same s).set q' i
    · exact ((E.same s).dem x.roots).set (q.demoted E) i
theorem set_sem {H0 : Hp} {π : Nat → Option V} {K : PySem.W.Frag} {i : Nat} {k : Bool} (hm : ∀ δ (P P' : Val → Prop), (∀ x, P x → P' x) → f δ P → f δ P') {D : Ends} {σ : L2.St} {H : Hp} (h : semS K H0 π (mSet i k f) D σ H) :
    tAsg (semE K H0 π f) (gName i) D σ H := by
  obtain ⟨δ, ν, E, q⟩ := h
  exact ⟨δ, ν, E, hm _ _ _ (fun x q v H1 M s1 o1 => by rw [storK_eq] at q; exact q _ _ _ (stor_ok E s1 o1 i k)) q⟩
theorem mset_mono {i : Nat} {k : Bool} (hm : ∀ δ (P P' : Val → Prop), (∀ x, P x → P' x) → f δ P → f δ P') : MonoS (mSet i k f) := fun A B δ h1 h2 q => hm _ _ _ (fun x q => by rw [storK_eq] at q ⊢; exact h1 _ q) q
theorem sv_set (i : Nat) (k : Bool) {x : Str} {pos' : Pos} (hN : X.N.Nodup) (he : EV X e f) (hi : X.N[i]? = some x := by rfl) (hx : Loc X.env.scope x := by first | exact Or.inl rfl | exact Or.inr rfl)
    (hs : swapsWith e (some (.Name x pos')) pos.line X.env = pure false := by rfl) (hf : X.fn x = true ∨ X.env.scope.names.lookup x = some .local := by first | exact .inl rfl | exact .inr rfl | assumption) :
    SV X (.Assign [.Name x pos'] e pos) (mSet i k f) :=
  ⟨mset_mono he.mono, fun H0 π => psi (ps_set hN hi hx (he.pe H0 π) hs hf) fun D σ H h => set_sem he.mono h⟩
/-- return -/
def mRet (f : DE) : DS := fun E δ => f δ fun x => E.rt x δ
theorem sv_ret (he : EV X e f) : SV X (.Return (some e) pos) (mRet f) := by
  refine ⟨fun A B δ h1 h2 q => he.mono _ _ _ (fun x q => h2 _ _ q) q, fun H0 π => psi (ps_ret (he.pe H0 π)) fun D σ H ⟨δ, ν, E, q⟩ => ?_⟩
  exact ⟨δ, ν, E, he.mono _ _ _ (fun x q v H1 M s1 o1 => q v σ H H1 ν M E s1 o1) q⟩
def mRetN : DS := fun E δ => E.rt ⟨.none, true, []⟩ δ
theorem sv_retN : SV X (.Return none pos) mRetN := by
  refine ⟨fun A B δ h1 h2 q => h2 _ _ q, fun H0 π => psi ps_retN fun D σ H ⟨δ, ν, E, q⟩ => ?_⟩
  exact q .non σ H H ν [] E (Same.refl H) (VOk.imm .non rfl)
/-- an expression alone -/
def mExpr (f : DE) : DS := fun E δ => f δ fun _ => E.nx δ
theorem sv_expr (he : EV X e f) (hs : swapsWith e none pos.line X.env = pure false := by rfl) : SV X (.Expr e pos) (mExpr f) := by
  refine ⟨fun A B δ h1 h2 q => he.mono _ _ _ (fun x q => h1 _ q) q, fun H0 π => psi (ps_expr (he.pe H0 π) hs) fun D σ H ⟨δ, ν, E, q⟩ => ?_⟩
  exact ⟨δ, ν, E, he.mono _ _ _ (fun x q v H1 M s1 o1 => q _ _ _ (E.same s1)) q⟩
/-- if -/
def mIf (t : DT) (m n : DS) : DS := fun E δ => t δ fun b => match b with
  | true => m E δ
  | false => n E δ
theorem sv_if {sa sb : List Stmt} (hc : ET X c t) (ha : SVs X sa m) (hb : SVs X sb n) : SV X (.If c sa sb pos) (mIf t m n) := by
  refine ⟨fun A B δ h1 h2 q => hc.mono _ _ _ (fun b q => ?_) q, fun H0 π => psi (ps_if (hc.pt H0 π) (ha.pss H0 π) (hb.pss H0 π)) fun D σ H ⟨δ, ν, E, q⟩ => ?_⟩
  · cases b
    · exact hb.mono A B δ h1 h2 q
    · exact ha.mono A B δ h1 h2 q
  · refine ⟨δ, ν, E, hc.mono _ _ _ (fun b q H1 s1 => ?_) q⟩
    cases b
    · exact ⟨δ, ν, E.same s1, q⟩
    · exact ⟨δ, ν, E.same s1, q⟩
/-- while -/
def whI (t : DT) (m : DS) (E : DEnds) : Nat → En → Prop
  | 0, _ => False
  | n + 1, δ => t δ fun b => match b with
    | true => m ⟨whI t m E n, E.rt⟩ δ
    | false => E.nx δ
def mWhile (t : DT) (m : DS) : DS := fun E δ => ∃ n, whI t m E n δ
theorem whI_mono (ht : ∀ δ (P P' : Bool → Prop), (∀ x, P x → P' x) → t δ P → t δ P') (hm : MonoS m) {A B : DEnds} (h1 : ∀ δ, A.nx δ → B.nx δ) (h2 : ∀ x δ, A.rt x δ → B.rt x δ) : ∀ n δ, whI t m A n δ → whI t m B n δ
  | 0, _, q => q
  | n + 1, δ, q => ht _ _ _ (fun b q => by
    cases b
    · exact h1 _ q
    · exact hm ⟨whI t m A n, A.rt⟩ ⟨whI t m B n, B.rt⟩ δ (fun δ q => whI_mono ht hm h1 h2 n δ q) h2 q) q
theorem sv_while {sa : List Stmt} (hp : PassesOwn (model X.prog X.w) X.A X.env X.xe) (hc : ET X c t) (ha : SVs X sa m) : SV X (.While c sa [] pos) (mWhile t m) := by
  refine ⟨fun A B δ h1 h2 ⟨n, q⟩ => ⟨n, whI_mono hc.mono ha.mono h1 h2 n δ q⟩, fun H0 π => psi (ps_while hp (hc.pt H0 π) (ha.pss H0 π)) fun D σ H ⟨δ, ν, E, n, q⟩ => ?_⟩
  refine ⟨fun n σ H => ∃ δ ν, EnvOk X.K H0 π H σ δ ν ∧ whI t m (dEnds X.K H0 π D) n δ, ⟨n, δ, ν, E, q⟩, fun n σ H ⟨δ, ν, E, q⟩ => ?_⟩
  cases n with
  | zero => exact q.elim
  | succ n =>
    refine ⟨δ, ν, E, hc.mono _ _ _ (fun b q H1 s1 => ?_) q⟩
    cases b with
    | false => exact q _ _ _ (E.same s1)
    | true =>
      rw [if_pos rfl]
      refine ⟨fun σ H => ∃ δ ν, EnvOk X.K H0 π H σ δ ν ∧ whI t m (dEnds X.K H0 π D) n δ, fun σ' H' q => ⟨n, Nat.lt_succ_self n, q⟩, δ, ν, E.same s1, ?_⟩
      exact ha.mono ⟨whI t m (dEnds X.K H0 π D) n, (dEnds X.K H0 π D).rt⟩ _ _ (fun δ q σ' H' ν' E' => ⟨δ, ν', E', q⟩) (fun x δ q => q) q

/-! ### targets -/
/-- a, b, .. = the items of a tuple -/
def setAll : En → List Nat → List D → Bool → En
  | δ, i :: is, d :: ds, o => setAll (δ.set i (some ⟨d, o, false⟩)) is ds o
  | δ, _, _, _ => δ
def setAllK : En → List Nat → List D → Bool → (En → Prop) → Prop
  | δ, i :: is, d :: ds, o, P => setK δ i (some ⟨d, o, false⟩) fun δ' => setAllK δ' is ds o P
  | δ, _, _, _, P => P δ
theorem setAllK_eq : ∀ (is : List Nat) (ds : List D) (δ : En) (o : Bool) (P : En → Prop), setAllK δ is ds o P = P (setAll δ is ds o)
  | [], ds, δ, o, P => by simp only [setAllK, setAll]
  | i :: is, [], δ, o, P => by simp only [setAllK, setAll]
  | i :: is, d :: ds, δ, o, P => by
    simp only [setAllK, setAll]
    rw [setK_eq, setAllK_eq is ds]
def setAllV : L2.St → List Nat → List V → L2.St
  | σ, i :: is, v :: vs => setAllV (σ.set i (some v)) is vs
  | σ, _, _ => σ
def setNu : Nu → Nat → List Addr → Nu := fun ν i M j => if j = i then M else ν j
theorem set_all_ok {K : PySem.W.Frag} {H0 H : Hp} {π : Nat → Option V} {o : Bool} : ∀ {is : List Nat} {σ : L2.St} {δ : En} {ν : Nu} {vs : List V} {ds : List D} {N : List Addr}, EnvOk K H0 π H σ δ ν → Rps K H vs ds N →
    (o = true → N.Nodup ∧ (∀ a ∈ N, H0 a = none) ∧ ∀ a ∈ N, ∀ j s, δ[j]? = some (some s) → a ∉ ν j) → (∀ j s, δ[j]? = some (some s) → s.own = true → ∀ a ∈ ν j, a ∉ N) → ∃ ν', EnvOk K H0 π H (setAllV σ is vs) (setAll δ is ds o) ν'
  | [], σ, δ, ν, _, _, _, E, r, _, _ => ⟨ν, by simpa only [setAll, setAllV] using E⟩
  | i :: is, σ, δ, ν, _, _, _, E, .nil, _, _ => ⟨ν, by simpa only [setAll, setAllV] using E⟩
  | i :: is, σ, δ, ν, _, _, _, E, .cons (v := v) (vs := vs) (d := d) (ds := ds) (N := N1) (M := N2) r s, h1, h2 => by
    have q : FOk K H0 δ ν H v d o N1 := by
      refine ⟨r, fun z => (List.nodup_append.mp (h1 z).1).1, fun z a ha => (h1 z).2.1 a (List.mem_append_left _ ha), fun z a ha => (h1 z).2.2 a (List.mem_append_left _ ha), fun j t ht ho a ha hm => h2 j t ht ho a ha (List.mem_append_left _ hm)⟩
    have E' := E.set q i
    simp only [setAll, setAllV]
    refine set_all_ok E' s (fun z => ⟨(List.nodup_append.mp (h1 z).1).2.1, fun a ha => (h1 z).2.1 a (List.mem_append_right _ ha), fun a ha j t ht => ?_⟩) fun j t ht ho a ha hm => ?_
    · show a ∉ (if j = i then N1 else ν j)
      by_cases ej : j = i
      · rw [if_pos ej]
        exact fun hm => (List.nodup_append.mp (h1 z).1).2.2 a hm a ha rfl
      · rw [if_neg ej]
        rw [List.getElem?_set_ne (Ne.symm ej)] at ht
        exact (h1 z).2.2 a (List.mem_append_right _ ha) j t ht
    · have ha : a ∈ (if j = i then N1 else ν j) := ha
      by_cases ej : j = i
      · subst ej
        rw [if_pos rfl] at ha
        by_cases hl : j < δ.length
        · rw [List.getElem?_set_self hl] at ht
          cases ht
          have z : o = true := ho
          exact (List.nodup_append.mp (h1 z).1).2.2 a ha a hm rfl
        · rw [List.getElem?_eq_none (by simpa using hl)] at ht; cases ht
      · rw [if_neg ej] at ha
        rw [List.getElem?_set_ne (Ne.symm ej)] at ht
        exact h2 j t ht ho a ha (List.mem_append_right _ hm)
def gNames : List Nat → TGs
  | [] => gNil
  | i :: is => gCons (gName i) (gNames is)
theorem gnames_ok : ∀ {is : List Nat} {vs : List V} {σ : L2.St} {H : Hp} {Q : L2.St → Hp → Prop}, vs.length = is.length → Q (setAllV σ is vs) H → gNames is vs σ H Q
  | [], [], _, _, _, _, q => ⟨rfl, q⟩
  | i :: is, v :: vs, _, _, _, h, q => ⟨v, vs, rfl, gnames_ok (by simpa using h) q⟩
/-- what is stored at a target: a name, or a tuple of names -/
inductive Tgt where
  | nm (i : Nat)
  | tp (is : List Nat)
def gOf (K : PySem.W.Frag) : Tgt → TG
  | .nm i => gName i
  | .tp is => gTup K is.length (gNames is)
def asgT (t : Tgt) (d : D) (o : Bool) (δ : En) (P : En → Prop) : Prop := match t with
  | .nm i => setK δ i (some ⟨d, o, false⟩) P
  | .tp is => (match d with
    | .tuple ds => ds.length = is.length ∧ setAllK δ is ds o P
    | _ => False)
theorem asgT_nm {i : Nat} {d : D} {o : Bool} {δ : En} {P : En → Prop} : asgT (.nm i) d o δ P = P (δ.set i (some ⟨d, o, false⟩)) := setK_eq _ _ _ _
theorem asgT_tp {is : List Nat} {ds : List D} {o : Bool} {δ : En} {P : En → Prop} : asgT (.tp is) (.tuple ds) o δ P = (ds.length = is.length ∧ P (setAll δ is ds o)) := by
  show (ds.length = is.length ∧ setAllK δ is ds o P) = _
  rw [setAllK_eq]
theorem asgT_mono {tg : Tgt} {d : D} {o : Bool} {δ : En} {P Q : En → Prop} (h : ∀ δ, P δ → Q δ) (q : asgT tg d o δ P) : asgT tg d o δ Q := by
  cases tg with
  | nm i =>
    rw [asgT_nm] at q ⊢
    exact h _ q
  | tp is =>
    cases d with
    | tuple ds =>
      rw [asgT_tp] at q ⊢
      exact ⟨q.1, h _ q.2⟩
    | _ => exact q.elim
theorem asgT_ok {K : PySem.W.Frag} {H0 H : Hp} {π : Nat → Option V} {σ : L2.St} {δ : En} {ν : Nu} {v : V} {d : D} {o : Bool} {M : List Addr} {tg : Tgt} {P : En → Prop} {Q : L2.St → Hp → Prop} (E : EnvOk K H0 π H σ δ ν) (q : FOk K H0 δ ν H v d o M)
    (h : asgT tg d o δ P) (i : ∀ σ' δ' ν', EnvOk K H0 π H σ' δ' ν' → P δ' → Q σ' H) : gOf K tg v σ H Q := by
  cases tg with
  | nm j =>
    rw [asgT_nm] at h
    exact i _ _ _ (E.set q j) h
  | tp is =>
    have r := q.rp
    cases d with
    | tuple ds =>
      rw [asgT_tp] at h
      obtain ⟨hl, h⟩ := h
      obtain ⟨a, xs, rfl, ha, s⟩ := r.tuple_
      obtain ⟨ν', E'⟩ := set_all_ok (is := is) E s (fun z => ⟨q.nd z, q.fr z, q.dj z⟩) q.al
      exact ⟨a, xs, rfl, ha, by rw [s.length]; exact hl, gnames_ok (by rw [s.length]; exact hl) (i _ _ _ E' h)⟩
    | _ => exact h.elim
/-- the targets of the text -/
structure TgOk (X : Cx) (tgt : Expr) (tg : Tgt) : Prop where
  pg : PG X tgt (gOf X.K tg)
theorem tg_nm (i : Nat) {x : Str} {pos : Pos} (hN : X.N.Nodup) (hi : X.N[i]? = some x := by rfl) (hx : Loc X.env.scope x := by first | exact Or.inl rfl | exact Or.inr rfl)
    (hf : X.fn x = true ∨ X.env.scope.names.lookup x = some .local := by first | exact .inl rfl | exact .inr rfl | assumption) : TgOk X (.Name x pos) (.nm i) := ⟨pg_name hN hi hx hf⟩
theorem tg_tp {es : List Expr} {is : List Nat} {k : Nat} {pos : Pos} (hc : X.calm = true) (h : PGs X es (gNames is)) (hn : (assignEach es X.env).length = is.length := by rfl) (hst : (assignEach es X.env).findIdx? (·.1) = none := by rfl) :
    TgOk X (.Tuple es k pos) (.tp is) := ⟨pg_tup hc h hn hst⟩
/-- a, b = e -/
def mAsg (tg : Tgt) (k : Bool) (f : DE) : DS := fun E δ => f δ fun x => match k with
  | true => killK δ x.roots fun δ' => asgT tg x.d x.own δ' E.nx
  | false => demK δ x.roots fun δ' => asgT tg x.d (match x.roots with | [] => x.own | _ => false) δ' E.nx
theorem sv_asg {tgt : Expr} {tg : Tgt} (k : Bool) (he : EV X e f) (hg : TgOk X tgt tg) (hs : swapsWithSole [tgt] e pos.line X.env = pure false := by rfl) (hw : swappedStores [tgt] e X.env = pure none := by rfl)
    (h1 : (assignEach [tgt] X.env).map (·.2) = [assign tgt X.env] := by rfl) : SV X (.Assign [tgt] e pos) (mAsg tg k f) := by
  refine ⟨fun A B δ h1 h2 q => he.mono _ _ _ (fun x q => ?_) q, fun H0 π => psi (ps_asg (he.pe H0 π) hg.pg hs hw h1) fun D σ H ⟨δ, ν, E, q⟩ => ?_⟩
  · cases k
    · dsimp only at q ⊢
      rw [demK_eq] at q ⊢
      exact asgT_mono h1 q
    · dsimp only at q ⊢
      rw [killK_eq] at q ⊢
      exact asgT_mono h1 q
  · refine ⟨δ, ν, E, he.mono _ _ _ (fun x q v H1 M s1 o1 => ?_) q⟩
    cases k with
    | true =>
      dsimp only at q
      rw [killK_eq] at q
      exact asgT_ok ((E.same s1).kill x.roots) (o1.killed E) q fun σ' δ' ν' E' q => q _ _ _ E'
    | false =>
      dsimp only at q
      rw [demK_eq] at q
      revert q
      split
      · rename_i er
        intro q
        have o2 := o1.killed E
        rw [er] at o2 q
        exact asgT_ok (E.same s1) o2 q fun σ' δ' ν' E' q => q _ _ _ E'
      · intro q
        exact asgT_ok ((E.same s1).dem x.roots) (o1.demoted E) q fun σ' δ' ν' E' q => q _ _ _ E'
end

/-! ### a def -/
/-- the parameters at the entry -/
def initE (n : Nat) (ds : List D) : En := ds.map (fun d => some ⟨d, false, true⟩) ++ List.replicate (n - ds.length) none
def initK : Nat → List D → (En → Prop) → Prop
  | n + 1, d :: ds, P => initK n ds fun δ => P (some ⟨d, false, true⟩ :: δ)
  | n + 1, [], P => initK n [] fun δ => P (none :: δ)
  | 0, ds, P => P (ds.map fun d => some ⟨d, false, true⟩)
theorem initK_eq : ∀ (n : Nat) (ds : List D) (P : En → Prop), initK n ds P = P (initE n ds)
  | 0, ds, P => by simp [initK, initE]
  | n + 1, [], P => by
    simp only [initK]
    rw [initK_eq n []]
    simp [initE, List.replicate_succ]
  | n + 1, d :: ds, P => by
    simp only [initK]
    rw [initK_eq n ds]
    simp [initE]
def runF (n : Nat) (m : DS) : W := fun ds Q => initK n ds fun δ => m ⟨fun _ => Q .none, fun x _ => x.own = true ∧ Q x.d⟩ δ
theorem init_look {n : Nat} {ds : List D} {i : Nat} {s : Slot} (h : (initE n ds)[i]? = some (some s)) : ∃ d, ds[i]? = some d ∧ s = ⟨d, false, true⟩ := by
  unfold initE at h
  by_cases hi : i < ds.length
  · rw [List.getElem?_append_left (by simpa using hi), List.getElem?_map, List.getElem?_eq_getElem hi] at h
    simp only [Option.map_some, Option.some.injEq] at h
    exact ⟨ds[i], List.getElem?_eq_getElem hi, h.symm⟩
  · rw [List.getElem?_append_right (by simpa using hi), List.getElem?_replicate] at h
    split at h <;> simp at h
theorem init_ok {K : PySem.W.Frag} {H : Hp} {N : List Str} {vs : List V} {ds : List D} {M : List Addr} (r : Rps K H vs ds M) (hl : vs.length ≤ N.length) : ∃ ν, EnvOk K H (fun i => vs[i]?) H (start N vs) (initE N.length ds) ν := by
  have all : ∀ i d, ds[i]? = some d → ∃ v L, vs[i]? = some v ∧ Rp K H v d L := fun i d h => by
    obtain ⟨v, A, L, B, h1, _, h3⟩ := r.get h
    exact ⟨v, L, h1, h3⟩
  have hν : ∃ ν : Nu, ∀ i d, ds[i]? = some d → ∃ v, vs[i]? = some v ∧ Rp K H v d (ν i) := by
    refine ⟨fun i => match h : ds[i]? with | some d => Classical.choose (Classical.choose_spec (all i d h)) | none => [], fun i d h => ?_⟩
    dsimp only
    split
    · rename_i d' h'
      rw [h] at h'
      cases h'
      exact ⟨_, Classical.choose_spec (Classical.choose_spec (all i d h))⟩
    · rename_i h'
      rw [h] at h'
      cases h'
  obtain ⟨ν, hν⟩ := hν
  refine ⟨ν, ?_, Same.refl H, fun i s h => ?_, fun i s h o => ?_, fun i j s t n h o => ?_⟩
  · have := r.length
    simp [initE, L2.start]; omega
  · obtain ⟨d, hd, rfl⟩ := init_look h
    obtain ⟨v, hv, rv⟩ := hν i d hd
    refine ⟨v, ?_, rv, fun _ => hv⟩
    unfold L2.start
    have hi : i < vs.length := (List.getElem?_eq_some_iff.mp hv).1
    rw [List.getElem?_append_left (by simpa using hi), List.getElem?_map, hv]
    rfl
  · obtain ⟨d, _, rfl⟩ := init_look h
    cases o
  · obtain ⟨d, _, rfl⟩ := init_look h
    cases o
section
variable {P : Program} {w : World} {K : PySem.W.Frag} {mg : Str → Option Value} {base : Heap}
/-- a def keeps the promise of its body's predicate -/
theorem ok_def {x qual : Str} {st : Stmt} {f : Addr} {fd : FuncData} {N ps : List Str} {k : Nat} {m : DS} (F : L2.Fun K x qual st f fd) (S : FnScope N ps (defScope st))
    (hbody : ∀ (cdv : Value) (A : Around) (outer : List Env) (s : Shared) (H : Hp) (E : XK), Room k (A.deeper (envOfC qual (defScope st) s.heap.objs.size f cdv)) →
      SVs (cxOf L2.CX0 P w K mg base N qual (defScope st) f cdv A outer s H E).nox (defBody st) m) (hpn : ps.length ≤ N.length := by decide) :
    FnOk P w K mg base L2.CX0 (k + 1) f fd ps (spOf K ps.length (runF N.length m)) := by
  refine F.ok S (fun vs H Q E h => h.1) fun cdv A outer s H vs Q E hr h => ?_
  obtain ⟨hl, ds, M, r, Qd, q, hQ⟩ := h
  have B := hbody cdv A outer s H E hr
  obtain ⟨ν, e⟩ := init_ok (N := N) r (by rw [hl]; exact hpn)
  have q : m ⟨fun _ => Qd .none, fun x _ => x.own = true ∧ Qd x.d⟩ (initE N.length ds) := by
    have q' := q
    unfold runF at q'
    rw [initK_eq] at q'
    exact q'
  refine ⟨_, B.pss H (fun i => vs[i]?), initE N.length ds, ν, e, ?_⟩
  refine B.mono _ _ _ (fun δ q σ' H' ν' E' => ?_) (fun y δ q v σ' H1 H' ν' M' E' s1 o => ?_) q
  · exact hQ _ q .non H' [] E'.sm .non List.nodup_nil fun _ z => (nomatch z)
  · obtain ⟨ho, q⟩ := q
    refine hQ _ q v H' M' (E'.sm.trans s1) o.rp (o.nd ho) fun a ha => ?_
    rcases o.fr ho a ha with z | ⟨j, _, t, ht, hto, hm⟩
    · exact E'.sm.free z
    · exact (E'.nd j t ht hto).2 a hm
/-- .. as one that may be called -/
theorem cal_def {x : Str} {st : Stmt} {f : Addr} {fd : FuncData} {N ps : List Str} {k : Nat} {m : DS} (F : L2.Fun K x x st f fd) (S : FnScope N ps (defScope st)) (hm : mg x = some (.ref f)) (hb : Binds K fd ps [])
    (hbody : ∀ (cdv : Value) (A : Around) (outer : List Env) (s : Shared) (H : Hp) (E : XK), Room k (A.deeper (envOfC x (defScope st) s.heap.objs.size f cdv)) →
      SVs (cxOf L2.CX0 P w K mg base N x (defScope st) f cdv A outer s H E).nox (defBody st) m) (hpn : ps.length ≤ N.length := by decide) : Cal P w K mg base x (k + 1) ps.length (runF N.length m) :=
  ⟨f, fd, ps, ok_def F S hbody hpn, hm, F.kp, hb⟩
end
end KT
/-! KtF: loops, lists changed in place. -/
namespace KT
open PySem PySem.Spec PyProof.Rows L2

/-! ### loops over data -/
/-- n turns from turn i on -/
def loopN (body : Nat → (En → Prop) → En → Prop) : Nat → Nat → (En → Prop) → En → Prop
  | 0, _, P, δ => P δ
  | n + 1, i, P, δ => body i (loopN body n (i + 1) P) δ
/-- .. that no computation opens -/
@[irreducible] def LoopN (body : Nat → (En → Prop) → En → Prop) (n i : Nat) (P : En → Prop) (δ : En) : Prop := loopN body n i P δ
theorem LoopN_to {body : Nat → (En → Prop) → En → Prop} {n i : Nat} {P : En → Prop} {δ : En} (h : LoopN body n i P δ) : loopN body n i P δ := by
  unfold LoopN at h
  exact h
theorem LoopN_of {body : Nat → (En → Prop) → En → Prop} {n i : Nat} {P : En → Prop} {δ : En} (h : loopN body n i P δ) : LoopN body n i P δ := by
  unfold LoopN
  exact h
theorem loopN_mono {body body' : Nat → (En → Prop) → En → Prop} (hb : ∀ i (P Q : En → Prop), (∀ δ, P δ → Q δ) → ∀ δ, body i P δ → body' i Q δ) {P Q : En → Prop} (h : ∀ δ, P δ → Q δ) : ∀ n i δ, loopN body n i P δ → loopN body' n i Q δ
  | 0, _, _, q => h _ q
  | n + 1, i, δ, q => hb i _ _ (fun δ q => loopN_mono hb h n (i + 1) δ q) δ q

section
variable {K : PySem.W.Frag} {H0 H H1 H' : Hp} {π : Nat → Option V} {σ : L2.St} {δ : En} {ν : Nu} {v : V} {x : Val} {M : List Addr}
/-- a value without lists, to be stored -/
theorem FOk.imm {d : D} (r : Rp K H' v d M) (h : imm d = true) (o : Bool) : FOk K H0 δ ν H' v d o M := by
  have e := r.imm h
  subst e
  exact ⟨r, fun _ => List.nodup_nil, fun _ _ z => (nomatch z), fun _ _ z => (nomatch z), fun _ _ _ _ _ _ z => (nomatch z)⟩

/-! the heap that is shut: all but the names' own lists -/
open Classical in
noncomputable def shut (H : Hp) (δ : En) (ν : Nu) : Hp := fun a => if ∃ i s, δ[i]? = some (some s) ∧ s.own = true ∧ a ∈ ν i then none else H a
theorem shut_same (H : Hp) (δ : En) (ν : Nu) : Same (shut H δ ν) H := fun b o h => by
  unfold shut at h
  split at h
  · cases h
  · exact h
mutual
theorem Rp.lsts {v : V} {d : D} {N : List Addr} : Rp K H v d N → ∀ a ∈ N, ∃ xs, H a = some (.lst xs)
  | .non => fun _ h => nomatch h
  | .bl _ => fun _ h => nomatch h
  | .int _ => fun _ h => nomatch h
  | .str _ => fun _ h => nomatch h
  | .lst h r => fun a ha => by
    rcases List.mem_cons.mp ha with rfl | ha
    · exact ⟨_, h⟩
    · exact r.lsts a ha
  | .tup h r => r.lsts
  | .scr _ => fun _ h => nomatch h
theorem Rps.lsts {vs : List V} {ds : List D} {N : List Addr} : Rps K H vs ds N → ∀ a ∈ N, ∃ xs, H a = some (.lst xs)
  | .nil => fun _ h => nomatch h
  | .cons r s => fun a ha => (List.mem_append.mp ha).elim (r.lsts a) (s.lsts a)
end
mutual
/-- what a value needs of the heap: its lists and what is no list -/
theorem Rp.keep {v : V} {d : D} {N : List Addr} : Rp K H v d N → (∀ a o, H a = some o → (a ∈ N ∨ ∀ xs, o ≠ .lst xs) → H' a = some o) → Rp K H' v d N
  | .non, _ => .non
  | .bl c, _ => .bl c
  | .int i, _ => .int i
  | .str x, _ => .str x
  | .lst h r, k => .lst (k _ _ h (.inl List.mem_cons_self)) (Rps.keep r fun a o e q => k a o e (q.imp (List.mem_cons_of_mem _) id))
  | .tup h r, k => .tup (h.imp (fun z => z.imp (fun z => k _ _ z (.inr fun _ e => nomatch e)) fun ⟨o, z⟩ => ⟨o, k _ _ z (.inr fun _ e => nomatch e)⟩) id) (Rps.keep r k)
  | .scr h, k => .scr (h.imp (fun ⟨o, q⟩ => ⟨o, k _ _ q (.inr fun _ e => nomatch e)⟩) id)
theorem Rps.keep {vs : List V} {ds : List D} {N : List Addr} : Rps K H vs ds N → (∀ a o, H a = some o → (a ∈ N ∨ ∀ xs, o ≠ .lst xs) → H' a = some o) → Rps K H' vs ds N
  | .nil, _ => .nil
  | .cons r s, k => .cons (Rp.keep r fun a o e q => k a o e (q.imp (List.mem_append_left _) id)) (Rps.keep s fun a o e q => k a o e (q.imp (List.mem_append_right _) id))
end
theorem EnvOk.shut (E : EnvOk K H0 π H σ δ ν) : EnvOk K (shut H δ ν) π H σ δ ν := by
  refine ⟨E.len, shut_same H δ ν, E.at_, fun i s h o => ⟨(E.nd i s h o).1, fun a ha => ?_⟩, E.dj⟩
  unfold KT.shut
  rw [if_pos ⟨i, s, h, o, ha⟩]
theorem shut_over (E : EnvOk K H0 π H σ δ ν) : Same H0 (shut H δ ν) := fun b o h => by
  unfold shut
  rw [if_neg]
  · exact E.sm b o h
  · rintro ⟨i, s, hs, ho, hm⟩
    rw [(E.nd i s hs ho).2 b hm] at h
    cases h
theorem EnvOk.open {H2 : Hp} (E : EnvOk K H2 π H σ δ ν) (s : Same H0 H2) : EnvOk K H0 π H σ δ ν :=
  ⟨E.len, s.trans E.sm, E.at_, fun i t h o => ⟨(E.nd i t h o).1, fun a ha => s.free ((E.nd i t h o).2 a ha)⟩, E.dj⟩
/-- a value that touches no name's own list stands in the shut heap -/
theorem Rp.shut (E : EnvOk K H0 π H σ δ ν) {v : V} {d : D} {N : List Addr} (r : Rp K H v d N) (al : ∀ j s, δ[j]? = some (some s) → s.own = true → ∀ a ∈ ν j, a ∉ N) : Rp K (shut H δ ν) v d N := by
  refine r.keep fun a o e q => ?_
  unfold KT.shut
  rw [if_neg]
  · exact e
  · rintro ⟨i, s, hs, ho, hm⟩
    rcases q with q | q
    · exact al i s hs ho a hm q
    · obtain ⟨v', _, rv, _⟩ := E.at_ i s hs
      obtain ⟨xs, e'⟩ := rv.lsts a hm
      rw [e] at e'
      cases e'
      exact q xs rfl
/-- a part of the shut heap, to be stored as shared -/
theorem FOk.shared {H2 : Hp} (E : EnvOk K H2 π H σ δ ν) {d : D} {L : List Addr} (r : Rp K H2 v d L) : FOk K H2 δ ν H v d false L :=
  ⟨r.same E.sm, fun z => (nomatch z), fun z => (nomatch z), fun z => (nomatch z), fun j s h o a ha hm => r.trk a hm ((E.nd j s h o).2 a ha)⟩
end

section
variable {X : Cx} {a b e c : Expr} {es : List Expr} {fa fb f : DE} {g : DA} {t : DT} {pos : Pos} {st : Stmt} {sts : List Stmt} {m n : DS}

/-! ### for over a range -/
def rg1 (ds : List D) (P : Int → Nat → Prop) : Prop := match ds with
  | [.int j] => (-(2 ^ 62) ≤ j ∧ j < 2 ^ 62) ∧ P 0 j.toNat
  | _ => False
def rg2 (ds : List D) (P : Int → Nat → Prop) : Prop := match ds with
  | [.int i, .int j] => (-(2 ^ 62) ≤ i ∧ i < 2 ^ 62 ∧ -(2 ^ 62) ≤ j ∧ j < 2 ^ 62) ∧ P i (j - i).toNat
  | _ => False
theorem rg1_mono {ds : List D} {P Q : Int → Nat → Prop} (h : ∀ i n, P i n → Q i n) (q : rg1 ds P) : rg1 ds Q := by
  unfold rg1 at *
  split at q
  · exact ⟨q.1, h _ _ q.2⟩
  · exact q.elim
theorem rg2_mono {ds : List D} {P Q : Int → Nat → Prop} (h : ∀ i n, P i n → Q i n) (q : rg2 ds P) : rg2 ds Q := by
  unfold rg2 at *
  split at q
  · exact ⟨q.1, h _ _ q.2⟩
  · exact q.elim
def bodyR (tg : Tgt) (wl : List Nat) (m : DS) (E : DEnds) (lo : Int) : Nat → (En → Prop) → En → Prop := fun k P δ => asgT tg (.int (lo + k)) true (killR δ wl) fun δ' => m ⟨P, E.rt⟩ δ'
def mForR (rg : List D → (Int → Nat → Prop) → Prop) (tg : Tgt) (wl : List Nat) (g : DA) (m : DS) : DS := fun E δ => g δ fun xs => rg (xs.map Val.d) fun lo n => LoopN (bodyR tg wl m E lo) n 0 (fun δ => E.nx (killR δ wl)) δ
theorem bodyR_mono {tg : Tgt} {wl : List Nat} (hm : MonoS m) {A B : DEnds} (h2 : ∀ x δ, A.rt x δ → B.rt x δ) {lo : Int} : ∀ i (P Q : En → Prop), (∀ δ, P δ → Q δ) → ∀ δ, bodyR tg wl m A lo i P δ → bodyR tg wl m B lo i Q δ := fun i P Q h δ q =>
  asgT_mono (fun δ q => hm ⟨P, A.rt⟩ ⟨Q, B.rt⟩ δ h h2 q) q
theorem forR_sem {tg : Tgt} {wl : List Nat} {H0 : Hp} {π : Nat → Option V} {lo : Int} {n : Nat} (hm : MonoS m) {D : Ends} {σ : L2.St} {H : Hp} {δ : En} {ν : Nu} (E : EnvOk X.K H0 π H σ δ ν)
    (q : loopN (bodyR tg wl m (dEnds X.K H0 π D) lo) n 0 (fun δ => (dEnds X.K H0 π D).nx (killR δ wl)) δ) :
    ∃ W : Nat → Nat → L2.St → Hp → Prop, (∃ m, W 0 m σ H) ∧ ∀ i k σ H, W i k σ H →
      ((Itr lo n).stop i H ∧ D.nx σ H) ∨ ((Itr lo n).go i H ∧ ∃ N : L2.St → Hp → Prop, (∀ σ' H', N σ' H' → ∃ m', m' < k ∧ W (i + 1) m' σ' H') ∧ ∀ x H', (Itr lo n).yld i H x H' → gOf X.K tg x σ H' fun σ2 H2 => semS X.K H0 π m { D with nx := N, ct := N, bk := D.nx } σ2 H2) := by
  refine for_range (lo := lo) (n := n) (fun k σ H => ∃ δ ν, EnvOk X.K H0 π H σ δ ν ∧ loopN (bodyR tg wl m (dEnds X.K H0 π D) lo) (n - k) k (fun δ => (dEnds X.K H0 π D).nx (killR δ wl)) δ) ⟨δ, ν, E, q⟩ (fun k σ H hk ⟨δ, ν, E, q⟩ => ?_) fun σ H ⟨δ, ν, E, q⟩ => ?_
  · obtain ⟨r, hr⟩ : ∃ r, n - k = r + 1 := ⟨n - k - 1, by omega⟩
    have hr2 : n - (k + 1) = r := by omega
    rw [hr] at q
    refine asgT_ok (E.kill wl) (FOk.imm (.int _) rfl true) q fun σ' δ' ν' E' q => ⟨δ', ν', E', ?_⟩
    exact hm ⟨loopN (bodyR tg wl m (dEnds X.K H0 π D) lo) r (k + 1) (fun δ => (dEnds X.K H0 π D).nx (killR δ wl)), (dEnds X.K H0 π D).rt⟩ _ _ (fun δ q σ'' H'' ν'' E'' => ⟨δ, ν'', E'', by rw [hr2]; exact q⟩) (fun x δ q => q) q
  · rw [Nat.sub_self] at q
    exact q _ _ _ (E.kill wl)
theorem mforR_mono {rg : List D → (Int → Nat → Prop) → Prop} {tg : Tgt} {wl : List Nat} (hr : ∀ {ds : List D} {P Q : Int → Nat → Prop}, (∀ i n, P i n → Q i n) → rg ds P → rg ds Q)
    (hg : ∀ δ (P P' : List Val → Prop), (∀ x, P x → P' x) → g δ P → g δ P') (hm : MonoS m) : MonoS (mForR rg tg wl g m) := fun A B δ h1 h2 q =>
  hg _ _ _ (fun xs q => hr (fun i n q => LoopN_of (loopN_mono (bodyR_mono hm h2) (fun δ q => h1 _ q) _ _ _ (LoopN_to q))) q) q
theorem sv_forR1 {tgt : Expr} {tg : Tgt} (wl : List Nat) {body : List Stmt} {p pos' : Pos} (hp : PassesOwn (model X.prog X.w) X.A X.env X.xe) (hc : X.calm = true) (hr : Gl X "range") (hmr : X.mg "range" = none) (ha : EA X [a] g) (htg : TgOk X tgt tg) (hb : SVs X body m)
    (hs1 : starEach [a] X.env = [(false, eval a X.env)] := by rfl) (hs : ∀ x, foldedSetIterable (.Call (.Name "range" p) [a] [] pos') X.env x = pure x := by intro _; rfl) :
    SV X (.For tgt (.Call (.Name "range" p) [a] [] pos') body [] pos) (mForR rg1 tg wl g m) := by
  refine ⟨mforR_mono rg1_mono ha.mono hb.mono, fun H0 π => psi (ps_for hp hc (pi_range1 hr hmr (ha.pa H0 π) hs1) htg.pg (hb.pss H0 π) hs) fun D σ H ⟨δ, ν, E, q⟩ => ?_⟩
  refine ⟨δ, ν, E, ha.mono _ _ _ (fun xs q vs H1 Ms s1 o1 => ?_) q⟩
  have r := o1.rps
  revert q
  generalize xs.map Val.d = ds at r
  intro q
  unfold rg1 at q
  split at q
  · obtain ⟨v, rfl, u⟩ := r.one_
    rw [u.int_]
    exact ⟨_, rfl, q.1.1, q.1.2, forR_sem hb.mono (E.same s1) (LoopN_to q.2)⟩
  · exact q.elim
theorem sv_forR2 {tgt : Expr} {tg : Tgt} (wl : List Nat) {body : List Stmt} {p pos' : Pos} (hp : PassesOwn (model X.prog X.w) X.A X.env X.xe) (hc : X.calm = true) (hr : Gl X "range") (hmr : X.mg "range" = none) (ha : EA X [a, b] g) (htg : TgOk X tgt tg) (hb : SVs X body m)
    (hs1 : starEach [a, b] X.env = [(false, eval a X.env), (false, eval b X.env)] := by rfl) (hs2 : starEach [b] X.env = [(false, eval b X.env)] := by rfl) (hs : ∀ x, foldedSetIterable (.Call (.Name "range" p) [a, b] [] pos') X.env x = pure x := by intro _; rfl) :
    SV X (.For tgt (.Call (.Name "range" p) [a, b] [] pos') body [] pos) (mForR rg2 tg wl g m) := by
  refine ⟨mforR_mono rg2_mono ha.mono hb.mono, fun H0 π => psi (ps_for hp hc (pi_range2 hr hmr (ha.pa H0 π) hs1 hs2) htg.pg (hb.pss H0 π) hs) fun D σ H ⟨δ, ν, E, q⟩ => ?_⟩
  refine ⟨δ, ν, E, ha.mono _ _ _ (fun xs q vs H1 Ms s1 o1 => ?_) q⟩
  have r := o1.rps
  revert q
  generalize xs.map Val.d = ds at r
  intro q
  unfold rg2 at q
  split at q
  · obtain ⟨v, w, A, B, rfl, u1, u2⟩ := r.two_
    rw [u1.int_, u2.int_]
    exact ⟨_, _, rfl, q.1, forR_sem hb.mono (E.same s1) (LoopN_to q.2)⟩
  · exact q.elim

/-! ### for over a list or a tuple -/
/-- what is walked: a list or a tuple at an address -/
def iSeq (K : PySem.W.Frag) (tl : TE) : TI := fun σ H R => tl σ H fun x H1 => ∃ a, x = .ref a ∧ (((∃ xs, SqL K H1 a xs) ∧ R (Itl K a) H1) ∨ ((∃ xs, SqT K H1 a xs) ∧ R (Itt K a) H1))
theorem pi_seq {tgt l : Expr} {tl : TE} (hl : PE X l tl) : PI X tgt l (iSeq X.K tl) := by
  refine ⟨fun pins s σ H R I h => ?_⟩
  refine thn (hl.run pins s σ H _ I h) fun v s1 h2 => ?_
  obtain ⟨x, H1, I1, r1, a, e, q⟩ := h2
  subst e
  rcases q with ⟨hq, q⟩ | ⟨hq, q⟩
  · have P : PE X l (fun σ2 H2 Q => False) := ⟨fun _ _ _ _ _ _ z => z.elim⟩
    obtain ⟨xs, hq⟩ := hq
    cases r1
    obtain ⟨its, rv, p, hz⟩ := I1.list hq
    refine wpAny_pyIter_list p.isList ⟨s1.heap.objs.size, [s1.heap.objs.size], _, _, H1, rfl, ?_, turn_list a _, ⟨_, Heap.get?_push_size _ rfl, rfl, rfl⟩, fun b hb => ?_, q⟩
    · exact I1.kept (t' := s1.toks) fun b o e => Heap.get?_push_of_some _ e
    · rw [List.mem_singleton.mp hb]
      exact I1.fpOk (Nat.le_refl _) (I1.hok.fresh (Nat.le_refl _))
  · obtain ⟨xs, hq⟩ := hq
    cases r1
    obtain ⟨its, rv, p, hz⟩ := I1.tuple hq
    refine wpAny_pyIter_tuple (show s1.heap.IsTuple a its.toArray from p) ⟨s1.heap.objs.size, [s1.heap.objs.size], _, _, H1, rfl, ?_, turn_tuple a _, ⟨_, Heap.get?_push_size _ rfl, rfl, rfl⟩, fun b hb => ?_, q⟩
    · exact I1.kept (t' := s1.toks) fun b o e => Heap.get?_push_of_some _ e
    · rw [List.mem_singleton.mp hb]
      exact I1.fpOk (Nat.le_refl _) (I1.hok.fresh (Nat.le_refl _))
/-- the turns over a list's items -/
def loopL (body : D → (En → Prop) → En → Prop) : List D → (En → Prop) → En → Prop
  | [], P, δ => P δ
  | d :: ds, P, δ => body d (loopL body ds P) δ
@[irreducible] def LoopL (body : D → (En → Prop) → En → Prop) (ds : List D) (P : En → Prop) (δ : En) : Prop := loopL body ds P δ
theorem LoopL_to {body : D → (En → Prop) → En → Prop} {ds : List D} {P : En → Prop} {δ : En} (h : LoopL body ds P δ) : loopL body ds P δ := by
  unfold LoopL at h
  exact h
theorem LoopL_of {body : D → (En → Prop) → En → Prop} {ds : List D} {P : En → Prop} {δ : En} (h : loopL body ds P δ) : LoopL body ds P δ := by
  unfold LoopL
  exact h
theorem loopL_mono {body body' : D → (En → Prop) → En → Prop} (hb : ∀ i (P Q : En → Prop), (∀ δ, P δ → Q δ) → ∀ δ, body i P δ → body' i Q δ) {P Q : En → Prop} (h : ∀ δ, P δ → Q δ) : ∀ ds δ, loopL body ds P δ → loopL body' ds Q δ
  | [], _, q => h _ q
  | d :: ds, δ, q => hb d _ _ (fun δ q => loopL_mono hb h ds δ q) δ q
def seqOf : D → Option (List D)
  | .list ds => some ds
  | .tuple ds => some ds
  | _ => none
def bodyV (tg : Tgt) (wl : List Nat) (m : DS) (E : DEnds) : D → (En → Prop) → En → Prop := fun d P δ => asgT tg d (imm d) (killR δ wl) fun δ' => m ⟨P, E.rt⟩ δ'
/-- over a value that no name changes meanwhile -/
def mForV (tg : Tgt) (wl : List Nat) (f : DE) (m : DS) : DS := fun E δ => f δ fun x => match seqOf x.d with
  | some ds => LoopL (bodyV tg wl m E) ds (fun δ => E.nx (killR δ wl)) (demR δ x.roots)
  | none => False
theorem bodyV_mono {tg : Tgt} {wl : List Nat} (hm : MonoS m) {A B : DEnds} (h2 : ∀ x δ, A.rt x δ → B.rt x δ) : ∀ i (P Q : En → Prop), (∀ δ, P δ → Q δ) → ∀ δ, bodyV tg wl m A i P δ → bodyV tg wl m B i Q δ := fun i P Q h δ q =>
  asgT_mono (fun δ q => hm ⟨P, A.rt⟩ ⟨Q, B.rt⟩ δ h h2 q) q
theorem mforV_mono {tg : Tgt} {wl : List Nat} (hf : ∀ δ (P P' : Val → Prop), (∀ x, P x → P' x) → f δ P → f δ P') (hm : MonoS m) : MonoS (mForV tg wl f m) := fun A B δ h1 h2 q => hf _ _ _ (fun x q => by
  revert q
  split
  · exact fun q => LoopL_of (loopL_mono (bodyV_mono hm h2) (fun δ q => h1 _ q) _ _ (LoopL_to q))
  · exact id) q
theorem dEnds_open {K : PySem.W.Frag} {H0 H2 : Hp} {π : Nat → Option V} {D : Ends} (s : Same H0 H2) : (∀ δ, (dEnds K H0 π D).nx δ → (dEnds K H2 π D).nx δ) ∧ ∀ x δ, (dEnds K H0 π D).rt x δ → (dEnds K H2 π D).rt x δ :=
  ⟨fun δ q σ H ν E => q σ H ν (E.open s), fun x δ q v σ H H' ν M E => q v σ H H' ν M (E.open s)⟩
theorem FOk.item {K : PySem.W.Frag} {H2 H : Hp} {π : Nat → Option V} {σ : L2.St} {δ : En} {ν : Nu} {v : V} {d : D} {L : List Addr} (E : EnvOk K H2 π H σ δ ν) (r : Rp K H2 v d L) : FOk K H2 δ ν H v d (KT.imm d) L := by
  cases h : KT.imm d with
  | true => exact FOk.imm (r.same E.sm) h true
  | false => exact FOk.shared E r
/-- the loop's turns, the walked thing standing in the shut heap -/
theorem forV_sem {tg : Tgt} {wl : List Nat} {H2 : Hp} {π : Nat → Option V} {ds : List KT.D} (hm : MonoS m) {D : Ends} {σ : L2.St} {H : Hp} {δ : En} {ν : Nu} {p : Addr} {d : KT.D} {M : List Addr} (E : EnvOk X.K H2 π H σ δ ν)
    (r : Rp X.K H2 (.ref p) d M) (hd : seqOf d = some ds) {F : DEnds} (hF : ∀ x δ, F.rt x δ → (dEnds X.K H2 π D).rt x δ) (hn : ∀ δ, F.nx δ → (dEnds X.K H2 π D).nx δ) {t2 : TS} (ht : ∀ D' σ H, semS X.K H2 π m D' σ H → t2 D' σ H)
    (q : loopL (bodyV tg wl m F) ds (fun δ => F.nx (killR δ wl)) δ) (J : It) (hJ : (∃ xs, d = .list xs ∧ J = Itl X.K p) ∨ (∃ xs, d = .tuple xs ∧ J = Itt X.K p)) :
    ∃ W : Nat → Nat → L2.St → Hp → Prop, (∃ m, W 0 m σ H) ∧ ∀ i k σ H, W i k σ H →
      (J.stop i H ∧ D.nx σ H) ∨ (J.go i H ∧ ∃ N : L2.St → Hp → Prop, (∀ σ' H', N σ' H' → ∃ m', m' < k ∧ W (i + 1) m' σ' H') ∧ ∀ x H', J.yld i H x H' → gOf X.K tg x σ H' fun σ3 H3 => t2 { D with nx := N, ct := N, bk := D.nx } σ3 H3) := by
  have turn : ∀ (i : Nat) (x : V) (xs : List V) (L : List Addr) (σ : L2.St) (H : Hp), Rps X.K H2 xs ds L → xs[i]? = some x → (∃ δ ν, EnvOk X.K H2 π H σ δ ν ∧ loopL (bodyV tg wl m F) (ds.drop i) (fun δ => F.nx (killR δ wl)) δ) →
      gOf X.K tg x σ H fun σ3 H3 => t2 { D with nx := fun σ H => ∃ δ ν, EnvOk X.K H2 π H σ δ ν ∧ loopL (bodyV tg wl m F) (ds.drop (i + 1)) (fun δ => F.nx (killR δ wl)) δ, ct := fun σ H => ∃ δ ν, EnvOk X.K H2 π H σ δ ν ∧ loopL (bodyV tg wl m F) (ds.drop (i + 1)) (fun δ => F.nx (killR δ wl)) δ, bk := D.nx } σ3 H3 := by
    intro i x xs L σ H hs hx ⟨δ, ν, E, q⟩
    obtain ⟨e, A, L', B, h1, h2, h3⟩ := hs.getV hx
    obtain ⟨hi, hie⟩ := List.getElem?_eq_some_iff.mp h1
    rw [List.drop_eq_getElem_cons hi, hie] at q
    refine asgT_ok (E.kill wl) (FOk.item (E.kill wl) h3) q fun σ' δ' ν' E' q => ht _ _ _ ⟨δ', ν', E', ?_⟩
    exact hm ⟨loopL (bodyV tg wl m F) (ds.drop (i + 1)) (fun δ => F.nx (killR δ wl)), F.rt⟩ _ _ (fun δ q σ'' H'' ν'' E'' => ⟨δ, ν'', E'', q⟩) hF q
  have fin : ∀ σ H, (∃ δ ν, EnvOk X.K H2 π H σ δ ν ∧ loopL (bodyV tg wl m F) (ds.drop ds.length) (fun δ => F.nx (killR δ wl)) δ) → D.nx σ H := by
    intro σ H ⟨δ, ν, E, q⟩
    rw [List.drop_length] at q
    exact hn _ q _ _ _ (E.kill wl)
  rcases hJ with ⟨xs', rfl, rfl⟩ | ⟨xs', rfl, rfl⟩
  · cases hd
    obtain ⟨a, xs, L, e, rfl, ha, s⟩ := r.list_
    cases e
    refine for_list (K := X.K) (a := p) (xs := xs) (g := gOf X.K tg) (fun i σ H => ∃ δ ν, EnvOk X.K H2 π H σ δ ν ∧ loopL (bodyV tg wl m F) (ds.drop i) (fun δ => F.nx (killR δ wl)) δ) ⟨δ, ν, E, q⟩ (fun i σ H _ ⟨δ, ν, E, _⟩ => SqL.of (E.sm _ _ ha)) (fun i x σ H hx h => turn i x xs L σ H s hx h) (fun σ H h => fin σ H ?_)
    rw [s.length] at h
    exact h
  · cases hd
    obtain ⟨a, xs, e, ha, s⟩ := r.tuple_
    cases e
    refine for_tup (K := X.K) (a := p) (xs := xs) (g := gOf X.K tg) (fun i σ H => ∃ δ ν, EnvOk X.K H2 π H σ δ ν ∧ loopL (bodyV tg wl m F) (ds.drop i) (fun δ => F.nx (killR δ wl)) δ) ⟨δ, ν, E, q⟩ (fun i σ H _ ⟨δ, ν, E, _⟩ => SqT.same E.sm ha) (fun i x σ H hx h => turn i x xs M σ H s hx h) (fun σ H h => fin σ H ?_)
    rw [s.length] at h
    exact h
/-- a block at any shut heap, any pins -/
def semAny (K : PySem.W.Frag) (m : DS) : TS := fun D σ H => ∃ H2 π, semS K H2 π m D σ H
theorem SVs.any (h : SVs X sts m) : PSs X sts (semAny X.K m) := ⟨fun pins s σ H D I ⟨H2, π, q⟩ => (h.pss H2 π).run pins s σ H D I q⟩
theorem sv_forV {tgt iter : Expr} {tg : Tgt} (wl : List Nat) {body : List Stmt} (hp : PassesOwn (model X.prog X.w) X.A X.env X.xe) (hc : X.calm = true) (he : EV X iter f) (htg : TgOk X tgt tg) (hb : SVs X body m)
    (hs : ∀ x, foldedSetIterable iter X.env x = pure x := by intro _; rfl) : SV X (.For tgt iter body [] pos) (mForV tg wl f m) := by
  refine ⟨mforV_mono he.mono hb.mono, fun H0 π => psi (ps_for hp hc (pi_seq (he.pe H0 π)) htg.pg hb.any hs) fun D σ H ⟨δ, ν, E, q⟩ => ?_⟩
  refine ⟨δ, ν, E, he.mono _ _ _ (fun x q v H1 M s1 o1 => ?_) q⟩
  have E1 := (E.same s1).dem x.roots
  have o2 := o1.demoted E
  have r2 := Rp.shut E1 o1.rp o2.al
  have E2 := E1.shut
  have so : Same H0 (shut H1 (demR δ x.roots) ν) := shut_over E1
  have go : ∀ (p : Addr) (ds : List KT.D) (J : It), v = .ref p → seqOf x.d = some ds → ((∃ xs, x.d = .list xs ∧ J = Itl X.K p) ∨ (∃ xs, x.d = .tuple xs ∧ J = Itt X.K p)) → loopL (bodyV tg wl m (dEnds X.K H0 π D)) ds (fun δ => (dEnds X.K H0 π D).nx (killR δ wl)) (demR δ x.roots) →
      ∃ W : Nat → Nat → L2.St → Hp → Prop, (∃ m, W 0 m σ H1) ∧ ∀ i k σ H, W i k σ H →
        (J.stop i H ∧ D.nx σ H) ∨ (J.go i H ∧ ∃ N : L2.St → Hp → Prop, (∀ σ' H', N σ' H' → ∃ m', m' < k ∧ W (i + 1) m' σ' H') ∧ ∀ x H', J.yld i H x H' → gOf X.K tg x σ H' fun σ3 H3 => semAny X.K m { D with nx := N, ct := N, bk := D.nx } σ3 H3) := by
    intro p ds J ev hd hJ q
    subst ev
    exact forV_sem hb.mono E2 r2 hd (dEnds_open so).2 (dEnds_open so).1 (fun D' σ H h => ⟨_, _, h⟩) q J hJ
  have r := o1.rp
  revert q
  cases hx : x.d with
  | list ds =>
    intro q
    rw [hx] at r
    obtain ⟨a, xs, L, rfl, _, ha, s⟩ := r.list_
    exact ⟨a, rfl, .inl ⟨⟨xs, SqL.of ha⟩, go a ds _ rfl (by rw [hx]; rfl) (.inl ⟨ds, hx, rfl⟩) (LoopL_to q)⟩⟩
  | tuple ds =>
    intro q
    rw [hx] at r
    obtain ⟨a, xs, rfl, ha, s⟩ := r.tuple_
    exact ⟨a, rfl, .inr ⟨⟨xs, ha⟩, go a ds _ rfl (by rw [hx]; rfl) (.inr ⟨ds, hx, rfl⟩) (LoopL_to q)⟩⟩
  | _ => exact False.elim
end
end KT
/-! KtG: for over a name, comprehensions, lists changed in place. -/
namespace KT
open PySem PySem.Spec PyProof.Rows L2

/-! ### a name that stays while its list is walked -/
def unpin (j : Nat) (p : Bool) (δ : En) : En := match p with
  | true => δ
  | false => (match δ[j]? with
    | some (some t) => δ.set j (some ⟨t.d, t.own, false⟩)
    | _ => δ)
theorem unpin_look {j : Nat} {p : Bool} {δ : En} {i : Nat} {s : Slot} (h : (unpin j p δ)[i]? = some (some s)) : ∃ t, δ[i]? = some (some t) ∧ s.d = t.d ∧ s.own = t.own ∧ (s.pin = true → t.pin = true ∧ (i = j → p = true)) := by
  unfold unpin at h
  cases p with
  | true => exact ⟨s, h, rfl, rfl, fun z => ⟨z, fun _ => rfl⟩⟩
  | false =>
    dsimp only at h
    split at h
    · rename_i t ht
      by_cases e : j = i
      · subst e
        rw [List.getElem?_set_self (List.getElem?_eq_some_iff.mp ht).1] at h
        cases h
        exact ⟨t, ht, rfl, rfl, fun z => (nomatch z)⟩
      · rw [List.getElem?_set_ne e] at h
        exact ⟨s, h, rfl, rfl, fun z => ⟨z, fun z' => absurd z'.symm e⟩⟩
    · rename_i hn
      refine ⟨s, h, rfl, rfl, fun z => ⟨z, fun z' => ?_⟩⟩
      subst z'
      exact absurd h (hn s)
theorem unpin_there {j : Nat} {p : Bool} {δ : En} {i : Nat} {t : Slot} (h : δ[i]? = some (some t)) : ∃ s, (unpin j p δ)[i]? = some (some s) ∧ s.own = t.own := by
  unfold unpin
  cases p with
  | true => exact ⟨t, h, rfl⟩
  | false =>
    dsimp only
    split
    · rename_i u hu
      by_cases e : j = i
      · subst e
        rw [h] at hu
        cases hu
        exact ⟨_, List.getElem?_set_self (List.getElem?_eq_some_iff.mp h).1, rfl⟩
      · exact ⟨t, by rw [List.getElem?_set_ne e]; exact h, rfl⟩
    · exact ⟨t, h, rfl⟩
theorem unpin_len (j : Nat) (p : Bool) (δ : En) : (unpin j p δ).length = δ.length := by
  unfold unpin
  cases p
  · dsimp only; split <;> simp
  · rfl
section
variable {K : PySem.W.Frag} {H0 H H1 H' : Hp} {π : Nat → Option V} {σ : L2.St} {δ : En} {ν : Nu} {v : V} {x : Val} {M : List Addr}
/-- the same names, less owned, pinned otherwise -/
theorem EnvOk.re (E : EnvOk K H0 π H σ δ ν) {δ' : En} {π' : Nat → Option V} (hl : δ'.length = δ.length)
    (h : ∀ i s, δ'[i]? = some (some s) → ∃ t, δ[i]? = some (some t) ∧ s.d = t.d ∧ (s.own = true → t.own = true) ∧ (s.pin = true → ∀ v, σ[i]? = some (some v) → π' i = some v)) : EnvOk K H0 π' H σ δ' ν := by
  refine ⟨hl.trans E.len, E.sm, fun i s hs => ?_, fun i s hs o => ?_, fun i j s t n hs o ht => ?_⟩
  · obtain ⟨t, h1, h2, h3, h4⟩ := h i s hs
    obtain ⟨w, a, b, c⟩ := E.at_ i t h1
    exact ⟨w, a, h2 ▸ b, fun z => h4 z w a⟩
  · obtain ⟨t, h1, h2, h3, h4⟩ := h i s hs
    exact E.nd i t h1 (h3 o)
  · obtain ⟨t1, h1, h2, h3, h4⟩ := h i s hs
    obtain ⟨t2, h5, _⟩ := h j t ht
    exact E.dj i j t1 t2 n h1 (h3 o) h5
def pinTo (π : Nat → Option V) (j : Nat) (v : V) : Nat → Option V := fun i => if i = j then some v else π i
theorem EnvOk.pin (E : EnvOk K H0 π H σ δ ν) {j : Nat} {s : Slot} {o : Bool} (hj : δ[j]? = some (some s)) (hv : σ[j]? = some (some v)) (ho : o = true → s.own = true) : EnvOk K H0 (pinTo π j v) H σ (δ.set j (some ⟨s.d, o, true⟩)) ν := by
  have hl := (List.getElem?_eq_some_iff.mp hj).1
  refine E.re (by simp) fun i t h => ?_
  by_cases e : j = i
  · subst e
    rw [List.getElem?_set_self hl] at h
    cases h
    exact ⟨s, hj, rfl, ho, fun _ w hw => by rw [hv] at hw; cases hw; simp [pinTo]⟩
  · rw [List.getElem?_set_ne e] at h
    refine ⟨t, h, rfl, id, fun z w hw => ?_⟩
    obtain ⟨w', a, _, c⟩ := E.at_ i t h
    rw [hw] at a
    cases a
    unfold pinTo
    rw [if_neg (Ne.symm e)]
    exact c z
theorem EnvOk.unpin (E : EnvOk K H0 (pinTo π j v) H σ δ ν) {p : Bool} (hp : p = true → π j = some v) : EnvOk K H0 π H σ (unpin j p δ) ν := by
  refine E.re (unpin_len _ _ _) fun i s h => ?_
  obtain ⟨t, h1, h2, h3, h4⟩ := unpin_look h
  refine ⟨t, h1, h2, fun z => h3 ▸ z, fun z w hw => ?_⟩
  obtain ⟨w', a, _, c⟩ := E.at_ i t h1
  rw [hw] at a
  cases a
  have q := c (h4 z).1
  unfold pinTo at q
  split at q
  · rename_i e
    subst e
    rw [hp ((h4 z).2 rfl)]
    exact q
  · exact q
theorem VOk.unpin (q : VOk K H δ ν H' v x M) (j : Nat) (p : Bool) : VOk K H (unpin j p δ) ν H' v x M :=
  ⟨q.rp, q.nd, fun o a ha => (q.fr o a ha).imp id fun ⟨k, hk, s, h1, h2, h3⟩ => let ⟨t, h4, h5⟩ := unpin_there h1; ⟨k, hk, t, h4, h5.trans h2, h3⟩,
    fun k s h o n a ha => let ⟨t, h1, _, h3, _⟩ := unpin_look h; q.al k t h1 (h3 ▸ o) n a ha⟩
end
section
variable {X : Cx} {a b e c : Expr} {es : List Expr} {fa fb f : DE} {g : DA} {t : DT} {pos : Pos} {st : Stmt} {sts : List Stmt} {m n : DS}
def bodyN (j : Nat) (s : Slot) (tg : Tgt) (wl : List Nat) (m : DS) (E : DEnds) : D → (En → Prop) → En → Prop := fun d P δ => δ[j]? = some (some s) ∧ asgT tg d (imm d) (killR δ wl) fun δ' => m ⟨P, E.rt⟩ δ'
def ownN (ds : List D) (o : Bool) : Bool := match immL ds with
  | true => o
  | false => false
def mForN (tg : Tgt) (wl : List Nat) (j : Nat) (m : DS) : DS := fun E δ => match δ[j]? with
  | some (some s) => (match seqOf s.d with
    | some ds => LoopL (bodyN j ⟨s.d, ownN ds s.own, true⟩ tg wl m ⟨E.nx, fun x δ => E.rt x (unpin j s.pin δ)⟩) ds (fun δ => δ[j]? = some (some ⟨s.d, ownN ds s.own, true⟩) ∧ E.nx (unpin j s.pin (killR δ wl))) (δ.set j (some ⟨s.d, ownN ds s.own, true⟩))
    | none => False)
  | _ => False
theorem bodyN_mono {j : Nat} {s : Slot} {tg : Tgt} {wl : List Nat} (hm : MonoS m) {A B : DEnds} (h2 : ∀ x δ, A.rt x δ → B.rt x δ) : ∀ i (P Q : En → Prop), (∀ δ, P δ → Q δ) → ∀ δ, bodyN j s tg wl m A i P δ → bodyN j s tg wl m B i Q δ := fun i P Q h δ q =>
  ⟨q.1, asgT_mono (fun δ q => hm ⟨P, A.rt⟩ ⟨Q, B.rt⟩ δ h h2 q) q.2⟩
theorem mforN_mono {tg : Tgt} {wl : List Nat} {j : Nat} (hm : MonoS m) : MonoS (mForN tg wl j m) := fun A B δ h1 h2 q => by
  unfold mForN at *
  split at q
  · rename_i s hs
    split at q
    · exact LoopL_of (loopL_mono (bodyN_mono (A := ⟨A.nx, fun x δ => A.rt x (unpin j s.pin δ)⟩) (B := ⟨B.nx, fun x δ => B.rt x (unpin j s.pin δ)⟩) hm fun x δ q => h2 _ _ q) (fun δ q => ⟨q.1, h1 _ q.2⟩) _ _ (LoopL_to q))
    · exact q.elim
  · exact q.elim
theorem ownN_le {ds : List D} {o : Bool} (h : ownN ds o = true) : o = true ∧ immL ds = true := by
  unfold ownN at h
  split at h
  · rename_i e; exact ⟨h, e⟩
  · cases h
theorem sv_forN {tgt : Expr} {x : Str} {tg : Tgt} (wl : List Nat) (j : Nat) {body : List Stmt} {px : Pos} (hp : PassesOwn (model X.prog X.w) X.A X.env X.xe) (hc : X.calm = true) (htg : TgOk X tgt tg) (hb : SVs X body m)
    (hN : X.N[j]? = some x := by rfl) (hv : Vis X.env.scope x := by first | exact Or.inl rfl | exact Or.inr (Or.inl rfl) | exact Or.inr (Or.inr rfl)) (hd : (x == ("__debug__" : Str)) = false := by decide)
    (hcd : (x == ("__classdict__" : Str)) = false := by decide) (hs : ∀ y, foldedSetIterable (.Name x px) X.env y = pure y := by intro _; rfl) : SV X (.For tgt (.Name x px) body [] pos) (mForN tg wl j m) := by
  refine ⟨mforN_mono hb.mono, fun H0 π => psi (ps_for hp hc (pi_seq (pe_var hN hv hd hcd)) htg.pg hb.any hs) fun D σ H ⟨δ, ν, E, q⟩ => ?_⟩
  unfold mForN at q
  split at q
  · rename_i s hj
    split at q
    · rename_i ds hds
      obtain ⟨v, hv', r, hpin⟩ := E.at_ j s hj
      have E1 : EnvOk X.K H0 (pinTo π j v) H σ (δ.set j (some ⟨s.d, ownN ds s.own, true⟩)) ν := E.pin hj hv' fun z => (ownN_le z).1
      have nxO : ∀ {σ' : L2.St} {H' : Hp} {ν' : Nu} {δ' : En}, EnvOk X.K H0 (pinTo π j v) H' σ' δ' ν' → (dEnds X.K H0 π D).nx (unpin j s.pin (killR δ' wl)) → D.nx σ' H' := fun E' q => q _ _ _ ((E'.kill wl).unpin hpin)
      have rtO : ∀ x δ', (dEnds X.K H0 π D).rt x (unpin j s.pin δ') → (dEnds X.K H0 (pinTo π j v) D).rt x δ' := fun x δ' q v' σ' H1 H2 ν' M E' s1 o1 => q v' σ' H1 H2 ν' M (E'.unpin hpin) s1 (o1.unpin j s.pin)
      -- the list or tuple as it stands at a turn
      have seqAt : ∀ {σ' : L2.St} {H' : Hp} {ν' : Nu} {δ' : En}, EnvOk X.K H0 (pinTo π j v) H' σ' δ' ν' → δ'[j]? = some (some ⟨s.d, ownN ds s.own, true⟩) → Rp X.K H' v s.d (ν' j) := fun E' h => by
        obtain ⟨w, _, r', hp'⟩ := E'.at_ j _ h
        have e := hp' rfl
        unfold pinTo at e
        rw [if_pos rfl] at e
        cases e
        exact r'
      have itemOk : ∀ {σ' : L2.St} {H' : Hp} {ν' : Nu} {δ' : En} {u : V} {d : KT.D} {L : List Addr}, EnvOk X.K H0 (pinTo π j v) H' σ' δ' ν' → δ'[j]? = some (some ⟨s.d, ownN ds s.own, true⟩) → Rp X.K H' u d L → (∀ a ∈ L, a ∈ ν' j) → d ∈ ds →
          FOk X.K H0 (killR δ' wl) ν' H' u d (KT.imm d) L := fun {σ' H' ν' δ' u d L} E' h ru hsub hmem => by
        cases hi : KT.imm d with
        | true => exact FOk.imm ru hi true
        | false =>
          have hno : ownN ds s.own = false := by
            cases hz : ownN ds s.own with
            | false => rfl
            | true =>
              have z := immL_of.mp (ownN_le hz).2 d hmem
              rw [hi] at z
              exact z.symm
          refine ⟨ru, fun z => (nomatch z), fun z => (nomatch z), fun z => (nomatch z), fun k t hk ho a ha hm => ?_⟩
          have hk' := (killR_some hk).1
          have n : k ≠ j := fun e => by
            subst e
            rw [h] at hk'
            cases hk'
            rw [hno] at ho
            cases ho
          exact E'.dj k j t _ n hk' ho h a ha (hsub a hm)
      refine ⟨v, hv', ?_⟩
      have W1 : ∀ (J : It), True → True := fun _ _ => trivial
      let Pv : Nat → L2.St → Hp → Prop := fun i σ H => ∃ δ ν, EnvOk X.K H0 (pinTo π j v) H σ δ ν ∧ loopL (bodyN j ⟨s.d, ownN ds s.own, true⟩ tg wl m ⟨(dEnds X.K H0 π D).nx, fun x δ => (dEnds X.K H0 π D).rt x (unpin j s.pin δ)⟩) (ds.drop i) (fun δ => δ[j]? = some (some ⟨s.d, ownN ds s.own, true⟩) ∧ (dEnds X.K H0 π D).nx (unpin j s.pin (killR δ wl))) δ
      have start0 : Pv 0 σ H := ⟨_, ν, E1, LoopL_to q⟩
      have there : ∀ i σ H, i ≤ ds.length → Pv i σ H → ∃ δ ν, EnvOk X.K H0 (pinTo π j v) H σ δ ν ∧ δ[j]? = some (some ⟨s.d, ownN ds s.own, true⟩) := fun i σ H hi ⟨δ, ν, E', q⟩ => by
        refine ⟨δ, ν, E', ?_⟩
        by_cases hlt : i < ds.length
        · rw [List.drop_eq_getElem_cons hlt] at q
          exact q.1
        · rw [List.drop_eq_nil_of_le (by omega)] at q
          exact q.1
      have fin : ∀ σ H, Pv ds.length σ H → D.nx σ H := fun σ H ⟨δ, ν, E', q⟩ => by
        rw [List.drop_length] at q
        exact nxO E' q.2
      have turn : ∀ (i : Nat) (u : V) (d : KT.D) (σ : L2.St) (H : Hp), ds[i]? = some d → (∀ (δ : En) (ν : Nu), EnvOk X.K H0 (pinTo π j v) H σ δ ν → δ[j]? = some (some ⟨s.d, ownN ds s.own, true⟩) → ∃ L, Rp X.K H u d L ∧ ∀ a ∈ L, a ∈ ν j) → Pv i σ H →
          gOf X.K tg u σ H fun σ3 H3 => semAny X.K m { D with nx := Pv (i + 1), ct := Pv (i + 1), bk := D.nx } σ3 H3 := fun i u d σ H hd hu ⟨δ, ν, E', q⟩ => by
        obtain ⟨hi, hie⟩ := List.getElem?_eq_some_iff.mp hd
        rw [List.drop_eq_getElem_cons hi, hie] at q
        obtain ⟨L, ru, hsub⟩ := hu δ ν E' q.1
        refine asgT_ok (E'.kill wl) (itemOk E' q.1 ru hsub (hie ▸ List.getElem_mem hi)) q.2 fun σ' δ' ν' E'' q => ⟨H0, pinTo π j v, δ', ν', E'', ?_⟩
        exact hb.mono ⟨_, fun x δ => (dEnds X.K H0 π D).rt x (unpin j s.pin δ)⟩ _ _ (fun δ q σ'' H'' ν'' E3 => ⟨δ, ν'', E3, q⟩) rtO q
      revert hds
      cases hsd : s.d with
      | list ds' =>
        intro hds
        cases hds
        rw [hsd] at r
        obtain ⟨p, xs, L, rfl, _, hp1, rs⟩ := r.list_
        refine ⟨p, rfl, .inl ⟨⟨xs, SqL.of hp1⟩, fun i k σ H => k = ds.length - i ∧ i ≤ ds.length ∧ Pv i σ H, ⟨ds.length, by simp, Nat.zero_le _, start0⟩, ?_⟩⟩
        rintro i k σ H ⟨rfl, hi, w⟩
        obtain ⟨δ1, ν1, E', h'⟩ := there i σ H hi w
        have r' := seqAt E' h'
        rw [hsd] at r'
        obtain ⟨p', xs', L', e, _, hp2, rs'⟩ := r'.list_
        cases e
        by_cases hlt : i < ds.length
        · have hl : i < xs'.length := by rw [rs'.length]; exact hlt
          refine .inr ⟨⟨xs', xs'[i], SqL.of hp2, List.getElem?_eq_getElem hl⟩, Pv (i + 1), fun σ' H' p' => ⟨ds.length - (i + 1), by omega, rfl, hlt, p'⟩, fun u H' y => ?_⟩
          obtain ⟨e, y⟩ := y
          subst e
          refine turn i u ds[i] σ _ (List.getElem?_eq_getElem hlt) (fun δ2 ν2 E2 h2 => ?_) w
          have r2 := seqAt E2 h2
          rw [hsd] at r2
          obtain ⟨p2, ys, L2, e, eL, hp3, rs2⟩ := r2.list_
          cases e
          have hy := y ys (SqL.of hp3)
          obtain ⟨w', A, M, B, k1, k2, k3⟩ := rs2.get (List.getElem?_eq_getElem hlt)
          rw [hy] at k1
          cases k1
          exact ⟨M, k3, fun a ha => by rw [eL, k2]; simp [ha]⟩
        · have e : i = ds.length := by omega
          subst e
          exact .inl ⟨⟨xs', SqL.of hp2, by rw [rs'.length]; exact Nat.le_refl _⟩, fin σ H w⟩
      | tuple ds' =>
        intro hds
        cases hds
        rw [hsd] at r
        obtain ⟨p, xs, rfl, hp1, rs⟩ := r.tuple_
        refine ⟨p, rfl, .inr ⟨⟨xs, hp1⟩, fun i k σ H => k = ds.length - i ∧ i ≤ ds.length ∧ Pv i σ H, ⟨ds.length, by simp, Nat.zero_le _, start0⟩, ?_⟩⟩
        rintro i k σ H ⟨rfl, hi, w⟩
        obtain ⟨δ1, ν1, E', h'⟩ := there i σ H hi w
        have r' := seqAt E' h'
        rw [hsd] at r'
        obtain ⟨p', xs', e, hp2, rs'⟩ := r'.tuple_
        cases e
        by_cases hlt : i < ds.length
        · have hl : i < xs'.length := by rw [rs'.length]; exact hlt
          refine .inr ⟨⟨xs', xs'[i], hp2, List.getElem?_eq_getElem hl⟩, Pv (i + 1), fun σ' H' p' => ⟨ds.length - (i + 1), by omega, rfl, hlt, p'⟩, fun u H' y => ?_⟩
          obtain ⟨e, y⟩ := y
          subst e
          refine turn i u ds[i] σ _ (List.getElem?_eq_getElem hlt) (fun δ2 ν2 E2 h2 => ?_) w
          have r2 := seqAt E2 h2
          rw [hsd] at r2
          obtain ⟨p2, ys, e, hp3, rs2⟩ := r2.tuple_
          cases e
          have hy := y ys hp3
          obtain ⟨w', A, M, B, k1, k2, k3⟩ := rs2.get (List.getElem?_eq_getElem hlt)
          rw [hy] at k1
          cases k1
          exact ⟨M, k3, fun a ha => by rw [k2]; simp [ha]⟩
        · have e : i = ds.length := by omega
          subst e
          exact .inl ⟨⟨xs', hp2, by rw [rs'.length]; exact Nat.le_refl _⟩, fin σ H w⟩
      | _ => intro hds; cases hds
    · exact q.elim
  · exact q.elim
end
end KT
/-! KtH: comprehensions; lists changed in place; a, b = x, y. -/
namespace KT
open PySem PySem.Spec PyProof.Rows L2

/-! ### the slots of a comprehension's own names -/
theorem wipe_get (σ : L2.St) : ∀ (vs : List Nat) (i : Nat), (wipe σ vs)[i]? = if i ∈ vs then (if i < σ.length then some none else none) else σ[i]?
  | [], i => by simp [wipe]
  | v :: vs, i => by
    unfold wipe
    by_cases e : v = i
    · subst e
      simp only [List.mem_cons, true_or, if_true]
      by_cases h : v < σ.length
      · rw [List.getElem?_set_self (by rw [wipe_length]; exact h), if_pos h]
      · rw [List.getElem?_eq_none (by rw [List.length_set, wipe_length]; omega), if_neg h]
    · rw [List.getElem?_set_ne e, wipe_get σ vs i]
      have e' : i ≠ v := Ne.symm e
      simp only [List.mem_cons, e', false_or]
theorem wipe_set {σ : L2.St} {vs : List Nat} {i : Nat} (h : i ∈ vs) (o : Option V) : wipe (σ.set i o) vs = wipe σ vs := by
  apply List.ext_getElem?
  intro j
  rw [wipe_get, wipe_get, List.length_set]
  by_cases hj : j ∈ vs
  · rw [if_pos hj, if_pos hj]
  · rw [if_neg hj, if_neg hj, List.getElem?_set_ne (fun e => by subst e; exact hj h)]
theorem wipe_wipe (σ : L2.St) (vs : List Nat) : wipe (wipe σ vs) vs = wipe σ vs := by
  apply List.ext_getElem?
  intro j
  rw [wipe_get, wipe_length]
  by_cases hj : j ∈ vs
  · rw [if_pos hj, wipe_get, if_pos hj]
  · rw [if_neg hj]
theorem wipe_setAll : ∀ {is : List Nat} {σ : L2.St} {ws : List V} {vs : List Nat}, (∀ i ∈ is, i ∈ vs) → wipe (setAllV σ is ws) vs = wipe σ vs
  | [], _, _, _, _ => by simp only [setAllV]
  | _ :: _, _, [], _, _ => by simp only [setAllV]
  | i :: is, σ, w :: ws, vs, h => by
    simp only [setAllV]
    rw [wipe_setAll fun j hj => h j (List.mem_cons_of_mem _ hj), wipe_set (h i List.mem_cons_self)]
def Tgt.slots : Tgt → List Nat
  | .nm i => [i]
  | .tp is => is
theorem asgT_okW {K : PySem.W.Frag} {H0 H : Hp} {π : Nat → Option V} {σ : L2.St} {δ : En} {ν : Nu} {v : V} {d : D} {o : Bool} {M : List Addr} {tg : Tgt} {P : En → Prop} {Q : L2.St → Hp → Prop} {vs : List Nat} (E : EnvOk K H0 π H σ δ ν) (q : FOk K H0 δ ν H v d o M)
    (hs : ∀ i ∈ tg.slots, i ∈ vs) (h : asgT tg d o δ P) (i : ∀ σ' δ' ν', EnvOk K H0 π H σ' δ' ν' → wipe σ' vs = wipe σ vs → P δ' → Q σ' H) : gOf K tg v σ H Q := by
  cases tg with
  | nm j =>
    rw [asgT_nm] at h
    exact i _ _ _ (E.set q j) (wipe_set (hs j (by simp [Tgt.slots])) _) h
  | tp is =>
    have r := q.rp
    cases d with
    | tuple ds =>
      rw [asgT_tp] at h
      obtain ⟨hl, h⟩ := h
      obtain ⟨a, xs, rfl, ha, s⟩ := r.tuple_
      obtain ⟨ν', E'⟩ := set_all_ok (is := is) E s (fun z => ⟨q.nd z, q.fr z, q.dj z⟩) q.al
      exact ⟨a, xs, rfl, ha, by rw [s.length]; exact hl, gnames_ok (by rw [s.length]; exact hl) (i _ _ _ E' (wipe_setAll hs) h)⟩
    | _ => exact h.elim

/-! ### comprehensions over data -/
def lcStep (tg : Tgt) (t : DT) (fe : DE) (δ : En) : D → List D → (List D → Prop) → Prop := fun d acc P => asgT tg d (imm d) δ fun δ' => t δ' fun b => match b with
  | true => fe δ' fun y => (y.own = true ∧ y.roots = [] ∧ acc.length < sizeLine) ∧ P (acc ++ [y.d])
  | false => P acc
def lcL (step : D → List D → (List D → Prop) → Prop) : List D → List D → (List D → Prop) → Prop
  | [], acc, P => P acc
  | d :: ds, acc, P => step d acc fun acc => lcL step ds acc P
@[irreducible] def LcL (step : D → List D → (List D → Prop) → Prop) (ds acc : List D) (P : List D → Prop) : Prop := lcL step ds acc P
theorem LcL_to {step : D → List D → (List D → Prop) → Prop} {ds acc : List D} {P : List D → Prop} (h : LcL step ds acc P) : lcL step ds acc P := by
  unfold LcL at h
  exact h
theorem LcL_of {step : D → List D → (List D → Prop) → Prop} {ds acc : List D} {P : List D → Prop} (h : lcL step ds acc P) : LcL step ds acc P := by
  unfold LcL
  exact h
theorem lcL_mono {step step' : D → List D → (List D → Prop) → Prop} (hb : ∀ d acc (P Q : List D → Prop), (∀ a, P a → Q a) → step d acc P → step' d acc Q) {P Q : List D → Prop} (h : ∀ a, P a → Q a) : ∀ ds acc, lcL step ds acc P → lcL step' ds acc Q
  | [], _, q => h _ q
  | d :: ds, acc, q => hb d acc _ _ (fun a q => lcL_mono hb h ds a q) q
theorem lcStep_mono {tg : Tgt} {t : DT} {fe : DE} {δ : En} (ht : ∀ δ (P P' : Bool → Prop), (∀ x, P x → P' x) → t δ P → t δ P') (he : ∀ δ (P P' : Val → Prop), (∀ x, P x → P' x) → fe δ P → fe δ P') :
    ∀ d acc (P Q : List D → Prop), (∀ a, P a → Q a) → lcStep tg t fe δ d acc P → lcStep tg t fe δ d acc Q := fun d acc P Q h q =>
  asgT_mono (fun δ q => ht _ _ _ (fun b q => by
    cases b
    · exact h _ q
    · exact he _ _ _ (fun y q => ⟨q.1, h _ q.2⟩) q) q) q
/-- the comprehension's turns over items ds -/
def lcRun (tg : Tgt) (wl : List Nat) (t : DT) (fe : DE) (roots : List Nat) (ds : List D) (δ : En) (P : Val → Prop) : Prop :=
  killK δ wl fun δ => demK δ roots fun δ => LcL (lcStep tg t fe δ) ds [] fun acc => P ⟨.list acc, true, []⟩
theorem lcRun_eq (tg : Tgt) (wl : List Nat) (t : DT) (fe : DE) (roots : List Nat) (ds : List D) (δ : En) (P : Val → Prop) :
    lcRun tg wl t fe roots ds δ P = LcL (lcStep tg t fe (demR (killR δ wl) roots)) ds [] fun acc => P ⟨.list acc, true, []⟩ := by
  unfold lcRun
  rw [killK_eq, demK_eq]
def rgItems (lo : Int) (n : Nat) : List D := (List.range n).map fun (k : Nat) => PyData.int (lo + (k : Int))
def dLcR (rg : List D → (Int → Nat → Prop) → Prop) (tg : Tgt) (wl : List Nat) (t : DT) (fe : DE) (g : DA) : DE := fun δ P => g δ fun xs => rg (xs.map Val.d) fun lo n => lcRun tg wl t fe [] (rgItems lo n) δ P
def dLcV (tg : Tgt) (wl : List Nat) (t : DT) (fe : DE) (f : DE) : DE := fun δ P => f δ fun x => match seqOf x.d with
  | some ds => lcRun tg wl t fe x.roots ds δ P
  | none => False
def dtYes : DT := fun _ P => P true
structure ETs (X : Cx) (ifs : List Expr) (f : DT) : Prop where
  mono : ∀ δ (P P' : Bool → Prop), (∀ x, P x → P' x) → f δ P → f δ P'
  pts : ∀ H0 π, PTs X ifs (semT X.K H0 π f)
theorem ptsi {X : Cx} {e : List Expr} {t t' : TT} (h : PTs X e t) (i : ∀ σ H Q, t' σ H Q → t σ H Q) : PTs X e t' :=
  ⟨fun pins s σ H Q I q => h.run pins s σ H Q I (i σ H Q q)⟩
theorem ets_nil {X : Cx} : ETs X [] dtYes := ⟨fun _ _ _ h q => h _ q, fun H0 π => ptsi pts_nil fun σ H Q ⟨δ, ν, E, q⟩ => q H (Same.refl H)⟩
theorem ets_one {X : Cx} {c : Expr} {t : DT} (h : ET X c t) : ETs X [c] t := ⟨h.mono, fun H0 π => pts_one (h.pt H0 π)⟩

section
variable {X : Cx} {a b e c : Expr} {es : List Expr} {fa fb f fe : DE} {g : DA} {t : DT} {pos : Pos} {st : Stmt} {sts : List Stmt} {m n : DS}
def semEAny (K : PySem.W.Frag) (f : DE) : TE := fun σ H Q => ∃ H2 π, semE K H2 π f σ H Q
def semTAny (K : PySem.W.Frag) (f : DT) : TT := fun σ H Q => ∃ H2 π, semT K H2 π f σ H Q
theorem EV.any (h : EV X e f) : PE X e (semEAny X.K f) := ⟨fun pins s σ H Q I ⟨H2, π, q⟩ => (h.pe H2 π).run pins s σ H Q I q⟩
theorem ETs.any {ifs : List Expr} (h : ETs X ifs t) : PTs X ifs (semTAny X.K t) := ⟨fun pins s σ H Q I ⟨H2, π, q⟩ => (h.pts H2 π).run pins s σ H Q I q⟩

/-- the new list's turns: what holds at turn i of the heap -/
def LcInv (K : PySem.W.Frag) (H1 : Hp) (Dd : Addr) (step : D → List D → (List D → Prop) → Prop) (ds : List D) (P : List D → Prop) (i : Nat) (H : Hp) : Prop :=
  Same H1 H ∧ ∃ accV accD Ma, H Dd = some (.lst accV) ∧ Rps K H accV accD Ma ∧ (Dd :: Ma).Nodup ∧ (∀ a ∈ Ma, H1 a = none) ∧ lcL step (ds.drop i) accD P
theorem lc_turn {K : PySem.W.Frag} {H1 H2 : Hp} {π : Nat → Option V} {σ0 : L2.St} {δ1 : En} {ν : Nu} {Dd : Addr} {tg : Tgt} {vs : List Nat} {ds : List D} {P : List D → Prop} (ht : ∀ δ (P P' : Bool → Prop), (∀ x, P x → P' x) → t δ P → t δ P')
    (he : ∀ δ (P P' : Val → Prop), (∀ x, P x → P' x) → fe δ P → fe δ P') (hDd : H1 Dd = none) (E : EnvOk K H2 π H1 (wipe σ0 vs) δ1 ν) (hs : ∀ i ∈ tg.slots, i ∈ vs) {i : Nat} {x : V} {d : D} {H : Hp} (hd : ds[i]? = some d) (hx : ∃ L, Rp K H2 x d L)
    (w : LcInv K H1 Dd (lcStep tg t fe δ1) ds P i H) :
    gOf K tg x (wipe σ0 vs) H fun σ2 H2' => wipe σ2 vs = wipe σ0 vs ∧ semTAny K t σ2 H2' fun b H3 =>
      if b = true then semEAny K fe σ2 H3 fun y H4 => ∃ acc, H4 Dd = some (.lst acc) ∧ acc.length < sizeLine ∧ LcInv K H1 Dd (lcStep tg t fe δ1) ds P (i + 1) (upd H4 Dd (.lst (acc ++ [y]))) else LcInv K H1 Dd (lcStep tg t fe δ1) ds P (i + 1) H3 := by
  obtain ⟨s1, accV, accD, Ma, hD, hr, hn, hf, q⟩ := w
  obtain ⟨hi, hie⟩ := List.getElem?_eq_some_iff.mp hd
  rw [List.drop_eq_getElem_cons hi, hie] at q
  obtain ⟨L, rx⟩ := hx
  have EH := E.same s1
  have q2 : asgT tg d (imm d) δ1 fun δ' => t δ' fun b => match b with
    | true => fe δ' fun y => (y.own = true ∧ y.roots = [] ∧ accD.length < sizeLine) ∧ lcL (lcStep tg t fe δ1) (ds.drop (i + 1)) (accD ++ [y.d]) P
    | false => lcL (lcStep tg t fe δ1) (ds.drop (i + 1)) accD P := q
  refine asgT_okW EH (FOk.item EH rx) hs q2 fun σ' δ' ν' E' hw q => ⟨by rw [hw, wipe_wipe], H2, π, δ', ν', E', ht _ _ _ (fun bb q H3 s3 => ?_) q⟩
  cases bb with
  | false =>
    rw [if_neg Bool.false_ne_true]
    exact ⟨s1.trans s3, accV, accD, Ma, s3 _ _ hD, hr.same s3, hn, hf, q⟩
  | true =>
    rw [if_pos rfl]
    refine ⟨H2, π, δ', ν', E'.same s3, he _ _ _ (fun y q v H4 M s4 o => ?_) q⟩
    obtain ⟨⟨ho, hrt, hz⟩, q⟩ := q
    have sA : Same H1 H4 := (s1.trans s3).trans s4
    have hD4 : H4 Dd = some (.lst accV) := s4 _ _ (s3 _ _ hD)
    have fresh : ∀ a ∈ M, H3 a = none := fun a ha => by
      rcases o.fr ho a ha with z | ⟨k, hk, _⟩
      · exact z
      · rw [hrt] at hk; cases hk
    have nD : Dd ∉ M := fun h => by
      have := fresh Dd h
      rw [s3 _ _ hD] at this
      cases this
    have hr4 := (hr.same s3).same s4
    have nMa : ∀ a ∈ Ma, ∀ b' ∈ M, a ≠ b' := fun a ha b' hb' e => by
      subst e
      exact (hr.same s3).trk a ha (fresh a hb')
    have hn' := List.nodup_cons.mp hn
    refine ⟨accV, hD4, by rw [hr.length]; exact hz, fun b' o' e => ?_, accV ++ [v], accD ++ [y.d], Ma ++ M, upd_same, ?_, ?_, fun a ha => ?_, q⟩
    · rw [upd_ne (ne_of_none e hDd)]
      exact sA _ _ e
    · exact Rps.upd hD4 (hr4.append (Rps.one o.rp)) fun h => (List.mem_append.mp h).elim hn'.1 nD
    · refine List.nodup_cons.mpr ⟨fun h => (List.mem_append.mp h).elim hn'.1 nD, List.nodup_append.mpr ⟨hn'.2, o.nd ho, nMa⟩⟩
    · rcases List.mem_append.mp ha with h | h
      · exact hf a h
      · exact (s1.trans s3).free (fresh a h)
theorem lc_end {K : PySem.W.Frag} {H0 H H1 H' : Hp} {π : Nat → Option V} {σ : L2.St} {δ : En} {ν : Nu} {Dd : Addr} {step : D → List D → (List D → Prop) → Prop} {ds : List D} {Pv : Val → Prop} {Q : VK} (E : EnvOk K H0 π H σ δ ν) (s : Same H H1) (hDd : H1 Dd = none)
    (hP : ∀ x, Pv x → ∀ v H' M, Same H H' → VOk K H δ ν H' v x M → Q v H') {n : Nat} (hn : ds.length ≤ n) (w : LcInv K H1 Dd step ds (fun acc => Pv ⟨.list acc, true, []⟩) n H') : Q (.ref Dd) H' := by
  obtain ⟨s1, accV, accD, Ma, hD, hr, hnd, hf, q⟩ := w
  rw [List.drop_eq_nil_of_le hn] at q
  exact hP _ q _ _ _ (s.trans s1) (FR.vok s (.lst hD hr) hnd (fun a ha => by
    rcases List.mem_cons.mp ha with rfl | ha
    · exact hDd
    · exact hf a ha) E)
theorem lc_start {K : PySem.W.Frag} {H1 : Hp} {Dd : Addr} {step : D → List D → (List D → Prop) → Prop} {ds : List D} {P : List D → Prop} (hDd : H1 Dd = none) (q : lcL step ds [] P) : LcInv K H1 Dd step ds P 0 (upd H1 Dd (.lst [])) :=
  ⟨Same.upd_new hDd, [], [], [], upd_same, .nil, by simp, fun _ h => (nomatch h), q⟩
/-- the names of the comprehension's block are forgotten -/
theorem EnvOk.wiped {K : PySem.W.Frag} {H0 H : Hp} {π : Nat → Option V} {σ : L2.St} {δ : En} {ν : Nu} (E : EnvOk K H0 π H σ δ ν) (vs : List Nat) : EnvOk K H0 π H (wipe σ vs) (killR δ vs) ν := by
  have E' := E.kill vs
  refine ⟨E'.len.trans (wipe_length σ vs).symm, E'.sm, fun i s h => ?_, E'.nd, E'.dj⟩
  obtain ⟨h1, h2⟩ := killR_some h
  obtain ⟨v, x, y, z⟩ := E'.at_ i s h
  refine ⟨v, ?_, y, z⟩
  rw [wipe_get, if_neg h2]
  exact x
theorem lcR_sem {K : PySem.W.Frag} {H0 : Hp} {π : Nat → Option V} {tg : Tgt} {vs : List Nat} {σ : L2.St} {H H1 : Hp} {Q : VK} {δ : En} {ν : Nu} {lo : Int} {n : Nat} {Pv : Val → Prop} (ht : ∀ δ (P P' : Bool → Prop), (∀ x, P x → P' x) → t δ P → t δ P')
    (he : ∀ δ (P P' : Val → Prop), (∀ x, P x → P' x) → fe δ P → fe δ P') (hs : ∀ i ∈ tg.slots, i ∈ vs) (E : EnvOk K H0 π H σ δ ν) (s : Same H H1) (hP : ∀ x, Pv x → ∀ v H' M, Same H H' → VOk K H δ ν H' v x M → Q v H') (q : lcRun tg vs t fe [] (rgItems lo n) δ Pv) :
    ∀ Dd, H1 Dd = none → ∃ W : Nat → Nat → Hp → Prop, (∃ m, W 0 m (upd H1 Dd (.lst []))) ∧ ∀ i m H, W i m H →
      ((Itr lo n).stop i H ∧ Q (.ref Dd) H) ∨ ((Itr lo n).go i H ∧ ∃ Nx : Hp → Prop, (∀ H', Nx H' → ∃ m', m' < m ∧ W (i + 1) m' H') ∧ ∀ x H', (Itr lo n).yld i H x H' → gOf K tg x (wipe σ vs) H' fun σ2 H2 => wipe σ2 vs = wipe σ vs ∧ semTAny K t σ2 H2 fun b H3 =>
        if b = true then semEAny K fe σ2 H3 fun y H4 => ∃ acc, H4 Dd = some (.lst acc) ∧ acc.length < sizeLine ∧ Nx (upd H4 Dd (.lst (acc ++ [y]))) else Nx H3) := by
  intro Dd hDd
  rw [lcRun_eq] at q
  have E1 : EnvOk K H0 π H1 (wipe σ vs) (demR (killR δ vs) []) ν := ((E.same s).wiped vs).dem []
  have hl : (rgItems lo n).length = n := by simp [rgItems]
  refine lc_range (lo := lo) (n := n) (LcInv K H1 Dd (lcStep tg t fe (demR (killR δ vs) [])) (rgItems lo n) fun acc => Pv ⟨.list acc, true, []⟩) (lc_start hDd (LcL_to q)) (fun i H hi w => ?_) fun H w => lc_end E s hDd hP (by rw [hl]; exact Nat.le_refl _) w
  refine lc_turn ht he hDd E1 hs (d := .int (lo + i)) ?_ ⟨[], .int _⟩ w
  simp [rgItems, hi]
theorem lcV_sem {K : PySem.W.Frag} {H0 : Hp} {π : Nat → Option V} {tg : Tgt} {vs : List Nat} {σ : L2.St} {H H1 : Hp} {Q : VK} {δ : En} {ν : Nu} {p : Addr} {x : Val} {M : List Addr} {ds : List D} {Pv : Val → Prop} (ht : ∀ δ (P P' : Bool → Prop), (∀ x, P x → P' x) → t δ P → t δ P')
    (he : ∀ δ (P P' : Val → Prop), (∀ x, P x → P' x) → fe δ P → fe δ P') (hs : ∀ i ∈ tg.slots, i ∈ vs) (E : EnvOk K H0 π H σ δ ν) (s : Same H H1) (o : VOk K H δ ν H1 (.ref p) x M) (hds : seqOf x.d = some ds)
    (hP : ∀ x, Pv x → ∀ v H' M, Same H H' → VOk K H δ ν H' v x M → Q v H') (q : lcRun tg vs t fe x.roots ds δ Pv) (J : It) (hJ : (∃ xs, x.d = .list xs ∧ J = Itl K p) ∨ (∃ xs, x.d = .tuple xs ∧ J = Itt K p)) :
    ∀ Dd, H1 Dd = none → ∃ W : Nat → Nat → Hp → Prop, (∃ m, W 0 m (upd H1 Dd (.lst []))) ∧ ∀ i m H, W i m H →
      (J.stop i H ∧ Q (.ref Dd) H) ∨ (J.go i H ∧ ∃ Nx : Hp → Prop, (∀ H', Nx H' → ∃ m', m' < m ∧ W (i + 1) m' H') ∧ ∀ x H', J.yld i H x H' → gOf K tg x (wipe σ vs) H' fun σ2 H2 => wipe σ2 vs = wipe σ vs ∧ semTAny K t σ2 H2 fun b H3 =>
        if b = true then semEAny K fe σ2 H3 fun y H4 => ∃ acc, H4 Dd = some (.lst acc) ∧ acc.length < sizeLine ∧ Nx (upd H4 Dd (.lst (acc ++ [y]))) else Nx H3) := by
  intro Dd hDd
  rw [lcRun_eq] at q
  have E1 : EnvOk K H0 π H1 (wipe σ vs) (demR (killR δ vs) x.roots) ν := ((E.same s).wiped vs).dem x.roots
  have al : ∀ j s, (demR (killR δ vs) x.roots)[j]? = some (some s) → s.own = true → ∀ a ∈ ν j, a ∉ M := fun j s h ho a ha => by
    obtain ⟨t, h1, h2, h3, h4⟩ := demR_some h
    exact o.al j t (killR_some h1).1 (h4 ho).1 (h4 ho).2 a ha
  have r2 := Rp.shut E1 o.rp al
  have E2 := E1.shut
  rcases hJ with ⟨xs', hx, rfl⟩ | ⟨xs', hx, rfl⟩
  · rw [hx] at hds r2
    cases hds
    obtain ⟨a, xs, L, e, _, ha, rs⟩ := r2.list_
    cases e
    refine lc_list (K := K) (a := p) (xs := xs) (LcInv K H1 Dd (lcStep tg t fe (demR (killR δ vs) x.roots)) ds fun acc => Pv ⟨.list acc, true, []⟩) (lc_start hDd (LcL_to q)) (fun i H _ w => SqL.of (w.1 _ _ (shut_same _ _ _ _ _ ha))) (fun i u H hu w => ?_) fun H w => lc_end E s hDd hP (by rw [rs.length]; exact Nat.le_refl _) w
    obtain ⟨d, A, L', B, k1, k2, k3⟩ := rs.getV hu
    exact lc_turn ht he hDd E2 hs k1 ⟨L', k3⟩ w
  · rw [hx] at hds r2
    cases hds
    obtain ⟨a, xs, e, ha, rs⟩ := r2.tuple_
    cases e
    refine lc_tup (K := K) (a := p) (xs := xs) (LcInv K H1 Dd (lcStep tg t fe (demR (killR δ vs) x.roots)) ds fun acc => Pv ⟨.list acc, true, []⟩) (lc_start hDd (LcL_to q)) (fun i H _ w => SqT.same ((shut_same _ _ _).trans w.1) ha) (fun i u H hu w => ?_) fun H w => lc_end E s hDd hP (by rw [rs.length]; exact Nat.le_refl _) w
    obtain ⟨d, A, L', B, k1, k2, k3⟩ := rs.getV hu
    exact lc_turn ht he hDd E2 hs k1 ⟨L', k3⟩ w

theorem lcRun_mono {tg : Tgt} {wl : List Nat} {roots : List Nat} {ds : List D} {δ : En} (ht : ∀ δ (P P' : Bool → Prop), (∀ x, P x → P' x) → t δ P → t δ P') (he : ∀ δ (P P' : Val → Prop), (∀ x, P x → P' x) → fe δ P → fe δ P') {P Q : Val → Prop} (h : ∀ x, P x → Q x)
    (q : lcRun tg wl t fe roots ds δ P) : lcRun tg wl t fe roots ds δ Q := by
  rw [lcRun_eq] at q ⊢
  exact LcL_of (lcL_mono (lcStep_mono ht he) (fun a q => h _ q) _ _ (LcL_to q))
/-- a comprehension: src gives the turns -/
structure ELc (X : Cx) (e : Expr) (wi : TI) (tg : Tgt) (vs : List Nat) (t : DT) (fe : DE) (f : DE) : Prop where
  mono : ∀ δ (P P' : Val → Prop), (∀ x, P x → P' x) → f δ P → f δ P'
theorem dLcR_mono {rg : List D → (Int → Nat → Prop) → Prop} {tg : Tgt} {wl : List Nat} (hr : ∀ {ds : List D} {P Q : Int → Nat → Prop}, (∀ i n, P i n → Q i n) → rg ds P → rg ds Q) (hg : ∀ δ (P P' : List Val → Prop), (∀ x, P x → P' x) → g δ P → g δ P')
    (ht : ∀ δ (P P' : Bool → Prop), (∀ x, P x → P' x) → t δ P → t δ P') (he : ∀ δ (P P' : Val → Prop), (∀ x, P x → P' x) → fe δ P → fe δ P') : ∀ δ (P P' : Val → Prop), (∀ x, P x → P' x) → dLcR rg tg wl t fe g δ P → dLcR rg tg wl t fe g δ P' := fun δ P P' h q =>
  hg _ _ _ (fun xs q => hr (fun i n q => lcRun_mono ht he h q) q) q
theorem dLcV_mono {tg : Tgt} {wl : List Nat} (hf : ∀ δ (P P' : Val → Prop), (∀ x, P x → P' x) → f δ P → f δ P')
    (ht : ∀ δ (P P' : Bool → Prop), (∀ x, P x → P' x) → t δ P → t δ P') (he : ∀ δ (P P' : Val → Prop), (∀ x, P x → P' x) → fe δ P → fe δ P') : ∀ δ (P P' : Val → Prop), (∀ x, P x → P' x) → dLcV tg wl t fe f δ P → dLcV tg wl t fe f δ P' := fun δ P P' h q =>
  hf _ _ _ (fun x q => by
    revert q; split
    · exact lcRun_mono ht he h
    · exact id) q
theorem dLcR1_sem {K : PySem.W.Frag} {H0 : Hp} {π : Nat → Option V} {tg : Tgt} {vs : List Nat} {σ : L2.St} {H : Hp} {Q : VK} (hg : ∀ δ (P P' : List Val → Prop), (∀ x, P x → P' x) → g δ P → g δ P')
    (ht : ∀ δ (P P' : Bool → Prop), (∀ x, P x → P' x) → t δ P → t δ P') (he : ∀ δ (P P' : Val → Prop), (∀ x, P x → P' x) → fe δ P → fe δ P') (hs : ∀ i ∈ tg.slots, i ∈ vs) (h : semE K H0 π (dLcR rg1 tg vs t fe g) σ H Q) :
    tLc (iRng1 (semA K H0 π g)) (gOf K tg) (semTAny K t) (semEAny K fe) vs σ H Q := by
  obtain ⟨δ, ν, E, q⟩ := h
  refine ⟨δ, ν, E, hg _ _ _ (fun xs q ws H1 Ms s1 o1 => ?_) q⟩
  have r := o1.rps
  revert q
  generalize xs.map Val.d = ds at r
  intro q
  unfold rg1 at q
  split at q
  · obtain ⟨v, rfl, u⟩ := r.one_
    rw [u.int_]
    exact ⟨_, rfl, q.1.1, q.1.2, lcR_sem ht he hs E s1 (fun x q => q) q.2⟩
  · exact q.elim
theorem dLcR2_sem {K : PySem.W.Frag} {H0 : Hp} {π : Nat → Option V} {tg : Tgt} {vs : List Nat} {σ : L2.St} {H : Hp} {Q : VK} (hg : ∀ δ (P P' : List Val → Prop), (∀ x, P x → P' x) → g δ P → g δ P')
    (ht : ∀ δ (P P' : Bool → Prop), (∀ x, P x → P' x) → t δ P → t δ P') (he : ∀ δ (P P' : Val → Prop), (∀ x, P x → P' x) → fe δ P → fe δ P') (hs : ∀ i ∈ tg.slots, i ∈ vs) (h : semE K H0 π (dLcR rg2 tg vs t fe g) σ H Q) :
    tLc (iRng2 (semA K H0 π g)) (gOf K tg) (semTAny K t) (semEAny K fe) vs σ H Q := by
  obtain ⟨δ, ν, E, q⟩ := h
  refine ⟨δ, ν, E, hg _ _ _ (fun xs q ws H1 Ms s1 o1 => ?_) q⟩
  have r := o1.rps
  revert q
  generalize xs.map Val.d = ds at r
  intro q
  unfold rg2 at q
  split at q
  · obtain ⟨v, w, A, B, rfl, u1, u2⟩ := r.two_
    rw [u1.int_, u2.int_]
    exact ⟨_, _, rfl, q.1, lcR_sem ht he hs E s1 (fun x q => q) q.2⟩
  · exact q.elim
theorem dLcV_sem {K : PySem.W.Frag} {H0 : Hp} {π : Nat → Option V} {tg : Tgt} {vs : List Nat} {σ : L2.St} {H : Hp} {Q : VK} (hf : ∀ δ (P P' : Val → Prop), (∀ x, P x → P' x) → f δ P → f δ P')
    (ht : ∀ δ (P P' : Bool → Prop), (∀ x, P x → P' x) → t δ P → t δ P') (he : ∀ δ (P P' : Val → Prop), (∀ x, P x → P' x) → fe δ P → fe δ P') (hs : ∀ i ∈ tg.slots, i ∈ vs) (h : semE K H0 π (dLcV tg vs t fe f) σ H Q) :
    tLc (iSeq K (semE K H0 π f)) (gOf K tg) (semTAny K t) (semEAny K fe) vs σ H Q := by
  obtain ⟨δ, ν, E, q⟩ := h
  refine ⟨δ, ν, E, hf _ _ _ (fun x q v H1 M s1 o1 => ?_) q⟩
  have r := o1.rp
  revert q
  cases hx : x.d with
  | list ds =>
    intro q
    rw [hx] at r
    obtain ⟨a, xs, L, rfl, _, ha, s⟩ := r.list_
    exact ⟨a, rfl, .inl ⟨⟨xs, SqL.of ha⟩, lcV_sem ht he hs E s1 o1 (by rw [hx]; rfl) (fun x q => q) q _ (.inl ⟨ds, hx, rfl⟩)⟩⟩
  | tuple ds =>
    intro q
    rw [hx] at r
    obtain ⟨a, xs, rfl, ha, s⟩ := r.tuple_
    exact ⟨a, rfl, .inr ⟨⟨xs, ha⟩, lcV_sem ht he hs E s1 o1 (by rw [hx]; rfl) (fun x q => q) q _ (.inr ⟨ds, hx, rfl⟩)⟩⟩
  | _ => exact False.elim
end
end KT
/-! KtI: comprehensions as expressions and in a store; lists changed in place; a, b = x, y. -/
namespace KT
open PySem PySem.Spec PyProof.Rows L2
def MonoT (t : DT) : Prop := ∀ δ (P P' : Bool → Prop), (∀ x, P x → P' x) → t δ P → t δ P'
def MonoE (f : DE) : Prop := ∀ δ (P P' : Val → Prop), (∀ x, P x → P' x) → f δ P → f δ P'
section
variable {X : Cx} {a b e c : Expr} {es : List Expr} {fa fb f fe : DE} {g : DA} {t : DT} {pos : Pos} {st : Stmt} {sts : List Stmt} {m n : DS}
/-- what a comprehension walks -/
structure ESrc (X : Cx) (tgt iter : Expr) (tg : Tgt) (vs : List Nat) (t : DT) (fe : DE) (f : DE) : Prop where
  mono : MonoE f
  src : ∀ H0 π, ∃ wi, PI X tgt iter wi ∧ ∀ σ H Q, semE X.K H0 π f σ H Q → tLc wi (gOf X.K tg) (semTAny X.K t) (semEAny X.K fe) vs σ H Q
theorem es_R1 {tgt : Expr} {tg : Tgt} {vs : List Nat} {p pos' : Pos} (hr : Gl X "range") (hmr : X.mg "range" = none) (ha : EA X [a] g) (hs : (∀ i ∈ tg.slots, i ∈ vs) := by decide) (hs1 : starEach [a] X.env = [(false, eval a X.env)] := by rfl) (ht : MonoT t) (he : MonoE fe) :
    ESrc X tgt (.Call (.Name "range" p) [a] [] pos') tg vs t fe (dLcR rg1 tg vs t fe g) :=
  ⟨dLcR_mono rg1_mono ha.mono ht he, fun H0 π => ⟨_, pi_range1 hr hmr (ha.pa H0 π) hs1, fun σ H Q h => dLcR1_sem ha.mono ht he hs h⟩⟩
theorem es_R2 {tgt : Expr} {tg : Tgt} {vs : List Nat} {p pos' : Pos} (hr : Gl X "range") (hmr : X.mg "range" = none) (ha : EA X [a, b] g) (hs : (∀ i ∈ tg.slots, i ∈ vs) := by decide) (hs1 : starEach [a, b] X.env = [(false, eval a X.env), (false, eval b X.env)] := by rfl)
    (hs2 : starEach [b] X.env = [(false, eval b X.env)] := by rfl) (ht : MonoT t) (he : MonoE fe) :
    ESrc X tgt (.Call (.Name "range" p) [a, b] [] pos') tg vs t fe (dLcR rg2 tg vs t fe g) :=
  ⟨dLcR_mono rg2_mono ha.mono ht he, fun H0 π => ⟨_, pi_range2 hr hmr (ha.pa H0 π) hs1 hs2, fun σ H Q h => dLcR2_sem ha.mono ht he hs h⟩⟩
theorem es_V {tgt iter : Expr} {tg : Tgt} {vs : List Nat} (hf : EV X iter f) (hs : (∀ i ∈ tg.slots, i ∈ vs) := by decide) (ht : MonoT t) (he : MonoE fe) : ESrc X tgt iter tg vs t fe (dLcV tg vs t fe f) :=
  ⟨dLcV_mono hf.mono ht he, fun H0 π => ⟨_, pi_seq (hf.pe H0 π), fun σ H Q h => dLcV_sem hf.mono ht he hs h⟩⟩
theorem ev_lc {elt tgt iter : Expr} {ifs : List Expr} {scope : Scope} (own : List (Str × Nat)) {vs : List Nat} {tg : Tgt} (hc : X.calm = true) (hN : X.N.Nodup) (ok : BlkOk X.N X.env.scope scope own)
    (htg : ∀ (s : Shared) (H : Hp) (C : Addr) (cl : List (Str × Addr)) (fp : List Addr), TgOk (X.blk s H scope (compEnvC scope cl C X.env) fp) tgt tg)
    (hts : ∀ (s : Shared) (H : Hp) (C : Addr) (cl : List (Str × Addr)) (fp : List Addr), ETs (X.blk s H scope (compEnvC scope cl C X.env) fp) ifs t)
    (hel : ∀ (s : Shared) (H : Hp) (C : Addr) (cl : List (Str × Addr)) (fp : List Addr), EV (X.blk s H scope (compEnvC scope cl C X.env) fp) elt fe)
    (hsrc : MonoT t → MonoE fe → ESrc X tgt iter tg vs t fe f) (hvs : own.map (·.2) = vs := by rfl) (hs : ∀ x, foldedSetIterable iter X.env x = pure x := by intro _; rfl) :
    EV X (.ListComp elt [⟨tgt, iter, ifs, 0⟩] scope pos) f := by
  subst hvs
  have S := hsrc (hts X.s_0 X.H_0 0 [] []).mono (hel X.s_0 X.H_0 0 [] []).mono
  refine ⟨S.mono, fun H0 π => ?_⟩
  obtain ⟨wi, hi, sem⟩ := S.src H0 π
  exact pei (pe_lc hc hN hi ok (fun s H C cl fp => (htg s H C cl fp).pg) (fun s H C cl fp => (hts s H C cl fp).any) (fun s H C cl fp => (hel s H C cl fp).any) hs) sem
theorem sv_setLc {elt tgt iter : Expr} {ifs : List Expr} {scope : Scope} {y : Str} {py spos : Pos} (i : Nat) (own : List (Str × Nat)) {vs : List Nat} {tg : Tgt} (hc : X.calm = true) (hN : X.N.Nodup) (ok : BlkOk X.N X.env.scope scope own)
    (htg : ∀ (s : Shared) (H : Hp) (C : Addr) (cl : List (Str × Addr)) (fp : List Addr), TgOk (X.blk s H scope (compEnvC scope cl C X.env) fp) tgt tg)
    (hts : ∀ (s : Shared) (H : Hp) (C : Addr) (cl : List (Str × Addr)) (fp : List Addr), ETs (X.blk s H scope (compEnvC scope cl C X.env) fp) ifs t)
    (hel : ∀ (s : Shared) (H : Hp) (C : Addr) (cl : List (Str × Addr)) (fp : List Addr), EV (X.blk s H scope (compEnvC scope cl C X.env) fp) elt fe)
    (hsrc : MonoT t → MonoE fe → ESrc X tgt iter tg vs t fe f) (hy : X.N[i]? = some y := by rfl) (hyl : X.env.scope.names.lookup y = some .local := by rfl)
    (hsw : swapsWith (.ListComp elt [⟨tgt, iter, ifs, 0⟩] scope pos) (some (.Name y py)) spos.line X.env = pure true := by exact sw_true rfl rfl rfl (by decide +kernel))
    (hvs : own.map (·.2) = vs := by rfl) (hs : ∀ x, foldedSetIterable iter X.env x = pure x := by intro _; rfl) :
    SV X (.Assign [.Name y py] (.ListComp elt [⟨tgt, iter, ifs, 0⟩] scope pos) spos) (mSet i true f) := by
  subst hvs
  have S := hsrc (hts X.s_0 X.H_0 0 [] []).mono (hel X.s_0 X.H_0 0 [] []).mono
  refine ⟨mset_mono S.mono, fun H0 π => ?_⟩
  obtain ⟨wi, hi, sem⟩ := S.src H0 π
  exact psi (ps_setLc hc hN hy hyl hsw hi ok (fun s H C cl fp => (htg s H C cl fp).pg) (fun s H C cl fp => (hts s H C cl fp).any) (fun s H C cl fp => (hel s H C cl fp).any) hs) fun D σ H h => sem σ H _ (set_sem S.mono h)

/-! ### a list changed in place -/
theorem EnvOk.write {K : PySem.W.Frag} {H0 H : Hp} {π : Nat → Option V} {σ : L2.St} {δ : En} {ν : Nu} (E : EnvOk K H0 π H σ δ ν) {j : Nat} {s : Slot} {p : Addr} {N' N'' : List Addr} {xs ys : List V} {es : List D} (hj : δ[j]? = some (some s)) (ho : s.own = true)
    (hv : σ[j]? = some (some (.ref p))) (hn : ν j = p :: N') (hp : H p = some (.lst xs)) (r : Rps K H ys es N'') (nd : (p :: N'').Nodup) (fr : ∀ a ∈ N'', H0 a = none) (dj : ∀ a ∈ N'', ∀ k t, k ≠ j → δ[k]? = some (some t) → a ∉ ν k)
    (al : ∀ k t, k ≠ j → δ[k]? = some (some t) → t.own = true → ∀ a ∈ ν k, a ∉ N'') : EnvOk K H0 π (upd H p (.lst ys)) σ (δ.set j (some ⟨.list es, true, s.pin⟩)) (setNu ν j (p :: N'')) := by
  have hl := (List.getElem?_eq_some_iff.mp hj).1
  have hp0 : H0 p = none := (E.nd j s hj ho).2 p (by rw [hn]; exact List.mem_cons_self)
  have nk : ∀ k t, k ≠ j → δ[k]? = some (some t) → p ∉ ν k := fun k t n h => E.dj j k s t (Ne.symm n) hj ho h p (by rw [hn]; exact List.mem_cons_self)
  have nd' := List.nodup_cons.mp nd
  have look : ∀ k t, (δ.set j (some ⟨.list es, true, s.pin⟩))[k]? = some (some t) → (k = j ∧ t = ⟨.list es, true, s.pin⟩) ∨ (k ≠ j ∧ δ[k]? = some (some t)) := fun k t h => by
    by_cases e : k = j
    · subst e
      rw [List.getElem?_set_self hl] at h
      cases h
      exact .inl ⟨rfl, rfl⟩
    · rw [List.getElem?_set_ne (Ne.symm e)] at h
      exact .inr ⟨e, h⟩
  have nu1 : setNu ν j (p :: N'') j = p :: N'' := by simp [setNu]
  have nu2 : ∀ k, k ≠ j → setNu ν j (p :: N'') k = ν k := fun k n => by simp [setNu, n]
  refine ⟨by simpa using E.len, fun b o h => ?_, fun k t h => ?_, fun k t h o => ?_, fun k l t u n h o h' a ha => ?_⟩
  · rw [upd_ne (fun e => by subst e; rw [hp0] at h; cases h)]
    exact E.sm b o h
  · rcases look k t h with ⟨rfl, rfl⟩ | ⟨n, h⟩
    · obtain ⟨w, a, _, c⟩ := E.at_ k s hj
      rw [hv] at a
      cases a
      refine ⟨_, hv, ?_, c⟩
      rw [nu1]
      exact .lst upd_same (Rps.upd hp r nd'.1)
    · obtain ⟨w, a, b, c⟩ := E.at_ k t h
      refine ⟨w, a, ?_, c⟩
      rw [nu2 k n]
      exact Rp.upd hp b (nk k t n h)
  · rcases look k t h with ⟨rfl, rfl⟩ | ⟨n, h⟩
    · rw [nu1]
      refine ⟨nd, fun a ha => ?_⟩
      rcases List.mem_cons.mp ha with rfl | ha
      · exact hp0
      · exact fr a ha
    · rw [nu2 k n]
      exact E.nd k t h o
  · rcases look k t h with ⟨rfl, rfl⟩ | ⟨n1, h3⟩
    · rw [nu1] at ha
      rcases look l u h' with ⟨rfl, _⟩ | ⟨n2, h2⟩
      · exact absurd rfl n
      · rw [nu2 l n2]
        rcases List.mem_cons.mp ha with rfl | ha
        · exact nk l u n2 h2
        · exact dj a ha l u n2 h2
    · have ha2 : a ∈ ν k := by
        rw [nu2 k n1] at ha
        exact ha
      rcases look l u h' with ⟨rfl, _⟩ | ⟨n2, h2⟩
      · rw [nu1]
        intro hm
        rcases List.mem_cons.mp hm with rfl | hm
        · exact nk k t n1 h3 ha2
        · exact al k t n1 h3 o a ha2 hm
      · rw [nu2 l n2]
        exact E.dj k l t u n h3 o h2 a ha2
/-- the slot of a name whose list is its own -/
theorem own_list {K : PySem.W.Frag} {H0 H : Hp} {π : Nat → Option V} {σ : L2.St} {δ : En} {ν : Nu} (E : EnvOk K H0 π H σ δ ν) {j : Nat} {ds : List D} {pn : Bool} (hj : δ[j]? = some (some ⟨.list ds, true, pn⟩)) :
    ∃ p xs N', σ[j]? = some (some (.ref p)) ∧ ν j = p :: N' ∧ H p = some (.lst xs) ∧ Rps K H xs ds N' ∧ (p :: N').Nodup ∧ ∀ a ∈ N', H0 a = none := by
  obtain ⟨v, hv, r, _⟩ := E.at_ j _ hj
  obtain ⟨p, xs, N', rfl, hn, hp, rs⟩ := r.list_
  have h := E.nd j _ hj rfl
  rw [hn] at h
  exact ⟨p, xs, N', hv, hn, hp, rs, h.1, fun a ha => h.2 a (List.mem_cons_of_mem _ ha)⟩

def ownL (δ : En) (j : Nat) : Option (List D × Bool) := match δ[j]? with
  | some (some ⟨.list ds, true, pn⟩) => some (ds, pn)
  | _ => none
theorem ownL_some {δ : En} {j : Nat} {ds : List D} {pn : Bool} (h : ownL δ j = some (ds, pn)) : δ[j]? = some (some ⟨.list ds, true, pn⟩) := by
  unfold ownL at h
  split at h
  · rename_i e; cases h; exact e
  · cases h
theorem killR_at {δ : En} {j : Nat} : ∀ {r : List Nat}, r.contains j = false → (killR δ r)[j]? = δ[j]?
  | [], _ => rfl
  | i :: r, h => by
    rw [List.contains_cons, Bool.or_eq_false_iff] at h
    simp only [killR]
    rw [List.getElem?_set_ne (fun e => by subst e; simp at h), killR_at h.2]
/-- a list changed at its name, by values that come by now -/
theorem write_by {K : PySem.W.Frag} {H0 H H1 : Hp} {π : Nat → Option V} {σ : L2.St} {δ : En} {ν : Nu} {j : Nat} {ds : List D} {pn : Bool} (E : EnvOk K H0 π H σ δ ν) (hj : δ[j]? = some (some ⟨.list ds, true, pn⟩)) (s1 : Same H H1) {p : Addr} {xs : List V} {N' : List Addr}
    (hv : σ[j]? = some (some (.ref p))) (hn : ν j = p :: N') (hp : H p = some (.lst xs)) (nd : (p :: N').Nodup) (fr : ∀ a ∈ N', H0 a = none) {v : V} {x : Val} {M : List Addr} (o : VOk K H δ ν H1 v x M) (ho : x.own = true) (hr : x.roots.contains j = false)
    {ys : List V} {es : List D} {N'' : List Addr} (r : Rps K H1 ys es N'') (sub : ∀ a ∈ N'', a ∈ N' ∨ a ∈ M) (nd2 : N''.Nodup) :
    EnvOk K H0 π (upd H1 p (.lst ys)) σ ((killR δ x.roots).set j (some ⟨.list es, true, pn⟩)) (setNu ν j (p :: N'')) := by
  have E1 := (E.same s1).kill x.roots
  have F := o.killed E
  have hj1 : (killR δ x.roots)[j]? = some (some ⟨.list ds, true, pn⟩) := by rw [killR_at hr]; exact hj
  have nd' := List.nodup_cons.mp nd
  have pM : p ∉ M := fun h => F.dj ho p h j _ hj1 (by rw [hn]; exact List.mem_cons_self)
  refine E1.write hj1 rfl hv hn (s1 _ _ hp) r (List.nodup_cons.mpr ⟨fun h => (sub p h).elim nd'.1 pM, nd2⟩) (fun a ha => (sub a ha).elim (fr a) (F.fr ho a)) (fun a ha k t n h => ?_) fun k t n h ow a ha hm => ?_
  · rcases sub a ha with z | z
    · exact E1.dj j k _ t (Ne.symm n) hj1 rfl h a (by rw [hn]; exact List.mem_cons_of_mem _ z)
    · exact F.dj ho a z k t h
  · rcases sub a hm with z | z
    · exact E1.dj k j t _ n h ow hj1 a ha (by rw [hn]; exact List.mem_cons_of_mem _ z)
    · exact F.al k t h ow a ha z
/-- x.append(e) -/
def mApp (j : Nat) (f : DE) : DS := fun E δ => match ownL δ j with
  | some (ds, pn) => f δ fun x => (x.own = true ∧ x.roots.contains j = false ∧ ds.length < sizeLine) ∧ killK δ x.roots fun δ' => setK δ' j (some ⟨.list (ds ++ [x.d]), true, pn⟩) E.nx
  | none => False
theorem mApp_mono {j : Nat} (hm : MonoE f) : MonoS (mApp j f) := fun A B δ h1 h2 q => by
  unfold mApp at *
  split at q
  · refine hm _ _ _ (fun x q => ⟨q.1, ?_⟩) q
    have q2 := q.2
    rw [killK_eq, setK_eq] at q2 ⊢
    exact h1 _ q2
  · exact q.elim
theorem sv_app (j : Nat) {x : Str} {px pm pe : Pos} (he : EV X e f) (hN : X.N[j]? = some x := by rfl) (hv : Vis X.env.scope x := by first | exact Or.inl rfl | exact Or.inr (Or.inl rfl) | exact Or.inr (Or.inr rfl)) (hd : (x == ("__debug__" : Str)) = false := by decide)
    (hcd : (x == ("__classdict__" : Str)) = false := by decide) (hs1 : starEach [e] X.env = (false, eval e X.env) :: starEach [] X.env := by rfl)
    (hs : swapsWith (.Call (.Attribute (.Name x px) "append" pm) [e] [] pe) none pos.line X.env = pure false := by rfl)
    (hbm : ∀ {to : TE} {t : TA}, PE X (.Name x px) to → PA X [e] t → PE X (.Call (.Attribute (.Name x px) "append" pm) [e] [] pe) (tBM X.K "list" rAppend to t) := by
      intro _ _ h1 h2; exact pe_bm PySem.F.plainAttrs_list PySem.F.slot_list_append PySem.F.type_list_append mt_append h1 h2) :
    SV X (.Expr (.Call (.Attribute (.Name x px) "append" pm) [e] [] pe) pos) (mApp j f) := by
  refine ⟨mApp_mono he.mono, fun H0 π => psi (ps_expr (hbm (pe_var hN hv hd hcd) (pa_cons (he.pe H0 π) pa_nil hs1)) hs) fun D σ H ⟨δ, ν, E, q⟩ => ?_⟩
  unfold mApp at q
  split at q
  · rename_i ds pn hj
    have hj := ownL_some hj
    obtain ⟨p, xs, N', hv, hn, hp, rs, nd, fr⟩ := own_list E hj
    refine ⟨_, hv, .inl ⟨rfl, _, SqL.of hp⟩, δ, ν, E, he.mono _ _ _ (fun y q w H1 M s1 o1 => ?_) q⟩
    obtain ⟨⟨ho, hr, hz⟩, q⟩ := q
    rw [killK_eq, setK_eq] at q
    refine ⟨p, xs, w, rfl, rfl, s1 _ _ hp, by rw [rs.length]; exact hz, q _ _ _ (write_by E hj s1 hv hn hp nd fr o1 ho hr ((rs.same s1).append (Rps.one o1.rp)) (fun a ha => List.mem_append.mp ha) ?_)⟩
    refine List.nodup_append.mpr ⟨(List.nodup_cons.mp nd).2, o1.nd ho, fun a ha b hb e => ?_⟩
    subst e
    have hj1 : (killR δ y.roots)[j]? = some (some ⟨.list ds, true, pn⟩) := by rw [killR_at hr]; exact hj
    exact (o1.killed E).dj ho a hb j _ hj1 (by rw [hn]; exact List.mem_cons_of_mem _ ha)
  · exact q.elim
/-- x[i] = e -/
def mSetI (j : Nat) (fi fe : DE) : DS := fun E δ => match ownL δ j with
  | some (ds, pn) => fe δ fun x => fi δ fun y => (match y.d with
    | .int k => ∃ m, (x.own = true ∧ x.roots.contains j = false ∧ ixN ds.length k = some m) ∧ killK δ x.roots fun δ' => setK δ' j (some ⟨.list (ds.set m x.d), true, pn⟩) E.nx
    | _ => False)
  | none => False
theorem mSetI_mono {j : Nat} {fi fe : DE} (hi : MonoE fi) (he : MonoE fe) : MonoS (mSetI j fi fe) := fun A B δ h1 h2 q => by
  unfold mSetI at *
  split at q
  · refine he _ _ _ (fun x q => hi _ _ _ (fun y q => ?_) q) q
    split at q
    · rename_i hy
      obtain ⟨m, a, b⟩ := q
      refine ⟨m, a, ?_⟩
      rw [killK_eq, setK_eq] at b ⊢
      exact h1 _ b
    · exact q.elim
  · exact q.elim
theorem sv_setI (j : Nat) {x : Str} {px ps : Pos} {i e : Expr} {fi fe : DE} (hi : EV X i fi) (he : EV X e fe) (hN : X.N[j]? = some x := by rfl) (hv : Vis X.env.scope x := by first | exact Or.inl rfl | exact Or.inr (Or.inl rfl) | exact Or.inr (Or.inr rfl))
    (hd : (x == ("__debug__" : Str)) = false := by decide) (hcd : (x == ("__classdict__" : Str)) = false := by decide)
    (ha : ∀ v, assign (.Subscript (.Name x px) i ps) X.env v = (do
      let ov ← holding [v] (eval (.Name x px) X.env)
      let iv ← holding [v, ov] (eval i X.env)
      standAt ps
      holding [v, ov, iv] (setItem ov iv v)
      release [v, ov, iv] []) := by intro _; rfl)
    (hs : swapsWithSole [.Subscript (.Name x px) i ps] e pos.line X.env = pure false := by rfl) (hw : swappedStores [.Subscript (.Name x px) i ps] e X.env = pure none := by rfl)
    (h1 : (assignEach [.Subscript (.Name x px) i ps] X.env).map (·.2) = [assign (.Subscript (.Name x px) i ps) X.env] := by rfl) :
    SV X (.Assign [.Subscript (.Name x px) i ps] e pos) (mSetI j fi fe) := by
  refine ⟨mSetI_mono hi.mono he.mono, fun H0 π => psi (ps_asg (he.pe H0 π) (pg_sub (pe_var hN hv hd hcd) (hi.pe H0 π) set_list ha) hs hw h1) fun D σ H ⟨δ, ν, E, q⟩ => ?_⟩
  unfold mSetI at q
  split at q
  · rename_i ds pn hj0
    have hj := ownL_some hj0
    obtain ⟨p, xs, N', hv', hn, hp, rs, nd, fr⟩ := own_list E hj
    refine ⟨δ, ν, E, he.mono _ _ _ (fun y q w H1 M s1 o1 => ?_) q⟩
    refine ⟨_, hv', δ, ν, E.same s1, hi.mono _ _ _ (fun z q u H2 L s2 o2 => ?_) q⟩
    have rz := o2.rp
    revert q
    cases hz : z.d <;> first | exact False.elim | skip
    rename_i k
    rintro ⟨m, ⟨ho, hr, hm⟩, q⟩
    rw [killK_eq, setK_eq] at q
    rw [hz] at rz
    have hml : m < ds.length := by
      unfold ixN at hm
      split at hm
      · split at hm
        · cases hm; omega
        · cases hm
      · split at hm
        · cases hm; omega
        · cases hm
    have s12 := s1.trans s2
    obtain ⟨A, O, B, e1, r2⟩ := (rs.same s12).set (o1.rp.same s2) hml
    refine ⟨p, xs, k, m, rfl, rz.int_, s12 _ _ hp, by rw [rs.length]; exact hm, q _ _ _ (write_by E hj s12 hv' hn hp nd fr (o1.same s2) ho hr r2 (fun a ha => ?_) ?_)⟩
    · rw [e1]
      simp only [List.mem_append] at ha ⊢
      rcases ha with (h | h) | h
      · exact .inl (.inl (.inl h))
      · exact .inr h
      · exact .inl (.inr h)
    · have hj1 : (killR δ y.roots)[j]? = some (some ⟨.list ds, true, pn⟩) := by rw [killR_at hr]; exact hj
      have F := o1.killed E
      have nN : N'.Nodup := (List.nodup_cons.mp nd).2
      have sep : ∀ a ∈ N', ∀ b ∈ M, a ≠ b := fun a ha b hb e => by
        subst e
        exact F.dj ho a hb j _ hj1 (by rw [hn]; exact List.mem_cons_of_mem _ ha)
      rw [e1] at nN sep
      rw [List.nodup_append] at nN
      rw [List.nodup_append] at nN
      obtain ⟨⟨nA, nO, nAO⟩, nB, nAB⟩ := nN
      rw [List.nodup_append, List.nodup_append]
      refine ⟨⟨nA, o1.nd ho, fun a ha b hb => sep a (by simp [ha]) b hb⟩, nB, fun a ha b hb => ?_⟩
      rcases List.mem_append.mp ha with ha | ha
      · exact nAB a (List.mem_append_left _ ha) b hb
      · exact fun e => sep b (by simp [hb]) a ha e.symm
  · exact q.elim
end
end KT
/-! KtJ: the law's end. -/
namespace KT
open PySem PySem.Spec PyProof.Rows L2
def dIf (t : DT) (fa fb : DE) : DE := fun δ P => t δ fun k => match k with
  | true => fa δ P
  | false => fb δ P
/-- the script as data -/
def scr (ns : List Int) : D := .dict (ns.map fun n => (.int n, .none))
/-- what the law's call asks, from its predicate -/
theorem law_sp {K : PySem.W.Frag} {wl : W} (h : ∀ ns : List Int, ns.length ≤ 63 → (∀ z ∈ ns, Builtin.Int.intBits z ≤ 1048576) → wl [scr ns] fun d => d = .bool true) (H : Hp) (a : Addr) (ns : List Int) (hl : ns.length ≤ 63) (hb : ∀ z ∈ ns, Builtin.Int.intBits z ≤ 1048576) (hO : Only H)
    (hS : SqL K H a (ns.map V.int)) : spOf K 1 wl [.ref a] H (fun v _ => v = .bl true) fun _ _ _ => False := by
  have r : Rp K H (.ref a) (scr ns) [] := by
    refine .scr ?_
    rcases hS with (z | ⟨o, z⟩) | z
    · rcases hO a with q | ⟨o, xs, q⟩
      · rw [q] at z; cases z
      · rw [q] at z; cases z
    · exact .inl ⟨o, z⟩
    · exact .inr z
  refine ⟨rfl, [scr ns], [] ++ [], .cons r .nil, _, h ns hl hb, fun d e v H' M _ r' _ _ => ?_⟩
  subst e
  exact r'.bool_
end KT
/-! KtK: a list within a list of a name, changed in place. -/
namespace KT
open PySem PySem.Spec PyProof.Rows L2
theorem EnvOk.writeD {K : PySem.W.Frag} {H0 H : Hp} {π : Nat → Option V} {σ : L2.St} {δ : En} {ν : Nu} (E : EnvOk K H0 π H σ δ ν) {j : Nat} {s : Slot} {v : V} {q : Addr} {zs ys : List V} {d' : D} {N2 : List Addr} (hj : δ[j]? = some (some s)) (ho : s.own = true)
    (hv : σ[j]? = some (some v)) (hq : q ∈ ν j) (hp : H q = some (.lst zs)) (r : Rp K (upd H q (.lst ys)) v d' N2) (nd : N2.Nodup) (fr : ∀ a ∈ N2, H0 a = none) (dj : ∀ a ∈ N2, ∀ k t, k ≠ j → δ[k]? = some (some t) → a ∉ ν k)
    (al : ∀ k t, k ≠ j → δ[k]? = some (some t) → t.own = true → ∀ a ∈ ν k, a ∉ N2) : EnvOk K H0 π (upd H q (.lst ys)) σ (δ.set j (some ⟨d', true, s.pin⟩)) (setNu ν j N2) := by
  have hl := (List.getElem?_eq_some_iff.mp hj).1
  have hp0 : H0 q = none := (E.nd j s hj ho).2 q hq
  have nk : ∀ k t, k ≠ j → δ[k]? = some (some t) → q ∉ ν k := fun k t n h => E.dj j k s t (Ne.symm n) hj ho h q hq
  have look : ∀ k t, (δ.set j (some ⟨d', true, s.pin⟩))[k]? = some (some t) → (k = j ∧ t = ⟨d', true, s.pin⟩) ∨ (k ≠ j ∧ δ[k]? = some (some t)) := fun k t h => by
    by_cases e : k = j
    · subst e
      rw [List.getElem?_set_self hl] at h
      cases h
      exact .inl ⟨rfl, rfl⟩
    · rw [List.getElem?_set_ne (Ne.symm e)] at h
      exact .inr ⟨e, h⟩
  have nu1 : setNu ν j N2 j = N2 := by simp [setNu]
  have nu2 : ∀ k, k ≠ j → setNu ν j N2 k = ν k := fun k n => by simp [setNu, n]
  refine ⟨by simpa using E.len, fun b o h => ?_, fun k t h => ?_, fun k t h o => ?_, fun k l t u n h o h' a ha => ?_⟩
  · rw [upd_ne (fun e => by subst e; rw [hp0] at h; cases h)]
    exact E.sm b o h
  · rcases look k t h with ⟨rfl, rfl⟩ | ⟨n, h⟩
    · obtain ⟨w, a, _, c⟩ := E.at_ k s hj
      rw [hv] at a
      cases a
      refine ⟨_, hv, ?_, c⟩
      rw [nu1]
      exact r
    · obtain ⟨w, a, b, c⟩ := E.at_ k t h
      refine ⟨w, a, ?_, c⟩
      rw [nu2 k n]
      exact Rp.upd hp b (nk k t n h)
  · rcases look k t h with ⟨rfl, rfl⟩ | ⟨n, h⟩
    · rw [nu1]
      exact ⟨nd, fr⟩
    · rw [nu2 k n]
      exact E.nd k t h o
  · rcases look k t h with ⟨rfl, rfl⟩ | ⟨n1, h3⟩
    · rw [nu1] at ha
      rcases look l u h' with ⟨rfl, _⟩ | ⟨n2, h2⟩
      · exact absurd rfl n
      · rw [nu2 l n2]
        exact dj a ha l u n2 h2
    · have ha2 : a ∈ ν k := by
        rw [nu2 k n1] at ha
        exact ha
      rcases look l u h' with ⟨rfl, _⟩ | ⟨n2, h2⟩
      · rw [nu1]
        exact al k t n1 h3 o a ha2
      · rw [nu2 l n2]
        exact E.dj k l t u n h3 o h2 a ha2
/-- an item, and what comes about where a list within it changes -/
theorem Rps.get2 {K : PySem.W.Frag} {H : Hp} : ∀ {vs : List V} {ds : List D} {N : List Addr} {i : Nat} {d : D}, Rps K H vs ds N → ds[i]? = some d →
    ∃ v A M B, vs[i]? = some v ∧ N = A ++ M ++ B ∧ Rp K H v d M ∧ ∀ (q : Addr) (ys zs : List V), H q = some (.lst zs) → q ∉ A → q ∉ B → ∀ d' M2, Rp K (L2.upd H q (.lst ys)) v d' M2 → Rps K (L2.upd H q (.lst ys)) vs (ds.set i d') (A ++ M2 ++ B)
  | _, _, _, _, _, .nil, e => by simp at e
  | _, _, _, 0, d, .cons (N := N) (M := M) r s, e => by
    simp at e; subst e
    exact ⟨_, [], N, M, rfl, by simp, r, fun q ys zs hq _ hB d' M2 r' => by simpa using Rps.cons r' (Rps.upd hq s hB)⟩
  | _, _, _, i + 1, d, .cons (N := N) (M := M) r s, e => by
    obtain ⟨v, A, M', B, h1, h2, h3, h4⟩ := Rps.get2 (i := i) (d := d) s (by simpa using e)
    refine ⟨v, N ++ A, M', B, by simpa using h1, by rw [h2]; simp, h3, fun q ys zs hq hA hB d' M2 r' => ?_⟩
    have hA' : ¬ (q ∈ N ∨ q ∈ A) := fun h => hA (List.mem_append.mpr h)
    have t := h4 q ys zs hq (fun h => hA' (.inr h)) hB d' M2 r'
    simpa [List.append_assoc] using Rps.cons (Rp.upd hq r fun h => hA' (.inl h)) t
section
variable {X : Cx} {f fi : DE}
/-- x[i].append(e) -/
def mAppI (j : Nat) (fi f : DE) : DS := fun E δ => match ownL δ j with
  | some (ds, pn) => fi δ fun y => (match y.d with
    | .int k => ∃ m es, (ixN ds.length k = some m ∧ ds[m]? = some (.list es)) ∧ f δ fun x => (x.own = true ∧ x.roots.contains j = false ∧ es.length < sizeLine) ∧ killK δ x.roots fun δ' => setK δ' j (some ⟨.list (ds.set m (.list (es ++ [x.d]))), true, pn⟩) E.nx
    | _ => False)
  | none => False
theorem mAppI_mono {j : Nat} (hi : MonoE fi) (hm : MonoE f) : MonoS (mAppI j fi f) := fun A B δ h1 h2 q => by
  unfold mAppI at *
  split at q
  · refine hi _ _ _ (fun y q => ?_) q
    split at q
    · rename_i hy
      obtain ⟨m, es, a, q⟩ := q
      refine ⟨m, es, a, hm _ _ _ (fun x q => ⟨q.1, ?_⟩) q⟩
      have q2 := q.2
      rw [killK_eq, setK_eq] at q2 ⊢
      exact h1 _ q2
    · exact q.elim
  · exact q.elim
theorem sv_appI (j : Nat) {x : Str} {px ps pm pe : Pos} {i e : Expr} (hi : EV X i fi) (hs0 : PlainIx i) (he : EV X e f) (hN : X.N[j]? = some x := by rfl) (hv : Vis X.env.scope x := by first | exact Or.inl rfl | exact Or.inr (Or.inl rfl) | exact Or.inr (Or.inr rfl)) (hd : (x == ("__debug__" : Str)) = false := by decide)
    (hcd : (x == ("__classdict__" : Str)) = false := by decide) (hs1 : starEach [e] X.env = (false, eval e X.env) :: starEach [] X.env := by rfl)
    (hs : swapsWith (.Call (.Attribute (.Subscript (.Name x px) i ps) "append" pm) [e] [] pe) none pos.line X.env = pure false := by rfl)
    (hbm : ∀ {to : TE} {t : TA}, PE X (.Subscript (.Name x px) i ps) to → PA X [e] t → PE X (.Call (.Attribute (.Subscript (.Name x px) i ps) "append" pm) [e] [] pe) (tBM X.K "list" rAppend to t) := by
      intro _ _ h1 h2; exact pe_bm PySem.F.plainAttrs_list PySem.F.slot_list_append PySem.F.type_list_append mt_append h1 h2) :
    SV X (.Expr (.Call (.Attribute (.Subscript (.Name x px) i ps) "append" pm) [e] [] pe) pos) (mAppI j fi f) := by
  refine ⟨mAppI_mono hi.mono he.mono, fun H0 π => psi (ps_expr (hbm (pe_ix ix_seq (pe_var hN hv hd hcd) (hi.pe H0 π) hs0) (pa_cons (he.pe H0 π) pa_nil hs1)) hs) fun D σ H ⟨δ, ν, E, q⟩ => ?_⟩
  unfold mAppI at q
  split at q
  · rename_i ds pn hj
    have hj := ownL_some hj
    obtain ⟨p, xs, N', hv, hn, hp, rs, nd, fr⟩ := own_list E hj
    refine ⟨_, hv, δ, ν, E, hi.mono _ _ _ (fun z q u H1 L s1 o1 => ?_) q⟩
    have rz := o1.rp
    revert q
    cases hz : z.d <;> first | exact False.elim | skip
    rename_i k
    rintro ⟨m, es, ⟨hm, hes⟩, q⟩
    rw [hz] at rz
    obtain ⟨v, A, M, B, g1, g2, g3, g4⟩ := (rs.same s1).get2 hes
    obtain ⟨a, ys, M', rfl, rfl, ha, rs'⟩ := g3.list_
    have hat : atI xs k = some (.ref a) := by
      unfold atI
      rw [rs.length, hm]
      exact g1
    refine .inl ⟨p, xs, k, .ref a, rfl, rz.int_, SqL.of (s1 _ _ hp), hat, .inl ⟨rfl, _, SqL.of ha⟩, δ, ν, E.same s1, he.mono _ _ _ (fun y q w H2 W s2 o2 => ?_) q⟩
    obtain ⟨⟨ho, hr, hz⟩, q⟩ := q
    rw [killK_eq, setK_eq] at q
    have s12 := s1.trans s2
    obtain ⟨v2, A2, M2, B2, k1, k2, k3, k4⟩ := (rs.same s12).get2 hes
    rw [g1] at k1
    cases k1
    obtain ⟨a2, ys2, M3, e1, rfl, ha2, rs2⟩ := k3.list_
    cases e1
    have e2 := s2 _ _ ha
    rw [ha2] at e2
    cases e2
    have E1 := (E.same s12).kill y.roots
    have F := o2.killed (E.same s1)
    have hj1 : (killR δ y.roots)[j]? = some (some ⟨.list ds, true, pn⟩) := by rw [killR_at hr]; exact hj
    have nN : N'.Nodup := (List.nodup_cons.mp nd).2
    have aN : a ∈ N' := by rw [k2]; simp
    have pN : p ∉ N' := (List.nodup_cons.mp nd).1
    have nN2 := nN
    rw [k2, List.nodup_append, List.nodup_append] at nN2
    obtain ⟨⟨nA, nM, nAM⟩, nB, nAB⟩ := nN2
    have aA : a ∉ A2 := fun h => nAM a h a List.mem_cons_self rfl
    have aB : a ∉ B2 := fun h => nAB a (List.mem_append_right _ List.mem_cons_self) a h rfl
    have nM' := List.nodup_cons.mp nM
    have sep : ∀ b ∈ N', ∀ c ∈ W, b ≠ c := fun b hb c hc e => by
      subst e
      exact F.dj ho b hc j _ hj1 (by rw [hn]; exact List.mem_cons_of_mem _ hb)
    have pW : p ∉ W := fun h => F.dj ho p h j _ hj1 (by rw [hn]; exact List.mem_cons_self)
    have aW : a ∉ W := fun h => sep a aN a h rfl
    have r0 : Rps X.K (upd H2 a (.lst (ys ++ [w]))) (ys ++ [w]) (es ++ [y.d]) (M3 ++ W) := Rps.upd ha2 (rs2.append (Rps.one o2.rp)) fun h => (List.mem_append.mp h).elim nM'.1 aW
    have r1 : Rp X.K (upd H2 a (.lst (ys ++ [w]))) (.ref a) (.list (es ++ [y.d])) (a :: (M3 ++ W)) := .lst upd_same r0
    have r2 := k4 a (ys ++ [w]) ys ha2 aA aB _ _ r1
    have hpa : p ≠ a := fun e => pN (by rw [e]; exact aN)
    have r3 : Rp X.K (upd H2 a (.lst (ys ++ [w]))) (.ref p) (.list (ds.set m (.list (es ++ [y.d])))) (p :: (A2 ++ a :: (M3 ++ W) ++ B2)) :=
      .lst (by rw [upd_ne hpa]; exact s12 _ _ hp) r2
    have inN : ∀ b, b ∈ A2 ++ a :: (M3 ++ W) ++ B2 → b ∈ N' ∨ b ∈ W := fun b hb => by
      rw [k2]
      simp only [List.mem_append, List.mem_cons] at hb ⊢
      rcases hb with (h | h | h | h) | h
      · exact .inl (.inl (.inl h))
      · exact .inl (.inl (.inr (.inl h)))
      · exact .inl (.inl (.inr (.inr h)))
      · exact .inr h
      · exact .inl (.inr h)
    refine ⟨a, ys, w, rfl, rfl, ha2, by rw [rs2.length]; exact hz, q _ _ _ (E1.writeD (s := ⟨.list ds, true, pn⟩) hj1 rfl hv (by rw [hn]; exact List.mem_cons_of_mem _ aN) ha2 r3 ?_ ?_ ?_ ?_)⟩
    · refine List.nodup_cons.mpr ⟨fun h => (inN p h).elim pN pW, ?_⟩
      have nMW : (a :: (M3 ++ W)).Nodup := by
        refine List.nodup_cons.mpr ⟨fun h => (List.mem_append.mp h).elim nM'.1 aW, List.nodup_append.mpr ⟨nM'.2, o2.nd ho, fun b hb c hc => sep b (by rw [k2]; simp [hb]) c hc⟩⟩
      refine List.nodup_append.mpr ⟨List.nodup_append.mpr ⟨nA, nMW, fun b hb c hc => ?_⟩, nB, fun b hb c hc => ?_⟩
      · rcases List.mem_cons.mp hc with rfl | hc
        · exact nAM b hb c List.mem_cons_self
        · rcases List.mem_append.mp hc with hc | hc
          · exact nAM b hb c (List.mem_cons_of_mem _ hc)
          · exact sep b (by rw [k2]; simp [hb]) c hc
      · rcases List.mem_append.mp hb with hb | hb
        · exact nAB b (List.mem_append_left _ hb) c hc
        · rcases List.mem_cons.mp hb with rfl | hb
          · exact nAB b (List.mem_append_right _ List.mem_cons_self) c hc
          · rcases List.mem_append.mp hb with hb | hb
            · exact nAB b (List.mem_append_right _ (List.mem_cons_of_mem _ hb)) c hc
            · exact fun e => sep c (by rw [k2]; simp [hc]) b hb e.symm
    · intro b hb
      rcases List.mem_cons.mp hb with rfl | hb
      · exact (E.nd j _ hj rfl).2 b (by rw [hn]; exact List.mem_cons_self)
      · rcases inN b hb with h | h
        · exact fr b h
        · exact F.fr ho b h
    · intro b hb k' t n h
      rcases List.mem_cons.mp hb with rfl | hb
      · exact E1.dj j k' _ t (Ne.symm n) hj1 rfl h b (by rw [hn]; exact List.mem_cons_self)
      · rcases inN b hb with z | z
        · exact E1.dj j k' _ t (Ne.symm n) hj1 rfl h b (by rw [hn]; exact List.mem_cons_of_mem _ z)
        · exact F.dj ho b z k' t h
    · intro k' t n h ow b hb hm
      rcases List.mem_cons.mp hm with rfl | hm
      · exact E1.dj k' j t _ n h ow hj1 b hb (by rw [hn]; exact List.mem_cons_self)
      · rcases inN b hm with z | z
        · exact E1.dj k' j t _ n h ow hj1 b hb (by rw [hn]; exact List.mem_cons_of_mem _ z)
        · exact F.al k' t h ow b hb z
  · exact q.elim
end
/-! ### a test after which the ways meet again -/
@[irreducible] def mIfJ (t : DT) (m n : DS) : DS := mIf t m n
theorem mIfJ_eq (t : DT) (m n : DS) : mIfJ t m n = mIf t m n := by unfold mIfJ; rfl
theorem sv_ifJ {X : Cx} {st : Stmt} {t : DT} {m n : DS} (h : SV X st (mIf t m n)) : SV X st (mIfJ t m n) := by rw [mIfJ_eq]; exact h
/-- e tells the names behind it -/
theorem ifJ {t : DT} {m n : DS} {N : En → Prop} {rt : Val → En → Prop} {δ : En} {α : Type} (e : α → En) (h : ∀ a, N (e a)) (k : ∀ N : En → Prop, (∀ a, N (e a)) → mIf t m n ⟨N, rt⟩ δ) : mIfJ t m n ⟨N, rt⟩ δ := by rw [mIfJ_eq]; exact k N h
theorem ifN {t : DT} {m n : DS} {E : DEnds} {δ : En} (k : mIf t m n E δ) : mIfJ t m n E δ := by rw [mIfJ_eq]; exact k
/-! ### a name that is lent for a while -/
mutual
theorem Rp.nodes {K : PySem.W.Frag} {H : Hp} {v : V} {d : D} {N : List Addr} : Rp K H v d N → ∀ a ∈ N, H a ≠ none
  | .non, _, h => nomatch h
  | .bl _, _, h => nomatch h
  | .int _, _, h => nomatch h
  | .str _, _, h => nomatch h
  | .lst h r, a, ha => by
    rcases List.mem_cons.mp ha with rfl | ha
    · rw [h]; exact fun z => nomatch z
    · exact Rps.nodes r a ha
  | .tup _ r, a, ha => Rps.nodes r a ha
  | .scr _, _, h => nomatch h
theorem Rps.nodes {K : PySem.W.Frag} {H : Hp} {vs : List V} {ds : List D} {N : List Addr} : Rps K H vs ds N → ∀ a ∈ N, H a ≠ none
  | .nil, _, h => nomatch h
  | .cons r s, a, ha => (List.mem_append.mp ha).elim (Rp.nodes r a) (Rps.nodes s a)
end
def Clean (j : Nat) (δ δ' : En) : Prop := ∀ k t, k ≠ j → δ'[k]? = some (some t) → t.own = true ∨ imm t.d = true ∨ (t.pin = true ∧ t.own = false ∧ δ[k]? = some (some t))
open Classical in
theorem EnvOk.back {K : PySem.W.Frag} {H0 H H' : Hp} {π : Nat → Option V} {σ σ' : L2.St} {δ δ' : En} {ν ν' : Nu} (E : EnvOk K H0 π H σ δ ν) {j : Nat} {s : Slot} {v : V} (hj : δ[j]? = some (some s)) (ho : s.own = true) (hp : s.pin = false) (hv : σ[j]? = some (some v))
    (E' : EnvOk K (KT.shut H (δ.set j (some ⟨s.d, false, true⟩)) ν) (pinTo π j v) H' σ' δ' ν') (hj' : δ'[j]? = some (some ⟨s.d, false, true⟩)) (cl : Clean j δ δ') : ∃ ν'', EnvOk K H0 π H' σ' (δ'.set j (some s)) ν'' := by
  have hl := (List.getElem?_eq_some_iff.mp hj).1
  have hl' := (List.getElem?_eq_some_iff.mp hj').1
  have E1 : EnvOk K H0 (pinTo π j v) H σ (δ.set j (some ⟨s.d, false, true⟩)) ν := E.pin hj hv (o := false) fun z => nomatch z
  have so : Same H0 (KT.shut H (δ.set j (some ⟨s.d, false, true⟩)) ν) := shut_over E1
  -- what stands in the shut heap
  have keep : ∀ (k : Nat) (t : Slot) (w : V), (k = j ∨ t.own = false) → δ[k]? = some (some t) → Rp K H w t.d (ν k) → Rp K (KT.shut H (δ.set j (some ⟨s.d, false, true⟩)) ν) w t.d (ν k) := fun k t w hk ht r => Rp.shut E1 r fun l u hu huo a ha => by
    by_cases e : l = j
    · subst e
      rw [List.getElem?_set_self hl] at hu
      cases hu
      cases huo
    · rw [List.getElem?_set_ne (Ne.symm e)] at hu
      have n : l ≠ k := fun z => by
        subst z
        rcases hk with hk | hk
        · exact e hk
        · rw [hu] at ht
          cases ht
          rw [hk] at huo
          cases huo
      exact E.dj l k u t n hu huo ht a ha
  obtain ⟨v0, hv0, r0, _⟩ := E.at_ j s hj
  rw [hv] at hv0
  cases hv0
  have rj := keep j s v (.inl rfl) hj r0
  let C : Nat → Prop := fun k => ∃ t : Slot, δ'[k]? = some (some t) ∧ t.own = false ∧ imm t.d = false
  let ν2 : Nu := fun k => if k = j then ν j else if C k then ν k else ν' k
  have nj : ν2 j = ν j := if_pos rfl
  have n1 : ∀ k t, k ≠ j → δ'[k]? = some (some t) → (t.own = true ∨ imm t.d = true) → ν2 k = ν' k := fun k t n h ho => by
    show (if k = j then ν j else if C k then ν k else ν' k) = ν' k
    rw [if_neg n, if_neg]
    rintro ⟨t', h', a, b⟩
    rw [h] at h'
    cases h'
    rcases ho with ho | ho
    · rw [a] at ho; cases ho
    · rw [b] at ho; cases ho
  have n2 : ∀ k t, k ≠ j → δ'[k]? = some (some t) → t.own = false → imm t.d = false → ν2 k = ν k := fun k t n h a b => by
    show (if k = j then ν j else if C k then ν k else ν' k) = ν k
    rw [if_neg n, if_pos ⟨t, h, a, b⟩]
  have look : ∀ k t, (δ'.set j (some s))[k]? = some (some t) → (k = j ∧ t = s) ∨ (k ≠ j ∧ δ'[k]? = some (some t)) := fun k t h => by
    by_cases e : k = j
    · subst e
      rw [List.getElem?_set_self hl'] at h
      cases h
      exact .inl ⟨rfl, rfl⟩
    · rw [List.getElem?_set_ne (Ne.symm e)] at h
      exact .inr ⟨e, h⟩
  -- the pinned ones
  have pinned : ∀ k t, k ≠ j → δ'[k]? = some (some t) → t.own = false → imm t.d = false → t.pin = true ∧ δ[k]? = some (some t) := fun k t n h a b => by
    rcases cl k t n h with z | z | z
    · rw [a] at z; cases z
    · rw [b] at z; cases z
    · exact ⟨z.1, z.2.2⟩
  have at2 : ∀ k t, k ≠ j → δ'[k]? = some (some t) → ∃ w, σ'[k]? = some (some w) ∧ Rp K H' w t.d (ν2 k) ∧ (t.pin = true → π k = some w) := fun k t n h => by
    obtain ⟨w, a, b, c⟩ := E'.at_ k t h
    have c' : t.pin = true → π k = some w := fun z => by
      have q := c z
      unfold pinTo at q
      rw [if_neg n] at q
      exact q
    cases ho : t.own with
    | true => exact ⟨w, a, by rw [n1 k t n h (.inl ho)]; exact b, c'⟩
    | false =>
      cases hi : imm t.d with
      | true => exact ⟨w, a, by rw [n1 k t n h (.inr hi)]; exact b, c'⟩
      | false =>
        obtain ⟨hpn, hk⟩ := pinned k t n h ho hi
        obtain ⟨w0, a0, b0, c0⟩ := E.at_ k t hk
        have e := c' hpn
        rw [c0 hpn] at e
        cases e
        exact ⟨_, a, by rw [n2 k t n h ho hi]; exact (keep k t _ (.inr ho) hk b0).same E'.sm, c'⟩
  -- own lists lie beyond the shut heap
  have far : ∀ k t, k ≠ j → δ'[k]? = some (some t) → t.own = true → ∀ a ∈ ν2 k, KT.shut H (δ.set j (some ⟨s.d, false, true⟩)) ν a = none := fun k t n h o a ha => by
    rw [n1 k t n h (.inl o)] at ha
    exact (E'.nd k t h o).2 a ha
  refine ⟨ν2, by simpa using E'.len, so.trans E'.sm, fun k t h => ?_, fun k t h o => ?_, fun k l t u n h o h' a ha ham => ?_⟩
  · rcases look k t h with ⟨rfl, rfl⟩ | ⟨n, h⟩
    · obtain ⟨w, a, _, c⟩ := E'.at_ k _ hj'
      have q := c rfl
      unfold pinTo at q
      rw [if_pos rfl] at q
      cases q
      exact ⟨v, a, by rw [nj]; exact rj.same E'.sm, fun z => by rw [hp] at z; cases z⟩
    · exact at2 k t n h
  · rcases look k t h with ⟨rfl, rfl⟩ | ⟨n, h⟩
    · rw [nj]; exact E.nd k t hj ho
    · rw [n1 k t n h (.inl o)]
      exact ⟨(E'.nd k t h o).1, fun a ha => so.free ((E'.nd k t h o).2 a ha)⟩
  · rcases look k t h with ⟨rfl, rfl⟩ | ⟨nk, h⟩
    · rw [nj] at ha
      rcases look l u h' with ⟨rfl, rfl⟩ | ⟨nl, h2⟩
      · exact n rfl
      · cases uo : u.own with
        | true => exact rj.nodes a ha (far l u nl h2 uo a ham)
        | false =>
          cases ui : imm u.d with
          | true =>
            rw [n1 l u nl h2 (.inr ui)] at ham
            obtain ⟨w, _, b, _⟩ := E'.at_ l u h2
            rw [b.imm ui] at ham
            cases ham
          | false =>
            rw [n2 l u nl h2 uo ui] at ham
            exact E.dj k l t u n hj ho (pinned l u nl h2 uo ui).2 a ha ham
    · have hf := far k t nk h o a ha
      rcases look l u h' with ⟨rfl, rfl⟩ | ⟨nl, h2⟩
      · rw [nj] at ham
        exact rj.nodes a ham hf
      · cases uo : u.own with
        | true =>
          rw [n1 k t nk h (.inl o)] at ha
          rw [n1 l u nl h2 (.inl uo)] at ham
          exact E'.dj k l t u n h o h2 a ha ham
        | false =>
          cases ui : imm u.d with
          | true =>
            rw [n1 l u nl h2 (.inr ui)] at ham
            obtain ⟨w, _, b, _⟩ := E'.at_ l u h2
            rw [b.imm ui] at ham
            cases ham
          | false =>
            rw [n2 l u nl h2 uo ui] at ham
            have hk := (pinned l u nl h2 uo ui).2
            obtain ⟨w0, _, b0, _⟩ := E.at_ l u hk
            exact (keep l u w0 (.inr uo) hk b0).nodes a ham hf
/-- the statement, j lent: its list is not changed in it, and it is the name's own again behind it -/
def mLend (j : Nat) (m : DS) : DS := fun E δ => match δ[j]? with
  | some (some ⟨d, true, false⟩) => m ⟨fun δ' => (δ'[j]? = some (some ⟨d, false, true⟩) ∧ Clean j δ δ') ∧ E.nx (δ'.set j (some ⟨d, true, false⟩)), fun x δ' => E.rt x (unpin j false δ')⟩ (δ.set j (some ⟨d, false, true⟩))
  | _ => False
theorem mLend_mono {j : Nat} {m : DS} (hm : MonoS m) : MonoS (mLend j m) := fun A B δ h1 h2 q => by
  unfold mLend at *
  split at q
  · refine hm _ _ _ (fun δ q => ?_) (fun x δ q => ?_) q
    · exact ⟨q.1, h1 _ q.2⟩
    · exact h2 _ _ q
  · exact q.elim
theorem sv_lend {X : Cx} {st : Stmt} {m : DS} (j : Nat) (h : SV X st m) : SV X st (mLend j m) := by
  have any : PS X st (semAny X.K m) := ⟨fun pins s σ H D I ⟨H2, π, q⟩ => (h.ps H2 π).run pins s σ H D I q⟩
  refine ⟨mLend_mono h.mono, fun H0 π => psi any fun D σ H ⟨δ, ν, E, q⟩ => ?_⟩
  unfold mLend at q
  split at q
  · rename_i d hj
    obtain ⟨v, hv, r, _⟩ := E.at_ j _ hj
    have E1 : EnvOk X.K H0 (pinTo π j v) H σ (δ.set j (some ⟨d, false, true⟩)) ν := E.pin hj hv (o := false) fun z => nomatch z
    have so := shut_over E1
    refine ⟨_, pinTo π j v, _, ν, E1.shut, h.mono _ _ _ (fun δ' q σ' H' ν' E' => ?_) (fun x δ' q v' σ' H1 H2 ν' M E' s1 o1 => ?_) q⟩
    · obtain ⟨ν2, E2⟩ := E.back hj rfl rfl hv E' q.1.1 q.1.2
      exact q.2 _ _ _ E2
    · exact q v' σ' H1 H2 ν' M ((E'.open so).unpin fun z => nomatch z) s1 (o1.unpin j false)
  · exact q.elim
/-- what is behind a lent name, slot by slot -/
def cleanL (j : Nat) : Nat → En → En → Prop
  | i, o :: δ, none :: δ' => cleanL j (i + 1) δ δ'
  | i, o :: δ, some t :: δ' => (i = j ∨ t.own = true ∨ imm t.d = true ∨ (t.pin = true ∧ t.own = false ∧ o = some t)) ∧ cleanL j (i + 1) δ δ'
  | _, _, [] => True
  | _, [], _ :: _ => False
theorem cleanL_at {j : Nat} : ∀ {i : Nat} {δ δ' : En}, cleanL j i δ δ' → ∀ k t, i + k ≠ j → δ'[k]? = some (some t) → t.own = true ∨ imm t.d = true ∨ (t.pin = true ∧ t.own = false ∧ δ[k]? = some (some t))
  | _, _, [], _, k, t, _, h => by simp at h
  | _, [], _ :: _, q, _, _, _, _ => q.elim
  | i, o :: δ, none :: δ', q, k, t, n, h => by
    cases k with
    | zero => simp at h
    | succ k => exact cleanL_at (i := i + 1) q k t (by omega) (by simpa using h)
  | i, o :: δ, some u :: δ', q, k, t, n, h => by
    cases k with
    | zero =>
      simp at h
      subst h
      rcases q.1 with z | z | z | z
      · exact absurd z (by simpa using n)
      · exact .inl z
      · exact .inr (.inl z)
      · exact .inr (.inr ⟨z.1, z.2.1, by simpa using z.2.2⟩)
    | succ k => exact cleanL_at (i := i + 1) q.2 k t (by omega) (by simpa using h)
theorem clean_of {j : Nat} {δ δ' : En} (h : cleanL j 0 δ δ') : Clean j δ δ' := fun k t n hk => cleanL_at h k t (by simpa using n) hk
end KT
/-! KtL: lists of lists joined. -/
namespace KT
open PySem PySem.Spec PyProof.Rows L2
section
variable {X : Cx} {a b e : Expr} {fa fb f : DE} {pos : Pos}
/-- xs + ys, the items kept by both -/
def dCat (fa fb : DE) : DE := fun δ P => fa δ fun x => fb δ fun y => match x.d, y.d with
  | .list xs, .list ys => xs.length + ys.length ≤ sizeLine ∧ P ⟨.list (xs ++ ys), false, x.roots ++ y.roots⟩
  | _, _ => False
theorem ev_cat (ha : EV X a fa) (hb : EV X b fb) : EV X (.BinOp a .Add b pos) (dCat fa fb) := by
  refine ⟨fun δ P P' h q => ha.mono _ _ _ (fun x q => hb.mono _ _ _ (fun y q => ?_) q) q, fun H0 π => pei (pe_op op_cat (ha.pe H0 π) (hb.pe H0 π)) fun σ H Q ⟨δ, ν, E, q⟩ => ?_⟩
  · split at q
    · exact ⟨q.1, h _ q.2⟩
    · exact q.elim
  · refine ⟨δ, ν, E, ha.mono _ _ _ (fun x q v H1 M s1 o1 => ?_) q⟩
    refine ⟨δ, ν, E.same s1, hb.mono _ _ _ (fun y q w H2 N s2 o2 => ?_) q⟩
    split at q
    · rename_i xs ys ex ey
      obtain ⟨hz, q⟩ := q
      have r1 := o1.rp.same s2
      have r2 := o2.rp
      rw [ex] at r1
      rw [ey] at r2
      obtain ⟨p1, vs, A, rfl, eM, h1, t1⟩ := r1.list_
      obtain ⟨p2, ws, B, rfl, eN, h2, t2⟩ := r2.list_
      refine ⟨p1, p2, vs, ws, rfl, rfl, h1, h2, by rw [t1.length, t2.length]; exact hz, fun p hp => ?_⟩
      have s3 : Same H2 (upd H2 p (.lst (vs ++ ws))) := Same.upd_new hp
      refine q _ _ (p :: (A ++ B)) ((s1.trans s2).trans s3) ⟨.lst upd_same ((t1.append t2).same s3), fun z => (nomatch z), fun z => (nomatch z), fun j t hj ho hn a ha hm => ?_⟩
      have hn1 : j ∉ x.roots := fun z => hn (List.mem_append_left _ z)
      have hn2 : j ∉ y.roots := fun z => hn (List.mem_append_right _ z)
      rcases List.mem_cons.mp hm with rfl | hm
      · exact ((E.same (s1.trans s2)).trk hj) _ ha hp
      · rcases List.mem_append.mp hm with hm | hm
        · exact o1.al j t hj ho hn1 a ha (by rw [eM]; exact List.mem_cons_of_mem _ hm)
        · exact o2.al j t hj ho hn2 a ha (by rw [eN]; exact List.mem_cons_of_mem _ hm)
    · exact q.elim
end
end KT
/-! KtP: tools for the plain laws: loops, comprehensions, items, over data. -/
namespace KT
open PySem PySem.Spec PyProof.Rows L2

theorem selB {b : Bool} {A B : Prop} (h1 : b = true → A) (h2 : b = false → B) : (match (generalizing := false) b with | true => A | false => B) := by
  cases b
  · exact h2 rfl
  · exact h1 rfl
theorem selD {p : Prop} [Decidable p] {A B : Prop} (h1 : p → A) (h2 : ¬ p → B) : (match (generalizing := false) decide p with | true => A | false => B) := by
  by_cases h : p
  · rw [decide_eq_true h]; exact h1 h
  · rw [decide_eq_false h]; exact h2 h

/-- two ways that meet again: e tells the names behind them -/
theorem selJ {c : Bool} {m1 m2 : DS} {N : En → Prop} {rt : Val → En → Prop} {δ : En} {α : Type} (e : α → En) (h : ∀ a, N (e a)) (h1 : c = true → ∀ N : En → Prop, (∀ a, N (e a)) → m1 ⟨N, rt⟩ δ) (h2 : c = false → ∀ N : En → Prop, (∀ a, N (e a)) → m2 ⟨N, rt⟩ δ) :
    (match (generalizing := false) c with | true => m1 ⟨N, rt⟩ δ | false => m2 ⟨N, rt⟩ δ) := by
  cases c
  · exact h2 rfl N h
  · exact h1 rfl N h
/-! ### data -/
def dI (xs : List Int) : D := .list (xs.map PyData.int)
def dL {α : Type} (enc : α → D) (xs : List α) : D := .list (xs.map enc)
theorem dI_eq (xs : List Int) : dI xs = dL PyData.int xs := rfl

/-! ### items -/
theorem atI_map {α β : Type} (f : α → β) {xs : List α} {k : Nat} (h : k < xs.length) : atI (xs.map f) ((k : Nat) : Int) = some (f xs[k]) :=
  atI_nat (by rw [List.getElem?_map, List.getElem?_eq_getElem h]; rfl)
theorem atI_mapI {α β : Type} (f : α → β) {xs : List α} {i : Int} (h0 : 0 ≤ i) (h : i < xs.length) : ∃ hk : i.toNat < xs.length, atI (xs.map f) i = some (f xs[i.toNat]) := by
  obtain ⟨k, rfl⟩ := Int.eq_ofNat_of_zero_le h0
  have hk : k < xs.length := by omega
  exact ⟨hk, atI_map f hk⟩
theorem ixN_nat {n : Nat} {i : Int} (h0 : 0 ≤ i) (h : i < n) : ixN n i = some i.toNat := by
  unfold ixN
  rw [if_pos h0, if_pos h]

/-! ### loops -/
theorem loopN_inv {body : Nat → (En → Prop) → En → Prop} (I : Nat → En → Prop) : ∀ (n i : Nat) (P : En → Prop) (δ : En), I i δ → (∀ k δ P, i ≤ k → k < i + n → I k δ → (∀ δ', I (k + 1) δ' → P δ') → body k P δ) → (∀ δ, I (i + n) δ → P δ) → loopN body n i P δ
  | 0, i, P, δ, h, _, e => e δ h
  | n + 1, i, P, δ, h, s, e => s i δ _ (Nat.le_refl _) (by omega) h fun δ' h' => loopN_inv I n (i + 1) P δ' h' (fun k δ P h1 h2 => s k δ P (by omega) (by omega)) (fun δ h => e δ (by rw [show i + (n + 1) = i + 1 + n by omega]; exact h))
/-- for over a range, the names as they stand at each turn (the wiped ones forgotten) -/
theorem forR_fun {tg : Tgt} {wl : List Nat} {m : DS} {E : DEnds} {lo : Int} {n : Nat} {F : En → Prop} {δ : En} (f : Nat → En) (h0 : killR δ wl = f 0)
    (hs : ∀ k, k < n → ∀ P : En → Prop, (∀ δ', killR δ' wl = f (k + 1) → P δ') → asgT tg (.int (lo + k)) true (f k) fun δ' => m ⟨P, E.rt⟩ δ') (hF : F (f n)) : LoopN (bodyR tg wl m E lo) n 0 (fun δ => F (killR δ wl)) δ := by
  refine LoopN_of (loopN_inv (fun k δ => killR δ wl = f k) n 0 _ δ h0 (fun k δ P _ hk e hP => ?_) fun δ e => ?_)
  · show asgT tg _ true (killR δ wl) _
    rw [e]
    exact hs k (by omega) P hP
  · rw [e, Nat.zero_add]; exact hF
/-- the same where only something is known of the names -/
theorem forR_inv {tg : Tgt} {wl : List Nat} {m : DS} {E : DEnds} {lo : Int} {n : Nat} {F : En → Prop} {δ : En} (I : Nat → En → Prop) (h0 : I 0 (killR δ wl))
    (hs : ∀ k, k < n → ∀ δ, I k δ → ∀ P : En → Prop, (∀ δ', I (k + 1) (killR δ' wl) → P δ') → asgT tg (.int (lo + k)) true δ fun δ' => m ⟨P, E.rt⟩ δ') (hF : ∀ δ, I n δ → F δ) : LoopN (bodyR tg wl m E lo) n 0 (fun δ => F (killR δ wl)) δ := by
  refine LoopN_of (loopN_inv (fun k δ => I k (killR δ wl)) n 0 _ δ h0 (fun k δ P _ hk e hP => hs k (by omega) _ e P hP) fun δ e => hF _ (by rw [Nat.zero_add] at e; exact e))
theorem loopL_inv {body : D → (En → Prop) → En → Prop} {α : Type} (enc : α → D) (I : List α → En → Prop) : ∀ (xs pre : List α) (P : En → Prop) (δ : En), I pre δ → (∀ p x q δ P, pre ++ xs = p ++ x :: q → I p δ → (∀ δ', I (p ++ [x]) δ' → P δ') → body (enc x) P δ) → (∀ δ, I (pre ++ xs) δ → P δ) →
    loopL body (xs.map enc) P δ
  | [], pre, P, δ, h, _, e => e δ (by simpa using h)
  | x :: xs, pre, P, δ, h, s, e => s pre x xs δ _ rfl h fun δ' h' => loopL_inv enc I xs (pre ++ [x]) P δ' h' (fun p y q δ P e1 => s p y q δ P (by rw [← e1]; simp)) (fun δ h => e δ (by simpa using h))
/-- for over a value's items: pre is what has been taken -/
theorem forV_inv {tg : Tgt} {wl : List Nat} {m : DS} {E : DEnds} {F : En → Prop} {δ : En} {α : Type} {enc : α → D} {xs : List α} (I : List α → En → Prop) (h0 : I [] (killR δ wl))
    (hs : ∀ p x q, xs = p ++ x :: q → ∀ δ, I p δ → ∀ P : En → Prop, (∀ δ', I (p ++ [x]) (killR δ' wl) → P δ') → asgT tg (enc x) (imm (enc x)) δ fun δ' => m ⟨P, E.rt⟩ δ') (hF : ∀ δ, I xs δ → F δ) : LoopL (bodyV tg wl m E) (xs.map enc) (fun δ => F (killR δ wl)) δ :=
  LoopL_of (loopL_inv enc (fun p δ => I p (killR δ wl)) xs [] _ δ h0 (fun p x q δ P e h hP => hs p x q e _ h P hP) fun δ h => hF _ h)
theorem forN_inv {tg : Tgt} {wl : List Nat} {m : DS} {E : DEnds} {F : En → Prop} {δ : En} {j : Nat} {s : Slot} {α : Type} {enc : α → D} {xs : List α} (I : List α → En → Prop) (h0 : I [] (killR δ wl)) (hj : wl.contains j = false) (hI : ∀ p δ, I p δ → δ[j]? = some (some s))
    (hs : ∀ p x q, xs = p ++ x :: q → ∀ δ, I p δ → ∀ P : En → Prop, (∀ δ', I (p ++ [x]) (killR δ' wl) → P δ') → asgT tg (enc x) (imm (enc x)) δ fun δ' => m ⟨P, E.rt⟩ δ') {pn : Bool} (hF : ∀ δ, I xs δ → F (unpin j pn δ)) :
    LoopL (bodyN j s tg wl m E) (xs.map enc) (fun δ => δ[j]? = some (some s) ∧ F (unpin j pn (killR δ wl))) δ :=
  LoopL_of (loopL_inv enc (fun p δ => I p (killR δ wl)) xs [] _ δ h0 (fun p x q δ P e h hP => ⟨by rw [← killR_at hj]; exact hI _ _ h, hs p x q e _ h P hP⟩) fun δ h => ⟨by rw [← killR_at hj]; exact hI _ _ h, hF _ h⟩)

/-! ### comprehensions -/
theorem lcL_inv {step : D → List D → (List D → Prop) → Prop} {α : Type} (enc : α → D) (g : α → List D) : ∀ (xs : List α) (acc : List D) (P : List D → Prop), acc.length + xs.length ≤ sizeLine → (∀ x, (g x).length ≤ 1) →
    (∀ x ∈ xs, ∀ acc K, acc.length < sizeLine → K (acc ++ g x) → step (enc x) acc K) → P (acc ++ xs.flatMap g) → lcL step (xs.map enc) acc P
  | [], acc, P, _, _, _, h => by
    show P acc
    simpa using h
  | x :: xs, acc, P, hl, hg, hs, h => by
    simp only [List.length_cons] at hl
    refine hs x List.mem_cons_self acc _ (by omega) (lcL_inv enc g xs (acc ++ g x) P ?_ hg (fun y hy => hs y (List.mem_cons_of_mem _ hy)) ?_)
    · have := hg x
      rw [List.length_append]
      omega
    · simpa [List.append_assoc] using h
theorem lc_map {step : D → List D → (List D → Prop) → Prop} {α : Type} {enc : α → D} {xs : List α} {P : List D → Prop} (f : α → D) (hl : xs.length ≤ sizeLine) (hs : ∀ x ∈ xs, ∀ acc K, acc.length < sizeLine → K (acc ++ [f x]) → step (enc x) acc K) (h : P (xs.map f)) :
    LcL step (xs.map enc) [] P :=
  LcL_of <| lcL_inv enc (fun x => [f x]) xs [] P (by simpa using hl) (fun _ => Nat.le_refl _) hs (by
    have e : ∀ xs : List α, (xs.flatMap fun x => [f x]) = xs.map f := fun xs => by
      induction xs with
      | nil => rfl
      | cons x xs ih => simp [List.flatMap_cons, ih]
    rw [List.nil_append, e]
    exact h)
theorem lc_filter {step : D → List D → (List D → Prop) → Prop} {α : Type} {enc : α → D} {xs : List α} {P : List D → Prop} (p : α → Bool) (f : α → D) (hl : xs.length ≤ sizeLine)
    (hs : ∀ x ∈ xs, ∀ acc K, acc.length < sizeLine → (p x = true → K (acc ++ [f x])) → (p x = false → K acc) → step (enc x) acc K) (h : P ((xs.filter p).map f)) : LcL step (xs.map enc) [] P :=
  LcL_of <| lcL_inv enc (fun x => if p x then [f x] else []) xs [] P (by simpa using hl) (fun x => by split <;> simp) (fun x hx acc K ha hK => hs x hx acc K ha (fun e => by rw [e] at hK; exact hK) (fun e => by rw [e] at hK; simpa using hK)) (by
    have e : ∀ xs : List α, (xs.flatMap fun x => if p x then [f x] else []) = (xs.filter p).map f := fun xs => by
      induction xs with
      | nil => rfl
      | cons x xs ih =>
        rw [List.flatMap_cons, ih, List.filter_cons]
        split <;> simp
    rw [List.nil_append, e]
    exact h)
theorem rgItems_eq (lo : Int) (n : Nat) : rgItems lo n = (List.range n).map fun (k : Nat) => PyData.int (lo + (k : Int)) := rfl

/-! ### equality of data -/
theorem eqv_ints : ∀ xs ys : List Int, PyData.eqvAll (xs.map PyData.int) (ys.map PyData.int) = decide (xs = ys)
  | [], [] => by simp [PyData.eqvAll]
  | [], _ :: _ => by simp [PyData.eqvAll]
  | _ :: _, [] => by simp [PyData.eqvAll]
  | x :: xs, y :: ys => by
    simp only [List.map_cons, PyData.eqvAll, PyData.eqv, eqv_ints xs ys, List.cons.injEq, Bool.decide_and]
    rw [show (x == y) = decide (x = y) from rfl]
theorem eqv_dI (xs ys : List Int) : PyData.eqv (dI xs) (dI ys) = decide (xs = ys) := by
  unfold dI
  simp only [PyData.eqv]
  exact eqv_ints xs ys
theorem canLay_ints : ∀ xs : List Int, PyData.canLayAll0 (xs.map PyData.int) = true
  | [] => rfl
  | x :: xs => by simp [PyData.canLayAll0, PyData.canLay0, canLay_ints xs]
/-- data of a small depth -/
def shp (n : Nat) (d : D) : Prop := d.canLay0 = true ∧ d.depth ≤ n
theorem shp.sh {n : Nat} {d : D} (h : shp n d) (hn : n ≤ 64 := by decide) : SeqAt.shaped d = true := by
  unfold SeqAt.shaped
  rw [h.1, Bool.true_and, decide_eq_true_eq]
  exact Nat.le_trans h.2 hn
theorem depthAll_le {n : Nat} : ∀ {ds : List D}, (∀ d ∈ ds, d.depth ≤ n) → PyData.depthAll ds ≤ n
  | [], _ => by simp [PyData.depthAll]
  | d :: ds, h => by
    simp only [PyData.depthAll]
    exact Nat.max_le.mpr ⟨h d List.mem_cons_self, depthAll_le fun e he => h e (List.mem_cons_of_mem _ he)⟩
theorem layAll_of : ∀ {ds : List D}, (∀ d ∈ ds, d.canLay0 = true) → PyData.canLayAll0 ds = true
  | [], _ => rfl
  | d :: ds, h => by
    simp only [PyData.canLayAll0, h d List.mem_cons_self, layAll_of fun e he => h e (List.mem_cons_of_mem _ he), Bool.and_self]
theorem shp_list {n : Nat} {ds : List D} (h : ∀ d ∈ ds, shp n d) : shp (n + 1) (.list ds) := by
  refine ⟨?_, ?_⟩
  · simp only [PyData.canLay0]
    exact layAll_of fun d hd => (h d hd).1
  · simp only [PyData.depth]
    have := depthAll_le (n := n) fun d hd => (h d hd).2
    omega
theorem shp_tuple {n : Nat} {ds : List D} (h : ∀ d ∈ ds, shp n d) : shp (n + 1) (.tuple ds) := by
  refine ⟨?_, ?_⟩
  · simp only [PyData.canLay0]
    exact layAll_of fun d hd => (h d hd).1
  · simp only [PyData.depth]
    have := depthAll_le (n := n) fun d hd => (h d hd).2
    omega
theorem shp_int (i : Int) : shp 1 (.int i) := ⟨rfl, by simp [PyData.depth]⟩
theorem shp_bool (i : Bool) : shp 1 (.bool i) := ⟨rfl, by simp [PyData.depth]⟩
theorem shp_none : shp 1 .none := ⟨rfl, by simp [PyData.depth]⟩
theorem shp.up {n m : Nat} {d : D} (h : shp n d) (hm : n ≤ m := by decide) : shp m d := ⟨h.1, Nat.le_trans h.2 hm⟩
theorem shp_dI (xs : List Int) : shp 2 (dI xs) := shp_list fun d hd => by
  obtain ⟨x, _, rfl⟩ := List.mem_map.mp hd
  exact shp_int x
/-- equality of data by a typed reading -/
def EqEnc {α : Type} [DecidableEq α] (enc : α → D) : Prop := ∀ x y : α, PyData.eqv (enc x) (enc y) = decide (x = y)
theorem eqv_all {α : Type} [DecidableEq α] {enc : α → D} (h : EqEnc enc) : ∀ xs ys : List α, PyData.eqvAll (xs.map enc) (ys.map enc) = decide (xs = ys)
  | [], [] => by simp [PyData.eqvAll]
  | [], _ :: _ => by simp [PyData.eqvAll]
  | _ :: _, [] => by simp [PyData.eqvAll]
  | x :: xs, y :: ys => by simp only [List.map_cons, PyData.eqvAll, h x y, eqv_all h xs ys, List.cons.injEq, Bool.decide_and]
theorem eqv_dL {α : Type} [DecidableEq α] {enc : α → D} (h : EqEnc enc) (xs ys : List α) : PyData.eqv (dL enc xs) (dL enc ys) = decide (xs = ys) := by
  unfold dL
  simp only [PyData.eqv]
  exact eqv_all h xs ys
theorem eqEnc_dI : EqEnc dI := eqv_dI
theorem eqEnc_int : EqEnc PyData.int := fun x y => rfl
theorem eqEnc_dL {α : Type} [DecidableEq α] {enc : α → D} (h : EqEnc enc) : EqEnc (dL enc) := eqv_dL h
theorem kEq_list {xs ys : List D} {Q : D → Prop} {n : Nat} (h1 : shp n (.list xs)) (h2 : shp n (.list ys)) (q : Q (.bool (PyData.eqv (.list xs) (.list ys)))) (hn : n ≤ 64 := by decide) : kEqB false (.list xs) (.list ys) Q := ⟨⟨h1.sh hn, h2.sh hn⟩, q⟩
theorem kNe_list {xs ys : List D} {Q : D → Prop} {n : Nat} (h1 : shp n (.list xs)) (h2 : shp n (.list ys)) (q : Q (.bool (!PyData.eqv (.list xs) (.list ys)))) (hn : n ≤ 64 := by decide) : kEqB true (.list xs) (.list ys) Q := ⟨⟨h1.sh hn, h2.sh hn⟩, q⟩
theorem cutD_to {α : Type} (f : α → D) (xs : List α) (k : Nat) : cutD (xs.map f) none (some (k : Int)) = (xs.take k).map f := by
  unfold cutD
  rw [HT.sIx_none, HT.sIx_nat, List.drop_zero, Nat.sub_zero, List.length_map, ← List.map_take]
  congr 1
  by_cases h : k ≤ xs.length
  · rw [Nat.min_eq_left h]
  · rw [Nat.min_eq_right (by omega), List.take_of_length_le (Nat.le_refl _), List.take_of_length_le (by omega)]
theorem cutD_from {α : Type} (f : α → D) (xs : List α) (k : Nat) : cutD (xs.map f) (some (k : Int)) none = (xs.drop k).map f := by
  unfold cutD
  rw [HT.sIx_none, HT.sIx_nat, List.length_map, ← List.map_drop, ← List.map_take]
  congr 1
  by_cases h : k ≤ xs.length
  · rw [Nat.min_eq_left h, List.take_of_length_le (by simp)]
  · rw [Nat.min_eq_right (by omega), List.drop_of_length_le (Nat.le_refl _), List.drop_of_length_le (by omega)]
    simp
theorem mul_r {i j : Int} (h : -(2 ^ 64) < j ∧ j < 2 ^ 64) : MulOk i j := .inl (.inr h)
theorem mul_l {i j : Int} (h : -(2 ^ 64) < i ∧ i < 2 ^ 64) : MulOk i j := .inl (.inl h)
theorem log2_lt {n : Nat} {k : Nat} (h : n < 2 ^ k) (hk : 0 < k) : n.log2 < k := by
  by_cases h0 : n = 0
  · subst h0
    rw [Nat.log2_zero]
    exact hk
  · exact (Nat.log2_lt h0).mpr h
theorem div_ok {i j : Int} (h : 0 < j) (hj : j < 2 ^ 8000) : DivOk i j := ⟨h, Nat.lt_of_lt_of_le (log2_lt (n := j.natAbs) (k := 8000) (by
  have e : ((2 : Int) ^ 8000) = (((2 : Nat) ^ 8000 : Nat) : Int) := by rw [Int.natCast_pow]; rfl
  omega) (by decide)) (by decide)⟩
theorem div_small {i j : Int} (h : 0 < j) (hj : j < 2 ^ 64) : DivOk i j := ⟨h, Nat.lt_of_lt_of_le (log2_lt (n := j.natAbs) (k := 64) (by omega) (by decide)) (by decide)⟩
theorem pow_ok {i j : Int} (h0 : 0 ≤ j) (h1 : j ≤ 1000000) (h2 : i.natAbs < 2 ^ 64) : PowOk i j := ⟨h0, h1, h2⟩
theorem mod_pos {i j : Int} (h : 0 < j) : ModOk i j := h
theorem line_big : 100000 ≤ sizeLine := by rw [sizeLine_eq]; decide
abbrev sI (i : Int) : Option Slot := some ⟨.int i, true, false⟩
abbrev pI (i : Int) : Option Slot := some ⟨.int i, false, true⟩
abbrev pL (xs : List Int) : Option Slot := some ⟨dI xs, false, true⟩
abbrev sL (xs : List Int) : Option Slot := some ⟨dI xs, true, false⟩
/-! ### typed data of the laws -/
def oD : Option Int → D
  | none => .none
  | some i => .int i
structure Dm where
  low : Int
  high : Int
  least : Option Int
  most : Option Int
  deriving DecidableEq
def dDm (x : Dm) : D := .tuple [.int x.low, .int x.high, oD x.least, oD x.most]
@[simp] theorem imm_oD (o : Option Int) : imm (oD o) = true := by cases o <;> rfl
@[simp] theorem imm_dDm (x : Dm) : imm (dDm x) = true := by
  simp [dDm, imm, immL, imm_oD]
theorem immL_map {α : Type} {enc : α → D} (h : ∀ x, imm (enc x) = true) (xs : List α) : immL (xs.map enc) = true := immL_of.mpr fun d hd => by
  obtain ⟨x, _, rfl⟩ := List.mem_map.mp hd
  exact h x
theorem eqv_oD : EqEnc oD := fun x y => by
  cases x <;> cases y <;> simp [oD, PyData.eqv]
  rfl
theorem eqv_dDm : EqEnc dDm := fun x y => by
  obtain ⟨a, b, c, d⟩ := x
  obtain ⟨a', b', c', d'⟩ := y
  simp only [dDm, PyData.eqv, PyData.eqvAll, eqv_oD c c', eqv_oD d d', Dm.mk.injEq, Bool.decide_and, Bool.and_true]
  rfl
theorem shp_oD (o : Option Int) : shp 1 (oD o) := by
  cases o
  · exact shp_none
  · exact shp_int _
theorem shp_dDm (x : Dm) : shp 2 (dDm x) := shp_tuple fun d hd => by
  simp only [List.mem_cons, List.not_mem_nil, or_false] at hd
  rcases hd with rfl | rfl | rfl | rfl
  · exact shp_int _
  · exact shp_int _
  · exact shp_oD _
  · exact shp_oD _
theorem shp_dL {α : Type} {enc : α → D} {n : Nat} (h : ∀ x, shp n (enc x)) (xs : List α) : shp (n + 1) (dL enc xs) := shp_list fun d hd => by
  obtain ⟨x, _, rfl⟩ := List.mem_map.mp hd
  exact h x
/-- the item at a place -/
def at' (xs : List Int) (i : Int) : Int := xs.getD i.toNat 0
theorem atI_at {xs : List Int} {i : Int} (h0 : 0 ≤ i) (h : i < xs.length) : atI (xs.map PyData.int) i = some (.int (at' xs i)) := by
  obtain ⟨hk, e⟩ := atI_mapI PyData.int h0 h
  rw [e]
  simp [at', List.getD_eq_getElem?_getD, List.getElem?_eq_getElem hk]
theorem at'_nat {xs : List Int} {k : Nat} (h : k < xs.length) : at' xs k = xs[k] := by
  simp [at', List.getD_eq_getElem?_getD, List.getElem?_eq_getElem h]
theorem call_eq {w : W} {ds : List D} {Q : D → Prop} {r : D} (h : w ds (· = r)) (q : Q r) : ∃ Qd, w ds Qd ∧ ∀ d, Qd d → Q d := ⟨_, h, fun d e => e ▸ q⟩
theorem call_ex {w : W} {ds : List D} {Q Qd : D → Prop} (h : w ds Qd) (q : ∀ d, Qd d → Q d) : ∃ Qd, w ds Qd ∧ ∀ d, Qd d → Q d := ⟨_, h, q⟩
theorem dI_map {α : Type} (f : α → Int) (xs : List α) : PyData.list (xs.map fun x => PyData.int (f x)) = dI (xs.map f) := by
  simp [dI, List.map_map, Function.comp_def]
theorem dL_map {α β : Type} (enc : β → D) (f : α → β) (xs : List α) : PyData.list (xs.map fun x => enc (f x)) = dL enc (xs.map f) := by
  simp [dL, List.map_map, Function.comp_def]
theorem dI_app (xs : List Int) (a : Int) : PyData.list (List.map PyData.int xs ++ [PyData.int a]) = dI (xs ++ [a]) := by simp [dI]
theorem dL_app {α : Type} (enc : α → D) (xs : List α) (x : α) : PyData.list (List.map enc xs ++ [enc x]) = dL enc (xs ++ [x]) := by simp [dL]
/-- a list of draws -/
def Drawn (xs : List Int) : Prop := ∀ x ∈ xs, 0 ≤ x ∧ x < 1000003
theorem Drawn.app {xs : List Int} (h : Drawn xs) (a : Int) : Drawn (xs ++ [a % 1000003]) := fun x hx => by
  rcases List.mem_append.mp hx with hx | hx
  · exact h x hx
  · rw [List.mem_singleton.mp hx]
    exact ⟨Int.emod_nonneg _ (by decide), Int.emod_lt_of_pos _ (by decide)⟩
theorem Drawn.at' {xs : List Int} (h : Drawn xs) (i : Int) : 0 ≤ KT.at' xs i ∧ KT.at' xs i < 1000003 := by
  unfold KT.at'
  rw [List.getD_eq_getElem?_getD]
  cases e : xs[i.toNat]? with
  | none => exact ⟨Int.le_refl 0, by decide⟩
  | some v => exact h v (List.mem_of_getElem? e)
theorem at'_map {f : Int → Int} {xs : List Int} {i : Int} (h0 : 0 ≤ i) (h : i < xs.length) : at' (xs.map f) i = f (at' xs i) := by
  obtain ⟨k, rfl⟩ := Int.eq_ofNat_of_zero_le h0
  have hk : k < xs.length := by omega
  rw [at'_nat (by simpa using hk), at'_nat hk, List.getElem_map]
theorem at'_range {f : Nat → Int} {n : Nat} {i : Int} (h0 : 0 ≤ i) (h : i < n) : at' ((List.range n).map f) i = f i.toNat := by
  obtain ⟨k, rfl⟩ := Int.eq_ofNat_of_zero_le h0
  have hk : k < n := by omega
  rw [at'_nat (by simpa using hk)]
  simp
theorem eqv_self {n : Nat} {d : D} (h : shp n d) : PyData.eqv d d = true := PySem.SeqAt.eqv_refl d h.1
/-- a list or tuple compared with itself -/
theorem eq_self {n : Nat} {d : D} {Q : D → Prop} (h : shp n d) (q : Q (.bool true)) (hn : n ≤ 64 := by decide) : (SeqAt.shaped d = true ∧ SeqAt.shaped d = true) ∧ Q (.bool (ng false (PyData.eqv d d))) := by
  rw [eqv_self h]
  exact ⟨⟨h.sh hn, h.sh hn⟩, q⟩
theorem ne_self {n : Nat} {d : D} {Q : D → Prop} (h : shp n d) (q : Q (.bool false)) (hn : n ≤ 64 := by decide) : (SeqAt.shaped d = true ∧ SeqAt.shaped d = true) ∧ Q (.bool (ng true (PyData.eqv d d))) := by
  rw [eqv_self h]
  exact ⟨⟨h.sh hn, h.sh hn⟩, q⟩
/-- a comprehension that gives ints, data -/
theorem map_int {α : Type} (f : α → Int) (xs : List α) : (xs.map fun x => PyData.int (f x)) = (xs.map f).map PyData.int := by
  rw [List.map_map]; rfl
theorem map_enc {α β : Type} (enc : β → D) (f : α → β) (xs : List α) : (xs.map fun x => enc (f x)) = (xs.map f).map enc := by
  rw [List.map_map]; rfl
theorem lc_mapI {step : D → List D → (List D → Prop) → Prop} {α : Type} {enc : α → D} {xs : List α} {P : List D → Prop} (f : α → Int) (ys : List Int) (hl : xs.length ≤ sizeLine) (hs : ∀ x ∈ xs, ∀ acc K, acc.length < sizeLine → K (acc ++ [PyData.int (f x)]) → step (enc x) acc K)
    (e : xs.map f = ys) (h : P (ys.map PyData.int)) : LcL step (xs.map enc) [] P :=
  lc_map (fun x => PyData.int (f x)) hl hs (by rw [map_int, e]; exact h)
theorem lc_mapL {step : D → List D → (List D → Prop) → Prop} {α β : Type} {enc : α → D} {xs : List α} {P : List D → Prop} (enc2 : β → D) (f : α → β) (ys : List β) (hl : xs.length ≤ sizeLine) (hs : ∀ x ∈ xs, ∀ acc K, acc.length < sizeLine → K (acc ++ [enc2 (f x)]) → step (enc x) acc K)
    (e : xs.map f = ys) (h : P (ys.map enc2)) : LcL step (xs.map enc) [] P :=
  lc_map (fun x => enc2 (f x)) hl hs (by rw [map_enc, e]; exact h)
theorem lc_filterL {step : D → List D → (List D → Prop) → Prop} {α β : Type} {enc : α → D} {xs : List α} {P : List D → Prop} (enc2 : β → D) (p : α → Bool) (f : α → β) (ys : List β) (hl : xs.length ≤ sizeLine)
    (hs : ∀ x ∈ xs, ∀ acc K, acc.length < sizeLine → (p x = true → K (acc ++ [enc2 (f x)])) → (p x = false → K acc) → step (enc x) acc K) (e : (xs.filter p).map f = ys) (h : P (ys.map enc2)) : LcL step (xs.map enc) [] P :=
  lc_filter p (fun x => enc2 (f x)) hl hs (by rw [map_enc, e]; exact h)
/-- over a range -/
theorem lc_rgI {step : D → List D → (List D → Prop) → Prop} {lo : Int} {n : Nat} {P : List D → Prop} (f : Nat → Int) (ys : List Int) (hl : n ≤ sizeLine) (hs : ∀ k, k < n → ∀ acc K, acc.length < sizeLine → K (acc ++ [PyData.int (f k)]) → step (.int (lo + (k : Int))) acc K)
    (e : (List.range n).map f = ys) (h : P (ys.map PyData.int)) : LcL step (rgItems lo n) [] P := by
  rw [rgItems_eq]
  exact lc_mapI f ys (by simpa using hl) (fun k hk => hs k (by simpa using hk)) e h
theorem lc_rgL {step : D → List D → (List D → Prop) → Prop} {lo : Int} {n : Nat} {β : Type} {P : List D → Prop} (enc2 : β → D) (f : Nat → β) (ys : List β) (hl : n ≤ sizeLine) (hs : ∀ k, k < n → ∀ acc K, acc.length < sizeLine → K (acc ++ [enc2 (f k)]) → step (.int (lo + (k : Int))) acc K)
    (e : (List.range n).map f = ys) (h : P (ys.map enc2)) : LcL step (rgItems lo n) [] P := by
  rw [rgItems_eq]
  exact lc_mapL enc2 f ys (by simpa using hl) (fun k hk => hs k (by simpa using hk)) e h
/-- tests of a thing with itself; data that are the same by reading -/
theorem ne_m {n : Nat} {d e : D} {A B : Prop} (h : shp n d) (he : e = d) (q : B) (hn : n ≤ 64 := by decide) : (SeqAt.shaped d = true ∧ SeqAt.shaped e = true) ∧ (match (generalizing := false) ng true (PyData.eqv d e) with | true => A | false => B) := by
  subst he
  rw [eqv_self h]
  exact ⟨⟨h.sh hn, h.sh hn⟩, q⟩
theorem eq_m {n : Nat} {d e : D} {A B : Prop} (h : shp n d) (he : e = d) (q : A) (hn : n ≤ 64 := by decide) : (SeqAt.shaped d = true ∧ SeqAt.shaped e = true) ∧ (match (generalizing := false) ng false (PyData.eqv d e) with | true => A | false => B) := by
  subst he
  rw [eqv_self h]
  exact ⟨⟨h.sh hn, h.sh hn⟩, q⟩
/-! ### greatest and least of a list -/
def mx : List Int → Int
  | [] => 0
  | x :: xs => match xs with
    | [] => x
    | _ :: _ => max x (mx xs)
def mn : List Int → Int
  | [] => 0
  | x :: xs => match xs with
    | [] => x
    | _ :: _ => min x (mn xs)
theorem mx_spec : ∀ xs : List Int, 0 < xs.length → mx xs ∈ xs ∧ ∀ y ∈ xs, y ≤ mx xs
  | [], h => absurd h (by simp)
  | [x], _ => ⟨by simp [mx], fun y hy => by simp at hy; subst hy; simp [mx]⟩
  | x :: z :: xs, _ => by
    have ih := mx_spec (z :: xs) (by simp)
    have e : mx (x :: z :: xs) = max x (mx (z :: xs)) := rfl
    rw [e]
    refine ⟨?_, fun y hy => ?_⟩
    · by_cases h : x ≤ mx (z :: xs)
      · rw [Int.max_eq_right h]; exact List.mem_cons_of_mem _ ih.1
      · rw [Int.max_eq_left (by omega)]; exact List.mem_cons_self
    · rcases List.mem_cons.mp hy with rfl | hy
      · omega
      · have := ih.2 y hy; omega
theorem mn_spec : ∀ xs : List Int, 0 < xs.length → mn xs ∈ xs ∧ ∀ y ∈ xs, mn xs ≤ y
  | [], h => absurd h (by simp)
  | [x], _ => ⟨by simp [mn], fun y hy => by simp at hy; subst hy; simp [mn]⟩
  | x :: z :: xs, _ => by
    have ih := mn_spec (z :: xs) (by simp)
    have e : mn (x :: z :: xs) = min x (mn (z :: xs)) := rfl
    rw [e]
    refine ⟨?_, fun y hy => ?_⟩
    · by_cases h : x ≤ mn (z :: xs)
      · rw [Int.min_eq_left h]; exact List.mem_cons_self
      · rw [Int.min_eq_right (by omega)]; exact List.mem_cons_of_mem _ ih.1
    · rcases List.mem_cons.mp hy with rfl | hy
      · omega
      · have := ih.2 y hy; omega
theorem kmx {xs : List Int} {A : Int → Prop} (h : 0 < xs.length) (q : A (mx xs)) : ∃ ns : List Int, (xs.map PyData.int = ns.map PyData.int ∧ 0 < ns.length) ∧ ∀ m, m ∈ ns → (∀ y, y ∈ ns → y ≤ m) → A m :=
  ⟨xs, ⟨rfl, h⟩, fun m hm hy => by
    have a := (mx_spec xs h).2 m hm
    have b := hy _ (mx_spec xs h).1
    rw [show m = mx xs by omega]
    exact q⟩
theorem kmn {xs : List Int} {A : Int → Prop} (h : 0 < xs.length) (q : A (mn xs)) : ∃ ns : List Int, (xs.map PyData.int = ns.map PyData.int ∧ 0 < ns.length) ∧ ∀ m, m ∈ ns → (∀ y, y ∈ ns → m ≤ y) → A m :=
  ⟨xs, ⟨rfl, h⟩, fun m hm hy => by
    have a := (mn_spec xs h).2 m hm
    have b := hy _ (mn_spec xs h).1
    rw [show m = mn xs by omega]
    exact q⟩
/-- a list of one number, times -/
theorem rep_ints (v : Int) : ∀ n : Nat, (List.replicate n [PyData.int v]).flatten = (List.replicate n v).map PyData.int
  | 0 => rfl
  | n + 1 => by
    rw [List.replicate_succ, List.flatten_cons, rep_ints v n, List.replicate_succ, List.map_cons]
    rfl
theorem same_len {α : Type} {xs ys : List α} (h : xs = ys) : xs.length = ys.length := by rw [h]
theorem dI_set (xs : List Int) (k : Nat) (v : Int) : PyData.list ((xs.map PyData.int).set k (.int v)) = dI (xs.set k v) := by
  unfold dI
  rw [List.map_set]
theorem atI_set {ys : List Int} {m : Nat} {v i : Int} (h0 : 0 ≤ i) (h : i < ys.length) : atI ((ys.map PyData.int).set m (.int v)) i = some (.int (at' (ys.set m v) i)) := by
  rw [show (ys.map PyData.int).set m (.int v) = (ys.set m v).map PyData.int from (List.map_set ..).symm]
  exact atI_at h0 (by simpa using h)
theorem dI_set2 (xs : List Int) (k l : Nat) (v w : Int) : PyData.list (((xs.map PyData.int).set k (.int v)).set l (.int w)) = dI ((xs.set k v).set l w) := by
  unfold dI
  rw [List.map_set, List.map_set]
/-- an item of the names, by another reading -/
theorem env_eq {d e : D} {F : D → En} {N : En → Prop} (h : d = e) (q : N (F e)) : N (F d) := h ▸ q
/-! ### loops and meeting ways, told by the names that change alone -/
def setSl : En → List Nat → List (Option Slot) → En
  | δ, j :: js, s :: ss => setSl (δ.set j s) js ss
  | δ, [], _ => δ
  | δ, _ :: _, [] => δ
def setSlK : En → List Nat → List (Option Slot) → (En → Prop) → Prop
  | δ, j :: js, s :: ss, P => setK δ j s fun δ' => setSlK δ' js ss P
  | δ, [], _, P => P δ
  | δ, _ :: _, [], P => P δ
theorem setSlK_eq : ∀ (js : List Nat) (ss : List (Option Slot)) (δ : En) (P : En → Prop), setSlK δ js ss P = P (setSl δ js ss)
  | [], _, _, _ => by simp only [setSlK, setSl]
  | _ :: _, [], _, _ => by simp only [setSlK, setSl]
  | j :: js, s :: ss, δ, P => by
    show setK δ j s (fun δ' => setSlK δ' js ss P) = P (setSl (δ.set j s) js ss)
    rw [setK_eq, setSlK_eq js ss]
theorem forR_st {tg : Tgt} {wl : List Nat} {m : DS} {E : DEnds} {lo : Int} {n : Nat} {F : En → Prop} {δ : En} {α : Type} (js : List Nat) (f : α → List (Option Slot)) (I : Nat → α → Prop) (a0 : α) (hI : I 0 a0) (h0 : killR δ wl = setSl (killR δ wl) js (f a0))
    (hs : ∀ k, k < n → ∀ a, I k a → ∀ P : En → Prop, (∀ a' δ', I (k + 1) a' → killR δ' wl = setSl (killR δ wl) js (f a') → P δ') → killK δ wl fun δ0 => setSlK δ0 js (f a) fun δ1 => asgT tg (.int (lo + k)) true δ1 fun δ' => m ⟨P, E.rt⟩ δ')
    (hF : ∀ a, I n a → killK δ wl fun δ0 => setSlK δ0 js (f a) F) : LoopN (bodyR tg wl m E lo) n 0 (fun δ => F (killR δ wl)) δ := by
  refine forR_inv (fun k δ' => ∃ a, I k a ∧ δ' = setSl (killR δ wl) js (f a)) ⟨a0, hI, h0⟩ (fun k hk δ' ⟨a, ha, e⟩ P hP => ?_) (fun δ' ⟨a, ha, e⟩ => ?_)
  · have q := hs k hk a ha P fun a' δ'' h1 h2 => hP δ'' ⟨a', h1, h2⟩
    rw [killK_eq, setSlK_eq] at q
    rw [e]
    exact q
  · have q := hF a ha
    rw [killK_eq, setSlK_eq] at q
    rw [e]
    exact q
theorem forR_same {tg : Tgt} {wl : List Nat} {m : DS} {E : DEnds} {lo : Int} {n : Nat} {F : En → Prop} {δ : En}
    (hs : ∀ k, k < n → ∀ P : En → Prop, (∀ δ', killR δ' wl = killR δ wl → P δ') → killK δ wl fun δ1 => asgT tg (.int (lo + k)) true δ1 fun δ' => m ⟨P, E.rt⟩ δ')
    (hF : killK δ wl F) : LoopN (bodyR tg wl m E lo) n 0 (fun δ => F (killR δ wl)) δ := by
  refine forR_inv (fun k δ' => δ' = killR δ wl) rfl (fun k hk δ' e P hP => ?_) (fun δ' e => ?_)
  · have q := hs k hk P fun δ'' h2 => hP δ'' h2
    rw [killK_eq] at q
    rw [e]
    exact q
  · rw [killK_eq] at hF
    rw [e]
    exact hF
theorem forV_st {tg : Tgt} {wl : List Nat} {m : DS} {E : DEnds} {F : En → Prop} {δ : En} {β : Type} {enc : β → D} {xs : List β} {α : Type} (js : List Nat) (f : α → List (Option Slot)) (I : List β → α → Prop) (a0 : α) (hI : I [] a0) (h0 : killR δ wl = setSl (killR δ wl) js (f a0))
    (hs : ∀ p x q, xs = p ++ x :: q → ∀ a, I p a → ∀ P : En → Prop, (∀ a' δ', I (p ++ [x]) a' → killR δ' wl = setSl (killR δ wl) js (f a') → P δ') → killK δ wl fun δ0 => setSlK δ0 js (f a) fun δ1 => asgT tg (enc x) (imm (enc x)) δ1 fun δ' => m ⟨P, E.rt⟩ δ')
    (hF : ∀ a, I xs a → killK δ wl fun δ0 => setSlK δ0 js (f a) F) : LoopL (bodyV tg wl m E) (xs.map enc) (fun δ => F (killR δ wl)) δ := by
  refine forV_inv (fun p δ' => ∃ a, I p a ∧ δ' = setSl (killR δ wl) js (f a)) ⟨a0, hI, h0⟩ (fun p x q ex δ' ⟨a, ha, e⟩ P hP => ?_) (fun δ' ⟨a, ha, e⟩ => ?_)
  · have q := hs p x q ex a ha P fun a' δ'' h1 h2 => hP δ'' ⟨a', h1, h2⟩
    rw [killK_eq, setSlK_eq] at q
    rw [e]
    exact q
  · have q := hF a ha
    rw [killK_eq, setSlK_eq] at q
    rw [e]
    exact q
theorem forV_same {tg : Tgt} {wl : List Nat} {m : DS} {E : DEnds} {F : En → Prop} {δ : En} {β : Type} {enc : β → D} {xs : List β}
    (hs : ∀ p x q, xs = p ++ x :: q → ∀ P : En → Prop, (∀ δ', killR δ' wl = killR δ wl → P δ') → killK δ wl fun δ1 => asgT tg (enc x) (imm (enc x)) δ1 fun δ' => m ⟨P, E.rt⟩ δ')
    (hF : killK δ wl F) : LoopL (bodyV tg wl m E) (xs.map enc) (fun δ => F (killR δ wl)) δ := by
  refine forV_inv (fun p δ' => δ' = killR δ wl) rfl (fun p x q ex δ' e P hP => ?_) (fun δ' e => ?_)
  · have q := hs p x q ex P fun δ'' h2 => hP δ'' h2
    rw [killK_eq] at q
    rw [e]
    exact q
  · rw [killK_eq] at hF
    rw [e]
    exact hF
theorem setSl_at {j : Nat} : ∀ {js : List Nat} {ss : List (Option Slot)} {δ : En}, js.contains j = false → (setSl δ js ss)[j]? = δ[j]?
  | [], _, _, _ => by simp only [setSl]
  | _ :: _, [], _, _ => by simp only [setSl]
  | i :: js, s :: ss, δ, h => by
    have h' : (j == i) = false ∧ js.contains j = false := by simpa using h
    show (setSl (δ.set i s) js ss)[j]? = _
    rw [setSl_at h'.2, List.getElem?_set_ne (fun e => by subst e; simp at h')]
/-- over a name's list: the name keeps its value -/
theorem forN_st {tg : Tgt} {wl : List Nat} {m : DS} {E : DEnds} {F : En → Prop} {δ : En} {j : Nat} {s : Slot} {β : Type} {enc : β → D} {xs : List β} {α : Type} (js : List Nat) (f : α → List (Option Slot)) (I : List β → α → Prop) (a0 : α) (hI : I [] a0) (h0 : killR δ wl = setSl (killR δ wl) js (f a0))
    (hj : wl.contains j = false) (hjs : js.contains j = false) (hjj : δ[j]? = some (some s))
    (hs : ∀ p x q, xs = p ++ x :: q → ∀ a, I p a → ∀ P : En → Prop, (∀ a' δ', I (p ++ [x]) a' → killR δ' wl = setSl (killR δ wl) js (f a') → P δ') → killK δ wl fun δ0 => setSlK δ0 js (f a) fun δ1 => asgT tg (enc x) (imm (enc x)) δ1 fun δ' => m ⟨P, E.rt⟩ δ')
    {pn : Bool} (hF : ∀ a, I xs a → killK δ wl fun δ0 => setSlK δ0 js (f a) fun δ1 => F (unpin j pn δ1)) :
    LoopL (bodyN j s tg wl m E) (xs.map enc) (fun δ => δ[j]? = some (some s) ∧ F (unpin j pn (killR δ wl))) δ := by
  refine forN_inv (fun p δ' => ∃ a, I p a ∧ δ' = setSl (killR δ wl) js (f a)) ⟨a0, hI, h0⟩ hj (fun p δ' ⟨a, _, e⟩ => by rw [e, setSl_at hjs, killR_at hj, hjj]) (fun p x q ex δ' ⟨a, ha, e⟩ P hP => ?_) (fun δ' ⟨a, ha, e⟩ => ?_)
  · have q := hs p x q ex a ha P fun a' δ'' h1 h2 => hP δ'' ⟨a', h1, h2⟩
    rw [killK_eq, setSlK_eq] at q
    rw [e]
    exact q
  · have q := hF a ha
    rw [killK_eq, setSlK_eq] at q
    rw [e]
    exact q
theorem forN_same {tg : Tgt} {wl : List Nat} {m : DS} {E : DEnds} {F : En → Prop} {δ : En} {j : Nat} {s : Slot} {β : Type} {enc : β → D} {xs : List β} (hj : wl.contains j = false) (hjj : δ[j]? = some (some s))
    (hs : ∀ p x q, xs = p ++ x :: q → ∀ P : En → Prop, (∀ δ', killR δ' wl = killR δ wl → P δ') → killK δ wl fun δ1 => asgT tg (enc x) (imm (enc x)) δ1 fun δ' => m ⟨P, E.rt⟩ δ')
    {pn : Bool} (hF : killK δ wl fun δ1 => F (unpin j pn δ1)) :
    LoopL (bodyN j s tg wl m E) (xs.map enc) (fun δ => δ[j]? = some (some s) ∧ F (unpin j pn (killR δ wl))) δ := by
  refine forN_inv (fun p δ' => δ' = killR δ wl) rfl hj (fun p δ' e => by rw [e, killR_at hj, hjj]) (fun p x q ex δ' e P hP => ?_) (fun δ' e => ?_)
  · have q := hs p x q ex P fun δ'' h2 => hP δ'' h2
    rw [killK_eq] at q
    rw [e]
    exact q
  · rw [killK_eq] at hF
    rw [e]
    exact hF
/-- ways that meet: js tells which names differ -/
theorem ifJs {t : DT} {m n : DS} {N : En → Prop} {rt : Val → En → Prop} {δ : En} {α : Type} (js : List Nat) (f : α → List (Option Slot)) (h : ∀ a, setSlK δ js (f a) N) (k : ∀ N : En → Prop, (∀ a, N (setSl δ js (f a))) → mIf t m n ⟨N, rt⟩ δ) : mIfJ t m n ⟨N, rt⟩ δ :=
  ifJ (fun a => setSl δ js (f a)) (fun a => by have q := h a; rw [setSlK_eq] at q; exact q) k
/-- one name's list that grows -/
abbrev sD (d : D) : List (Option Slot) := [some ⟨d, true, false⟩]
theorem ownP {α : Type} {enc : α → D} (xs : List α) : ownN (xs.map enc) false = false := by unfold ownN; split <;> rfl
end KT
namespace KM
open PySem PySem.Spec PyProof.Rows L2 KT
/-- parting(first, second); slots: 0 first, 1 second, 2 at -/
def m_parting : DS :=
  (mRet (dBin kAdd (dLcV (.nm 2) [2] (dTst (dBin kNotIn (dVar 2) (dVar 1))) (dVar 2) (dVar 0)) (dLcV (.nm 2) [2] (dTst (dBin kNotIn (dVar 2) (dVar 0))) (dVar 2) (dVar 1))))
def w_parting : W := runF 3 m_parting
/-- offsets_after(size, turns); slots: 0 size, 1 turns, 2 offsets, 3 player, 4 model, 5 slip -/
def m_offsets_after : DS :=
  (mSeq (mSet 2 true (dBin kMul (dLst (aCons (dC (.int 0)) aNil)) (dVar 0)))
  (mSeq (mForN (.tp [3, 4, 5]) [3, 4, 5] 1
  (mSetI 2 (dVar 3) (dBin kAdd (dSub (dVar 2) (dVar 4)) (dVar 5))))
  (mRet (dVar 2))))
def w_offsets_after : W := runF 6 m_offsets_after
/-- all_heard(size, turns); slots: 0 size, 1 turns, 2 heard, 3 at, 4 player, 5 model, 6 slip -/
def m_all_heard : DS :=
  (mSeq (mSet 2 true (dLcR rg1 (.nm 4) [4] dtYes (dLst aNil) (aCons (dVar 0) aNil)))
  (mSeq (mForR rg1 (.nm 3) [3, 4, 5, 6] (aCons (dCall kLen (aCons (dVar 1) aNil)) aNil)
  (mSeq (mAsg (.tp [4, 5, 6]) false (dSub (dVar 1) (dVar 3)))
  (mSetI 2 (dVar 4) (dBin kAdd (dSub (dVar 2) (dVar 5)) (dLst (aCons (dVar 3) aNil))))))
  (mRet (dVar 2))))
def w_all_heard : W := runF 7 m_all_heard
/-- slips_heard(size, turns, player); slots: 0 size, 1 turns, 2 player -/
def m_slips_heard : DS :=
  (mRet (dSub (dCall (wCall 2 w_all_heard) (aCons (dVar 0) (aCons (dVar 1) aNil))) (dVar 2)))
def w_slips_heard : W := runF 3 m_slips_heard
/-- greatest_apart(size, turns, errors, first, second); slots: 0 size, 1 turns, 2 errors, 3 first, 4 second, 5 heard, 6 at -/
def m_greatest_apart : DS :=
  (mSeq (mSet 5 true (dCall (wCall 2 w_all_heard) (aCons (dVar 0) (aCons (dVar 1) aNil))))
  (mRet (dCall kSum (aCons (dLcV (.nm 6) [6] dtYes (dSub (dVar 2) (dVar 6)) (dCall (wCall 2 w_parting) (aCons (dSub (dVar 5) (dVar 3)) (aCons (dSub (dVar 5) (dVar 4)) aNil)))) aNil))))
def w_greatest_apart : W := runF 7 m_greatest_apart
/-- _law_draws(script, many); slots: 0 script, 1 many, 2 found, 3 cell, 4 number, 5 k, 6 mixed, 7 base -/
def m__law_draws : DS :=
  (mSeq (mSet 2 true (dLst aNil))
  (mSeq (mForV (.nm 3) [3, 4, 5, 6] (dSlice (dVar 0) dNo (dSo (dC (.int 63))))
  (mSeq (mSet 4 true (dCall kAbs (aCons (dCall kInt (aCons (dVar 3) aNil)) aNil)))
  (mIf (dTst (dBin kGe (dVar 4) (dBin kPow (dC (.int 10)) (dC (.int 18)))))
  (mForR rg1 (.nm 5) [5] (aCons (dC (.int 60)) aNil)
  (mIf (dTst (dBin kGt (dVar 4) (dC (.int 0))))
  (mSeq (mApp 2 (dBin kMod (dVar 4) (dC (.int 1000003))))
  (mSet 4 true (dBin kDiv (dVar 4) (dC (.int 1000003)))))
  mNil))
  (mSeq (mSet 6 true (dBin kMod (dBin kAdd (dBin kAdd (dBin kMul (dVar 4) (dC (.int 48271))) (dBin kMul (dC (.int 7)) (dCall kLen (aCons (dVar 2) aNil)))) (dC (.int 11))) (dC (.int 2147483647))))
  (mForR rg1 (.nm 5) [5] (aCons (dC (.int 4)) aNil)
  (mSeq (mSet 6 true (dBin kMod (dBin kAdd (dBin kAdd (dBin kAdd (dBin kMul (dVar 6) (dC (.int 69621))) (dBin kDiv (dVar 6) (dC (.int 65536)))) (dBin kMul (dC (.int 13)) (dVar 5))) (dC (.int 5))) (dC (.int 2147483629))))
  (mApp 2 (dBin kMod (dBin kDiv (dVar 6) (dC (.int 8))) (dC (.int 1000003))))))))))
  (mSeq (mForR rg1 (.nm 5) [5, 7] (aCons (dVar 1) aNil)
  (mIf (dTst (dBin kLt (dCall kLen (aCons (dVar 2) aNil)) (dVar 1)))
  (mSeq (mSet 7 true (dC (.int 0)))
  (mSeq (mIf (dTst (dBin kGt (dCall kLen (aCons (dVar 2) aNil)) (dC (.int 0))))
  (mSet 7 false (dSub (dVar 2) (dBin kMod (dVar 5) (dCall kLen (aCons (dVar 2) aNil)))))
  mNil)
  (mApp 2 (dBin kMod (dBin kAdd (dBin kAdd (dBin kMul (dVar 7) (dC (.int 16807))) (dBin kMul (dC (.int 31)) (dCall kLen (aCons (dVar 2) aNil)))) (dC (.int 17))) (dC (.int 1000003))))))
  mNil))
  (mRet (dSlice (dVar 2) dNo (dSo (dVar 1)))))))
def w__law_draws : W := runF 8 m__law_draws
/-- _law_cell(draws, k); slots: 0 draws, 1 k -/
def m__law_cell : DS :=
  (mSeq (mIf (dTst (dBin kLt (dVar 1) (dCall kLen (aCons (dVar 0) aNil))))
  (mRet (dSub (dVar 0) (dVar 1)))
  mNil)
  (mRet (dBin kMod (dBin kAdd (dBin kAdd (dBin kMul (dSub (dVar 0) (dBin kMod (dVar 1) (dCall kLen (aCons (dVar 0) aNil)))) (dC (.int 31))) (dBin kMul (dSub (dVar 0) (dBin kMod (dBin kMul (dC (.int 7)) (dVar 1)) (dCall kLen (aCons (dVar 0) aNil)))) (dC (.int 17)))) (dBin kMul (dC (.int 101)) (dVar 1))) (dC (.int 1000003)))))
def w__law_cell : W := runF 2 m__law_cell
/-- _law_is_number(value); slots: 0 value -/
def m__law_is_number : DS :=
  (mRet (dAnd (dUn (kIsi "int") (dVar 0)) (dUn kNot (dUn (kIsi "bool") (dVar 0)))))
def w__law_is_number : W := runF 1 m__law_is_number
/-- _law_is_numbers(value, size); slots: 0 value, 1 size, 2 item -/
def m__law_is_numbers : DS :=
  (mSeq (mIf (dtOr (dtNot (dTst (dUn (kIsi "list") (dVar 0)))) (dTst (dBin kNe (dCall kLen (aCons (dVar 0) aNil)) (dVar 1))))
  (mRet (dC (.bool false)))
  mNil)
  (mSeq (mForN (.nm 2) [2] 0
  (mIf (dtNot (dTst (dCall (wCall 1 w__law_is_number) (aCons (dVar 2) aNil))))
  (mRet (dC (.bool false)))
  mNil))
  (mRet (dC (.bool true)))))
def w__law_is_numbers : W := runF 3 m__law_is_numbers
/-- _law_world(draws); slots: 0 draws, 1 size, 2 many, 3 scale, 4 turns, 5 k, 6 player, 7 model -/
def m__law_world : DS :=
  (mSeq (mSet 1 true (dBin kAdd (dC (.int 2)) (dBin kMod (dSub (dVar 0) (dC (.int 0))) (dC (.int 6)))))
  (mSeq (mSet 2 true (dBin kMod (dBin kDiv (dSub (dVar 0) (dC (.int 1))) (dC (.int 8))) (dC (.int 25))))
  (mSeq (mIfJ (dTst (dBin kEq (dBin kMod (dSub (dVar 0) (dC (.int 1))) (dC (.int 8))) (dC (.int 2))))
  (mSeq (mSet 1 true (dBin kAdd (dC (.int 8)) (dBin kMod (dBin kDiv (dSub (dVar 0) (dC (.int 0))) (dC (.int 6))) (dC (.int 53)))))
  (mSet 2 true (dBin kMod (dBin kDiv (dSub (dVar 0) (dC (.int 1))) (dC (.int 8))) (dC (.int 151)))))
  mNil)
  (mSeq (mSet 3 true (dC (.int 1)))
  (mSeq (mIfJ (dTst (dBin kEq (dBin kMod (dSub (dVar 0) (dC (.int 1))) (dC (.int 8))) (dC (.int 4))))
  (mSet 3 true (dBin kAdd (dBin kPow (dC (.int 10)) (dC (.int 9))) (dSub (dVar 0) (dC (.int 2)))))
  mNil)
  (mSeq (mSet 4 true (dLst aNil))
  (mSeq (mForR rg1 (.nm 5) [5, 6, 7] (aCons (dVar 2) aNil)
  (mSeq (mSet 6 true (dBin kMod (dCall (wCall 2 w__law_cell) (aCons (dVar 0) (aCons (dBin kAdd (dC (.int 3)) (dBin kMul (dC (.int 3)) (dVar 5))) aNil))) (dVar 1)))
  (mSeq (mSet 7 true (dBin kMod (dBin kAdd (dBin kAdd (dVar 6) (dC (.int 1))) (dBin kMod (dCall (wCall 2 w__law_cell) (aCons (dVar 0) (aCons (dBin kAdd (dC (.int 4)) (dBin kMul (dC (.int 3)) (dVar 5))) aNil))) (dBin kSub (dVar 1) (dC (.int 1))))) (dVar 1)))
  (mApp 4 (dTup (aCons (dVar 6) (aCons (dVar 7) (aCons (dBin kMul (dBin kSub (dBin kMod (dCall (wCall 2 w__law_cell) (aCons (dVar 0) (aCons (dBin kAdd (dC (.int 5)) (dBin kMul (dC (.int 3)) (dVar 5))) aNil))) (dC (.int 41))) (dC (.int 20))) (dVar 3)) aNil))))))))
  (mRet (dTup (aCons (dVar 1) (aCons (dVar 4) aNil)))))))))))
def w__law_world : W := runF 8 m__law_world
/-- _law_offsets(size, turns); slots: 0 size, 1 turns, 2 offsets, 3 player, 4 model, 5 slip -/
def m__law_offsets : DS :=
  (mSeq (mSet 2 true (dBin kMul (dLst (aCons (dC (.int 0)) aNil)) (dVar 0)))
  (mSeq (mForN (.tp [3, 4, 5]) [3, 4, 5] 1
  (mSetI 2 (dVar 3) (dBin kAdd (dSub (dVar 2) (dVar 4)) (dVar 5))))
  (mRet (dVar 2))))
def w__law_offsets : W := runF 6 m__law_offsets
/-- _law_heard(turns, player); slots: 0 turns, 1 player, 2 heard, 3 at, 4 back, 5 turn -/
def m__law_heard : DS :=
  (mSeq (mSet 2 true (dLst aNil))
  (mSeq (mSet 3 true (dVar 1))
  (mSeq (mForR rg1 (.nm 4) [4, 5] (aCons (dCall kLen (aCons (dVar 0) aNil)) aNil)
  (mSeq (mSet 5 false (dSub (dVar 0) (dBin kSub (dBin kSub (dCall kLen (aCons (dVar 0) aNil)) (dC (.int 1))) (dVar 4))))
  (mIf (dTst (dBin kEq (dSub (dVar 5) (dC (.int 0))) (dVar 3)))
  (mSeq (mSet 2 true (dBin kAdd (dLst (aCons (dBin kSub (dBin kSub (dCall kLen (aCons (dVar 0) aNil)) (dC (.int 1))) (dVar 4)) aNil)) (dVar 2)))
  (mSet 3 true (dSub (dVar 5) (dC (.int 1)))))
  mNil)))
  (mRet (dVar 2)))))
def w__law_heard : W := runF 6 m__law_heard
/-- _law_is_right(size, turns); slots: 0 size, 1 turns, 2 passed, 3 offsets, 4 told, 5 player, 6 heard, 7 at -/
def m__law_is_right : DS :=
  (mSeq (mSet 2 true (dCall kList (aCons (dVar 1) aNil)))
  (mSeq (mSet 3 true (dCall (wCall 2 w__law_offsets) (aCons (dVar 0) (aCons (dVar 1) aNil))))
  (mSeq (mSet 4 true (dCall (wCall 2 w_offsets_after) (aCons (dVar 0) (aCons (dVar 2) aNil))))
  (mSeq (mIf (dtOr (dTst (dBin kNe (dVar 2) (dVar 1))) (dtOr (dtNot (dTst (dCall (wCall 2 w__law_is_numbers) (aCons (dVar 4) (aCons (dVar 0) aNil))))) (dTst (dBin kNe (dVar 4) (dVar 3)))))
  (mRet (dC (.bool false)))
  mNil)
  (mSeq (mApp 4 (dC (.int 0)))
  (mSeq (mForR rg1 (.nm 5) [4, 5, 6] (aCons (dVar 0) aNil)
  (mIf (dTst (dBin kLt (dVar 5) (dC (.int 8))))
  (mSeq (mSet 6 true (dCall (wCall 2 w__law_heard) (aCons (dVar 1) (aCons (dVar 5) aNil))))
  (mSeq (mSet 4 true (dCall (wCall 3 w_slips_heard) (aCons (dVar 0) (aCons (dVar 2) (aCons (dVar 5) aNil)))))
  (mSeq (mIf (dtOr (dtNot (dTst (dCall (wCall 2 w__law_is_numbers) (aCons (dVar 4) (aCons (dCall kLen (aCons (dVar 6) aNil)) aNil))))) (dtOr (dTst (dBin kNe (dVar 4) (dVar 6))) (dTst (dBin kNe (dVar 2) (dVar 1)))))
  (mRet (dC (.bool false)))
  mNil)
  (mSeq (mIf (dTst (dBin kNe (dCall kSum (aCons (dLcV (.nm 7) [7] dtYes (dSub (dSub (dVar 1) (dVar 7)) (dC (.int 2))) (dVar 4)) aNil)) (dSub (dVar 3) (dVar 5))))
  (mRet (dC (.bool false)))
  mNil)
  (mApp 4 (dC (.int 0)))))))
  mNil))
  (mRet (dC (.bool true)))))))))
def w__law_is_right : W := runF 8 m__law_is_right
/-- _law_with(turns, slips); slots: 0 turns, 1 slips, 2 at -/
def m__law_with : DS :=
  (mRet (dLcR rg1 (.nm 2) [2] dtYes (dTup (aCons (dSub (dSub (dVar 0) (dVar 2)) (dC (.int 0))) (aCons (dSub (dSub (dVar 0) (dVar 2)) (dC (.int 1))) (aCons (dSub (dVar 1) (dVar 2)) aNil)))) (aCons (dCall kLen (aCons (dVar 0) aNil)) aNil)))
def w__law_with : W := runF 3 m__law_with
/-- _law_pair_is_right(draws, size, turns, errors, first, second); slots: 0 draws, 1 size, 2 turns, 3 errors, 4 first, 5 second, 6 one, 7 other, 8 due, 9 up, 10 at, 11 passed, 12 told, 13 offsets, 14 drawn, 15 slip -/
def m__law_pair_is_right : DS :=
  (mSeq (mSet 6 true (dCall (wCall 2 w__law_heard) (aCons (dVar 2) (aCons (dVar 4) aNil))))
  (mSeq (mSet 7 true (dCall (wCall 2 w__law_heard) (aCons (dVar 2) (aCons (dVar 5) aNil))))
  (mSeq (mSet 8 true (dC (.int 0)))
  (mSeq (mSet 9 true (dBin kMul (dLst (aCons (dC (.int 0)) aNil)) (dCall kLen (aCons (dVar 2) aNil))))
  (mSeq (mForR rg1 (.nm 10) [] (aCons (dCall kLen (aCons (dVar 2) aNil)) aNil)
  (mIf (dTst (dBin kNe (dBin kIn (dVar 10) (dVar 6)) (dBin kIn (dVar 10) (dVar 7))))
  (mSeq (mSet 8 true (dBin kAdd (dVar 8) (dSub (dVar 3) (dVar 10))))
  (mSeq (mSetI 9 (dVar 10) (dSub (dVar 3) (dVar 10)))
  (mIf (dTst (dBin kIn (dVar 10) (dVar 6)))
  (mSetI 9 (dVar 10) (dBin kSub (dC (.int 0)) (dSub (dVar 3) (dVar 10))))
  mNil)))
  mNil))
  (mSeq (mSet 11 true (dLst (aCons (dCall kList (aCons (dVar 2) aNil)) (aCons (dCall kList (aCons (dVar 3) aNil)) aNil))))
  (mSeq (mSet 12 true (dCall (wCall 5 w_greatest_apart) (aCons (dVar 1) (aCons (dSub (dVar 11) (dC (.int 0))) (aCons (dSub (dVar 11) (dC (.int 1))) (aCons (dVar 4) (aCons (dVar 5) aNil)))))))
  (mSeq (mIf (dtOr (dTst (dBin kNe (dVar 11) (dLst (aCons (dVar 2) (aCons (dVar 3) aNil))))) (dtOr (dtNot (dTst (dCall (wCall 1 w__law_is_number) (aCons (dVar 12) aNil)))) (dTst (dBin kNe (dVar 12) (dVar 8)))))
  (mRet (dC (.bool false)))
  mNil)
  (mSeq (mSet 13 true (dCall (wCall 2 w_offsets_after) (aCons (dVar 1) (aCons (dCall (wCall 2 w__law_with) (aCons (dVar 2) (aCons (dVar 9) aNil))) aNil))))
  (mSeq (mIf (dTst (dBin kNe (dBin kSub (dSub (dVar 13) (dVar 5)) (dSub (dVar 13) (dVar 4))) (dVar 8)))
  (mRet (dC (.bool false)))
  mNil)
  (mSeq (mSet 13 true (dCall (wCall 2 w_offsets_after) (aCons (dVar 1) (aCons (dCall (wCall 2 w__law_with) (aCons (dVar 2) (aCons (dLcV (.nm 15) [15] dtYes (dBin kSub (dC (.int 0)) (dVar 15)) (dVar 9)) aNil))) aNil))))
  (mSeq (mIf (dTst (dBin kNe (dBin kSub (dSub (dVar 13) (dVar 4)) (dSub (dVar 13) (dVar 5))) (dVar 8)))
  (mRet (dC (.bool false)))
  mNil)
  (mSeq (mSet 14 true (dLcR rg1 (.nm 10) [10] dtYes (dBin kSub (dBin kMod (dCall (wCall 2 w__law_cell) (aCons (dVar 0) (aCons (dBin kAdd (dC (.int 70)) (dBin kMul (dC (.int 2)) (dVar 10))) aNil))) (dBin kAdd (dBin kMul (dC (.int 2)) (dSub (dVar 3) (dVar 10))) (dC (.int 1)))) (dSub (dVar 3) (dVar 10))) (aCons (dCall kLen (aCons (dVar 2) aNil)) aNil)))
  (mSeq (mSet 13 true (dCall (wCall 2 w_offsets_after) (aCons (dVar 1) (aCons (dCall (wCall 2 w__law_with) (aCons (dVar 2) (aCons (dVar 14) aNil))) aNil))))
  (mRet (dBin kLe (dCall kAbs (aCons (dBin kSub (dSub (dVar 13) (dVar 5)) (dSub (dVar 13) (dVar 4))) aNil)) (dVar 8)))))))))))))))))
def w__law_pair_is_right : W := runF 16 m__law_pair_is_right
/-- law(script); slots: 0 script, 1 draws, 2 size, 3 turns, 4 errors, 5 pairs, 6 first, 7 second, 8 at, 9 k -/
def m_law : DS :=
  (mSeq (mSet 1 true (dCall (wCall 2 w__law_draws) (aCons (dVar 0) (aCons (dC (.int 120)) aNil))))
  (mSeq (mAsg (.tp [2, 3]) true (dCall (wCall 1 w__law_world) (aCons (dVar 1) aNil)))
  (mSeq (mSet 4 true (dLcR rg1 (.nm 8) [8] dtYes (dBin kMod (dCall (wCall 2 w__law_cell) (aCons (dVar 1) (aCons (dBin kAdd (dC (.int 60)) (dVar 8)) aNil))) (dC (.int 10))) (aCons (dCall kLen (aCons (dVar 3) aNil)) aNil)))
  (mSeq (mIf (dtOr (dtNot (dTst (dCall (wCall 2 w__law_is_right) (aCons (dVar 2) (aCons (dVar 3) aNil))))) (dtOr (dtNot (dTst (dCall (wCall 2 w__law_is_right) (aCons (dVar 2) (aCons (dSlice (dVar 3) dNo (dSo (dUn kNeg (dC (.int 1))))) aNil))))) (dtNot (dTst (dCall (wCall 2 w__law_is_right) (aCons (dVar 2) (aCons (dLst aNil) aNil)))))))
  (mRet (dC (.bool false)))
  mNil)
  (mSeq (mSet 5 true (dLcR rg1 (.nm 9) [9] dtYes (dTup (aCons (dBin kMod (dCall (wCall 2 w__law_cell) (aCons (dVar 1) (aCons (dBin kAdd (dC (.int 90)) (dBin kMul (dC (.int 2)) (dVar 9))) aNil))) (dVar 2)) (aCons (dBin kMod (dCall (wCall 2 w__law_cell) (aCons (dVar 1) (aCons (dBin kAdd (dC (.int 91)) (dBin kMul (dC (.int 2)) (dVar 9))) aNil))) (dVar 2)) aNil))) (aCons (dC (.int 8)) aNil)))
  (mSeq (mIfJ (dTst (dBin kLt (dVar 2) (dC (.int 6))))
  (mSeq (mSet 5 true (dLst aNil))
  (mForR rg1 (.nm 6) [6] (aCons (dVar 2) aNil)
  (mSet 5 true (dBin kAdd (dVar 5) (dLcR rg1 (.nm 7) [7] dtYes (dTup (aCons (dVar 6) (aCons (dVar 7) aNil))) (aCons (dVar 2) aNil))))))
  mNil)
  (mSeq (mForN (.tp [6, 7]) [6, 7] 5
  (mIf (dtNot (dTst (dCall (wCall 6 w__law_pair_is_right) (aCons (dVar 1) (aCons (dVar 2) (aCons (dVar 3) (aCons (dVar 4) (aCons (dVar 6) (aCons (dVar 7) aNil)))))))))
  (mRet (dC (.bool false)))
  mNil))
  (mSeq (mIf (dTst (dBin kNe (dCall (wCall 5 w_greatest_apart) (aCons (dVar 2) (aCons (dLst aNil) (aCons (dLst aNil) (aCons (dC (.int 0)) (aCons (dBin kSub (dVar 2) (dC (.int 1))) aNil)))))) (dC (.int 0))))
  (mRet (dC (.bool false)))
  mNil)
  (mRet (dCall (wCall 2 w__law_is_right) (aCons (dVar 2) (aCons (dVar 3) aNil))))))))))))
def w_law : W := runF 10 m_law
end KM
namespace KM
open PySem PySem.Spec PyProof.Rows L2 KT
local macro_rules | `(tactic| walk_at "kw") => `(tactic| (conv => whnf))
local macro_rules | `(tactic| walk_at "ks") => `(tactic| (first | (with_reducible rfl) | (with_reducible exact mod_pos (by first | decide | omega)) | (with_reducible exact div_small (by first | decide | omega) (by first | decide | omega)) | (with_reducible exact mod_pos (by rw [List.length_map]; omega)) | (with_reducible exact mul_r (by decide)) | (with_reducible exact mul_l (by decide)) | (with_reducible exact pow_ok (by decide) (by decide) (by decide)) | (with_reducible exact imm_ints _) | (with_reducible exact immL_map imm_dDm _) | decide | (with_reducible assumption) | omega | ((with_reducible apply And.intro) <;> omega) | (simp only [List.length_map, List.length_append, List.length_cons, List.length_nil]; omega) | (exact ⟨rfl, rfl, by (simp only [List.length_map, List.length_append, List.length_cons, List.length_nil]); omega⟩) | (exact ⟨rfl, rfl, by first | assumption | omega⟩) | (exact rfl) | (refine immL_map (fun _ => ?_) _; rfl) | (exact ⟨by simp [mkV, nv, imm, immL, ndB], by simp [mkV, nv, imm, immL], by first | assumption | omega⟩)))
local macro_rules | `(tactic| walk_at "k") => `(tactic| ((conv => whnf); repeat ((first | ((with_reducible apply And.intro); (· walk_at "ks")) | (refine ⟨_, atI_at (by first | decide | omega | (rw [List.length_map]; omega)) (by first | decide | omega | (rw [List.length_map]; omega)), ?_⟩) | (refine ⟨_, ⟨rfl, rfl, ixN_nat (by first | decide | omega | (rw [List.length_map]; omega)) (by first | (rw [List.length_map]; omega) | (rw [List.length_set, List.length_map]; omega))⟩, ?_⟩)); (conv => whnf))))
/-- the names of _law_draws: found, cell, number, k, mixed, base -/
def dS (ns : List Int) (many : Int) (d : D) (cell number k mixed base : Option Slot) : En := [some ⟨scr ns, false, true⟩, some ⟨.int many, false, true⟩, some ⟨d, true, false⟩, cell, number, k, mixed, base]
theorem draws_ok (ns : List Int) (h63 : ns.length ≤ 63) (many : Nat) (hm : many ≤ 1000) : w__law_draws [scr ns, .int many] fun d => ∃ xs : List Int, d = dI xs ∧ xs.length = many ∧ Drawn xs := by
  have line := line_big
  walk_at "k"
  refine ⟨ns, rfl, ?_⟩
  walk_at "k"
  rw [show KT.cutD (List.map PyData.int ns) none (some 63) = (ns.take 63).map PyData.int from cutD_to _ ns 63]
  refine forV_inv (fun p δ => ∃ xs, δ = dS ns many (dI xs) none none none none none ∧ Drawn xs ∧ xs.length ≤ 60 * p.length) ⟨[], rfl, fun _ h => (nomatch h), Nat.zero_le _⟩ (fun p x q e δ ⟨xs, hδ, hd, hl⟩ P hP => ?_) (fun δ ⟨xs, hδ, hd, hl⟩ => ?_)
  · subst hδ
    have hp : p.length ≤ 62 := by
      have := congrArg List.length e
      simp only [List.length_take, List.length_append, List.length_cons] at this
      omega
    walk_at "k"
    refine selD (fun h => ?_) (fun h => ?_)
    · walk_at "k"
      refine forR_inv (fun k δ => ∃ d ys n, δ = dS ns many d (sI x) (sI n) none none none ∧ d = dI ys ∧ Drawn ys ∧ ys.length ≤ xs.length + k) ⟨_, xs, _, rfl, rfl, hd, Nat.le_refl _⟩ (fun k hk δ ⟨d, ys, n, hδ, hd2, hy, hyl⟩ R hR => ?_) (fun δ ⟨d, ys, n, hδ, hd2, hy, hyl⟩ => ?_)
      · subst hδ hd2
        have hk : k < 60 := hk
        walk_at "k"
        refine selD (fun h2 => ?_) (fun h2 => ?_)
        · walk_at "k"
          refine hR _ ⟨_, ys ++ [n % 1000003], n / 1000003, rfl, dI_app _ _, hy.app _, by simp; omega⟩
        · exact hR _ ⟨_, ys, n, rfl, rfl, hy, by omega⟩
      · subst hδ hd2
        exact hP _ ⟨ys, rfl, hy, by
          have hyl : ys.length ≤ xs.length + 60 := hyl
          simp; omega⟩
    · walk_at "k"
      refine forR_inv (fun k δ => ∃ d ys n, δ = dS ns many d (sI x) (sI x.natAbs) none (sI n) none ∧ d = dI ys ∧ Drawn ys ∧ ys.length ≤ xs.length + k) ⟨_, xs, _, rfl, rfl, hd, Nat.le_refl _⟩ (fun k hk δ ⟨d, ys, n, hδ, hd2, hy, hyl⟩ R hR => ?_) (fun δ ⟨d, ys, n, hδ, hd2, hy, hyl⟩ => ?_)
      · subst hδ hd2
        have hk : k < 4 := hk
        walk_at "k"
        exact hR _ ⟨_, ys ++ [_ % 1000003], _, rfl, dI_app _ _, hy.app _, by simp; omega⟩
      · subst hδ hd2
        exact hP _ ⟨ys, rfl, hy, by
          have hyl : ys.length ≤ xs.length + 4 := hyl
          simp; omega⟩
  · subst hδ
    have hl2 : xs.length ≤ 3780 := by
      rw [List.length_take] at hl
      omega
    walk_at "k"
    refine forR_inv (fun k δ => ∃ d ys, δ = dS ns many d none none none none none ∧ d = dI ys ∧ Drawn ys ∧ ys.length ≤ xs.length + k ∧ (k ≤ ys.length ∨ many ≤ ys.length)) ⟨_, xs, rfl, rfl, hd, Nat.le_refl _, .inl (Nat.zero_le _)⟩ (fun k hk δ ⟨d, ys, hδ, hd2, hy, hyl, hyk⟩ R hR => ?_) (fun δ ⟨d, ys, hδ, hd2, hy, hyl, hyk⟩ => ?_)
    · subst hδ hd2
      have hk : k < many := by simpa using hk
      walk_at "k"
      rw [List.length_map]
      refine selD (fun h => ?_) (fun h => ?_)
      · walk_at "k"
        rw [List.length_map]
        refine selD (fun h2 => ?_) (fun h2 => ?_)
        · have hm0 : 0 ≤ (0 + (k : Int)) % (ys.length : Int) := Int.emod_nonneg _ (by omega)
          have hm1 : (0 + (k : Int)) % (ys.length : Int) < (ys.length : Int) := Int.emod_lt_of_pos _ (by omega)
          walk_at "k"
          exact hR _ ⟨_, ys ++ [_ % 1000003], rfl, dI_app _ _, hy.app _, by simp; omega, by simp; omega⟩
        · walk_at "k"
          exact hR _ ⟨_, ys ++ [_ % 1000003], rfl, dI_app _ _, hy.app _, by simp; omega, by simp; omega⟩
      · exact hR _ ⟨_, ys, rfl, rfl, hy, by omega, .inr (by omega)⟩
    · subst hδ hd2
      have hyk : many ≤ ys.length := by
        have : (many : Int).toNat ≤ ys.length ∨ many ≤ ys.length := hyk
        omega
      walk_at "k"
      rw [show KT.cutD (List.map PyData.int ys) none (some (many : Int)) = (ys.take many).map PyData.int from cutD_to _ ys many]
      unfold mkL
      rw [imm_ints]
      exact ⟨rfl, ys.take many, rfl, by rw [List.length_take]; omega, fun x hx => hy x (List.mem_of_mem_take hx)⟩
def isNum : D → Bool
  | .int _ => true
  | _ => false
theorem is_number_ok (d : D) : w__law_is_number [d] (· = .bool (isNum d)) := by
  cases d <;> (walk_at "k"; rfl)
theorem is_numbers_ok (xs : List Int) (n : Int) : w__law_is_numbers [dI xs, .int n] (· = .bool (decide ((xs.length : Int) = n))) := by
  walk_at "k"
  rw [List.length_map]
  refine selB (fun hb => ?_) (fun hb => ?_)
  · walk_at "k"
    have : ¬ (xs.length : Int) = n := by simpa using hb
    simp [this]
  · have hn : (xs.length : Int) = n := by simpa using hb
    have him : ownN (xs.map PyData.int) false = false := by unfold ownN; split <;> rfl
    walk_at "k"
    rw [him]
    refine forN_inv (enc := PyData.int) (fun p δ => δ = [some ⟨dI xs, false, true⟩, some ⟨.int n, false, true⟩, none]) rfl rfl (fun p δ hδ => by rw [hδ]; rfl) (fun p x q e δ hδ P hP => ?_) (fun δ hδ => ?_)
    · subst hδ
      walk_at "k"
      refine call_eq (is_number_ok (.int x)) ?_
      walk_at "k"
      exact hP _ rfl
    · subst hδ
      walk_at "k"
      simp [hn]
theorem flat_ints : ∀ xs : List Int, (xs.map PyData.int).all flatD = true
  | [] => rfl
  | x :: xs => by simp [flatD, flat_ints xs]
theorem any_ints (w : Int) : ∀ xs : List Int, ((xs.map PyData.int).any fun e => PyData.eqv e (.int w)) = decide (w ∈ xs)
  | [] => by simp
  | x :: xs => by
    rw [List.map_cons, List.any_cons, any_ints w xs]
    simp only [PyData.eqv, List.mem_cons, Bool.decide_or]
    congr 1
    rw [show (x == w) = decide (x = w) from rfl]
    exact decide_eq_decide.mpr eq_comm
theorem notin_m {w : Int} {xs : List Int} {A B : Prop} (h1 : w ∉ xs → A) (h2 : w ∈ xs → B) : (match (generalizing := false) ng true ((xs.map PyData.int).any fun e => PyData.eqv e (.int w)) with | true => A | false => B) := by
  rw [any_ints]
  by_cases h : w ∈ xs
  · rw [decide_eq_true h]; exact h2 h
  · rw [decide_eq_false h]; exact h1 h
theorem in_m {w : Int} {xs : List Int} {A B : Prop} (h1 : w ∈ xs → A) (h2 : w ∉ xs → B) : (match (generalizing := false) ng false ((xs.map PyData.int).any fun e => PyData.eqv e (.int w)) with | true => A | false => B) := by
  rw [any_ints]
  by_cases h : w ∈ xs
  · rw [decide_eq_true h]; exact h1 h
  · rw [decide_eq_false h]; exact h2 h
structure Tn where
  p : Int
  m : Int
  s : Int
def dTn (x : Tn) : D := .tuple [.int x.p, .int x.m, .int x.s]
@[simp] theorem imm_dTn (x : Tn) : imm (dTn x) = true := rfl
theorem shp_dTn (x : Tn) : shp 2 (dTn x) := shp_tuple fun d hd => by
  simp only [List.mem_cons, List.not_mem_nil, or_false] at hd
  rcases hd with rfl | rfl | rfl <;> exact shp_int _
/-- each player and each model stands in the row -/
def okT (n : Nat) (ts : List Tn) : Prop := ∀ x ∈ ts, (0 ≤ x.p ∧ x.p < n) ∧ 0 ≤ x.m ∧ x.m < n
/-- the offset of a player, the turns heard; the turns from the last to the first -/
def oR : List Tn → Int → Int
  | [], _ => 0
  | t :: r, p => if t.p = p then oR r t.m + t.s else oR r p
def hR : List Tn → Int → List Int
  | [], _ => []
  | t :: r, p => if t.p = p then hR r t.m ++ [(r.length : Int)] else hR r p
def oF (ts : List Tn) (p : Int) : Int := oR ts.reverse p
def hF (ts : List Tn) (p : Int) : List Int := hR ts.reverse p
theorem oF_snoc (ts : List Tn) (t : Tn) (p : Int) : oF (ts ++ [t]) p = if t.p = p then oF ts t.m + t.s else oF ts p := by
  unfold oF
  rw [List.reverse_append]
  rfl
theorem hF_snoc (ts : List Tn) (t : Tn) (p : Int) : hF (ts ++ [t]) p = if t.p = p then hF ts t.m ++ [(ts.length : Int)] else hF ts p := by
  unfold hF
  rw [List.reverse_append]
  show (if t.p = p then hR ts.reverse t.m ++ [(ts.reverse.length : Int)] else hR ts.reverse p) = _
  rw [List.length_reverse]
theorem snoc_ind {α : Type} {P : List α → Prop} (h0 : P []) (hs : ∀ xs x, P xs → P (xs ++ [x])) (xs : List α) : P xs := by
  have h : ∀ ys : List α, P ys.reverse := fun ys => by
    induction ys with
    | nil => exact h0
    | cons y ys ih => rw [List.reverse_cons]; exact hs _ _ ih
  have := h xs.reverse
  rwa [List.reverse_reverse] at this
theorem hF_mem {ts : List Tn} : ∀ {p i : Int}, i ∈ hF ts p → 0 ≤ i ∧ i < ts.length := by
  induction ts using snoc_ind with
  | h0 => intro p i h; cases h
  | hs ts t ih =>
    intro p i h
    rw [hF_snoc] at h
    rw [List.length_append, List.length_singleton]
    split at h
    · rcases List.mem_append.mp h with h | h
      · have := ih h; omega
      · rw [List.mem_singleton.mp h]; omega
    · have := ih h; omega
theorem hF_nodup (ts : List Tn) : ∀ p, (hF ts p).Nodup := by
  induction ts using snoc_ind with
  | h0 => intro p; exact List.nodup_nil
  | hs ts t ih =>
    intro p
    rw [hF_snoc]
    split
    · rw [List.nodup_append]
      refine ⟨ih _, by simp, fun a ha b hb e => ?_⟩
      have := hF_mem ha
      rw [List.mem_singleton.mp hb] at e
      omega
    · exact ih _
theorem hF_len (ts : List Tn) : ∀ p, (hF ts p).length ≤ ts.length := by
  induction ts using snoc_ind with
  | h0 => intro p; exact Nat.le_refl _
  | hs ts t ih =>
    intro p
    rw [hF_snoc, List.length_append, List.length_singleton]
    split
    · have := ih t.m
      rw [List.length_append, List.length_singleton]
      omega
    · have := ih p
      omega
/-- a sum over places -/
def sumR (n : Nat) (f : Nat → Int) : Int := ((List.range n).map f).sum
theorem sumR_succ (n : Nat) (f : Nat → Int) : sumR (n + 1) f = sumR n f + f n := by
  unfold sumR
  rw [List.range_succ, List.map_append, List.sum_append]
  simp
theorem sumR_congr {n : Nat} {f g : Nat → Int} (h : ∀ i, i < n → f i = g i) : sumR n f = sumR n g := by
  unfold sumR
  congr 1
  exact List.map_congr_left fun i hi => h i (List.mem_range.mp hi)
theorem sumR_add (n : Nat) (f g : Nat → Int) : sumR n (fun i => f i + g i) = sumR n f + sumR n g := by
  induction n with
  | zero => rfl
  | succ n ih => rw [sumR_succ, sumR_succ, sumR_succ, ih]; omega
theorem sumR_sub (n : Nat) (f g : Nat → Int) : sumR n (fun i => f i - g i) = sumR n f - sumR n g := by
  induction n with
  | zero => rfl
  | succ n ih => rw [sumR_succ, sumR_succ, sumR_succ, ih]; omega
theorem sumR_le {n : Nat} {f g : Nat → Int} (h : ∀ i, i < n → f i ≤ g i) : sumR n f ≤ sumR n g := by
  induction n with
  | zero => exact Int.le_refl _
  | succ n ih =>
    rw [sumR_succ, sumR_succ]
    have := ih fun i hi => h i (by omega)
    have := h n (by omega)
    omega
theorem sumR_zero (n : Nat) : sumR n (fun _ => 0) = 0 := by
  induction n with
  | zero => rfl
  | succ n ih => rw [sumR_succ, ih]; rfl
theorem sumR_one {n : Nat} {a : Int} (f : Int → Int) (h0 : 0 ≤ a) (h1 : a < n) : sumR n (fun i => if (i : Int) = a then f i else 0) = f a := by
  induction n with
  | zero => omega
  | succ n ih =>
    rw [sumR_succ]
    by_cases h : (n : Int) = a
    · rw [if_pos h, h, sumR_congr (g := fun _ => 0) fun i hi => if_neg (by omega), sumR_zero]
      omega
    · rw [if_neg h, ih (by omega)]
      omega
theorem sum_ind {n : Nat} (f : Int → Int) : ∀ {l : List Int}, l.Nodup → (∀ x ∈ l, 0 ≤ x ∧ x < n) → (l.map f).sum = sumR n (fun i => if (i : Int) ∈ l then f i else 0)
  | [], _, _ => by
    rw [sumR_congr (g := fun _ => 0) fun i hi => if_neg (by simp), sumR_zero]
    rfl
  | a :: l, hn, hb => by
    have hn' := List.nodup_cons.mp hn
    have ha := hb a List.mem_cons_self
    rw [List.map_cons, List.sum_cons, sum_ind f hn'.2 fun x hx => hb x (List.mem_cons_of_mem _ hx), ← sumR_one f ha.1 ha.2, ← sumR_add]
    refine sumR_congr fun i hi => ?_
    by_cases e : (i : Int) = a
    · rw [if_pos e, if_neg (by rw [e]; exact hn'.1), if_pos (by rw [e]; exact List.mem_cons_self)]
      omega
    · rw [if_neg e]
      by_cases h : (i : Int) ∈ l
      · rw [if_pos h, if_pos (List.mem_cons_of_mem _ h)]; omega
      · rw [if_neg h, if_neg (by simp [e, h])]; rfl
theorem at'_app {xs ys : List Int} {i : Int} (h0 : 0 ≤ i) (h : i < xs.length) : at' (xs ++ ys) i = at' xs i := by
  obtain ⟨k, rfl⟩ := Int.eq_ofNat_of_zero_le h0
  have hk : k < xs.length := by omega
  rw [at'_nat hk, at'_nat (by rw [List.length_append]; omega), List.getElem_append_left hk]
/-- the slips heard add up to the offset -/
theorem oF_sum (ts : List Tn) : ∀ p, oF ts p = ((hF ts p).map (at' (ts.map Tn.s))).sum := by
  induction ts using snoc_ind with
  | h0 => intro p; rfl
  | hs ts t ih =>
    intro p
    have e : ∀ q, (hF ts q).map (at' ((ts ++ [t]).map Tn.s)) = (hF ts q).map (at' (ts.map Tn.s)) := fun q => List.map_congr_left fun i hi => by
      have := hF_mem hi
      rw [List.map_append, at'_app this.1 (by rw [List.length_map]; exact this.2)]
    rw [oF_snoc, hF_snoc]
    split
    · rw [List.map_append, List.sum_append, e, ih]
      congr 1
      rw [List.map_cons, List.map_nil, List.sum_cons, List.sum_nil, at'_nat (by simp)]
      simp
    · rw [e, ih]
theorem oF_R (ts : List Tn) (p : Int) : oF ts p = sumR ts.length fun i => if (i : Int) ∈ hF ts p then at' (ts.map Tn.s) i else 0 := by
  rw [oF_sum]
  exact sum_ind _ (hF_nodup ts p) fun x hx => hF_mem hx
/-- the same turns with other slips -/
def withS (ts : List Tn) (sl : List Int) : List Tn := (List.range ts.length).map fun (i : Nat) => ⟨at' (ts.map Tn.p) i, at' (ts.map Tn.m) i, at' sl i⟩
theorem hR_congr : ∀ {r1 r2 : List Tn}, r1.map Tn.p = r2.map Tn.p → r1.map Tn.m = r2.map Tn.m → ∀ p, hR r1 p = hR r2 p
  | [], [], _, _, _ => rfl
  | [], _ :: _, h, _, _ => by simp at h
  | _ :: _, [], h, _, _ => by simp at h
  | a :: r1, b :: r2, h1, h2, p => by
    rw [List.map_cons, List.map_cons, List.cons.injEq] at h1 h2
    have ih := hR_congr h1.2 h2.2
    have hl : r1.length = r2.length := by
      have := congrArg List.length h1.2
      simpa using this
    unfold hR
    rw [h1.1, h2.1, ih, ih, hl]
theorem range_at' (xs : List Int) : (List.range xs.length).map (fun (i : Nat) => at' xs (i : Int)) = xs := by
  apply List.ext_getElem
  · simp
  · intro i h1 h2
    rw [List.getElem_map, List.getElem_range, at'_nat h2]
theorem withS_p (ts : List Tn) (sl : List Int) : (withS ts sl).map Tn.p = ts.map Tn.p := by
  unfold withS
  rw [List.map_map]
  have := range_at' (ts.map Tn.p)
  rw [List.length_map] at this
  exact this
theorem withS_m (ts : List Tn) (sl : List Int) : (withS ts sl).map Tn.m = ts.map Tn.m := by
  unfold withS
  rw [List.map_map]
  have := range_at' (ts.map Tn.m)
  rw [List.length_map] at this
  exact this
theorem withS_s (ts : List Tn) (sl : List Int) (h : sl.length = ts.length) : (withS ts sl).map Tn.s = sl := by
  unfold withS
  rw [List.map_map, ← h]
  exact range_at' sl
theorem withS_len (ts : List Tn) (sl : List Int) : (withS ts sl).length = ts.length := by simp [withS]
theorem withS_h (ts : List Tn) (sl : List Int) (p : Int) : hF (withS ts sl) p = hF ts p := by
  unfold hF
  refine hR_congr ?_ ?_ p
  · rw [List.map_reverse, List.map_reverse, withS_p]
  · rw [List.map_reverse, List.map_reverse, withS_m]
theorem okT_with {n : Nat} {ts : List Tn} (h : okT n ts) (sl : List Int) : okT n (withS ts sl) := fun x hx => by
  obtain ⟨i, hi, rfl⟩ := List.mem_map.mp hx
  have hi : i < ts.length := List.mem_range.mp hi
  have := h ts[i] (List.getElem_mem hi)
  rw [at'_nat (by simpa using hi), at'_nat (by simpa using hi), List.getElem_map, List.getElem_map]
  exact this
theorem oF_with (ts : List Tn) (sl : List Int) (h : sl.length = ts.length) (p : Int) : oF (withS ts sl) p = sumR ts.length fun i => if (i : Int) ∈ hF ts p then at' sl i else 0 := by
  rw [oF_R, withS_len, withS_h, withS_s ts sl h]
/-- what the errors allow -/
def due78 (ts : List Tn) (es : List Int) (a b : Int) (n : Nat) : Int := sumR n fun i => if decide ((i : Int) ∈ hF ts a) != decide ((i : Int) ∈ hF ts b) then at' es i else 0
def up78 (ts : List Tn) (es : List Int) (a b : Int) (i : Nat) : Int := if decide ((i : Int) ∈ hF ts a) != decide ((i : Int) ∈ hF ts b) then (if (i : Int) ∈ hF ts a then 0 - at' es i else at' es i) else 0
theorem up_due (ts : List Tn) (es up : List Int) (a b : Int) (hl : up.length = ts.length) (hu : ∀ i, i < ts.length → at' up i = up78 ts es a b i) : oF (withS ts up) b - oF (withS ts up) a = due78 ts es a b ts.length := by
  rw [oF_with ts up hl, oF_with ts up hl, ← sumR_sub]
  refine sumR_congr fun i hi => ?_
  rw [hu i hi]
  unfold up78
  by_cases h1 : (i : Int) ∈ hF ts a <;> by_cases h2 : (i : Int) ∈ hF ts b <;> simp [h1, h2]
theorem dn_due (ts : List Tn) (es up : List Int) (a b : Int) (hl : up.length = ts.length) (hu : ∀ i, i < ts.length → at' up i = up78 ts es a b i) : oF (withS ts (up.map fun x => 0 - x)) a - oF (withS ts (up.map fun x => 0 - x)) b = due78 ts es a b ts.length := by
  rw [oF_with ts _ (by simpa using hl), oF_with ts _ (by simpa using hl), ← sumR_sub]
  refine sumR_congr fun i hi => ?_
  rw [at'_map (by omega) (by omega), hu i hi]
  unfold up78
  by_cases h1 : (i : Int) ∈ hF ts a <;> by_cases h2 : (i : Int) ∈ hF ts b <;> simp [h1, h2]
theorem dr_due (ts : List Tn) (es dr : List Int) (a b : Int) (hl : dr.length = ts.length) (hu : ∀ i, i < ts.length → 0 ≤ at' es i ∧ -at' es i ≤ at' dr i ∧ at' dr i ≤ at' es i) :
    oF (withS ts dr) b - oF (withS ts dr) a ≤ due78 ts es a b ts.length ∧ -(due78 ts es a b ts.length) ≤ oF (withS ts dr) b - oF (withS ts dr) a := by
  rw [oF_with ts dr hl, oF_with ts dr hl, ← sumR_sub]
  unfold due78
  constructor
  · refine sumR_le fun i hi => ?_
    have := hu i hi
    by_cases h1 : (i : Int) ∈ hF ts a <;> by_cases h2 : (i : Int) ∈ hF ts b <;> simp [h1, h2] <;> omega
  · have e : ∀ (n : Nat) (f : Nat → Int), -sumR n f = sumR n fun i => -f i := fun n f => by
      induction n with
      | zero => rfl
      | succ n ih => rw [sumR_succ, sumR_succ, ← ih]; omega
    rw [e]
    refine sumR_le fun i hi => ?_
    have := hu i hi
    by_cases h1 : (i : Int) ∈ hF ts a <;> by_cases h2 : (i : Int) ∈ hF ts b <;> simp [h1, h2] <;> omega
/-- what stands in one list alone -/
def part78 (xs ys : List Int) : List Int := (xs.filter fun x => decide (x ∉ ys)) ++ ys.filter fun y => decide (y ∉ xs)
theorem part_sum (ts : List Tn) (es : List Int) (a b : Int) : ((part78 (hF ts a) (hF ts b)).map (at' es)).sum = due78 ts es a b ts.length := by
  unfold part78
  rw [List.map_append, List.sum_append, sum_ind (n := ts.length) _ ((hF_nodup ts a).sublist List.filter_sublist) (fun x hx => hF_mem (List.mem_filter.mp hx).1),
    sum_ind (n := ts.length) _ ((hF_nodup ts b).sublist List.filter_sublist) (fun x hx => hF_mem (List.mem_filter.mp hx).1), ← sumR_add]
  refine sumR_congr fun i hi => ?_
  simp only [List.mem_filter, decide_eq_true_eq]
  by_cases h1 : (i : Int) ∈ hF ts a <;> by_cases h2 : (i : Int) ∈ hF ts b <;> simp [h1, h2]
theorem part_mem {xs ys : List Int} {x : Int} (h : x ∈ part78 xs ys) : x ∈ xs ∨ x ∈ ys := by
  rcases List.mem_append.mp h with h | h
  · exact .inl (List.mem_filter.mp h).1
  · exact .inr (List.mem_filter.mp h).1
theorem map_range_set {α : Type} (f : Nat → α) (n : Nat) (j : Nat) (v : α) : ((List.range n).map f).set j v = (List.range n).map fun i => if i = j then v else f i := by
  apply List.ext_getElem
  · simp
  · intro i h1 h2
    rw [List.getElem_set]
    simp only [List.getElem_map, List.getElem_range]
    by_cases e : j = i
    · rw [if_pos e, if_pos e.symm]
    · rw [if_neg e, if_neg (fun z => e z.symm)]
theorem rep_range (n : Nat) (v : Int) : List.replicate n v = (List.range n).map fun _ => v := by
  apply List.ext_getElem <;> simp
def cellF (ds : List Int) (k : Int) : Int := if k < ds.length then at' ds k else (at' ds (k % ds.length) * 31 + at' ds (7 * k % ds.length) * 17 + 101 * k) % 1000003
theorem cell_ok (ds : List Int) (k : Int) (hl : 0 < ds.length) (h0 : 0 ≤ k) (h1 : k < 100000) : w__law_cell [dI ds, .int k] (· = .int (cellF ds k)) := by
  have a0 : 0 ≤ k % (ds.length : Int) := Int.emod_nonneg _ (by omega)
  have a1 : k % (ds.length : Int) < ds.length := Int.emod_lt_of_pos _ (by omega)
  have b0 : 0 ≤ 7 * k % (ds.length : Int) := Int.emod_nonneg _ (by omega)
  have b1 : 7 * k % (ds.length : Int) < ds.length := Int.emod_lt_of_pos _ (by omega)
  unfold cellF
  walk_at "k"
  rw [List.length_map]
  refine selD (fun h => ?_) (fun h => ?_)
  · rw [if_pos h]
    walk_at "k"
    rfl
  · rw [if_neg h]
    walk_at "k"
    simp only [List.length_map]
theorem cell_b {ds : List Int} (hd : Drawn ds) (k : Int) : 0 ≤ cellF ds k ∧ cellF ds k < 1000003 := by
  unfold cellF
  split
  · exact hd.at' k
  · exact ⟨Int.emod_nonneg _ (by decide), Int.emod_lt_of_pos _ (by decide)⟩
def offL (n : Nat) (ts : List Tn) : List Int := (List.range n).map fun (i : Nat) => oF ts i
theorem offL_snoc (n : Nat) (ts : List Tn) (t : Tn) (h : (0 ≤ t.p ∧ t.p < n) ∧ 0 ≤ t.m ∧ t.m < n) : (offL n ts).set t.p.toNat (at' (offL n ts) t.m + t.s) = offL n (ts ++ [t]) := by
  unfold offL
  rw [map_range_set]
  refine List.map_congr_left fun i hi => ?_
  rw [oF_snoc, at'_range (f := fun (i : Nat) => oF ts i) h.2.1 h.2.2]
  by_cases e : i = t.p.toNat
  · rw [if_pos e, if_pos (by omega), show ((t.m.toNat : Nat) : Int) = t.m by omega]
  · rw [if_neg e, if_neg (by omega)]
theorem offL_nil (n : Nat) : offL n [] = List.replicate n 0 := (rep_range n 0).symm
theorem offsets_after_ok (n : Nat) (ts : List Tn) (hn : n ≤ 1000) (h : okT n ts) : w_offsets_after [.int n, dL dTn ts] (· = dI (offL n ts)) := by
  have line := line_big
  walk_at "k"
  refine And.intro ⟨rfl, by omega, by omega, by simp; omega⟩ ?_
  rw [show (List.replicate (n : Int).toNat (List.map Val.d [{ d := PyData.int 0, own := true, roots := [] }])).flatten = (List.replicate n 0).map PyData.int from rep_ints 0 n]
  walk_at "k"
  rw [ownP]
  refine forN_st (enc := dTn) [2] (fun d => sD d) (fun p d => d = dI (offL n p)) _ (by rw [offL_nil]; rfl) rfl rfl rfl rfl (fun p x q e _ hd R hR => ?_) (fun _ hd => ?_)
  · subst hd
    have hx := h x (by rw [e]; simp)
    have lo : (offL n p).length = n := by simp [offL]
    have sn := offL_snoc n p x hx
    walk_at "k"
    refine hR _ _ ?_ rfl
    rw [← sn]
    exact dI_set _ _ _
  · subst hd
    walk_at "k"
    rfl
theorem law_offsets_ok (n : Nat) (ts : List Tn) (hn : n ≤ 1000) (h : okT n ts) : w__law_offsets [.int n, dL dTn ts] (· = dI (offL n ts)) := by
  have line := line_big
  walk_at "k"
  refine And.intro ⟨rfl, by omega, by omega, by simp; omega⟩ ?_
  rw [show (List.replicate (n : Int).toNat (List.map Val.d [{ d := PyData.int 0, own := true, roots := [] }])).flatten = (List.replicate n 0).map PyData.int from rep_ints 0 n]
  walk_at "k"
  rw [ownP]
  refine forN_st (enc := dTn) [2] (fun d => sD d) (fun p d => d = dI (offL n p)) _ (by rw [offL_nil]; rfl) rfl rfl rfl rfl (fun p x q e _ hd R hR => ?_) (fun _ hd => ?_)
  · subst hd
    have hx := h x (by rw [e]; simp)
    have lo : (offL n p).length = n := by simp [offL]
    have sn := offL_snoc n p x hx
    walk_at "k"
    refine hR _ _ ?_ rfl
    rw [← sn]
    exact dI_set _ _ _
  · subst hd
    walk_at "k"
    rfl
def hdL (n : Nat) (ts : List Tn) : List (List Int) := (List.range n).map fun (i : Nat) => hF ts i
theorem hdL_len (n : Nat) (ts : List Tn) : (hdL n ts).length = n := by simp [hdL]
theorem hdL_at (n : Nat) (ts : List Tn) {i : Int} (h0 : 0 ≤ i) (h : i < n) : atI ((hdL n ts).map dI) i = some (dI (hF ts i)) := by
  obtain ⟨k, rfl⟩ := Int.eq_ofNat_of_zero_le h0
  have hk : k < n := by omega
  unfold hdL
  rw [List.map_map]
  have := atI_map (dI ∘ fun (i : Nat) => hF ts (i : Int)) (xs := List.range n) (k := k) (by simpa using hk)
  rw [this]
  simp
theorem hdL_snoc (n : Nat) (ts : List Tn) (t : Tn) (h : 0 ≤ t.p ∧ t.p < n) : (hdL n ts).set t.p.toNat (hF ts t.m ++ [(ts.length : Int)]) = hdL n (ts ++ [t]) := by
  unfold hdL
  rw [map_range_set]
  refine List.map_congr_left fun i hi => ?_
  rw [hF_snoc]
  by_cases e : i = t.p.toNat
  · rw [if_pos e, if_pos (by omega)]
  · rw [if_neg e, if_neg (by omega)]
theorem dL_set {α : Type} (enc : α → D) (xs : List α) (k : Nat) (v : α) : PyData.list ((xs.map enc).set k (enc v)) = dL enc (xs.set k v) := by
  unfold dL
  rw [List.map_set]
theorem all_heard_ok (n : Nat) (ts : List Tn) (hn : n ≤ 1000) (hl : ts.length ≤ 1000) (h : okT n ts) : w_all_heard [.int n, dL dTn ts] (· = dL dI (hdL n ts)) := by
  have line := line_big
  walk_at "k"
  refine lc_rgL dI (fun (k : Nat) => ([] : List Int)) (hdL n []) (by omega) (fun k hk acc K ha hK => ?_) ?_ ?_
  · walk_at "k"
    exact hK
  · simp [hdL, hF, hR]
  walk_at "k"
  rw [List.length_map, Int.toNat_natCast]
  refine forR_st [2] (fun d => sD d) (fun k d => d = dL dI (hdL n (ts.take k))) _ rfl rfl (fun k hk _ hd R hR => ?_) (fun _ hd => ?_)
  · subst hd
    have at1 : atI (ts.map dTn) (0 + (k : Int)) = some (dTn ts[k]) := by
      rw [Int.zero_add]
      exact atI_map dTn hk
    have hx := h ts[k] (List.getElem_mem hk)
    have sn := hdL_snoc n (ts.take k) ts[k] hx.1
    have lt : (ts.take k).length = k := by rw [List.length_take]; omega
    rw [← List.take_succ_eq_append_getElem hk, lt] at sn
    have ll := hF_len (ts.take k) ts[k].m
    have a2 := hdL_at n (ts.take k) hx.2.1 hx.2.2
    generalize ts[k] = x at at1 hx sn ll a2
    obtain ⟨p, m, s⟩ := x
    dsimp only at hx sn a2 ll
    walk_at "k"
    refine ⟨_, at1, ?_⟩
    walk_at "k"
    refine ⟨_, a2, ?_⟩
    walk_at "k"
    have ln := hdL_len n (ts.take k)
    have de : PyData.list ((List.map dI (hdL n (ts.take k))).set p.toNat (.list (List.map PyData.int (hF (ts.take k) m) ++ [.int (0 + (k : Int))]))) = dL dI (hdL n (ts.take (k + 1))) := by rw [dI_app, dL_set, Int.zero_add, sn]
    refine And.intro ⟨imm_ints _, rfl, by rw [List.length_map]; simp; omega⟩ ?_
    walk_at "k"
    refine ⟨_, ⟨rfl, rfl, ixN_nat hx.1.1 (by rw [List.length_map, ln]; exact hx.1.2)⟩, ?_⟩
    walk_at "k"
    exact hR _ _ de rfl
  · subst hd
    walk_at "k"
    rw [List.take_length]
    rfl
theorem slips_heard_ok (n : Nat) (ts : List Tn) (p : Int) (hn : n ≤ 1000) (hl : ts.length ≤ 1000) (h : okT n ts) (h0 : 0 ≤ p) (h1 : p < n) : w_slips_heard [.int n, dL dTn ts, .int p] (· = dI (hF ts p)) := by
  walk_at "k"
  refine call_eq (all_heard_ok n ts hn hl h) ?_
  walk_at "k"
  refine ⟨_, hdL_at n ts h0 h1, ?_⟩
  walk_at "k"
  rfl
theorem law_heard_ok (ts : List Tn) (p : Int) (hl : ts.length ≤ 1000) : w__law_heard [dL dTn ts, .int p] (· = dI (hF ts p)) := by
  have line := line_big
  walk_at "k"
  rw [List.length_map, Int.toNat_natCast]
  refine forR_st [2, 3] (fun (a : List Int × Int) => [sL a.1, sI a.2]) (fun k a => hF ts p = hF (ts.take (ts.length - k)) a.2 ++ a.1 ∧ a.1.length ≤ k) ([], p) ⟨by simp, Nat.le_refl _⟩ rfl (fun k hk a ⟨ha, hla⟩ R hR => ?_) (fun a ⟨ha, _⟩ => ?_)
  · obtain ⟨hs, a⟩ := a
    dsimp only at ha hla
    have hk2 : ts.length - (k + 1) < ts.length := by omega
    have at1 : atI (ts.map dTn) ((ts.length : Int) - 1 - (0 + (k : Int))) = some (dTn ts[ts.length - (k + 1)]) := by
      rw [show (ts.length : Int) - 1 - (0 + (k : Int)) = ((ts.length - (k + 1) : Nat) : Int) by omega]
      exact atI_map dTn hk2
    have e : ts.take (ts.length - k) = ts.take (ts.length - (k + 1)) ++ [ts[ts.length - (k + 1)]] := by
      rw [← List.take_succ_eq_append_getElem hk2]
      congr 1
      omega
    rw [e, hF_snoc, List.length_take, Nat.min_eq_left (by omega)] at ha
    generalize ts[ts.length - (k + 1)] = x at at1 ha
    obtain ⟨xp, xm, xs⟩ := x
    dsimp only at ha
    walk_at "k"
    rw [List.length_map]
    refine ⟨_, at1, ?_⟩
    walk_at "k"
    refine ⟨_, rfl, ?_⟩
    walk_at "k"
    refine selD (fun hb => ?_) (fun hb => ?_)
    · rw [if_pos hb] at ha
      walk_at "k"
      refine And.intro ⟨rfl, imm_ints _, by rw [List.length_map]; simp; omega⟩ ?_
      walk_at "k"
      refine ⟨_, rfl, ?_⟩
      walk_at "k"
      refine hR (((ts.length - (k + 1) : Nat) : Int) :: hs, xm) _ ⟨by rw [ha]; simp, by simp; omega⟩ ?_
      rw [show ((ts.length - (k + 1) : Nat) : Int) = ((List.map dTn ts).length : Int) - 1 - (0 + (k : Int)) by rw [List.length_map]; omega]
      rfl
    · rw [if_neg hb] at ha
      exact hR (hs, a) _ ⟨ha, by omega⟩ rfl
  · rw [Nat.sub_self, List.take_zero] at ha
    rw [ha]
    walk_at "k"
    rfl
theorem law_is_right_ok (n : Nat) (ts : List Tn) (hn : n ≤ 100) (hl : ts.length ≤ 1000) (h : okT n ts) : w__law_is_right [.int n, dL dTn ts] (· = .bool true) := by
  have line := line_big
  have lo : (offL n ts).length = n := by simp [offL]
  walk_at "k"
  refine call_eq (law_offsets_ok n ts (by omega) h) ?_
  walk_at "k"
  refine call_eq (offsets_after_ok n ts (by omega) h) ?_
  walk_at "kw"
  refine ne_m (shp_dL shp_dTn ts) rfl ?_
  walk_at "k"
  refine call_eq (is_numbers_ok _ _) ?_
  walk_at "kw"
  refine selB (fun hb => absurd hb (by simp [lo])) (fun _ => ?_)
  walk_at "kw"
  refine ne_m (shp_dI _) rfl ?_
  walk_at "k"
  refine forR_same (fun k hk Q hQ => ?_) ?_
  · walk_at "k"
    refine selD (fun hb => ?_) (fun hb => ?_)
    · have hp0 : 0 ≤ 0 + (k : Int) := by omega
      have hp1 : 0 + (k : Int) < n := by omega
      have lh := hF_len ts (0 + (k : Int))
      have mh := fun i => @hF_mem ts (0 + (k : Int)) i
      have os := oF_sum ts (0 + (k : Int))
      have lw := law_heard_ok ts (0 + (k : Int)) hl
      have sw := slips_heard_ok n ts (0 + (k : Int)) (by omega) hl h hp0 hp1
      have ao : at' (offL n ts) (0 + (k : Int)) = oF ts (0 + (k : Int)) := by
        unfold offL
        rw [at'_range (f := fun (i : Nat) => oF ts i) hp0 hp1]
        congr 1
      generalize oF ts (0 + (k : Int)) = off at os ao
      generalize hF ts (0 + (k : Int)) = hs at lh mh os lw sw
      walk_at "k"
      refine call_eq lw ?_
      walk_at "k"
      refine call_eq sw ?_
      walk_at "k"
      rw [List.length_map]
      refine call_eq (is_numbers_ok _ _) ?_
      walk_at "kw"
      refine selB (fun hb => absurd hb (by simp)) (fun _ => ?_)
      walk_at "kw"
      refine ne_m (shp_dI _) rfl ?_
      walk_at "kw"
      refine ne_m (shp_dL shp_dTn ts) rfl ?_
      walk_at "k"
      refine lc_mapI (enc := PyData.int) (at' (ts.map Tn.s)) _ (by omega) (fun i hi acc K ha hK => ?_) rfl ?_
      · have hm := mh i hi
        obtain ⟨j, rfl⟩ := Int.eq_ofNat_of_zero_le hm.1
        have hj : j < ts.length := by omega
        have a1 : atI (ts.map dTn) (j : Int) = some (dTn ts[j]) := atI_map dTn hj
        have a2 : at' (ts.map Tn.s) (j : Int) = ts[j].s := by rw [at'_nat (by simpa using hj), List.getElem_map]
        rw [a2] at hK
        generalize ts[j] = x at a1 hK
        walk_at "k"
        refine ⟨_, a1, ?_⟩
        walk_at "k"
        refine ⟨_, rfl, ?_⟩
        walk_at "k"
        exact hK
      walk_at "k"
      refine ⟨_, rfl, ?_⟩
      walk_at "k"
      rw [ao, os]
      refine selB (fun hb => absurd hb (by simp)) (fun _ => ?_)
      walk_at "k"
      exact hQ _ rfl
    · exact hQ _ rfl
  · walk_at "k"
theorem parting_ok (xs ys : List Int) (hx : xs.length ≤ 10000) (hy : ys.length ≤ 10000) : w_parting [dI xs, dI ys] (· = dI (part78 xs ys)) := by
  have line := line_big
  walk_at "k"
  refine lc_filterL (enc := PyData.int) PyData.int (fun x => decide (x ∉ ys)) (fun x => x) _ (by omega) (fun x hx acc K ha h1 h2 => ?_) rfl ?_
  · walk_at "k"
    refine ⟨⟨rfl, flat_ints _⟩, ?_⟩
    walk_at "kw"
    refine notin_m (fun hw => ?_) (fun hw => ?_)
    · walk_at "k"
      exact h1 (by simpa using hw)
    · exact h2 (by simpa using hw)
  walk_at "k"
  refine lc_filterL (enc := PyData.int) PyData.int (fun x => decide (x ∉ xs)) (fun x => x) _ (by omega) (fun x hx acc K ha h1 h2 => ?_) rfl ?_
  · walk_at "k"
    refine ⟨⟨rfl, flat_ints _⟩, ?_⟩
    walk_at "kw"
    refine notin_m (fun hw => ?_) (fun hw => ?_)
    · walk_at "k"
      exact h1 (by simpa using hw)
    · exact h2 (by simpa using hw)
  walk_at "k"
  have f1 := List.length_filter_le (fun x => decide (x ∉ ys)) xs
  have f2 := List.length_filter_le (fun x => decide (x ∉ xs)) ys
  refine And.intro ⟨imm_ints _, imm_ints _, by simp only [List.length_map]; omega⟩ ?_
  walk_at "k"
  simp [part78, dI]
theorem part_len (xs ys : List Int) : (part78 xs ys).length ≤ xs.length + ys.length := by
  unfold part78
  rw [List.length_append]
  exact Nat.add_le_add (List.length_filter_le _ _) (List.length_filter_le _ _)
theorem greatest_ok (n : Nat) (ts : List Tn) (es : List Int) (a b : Int) (hn : n ≤ 1000) (hl : ts.length ≤ 1000) (h : okT n ts) (he : es.length = ts.length) (a0 : 0 ≤ a) (a1 : a < n) (b0 : 0 ≤ b) (b1 : b < n) : w_greatest_apart [.int n, dL dTn ts, dI es, .int a, .int b] (· = .int (due78 ts es a b ts.length)) := by
  have line := line_big
  have la := hF_len ts a
  have lb := hF_len ts b
  have lp := part_len (hF ts a) (hF ts b)
  walk_at "k"
  refine call_eq (all_heard_ok n ts hn hl h) ?_
  walk_at "k"
  refine ⟨_, hdL_at n ts a0 a1, ?_⟩
  walk_at "k"
  refine ⟨_, hdL_at n ts b0 b1, ?_⟩
  walk_at "k"
  refine call_eq (parting_ok _ _ (by omega) (by omega)) ?_
  walk_at "k"
  refine lc_mapI (enc := PyData.int) (at' es) _ (by omega) (fun i hi acc K ha hK => ?_) rfl ?_
  · have hi : 0 ≤ i ∧ i < ts.length := by
      rcases part_mem hi with hi | hi
      · exact hF_mem hi
      · exact hF_mem hi
    walk_at "k"
    exact hK
  walk_at "k"
  refine ⟨_, rfl, ?_⟩
  walk_at "k"
  exact congrArg PyData.int (part_sum ts es a b)
theorem at_nat (f : Tn → Int) (ts : List Tn) {k : Nat} (h : k < ts.length) : at' (ts.map f) (k : Int) = f ts[k] := by rw [at'_nat (by simpa using h), List.getElem_map]
theorem law_with_ok (ts : List Tn) (sl : List Int) (hl : ts.length ≤ 1000) (h : sl.length = ts.length) : w__law_with [dL dTn ts, dI sl] (· = dL dTn (withS ts sl)) := by
  have line := line_big
  walk_at "k"
  rw [List.length_map]
  refine lc_rgL dTn (fun (k : Nat) => (⟨at' (ts.map Tn.p) k, at' (ts.map Tn.m) k, at' sl k⟩ : Tn)) (withS ts sl) (by omega) (fun k hk acc K ha hK => ?_) (by simp [withS]) ?_
  · have hk : k < ts.length := by simpa using hk
    have a1 : atI (ts.map dTn) (0 + (k : Int)) = some (dTn ts[k]) := by
      rw [Int.zero_add]
      exact atI_map dTn hk
    rw [at_nat Tn.p ts hk, at_nat Tn.m ts hk, show at' sl (k : Int) = at' sl (0 + (k : Int)) by rw [Int.zero_add]] at hK
    generalize ts[k] = x at a1 hK
    walk_at "k"
    refine ⟨_, a1, ?_⟩
    walk_at "k"
    refine ⟨_, rfl, ?_⟩
    walk_at "k"
    refine ⟨_, a1, ?_⟩
    walk_at "k"
    refine ⟨_, rfl, ?_⟩
    walk_at "k"
    exact hK
  walk_at "k"
  rfl
theorem offL_at (n : Nat) (ts : List Tn) {i : Int} (h0 : 0 ≤ i) (h : i < n) : at' (offL n ts) i = oF ts i := by
  unfold offL
  rw [at'_range (f := fun (i : Nat) => oF ts i) h0 h]
  congr 1
  omega
theorem due78_succ (ts : List Tn) (es : List Int) (a b : Int) (n : Nat) : due78 ts es a b (n + 1) = due78 ts es a b n + if decide ((n : Int) ∈ hF ts a) != decide ((n : Int) ∈ hF ts b) then at' es n else 0 := sumR_succ _ _
def upL (ts : List Tn) (es : List Int) (a b : Int) (k : Nat) : List Int := (List.range ts.length).map fun (i : Nat) => if i < k then up78 ts es a b i else 0
theorem upL_len (ts : List Tn) (es : List Int) (a b : Int) (k : Nat) : (upL ts es a b k).length = ts.length := by simp [upL]
theorem upL_set (ts : List Tn) (es : List Int) (a b : Int) (k : Nat) : (upL ts es a b k).set k (up78 ts es a b k) = upL ts es a b (k + 1) := by
  unfold upL
  rw [map_range_set]
  refine List.map_congr_left fun i hi => ?_
  by_cases e : i = k
  · rw [if_pos e, if_pos (by omega), e]
  · rw [if_neg e]
    by_cases h : i < k
    · rw [if_pos h, if_pos (by omega)]
    · rw [if_neg h, if_neg (by omega)]
theorem upL_skip {ts : List Tn} {es : List Int} {a b : Int} {k : Nat} (h : up78 ts es a b k = 0) : upL ts es a b k = upL ts es a b (k + 1) := by
  unfold upL
  refine List.map_congr_left fun i hi => ?_
  by_cases e : i = k
  · subst e
    rw [if_neg (by omega), if_pos (by omega), h]
  · by_cases h : i < k
    · rw [if_pos h, if_pos (by omega)]
    · rw [if_neg h, if_neg (by omega)]
theorem upL_end {ts : List Tn} {es : List Int} {a b : Int} {i : Nat} (h : i < ts.length) : at' (upL ts es a b ts.length) i = up78 ts es a b i := by
  unfold upL
  rw [at'_range (f := fun (i : Nat) => if i < ts.length then up78 ts es a b i else 0) (by omega) (by omega)]
  simp [h]
theorem xin_m {w : Int} {xs ys : List Int} {A B : Prop} (h1 : (decide (w ∈ xs) != decide (w ∈ ys)) = true → A) (h2 : (decide (w ∈ xs) != decide (w ∈ ys)) = false → B) :
    (SeqAt.shaped (.bool (ng false ((xs.map PyData.int).any fun e => PyData.eqv e (.int w)))) = true ∧ SeqAt.shaped (.bool (ng false ((ys.map PyData.int).any fun e => PyData.eqv e (.int w)))) = true) ∧
    (match (generalizing := false) ng true (PyData.eqv (.bool (ng false ((xs.map PyData.int).any fun e => PyData.eqv e (.int w)))) (.bool (ng false ((ys.map PyData.int).any fun e => PyData.eqv e (.int w))))) with | true => A | false => B) := by
  rw [any_ints, any_ints]
  refine ⟨⟨(shp_bool _).sh, (shp_bool _).sh⟩, ?_⟩
  revert h1 h2
  generalize decide (w ∈ xs) = u
  generalize decide (w ∈ ys) = v
  intro h1 h2
  cases u <;> cases v
  · exact h2 rfl
  · exact h1 rfl
  · exact h1 rfl
  · exact h2 rfl
theorem pair_ok (ds : List Int) (n : Nat) (ts : List Tn) (es : List Int) (a b : Int) (hd : Drawn ds) (hdl : ds.length = 120) (hn : n ≤ 100) (hl : ts.length ≤ 1000) (h : okT n ts) (he : es.length = ts.length) (hee : ∀ i, 0 ≤ at' es i ∧ at' es i < 10) (a0 : 0 ≤ a) (a1 : a < n) (b0 : 0 ≤ b) (b1 : b < n) : w__law_pair_is_right [dI ds, .int n, dL dTn ts, dI es, .int a, .int b] (· = .bool true) := by
  have line := line_big
  have la := hF_len ts a
  have lb := hF_len ts b
  walk_at "k"
  refine call_eq (law_heard_ok ts a hl) ?_
  walk_at "k"
  refine call_eq (law_heard_ok ts b hl) ?_
  walk_at "k"
  refine And.intro ⟨rfl, by omega, by rw [List.length_map]; omega, by rw [List.length_map]; simp; omega⟩ ?_
  rw [List.length_map, show (List.replicate (ts.length : Int).toNat (List.map Val.d [{ d := PyData.int 0, own := true, roots := [] }])).flatten = (List.replicate ts.length 0).map PyData.int from rep_ints 0 ts.length]
  walk_at "k"
  rw [List.length_map, Int.toNat_natCast]
  refine forR_st [8, 9, 10] (fun (s : Int × D × Option Slot) => [sI s.1, some ⟨s.2.1, true, false⟩, s.2.2]) (fun k s => s.1 = due78 ts es a b k ∧ s.2.1 = dI (upL ts es a b k)) (0, dI (List.replicate ts.length 0), none) ⟨rfl, by rw [rep_range]; simp [upL]⟩ rfl (fun k hk s ⟨h1, h2⟩ R hR => ?_) (fun s ⟨h1, h2⟩ => ?_)
  · obtain ⟨du, up, o⟩ := s
    dsimp only at h1 h2 ⊢
    subst h1 h2
    have lu := upL_len ts es a b k
    have us := upL_set ts es a b k
    have uk := @upL_skip ts es a b k
    have dk := due78_succ ts es a b k
    have e0 : (0 : Int) + (k : Int) = k := Int.zero_add _
    unfold up78 at us uk
    walk_at "k"
    refine ⟨⟨rfl, flat_ints _⟩, ?_⟩
    walk_at "k"
    refine ⟨⟨rfl, flat_ints _⟩, ?_⟩
    walk_at "kw"
    refine xin_m (fun hx => ?_) (fun hx => ?_)
    · rw [e0] at hx
      rw [hx, if_pos rfl] at us dk
      walk_at "k"
      refine ⟨⟨rfl, flat_ints _⟩, ?_⟩
      walk_at "kw"
      refine in_m (fun hm => ?_) (fun hm => ?_)
      · rw [e0] at hm
        rw [if_pos hm] at us
        walk_at "k"
        refine hR (_, _, _) _ ⟨by rw [dk, e0], ?_⟩ rfl
        rw [e0, Int.toNat_natCast, ← us]
        show PyData.list (((List.map PyData.int (upL ts es a b k)).set k (.int (at' es k))).set k (.int (0 - at' es k))) = _
        rw [List.set_set]
        exact dI_set _ _ _
      · rw [e0] at hm
        rw [if_neg hm] at us
        refine hR (_, _, _) _ ⟨by rw [dk, e0], ?_⟩ rfl
        rw [e0, Int.toNat_natCast, ← us]
        exact dI_set _ _ _
    · rw [e0] at hx
      rw [hx] at uk dk
      exact hR (due78 ts es a b k, _, _) _ ⟨by rw [dk, if_neg (by simp), Int.add_zero], congrArg dI (uk (if_neg (by simp)))⟩ rfl
  · obtain ⟨du, up, o⟩ := s
    dsimp only at h1 h2 ⊢
    subst h1 h2
    have sh2 : shp 4 (.list [dL dTn ts, dI es]) := shp_list fun d hd => by
      simp only [List.mem_cons, List.not_mem_nil, or_false] at hd
      rcases hd with rfl | rfl
      · exact shp_dL shp_dTn ts
      · exact (shp_dI es).up
    have lu := upL_len ts es a b ts.length
    have ue := fun i hi => @upL_end ts es a b i hi
    have up1 := up_due ts es _ a b lu ue
    have dn1 := dn_due ts es _ a b lu ue
    generalize upL ts es a b ts.length = up at lu ue up1 dn1 ⊢
    have loL : ∀ x, (offL n x).length = n := fun x => by simp [offL]
    walk_at "k"
    refine ⟨_, rfl, ?_⟩
    walk_at "k"
    refine ⟨_, rfl, ?_⟩
    walk_at "k"
    refine call_eq (greatest_ok n ts es a b (by omega) hl h he a0 a1 b0 b1) ?_
    walk_at "k"
    refine ne_m sh2 rfl ?_
    walk_at "k"
    refine call_eq (is_number_ok _) ?_
    walk_at "k"
    refine selB (fun hb => absurd hb (by simp)) (fun _ => ?_)
    walk_at "k"
    refine call_eq (law_with_ok ts up hl lu) ?_
    walk_at "k"
    refine call_eq (offsets_after_ok n _ (by omega) (okT_with h up)) ?_
    have l1 := loL (withS ts up)
    walk_at "k"
    rw [offL_at n _ b0 b1, offL_at n _ a0 a1, up1]
    refine selB (fun hb => absurd hb (by simp)) (fun _ => ?_)
    walk_at "k"
    refine lc_mapI (enc := PyData.int) (fun x => 0 - x) _ (by omega) (fun i hi acc K ha hK => ?_) rfl ?_
    · walk_at "k"
      exact hK
    walk_at "k"
    refine call_eq (law_with_ok ts (up.map fun x => 0 - x) hl (by rw [List.length_map]; exact lu)) ?_
    walk_at "k"
    refine call_eq (offsets_after_ok n _ (by omega) (okT_with h _)) ?_
    have l2 := loL (withS ts (up.map fun x => 0 - x))
    walk_at "k"
    rw [offL_at n _ b0 b1, offL_at n _ a0 a1, dn1]
    refine selB (fun hb => absurd hb (by simp)) (fun _ => ?_)
    walk_at "k"
    rw [List.length_map]
    have mdr : ∀ i : Nat, 0 ≤ cellF ds (70 + 2 * (i : Int)) % (2 * at' es i + 1) ∧ cellF ds (70 + 2 * (i : Int)) % (2 * at' es i + 1) < 2 * at' es i + 1 := fun i => by
      have := hee i
      exact ⟨Int.emod_nonneg _ (by omega), Int.emod_lt_of_pos _ (by omega)⟩
    refine lc_rgI (fun (k : Nat) => cellF ds (70 + 2 * (k : Int)) % (2 * at' es k + 1) - at' es k) _ (by omega) (fun k hk acc K ha hK => ?_) rfl ?_
    · have hk : k < ts.length := by simpa using hk
      have e0 : (0 : Int) + (k : Int) = k := Int.zero_add _
      have := hee k
      have := hee (0 + (k : Int))
      walk_at "k"
      refine call_eq (cell_ok ds _ (by omega) (by omega) (by omega)) ?_
      walk_at "k"
      rw [e0]
      exact hK
    have ldr : ((List.range (ts.length : Int).toNat).map fun (k : Nat) => cellF ds (70 + 2 * (k : Int)) % (2 * at' es k + 1) - at' es k).length = ts.length := by simp
    have adr : ∀ i, i < ts.length → 0 ≤ at' es i ∧ -at' es i ≤ at' ((List.range (ts.length : Int).toNat).map fun (k : Nat) => cellF ds (70 + 2 * (k : Int)) % (2 * at' es k + 1) - at' es k) i ∧ at' ((List.range (ts.length : Int).toNat).map fun (k : Nat) => cellF ds (70 + 2 * (k : Int)) % (2 * at' es k + 1) - at' es k) i ≤ at' es i := fun i hi => by
      rw [at'_range (f := fun (k : Nat) => cellF ds (70 + 2 * (k : Int)) % (2 * at' es k + 1) - at' es k) (by omega) (by omega)]
      have q1 := mdr i
      have q2 := hee i
      rw [show ((i : Int).toNat : Int) = i by omega]
      omega
    have dd := dr_due ts es _ a b ldr adr
    generalize ((List.range (ts.length : Int).toNat).map fun (k : Nat) => cellF ds (70 + 2 * (k : Int)) % (2 * at' es k + 1) - at' es k) = dr at ldr dd ⊢
    walk_at "k"
    refine call_eq (law_with_ok ts dr hl ldr) ?_
    walk_at "k"
    refine call_eq (offsets_after_ok n _ (by omega) (okT_with h _)) ?_
    have l3 := loL (withS ts dr)
    walk_at "k"
    rw [offL_at n _ b0 b1, offL_at n _ a0 a1]
    exact congrArg PyData.bool (decide_eq_true (by omega))
theorem world_ok (ds : List Int) (hl : ds.length = 120) (hd : Drawn ds) : w__law_world [dI ds] fun d => ∃ (n : Nat) (ts : List Tn), d = .tuple [.int n, dL dTn ts] ∧ 2 ≤ n ∧ n ≤ 60 ∧ ts.length ≤ 150 ∧ okT n ts := by
  have line := line_big
  walk_at "k"
  refine ifJs [1, 2] (fun (a : {n : Nat // 2 ≤ n ∧ n ≤ 60} × {m : Int // 0 ≤ m ∧ m ≤ 150}) => [sI a.1.1, sI a.2.1]) (fun a => ?_) (fun N hN => ?_)
  · obtain ⟨⟨n, hn⟩, m, hm⟩ := a
    dsimp only
    walk_at "k"
    refine ifJs [3] (fun (a : {n : Int // 0 ≤ n ∧ n < 2 ^ 60}) => [sI a.1]) (fun a => ?_) (fun N hN => ?_)
    · obtain ⟨sc, hsc⟩ := a
      dsimp only
      walk_at "k"
      refine forR_st [4] (fun d => sD d) (fun k d => ∃ ts, d = dL dTn ts ∧ ts.length ≤ k ∧ okT n ts) _ ⟨[], rfl, Nat.le_refl _, fun _ h => nomatch h⟩ rfl (fun k hk _ ⟨ts, e, hl2, hok⟩ R hR => ?_) (fun _ ⟨ts, e, hl2, hok⟩ => ?_)
      · subst e
        have hk : k < 150 := by omega
        have big : (List.map dTn ts).length < sizeLine := by rw [List.length_map]; omega
        have c1 := cell_ok ds (3 + 3 * (0 + (k : Int))) (by omega) (by omega) (by omega)
        have c2 := cell_ok ds (4 + 3 * (0 + (k : Int))) (by omega) (by omega) (by omega)
        have c3 := cell_ok ds (5 + 3 * (0 + (k : Int))) (by omega) (by omega) (by omega)
        generalize cellF ds (3 + 3 * (0 + (k : Int))) = u at c1
        generalize cellF ds (4 + 3 * (0 + (k : Int))) = v at c2
        generalize cellF ds (5 + 3 * (0 + (k : Int))) = w at c3
        have p0 : 0 ≤ u % (n : Int) := Int.emod_nonneg _ (by omega)
        have p1 : u % (n : Int) < n := Int.emod_lt_of_pos _ (by omega)
        have m0 : 0 ≤ (u % (n : Int) + 1 + v % ((n : Int) - 1)) % (n : Int) := Int.emod_nonneg _ (by omega)
        have m1 : (u % (n : Int) + 1 + v % ((n : Int) - 1)) % (n : Int) < n := Int.emod_lt_of_pos _ (by omega)
        walk_at "k"
        refine call_eq c1 ?_
        walk_at "k"
        refine call_eq c2 ?_
        walk_at "k"
        refine call_eq c3 ?_
        walk_at "k"
        refine And.intro (mul_r (by omega)) ?_
        walk_at "k"
        refine hR _ _ ⟨_, dL_app dTn ts ⟨u % n, (u % (n : Int) + 1 + v % ((n : Int) - 1)) % n, (w % 41 - 20) * sc⟩, by simp; omega, fun x hx => ?_⟩ rfl
        rcases List.mem_append.mp hx with hx | hx
        · exact hok x hx
        · rw [List.mem_singleton.mp hx]
          exact ⟨⟨p0, p1⟩, m0, m1⟩
      · subst e
        walk_at "k"
        exact ⟨n, ts, rfl, hn.1, hn.2, by omega, hok⟩
    · walk_at "k"
      refine selD (fun h => ?_) (fun h => ?_)
      · have q := hd.at' 2
        have e9 : (10 : Int) ^ Int.toNat 9 = 1000000000 := by decide
        walk_at "k"
        exact hN ⟨10 ^ Int.toNat 9 + at' ds 2, by rw [e9]; omega⟩
      · exact hN ⟨1, by decide⟩
  · walk_at "k"
    refine selD (fun h => ?_) (fun h => ?_)
    · obtain ⟨n, hn⟩ := Int.eq_ofNat_of_zero_le (a := 8 + at' ds 0 / 6 % 53) (by omega)
      walk_at "k"
      rw [hn]
      exact hN (⟨n, by omega⟩, ⟨at' ds 1 / 8 % 151, by omega⟩)
    · obtain ⟨n, hn⟩ := Int.eq_ofNat_of_zero_le (a := 2 + at' ds 0 % 6) (by omega)
      walk_at "k"
      rw [hn]
      exact hN (⟨n, by omega⟩, ⟨at' ds 1 / 8 % 25, by omega⟩)
structure Pa where
  a : Int
  b : Int
def dPa (x : Pa) : D := .tuple [.int x.a, .int x.b]
def okPa (n : Nat) (x : Pa) : Prop := (0 ≤ x.a ∧ x.a < n) ∧ 0 ≤ x.b ∧ x.b < n
theorem cutD_map {α : Type} (f : α → D) (xs : List α) (lo hi : Option Int) : ∃ ys : List α, KT.cutD (xs.map f) lo hi = ys.map f ∧ ys.length ≤ xs.length ∧ ∀ y ∈ ys, y ∈ xs := by
  unfold KT.cutD
  refine ⟨(xs.drop (HT.sIx (xs.map f).length 0 lo)).take (HT.sIx (xs.map f).length (xs.map f).length hi - HT.sIx (xs.map f).length 0 lo), by rw [List.map_take, List.map_drop], ?_, fun y hy => List.mem_of_mem_drop (List.mem_of_mem_take hy)⟩
  rw [List.length_take, List.length_drop]
  omega
theorem law_holds (ns : List Int) (h63 : ns.length ≤ 63) (_ : ∀ z ∈ ns, Builtin.Int.intBits z ≤ 1048576) : w_law [scr ns] fun d => d = .bool true := by
  have line := line_big
  walk_at "k"
  refine call_ex (draws_ok ns h63 120 (by decide)) ?_
  rintro _ ⟨ds, rfl, hl, hd⟩
  walk_at "k"
  refine call_ex (world_ok ds hl hd) ?_
  rintro _ ⟨n, ts, rfl, hn2, hn60, htl, hok⟩
  walk_at "k"
  rw [List.length_map]
  refine lc_rgI (fun (k : Nat) => cellF ds (60 + (k : Int)) % 10) _ (by omega) (fun k hk acc K ha hK => ?_) rfl ?_
  · have hk : k < ts.length := by simpa using hk
    have e0 : (0 : Int) + (k : Int) = k := Int.zero_add _
    walk_at "k"
    refine call_eq (cell_ok ds _ (by omega) (by omega) (by omega)) ?_
    walk_at "k"
    rw [e0]
    exact hK
  have les : ((List.range (ts.length : Int).toNat).map fun (k : Nat) => cellF ds (60 + (k : Int)) % 10).length = ts.length := by simp
  have hes : ∀ i, 0 ≤ at' ((List.range (ts.length : Int).toNat).map fun (k : Nat) => cellF ds (60 + (k : Int)) % 10) i ∧ at' ((List.range (ts.length : Int).toNat).map fun (k : Nat) => cellF ds (60 + (k : Int)) % 10) i < 10 := fun i => by
    unfold at'
    rw [List.getD_eq_getElem?_getD, List.getElem?_map]
    cases (List.range (ts.length : Int).toNat)[i.toNat]? with
    | none => exact ⟨Int.le_refl 0, (by decide : (0 : Int) < 10)⟩
    | some v => exact ⟨Int.emod_nonneg _ (by decide), Int.emod_lt_of_pos _ (by decide)⟩
  generalize ((List.range (ts.length : Int).toNat).map fun (k : Nat) => cellF ds (60 + (k : Int)) % 10) = es at les hes ⊢
  walk_at "k"
  refine call_eq (law_is_right_ok n ts (by omega) (by omega) hok) ?_
  walk_at "k"
  obtain ⟨ys, hy, hyl, hym⟩ := cutD_map dTn ts none (some (-1))
  rw [hy]
  refine call_eq (law_is_right_ok n ys (by omega) (by omega) fun x hx => hok x (hym x hx)) ?_
  walk_at "k"
  refine call_eq (law_is_right_ok n [] (by omega) (by simp) fun x hx => nomatch hx) ?_
  walk_at "k"
  have mm : ∀ x : Int, 0 ≤ x % (n : Int) ∧ x % (n : Int) < n := fun x => ⟨Int.emod_nonneg _ (by omega), Int.emod_lt_of_pos _ (by omega)⟩
  refine lc_rgL dPa (fun (k : Nat) => (⟨cellF ds (90 + 2 * (k : Int)) % n, cellF ds (91 + 2 * (k : Int)) % n⟩ : Pa)) _ (by omega) (fun k hk acc K ha hK => ?_) rfl ?_
  · have hk : k < 8 := by simpa using hk
    have e0 : (0 : Int) + (k : Int) = k := Int.zero_add _
    walk_at "k"
    refine call_eq (cell_ok ds _ (by omega) (by omega) (by omega)) ?_
    walk_at "k"
    refine call_eq (cell_ok ds _ (by omega) (by omega) (by omega)) ?_
    walk_at "k"
    rw [e0]
    exact hK
  have p8 : ∀ x ∈ (List.range (Int.toNat 8)).map (fun (k : Nat) => (⟨cellF ds (90 + 2 * (k : Int)) % n, cellF ds (91 + 2 * (k : Int)) % n⟩ : Pa)), okPa n x := fun x hx => by
    obtain ⟨k, _, rfl⟩ := List.mem_map.mp hx
    exact ⟨mm _, mm _⟩
  generalize (List.range (Int.toNat 8)).map (fun (k : Nat) => (⟨cellF ds (90 + 2 * (k : Int)) % n, cellF ds (91 + 2 * (k : Int)) % n⟩ : Pa)) = ps at p8 ⊢
  walk_at "k"
  refine ifJs [5] (fun (a : {ps : List Pa // ∀ x ∈ ps, okPa n x}) => sD (dL dPa a.1)) (fun a => ?_) (fun N hN => ?_)
  · obtain ⟨ps, hps⟩ := a
    dsimp only
    walk_at "k"
    refine forN_same (enc := dPa) rfl rfl (fun p x q e R hR => ?_) ?_
    · have hx := hps x (by rw [e]; simp)
      obtain ⟨xa, xb⟩ := x
      obtain ⟨⟨x1, x2⟩, x3, x4⟩ := hx
      dsimp only at x1 x2 x3 x4
      walk_at "k"
      refine call_eq (pair_ok ds n ts es xa xb hd hl (by omega) (by omega) hok les hes x1 x2 x3 x4) ?_
      walk_at "k"
      exact hR _ rfl
    · walk_at "k"
      refine call_eq (greatest_ok n [] [] 0 ((n : Int) - 1) (by omega) (by simp) (fun x hx => nomatch hx) rfl (by omega) (by omega) (by omega) (by omega)) ?_
      walk_at "k"
      refine call_eq (law_is_right_ok n ts (by omega) (by omega) hok) ?_
      walk_at "k"
  · walk_at "k"
    refine selD (fun h => ?_) (fun h => ?_)
    · walk_at "k"
      refine forR_st [5] (fun d => sD d) (fun k d => ∃ ps, d = dL dPa ps ∧ ps.length ≤ k * n ∧ ∀ x ∈ ps, okPa n x) _ ⟨[], rfl, by simp, fun _ h => nomatch h⟩ rfl (fun k hk _ ⟨ps, e, hl2, hps⟩ R hR => ?_) (fun _ ⟨ps, e, hl2, hps⟩ => ?_)
      · subst e
        have hk : k < n := by simpa using hk
        have hkn : k * n ≤ 60 * 60 := Nat.mul_le_mul (by omega) hn60
        walk_at "k"
        refine lc_rgL dPa (fun (j : Nat) => (⟨0 + (k : Int), 0 + (j : Int)⟩ : Pa)) _ (by omega) (fun j hj acc K ha hK => ?_) rfl ?_
        · walk_at "k"
          exact hK
        walk_at "k"
        refine And.intro ⟨immL_map (fun _ => rfl) _, immL_map (fun _ => rfl) _, by simp; omega⟩ ?_
        walk_at "k"
        refine hR _ _ ⟨ps ++ (List.range (n : Int).toNat).map (fun (j : Nat) => (⟨0 + (k : Int), 0 + (j : Int)⟩ : Pa)), by unfold dL; rw [List.map_append], ?_, fun x hx => ?_⟩ rfl
        · rw [Nat.succ_mul, List.length_append, List.length_map, List.length_range]
          omega
        · rcases List.mem_append.mp hx with hx | hx
          · exact hps x hx
          · obtain ⟨j, hj, rfl⟩ := List.mem_map.mp hx
            have hj : j < n := by simpa using hj
            exact ⟨⟨by show 0 ≤ 0 + (k : Int); omega, by show 0 + (k : Int) < n; omega⟩, by show 0 ≤ 0 + (j : Int); omega, by show 0 + (j : Int) < n; omega⟩
      · subst e
        walk_at "k"
        exact hN ⟨ps, hps⟩
    · exact hN ⟨ps, p8⟩
end KM
namespace KM
open PySem PySem.Spec PyProof.Rows L2 KT
def topS (i : Nat) : Stmt := PySem.Challenge.pw_keystuned_k78_players_in_turn.main.body.getD i (.Pass ⟨0, 0, 0, 0⟩)
abbrev s_parting : Stmt := topS 1
theorem sc_parting : FnScope ["first", "second", "at"] ["first", "second"] (defScope s_parting) := ⟨rfl, rfl, rfl, by decide +kernel, rfl, by decide +kernel, by decide +kernel⟩
abbrev s_offsets_after : Stmt := topS 3
theorem sc_offsets_after : FnScope ["size", "turns", "offsets", "player", "model", "slip"] ["size", "turns"] (defScope s_offsets_after) := ⟨rfl, rfl, rfl, by decide +kernel, rfl, by decide +kernel, by decide +kernel⟩
abbrev s_all_heard : Stmt := topS 4
theorem sc_all_heard : FnScope ["size", "turns", "heard", "at", "player", "model", "slip"] ["size", "turns"] (defScope s_all_heard) := ⟨rfl, rfl, rfl, by decide +kernel, rfl, by decide +kernel, by decide +kernel⟩
abbrev s_slips_heard : Stmt := topS 5
theorem sc_slips_heard : FnScope ["size", "turns", "player"] ["size", "turns", "player"] (defScope s_slips_heard) := ⟨rfl, rfl, rfl, by decide +kernel, rfl, by decide +kernel, by decide +kernel⟩
abbrev s_greatest_apart : Stmt := topS 6
theorem sc_greatest_apart : FnScope ["size", "turns", "errors", "first", "second", "heard", "at"] ["size", "turns", "errors", "first", "second"] (defScope s_greatest_apart) := ⟨rfl, rfl, rfl, by decide +kernel, rfl, by decide +kernel, by decide +kernel⟩
abbrev s__law_draws : Stmt := topS 8
theorem sc__law_draws : FnScope ["script", "many", "found", "cell", "number", "k", "mixed", "base"] ["script", "many"] (defScope s__law_draws) := ⟨rfl, rfl, rfl, by decide +kernel, rfl, by decide +kernel, by decide +kernel⟩
abbrev s__law_cell : Stmt := topS 9
theorem sc__law_cell : FnScope ["draws", "k"] ["draws", "k"] (defScope s__law_cell) := ⟨rfl, rfl, rfl, by decide +kernel, rfl, by decide +kernel, by decide +kernel⟩
abbrev s__law_is_number : Stmt := topS 10
theorem sc__law_is_number : FnScope ["value"] ["value"] (defScope s__law_is_number) := ⟨rfl, rfl, rfl, by decide +kernel, rfl, by decide +kernel, by decide +kernel⟩
abbrev s__law_is_numbers : Stmt := topS 11
theorem sc__law_is_numbers : FnScope ["value", "size", "item"] ["value", "size"] (defScope s__law_is_numbers) := ⟨rfl, rfl, rfl, by decide +kernel, rfl, by decide +kernel, by decide +kernel⟩
abbrev s__law_world : Stmt := topS 12
theorem sc__law_world : FnScope ["draws", "size", "many", "scale", "turns", "k", "player", "model"] ["draws"] (defScope s__law_world) := ⟨rfl, rfl, rfl, by decide +kernel, rfl, by decide +kernel, by decide +kernel⟩
abbrev s__law_offsets : Stmt := topS 13
theorem sc__law_offsets : FnScope ["size", "turns", "offsets", "player", "model", "slip"] ["size", "turns"] (defScope s__law_offsets) := ⟨rfl, rfl, rfl, by decide +kernel, rfl, by decide +kernel, by decide +kernel⟩
abbrev s__law_heard : Stmt := topS 14
theorem sc__law_heard : FnScope ["turns", "player", "heard", "at", "back", "turn"] ["turns", "player"] (defScope s__law_heard) := ⟨rfl, rfl, rfl, by decide +kernel, rfl, by decide +kernel, by decide +kernel⟩
abbrev s__law_is_right : Stmt := topS 15
theorem sc__law_is_right : FnScope ["size", "turns", "passed", "offsets", "told", "player", "heard", "at"] ["size", "turns"] (defScope s__law_is_right) := ⟨rfl, rfl, rfl, by decide +kernel, rfl, by decide +kernel, by decide +kernel⟩
abbrev s__law_with : Stmt := topS 16
theorem sc__law_with : FnScope ["turns", "slips", "at"] ["turns", "slips"] (defScope s__law_with) := ⟨rfl, rfl, rfl, by decide +kernel, rfl, by decide +kernel, by decide +kernel⟩
abbrev s__law_pair_is_right : Stmt := topS 17
theorem sc__law_pair_is_right : FnScope ["draws", "size", "turns", "errors", "first", "second", "one", "other", "due", "up", "at", "passed", "told", "offsets", "drawn", "slip"] ["draws", "size", "turns", "errors", "first", "second"] (defScope s__law_pair_is_right) := ⟨rfl, rfl, rfl, by decide +kernel, rfl, by decide +kernel, by decide +kernel⟩
abbrev s_law : Stmt := topS 18
theorem sc_law : FnScope ["script", "draws", "size", "turns", "errors", "pairs", "first", "second", "at", "k"] ["script"] (defScope s_law) := ⟨rfl, rfl, rfl, by decide +kernel, rfl, by decide +kernel, by decide +kernel⟩
section
variable {P : Program} {w : World} {K : PySem.W.Frag} {mg : Str → Option Value} {base : Heap}
theorem c_parting {f : Addr} {fd : FuncData} (F : L2.Fun K "parting" "parting" s_parting f fd) (hm : mg "parting" = some (.ref f)) (hb : Binds K fd ["first", "second"] [])   :
    Cal P w K mg base "parting" 1 2 w_parting :=
  cal_def F sc_parting hm hb (m := m_parting) fun cdv A outer s H E hr =>
  (svs_one (sv_ret (ev_op op_addG ok_add (ev_lc [("at", 2)] (tg := (.nm 2)) rfl sc_parting.nd (blkOk_by (own := [("at", 2)]) (N := ["first", "second", "at"]) (sc := defScope s_parting) (by decide +kernel)) (fun _ _ _ _ _ => (tg_nm 2 sc_parting.nd rfl (Or.inl rfl) (.inr rfl))) (fun _ _ _ _ _ => (ets_one (et_cmp op_notIn_seq (ok_inB true) (ev_var 2 rfl (Or.inl rfl)) (ev_var 1 rfl (Or.inr (Or.inl rfl))) (by rfl)))) (fun _ _ _ _ _ => (ev_var 2 rfl (Or.inl rfl))) (fun ht he => es_V (ev_var 0 rfl (Or.inr (Or.inl rfl))) (ht := ht) (he := he))) (ev_lc [("at", 2)] (tg := (.nm 2)) rfl sc_parting.nd (blkOk_by (own := [("at", 2)]) (N := ["first", "second", "at"]) (sc := defScope s_parting) (by decide +kernel)) (fun _ _ _ _ _ => (tg_nm 2 sc_parting.nd rfl (Or.inl rfl) (.inr rfl))) (fun _ _ _ _ _ => (ets_one (et_cmp op_notIn_seq (ok_inB true) (ev_var 2 rfl (Or.inl rfl)) (ev_var 0 rfl (Or.inr (Or.inl rfl))) (by rfl)))) (fun _ _ _ _ _ => (ev_var 2 rfl (Or.inl rfl))) (fun ht he => es_V (ev_var 1 rfl (Or.inr (Or.inl rfl))) (ht := ht) (he := he))))))
theorem c_offsets_after {f : Addr} {fd : FuncData} (F : L2.Fun K "offsets_after" "offsets_after" s_offsets_after f fd) (hm : mg "offsets_after" = some (.ref f)) (hb : Binds K fd ["size", "turns"] [])   :
    Cal P w K mg base "offsets_after" 1 2 w_offsets_after :=
  cal_def F sc_offsets_after hm hb (m := m_offsets_after) fun cdv A outer s H E hr =>
  (svs_cons (sv_set 2 true sc_offsets_after.nd (ev_op op_mulG ok_mul (ev_lst (ea_cons ev_int ea_nil)) (ev_var 0 rfl (Or.inl rfl))) rfl (Or.inl rfl))
  (svs_cons (sv_forN [3, 4, 5] 1 PassesOwn.never rfl (tg_tp rfl (pgs_cons (pg_name (i := 3) sc_offsets_after.nd rfl (Or.inl rfl) (.inl rfl)) (pgs_cons (pg_name (i := 4) sc_offsets_after.nd rfl (Or.inl rfl) (.inl rfl)) (pgs_cons (pg_name (i := 5) sc_offsets_after.nd rfl (Or.inl rfl) (.inl rfl)) pgs_nil))))
  (svs_one (sv_setI 2 (ev_var 3 rfl (Or.inl rfl)) (ev_op op_addG ok_add (ev_sub (ev_var 2 rfl (Or.inl rfl)) (ev_var 4 rfl (Or.inl rfl)) (fun _ _ => rfl)) (ev_var 5 rfl (Or.inl rfl))) rfl (Or.inl rfl))) rfl (Or.inl rfl))
  (svs_one (sv_ret (ev_var 2 rfl (Or.inl rfl))))))
theorem c_all_heard {f : Addr} {fd : FuncData} (F : L2.Fun K "all_heard" "all_heard" s_all_heard f fd) (hm : mg "all_heard" = some (.ref f)) (hb : Binds K fd ["size", "turns"] []) (z_len : mg "len" = none) (z_range : mg "range" = none)  :
    Cal P w K mg base "all_heard" 1 2 w_all_heard :=
  cal_def F sc_all_heard hm hb (m := m_all_heard) fun cdv A outer s H E hr =>
  (svs_cons (sv_setLc 2 [("player", 4)] (tg := (.nm 4)) rfl sc_all_heard.nd (blkOk_by (own := [("player", 4)]) (N := ["size", "turns", "heard", "at", "player", "model", "slip"]) (sc := defScope s_all_heard) (by decide +kernel)) (fun _ _ _ _ _ => (tg_nm 4 sc_all_heard.nd rfl (Or.inl rfl) (.inr rfl))) (fun _ _ _ _ _ => ets_nil) (fun _ _ _ _ _ => (ev_lst ea_nil)) (fun ht he => es_R1 (by rfl) z_range (ea_cons (ev_var 0 rfl (Or.inl rfl)) ea_nil) (ht := ht) (he := he)))
  (svs_cons (sv_forR1 [3, 4, 5, 6] PassesOwn.never rfl (by rfl) z_range (ea_cons (ev_callB call_lenG ok_len (by rfl) z_len PySem.boot_len (ea_cons (ev_var 1 rfl (Or.inl rfl)) ea_nil)) ea_nil) (tg_nm 3 sc_all_heard.nd rfl (Or.inl rfl) (.inl rfl))
  (svs_cons (sv_asg false (ev_sub (ev_var 1 rfl (Or.inl rfl)) (ev_var 3 rfl (Or.inl rfl)) (fun _ _ => rfl)) (tg_tp rfl (pgs_cons (pg_name (i := 4) sc_all_heard.nd rfl (Or.inl rfl) (.inl rfl)) (pgs_cons (pg_name (i := 5) sc_all_heard.nd rfl (Or.inl rfl) (.inl rfl)) (pgs_cons (pg_name (i := 6) sc_all_heard.nd rfl (Or.inl rfl) (.inl rfl)) pgs_nil)))))
  (svs_one (sv_setI 2 (ev_var 4 rfl (Or.inl rfl)) (ev_op op_addG ok_add (ev_sub (ev_var 2 rfl (Or.inl rfl)) (ev_var 5 rfl (Or.inl rfl)) (fun _ _ => rfl)) (ev_lst (ea_cons (ev_var 3 rfl (Or.inl rfl)) ea_nil))) rfl (Or.inl rfl)))))
  (svs_one (sv_ret (ev_var 2 rfl (Or.inl rfl))))))
theorem c_slips_heard {f : Addr} {fd : FuncData} (F : L2.Fun K "slips_heard" "slips_heard" s_slips_heard f fd) (hm : mg "slips_heard" = some (.ref f)) (hb : Binds K fd ["size", "turns", "player"] [])  (C_all_heard : Cal P w K mg base "all_heard" 1 2 w_all_heard) :
    Cal P w K mg base "slips_heard" 2 3 w_slips_heard :=
  cal_def F sc_slips_heard hm hb (m := m_slips_heard) fun cdv A outer s H E hr =>
  (svs_one (sv_ret (ev_sub (ev_callC C_all_heard (by rfl) hr (ea_cons (ev_var 0 rfl (Or.inl rfl)) (ea_cons (ev_var 1 rfl (Or.inl rfl)) ea_nil))) (ev_var 2 rfl (Or.inl rfl)) (fun _ _ => rfl))))
theorem c_greatest_apart {f : Addr} {fd : FuncData} (F : L2.Fun K "greatest_apart" "greatest_apart" s_greatest_apart f fd) (hm : mg "greatest_apart" = some (.ref f)) (hb : Binds K fd ["size", "turns", "errors", "first", "second"] []) (z_sum : mg "sum" = none) (C_all_heard : Cal P w K mg base "all_heard" 1 2 w_all_heard) (C_parting : Cal P w K mg base "parting" 1 2 w_parting) :
    Cal P w K mg base "greatest_apart" 2 5 w_greatest_apart :=
  cal_def F sc_greatest_apart hm hb (m := m_greatest_apart) fun cdv A outer s H E hr =>
  (svs_cons (sv_set 5 true sc_greatest_apart.nd (ev_callC C_all_heard (by rfl) hr (ea_cons (ev_var 0 rfl (Or.inl rfl)) (ea_cons (ev_var 1 rfl (Or.inl rfl)) ea_nil))) rfl (Or.inl rfl))
  (svs_one (sv_ret (ev_callB (cr_sum rfl) ok_sum (by rfl) z_sum PyProof.Rows.boot_sum (ea_cons (ev_lc [("at", 6)] (tg := (.nm 6)) rfl sc_greatest_apart.nd (blkOk_by (own := [("at", 6)]) (N := ["size", "turns", "errors", "first", "second", "heard", "at"]) (sc := defScope s_greatest_apart) (by decide +kernel)) (fun _ _ _ _ _ => (tg_nm 6 sc_greatest_apart.nd rfl (Or.inl rfl) (.inr rfl))) (fun _ _ _ _ _ => ets_nil) (fun _ _ _ _ _ => (ev_sub (ev_var 2 rfl (Or.inr (Or.inl rfl))) (ev_var 6 rfl (Or.inl rfl)) (fun _ _ => rfl))) (fun ht he => es_V (ev_callC C_parting (by rfl) hr (ea_cons (ev_sub (ev_var 5 rfl (Or.inl rfl)) (ev_var 3 rfl (Or.inl rfl)) (fun _ _ => rfl)) (ea_cons (ev_sub (ev_var 5 rfl (Or.inl rfl)) (ev_var 4 rfl (Or.inl rfl)) (fun _ _ => rfl)) ea_nil))) (ht := ht) (he := he))) ea_nil)))))
theorem c__law_draws {f : Addr} {fd : FuncData} (F : L2.Fun K "_law_draws" "_law_draws" s__law_draws f fd) (hm : mg "_law_draws" = some (.ref f)) (hb : Binds K fd ["script", "many"] []) (z_abs : mg "abs" = none) (z_int : mg "int" = none) (z_len : mg "len" = none) (z_range : mg "range" = none)  :
    Cal P w K mg base "_law_draws" 1 2 w__law_draws :=
  cal_def F sc__law_draws hm hb (m := m__law_draws) fun cdv A outer s H E hr =>
  (svs_cons (sv_set 2 true sc__law_draws.nd (ev_lst ea_nil) rfl (Or.inl rfl))
  (svs_cons (sv_forV [3, 4, 5, 6] PassesOwn.never rfl (ev_slice (ev_var 0 rfl (Or.inl rfl)) eo_none (eo_some ev_int)) (tg_nm 3 sc__law_draws.nd rfl (Or.inl rfl) (.inl rfl))
  (svs_cons (sv_set 4 true sc__law_draws.nd (ev_callB call_abs ok_abs (by rfl) z_abs PyProof.Rows.boot_abs (ea_cons (ev_callTy call_int1 ok_int (by rfl) z_int PyProof.Rows.boot_int (ea_cons (ev_var 3 rfl (Or.inl rfl)) ea_nil)) ea_nil)) rfl (Or.inl rfl))
  (svs_one (sv_if (et_cmp op_ge ok_ge (ev_var 4 rfl (Or.inl rfl)) (ev_op op_pow ok_pow ev_int ev_int) (nomark _))
  (svs_one (sv_forR1 [5] PassesOwn.never rfl (by rfl) z_range (ea_cons ev_int ea_nil) (tg_nm 5 sc__law_draws.nd rfl (Or.inl rfl) (.inl rfl))
  (svs_one (sv_if (et_cmp op_gt ok_gt (ev_var 4 rfl (Or.inl rfl)) ev_int (nomark _))
  (svs_cons (sv_app 2 (ev_op op_mod ok_mod (ev_var 4 rfl (Or.inl rfl)) ev_int) rfl (Or.inl rfl))
  (svs_one (sv_set 4 true sc__law_draws.nd (ev_op op_fdivW ok_div (ev_var 4 rfl (Or.inl rfl)) ev_int) rfl (Or.inl rfl))))
  svs_nil))))
  (svs_cons (sv_set 6 true sc__law_draws.nd (ev_op op_mod ok_mod (ev_op op_addG ok_add (ev_op op_addG ok_add (ev_op op_mulG ok_mul (ev_var 4 rfl (Or.inl rfl)) ev_int) (ev_op op_mulG ok_mul ev_int (ev_callB call_lenG ok_len (by rfl) z_len PySem.boot_len (ea_cons (ev_var 2 rfl (Or.inl rfl)) ea_nil)))) ev_int) ev_int) rfl (Or.inl rfl))
  (svs_one (sv_forR1 [5] PassesOwn.never rfl (by rfl) z_range (ea_cons ev_int ea_nil) (tg_nm 5 sc__law_draws.nd rfl (Or.inl rfl) (.inl rfl))
  (svs_cons (sv_set 6 true sc__law_draws.nd (ev_op op_mod ok_mod (ev_op op_addG ok_add (ev_op op_addG ok_add (ev_op op_addG ok_add (ev_op op_mulG ok_mul (ev_var 6 rfl (Or.inl rfl)) ev_int) (ev_op op_fdivW ok_div (ev_var 6 rfl (Or.inl rfl)) ev_int)) (ev_op op_mulG ok_mul ev_int (ev_var 5 rfl (Or.inl rfl)))) ev_int) ev_int) rfl (Or.inl rfl))
  (svs_one (sv_app 2 (ev_op op_mod ok_mod (ev_op op_fdivW ok_div (ev_var 6 rfl (Or.inl rfl)) ev_int) ev_int) rfl (Or.inl rfl)))))))))))
  (svs_cons (sv_forR1 [5, 7] PassesOwn.never rfl (by rfl) z_range (ea_cons (ev_var 1 rfl (Or.inl rfl)) ea_nil) (tg_nm 5 sc__law_draws.nd rfl (Or.inl rfl) (.inl rfl))
  (svs_one (sv_if (et_cmp op_lt ok_lt (ev_callB call_lenG ok_len (by rfl) z_len PySem.boot_len (ea_cons (ev_var 2 rfl (Or.inl rfl)) ea_nil)) (ev_var 1 rfl (Or.inl rfl)) (nomark _))
  (svs_cons (sv_set 7 true sc__law_draws.nd ev_int rfl (Or.inl rfl))
  (svs_cons (sv_if (et_cmp op_gt ok_gt (ev_callB call_lenG ok_len (by rfl) z_len PySem.boot_len (ea_cons (ev_var 2 rfl (Or.inl rfl)) ea_nil)) ev_int (nomark _))
  (svs_one (sv_set 7 false sc__law_draws.nd (ev_sub (ev_var 2 rfl (Or.inl rfl)) (ev_op op_mod ok_mod (ev_var 5 rfl (Or.inl rfl)) (ev_callB call_lenG ok_len (by rfl) z_len PySem.boot_len (ea_cons (ev_var 2 rfl (Or.inl rfl)) ea_nil))) (fun _ _ => rfl)) rfl (Or.inl rfl)))
  svs_nil)
  (svs_one (sv_app 2 (ev_op op_mod ok_mod (ev_op op_addG ok_add (ev_op op_addG ok_add (ev_op op_mulG ok_mul (ev_var 7 rfl (Or.inl rfl)) ev_int) (ev_op op_mulG ok_mul ev_int (ev_callB call_lenG ok_len (by rfl) z_len PySem.boot_len (ea_cons (ev_var 2 rfl (Or.inl rfl)) ea_nil)))) ev_int) ev_int) rfl (Or.inl rfl)))))
  svs_nil)))
  (svs_one (sv_ret (ev_slice (ev_var 2 rfl (Or.inl rfl)) eo_none (eo_some (ev_var 1 rfl (Or.inl rfl)))))))))
theorem c__law_cell {f : Addr} {fd : FuncData} (F : L2.Fun K "_law_cell" "_law_cell" s__law_cell f fd) (hm : mg "_law_cell" = some (.ref f)) (hb : Binds K fd ["draws", "k"] []) (z_len : mg "len" = none)  :
    Cal P w K mg base "_law_cell" 1 2 w__law_cell :=
  cal_def F sc__law_cell hm hb (m := m__law_cell) fun cdv A outer s H E hr =>
  (svs_cons (sv_if (et_cmp op_lt ok_lt (ev_var 1 rfl (Or.inl rfl)) (ev_callB call_lenG ok_len (by rfl) z_len PySem.boot_len (ea_cons (ev_var 0 rfl (Or.inl rfl)) ea_nil)) (nomark _))
  (svs_one (sv_ret (ev_sub (ev_var 0 rfl (Or.inl rfl)) (ev_var 1 rfl (Or.inl rfl)) (fun _ _ => rfl))))
  svs_nil)
  (svs_one (sv_ret (ev_op op_mod ok_mod (ev_op op_addG ok_add (ev_op op_addG ok_add (ev_op op_mulG ok_mul (ev_sub (ev_var 0 rfl (Or.inl rfl)) (ev_op op_mod ok_mod (ev_var 1 rfl (Or.inl rfl)) (ev_callB call_lenG ok_len (by rfl) z_len PySem.boot_len (ea_cons (ev_var 0 rfl (Or.inl rfl)) ea_nil))) (fun _ _ => rfl)) ev_int) (ev_op op_mulG ok_mul (ev_sub (ev_var 0 rfl (Or.inl rfl)) (ev_op op_mod ok_mod (ev_op op_mulG ok_mul ev_int (ev_var 1 rfl (Or.inl rfl))) (ev_callB call_lenG ok_len (by rfl) z_len PySem.boot_len (ea_cons (ev_var 0 rfl (Or.inl rfl)) ea_nil))) (fun _ _ => rfl)) ev_int)) (ev_op op_mulG ok_mul ev_int (ev_var 1 rfl (Or.inl rfl)))) ev_int))))
theorem c__law_is_number {f : Addr} {fd : FuncData} (F : L2.Fun K "_law_is_number" "_law_is_number" s__law_is_number f fd) (hm : mg "_law_is_number" = some (.ref f)) (hb : Binds K fd ["value"] []) (z_bool : mg "bool" = none) (z_int : mg "int" = none) (z_isinstance : mg "isinstance" = none)  :
    Cal P w K mg base "_law_is_number" 1 1 w__law_is_number :=
  cal_def F sc__law_is_number hm hb (m := m__law_is_number) fun cdv A outer s H E hr =>
  (svs_one (sv_ret (ev_and (ev_isi (T := "int") (by rfl) z_isinstance (by rfl) z_int PyProof.Rows.boot_int (ev_var 0 rfl (Or.inl rfl)) (by decide +kernel)) (ev_one (ev_not (ev_isi (T := "bool") (by rfl) z_isinstance (by rfl) z_bool PyProof.Rows.boot_bool (ev_var 0 rfl (Or.inl rfl)) (by decide +kernel)))))))
theorem c__law_is_numbers {f : Addr} {fd : FuncData} (F : L2.Fun K "_law_is_numbers" "_law_is_numbers" s__law_is_numbers f fd) (hm : mg "_law_is_numbers" = some (.ref f)) (hb : Binds K fd ["value", "size"] []) (z_isinstance : mg "isinstance" = none) (z_len : mg "len" = none) (z_list : mg "list" = none) (C__law_is_number : Cal P w K mg base "_law_is_number" 1 1 w__law_is_number) :
    Cal P w K mg base "_law_is_numbers" 2 2 w__law_is_numbers :=
  cal_def F sc__law_is_numbers hm hb (m := m__law_is_numbers) fun cdv A outer s H E hr =>
  (svs_cons (sv_if ((ew_or (et_not (et_val (ev_isi (T := "list") (by rfl) z_isinstance (by rfl) z_list PyProof.Rows.boot_list (ev_var 0 rfl (Or.inl rfl)) (by decide +kernel)))) (ew_or1 (et_cmp (op_neG hr.units) ok_ne (ev_callB call_lenG ok_len (by rfl) z_len PySem.boot_len (ea_cons (ev_var 0 rfl (Or.inl rfl)) ea_nil)) (ev_var 1 rfl (Or.inl rfl)) (nomark _))))).et
  (svs_one (sv_ret ev_bl))
  svs_nil)
  (svs_cons (sv_forN [2] 0 PassesOwn.never rfl (tg_nm 2 sc__law_is_numbers.nd rfl (Or.inl rfl) (.inl rfl))
  (svs_one (sv_if (et_not (et_val (ev_callC C__law_is_number (by rfl) hr (ea_cons (ev_var 2 rfl (Or.inl rfl)) ea_nil))))
  (svs_one (sv_ret ev_bl))
  svs_nil)) rfl (Or.inl rfl))
  (svs_one (sv_ret ev_bl))))
theorem c__law_world {f : Addr} {fd : FuncData} (F : L2.Fun K "_law_world" "_law_world" s__law_world f fd) (hm : mg "_law_world" = some (.ref f)) (hb : Binds K fd ["draws"] []) (z_range : mg "range" = none) (C__law_cell : Cal P w K mg base "_law_cell" 1 2 w__law_cell) :
    Cal P w K mg base "_law_world" 2 1 w__law_world :=
  cal_def F sc__law_world hm hb (m := m__law_world) fun cdv A outer s H E hr =>
  (svs_cons (sv_set 1 true sc__law_world.nd (ev_op op_addG ok_add ev_int (ev_op op_mod ok_mod (ev_sub (ev_var 0 rfl (Or.inl rfl)) ev_int (fun _ _ => rfl)) ev_int)) rfl (Or.inl rfl))
  (svs_cons (sv_set 2 true sc__law_world.nd (ev_op op_mod ok_mod (ev_op op_fdivW ok_div (ev_sub (ev_var 0 rfl (Or.inl rfl)) ev_int (fun _ _ => rfl)) ev_int) ev_int) rfl (Or.inl rfl))
  (svs_cons (sv_ifJ (sv_if (et_cmp (op_eqG hr.units) ok_eq (ev_op op_mod ok_mod (ev_sub (ev_var 0 rfl (Or.inl rfl)) ev_int (fun _ _ => rfl)) ev_int) ev_int (nomark _))
  (svs_cons (sv_set 1 true sc__law_world.nd (ev_op op_addG ok_add ev_int (ev_op op_mod ok_mod (ev_op op_fdivW ok_div (ev_sub (ev_var 0 rfl (Or.inl rfl)) ev_int (fun _ _ => rfl)) ev_int) ev_int)) rfl (Or.inl rfl))
  (svs_one (sv_set 2 true sc__law_world.nd (ev_op op_mod ok_mod (ev_op op_fdivW ok_div (ev_sub (ev_var 0 rfl (Or.inl rfl)) ev_int (fun _ _ => rfl)) ev_int) ev_int) rfl (Or.inl rfl))))
  svs_nil))
  (svs_cons (sv_set 3 true sc__law_world.nd ev_int rfl (Or.inl rfl))
  (svs_cons (sv_ifJ (sv_if (et_cmp (op_eqG hr.units) ok_eq (ev_op op_mod ok_mod (ev_sub (ev_var 0 rfl (Or.inl rfl)) ev_int (fun _ _ => rfl)) ev_int) ev_int (nomark _))
  (svs_one (sv_set 3 true sc__law_world.nd (ev_op op_addG ok_add (ev_op op_pow ok_pow ev_int ev_int) (ev_sub (ev_var 0 rfl (Or.inl rfl)) ev_int (fun _ _ => rfl))) rfl (Or.inl rfl)))
  svs_nil))
  (svs_cons (sv_set 4 true sc__law_world.nd (ev_lst ea_nil) rfl (Or.inl rfl))
  (svs_cons (sv_forR1 [5, 6, 7] PassesOwn.never rfl (by rfl) z_range (ea_cons (ev_var 2 rfl (Or.inl rfl)) ea_nil) (tg_nm 5 sc__law_world.nd rfl (Or.inl rfl) (.inl rfl))
  (svs_cons (sv_set 6 true sc__law_world.nd (ev_op op_mod ok_mod (ev_callC C__law_cell (by rfl) hr (ea_cons (ev_var 0 rfl (Or.inl rfl)) (ea_cons (ev_op op_addG ok_add ev_int (ev_op op_mulG ok_mul ev_int (ev_var 5 rfl (Or.inl rfl)))) ea_nil))) (ev_var 1 rfl (Or.inl rfl))) rfl (Or.inl rfl))
  (svs_cons (sv_set 7 true sc__law_world.nd (ev_op op_mod ok_mod (ev_op op_addG ok_add (ev_op op_addG ok_add (ev_var 6 rfl (Or.inl rfl)) ev_int) (ev_op op_mod ok_mod (ev_callC C__law_cell (by rfl) hr (ea_cons (ev_var 0 rfl (Or.inl rfl)) (ea_cons (ev_op op_addG ok_add ev_int (ev_op op_mulG ok_mul ev_int (ev_var 5 rfl (Or.inl rfl)))) ea_nil))) (ev_op op_sub ok_sub (ev_var 1 rfl (Or.inl rfl)) ev_int))) (ev_var 1 rfl (Or.inl rfl))) rfl (Or.inl rfl))
  (svs_one (sv_app 4 (ev_tup (ea_cons (ev_var 6 rfl (Or.inl rfl)) (ea_cons (ev_var 7 rfl (Or.inl rfl)) (ea_cons (ev_op op_mulG ok_mul (ev_op op_sub ok_sub (ev_op op_mod ok_mod (ev_callC C__law_cell (by rfl) hr (ea_cons (ev_var 0 rfl (Or.inl rfl)) (ea_cons (ev_op op_addG ok_add ev_int (ev_op op_mulG ok_mul ev_int (ev_var 5 rfl (Or.inl rfl)))) ea_nil))) ev_int) ev_int) (ev_var 3 rfl (Or.inl rfl))) ea_nil)))) rfl (Or.inl rfl))))))
  (svs_one (sv_ret (ev_tup (ea_cons (ev_var 1 rfl (Or.inl rfl)) (ea_cons (ev_var 4 rfl (Or.inl rfl)) ea_nil))))))))))))
theorem c__law_offsets {f : Addr} {fd : FuncData} (F : L2.Fun K "_law_offsets" "_law_offsets" s__law_offsets f fd) (hm : mg "_law_offsets" = some (.ref f)) (hb : Binds K fd ["size", "turns"] [])   :
    Cal P w K mg base "_law_offsets" 1 2 w__law_offsets :=
  cal_def F sc__law_offsets hm hb (m := m__law_offsets) fun cdv A outer s H E hr =>
  (svs_cons (sv_set 2 true sc__law_offsets.nd (ev_op op_mulG ok_mul (ev_lst (ea_cons ev_int ea_nil)) (ev_var 0 rfl (Or.inl rfl))) rfl (Or.inl rfl))
  (svs_cons (sv_forN [3, 4, 5] 1 PassesOwn.never rfl (tg_tp rfl (pgs_cons (pg_name (i := 3) sc__law_offsets.nd rfl (Or.inl rfl) (.inl rfl)) (pgs_cons (pg_name (i := 4) sc__law_offsets.nd rfl (Or.inl rfl) (.inl rfl)) (pgs_cons (pg_name (i := 5) sc__law_offsets.nd rfl (Or.inl rfl) (.inl rfl)) pgs_nil))))
  (svs_one (sv_setI 2 (ev_var 3 rfl (Or.inl rfl)) (ev_op op_addG ok_add (ev_sub (ev_var 2 rfl (Or.inl rfl)) (ev_var 4 rfl (Or.inl rfl)) (fun _ _ => rfl)) (ev_var 5 rfl (Or.inl rfl))) rfl (Or.inl rfl))) rfl (Or.inl rfl))
  (svs_one (sv_ret (ev_var 2 rfl (Or.inl rfl))))))
theorem c__law_heard {f : Addr} {fd : FuncData} (F : L2.Fun K "_law_heard" "_law_heard" s__law_heard f fd) (hm : mg "_law_heard" = some (.ref f)) (hb : Binds K fd ["turns", "player"] []) (z_len : mg "len" = none) (z_range : mg "range" = none)  :
    Cal P w K mg base "_law_heard" 1 2 w__law_heard :=
  cal_def F sc__law_heard hm hb (m := m__law_heard) fun cdv A outer s H E hr =>
  (svs_cons (sv_set 2 true sc__law_heard.nd (ev_lst ea_nil) rfl (Or.inl rfl))
  (svs_cons (sv_set 3 true sc__law_heard.nd (ev_var 1 rfl (Or.inl rfl)) rfl (Or.inl rfl))
  (svs_cons (sv_forR1 [4, 5] PassesOwn.never rfl (by rfl) z_range (ea_cons (ev_callB call_lenG ok_len (by rfl) z_len PySem.boot_len (ea_cons (ev_var 0 rfl (Or.inl rfl)) ea_nil)) ea_nil) (tg_nm 4 sc__law_heard.nd rfl (Or.inl rfl) (.inl rfl))
  (svs_cons (sv_set 5 false sc__law_heard.nd (ev_sub (ev_var 0 rfl (Or.inl rfl)) (ev_op op_sub ok_sub (ev_op op_sub ok_sub (ev_callB call_lenG ok_len (by rfl) z_len PySem.boot_len (ea_cons (ev_var 0 rfl (Or.inl rfl)) ea_nil)) ev_int) (ev_var 4 rfl (Or.inl rfl))) (fun _ _ => rfl)) rfl (Or.inl rfl))
  (svs_one (sv_if (et_cmp (op_eqG hr.units) ok_eq (ev_sub (ev_var 5 rfl (Or.inl rfl)) ev_int (fun _ _ => rfl)) (ev_var 3 rfl (Or.inl rfl)) (nomark _))
  (svs_cons (sv_set 2 true sc__law_heard.nd (ev_op op_addG ok_add (ev_lst (ea_cons (ev_op op_sub ok_sub (ev_op op_sub ok_sub (ev_callB call_lenG ok_len (by rfl) z_len PySem.boot_len (ea_cons (ev_var 0 rfl (Or.inl rfl)) ea_nil)) ev_int) (ev_var 4 rfl (Or.inl rfl))) ea_nil)) (ev_var 2 rfl (Or.inl rfl))) rfl (Or.inl rfl))
  (svs_one (sv_set 3 true sc__law_heard.nd (ev_sub (ev_var 5 rfl (Or.inl rfl)) ev_int (fun _ _ => rfl)) rfl (Or.inl rfl))))
  svs_nil))))
  (svs_one (sv_ret (ev_var 2 rfl (Or.inl rfl)))))))
theorem c__law_is_right {f : Addr} {fd : FuncData} (F : L2.Fun K "_law_is_right" "_law_is_right" s__law_is_right f fd) (hm : mg "_law_is_right" = some (.ref f)) (hb : Binds K fd ["size", "turns"] []) (z_len : mg "len" = none) (z_list : mg "list" = none) (z_range : mg "range" = none) (z_sum : mg "sum" = none) (C__law_offsets : Cal P w K mg base "_law_offsets" 1 2 w__law_offsets) (C_offsets_after : Cal P w K mg base "offsets_after" 1 2 w_offsets_after) (C__law_is_numbers : Cal P w K mg base "_law_is_numbers" 2 2 w__law_is_numbers) (C__law_heard : Cal P w K mg base "_law_heard" 1 2 w__law_heard) (C_slips_heard : Cal P w K mg base "slips_heard" 2 3 w_slips_heard) :
    Cal P w K mg base "_law_is_right" 3 2 w__law_is_right :=
  cal_def F sc__law_is_right hm hb (m := m__law_is_right) fun cdv A outer s H E hr =>
  (svs_cons (sv_set 2 true sc__law_is_right.nd (ev_callTy call_list_of ok_list (by rfl) z_list PyProof.Rows.boot_list (ea_cons (ev_var 1 rfl (Or.inr (Or.inl rfl))) ea_nil)) rfl (Or.inl rfl))
  (svs_cons (sv_set 3 true sc__law_is_right.nd (ev_callC C__law_offsets (by rfl) hr (ea_cons (ev_var 0 rfl (Or.inl rfl)) (ea_cons (ev_var 1 rfl (Or.inr (Or.inl rfl))) ea_nil))) rfl (Or.inl rfl))
  (svs_cons (sv_set 4 true sc__law_is_right.nd (ev_callC C_offsets_after (by rfl) hr (ea_cons (ev_var 0 rfl (Or.inl rfl)) (ea_cons (ev_var 2 rfl (Or.inl rfl)) ea_nil))) rfl (Or.inl rfl))
  (svs_cons (sv_if ((ew_or (et_cmp (op_neG hr.units) ok_ne (ev_var 2 rfl (Or.inl rfl)) (ev_var 1 rfl (Or.inr (Or.inl rfl))) (nomark _)) (ew_or (et_not (et_val (ev_callC C__law_is_numbers (by rfl) hr (ea_cons (ev_var 4 rfl (Or.inl rfl)) (ea_cons (ev_var 0 rfl (Or.inl rfl)) ea_nil))))) (ew_or1 (et_cmp (op_neG hr.units) ok_ne (ev_var 4 rfl (Or.inl rfl)) (ev_var 3 rfl (Or.inl rfl)) (nomark _)))))).et
  (svs_one (sv_ret ev_bl))
  svs_nil)
  (svs_cons (sv_app 4 ev_int rfl (Or.inl rfl))
  (svs_cons (sv_forR1 [4, 5, 6] PassesOwn.never rfl (by rfl) z_range (ea_cons (ev_var 0 rfl (Or.inl rfl)) ea_nil) (tg_nm 5 sc__law_is_right.nd rfl (Or.inl rfl) (.inl rfl))
  (svs_one (sv_if (et_cmp op_lt ok_lt (ev_var 5 rfl (Or.inl rfl)) ev_int (nomark _))
  (svs_cons (sv_set 6 true sc__law_is_right.nd (ev_callC C__law_heard (by rfl) hr (ea_cons (ev_var 1 rfl (Or.inr (Or.inl rfl))) (ea_cons (ev_var 5 rfl (Or.inl rfl)) ea_nil))) rfl (Or.inl rfl))
  (svs_cons (sv_set 4 true sc__law_is_right.nd (ev_callC C_slips_heard (by rfl) hr (ea_cons (ev_var 0 rfl (Or.inl rfl)) (ea_cons (ev_var 2 rfl (Or.inl rfl)) (ea_cons (ev_var 5 rfl (Or.inl rfl)) ea_nil)))) rfl (Or.inl rfl))
  (svs_cons (sv_if ((ew_or (et_not (et_val (ev_callC C__law_is_numbers (by rfl) hr (ea_cons (ev_var 4 rfl (Or.inl rfl)) (ea_cons (ev_callB call_lenG ok_len (by rfl) z_len PySem.boot_len (ea_cons (ev_var 6 rfl (Or.inl rfl)) ea_nil)) ea_nil))))) (ew_or (et_cmp (op_neG hr.units) ok_ne (ev_var 4 rfl (Or.inl rfl)) (ev_var 6 rfl (Or.inl rfl)) (nomark _)) (ew_or1 (et_cmp (op_neG hr.units) ok_ne (ev_var 2 rfl (Or.inl rfl)) (ev_var 1 rfl (Or.inr (Or.inl rfl))) (nomark _)))))).et
  (svs_one (sv_ret ev_bl))
  svs_nil)
  (svs_cons (sv_if (et_cmp (op_neG hr.units) ok_ne (ev_callB (cr_sum rfl) ok_sum (by rfl) z_sum PyProof.Rows.boot_sum (ea_cons (ev_lc [("at", 7)] (tg := (.nm 7)) rfl sc__law_is_right.nd (blkOk_by (own := [("at", 7)]) (N := ["size", "turns", "passed", "offsets", "told", "player", "heard", "at"]) (sc := defScope s__law_is_right) (by decide +kernel)) (fun _ _ _ _ _ => (tg_nm 7 sc__law_is_right.nd rfl (Or.inl rfl) (.inr rfl))) (fun _ _ _ _ _ => ets_nil) (fun _ _ _ _ _ => (ev_sub (ev_sub (ev_var 1 rfl (Or.inr (Or.inl rfl))) (ev_var 7 rfl (Or.inl rfl)) (fun _ _ => rfl)) ev_int (fun _ _ => rfl))) (fun ht he => es_V (ev_var 4 rfl (Or.inl rfl)) (ht := ht) (he := he))) ea_nil)) (ev_sub (ev_var 3 rfl (Or.inl rfl)) (ev_var 5 rfl (Or.inl rfl)) (fun _ _ => rfl)) (nomark _))
  (svs_one (sv_ret ev_bl))
  svs_nil)
  (svs_one (sv_app 4 ev_int rfl (Or.inl rfl)))))))
  svs_nil)))
  (svs_one (sv_ret ev_bl))))))))
theorem c__law_with {f : Addr} {fd : FuncData} (F : L2.Fun K "_law_with" "_law_with" s__law_with f fd) (hm : mg "_law_with" = some (.ref f)) (hb : Binds K fd ["turns", "slips"] []) (z_len : mg "len" = none) (z_range : mg "range" = none)  :
    Cal P w K mg base "_law_with" 1 2 w__law_with :=
  cal_def F sc__law_with hm hb (m := m__law_with) fun cdv A outer s H E hr =>
  (svs_one (sv_ret (ev_lc [("at", 2)] (tg := (.nm 2)) rfl sc__law_with.nd (blkOk_by (own := [("at", 2)]) (N := ["turns", "slips", "at"]) (sc := defScope s__law_with) (by decide +kernel)) (fun _ _ _ _ _ => (tg_nm 2 sc__law_with.nd rfl (Or.inl rfl) (.inr rfl))) (fun _ _ _ _ _ => ets_nil) (fun _ _ _ _ _ => (ev_tup (ea_cons (ev_sub (ev_sub (ev_var 0 rfl (Or.inr (Or.inl rfl))) (ev_var 2 rfl (Or.inl rfl)) (fun _ _ => rfl)) ev_int (fun _ _ => rfl)) (ea_cons (ev_sub (ev_sub (ev_var 0 rfl (Or.inr (Or.inl rfl))) (ev_var 2 rfl (Or.inl rfl)) (fun _ _ => rfl)) ev_int (fun _ _ => rfl)) (ea_cons (ev_sub (ev_var 1 rfl (Or.inr (Or.inl rfl))) (ev_var 2 rfl (Or.inl rfl)) (fun _ _ => rfl)) ea_nil))))) (fun ht he => es_R1 (by rfl) z_range (ea_cons (ev_callB call_lenG ok_len (by rfl) z_len PySem.boot_len (ea_cons (ev_var 0 rfl (Or.inr (Or.inl rfl))) ea_nil)) ea_nil) (ht := ht) (he := he)))))
theorem c__law_pair_is_right {f : Addr} {fd : FuncData} (F : L2.Fun K "_law_pair_is_right" "_law_pair_is_right" s__law_pair_is_right f fd) (hm : mg "_law_pair_is_right" = some (.ref f)) (hb : Binds K fd ["draws", "size", "turns", "errors", "first", "second"] []) (z_abs : mg "abs" = none) (z_len : mg "len" = none) (z_list : mg "list" = none) (z_range : mg "range" = none) (C__law_heard : Cal P w K mg base "_law_heard" 1 2 w__law_heard) (C_greatest_apart : Cal P w K mg base "greatest_apart" 2 5 w_greatest_apart) (C__law_is_number : Cal P w K mg base "_law_is_number" 1 1 w__law_is_number) (C_offsets_after : Cal P w K mg base "offsets_after" 1 2 w_offsets_after) (C__law_with : Cal P w K mg base "_law_with" 1 2 w__law_with) (C__law_cell : Cal P w K mg base "_law_cell" 1 2 w__law_cell) :
    Cal P w K mg base "_law_pair_is_right" 3 6 w__law_pair_is_right :=
  cal_def F sc__law_pair_is_right hm hb (m := m__law_pair_is_right) fun cdv A outer s H E hr =>
  (svs_cons (sv_set 6 true sc__law_pair_is_right.nd (ev_callC C__law_heard (by rfl) hr (ea_cons (ev_var 2 rfl (Or.inl rfl)) (ea_cons (ev_var 4 rfl (Or.inl rfl)) ea_nil))) rfl (Or.inl rfl))
  (svs_cons (sv_set 7 true sc__law_pair_is_right.nd (ev_callC C__law_heard (by rfl) hr (ea_cons (ev_var 2 rfl (Or.inl rfl)) (ea_cons (ev_var 5 rfl (Or.inl rfl)) ea_nil))) rfl (Or.inl rfl))
  (svs_cons (sv_set 8 true sc__law_pair_is_right.nd ev_int rfl (Or.inl rfl))
  (svs_cons (sv_set 9 true sc__law_pair_is_right.nd (ev_op op_mulG ok_mul (ev_lst (ea_cons ev_int ea_nil)) (ev_callB call_lenG ok_len (by rfl) z_len PySem.boot_len (ea_cons (ev_var 2 rfl (Or.inl rfl)) ea_nil))) rfl (Or.inl rfl))
  (svs_cons (sv_forR1 [] PassesOwn.never rfl (by rfl) z_range (ea_cons (ev_callB call_lenG ok_len (by rfl) z_len PySem.boot_len (ea_cons (ev_var 2 rfl (Or.inl rfl)) ea_nil)) ea_nil) (tg_nm 10 sc__law_pair_is_right.nd rfl (Or.inl rfl) (.inl rfl))
  (svs_one (sv_if (et_cmp (op_neG hr.units) ok_ne (ev_cmp op_in_seq (ok_inB false) (ev_var 10 rfl (Or.inl rfl)) (ev_var 6 rfl (Or.inl rfl)) (by rfl)) (ev_cmp op_in_seq (ok_inB false) (ev_var 10 rfl (Or.inl rfl)) (ev_var 7 rfl (Or.inl rfl)) (by rfl)) (nomark _))
  (svs_cons (sv_set 8 true sc__law_pair_is_right.nd (ev_op op_addG ok_add (ev_var 8 rfl (Or.inl rfl)) (ev_sub (ev_var 3 rfl (Or.inr (Or.inl rfl))) (ev_var 10 rfl (Or.inl rfl)) (fun _ _ => rfl))) rfl (Or.inl rfl))
  (svs_cons (sv_setI 9 (ev_var 10 rfl (Or.inl rfl)) (ev_sub (ev_var 3 rfl (Or.inr (Or.inl rfl))) (ev_var 10 rfl (Or.inl rfl)) (fun _ _ => rfl)) rfl (Or.inl rfl))
  (svs_one (sv_if (et_cmp op_in_seq (ok_inB false) (ev_var 10 rfl (Or.inl rfl)) (ev_var 6 rfl (Or.inl rfl)) (by rfl))
  (svs_one (sv_setI 9 (ev_var 10 rfl (Or.inl rfl)) (ev_op op_sub ok_sub ev_int (ev_sub (ev_var 3 rfl (Or.inr (Or.inl rfl))) (ev_var 10 rfl (Or.inl rfl)) (fun _ _ => rfl))) rfl (Or.inl rfl)))
  svs_nil))))
  svs_nil)))
  (svs_cons (sv_set 11 true sc__law_pair_is_right.nd (ev_lst (ea_cons (ev_callTy call_list_of ok_list (by rfl) z_list PyProof.Rows.boot_list (ea_cons (ev_var 2 rfl (Or.inl rfl)) ea_nil)) (ea_cons (ev_callTy call_list_of ok_list (by rfl) z_list PyProof.Rows.boot_list (ea_cons (ev_var 3 rfl (Or.inr (Or.inl rfl))) ea_nil)) ea_nil))) rfl (Or.inl rfl))
  (svs_cons (sv_set 12 true sc__law_pair_is_right.nd (ev_callC C_greatest_apart (by rfl) hr (ea_cons (ev_var 1 rfl (Or.inl rfl)) (ea_cons (ev_sub (ev_var 11 rfl (Or.inl rfl)) ev_int (fun _ _ => rfl)) (ea_cons (ev_sub (ev_var 11 rfl (Or.inl rfl)) ev_int (fun _ _ => rfl)) (ea_cons (ev_var 4 rfl (Or.inl rfl)) (ea_cons (ev_var 5 rfl (Or.inl rfl)) ea_nil)))))) rfl (Or.inl rfl))
  (svs_cons (sv_if ((ew_or (et_cmp (op_neG hr.units) ok_ne (ev_var 11 rfl (Or.inl rfl)) (ev_lst (ea_cons (ev_var 2 rfl (Or.inl rfl)) (ea_cons (ev_var 3 rfl (Or.inr (Or.inl rfl))) ea_nil))) (nomark _)) (ew_or (et_not (et_val (ev_callC C__law_is_number (by rfl) hr (ea_cons (ev_var 12 rfl (Or.inl rfl)) ea_nil)))) (ew_or1 (et_cmp (op_neG hr.units) ok_ne (ev_var 12 rfl (Or.inl rfl)) (ev_var 8 rfl (Or.inl rfl)) (nomark _)))))).et
  (svs_one (sv_ret ev_bl))
  svs_nil)
  (svs_cons (sv_set 13 true sc__law_pair_is_right.nd (ev_callC C_offsets_after (by rfl) hr (ea_cons (ev_var 1 rfl (Or.inl rfl)) (ea_cons (ev_callC C__law_with (by rfl) hr (ea_cons (ev_var 2 rfl (Or.inl rfl)) (ea_cons (ev_var 9 rfl (Or.inl rfl)) ea_nil))) ea_nil))) rfl (Or.inl rfl))
  (svs_cons (sv_if (et_cmp (op_neG hr.units) ok_ne (ev_op op_sub ok_sub (ev_sub (ev_var 13 rfl (Or.inl rfl)) (ev_var 5 rfl (Or.inl rfl)) (fun _ _ => rfl)) (ev_sub (ev_var 13 rfl (Or.inl rfl)) (ev_var 4 rfl (Or.inl rfl)) (fun _ _ => rfl))) (ev_var 8 rfl (Or.inl rfl)) (nomark _))
  (svs_one (sv_ret ev_bl))
  svs_nil)
  (svs_cons (sv_set 13 true sc__law_pair_is_right.nd (ev_callC C_offsets_after (by rfl) hr (ea_cons (ev_var 1 rfl (Or.inl rfl)) (ea_cons (ev_callC C__law_with (by rfl) hr (ea_cons (ev_var 2 rfl (Or.inl rfl)) (ea_cons (ev_lc [("slip", 15)] (tg := (.nm 15)) rfl sc__law_pair_is_right.nd (blkOk_by (own := [("slip", 15)]) (N := ["draws", "size", "turns", "errors", "first", "second", "one", "other", "due", "up", "at", "passed", "told", "offsets", "drawn", "slip"]) (sc := defScope s__law_pair_is_right) (by decide +kernel)) (fun _ _ _ _ _ => (tg_nm 15 sc__law_pair_is_right.nd rfl (Or.inl rfl) (.inr rfl))) (fun _ _ _ _ _ => ets_nil) (fun _ _ _ _ _ => (ev_op op_sub ok_sub ev_int (ev_var 15 rfl (Or.inl rfl)))) (fun ht he => es_V (ev_var 9 rfl (Or.inl rfl)) (ht := ht) (he := he))) ea_nil))) ea_nil))) rfl (Or.inl rfl))
  (svs_cons (sv_if (et_cmp (op_neG hr.units) ok_ne (ev_op op_sub ok_sub (ev_sub (ev_var 13 rfl (Or.inl rfl)) (ev_var 4 rfl (Or.inl rfl)) (fun _ _ => rfl)) (ev_sub (ev_var 13 rfl (Or.inl rfl)) (ev_var 5 rfl (Or.inl rfl)) (fun _ _ => rfl))) (ev_var 8 rfl (Or.inl rfl)) (nomark _))
  (svs_one (sv_ret ev_bl))
  svs_nil)
  (svs_cons (sv_setLc 14 [("at", 10)] (tg := (.nm 10)) rfl sc__law_pair_is_right.nd (blkOk_by (own := [("at", 10)]) (N := ["draws", "size", "turns", "errors", "first", "second", "one", "other", "due", "up", "at", "passed", "told", "offsets", "drawn", "slip"]) (sc := defScope s__law_pair_is_right) (by decide +kernel)) (fun _ _ _ _ _ => (tg_nm 10 sc__law_pair_is_right.nd rfl (Or.inl rfl) (.inr rfl))) (fun _ _ _ _ _ => ets_nil) (fun _ _ _ _ _ => (ev_op op_sub ok_sub (ev_op op_mod ok_mod (ev_callC C__law_cell (by rfl) hr (ea_cons (ev_var 0 rfl (Or.inr (Or.inl rfl))) (ea_cons (ev_op op_addG ok_add ev_int (ev_op op_mulG ok_mul ev_int (ev_var 10 rfl (Or.inl rfl)))) ea_nil))) (ev_op op_addG ok_add (ev_op op_mulG ok_mul ev_int (ev_sub (ev_var 3 rfl (Or.inr (Or.inl rfl))) (ev_var 10 rfl (Or.inl rfl)) (fun _ _ => rfl))) ev_int)) (ev_sub (ev_var 3 rfl (Or.inr (Or.inl rfl))) (ev_var 10 rfl (Or.inl rfl)) (fun _ _ => rfl)))) (fun ht he => es_R1 (by rfl) z_range (ea_cons (ev_callB call_lenG ok_len (by rfl) z_len PySem.boot_len (ea_cons (ev_var 2 rfl (Or.inl rfl)) ea_nil)) ea_nil) (ht := ht) (he := he)))
  (svs_cons (sv_set 13 true sc__law_pair_is_right.nd (ev_callC C_offsets_after (by rfl) hr (ea_cons (ev_var 1 rfl (Or.inl rfl)) (ea_cons (ev_callC C__law_with (by rfl) hr (ea_cons (ev_var 2 rfl (Or.inl rfl)) (ea_cons (ev_var 14 rfl (Or.inl rfl)) ea_nil))) ea_nil))) rfl (Or.inl rfl))
  (svs_one (sv_ret (ev_cmp op_le ok_le (ev_callB call_abs ok_abs (by rfl) z_abs PyProof.Rows.boot_abs (ea_cons (ev_op op_sub ok_sub (ev_sub (ev_var 13 rfl (Or.inl rfl)) (ev_var 5 rfl (Or.inl rfl)) (fun _ _ => rfl)) (ev_sub (ev_var 13 rfl (Or.inl rfl)) (ev_var 4 rfl (Or.inl rfl)) (fun _ _ => rfl))) ea_nil)) (ev_var 8 rfl (Or.inl rfl)) (nomark _))))))))))))))))))
theorem c_law {f : Addr} {fd : FuncData} (F : L2.Fun K "law" "law" s_law f fd) (hm : mg "law" = some (.ref f)) (hb : Binds K fd ["script"] []) (z_len : mg "len" = none) (z_range : mg "range" = none) (C__law_draws : Cal P w K mg base "_law_draws" 1 2 w__law_draws) (C__law_world : Cal P w K mg base "_law_world" 2 1 w__law_world) (C__law_cell : Cal P w K mg base "_law_cell" 1 2 w__law_cell) (C__law_is_right : Cal P w K mg base "_law_is_right" 3 2 w__law_is_right) (C__law_pair_is_right : Cal P w K mg base "_law_pair_is_right" 3 6 w__law_pair_is_right) (C_greatest_apart : Cal P w K mg base "greatest_apart" 2 5 w_greatest_apart) :
    Cal P w K mg base "law" 4 1 w_law :=
  cal_def F sc_law hm hb (m := m_law) fun cdv A outer s H E hr =>
  (svs_cons (sv_set 1 true sc_law.nd (ev_callC C__law_draws (by rfl) hr (ea_cons (ev_var 0 rfl (Or.inl rfl)) (ea_cons ev_int ea_nil))) rfl (Or.inr rfl))
  (svs_cons (sv_asg true (ev_callC C__law_world (by rfl) hr (ea_cons (ev_var 1 rfl (Or.inr (Or.inl rfl))) ea_nil)) (tg_tp rfl (pgs_cons (pg_name (i := 2) sc_law.nd rfl (Or.inr rfl) (.inl rfl)) (pgs_cons (pg_name (i := 3) sc_law.nd rfl (Or.inl rfl) (.inl rfl)) pgs_nil))))
  (svs_cons (sv_setLc 4 [("at", 8)] (tg := (.nm 8)) rfl sc_law.nd (blkOk_by (own := [("at", 8)]) (N := ["script", "draws", "size", "turns", "errors", "pairs", "first", "second", "at", "k"]) (sc := defScope s_law) (by decide +kernel)) (fun _ _ _ _ _ => (tg_nm 8 sc_law.nd rfl (Or.inl rfl) (.inr rfl))) (fun _ _ _ _ _ => ets_nil) (fun _ _ _ _ _ => (ev_op op_mod ok_mod (ev_callC C__law_cell (by rfl) hr (ea_cons (ev_var 1 rfl (Or.inr (Or.inl rfl))) (ea_cons (ev_op op_addG ok_add ev_int (ev_var 8 rfl (Or.inl rfl))) ea_nil))) ev_int)) (fun ht he => es_R1 (by rfl) z_range (ea_cons (ev_callB call_lenG ok_len (by rfl) z_len PySem.boot_len (ea_cons (ev_var 3 rfl (Or.inl rfl)) ea_nil)) ea_nil) (ht := ht) (he := he)))
  (svs_cons (sv_if ((ew_or (et_not (et_val (ev_callC C__law_is_right (by rfl) hr (ea_cons (ev_var 2 rfl (Or.inr (Or.inl rfl))) (ea_cons (ev_var 3 rfl (Or.inl rfl)) ea_nil))))) (ew_or (et_not (et_val (ev_callC C__law_is_right (by rfl) hr (ea_cons (ev_var 2 rfl (Or.inr (Or.inl rfl))) (ea_cons (ev_slice (ev_var 3 rfl (Or.inl rfl)) eo_none (eo_some (ev_un un_neg ok_neg ev_int))) ea_nil))))) (ew_or1 (et_not (et_val (ev_callC C__law_is_right (by rfl) hr (ea_cons (ev_var 2 rfl (Or.inr (Or.inl rfl))) (ea_cons (ev_lst ea_nil) ea_nil))))))))).et
  (svs_one (sv_ret ev_bl))
  svs_nil)
  (svs_cons (sv_setLc 5 [("k", 9)] (tg := (.nm 9)) rfl sc_law.nd (blkOk_by (own := [("k", 9)]) (N := ["script", "draws", "size", "turns", "errors", "pairs", "first", "second", "at", "k"]) (sc := defScope s_law) (by decide +kernel)) (fun _ _ _ _ _ => (tg_nm 9 sc_law.nd rfl (Or.inl rfl) (.inr rfl))) (fun _ _ _ _ _ => ets_nil) (fun _ _ _ _ _ => (ev_tup (ea_cons (ev_op op_mod ok_mod (ev_callC C__law_cell (by rfl) hr (ea_cons (ev_var 1 rfl (Or.inr (Or.inl rfl))) (ea_cons (ev_op op_addG ok_add ev_int (ev_op op_mulG ok_mul ev_int (ev_var 9 rfl (Or.inl rfl)))) ea_nil))) (ev_var 2 rfl (Or.inr (Or.inl rfl)))) (ea_cons (ev_op op_mod ok_mod (ev_callC C__law_cell (by rfl) hr (ea_cons (ev_var 1 rfl (Or.inr (Or.inl rfl))) (ea_cons (ev_op op_addG ok_add ev_int (ev_op op_mulG ok_mul ev_int (ev_var 9 rfl (Or.inl rfl)))) ea_nil))) (ev_var 2 rfl (Or.inr (Or.inl rfl)))) ea_nil)))) (fun ht he => es_R1 (by rfl) z_range (ea_cons ev_int ea_nil) (ht := ht) (he := he)))
  (svs_cons (sv_ifJ (sv_if (et_cmp op_lt ok_lt (ev_var 2 rfl (Or.inr (Or.inl rfl))) ev_int (nomark _))
  (svs_cons (sv_set 5 true sc_law.nd (ev_lst ea_nil) rfl (Or.inl rfl))
  (svs_one (sv_forR1 [6] PassesOwn.never rfl (by rfl) z_range (ea_cons (ev_var 2 rfl (Or.inr (Or.inl rfl))) ea_nil) (tg_nm 6 sc_law.nd rfl (Or.inr rfl) (.inl rfl))
  (svs_one (sv_set 5 true sc_law.nd (ev_op op_addG ok_add (ev_var 5 rfl (Or.inl rfl)) (ev_lc [("second", 7)] (tg := (.nm 7)) rfl sc_law.nd (blkOk_by (own := [("second", 7)]) (N := ["script", "draws", "size", "turns", "errors", "pairs", "first", "second", "at", "k"]) (sc := defScope s_law) (by decide +kernel)) (fun _ _ _ _ _ => (tg_nm 7 sc_law.nd rfl (Or.inl rfl) (.inr rfl))) (fun _ _ _ _ _ => ets_nil) (fun _ _ _ _ _ => (ev_tup (ea_cons (ev_var 6 rfl (Or.inr (Or.inl rfl))) (ea_cons (ev_var 7 rfl (Or.inl rfl)) ea_nil)))) (fun ht he => es_R1 (by rfl) z_range (ea_cons (ev_var 2 rfl (Or.inr (Or.inl rfl))) ea_nil) (ht := ht) (he := he)))) rfl (Or.inl rfl))))))
  svs_nil))
  (svs_cons (sv_forN [6, 7] 5 PassesOwn.never rfl (tg_tp rfl (pgs_cons (pg_name (i := 6) sc_law.nd rfl (Or.inr rfl) (.inl rfl)) (pgs_cons (pg_name (i := 7) sc_law.nd rfl (Or.inl rfl) (.inl rfl)) pgs_nil)))
  (svs_one (sv_if (et_not (et_val (ev_callC C__law_pair_is_right (by rfl) hr (ea_cons (ev_var 1 rfl (Or.inr (Or.inl rfl))) (ea_cons (ev_var 2 rfl (Or.inr (Or.inl rfl))) (ea_cons (ev_var 3 rfl (Or.inl rfl)) (ea_cons (ev_var 4 rfl (Or.inl rfl)) (ea_cons (ev_var 6 rfl (Or.inr (Or.inl rfl))) (ea_cons (ev_var 7 rfl (Or.inl rfl)) ea_nil)))))))))
  (svs_one (sv_ret ev_bl))
  svs_nil)) rfl (Or.inl rfl))
  (svs_cons (sv_if (et_cmp (op_neG hr.units) ok_ne (ev_callC C_greatest_apart (by rfl) hr (ea_cons (ev_var 2 rfl (Or.inr (Or.inl rfl))) (ea_cons (ev_lst ea_nil) (ea_cons (ev_lst ea_nil) (ea_cons ev_int (ea_cons (ev_op op_sub ok_sub (ev_var 2 rfl (Or.inr (Or.inl rfl))) ev_int) ea_nil)))))) ev_int (nomark _))
  (svs_one (sv_ret ev_bl))
  svs_nil)
  (svs_one (sv_ret (ev_callC C__law_is_right (by rfl) hr (ea_cons (ev_var 2 rfl (Or.inr (Or.inl rfl))) (ea_cons (ev_var 3 rfl (Or.inl rfl)) ea_nil)))))))))))))
end
end KM
namespace KM
open PySem PySem.Spec PyProof.Rows L2 KT
theorem ok_law {P : Program} {w : World} {K : PySem.W.Frag} {mg : Str → Option Value} {base : Heap} {f : Addr} {fd : FuncData} (F : L2.Fun K "law" "law" s_law f fd) (z_len : mg "len" = none) (z_range : mg "range" = none) (C__law_draws : Cal P w K mg base "_law_draws" 1 2 w__law_draws) (C__law_world : Cal P w K mg base "_law_world" 2 1 w__law_world) (C__law_cell : Cal P w K mg base "_law_cell" 1 2 w__law_cell) (C__law_is_right : Cal P w K mg base "_law_is_right" 3 2 w__law_is_right) (C__law_pair_is_right : Cal P w K mg base "_law_pair_is_right" 3 6 w__law_pair_is_right) (C_greatest_apart : Cal P w K mg base "greatest_apart" 2 5 w_greatest_apart) :
    FnOk P w K mg base L2.CX0 4 f fd ["script"] (spOf K 1 w_law) :=
  ok_def F sc_law (m := m_law) fun cdv A outer s H E hr =>
  (svs_cons (sv_set 1 true sc_law.nd (ev_callC C__law_draws (by rfl) hr (ea_cons (ev_var 0 rfl (Or.inl rfl)) (ea_cons ev_int ea_nil))) rfl (Or.inr rfl))
  (svs_cons (sv_asg true (ev_callC C__law_world (by rfl) hr (ea_cons (ev_var 1 rfl (Or.inr (Or.inl rfl))) ea_nil)) (tg_tp rfl (pgs_cons (pg_name (i := 2) sc_law.nd rfl (Or.inr rfl) (.inl rfl)) (pgs_cons (pg_name (i := 3) sc_law.nd rfl (Or.inl rfl) (.inl rfl)) pgs_nil))))
  (svs_cons (sv_setLc 4 [("at", 8)] (tg := (.nm 8)) rfl sc_law.nd (blkOk_by (own := [("at", 8)]) (N := ["script", "draws", "size", "turns", "errors", "pairs", "first", "second", "at", "k"]) (sc := defScope s_law) (by decide +kernel)) (fun _ _ _ _ _ => (tg_nm 8 sc_law.nd rfl (Or.inl rfl) (.inr rfl))) (fun _ _ _ _ _ => ets_nil) (fun _ _ _ _ _ => (ev_op op_mod ok_mod (ev_callC C__law_cell (by rfl) hr (ea_cons (ev_var 1 rfl (Or.inr (Or.inl rfl))) (ea_cons (ev_op op_addG ok_add ev_int (ev_var 8 rfl (Or.inl rfl))) ea_nil))) ev_int)) (fun ht he => es_R1 (by rfl) z_range (ea_cons (ev_callB call_lenG ok_len (by rfl) z_len PySem.boot_len (ea_cons (ev_var 3 rfl (Or.inl rfl)) ea_nil)) ea_nil) (ht := ht) (he := he)))
  (svs_cons (sv_if ((ew_or (et_not (et_val (ev_callC C__law_is_right (by rfl) hr (ea_cons (ev_var 2 rfl (Or.inr (Or.inl rfl))) (ea_cons (ev_var 3 rfl (Or.inl rfl)) ea_nil))))) (ew_or (et_not (et_val (ev_callC C__law_is_right (by rfl) hr (ea_cons (ev_var 2 rfl (Or.inr (Or.inl rfl))) (ea_cons (ev_slice (ev_var 3 rfl (Or.inl rfl)) eo_none (eo_some (ev_un un_neg ok_neg ev_int))) ea_nil))))) (ew_or1 (et_not (et_val (ev_callC C__law_is_right (by rfl) hr (ea_cons (ev_var 2 rfl (Or.inr (Or.inl rfl))) (ea_cons (ev_lst ea_nil) ea_nil))))))))).et
  (svs_one (sv_ret ev_bl))
  svs_nil)
  (svs_cons (sv_setLc 5 [("k", 9)] (tg := (.nm 9)) rfl sc_law.nd (blkOk_by (own := [("k", 9)]) (N := ["script", "draws", "size", "turns", "errors", "pairs", "first", "second", "at", "k"]) (sc := defScope s_law) (by decide +kernel)) (fun _ _ _ _ _ => (tg_nm 9 sc_law.nd rfl (Or.inl rfl) (.inr rfl))) (fun _ _ _ _ _ => ets_nil) (fun _ _ _ _ _ => (ev_tup (ea_cons (ev_op op_mod ok_mod (ev_callC C__law_cell (by rfl) hr (ea_cons (ev_var 1 rfl (Or.inr (Or.inl rfl))) (ea_cons (ev_op op_addG ok_add ev_int (ev_op op_mulG ok_mul ev_int (ev_var 9 rfl (Or.inl rfl)))) ea_nil))) (ev_var 2 rfl (Or.inr (Or.inl rfl)))) (ea_cons (ev_op op_mod ok_mod (ev_callC C__law_cell (by rfl) hr (ea_cons (ev_var 1 rfl (Or.inr (Or.inl rfl))) (ea_cons (ev_op op_addG ok_add ev_int (ev_op op_mulG ok_mul ev_int (ev_var 9 rfl (Or.inl rfl)))) ea_nil))) (ev_var 2 rfl (Or.inr (Or.inl rfl)))) ea_nil)))) (fun ht he => es_R1 (by rfl) z_range (ea_cons ev_int ea_nil) (ht := ht) (he := he)))
  (svs_cons (sv_ifJ (sv_if (et_cmp op_lt ok_lt (ev_var 2 rfl (Or.inr (Or.inl rfl))) ev_int (nomark _))
  (svs_cons (sv_set 5 true sc_law.nd (ev_lst ea_nil) rfl (Or.inl rfl))
  (svs_one (sv_forR1 [6] PassesOwn.never rfl (by rfl) z_range (ea_cons (ev_var 2 rfl (Or.inr (Or.inl rfl))) ea_nil) (tg_nm 6 sc_law.nd rfl (Or.inr rfl) (.inl rfl))
  (svs_one (sv_set 5 true sc_law.nd (ev_op op_addG ok_add (ev_var 5 rfl (Or.inl rfl)) (ev_lc [("second", 7)] (tg := (.nm 7)) rfl sc_law.nd (blkOk_by (own := [("second", 7)]) (N := ["script", "draws", "size", "turns", "errors", "pairs", "first", "second", "at", "k"]) (sc := defScope s_law) (by decide +kernel)) (fun _ _ _ _ _ => (tg_nm 7 sc_law.nd rfl (Or.inl rfl) (.inr rfl))) (fun _ _ _ _ _ => ets_nil) (fun _ _ _ _ _ => (ev_tup (ea_cons (ev_var 6 rfl (Or.inr (Or.inl rfl))) (ea_cons (ev_var 7 rfl (Or.inl rfl)) ea_nil)))) (fun ht he => es_R1 (by rfl) z_range (ea_cons (ev_var 2 rfl (Or.inr (Or.inl rfl))) ea_nil) (ht := ht) (he := he)))) rfl (Or.inl rfl))))))
  svs_nil))
  (svs_cons (sv_forN [6, 7] 5 PassesOwn.never rfl (tg_tp rfl (pgs_cons (pg_name (i := 6) sc_law.nd rfl (Or.inr rfl) (.inl rfl)) (pgs_cons (pg_name (i := 7) sc_law.nd rfl (Or.inl rfl) (.inl rfl)) pgs_nil)))
  (svs_one (sv_if (et_not (et_val (ev_callC C__law_pair_is_right (by rfl) hr (ea_cons (ev_var 1 rfl (Or.inr (Or.inl rfl))) (ea_cons (ev_var 2 rfl (Or.inr (Or.inl rfl))) (ea_cons (ev_var 3 rfl (Or.inl rfl)) (ea_cons (ev_var 4 rfl (Or.inl rfl)) (ea_cons (ev_var 6 rfl (Or.inr (Or.inl rfl))) (ea_cons (ev_var 7 rfl (Or.inl rfl)) ea_nil)))))))))
  (svs_one (sv_ret ev_bl))
  svs_nil)) rfl (Or.inl rfl))
  (svs_cons (sv_if (et_cmp (op_neG hr.units) ok_ne (ev_callC C_greatest_apart (by rfl) hr (ea_cons (ev_var 2 rfl (Or.inr (Or.inl rfl))) (ea_cons (ev_lst ea_nil) (ea_cons (ev_lst ea_nil) (ea_cons ev_int (ea_cons (ev_op op_sub ok_sub (ev_var 2 rfl (Or.inr (Or.inl rfl))) ev_int) ea_nil)))))) ev_int (nomark _))
  (svs_one (sv_ret ev_bl))
  svs_nil)
  (svs_one (sv_ret (ev_callC C__law_is_right (by rfl) hr (ea_cons (ev_var 2 rfl (Or.inr (Or.inl rfl))) (ea_cons (ev_var 3 rfl (Or.inl rfl)) ea_nil)))))))))))))
theorem all_mk {l : PySem.W.OpenLaw} {w : World} {K : PySem.W.Frag} {h : Heap} {mg : Str → Option Value} {fa : Addr} (X : K.In h) (G : h.Ns mainGlobals mg) (hfa : mg "law" = some (.ref fa))
    {f0 : Addr} {od0 an0 : Option Addr} {sl0 : Array (Option Value)} {oc0 kV0 dc0 pm0 cd0 ct0 : Value}
    {f1 : Addr} {od1 an1 : Option Addr} {sl1 : Array (Option Value)} {oc1 kV1 dc1 pm1 cd1 ct1 : Value}
    {f2 : Addr} {od2 an2 : Option Addr} {sl2 : Array (Option Value)} {oc2 kV2 dc2 pm2 cd2 ct2 : Value}
    {f3 : Addr} {od3 an3 : Option Addr} {sl3 : Array (Option Value)} {oc3 kV3 dc3 pm3 cd3 ct3 : Value}
    {f4 : Addr} {od4 an4 : Option Addr} {sl4 : Array (Option Value)} {oc4 kV4 dc4 pm4 cd4 ct4 : Value}
    {f5 : Addr} {od5 an5 : Option Addr} {sl5 : Array (Option Value)} {oc5 kV5 dc5 pm5 cd5 ct5 : Value}
    {f6 : Addr} {od6 an6 : Option Addr} {sl6 : Array (Option Value)} {oc6 kV6 dc6 pm6 cd6 ct6 : Value}
    {f7 : Addr} {od7 an7 : Option Addr} {sl7 : Array (Option Value)} {oc7 kV7 dc7 pm7 cd7 ct7 : Value}
    {f8 : Addr} {od8 an8 : Option Addr} {sl8 : Array (Option Value)} {oc8 kV8 dc8 pm8 cd8 ct8 : Value}
    {f9 : Addr} {od9 an9 : Option Addr} {sl9 : Array (Option Value)} {oc9 kV9 dc9 pm9 cd9 ct9 : Value}
    {f10 : Addr} {od10 an10 : Option Addr} {sl10 : Array (Option Value)} {oc10 kV10 dc10 pm10 cd10 ct10 : Value}
    {f11 : Addr} {od11 an11 : Option Addr} {sl11 : Array (Option Value)} {oc11 kV11 dc11 pm11 cd11 ct11 : Value}
    {f12 : Addr} {od12 an12 : Option Addr} {sl12 : Array (Option Value)} {oc12 kV12 dc12 pm12 cd12 ct12 : Value}
    {f13 : Addr} {od13 an13 : Option Addr} {sl13 : Array (Option Value)} {oc13 kV13 dc13 pm13 cd13 ct13 : Value}
    {f14 : Addr} {od14 an14 : Option Addr} {sl14 : Array (Option Value)} {oc14 kV14 dc14 pm14 cd14 ct14 : Value}
    {f15 : Addr} {od15 an15 : Option Addr} {sl15 : Array (Option Value)} {oc15 kV15 dc15 pm15 cd15 ct15 : Value}
    (a0 : PySem.W.nsIn K mainGlobals "parting" = some (some (.ref f0))) (l0 : K.lookup f0 = some ⟨oc0, od0, .func (PySem.W.fnOf "parting" "parting" (defArgs s_parting) (defBody s_parting) (defScope s_parting) .none kV0 dc0 pm0 an0 cd0 ct0), sl0⟩) (c0 : PySem.W.codeIn K cd0 "parting" = true) (k0 : PySem.W.keepIn K (.ref f0) = true)
    (a1 : PySem.W.nsIn K mainGlobals "offsets_after" = some (some (.ref f1))) (l1 : K.lookup f1 = some ⟨oc1, od1, .func (PySem.W.fnOf "offsets_after" "offsets_after" (defArgs s_offsets_after) (defBody s_offsets_after) (defScope s_offsets_after) .none kV1 dc1 pm1 an1 cd1 ct1), sl1⟩) (c1 : PySem.W.codeIn K cd1 "offsets_after" = true) (k1 : PySem.W.keepIn K (.ref f1) = true)
    (a2 : PySem.W.nsIn K mainGlobals "all_heard" = some (some (.ref f2))) (l2 : K.lookup f2 = some ⟨oc2, od2, .func (PySem.W.fnOf "all_heard" "all_heard" (defArgs s_all_heard) (defBody s_all_heard) (defScope s_all_heard) .none kV2 dc2 pm2 an2 cd2 ct2), sl2⟩) (c2 : PySem.W.codeIn K cd2 "all_heard" = true) (k2 : PySem.W.keepIn K (.ref f2) = true)
    (a3 : PySem.W.nsIn K mainGlobals "slips_heard" = some (some (.ref f3))) (l3 : K.lookup f3 = some ⟨oc3, od3, .func (PySem.W.fnOf "slips_heard" "slips_heard" (defArgs s_slips_heard) (defBody s_slips_heard) (defScope s_slips_heard) .none kV3 dc3 pm3 an3 cd3 ct3), sl3⟩) (c3 : PySem.W.codeIn K cd3 "slips_heard" = true) (k3 : PySem.W.keepIn K (.ref f3) = true)
    (a4 : PySem.W.nsIn K mainGlobals "greatest_apart" = some (some (.ref f4))) (l4 : K.lookup f4 = some ⟨oc4, od4, .func (PySem.W.fnOf "greatest_apart" "greatest_apart" (defArgs s_greatest_apart) (defBody s_greatest_apart) (defScope s_greatest_apart) .none kV4 dc4 pm4 an4 cd4 ct4), sl4⟩) (c4 : PySem.W.codeIn K cd4 "greatest_apart" = true) (k4 : PySem.W.keepIn K (.ref f4) = true)
    (a5 : PySem.W.nsIn K mainGlobals "_law_draws" = some (some (.ref f5))) (l5 : K.lookup f5 = some ⟨oc5, od5, .func (PySem.W.fnOf "_law_draws" "_law_draws" (defArgs s__law_draws) (defBody s__law_draws) (defScope s__law_draws) .none kV5 dc5 pm5 an5 cd5 ct5), sl5⟩) (c5 : PySem.W.codeIn K cd5 "_law_draws" = true) (k5 : PySem.W.keepIn K (.ref f5) = true)
    (a6 : PySem.W.nsIn K mainGlobals "_law_cell" = some (some (.ref f6))) (l6 : K.lookup f6 = some ⟨oc6, od6, .func (PySem.W.fnOf "_law_cell" "_law_cell" (defArgs s__law_cell) (defBody s__law_cell) (defScope s__law_cell) .none kV6 dc6 pm6 an6 cd6 ct6), sl6⟩) (c6 : PySem.W.codeIn K cd6 "_law_cell" = true) (k6 : PySem.W.keepIn K (.ref f6) = true)
    (a7 : PySem.W.nsIn K mainGlobals "_law_is_number" = some (some (.ref f7))) (l7 : K.lookup f7 = some ⟨oc7, od7, .func (PySem.W.fnOf "_law_is_number" "_law_is_number" (defArgs s__law_is_number) (defBody s__law_is_number) (defScope s__law_is_number) .none kV7 dc7 pm7 an7 cd7 ct7), sl7⟩) (c7 : PySem.W.codeIn K cd7 "_law_is_number" = true) (k7 : PySem.W.keepIn K (.ref f7) = true)
    (a8 : PySem.W.nsIn K mainGlobals "_law_is_numbers" = some (some (.ref f8))) (l8 : K.lookup f8 = some ⟨oc8, od8, .func (PySem.W.fnOf "_law_is_numbers" "_law_is_numbers" (defArgs s__law_is_numbers) (defBody s__law_is_numbers) (defScope s__law_is_numbers) .none kV8 dc8 pm8 an8 cd8 ct8), sl8⟩) (c8 : PySem.W.codeIn K cd8 "_law_is_numbers" = true) (k8 : PySem.W.keepIn K (.ref f8) = true)
    (a9 : PySem.W.nsIn K mainGlobals "_law_world" = some (some (.ref f9))) (l9 : K.lookup f9 = some ⟨oc9, od9, .func (PySem.W.fnOf "_law_world" "_law_world" (defArgs s__law_world) (defBody s__law_world) (defScope s__law_world) .none kV9 dc9 pm9 an9 cd9 ct9), sl9⟩) (c9 : PySem.W.codeIn K cd9 "_law_world" = true) (k9 : PySem.W.keepIn K (.ref f9) = true)
    (a10 : PySem.W.nsIn K mainGlobals "_law_offsets" = some (some (.ref f10))) (l10 : K.lookup f10 = some ⟨oc10, od10, .func (PySem.W.fnOf "_law_offsets" "_law_offsets" (defArgs s__law_offsets) (defBody s__law_offsets) (defScope s__law_offsets) .none kV10 dc10 pm10 an10 cd10 ct10), sl10⟩) (c10 : PySem.W.codeIn K cd10 "_law_offsets" = true) (k10 : PySem.W.keepIn K (.ref f10) = true)
    (a11 : PySem.W.nsIn K mainGlobals "_law_heard" = some (some (.ref f11))) (l11 : K.lookup f11 = some ⟨oc11, od11, .func (PySem.W.fnOf "_law_heard" "_law_heard" (defArgs s__law_heard) (defBody s__law_heard) (defScope s__law_heard) .none kV11 dc11 pm11 an11 cd11 ct11), sl11⟩) (c11 : PySem.W.codeIn K cd11 "_law_heard" = true) (k11 : PySem.W.keepIn K (.ref f11) = true)
    (a12 : PySem.W.nsIn K mainGlobals "_law_is_right" = some (some (.ref f12))) (l12 : K.lookup f12 = some ⟨oc12, od12, .func (PySem.W.fnOf "_law_is_right" "_law_is_right" (defArgs s__law_is_right) (defBody s__law_is_right) (defScope s__law_is_right) .none kV12 dc12 pm12 an12 cd12 ct12), sl12⟩) (c12 : PySem.W.codeIn K cd12 "_law_is_right" = true) (k12 : PySem.W.keepIn K (.ref f12) = true)
    (a13 : PySem.W.nsIn K mainGlobals "_law_with" = some (some (.ref f13))) (l13 : K.lookup f13 = some ⟨oc13, od13, .func (PySem.W.fnOf "_law_with" "_law_with" (defArgs s__law_with) (defBody s__law_with) (defScope s__law_with) .none kV13 dc13 pm13 an13 cd13 ct13), sl13⟩) (c13 : PySem.W.codeIn K cd13 "_law_with" = true) (k13 : PySem.W.keepIn K (.ref f13) = true)
    (a14 : PySem.W.nsIn K mainGlobals "_law_pair_is_right" = some (some (.ref f14))) (l14 : K.lookup f14 = some ⟨oc14, od14, .func (PySem.W.fnOf "_law_pair_is_right" "_law_pair_is_right" (defArgs s__law_pair_is_right) (defBody s__law_pair_is_right) (defScope s__law_pair_is_right) .none kV14 dc14 pm14 an14 cd14 ct14), sl14⟩) (c14 : PySem.W.codeIn K cd14 "_law_pair_is_right" = true) (k14 : PySem.W.keepIn K (.ref f14) = true)
    (a15 : PySem.W.nsIn K mainGlobals "law" = some (some (.ref f15))) (l15 : K.lookup f15 = some ⟨oc15, od15, .func (PySem.W.fnOf "law" "law" (defArgs s_law) (defBody s_law) (defScope s_law) .none kV15 dc15 pm15 an15 cd15 ct15), sl15⟩) (c15 : PySem.W.codeIn K cd15 "law" = true) (k15 : PySem.W.keepIn K (.ref f15) = true)
    (z_abs : PySem.W.nsIn K mainGlobals "abs" = some none)
    (z_bool : PySem.W.nsIn K mainGlobals "bool" = some none)
    (z_int : PySem.W.nsIn K mainGlobals "int" = some none)
    (z_isinstance : PySem.W.nsIn K mainGlobals "isinstance" = some none)
    (z_len : PySem.W.nsIn K mainGlobals "len" = some none)
    (z_list : PySem.W.nsIn K mainGlobals "list" = some none)
    (z_range : PySem.W.nsIn K mainGlobals "range" = some none)
    (z_sum : PySem.W.nsIn K mainGlobals "sum" = some none) :
    ∃ fd : FuncData, (∀ (s : Shared) (v : Value), BindsTo s fd ⟨[v], []⟩ [("script", v)]) ∧ ∀ base : Heap, K.In base → base.Ns mainGlobals mg → FnOk l.prog w K mg base L2.CX0 4 fa fd ["script"] (spOf K 1 w_law) := by
  have e := hfa.symm.trans (PySem.W.mg_of X G a15)
  cases e
  have F0 := fun_mk (st := s_parting) l0 c0 k0
  have b0 := F0.binds (ps := ["first", "second"]) fun _ _ _ _ _ _ us hl => match us, hl with | [_, _], _ => rfl
  have m0 := PySem.W.mg_of X G a0
  have F1 := fun_mk (st := s_offsets_after) l1 c1 k1
  have b1 := F1.binds (ps := ["size", "turns"]) fun _ _ _ _ _ _ us hl => match us, hl with | [_, _], _ => rfl
  have m1 := PySem.W.mg_of X G a1
  have F2 := fun_mk (st := s_all_heard) l2 c2 k2
  have b2 := F2.binds (ps := ["size", "turns"]) fun _ _ _ _ _ _ us hl => match us, hl with | [_, _], _ => rfl
  have m2 := PySem.W.mg_of X G a2
  have F3 := fun_mk (st := s_slips_heard) l3 c3 k3
  have b3 := F3.binds (ps := ["size", "turns", "player"]) fun _ _ _ _ _ _ us hl => match us, hl with | [_, _, _], _ => rfl
  have m3 := PySem.W.mg_of X G a3
  have F4 := fun_mk (st := s_greatest_apart) l4 c4 k4
  have b4 := F4.binds (ps := ["size", "turns", "errors", "first", "second"]) fun _ _ _ _ _ _ us hl => match us, hl with | [_, _, _, _, _], _ => rfl
  have m4 := PySem.W.mg_of X G a4
  have F5 := fun_mk (st := s__law_draws) l5 c5 k5
  have b5 := F5.binds (ps := ["script", "many"]) fun _ _ _ _ _ _ us hl => match us, hl with | [_, _], _ => rfl
  have m5 := PySem.W.mg_of X G a5
  have F6 := fun_mk (st := s__law_cell) l6 c6 k6
  have b6 := F6.binds (ps := ["draws", "k"]) fun _ _ _ _ _ _ us hl => match us, hl with | [_, _], _ => rfl
  have m6 := PySem.W.mg_of X G a6
  have F7 := fun_mk (st := s__law_is_number) l7 c7 k7
  have b7 := F7.binds (ps := ["value"]) fun _ _ _ _ _ _ us hl => match us, hl with | [_], _ => rfl
  have m7 := PySem.W.mg_of X G a7
  have F8 := fun_mk (st := s__law_is_numbers) l8 c8 k8
  have b8 := F8.binds (ps := ["value", "size"]) fun _ _ _ _ _ _ us hl => match us, hl with | [_, _], _ => rfl
  have m8 := PySem.W.mg_of X G a8
  have F9 := fun_mk (st := s__law_world) l9 c9 k9
  have b9 := F9.binds (ps := ["draws"]) fun _ _ _ _ _ _ us hl => match us, hl with | [_], _ => rfl
  have m9 := PySem.W.mg_of X G a9
  have F10 := fun_mk (st := s__law_offsets) l10 c10 k10
  have b10 := F10.binds (ps := ["size", "turns"]) fun _ _ _ _ _ _ us hl => match us, hl with | [_, _], _ => rfl
  have m10 := PySem.W.mg_of X G a10
  have F11 := fun_mk (st := s__law_heard) l11 c11 k11
  have b11 := F11.binds (ps := ["turns", "player"]) fun _ _ _ _ _ _ us hl => match us, hl with | [_, _], _ => rfl
  have m11 := PySem.W.mg_of X G a11
  have F12 := fun_mk (st := s__law_is_right) l12 c12 k12
  have b12 := F12.binds (ps := ["size", "turns"]) fun _ _ _ _ _ _ us hl => match us, hl with | [_, _], _ => rfl
  have m12 := PySem.W.mg_of X G a12
  have F13 := fun_mk (st := s__law_with) l13 c13 k13
  have b13 := F13.binds (ps := ["turns", "slips"]) fun _ _ _ _ _ _ us hl => match us, hl with | [_, _], _ => rfl
  have m13 := PySem.W.mg_of X G a13
  have F14 := fun_mk (st := s__law_pair_is_right) l14 c14 k14
  have b14 := F14.binds (ps := ["draws", "size", "turns", "errors", "first", "second"]) fun _ _ _ _ _ _ us hl => match us, hl with | [_, _, _, _, _, _], _ => rfl
  have m14 := PySem.W.mg_of X G a14
  have F15 := fun_mk (st := s_law) l15 c15 k15
  have b15 := F15.binds (ps := ["script"]) fun _ _ _ _ _ _ us hl => match us, hl with | [_], _ => rfl
  have m15 := PySem.W.mg_of X G a15
  have y_abs := PySem.W.mg_none_of X G z_abs
  have y_bool := PySem.W.mg_none_of X G z_bool
  have y_int := PySem.W.mg_none_of X G z_int
  have y_isinstance := PySem.W.mg_none_of X G z_isinstance
  have y_len := PySem.W.mg_none_of X G z_len
  have y_list := PySem.W.mg_none_of X G z_list
  have y_range := PySem.W.mg_none_of X G z_range
  have y_sum := PySem.W.mg_none_of X G z_sum
  refine ⟨PySem.W.fnOf "law" "law" (defArgs s_law) (defBody s_law) (defScope s_law) .none kV15 dc15 pm15 an15 cd15 ct15, fun s v => .of_eq rfl, fun base _ _ => ?_⟩
  have C5 := c__law_draws (P := l.prog) (w := w) (base := base) F5 m5 b5 y_abs y_int y_len y_range
  have C6 := c__law_cell (P := l.prog) (w := w) (base := base) F6 m6 b6 y_len
  have C9 := c__law_world (P := l.prog) (w := w) (base := base) F9 m9 b9 y_range C6
  have C10 := c__law_offsets (P := l.prog) (w := w) (base := base) F10 m10 b10
  have C1 := c_offsets_after (P := l.prog) (w := w) (base := base) F1 m1 b1
  have C7 := c__law_is_number (P := l.prog) (w := w) (base := base) F7 m7 b7 y_bool y_int y_isinstance
  have C8 := c__law_is_numbers (P := l.prog) (w := w) (base := base) F8 m8 b8 y_isinstance y_len y_list C7
  have C11 := c__law_heard (P := l.prog) (w := w) (base := base) F11 m11 b11 y_len y_range
  have C2 := c_all_heard (P := l.prog) (w := w) (base := base) F2 m2 b2 y_len y_range
  have C3 := c_slips_heard (P := l.prog) (w := w) (base := base) F3 m3 b3 C2
  have C12 := c__law_is_right (P := l.prog) (w := w) (base := base) F12 m12 b12 y_len y_list y_range y_sum C10 C1 C8 C11 C3
  have C0 := c_parting (P := l.prog) (w := w) (base := base) F0 m0 b0
  have C4 := c_greatest_apart (P := l.prog) (w := w) (base := base) F4 m4 b4 y_sum C2 C0
  have C13 := c__law_with (P := l.prog) (w := w) (base := base) F13 m13 b13 y_len y_range
  have C14 := c__law_pair_is_right (P := l.prog) (w := w) (base := base) F14 m14 b14 y_abs y_len y_list y_range C11 C4 C7 C1 C13 C6
  exact ok_law F15 y_len y_range C5 C9 C6 C12 C14 C4
end KM
open PySem PySem.W PyProof.Rows
set_option maxHeartbeats 0 in
theorem PySem.Challenge.cw_keystuned_k78_players_in_turn_holds : PySem.Challenge.rw_keystuned_k78_players_in_turn.Holds := by
  w_on; o_law; k_head; (case hw => w_witness2)
  k_fill
  refine L2.walk_ofB (l := PySem.Challenge.rw_keystuned_k78_players_in_turn) (n := 63) (k := 4) (x := "script") (CX := fun _ => L2.CX0) (sp := fun w => KT.spOf _ 1 KM.w_law) rfl (by decide) rfl ⟨rfl, by decide, by decide⟩ (fun w h Y => PySem.W.kIn_of Y) ?F (fun _ H a ns hl hb hO hS => KT.law_sp KM.law_holds H a ns hl hb hO hS) (fun _ _ _ _ _ h => h)
  case F =>
    intro w mg fa h KX G hmg
    refine' KM.all_mk KX G hmg ?a0 ?l0 ?c0 ?k0 ?a1 ?l1 ?c1 ?k1 ?a2 ?l2 ?c2 ?k2 ?a3 ?l3 ?c3 ?k3 ?a4 ?l4 ?c4 ?k4 ?a5 ?l5 ?c5 ?k5 ?a6 ?l6 ?c6 ?k6 ?a7 ?l7 ?c7 ?k7 ?a8 ?l8 ?c8 ?k8 ?a9 ?l9 ?c9 ?k9 ?a10 ?l10 ?c10 ?k10 ?a11 ?l11 ?c11 ?k11 ?a12 ?l12 ?c12 ?k12 ?a13 ?l13 ?c13 ?k13 ?a14 ?l14 ?c14 ?k14 ?a15 ?l15 ?c15 ?k15 ?z_abs ?z_bool ?z_int ?z_isinstance ?z_len ?z_list ?z_range ?z_sum
    (case a0 => k_is); (case l0 => k_is); (case c0 => k_is); (case k0 => k_is); (case a1 => k_is); (case l1 => k_is); (case c1 => k_is); (case k1 => k_is); (case a2 => k_is); (case l2 => k_is); (case c2 => k_is); (case k2 => k_is); (case a3 => k_is); (case l3 => k_is); (case c3 => k_is); (case k3 => k_is); (case a4 => k_is); (case l4 => k_is); (case c4 => k_is); (case k4 => k_is); (case a5 => k_is); (case l5 => k_is); (case c5 => k_is); (case k5 => k_is); (case a6 => k_is); (case l6 => k_is); (case c6 => k_is); (case k6 => k_is); (case a7 => k_is); (case l7 => k_is); (case c7 => k_is); (case k7 => k_is); (case a8 => k_is); (case l8 => k_is); (case c8 => k_is); (case k8 => k_is); (case a9 => k_is); (case l9 => k_is); (case c9 => k_is); (case k9 => k_is); (case a10 => k_is); (case l10 => k_is); (case c10 => k_is); (case k10 => k_is); (case a11 => k_is); (case l11 => k_is); (case c11 => k_is); (case k11 => k_is); (case a12 => k_is); (case l12 => k_is); (case c12 => k_is); (case k12 => k_is); (case a13 => k_is); (case l13 => k_is); (case c13 => k_is); (case k13 => k_is); (case a14 => k_is); (case l14 => k_is); (case c14 => k_is); (case k14 => k_is); (case a15 => k_is); (case l15 => k_is); (case c15 => k_is); (case k15 => k_is); (case z_abs => k_is); (case z_bool => k_is); (case z_int => k_is); (case z_isinstance => k_is); (case z_len => k_is); (case z_list => k_is); (case z_range => k_is); (case z_sum => k_is)
