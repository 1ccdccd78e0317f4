import PyProof.Rows.All
import HandS.ForMost
import HandS.ForExc
import HandS.Strs
import HandS.Wide
import HandS.IsInst
import HandS.SortInts
import HandS.Comp
import HandS.WideBits
import HandS.Style
import HandS.TupLe
import KE.KExcSuper
import HandS.Nested
import HandS.ExcInit
import HandS.TryOnly
import HandS.ExcOwn
import HandS.ExcField
import HandS.WordsExc
import HandS.ExcIs
import HandS.DictComp
import HandS.Conv
import HandS.Deep
import HandS.More
import HandS.SetFor
import HandS.Zip
import KE.DatumOrd
import PySem.Challenge.RW_keystuned_k69_shifted_and_shared
import HandS.EndBits
set_option Elab.async false
set_option linter.all false
set_option maxRecDepth 100000
set_option maxHeartbeats 4000000
set_option exponentiation.threshold 20000
/-! KtA: values as plain data, what stands for them in the abstract heap, who owns which lists. -/
namespace KT
open PySem PySem.Spec PyProof.Rows L2
/-- the world that the sets stand in -/
class WT where
  w : World
variable [WT]

abbrev D := PyData

/-- what stands for the script -/
def scrP (ns : List Int) : List (D × D) := (.int 0, .none) :: ns.map fun n => (.int n, .none)
/-- a written dict stands for: a set (.bool true ..), a dict (.bool false ..), an instance (.str ..), an exception ((.int, .str) ..): owned; the script, a datum that tells nothing: not -/
def immT : List (D × D) → Bool
  | (.bool _, _) :: _ => false
  | (.str _, _) :: _ => false
  | (.int _, .str _) :: _ => false
  | _ => true
def keyD : Key → D
  | .inl i => .int i
  | .inr s => .str s
def setD (zs : List Int) : D := .dict ((.bool true, .none) :: zs.map fun z => (.int z, .none))
def dkD (ks : List Key) (ds : List D) : D := .dict ((.bool false, .none) :: ((ks.map keyD).zip ds))
def dtD (ks : List (List Key)) (ds : List D) : D := .dict ((.bool false, .bool true) :: ((ks.map fun k => .tuple (k.map keyD)).zip ds))
def insD (c : Str) (fs : List Str) (ds : List D) : D := .dict ((.str c, .none) :: ((fs.map PyData.str).zip ds))
/-- what is asked of an instance's class and its fields' names -/
def InsC (K : PySem.W.Frag) (c : Str) (C : Addr) (fs : List Str) : Prop := PySem.W.nsIn K mainGlobals c = some (some (.ref C)) ∧ Cls K C ∧ fs.Nodup ∧ ∀ f ∈ fs, NoAttr K C f
def xcD (a dx : Addr) (c : Str) (fs : List Str) (ds : List D) : D := .dict ((.int dx, .str c) :: (.int a, .none) :: ((fs.map PyData.str).zip ds))
/-- what names may own and change -/
def Mut : HO → Bool
  | .lst _ => true
  | .ext _ => true
  | .dK _ => true
  | .dT _ => true
  | .ins _ _ _ => true
  | _ => false
mutual
/-- no list within: it never changes -/
def imm : D → Bool
  | .list _ => false
  | .dict kvs => immT kvs
  | .tuple ds => immL ds
  | .none => true
  | .bool _ => true
  | .int _ => true
  | .str _ => true
def immL : List D → Bool
  | [] => true
  | d :: ds => imm d && immL ds
end

/-- the written part's list -/
def WrL (K : PySem.W.Frag) (a : Addr) (xs : List V) : Prop :=
  ∃ (o : Obj) (its : Array Value) (n : Nat), K.lookup a = some o ∧ o.cls = .type "list" ∧ o.dict = none ∧ o.data = .seq its n ∧ its.size ≤ sizeLine ∧ Vals xs its.toList

mutual
/-- v stands for d; N: the addresses of its lists, from the outside in (.dict stands for the script: a list that is never written) -/
inductive Rp (K : PySem.W.Frag) (H : Hp) : V → D → List Addr → Prop
  | non : Rp K H .non .none []
  | bl (c : Bool) : Rp K H (.bl c) (.bool c) []
  | int (i : Int) : Rp K H (.int i) (.int i) []
  | str (x : Str) : Rp K H (.str x) (.str x) []
  | lst {a : Addr} {xs : List V} {ds : List D} {N : List Addr} : H a = some (.lst xs) → Rps K H xs ds N → Rp K H (.ref a) (.list ds) (a :: N)
  | tup {a : Addr} {xs : List V} {ds : List D} {N : List Addr} : SqT K H a xs → Rps K H xs ds N → Rp K H (.ref a) (.tuple ds) N
  | scr {a : Addr} {ns : List Int} : ((∃ o, H a = some (.frz o (.lst (ns.map V.int)))) ∨ WrL K a (ns.map V.int)) → Rp K H (.ref a) (.dict (scrP ns)) []
  | jnk {v : V} : v ≠ .non → Rp K H v (.dict [(.none, .none)]) []
  | set {a : Addr} {zs : List Int} : H a = some (SetO WT.w a (fun z => decide (z ∈ zs)) zs.length) → zs.Nodup → Rp K H (.ref a) (setD zs) [a]
  | dk {a : Addr} {kvs : List (Key × V)} {ds : List D} {N : List Addr} : H a = some (.dK kvs) → (kvs.map (·.1)).Nodup → Rps K H (kvs.map (·.2)) ds N → Rp K H (.ref a) (dkD (kvs.map (·.1)) ds) (a :: N)
  | dt {a : Addr} {kvs : List (List Key × V)} {ds : List D} {N : List Addr} : H a = some (.dT kvs) → (kvs.map (·.1)).Nodup → Rps K H (kvs.map (·.2)) ds N → Rp K H (.ref a) (dtD (kvs.map (·.1)) ds) (a :: N)
  | ins {a C dx : Addr} {c : Str} {fs : List (Str × V)} {ds : List D} {N : List Addr} : InsC K c C (fs.map (·.1)) → H a = some (.ins C dx fs) → Rps K H (fs.map (·.2)) ds N → Rp K H (.ref a) (insD c (fs.map (·.1)) ds) (a :: N)
  | xc {a dx : Addr} {c : Str} {fs : List (Str × V)} {ds : List D} {N : List Addr} : H dx = some (.xd fs) → Rps K H (fs.map (·.2)) ds N → Rp K H (.ref a) (xcD a dx c (fs.map (·.1)) ds) N
inductive Rps (K : PySem.W.Frag) (H : Hp) : List V → List D → List Addr → Prop
  | nil : Rps K H [] [] []
  | cons {v : V} {vs : List V} {d : D} {ds : List D} {N M : List Addr} : Rp K H v d N → Rps K H vs ds M → Rps K H (v :: vs) (d :: ds) (N ++ M)
end

section
variable {K : PySem.W.Frag} {H H' : Hp}

theorem Same.upd_new {H : Hp} {p : Addr} {o : HO} (h : H p = none) : Same H (upd H p o) := fun b x e => by
  rw [upd_ne (ne_of_none e h)]; exact e

theorem SqT.same {a : Addr} {xs : List V} (e : Same H H') (h : SqT K H a xs) : SqT K H' a xs := by
  rcases h with (h | ⟨o, h⟩) | h
  · exact .inl (.inl (e _ _ h))
  · exact .inl (.inr ⟨o, e _ _ h⟩)
  · exact .inr h

mutual
theorem Rp.same (e : Same H H') {v : V} {d : D} {N : List Addr} : Rp K H v d N → Rp K H' v d N
  | .non => .non
  | .bl c => .bl c
  | .int i => .int i
  | .str x => .str x
  | .lst h r => .lst (e _ _ h) (Rps.same e r)
  | .tup h r => .tup (SqT.same e h) (Rps.same e r)
  | .scr h => .scr (h.imp (fun ⟨o, q⟩ => ⟨o, e _ _ q⟩) id)
  | .jnk h => .jnk h
  | .set h n => .set (e _ _ h) n
  | .dk h n r => .dk (e _ _ h) n (Rps.same e r)
  | .dt h n r => .dt (e _ _ h) n (Rps.same e r)
  | .ins i h r => .ins i (e _ _ h) (Rps.same e r)
  | .xc h r => .xc (e _ _ h) (Rps.same e r)
theorem Rps.same (e : Same H H') {vs : List V} {ds : List D} {N : List Addr} : Rps K H vs ds N → Rps K H' vs ds N
  | .nil => .nil
  | .cons r s => .cons (Rp.same e r) (Rps.same e s)
end

mutual
/-- the lists of a value are tracked -/
theorem Rp.trk {v : V} {d : D} {N : List Addr} : Rp K H v d N → ∀ a ∈ N, H a ≠ none
  | .non => fun _ h => nomatch h
  | .bl _ => fun _ h => nomatch h
  | .int _ => fun _ h => nomatch h
  | .str _ => fun _ h => nomatch h
  | .lst h r => fun a ha => by
    rcases List.mem_cons.mp ha with rfl | ha
    · rw [h]; simp
    · exact r.trk a ha
  | .tup h r => r.trk
  | .scr _ => fun _ h => nomatch h
  | .jnk _ => fun _ h => nomatch h
  | .set h _ => fun a ha => by rw [List.mem_singleton.mp ha, h]; simp
  | .dk h _ r => fun a ha => by
    rcases List.mem_cons.mp ha with rfl | ha
    · rw [h]; simp
    · exact r.trk a ha
  | .dt h _ r => fun a ha => by
    rcases List.mem_cons.mp ha with rfl | ha
    · rw [h]; simp
    · exact r.trk a ha
  | .ins _ h r => fun a ha => by
    rcases List.mem_cons.mp ha with rfl | ha
    · rw [h]; simp
    · exact r.trk a ha
  | .xc _ r => r.trk
theorem Rps.trk {vs : List V} {ds : List D} {N : List Addr} : Rps K H vs ds N → ∀ a ∈ N, H a ≠ none
  | .nil => fun _ h => nomatch h
  | .cons r s => fun a ha => (List.mem_append.mp ha).elim (r.trk a) (s.trk a)
end

theorem SqT.updG {a p : Addr} {xs : List V} {o o' : HO} (hp : H p = some o) (hm : Mut o = true) (h : SqT K H a xs) : SqT K (upd H p o') a xs := by
  rcases h with (h | ⟨o, h⟩) | h
  · exact .inl (.inl (by rw [upd_ne (ne_of h hp (by intro z; subst z; cases hm))]; exact h))
  · exact .inl (.inr ⟨o, by rw [upd_ne (ne_of h hp (by intro z; subst z; cases hm))]; exact h⟩)
  · exact .inr h
theorem SqT.upd {a p : Addr} {xs ys zs : List V} (hp : H p = some (.lst zs)) (h : SqT K H a xs) : SqT K (upd H p (.lst ys)) a xs := SqT.updG hp rfl h

mutual
/-- another thing has changed -/
theorem Rp.updG {p : Addr} {o o' : HO} (hp : H p = some o) (hm : Mut o = true) {v : V} {d : D} {N : List Addr} : Rp K H v d N → p ∉ N → Rp K (upd H p o') v d N
  | .non, _ => .non
  | .bl c, _ => .bl c
  | .int i, _ => .int i
  | .str x, _ => .str x
  | .lst h r, n => .lst (by rw [upd_ne (fun e => n (by rw [e]; exact List.mem_cons_self))]; exact h) (Rps.updG hp hm r fun z => n (List.mem_cons_of_mem _ z))
  | .tup h r, n => .tup (SqT.updG hp hm h) (Rps.updG hp hm r n)
  | .scr h, _ => .scr (h.imp (fun ⟨o, q⟩ => ⟨o, by rw [upd_ne (ne_of q hp (by intro z; subst z; cases hm))]; exact q⟩) id)
  | .jnk h, _ => .jnk h
  | .set h nd, n => .set (by rw [upd_ne (fun e => n (by rw [e]; exact List.mem_cons_self))]; exact h) nd
  | .dk h nd r, n => .dk (by rw [upd_ne (fun e => n (by rw [e]; exact List.mem_cons_self))]; exact h) nd (Rps.updG hp hm r fun z => n (List.mem_cons_of_mem _ z))
  | .dt h nd r, n => .dt (by rw [upd_ne (fun e => n (by rw [e]; exact List.mem_cons_self))]; exact h) nd (Rps.updG hp hm r fun z => n (List.mem_cons_of_mem _ z))
  | .ins i h r, n => .ins i (by rw [upd_ne (fun e => n (by rw [e]; exact List.mem_cons_self))]; exact h) (Rps.updG hp hm r fun z => n (List.mem_cons_of_mem _ z))
  | .xc h r, n => .xc (by rw [upd_ne (ne_of h hp (by intro z; subst z; cases hm))]; exact h) (Rps.updG hp hm r n)
theorem Rps.updG {p : Addr} {o o' : HO} (hp : H p = some o) (hm : Mut o = true) {vs : List V} {ds : List D} {N : List Addr} : Rps K H vs ds N → p ∉ N → Rps K (upd H p o') vs ds N
  | .nil, _ => .nil
  | .cons r s, n => .cons (Rp.updG hp hm r fun z => n (List.mem_append_left _ z)) (Rps.updG hp hm s fun z => n (List.mem_append_right _ z))
end
theorem Rp.upd {p : Addr} {ys zs : List V} (hp : H p = some (.lst zs)) {v : V} {d : D} {N : List Addr} (h : Rp K H v d N) (n : p ∉ N) : Rp K (upd H p (.lst ys)) v d N := h.updG hp rfl n
theorem Rps.upd {p : Addr} {ys zs : List V} (hp : H p = some (.lst zs)) {vs : List V} {ds : List D} {N : List Addr} (h : Rps K H vs ds N) (n : p ∉ N) : Rps K (upd H p (.lst ys)) vs ds N := h.updG hp rfl n

mutual
theorem Rp.imm {v : V} {d : D} {N : List Addr} : Rp K H v d N → imm d = true → N = []
  | .non, _ => rfl
  | .bl x, _ => rfl
  | .int x, _ => rfl
  | .str x, _ => rfl
  | .lst _ _, h => by simp [KT.imm] at h
  | .tup h r, i => Rps.imm r (by simpa [KT.imm] using i)
  | .scr _, _ => rfl
  | .jnk _, _ => rfl
  | .set _ _, h => by simp [KT.imm, setD, immT] at h
  | .dk _ _ _, h => by simp [KT.imm, dkD, immT] at h
  | .dt _ _ _, h => by simp [KT.imm, dtD, immT] at h
  | .ins _ _ _, h => by simp [KT.imm, insD, immT] at h
  | .xc _ _, h => by simp [KT.imm, xcD, immT] at h
theorem Rps.imm {vs : List V} {ds : List D} {N : List Addr} : Rps K H vs ds N → immL ds = true → N = []
  | .nil, _ => rfl
  | .cons (d := d) (ds := ds) r s, i => by
    have i' : KT.imm d = true ∧ immL ds = true := by simpa [immL] using i
    rw [Rp.imm r i'.1, Rps.imm s i'.2]
    rfl
end

theorem Rps.length : ∀ {vs : List V} {ds : List D} {N : List Addr}, Rps K H vs ds N → vs.length = ds.length
  | _, _, _, .nil => rfl
  | _, _, _, .cons _ s => by simp [Rps.length s]

/-- an item of a sequence -/
theorem Rps.get : ∀ {vs : List V} {ds : List D} {N : List Addr} {i : Nat} {d : D}, Rps K H vs ds N → ds[i]? = some d →
    ∃ v A M B, vs[i]? = some v ∧ N = A ++ M ++ B ∧ Rp K H v d M
  | _, _, _, _, _, .nil, e => by simp at e
  | _, _, _, 0, d, .cons (N := N) (M := M) r s, e => by
    simp at e; subst e
    exact ⟨_, [], N, M, rfl, by simp, r⟩
  | _, _, _, i + 1, d, .cons (N := N) (M := M) r s, e => by
    obtain ⟨v, A, M', B, h1, h2, h3⟩ := Rps.get (i := i) (d := d) s (by simpa using e)
    exact ⟨v, N ++ A, M', B, by simpa using h1, by rw [h2]; simp, h3⟩
theorem Rps.getV : ∀ {vs : List V} {ds : List D} {N : List Addr} {i : Nat} {v : V}, Rps K H vs ds N → vs[i]? = some v →
    ∃ d A M B, ds[i]? = some d ∧ N = A ++ M ++ B ∧ Rp K H v d M := fun {vs ds N i v} r e => by
  have hl := r.length
  have hi : i < ds.length := by rw [← hl]; exact (List.getElem?_eq_some_iff.mp e).1
  obtain ⟨v', A, M, B, h1, h2, h3⟩ := r.get (i := i) (d := ds[i]) (List.getElem?_eq_getElem hi)
  rw [e] at h1
  cases h1
  exact ⟨_, A, M, B, List.getElem?_eq_getElem hi, h2, h3⟩
/-- an item replaced -/
theorem Rps.set : ∀ {vs : List V} {ds : List D} {N : List Addr} {i : Nat} {v : V} {d : D} {M : List Addr}, Rps K H vs ds N → Rp K H v d M → i < ds.length →
    ∃ A O B, N = A ++ O ++ B ∧ Rps K H (vs.set i v) (ds.set i d) (A ++ M ++ B)
  | _, _, _, _, _, _, _, .nil, _, h => by simp at h
  | _, _, _, 0, v, d, M, .cons (N := N) (M := M') r s, q, _ => ⟨[], N, M', by simp, by simpa using Rps.cons q s⟩
  | _, _, _, i + 1, v, d, M, .cons (N := N) (M := M') r s, q, h => by
    obtain ⟨A, O, B, h1, h2⟩ := Rps.set (i := i) s q (by simpa using h)
    exact ⟨N ++ A, O, B, by rw [h1]; simp, by simpa [List.append_assoc] using Rps.cons r h2⟩
theorem Rps.append : ∀ {vs ws : List V} {ds es : List D} {N M : List Addr}, Rps K H vs ds N → Rps K H ws es M → Rps K H (vs ++ ws) (ds ++ es) (N ++ M)
  | _, _, _, _, _, _, .nil, s => by simpa using s
  | _, _, _, _, _, _, .cons r t, s => by simpa [List.append_assoc] using Rps.cons r (Rps.append t s)
theorem Rps.one {v : V} {d : D} {N : List Addr} (r : Rp K H v d N) : Rps K H [v] [d] N := by
  simpa using Rps.cons r .nil
theorem Rps.take : ∀ (k : Nat) {vs : List V} {ds : List D} {N : List Addr}, Rps K H vs ds N → ∃ A B, N = A ++ B ∧ Rps K H (vs.take k) (ds.take k) A ∧ Rps K H (vs.drop k) (ds.drop k) B
  | 0, _, _, N, r => ⟨[], N, rfl, by simpa using Rps.nil, by simpa using r⟩
  | k + 1, _, _, _, .nil => ⟨[], [], rfl, by simpa using Rps.nil, by simpa using Rps.nil⟩
  | k + 1, _, _, _, .cons (N := N) (M := M) r s => by
    obtain ⟨A, B, h1, h2, h3⟩ := Rps.take k s
    exact ⟨N ++ A, B, by rw [h1]; simp, by simpa using Rps.cons r h2, by simpa using h3⟩
end

/-! ### a value of an expression, a slot of a def -/
/-- own: all its lists are its own, no other name or object holds them; roots: but the names whose lists it may hold -/
structure Val where
  d : D
  own : Bool
  roots : List Nat
structure Slot where
  d : D
  own : Bool
  pin : Bool
abbrev En := List (Option Slot)
abbrev Nu := Nat → List Addr

/-- the heap H, reached from H0 (what stood there stands), holds the names' data -/
structure EnvOk (K : PySem.W.Frag) (H0 : Hp) (π : Nat → Option V) (H : Hp) (σ : L2.St) (δ : En) (ν : Nu) : Prop where
  len : δ.length = σ.length
  sm : Same H0 H
  at_ : ∀ i s, δ[i]? = some (some s) → ∃ v, σ[i]? = some (some v) ∧ Rp K H v s.d (ν i) ∧ (s.pin = true → π i = some v)
  nd : ∀ i s, δ[i]? = some (some s) → s.own = true → (ν i).Nodup ∧ ∀ a ∈ ν i, H0 a = none
  dj : ∀ i j s t, i ≠ j → δ[i]? = some (some s) → s.own = true → δ[j]? = some (some t) → ∀ a ∈ ν i, a ∉ ν j

/-- a value come by from the heap H in H' -/
structure VOk (K : PySem.W.Frag) (H : Hp) (δ : En) (ν : Nu) (H' : Hp) (v : V) (x : Val) (M : List Addr) : Prop where
  rp : Rp K H' v x.d M
  nd : x.own = true → M.Nodup
  fr : x.own = true → ∀ a ∈ M, H a = none ∨ ∃ j ∈ x.roots, ∃ s, δ[j]? = some (some s) ∧ s.own = true ∧ a ∈ ν j
  al : ∀ j s, δ[j]? = some (some s) → s.own = true → j ∉ x.roots → ∀ a ∈ ν j, a ∉ M

section
variable {K : PySem.W.Frag} {H0 H H1 H' : Hp} {π : Nat → Option V} {σ : L2.St} {δ : En} {ν : Nu} {v : V} {x : Val} {M : List Addr}

theorem EnvOk.same (e : EnvOk K H0 π H σ δ ν) (s : Same H H') : EnvOk K H0 π H' σ δ ν :=
  ⟨e.len, e.sm.trans s, fun i t h => let ⟨v, a, b, c⟩ := e.at_ i t h; ⟨v, a, b.same s, c⟩, e.nd, e.dj⟩
theorem EnvOk.trk (e : EnvOk K H0 π H σ δ ν) {j : Nat} {s : Slot} (h : δ[j]? = some (some s)) : ∀ a ∈ ν j, H a ≠ none :=
  let ⟨_, _, r, _⟩ := e.at_ j s h; r.trk

theorem VOk.same (q : VOk K H δ ν H1 v x M) (s : Same H1 H') : VOk K H δ ν H' v x M := ⟨q.rp.same s, q.nd, q.fr, q.al⟩
/-- seen from an earlier heap -/
theorem VOk.back (q : VOk K H1 δ ν H' v x M) (s : Same H H1) : VOk K H δ ν H' v x M :=
  ⟨q.rp, q.nd, fun o a ha => (q.fr o a ha).imp (fun z => s.free z) id, q.al⟩

/-- a value without lists is nobody's -/
def nv (x : Val) : Val := ⟨x.d, (match imm x.d with | true => true | false => x.own), (match imm x.d with | true => [] | false => x.roots)⟩
theorem VOk.nv (q : VOk K H δ ν H' v x M) : ∃ M', VOk K H δ ν H' v (nv x) M' := by
  unfold KT.nv
  cases h : KT.imm x.d with
  | true => exact ⟨[], q.rp.imm h ▸ q.rp, fun _ => List.nodup_nil, fun _ _ h => (nomatch h), fun _ _ _ _ _ _ _ h => (nomatch h)⟩
  | false => exact ⟨M, q⟩
/-- a value without lists, made -/
theorem VOk.imm {d : D} {N : List Addr} (r : Rp K H' v d N) (h : imm d = true) : VOk K H δ ν H' v ⟨d, true, []⟩ [] :=
  ⟨r.imm h ▸ r, fun _ => List.nodup_nil, fun _ _ h => (nomatch h), fun _ _ _ _ _ _ _ h => (nomatch h)⟩

/-- the names given up -/
def killR (δ : En) : List Nat → En
  | [] => δ
  | j :: r => (killR δ r).set j none
/-- the names whose lists are no more their own -/
def demS : Option Slot → Option Slot
  | some s => some { s with own := false }
  | none => none
def demR (δ : En) : List Nat → En
  | [] => δ
  | j :: r => match (killR δ [])[j]? with
    | some o => (demR δ r).set j (demS o)
    | none => demR δ r
theorem killR_len (δ : En) : ∀ r, (killR δ r).length = δ.length
  | [] => rfl
  | j :: r => by simp [killR, killR_len δ r]
theorem killR_some {δ : En} {i : Nat} {s : Slot} : ∀ {r : List Nat}, (killR δ r)[i]? = some (some s) → δ[i]? = some (some s) ∧ i ∉ r
  | [], h => ⟨h, by simp⟩
  | j :: r, h => by
    simp only [killR] at h
    by_cases e : j = i
    · subst e
      by_cases hl : j < (killR δ r).length
      · rw [List.getElem?_set_self hl] at h; cases h
      · rw [List.getElem?_eq_none (by simpa using hl)] at h; cases h
    · rw [List.getElem?_set_ne e] at h
      obtain ⟨h1, h2⟩ := killR_some h
      exact ⟨h1, by simp only [List.mem_cons, not_or]; exact ⟨fun z => e z.symm, h2⟩⟩
theorem demR_len (δ : En) : ∀ r, (demR δ r).length = δ.length
  | [] => rfl
  | j :: r => by
    simp only [demR]
    split
    · simp [demR_len δ r]
    · exact demR_len δ r
theorem demR_some {δ : En} {i : Nat} {s : Slot} : ∀ {r : List Nat}, (demR δ r)[i]? = some (some s) →
    ∃ t, δ[i]? = some (some t) ∧ s.d = t.d ∧ s.pin = t.pin ∧ (s.own = true → t.own = true ∧ i ∉ r)
  | [], h => ⟨s, h, rfl, rfl, fun z => ⟨z, by simp⟩⟩
  | j :: r, h => by
    simp only [demR, killR] at h
    split at h
    · rename_i o ho
      by_cases e : j = i
      · subst e
        have hl : j < (demR δ r).length := by rw [demR_len]; exact (List.getElem?_eq_some_iff.mp ho).1
        rw [List.getElem?_set_self hl] at h
        cases o with
        | none => simp [demS] at h
        | some t =>
          simp [demS] at h
          subst h
          exact ⟨t, ho, rfl, rfl, fun z => (nomatch z)⟩
      · rw [List.getElem?_set_ne e] at h
        obtain ⟨t, h1, h2, h3, h4⟩ := demR_some h
        exact ⟨t, h1, h2, h3, fun z => ⟨(h4 z).1, by simp only [List.mem_cons, not_or]; exact ⟨fun z => e z.symm, (h4 z).2⟩⟩⟩
    · rename_i ho
      obtain ⟨t, h1, h2, h3, h4⟩ := demR_some h
      refine ⟨t, h1, h2, h3, fun z => ⟨(h4 z).1, ?_⟩⟩
      simp only [List.mem_cons, not_or]
      refine ⟨fun z => ?_, (h4 z).2⟩
      subst z
      rw [h1] at ho; cases ho

/-! the same with the names' list kept written out, for computing -/
def setK : En → Nat → Option Slot → (En → Prop) → Prop
  | [], _, _, P => P []
  | _ :: r, 0, o, P => P (o :: r)
  | a :: r, i + 1, o, P => setK r i o fun r' => P (a :: r')
theorem setK_eq : ∀ (δ : En) (i : Nat) (o : Option Slot) (P : En → Prop), setK δ i o P = P (δ.set i o)
  | [], _, _, _ => rfl
  | _ :: _, 0, _, _ => rfl
  | a :: r, i + 1, o, P => by
    show setK r i o (fun r' => P (a :: r')) = _
    rw [setK_eq r i o]
    rfl
def killK : En → List Nat → (En → Prop) → Prop
  | δ, [], P => P δ
  | δ, j :: r, P => killK δ r fun δ' => setK δ' j none P
theorem killK_eq : ∀ (r : List Nat) (δ : En) (P : En → Prop), killK δ r P = P (killR δ r)
  | [], _, _ => rfl
  | j :: r, δ, P => by
    show killK δ r (fun δ' => setK δ' j none P) = _
    rw [killK_eq r δ, setK_eq]
    rfl
def demK : En → List Nat → (En → Prop) → Prop
  | δ, [], P => P δ
  | δ, j :: r, P => match δ[j]? with
    | some o => demK δ r fun δ' => setK δ' j (demS o) P
    | none => demK δ r P
theorem demK_eq : ∀ (r : List Nat) (δ : En) (P : En → Prop), demK δ r P = P (demR δ r)
  | [], _, _ => rfl
  | j :: r, δ, P => by
    show (match δ[j]? with | some o => demK δ r fun δ' => setK δ' j (demS o) P | none => demK δ r P) = P (match (killR δ [])[j]? with | some o => (demR δ r).set j (demS o) | none => demR δ r)
    simp only [killR]
    cases δ[j]? with
    | none => exact demK_eq r δ P
    | some o =>
      show demK δ r (fun δ' => setK δ' j (demS o) P) = _
      rw [demK_eq r δ, setK_eq]
theorem EnvOk.kill (e : EnvOk K H0 π H σ δ ν) (r : List Nat) : EnvOk K H0 π H σ (killR δ r) ν :=
  ⟨(killR_len δ r).trans e.len, e.sm, fun i s h => e.at_ i s (killR_some h).1, fun i s h => e.nd i s (killR_some h).1, fun i j s t n h o h' => e.dj i j s t n (killR_some h).1 o (killR_some h').1⟩
theorem EnvOk.dem (e : EnvOk K H0 π H σ δ ν) (r : List Nat) : EnvOk K H0 π H σ (demR δ r) ν := by
  refine ⟨(demR_len δ r).trans e.len, e.sm, fun i s h => ?_, fun i s h o => ?_, fun i j s t n h o h' => ?_⟩
  · obtain ⟨t, h1, h2, h3, h4⟩ := demR_some h
    obtain ⟨v, a, b, c⟩ := e.at_ i t h1
    exact ⟨v, a, h2 ▸ b, fun z => c (h3 ▸ z)⟩
  · obtain ⟨t, h1, h2, h3, h4⟩ := demR_some h
    exact e.nd i t h1 (h4 o).1
  · obtain ⟨t1, h1, h2, h3, h4⟩ := demR_some h
    obtain ⟨t2, h5, _⟩ := demR_some h'
    exact e.dj i j t1 t2 n h1 (h4 o).1 h5

/-- a value that no name's list meddles with -/
structure FOk (K : PySem.W.Frag) (H0 : Hp) (δ : En) (ν : Nu) (H' : Hp) (v : V) (d : D) (own : Bool) (M : List Addr) : Prop where
  rp : Rp K H' v d M
  nd : own = true → M.Nodup
  fr : own = true → ∀ a ∈ M, H0 a = none
  dj : own = true → ∀ a ∈ M, ∀ j s, δ[j]? = some (some s) → a ∉ ν j
  al : ∀ j s, δ[j]? = some (some s) → s.own = true → ∀ a ∈ ν j, a ∉ M

theorem VOk.killed (e : EnvOk K H0 π H σ δ ν) (q : VOk K H δ ν H' v x M) : FOk K H0 (killR δ x.roots) ν H' v x.d x.own M := by
  refine ⟨q.rp, q.nd, fun o a ha => ?_, fun o a ha j s h hj => ?_, fun j s h o a ha => ?_⟩
  · rcases q.fr o a ha with z | ⟨k, _, s, hk, ho, hm⟩
    · exact e.sm.free z
    · exact (e.nd k s hk ho).2 a hm
  · obtain ⟨h1, h2⟩ := killR_some h
    rcases q.fr o a ha with z | ⟨k, hkr, t, hk, ho, hm⟩
    · exact e.trk h1 a hj z
    · by_cases ek : k = j
      · subst ek; exact h2 hkr
      · exact e.dj k j t s ek hk ho h1 a hm hj
  · obtain ⟨h1, h2⟩ := killR_some h
    exact q.al j s h1 o h2 a ha
theorem VOk.demoted (e : EnvOk K H0 π H σ δ ν) (q : VOk K H δ ν H' v x M) : FOk K H0 (demR δ x.roots) ν H' v x.d false M := by
  refine ⟨q.rp, fun z => (nomatch z), fun z => (nomatch z), fun z => (nomatch z), fun j s h o a ha => ?_⟩
  obtain ⟨t, h1, h2, h3, h4⟩ := demR_some h
  exact q.al j t h1 (h4 o).1 (h4 o).2 a ha

/-- a name is given a value -/
theorem EnvOk.set (e : EnvOk K H0 π H σ δ ν) {d : D} {own : Bool} (q : FOk K H0 δ ν H v d own M) (i : Nat) :
    EnvOk K H0 π H (σ.set i (some v)) (δ.set i (some ⟨d, own, false⟩)) (fun j => if j = i then M else ν j) := by
  have look : ∀ j s, (δ.set i (some ⟨d, own, false⟩))[j]? = some (some s) → (j = i ∧ s = ⟨d, own, false⟩ ∧ i < δ.length) ∨ (j ≠ i ∧ δ[j]? = some (some s)) := fun j s h => by
    by_cases ej : j = i
    · subst ej
      by_cases hl : j < δ.length
      · rw [List.getElem?_set_self hl] at h
        cases h
        exact .inl ⟨rfl, rfl, hl⟩
      · rw [List.getElem?_eq_none (by simpa using hl)] at h; cases h
    · rw [List.getElem?_set_ne (Ne.symm ej)] at h
      exact .inr ⟨ej, h⟩
  refine ⟨by simpa using e.len, e.sm, fun j s h => ?_, fun j s h o => ?_, fun j k s t n h o h' a ha => ?_⟩
  · rcases look j s h with ⟨rfl, rfl, hl⟩ | ⟨n, h⟩
    · refine ⟨v, List.getElem?_set_self (by rw [← e.len]; exact hl), ?_, fun z => (nomatch z)⟩
      rw [if_pos rfl]
      exact q.rp
    · obtain ⟨w, a, b, c⟩ := e.at_ j s h
      refine ⟨w, by rw [List.getElem?_set_ne (Ne.symm n)]; exact a, ?_, c⟩
      rw [if_neg n]
      exact b
  · show (if j = i then M else ν j).Nodup ∧ ∀ a ∈ (if j = i then M else ν j), H0 a = none
    rcases look j s h with ⟨rfl, rfl, hl⟩ | ⟨n, h⟩
    · rw [if_pos rfl]
      exact ⟨q.nd o, q.fr o⟩
    · rw [if_neg n]
      exact e.nd j s h o
  · have ha : a ∈ (if j = i then M else ν j) := ha
    show a ∉ (if k = i then M else ν k)
    rcases look j s h with ⟨rfl, rfl, hl⟩ | ⟨n1, h2⟩
    · rw [if_pos rfl] at ha
      rcases look k t h' with ⟨rfl, _, _⟩ | ⟨n2, h3⟩
      · exact absurd rfl n
      · rw [if_neg n2]
        exact q.dj o a ha k t h3
    · have ha2 : a ∈ ν j := by
        rw [if_neg n1] at ha
        exact ha
      rcases look k t h' with ⟨rfl, _, _⟩ | ⟨n2, h3⟩
      · rw [if_pos rfl]
        exact q.al j s h2 o a ha2
      · rw [if_neg n2]
        exact e.dj j k s t n h2 o h3 a ha2
end
end KT
/-! KtB: an expression as a predicate over plain data (DE), its judgement EV, the rules. -/
namespace KT
open PySem PySem.Spec PyProof.Rows L2
variable [WT]

/-- at which shut heaps and pins a judgement holds -/
abbrev GT := Hp → (Nat → Option V) → Prop
def GAll : GT := fun _ _ => True
/-- heaps that go on from the entry -/
def GSame (H : Hp) : GT := fun H2 _ => Same H H2
/-- goes on to later shut heaps -/
class GUp (G : GT) : Prop where
  up : ∀ {H0 H2 : Hp} {π π2 : Nat → Option V}, G H0 π → Same H0 H2 → G H2 π2
instance : GUp GAll := ⟨fun _ _ => True.intro⟩
instance {H : Hp} : GUp (GSame H) := ⟨fun h s => Same.trans h s⟩

abbrev DE := En → (Val → Prop) → Prop
abbrev DA := En → (List Val → Prop) → Prop

def semE (K : PySem.W.Frag) (H0 : Hp) (π : Nat → Option V) (f : DE) : TE := fun σ H Q =>
  ∃ δ ν, EnvOk K H0 π H σ δ ν ∧ f δ fun x => ∀ v H' M, Same H H' → VOk K H δ ν H' v x M → Q v H'

structure EV (G : GT) (X : Cx) (e : Expr) (f : DE) : Prop where
  mono : ∀ δ (P P' : Val → Prop), (∀ x, P x → P' x) → f δ P → f δ P'
  pe : ∀ H0 π, G H0 π → PE X e (semE X.K H0 π f)

theorem pei {X : Cx} {e : Expr} {t t' : TE} (h : PE X e t) (i : ∀ σ H Q, t' σ H Q → t σ H Q) : PE X e t' :=
  ⟨fun pins s σ H Q I q => h.run pins s σ H Q I (i σ H Q q)⟩
theorem pti {X : Cx} {e : Expr} {t t' : TT} (h : PT X e t) (i : ∀ σ H Q, t' σ H Q → t σ H Q) : PT X e t' :=
  ⟨fun pins s σ H Q I q => h.run pins s σ H Q I (i σ H Q q)⟩
theorem pai {X : Cx} {e : List Expr} {t t' : TA} (h : PA X e t) (i : ∀ σ H Q, t' σ H Q → t σ H Q) : PA X e t' :=
  ⟨fun pos pins s σ H Q I q => h.run pos pins s σ H Q I (i σ H Q q)⟩

/-- lists of values, come by one after another -/
inductive VsOk (K : PySem.W.Frag) : Hp → En → Nu → Hp → List V → List Val → List (List Addr) → Prop
  | nil {H δ ν H'} : VsOk K H δ ν H' [] [] []
  | cons {H δ ν H' v x M vs xs Ms} : VOk K H δ ν H' v x M → VsOk K H δ ν H' vs xs Ms →
      (∀ (i : Nat) (y : Val) (My : List Addr), xs[i]? = some y → Ms[i]? = some My → y.own = true → (∀ k ∈ y.roots, k ∉ x.roots) → ∀ a ∈ My, a ∉ M) → VsOk K H δ ν H' (v :: vs) (x :: xs) (M :: Ms)
section
variable {K : PySem.W.Frag} {H0 H H1 H' : Hp} {π : Nat → Option V} {σ : L2.St} {δ : En} {ν : Nu}
theorem VsOk.same : ∀ {vs : List V} {xs : List Val} {Ms : List (List Addr)}, VsOk K H δ ν H1 vs xs Ms → Same H1 H' → VsOk K H δ ν H' vs xs Ms
  | _, _, _, .nil, _ => .nil
  | _, _, _, .cons q r c, s => .cons (q.same s) (r.same s) c
theorem VsOk.back : ∀ {vs : List V} {xs : List Val} {Ms : List (List Addr)}, VsOk K H1 δ ν H' vs xs Ms → Same H H1 → VsOk K H δ ν H' vs xs Ms
  | _, _, _, .nil, _ => .nil
  | _, _, _, .cons q r c, s => .cons (q.back s) (r.back s) c
theorem VsOk.get : ∀ {vs : List V} {xs : List Val} {Ms : List (List Addr)} {i : Nat} {x : Val} {M : List Addr}, VsOk K H δ ν H' vs xs Ms → xs[i]? = some x → Ms[i]? = some M → ∃ v, VOk K H δ ν H' v x M
  | _, _, _, _, _, _, .nil, e, _ => by simp at e
  | _, _, _, 0, x, M, .cons q r c, e, f => by simp at e f; subst e f; exact ⟨_, q⟩
  | _, _, _, i + 1, x, M, .cons q r c, e, f => VsOk.get (i := i) r (by simpa using e) (by simpa using f)
theorem VsOk.rps : ∀ {vs : List V} {xs : List Val} {Ms : List (List Addr)}, VsOk K H δ ν H' vs xs Ms → Rps K H' vs (xs.map Val.d) Ms.flatten
  | _, _, _, .nil => .nil
  | _, _, _, .cons q r _ => by simpa using Rps.cons q.rp r.rps
theorem VsOk.length : ∀ {vs : List V} {xs : List Val} {Ms : List (List Addr)}, VsOk K H δ ν H' vs xs Ms → vs.length = xs.length
  | _, _, _, .nil => rfl
  | _, _, _, .cons _ r _ => by simp [r.length]
theorem VsOk.lenM : ∀ {vs : List V} {xs : List Val} {Ms : List (List Addr)}, VsOk K H δ ν H' vs xs Ms → Ms.length = xs.length
  | _, _, _, .nil => rfl
  | _, _, _, .cons _ r _ => by simp [r.lenM]
/-- which names' lists a value may hold -/
theorem VsOk.al : ∀ {vs : List V} {xs : List Val} {Ms : List (List Addr)}, VsOk K H δ ν H' vs xs Ms → ∀ j s, δ[j]? = some (some s) → s.own = true → j ∉ xs.flatMap Val.roots → ∀ a ∈ ν j, a ∉ Ms.flatten
  | _, _, _, .nil => fun _ _ _ _ _ _ _ h => by simp at h
  | _, _, _, .cons q r _ => fun j s h o n a ha hm => by
    simp only [List.flatMap_cons, List.mem_append, not_or] at n
    simp only [List.flatten_cons, List.mem_append] at hm
    exact hm.elim (q.al j s h o n.1 a ha) (r.al j s h o n.2 a ha)
theorem VsOk.fr : ∀ {vs : List V} {xs : List Val} {Ms : List (List Addr)}, VsOk K H δ ν H' vs xs Ms → xs.all Val.own = true → ∀ a ∈ Ms.flatten, H a = none ∨ ∃ j ∈ xs.flatMap Val.roots, ∃ s, δ[j]? = some (some s) ∧ s.own = true ∧ a ∈ ν j
  | _, _, _, .nil, _ => fun _ h => by simp at h
  | _, _, _, .cons (x := x) (xs := xs) q r _, h => fun a ha => by
    have h' : x.own = true ∧ xs.all Val.own = true := by rw [List.all_cons, Bool.and_eq_true] at h; exact h
    simp only [List.flatten_cons, List.mem_append] at ha
    rcases ha with ha | ha
    · rcases q.fr h'.1 a ha with z | ⟨j, hj, z⟩
      · exact .inl z
      · exact .inr ⟨j, by simp [hj], z⟩
    · rcases r.fr h'.2 a ha with z | ⟨j, hj, z⟩
      · exact .inl z
      · exact .inr ⟨j, by
          simp only [List.flatMap_cons, List.mem_append]
          exact .inr hj, z⟩
theorem mem_flat_get {α : Type} : ∀ {Ms : List (List α)} {a : α}, a ∈ Ms.flatten → ∃ (i : Nat) (M : List α), Ms[i]? = some M ∧ a ∈ M
  | [], _, h => by simp at h
  | M :: Ms, a, h => by
    simp only [List.flatten_cons, List.mem_append] at h
    rcases h with h | h
    · exact ⟨0, M, rfl, h⟩
    · obtain ⟨i, M', e, q⟩ := mem_flat_get h
      exact ⟨i + 1, M', by simpa using e, q⟩
theorem VsOk.nd : ∀ {vs : List V} {xs : List Val} {Ms : List (List Addr)}, VsOk K H δ ν H' vs xs Ms → xs.all Val.own = true → (xs.flatMap Val.roots).Nodup → Ms.flatten.Nodup
  | _, _, _, .nil, _, _ => by simp
  | _, _, _, .cons (x := x) (xs := xs) (Ms := Ms) q r c, h, n => by
    have h' : x.own = true ∧ xs.all Val.own = true := by rw [List.all_cons, Bool.and_eq_true] at h; exact h
    rw [List.flatMap_cons, List.nodup_append] at n
    rw [List.flatten_cons, List.nodup_append]
    refine ⟨q.nd h'.1, r.nd h'.2 n.2.1, fun a ha b hb e => ?_⟩
    subst e
    obtain ⟨i, My, e1, e2⟩ := mem_flat_get hb
    have hi : i < xs.length := by rw [← r.lenM]; exact (List.getElem?_eq_some_iff.mp e1).1
    have hy : xs[i]? = some xs[i] := List.getElem?_eq_getElem hi
    have ho : (xs[i]).own = true := List.all_eq_true.mp h'.2 _ (List.getElem_mem hi)
    exact c i xs[i] My hy e1 ho (fun k hk hk' => n.2.2 k hk' k (List.mem_flatMap.mpr ⟨xs[i], List.getElem_mem hi, hk⟩) rfl) a e2 ha
end

def semA (K : PySem.W.Frag) (H0 : Hp) (π : Nat → Option V) (f : DA) : TA := fun σ H Q =>
  ∃ δ ν, EnvOk K H0 π H σ δ ν ∧ f δ fun xs => ∀ vs H' Ms, Same H H' → VsOk K H δ ν H' vs xs Ms → Q vs H'
structure EA (G : GT) (X : Cx) (es : List Expr) (f : DA) : Prop where
  mono : ∀ δ (P P' : List Val → Prop), (∀ x, P x → P' x) → f δ P → f δ P'
  pa : ∀ H0 π, G H0 π → PA X es (semA X.K H0 π f)

section
variable {X : Cx} {a b e : Expr} {es : List Expr} {fa fb f : DE} {g : DA} {pos : Pos}

/-! ### argument lists -/
def aNil : DA := fun _ P => P []
def aCons (f : DE) (g : DA) : DA := fun δ P => f δ fun x => g δ fun xs => P (x :: xs)
theorem ea_nil : EA G X [] aNil :=
  ⟨fun _ _ _ h q => h _ q, fun H0 π hG => pai pa_nil fun σ H Q ⟨δ, ν, _, q⟩ => q [] H [] (Same.refl H) .nil⟩
theorem ea_cons (ha : EV G X e f) (hr : EA G X es g) (hs : starEach (e :: es) X.env = (false, eval e X.env) :: starEach es X.env := by rfl) : EA G X (e :: es) (aCons f g) := by
  refine ⟨fun δ P P' h q => ha.mono _ _ _ (fun x q => hr.mono _ _ _ (fun xs q => h _ q) q) q, fun H0 π hG => pai (pa_cons (ha.pe H0 π hG) (hr.pa H0 π hG) hs) fun σ H Q ⟨δ, ν, E, q⟩ => ?_⟩
  refine ⟨δ, ν, E, ha.mono _ _ _ (fun x q v H1 M s1 o1 => ?_) q⟩
  refine ⟨δ, ν, E.same s1, hr.mono _ _ _ (fun xs q vs H2 Ms s2 o2 => ?_) q⟩
  refine q (v :: vs) H2 (M :: Ms) (s1.trans s2) (.cons (o1.same s2) (o2.back s1) fun i y My hy hM ho hr a ha hm => ?_)
  obtain ⟨_, oy⟩ := o2.get hy hM
  rcases oy.fr ho a ha with z | ⟨k, hk, t, ht, hto, hka⟩
  · exact o1.rp.trk a hm z
  · exact o1.al k t ht hto (hr k hk) a hka hm

/-! ### names, constants -/
def dVar (i : Nat) : DE := fun δ P => match δ[i]? with
  | some (some s) => P (nv ⟨s.d, s.own, [i]⟩)
  | _ => False
def dC (d : D) : DE := fun _ P => P ⟨d, true, []⟩
theorem slot_vok {K : PySem.W.Frag} {H0 H : Hp} {π : Nat → Option V} {σ : L2.St} {δ : En} {ν : Nu} (E : EnvOk K H0 π H σ δ ν) {i : Nat} {s : Slot} (h : δ[i]? = some (some s)) :
    ∃ v, σ[i]? = some (some v) ∧ VOk K H δ ν H v ⟨s.d, s.own, [i]⟩ (ν i) := by
  obtain ⟨v, hv, r, _⟩ := E.at_ i s h
  refine ⟨v, hv, r, fun o => (E.nd i s h o).1, fun o a ha => .inr ⟨i, by simp, s, h, o, ha⟩, fun j t hj ho hn a ha => ?_⟩
  have n : j ≠ i := fun e => hn (by simp [e])
  exact E.dj j i t s n hj ho h a ha
theorem ev_var (i : Nat) {x : Str} {pos : Pos} (hN : X.N[i]? = some x := by rfl) (hv : Vis X.env.scope x := by first | exact Or.inl rfl | exact Or.inr (Or.inl rfl) | exact Or.inr (Or.inr rfl)) (hd : (x == ("__debug__" : Str)) = false := by decide)
    (hcd : (x == ("__classdict__" : Str)) = false := by decide) : EV G X (.Name x pos) (dVar i) := by
  refine ⟨fun δ P P' h q => ?_, fun H0 π hG => pei (pe_var hN hv hd hcd) fun σ H Q ⟨δ, ν, E, q⟩ => ?_⟩
  · unfold dVar at *
    split at q
    · exact h _ q
    · exact q.elim
  · unfold dVar at q
    split at q
    · rename_i s hs
      obtain ⟨v, hv, o⟩ := slot_vok E hs
      obtain ⟨M', o'⟩ := o.nv
      exact ⟨v, hv, q v H M' (Same.refl H) o'⟩
    · exact q.elim
theorem ev_c {e : Expr} {v : V} {d : D} (hp : PE X e (tC v)) (r : ∀ K H, Rp K H v d []) : EV G X e (dC d) :=
  ⟨fun _ _ _ h q => h _ q, fun H0 π hG => pei hp fun σ H Q ⟨δ, ν, _, q⟩ => q v H [] (Same.refl H) ⟨r _ _, fun _ => List.nodup_nil, fun _ _ h => (nomatch h), fun _ _ _ _ _ _ _ h => (nomatch h)⟩⟩
theorem ev_int {i j pos} : EV G X (.Constant (.int i) j pos) (dC (.int i)) := ev_c pe_int fun _ _ => .int _
theorem ev_bl {b j pos} : EV G X (.Constant (.bool b) j pos) (dC (.bool b)) := ev_c pe_bl fun _ _ => .bl _
theorem ev_non {j pos} : EV G X (.Constant .none j pos) (dC .none) := ev_c pe_non fun _ _ => .non
theorem ev_str {x j pos} : EV G X (.Constant (.str x) j pos) (dC (.str x)) := ev_c pe_str fun _ _ => .str _

/-! ### operations that give something new -/
/-- a fresh value behind H -/
def FR (K : PySem.W.Frag) (H : Hp) (Q : D → Prop) : VK := fun v H' => ∃ d M, Same H H' ∧ Rp K H' v d M ∧ M.Nodup ∧ (∀ a ∈ M, H a = none) ∧ Q d
theorem FR.imm {K : PySem.W.Frag} {H : Hp} {Q : D → Prop} {v : V} {d : D} {N : List Addr} (r : Rp K H v d N) (i : imm d = true) (q : Q d) : FR K H Q v H :=
  ⟨d, [], Same.refl H, r.imm i ▸ r, List.nodup_nil, fun _ h => (nomatch h), q⟩
theorem FR.vok {K : PySem.W.Frag} {H0 H H1 H' : Hp} {δ : En} {ν : Nu} {v : V} {d : D} {M : List Addr} (s : Same H H1) (r : Rp K H' v d M) (n : M.Nodup) (f : ∀ a ∈ M, H1 a = none)
    {π : Nat → Option V} {σ : L2.St} (E : EnvOk K H0 π H σ δ ν) : VOk K H δ ν H' v ⟨d, true, []⟩ M :=
  ⟨r, fun _ => n, fun _ a ha => .inl (s.free (f a ha)), fun j t h _ _ a ha hm => E.trk h a ha (s.free (f a hm))⟩
abbrev K2 := D → D → (D → Prop) → Prop
/-- k tells what the operation r makes of two data -/
structure R2Ok (X : Cx) (r : R2) (k : K2) : Prop where
  mono : ∀ d e (Q Q' : D → Prop), (∀ x, Q x → Q' x) → k d e Q → k d e Q'
  ok : ∀ (H : Hp) (x y : V) (d e : D) (N M : List Addr) (Q : D → Prop) (R : VK), Rp X.K H x d N → Rp X.K H y e M → k d e Q → (∀ v H', FR X.K H Q v H' → R v H') → r x y H R
def dBin (k : K2) (fa fb : DE) : DE := fun δ P => fa δ fun x => fb δ fun y => k x.d y.d fun d => P ⟨d, true, []⟩
theorem ev_bin2 {e : Expr} {r : R2} {k : K2} (hk : R2Ok X r k) (ha : EV G X a fa) (hb : EV G X b fb) (hp : ∀ {ta tb : TE}, PE X a ta → PE X b tb → PE X e (tOp r ta tb)) : EV G X e (dBin k fa fb) := by
  refine ⟨fun δ P P' h q => ha.mono _ _ _ (fun x q => hb.mono _ _ _ (fun y q => hk.mono _ _ _ _ (fun d q => h _ q) q) q) q, fun H0 π hG => pei (hp (ha.pe H0 π hG) (hb.pe H0 π hG)) fun σ H Q ⟨δ, ν, E, q⟩ => ?_⟩
  refine ⟨δ, ν, E, ha.mono _ _ _ (fun x q v H1 M s1 o1 => ?_) q⟩
  refine ⟨δ, ν, E.same s1, hb.mono _ _ _ (fun y q w H2 N s2 o2 => ?_) q⟩
  refine hk.ok H2 v w x.d y.d M N _ _ (o1.rp.same s2) o2.rp q fun u H3 ⟨d, M', s3, r3, n3, f3, q3⟩ => ?_
  exact q3 u H3 M' ((s1.trans s2).trans s3) (FR.vok (s1.trans s2) r3 n3 f3 E)
theorem ev_op {op : Operator} {r : R2} {k : K2} (ho : OpR X (binaryOp op) r) (hk : R2Ok X r k) (ha : EV G X a fa) (hb : EV G X b fb) : EV G X (.BinOp a op b pos) (dBin k fa fb) :=
  ev_bin2 hk ha hb fun h1 h2 => pe_op ho h1 h2
theorem ev_cmp {op : CmpOp} {r : R2} {k : K2} (ho : OpR X (compareOp op) r) (hk : R2Ok X r k) (ha : EV G X a fa) (hb : EV G X b fb) (hm : behindInMarks op b = false) : EV G X (.Compare a [op] [b] pos) (dBin k fa fb) :=
  ev_bin2 hk ha hb fun h1 h2 => pe_cmpR ho h1 h2 hm
theorem ev_ix2 {r : R2} {k : K2} (hr : IxR X r) (hk : R2Ok X r k) (ha : EV G X a fa) (hb : EV G X b fb) (hs : PlainIx b) : EV G X (.Subscript a b pos) (dBin k fa fb) :=
  ev_bin2 hk ha hb fun h1 h2 => pe_ix hr h1 h2 hs
/-- one-place -/
abbrev K1 := D → (D → Prop) → Prop
def dUn (k : K1) (fa : DE) : DE := fun δ P => fa δ fun x => k x.d fun d => P ⟨d, true, []⟩
structure R1Ok (X : Cx) (r : V → Hp → VK → Prop) (k : K1) : Prop where
  mono : ∀ d (Q Q' : D → Prop), (∀ x, Q x → Q' x) → k d Q → k d Q'
  ok : ∀ (H : Hp) (x : V) (d : D) (N : List Addr) (Q : D → Prop) (R : VK), Rp X.K H x d N → k d Q → (∀ v H', FR X.K H Q v H' → R v H') → r x H R
theorem ev_un {op : UnaryOp} {r : V → Hp → VK → Prop} {k : K1} (ho : UnR X (unaryOp op) r) (hk : R1Ok X r k) (ha : EV G X a fa) : EV G X (.UnaryOp op a pos) (dUn k fa) := by
  refine ⟨fun δ P P' h q => ha.mono _ _ _ (fun x q => hk.mono _ _ _ (fun d q => h _ q) q) q, fun H0 π hG => pei (pe_un ho (ha.pe H0 π hG)) fun σ H Q ⟨δ, ν, E, q⟩ => ?_⟩
  refine ⟨δ, ν, E, ha.mono _ _ _ (fun x q v H1 M s1 o1 => ?_) q⟩
  refine hk.ok H1 v x.d M _ _ o1.rp q fun u H3 ⟨d, M', s3, r3, n3, f3, q3⟩ => ?_
  exact q3 u H3 M' (s1.trans s3) (FR.vok s1 r3 n3 f3 E)
/-- a call of a built-in -/
abbrev KL := List D → (D → Prop) → Prop
structure RLOk (X : Cx) (r : List V → Hp → VK → Prop) (k : KL) : Prop where
  mono : ∀ ds (Q Q' : D → Prop), (∀ x, Q x → Q' x) → k ds Q → k ds Q'
  ok : ∀ (H : Hp) (xs : List V) (ds : List D) (N : List Addr) (Q : D → Prop) (R : VK), Rps X.K H xs ds N → k ds Q → (∀ v H', FR X.K H Q v H' → R v H') → r xs H R
def dCall (k : KL) (g : DA) : DE := fun δ P => g δ fun xs => k (xs.map Val.d) fun d => P ⟨d, true, []⟩
theorem ev_callG {e' : Expr} {r : List V → Hp → VK → Prop} {k : KL} (hk : RLOk X r k) (ha : EA G X es g) (hp : ∀ {t : TA}, PA X es t → PE X e' (fun σ H Q => t σ H fun xs H1 => r xs H1 Q)) : EV G X e' (dCall k g) := by
  refine ⟨fun δ P P' h q => ha.mono _ _ _ (fun x q => hk.mono _ _ _ (fun d q => h _ q) q) q, fun H0 π hG => pei (hp (ha.pa H0 π hG)) fun σ H Q ⟨δ, ν, E, q⟩ => ?_⟩
  refine ⟨δ, ν, E, ha.mono _ _ _ (fun xs q vs H1 Ms s1 o1 => ?_) q⟩
  refine hk.ok H1 vs _ _ _ _ o1.rps q fun u H3 ⟨d, M', s3, r3, n3, f3, q3⟩ => ?_
  exact q3 u H3 M' (s1.trans s3) (FR.vok s1 r3 n3 f3 E)
theorem ev_callB {id : String} {x : Str} {p : Pos} {r : List V → Hp → VK → Prop} {k : KL} (hc : CallR X (.builtin id) r) (hk : RLOk X r k) (hg : Gl X x) (hm : X.mg x = none) (hv : bootBuiltins x = some (.builtin id)) (ha : EA G X (e :: es) g)
    (hn : x ≠ "__name__" := by decide) (hdb : (x == ("__debug__" : Str)) = false := by decide)
    (he : starEach (e :: es) X.env = (false, eval e X.env) :: starEach es X.env := by rfl) (hpl : (backTo pos (starEach es X.env)).any (·.1) = false := by rfl) : EV G X (.Call (.Name x p) (e :: es) [] pos) (dCall k g) :=
  ev_callG hk ha fun h => pe_callB hc hg hm hv h hn hdb he hpl
theorem ev_callTy {T : String} {x : Str} {p : Pos} {r : List V → Hp → VK → Prop} {k : KL} (hc : CallR X (.type T) r) (hk : RLOk X r k) (hg : Gl X x) (hm : X.mg x = none) (hv : bootBuiltins x = some (.type T)) (ha : EA G X (e :: es) g)
    (hn : x ≠ "__name__" := by decide) (hdb : (x == ("__debug__" : Str)) = false := by decide)
    (he : starEach (e :: es) X.env = (false, eval e X.env) :: starEach es X.env := by rfl) (hpl : (backTo pos (starEach es X.env)).any (·.1) = false := by rfl) : EV G X (.Call (.Name x p) (e :: es) [] pos) (dCall k g) :=
  ev_callG hk ha fun h => pe_callTy hc hg hm hv h hn hdb he hpl

/-! ### a call of a def -/
abbrev W := List D → (D → Prop) → Prop
/-- a def's promise from its predicate over data; n: how many parameters -/
def spOf (K : PySem.W.Frag) (n : Nat) (w : W) : Sp := fun vs H Q _ => vs.length = n ∧ ∃ ds N, Rps K H vs ds N ∧ ∃ Qd, w ds Qd ∧ ∀ d, Qd d → ∀ v H' M, Same H H' → Rp K H' v d M → M.Nodup → (∀ a ∈ M, H a = none) → Q v H'
/-- what a call of such a def makes of its arguments -/
def wCall (n : Nat) (w : W) : KL := fun ds Q => ds.length = n ∧ ∃ Qd, w ds Qd ∧ ∀ d, Qd d → Q d
theorem rl_def {w : W} {n : Nat} {E : XK} : RLOk X (fun vs H Q => spOf X.K n w vs H Q E) (wCall n w) := by
  refine ⟨fun ds Q Q' h ⟨q1, Qd, q2, q3⟩ => ⟨q1, Qd, q2, fun d z => h _ (q3 d z)⟩, fun H xs ds N Q R r ⟨q1, Qd, q2, q3⟩ h => ?_⟩
  exact ⟨by rw [r.length]; exact q1, ds, N, r, Qd, q2, fun d z v H' M s r n f => h v H' ⟨d, M, s, r, n, f, q3 d z⟩⟩
/-- a def of the text that keeps such a promise, by its name -/
structure Cal (P : Program) (w : World) (K : PySem.W.Frag) (mg : Str → Option Value) (base : Heap) (x : Str) (k n : Nat) (wf : W) : Prop where
  ex : ∃ (f : Addr) (fd : FuncData) (ps : List Str), FnOk P w K mg base CX0 k f fd ps (spOf K n wf) ∧ mg x = some (.ref f) ∧ PySem.W.keepIn K (.ref f) = true ∧ Binds K fd ps []
theorem ev_callC {j k n : Nat} {wf : W} {x : Str} {p : Pos} (c : Cal X.prog X.w X.K X.mg X.base x k n wf) (hg : Gl X x) (hr : Room j X.A) (ha : EA G X (e :: es) g) (hk : k ≤ j := by decide)
    (hdb : (x == ("__debug__" : Str)) = false := by decide) (he : starEach (e :: es) X.env = (false, eval e X.env) :: starEach es X.env := by rfl) (hpl : (backTo pos (starEach es X.env)).any (·.1) = false := by rfl) :
    EV G X (.Call (.Name x p) (e :: es) [] pos) (dCall (wCall n wf) g) :=
  ev_callG (rl_def (X := X) (E := L2.E0)) ha fun {t} h => by
    obtain ⟨f, fd, ps, F, hm, kp, hb⟩ := c.ex
    have q := pe_call (p := p) (pos := pos) F (hr.mono hk) hg hm kp hb .nil L2.pass0 h hdb he hpl
    have e : tCall (spOf X.K n wf) [] L2.E0 t = fun σ H Q => t σ H fun xs H1 => spOf X.K n wf xs H1 Q L2.E0 := by
      funext σ H Q
      unfold tCall
      simp only [List.append_nil]
    rw [e] at q
    exact q
end
end KT
/-! KtC: the operations. -/
namespace KT
open PySem PySem.Spec PyProof.Rows L2
variable [WT]

/-! ### what stands for what -/
section
variable {K : PySem.W.Frag} {H : Hp} {v : V} {N : List Addr}
theorem Rp.int_ {i : Int} (r : Rp K H v (.int i) N) : v = .int i := by cases r; rfl
theorem Rp.bool_ {b : Bool} (r : Rp K H v (.bool b) N) : v = .bl b := by cases r; rfl
theorem Rp.none_ (r : Rp K H v .none N) : v = .non := by cases r; rfl
theorem Rp.str_ {x : Str} (r : Rp K H v (.str x) N) : v = .str x := by cases r; rfl
theorem Rp.list_ {ds : List D} (r : Rp K H v (.list ds) N) : ∃ a xs M, v = .ref a ∧ N = a :: M ∧ H a = some (.lst xs) ∧ Rps K H xs ds M := by
  cases r with
  | lst h r => exact ⟨_, _, _, rfl, rfl, h, r⟩
theorem Rp.tuple_ {ds : List D} (r : Rp K H v (.tuple ds) N) : ∃ a xs, v = .ref a ∧ SqT K H a xs ∧ Rps K H xs ds N := by
  cases r with
  | tup h r => exact ⟨_, _, rfl, h, r⟩
theorem Rps.ints : ∀ {xs : List V} {ns : List Int} {N : List Addr}, Rps K H xs (ns.map PyData.int) N → xs = ns.map V.int
  | _, [], _, .nil => rfl
  | _, n :: ns, _, .cons r s => by rw [r.int_, s.ints]; rfl
theorem Rps.strs : ∀ {xs : List V} {ns : List Str} {N : List Addr}, Rps K H xs (ns.map PyData.str) N → xs = ns.map V.str
  | _, [], _, .nil => rfl
  | _, n :: ns, _, .cons r s => by rw [r.str_, s.strs]; rfl
theorem rps_ints (K : PySem.W.Frag) (H : Hp) : ∀ ns : List Int, Rps K H (ns.map V.int) (ns.map PyData.int) []
  | [] => .nil
  | n :: ns => by simpa using Rps.cons (.int n) (rps_ints K H ns)
theorem imm_ints : ∀ ns : List Int, immL (ns.map PyData.int) = true
  | [] => rfl
  | n :: ns => by simp [immL, KT.imm, imm_ints ns]
theorem FR.newL {Q : D → Prop} {p : Addr} {xs : List V} {ds : List D} (hp : H p = none) (r : Rps K H xs ds N) (i : immL ds = true) (q : Q (.list ds)) : FR K H Q (.ref p) (upd H p (.lst xs)) := by
  have e := r.imm i
  subst e
  exact ⟨.list ds, [p], Same.upd_new hp, .lst upd_same (r.same (Same.upd_new hp)), by simp, fun a ha => by rw [List.mem_singleton.mp ha]; exact hp, q⟩
theorem FR.newT {Q : D → Prop} {p : Addr} {xs : List V} {ds : List D} (hp : H p = none) (r : Rps K H xs ds N) (i : immL ds = true) (q : Q (.tuple ds)) : FR K H Q (.ref p) (upd H p (.tup xs)) := by
  have e := r.imm i
  subst e
  exact ⟨.tuple ds, [], Same.upd_new hp, .tup (.inl (.inl upd_same)) (r.same (Same.upd_new hp)), by simp, fun a ha => (nomatch ha), q⟩
theorem immL_of {ds : List D} : immL ds = true ↔ ∀ d ∈ ds, imm d = true := by
  induction ds with
  | nil => simp [immL]
  | cons d ds ih => simp [immL, ih]
theorem immL_append (xs ys : List D) : immL (xs ++ ys) = (immL xs && immL ys) := by
  induction xs with
  | nil => simp [immL]
  | cons x xs ih => simp [immL, ih, Bool.and_assoc]
end

section
variable {X : Cx}
theorem OpR.or {f : Value → Value → Sem Value} {r r' : R2} (h : OpR X f r) (h' : OpR X f r') : OpR X f (fun x y H Q => r x y H Q ∨ r' x y H Q) := by
  intro pins s σ H x y v u Q I rx ry q
  rcases q with q | q
  · exact h pins s σ H x y v u Q I rx ry q
  · exact h' pins s σ H x y v u Q I rx ry q

/-! ### + - * // % ** -/
def kAdd : K2 := fun d e Q => match d, e with
  | .int i, .int j => Q (.int (i + j))
  | .str x, .str y => x.length + y.length ≤ sizeLine ∧ Q (.str (x ++ y))
  | .list xs, .list ys => (immL xs = true ∧ immL ys = true ∧ xs.length + ys.length ≤ sizeLine) ∧ Q (.list (xs ++ ys))
  | .tuple xs, .tuple ys => (immL xs = true ∧ immL ys = true ∧ xs ≠ [] ∧ xs.length + ys.length ≤ sizeLine) ∧ Q (.tuple (xs ++ ys))
  | _, _ => False
def rAddG (K : PySem.W.Frag) : R2 := fun x y H Q => (rI0 fun i j => .int (i + j)) x y H Q ∨ ((∃ i j, x = .str i ∧ y = .str j ∧ i.length + j.length ≤ sizeLine ∧ Q (.str (i ++ j)) H) ∨ (rCat x y H Q ∨ rCatT K x y H Q))
theorem op_addG : OpR X (binaryOp .Add) (rAddG X.K) := op_add.or (op_add_str.or (op_cat.or op_catT))
theorem ok_add : R2Ok X (rAddG X.K) kAdd := by
  refine ⟨fun d e Q Q' h q => ?_, fun H x y d e N M Q R r1 r2 q h => ?_⟩
  · unfold kAdd at *
    split at q
    · exact h _ q
    · exact ⟨q.1, h _ q.2⟩
    · exact ⟨q.1, h _ q.2⟩
    · exact ⟨q.1, h _ q.2⟩
    · exact q.elim
  · unfold kAdd at q
    split at q
    · exact .inl ⟨_, _, r1.int_, r2.int_, h _ _ (FR.imm (.int _) rfl q)⟩
    · exact .inr (.inl ⟨_, _, r1.str_, r2.str_, q.1, h _ _ (FR.imm (.str _) rfl q.2)⟩)
    · obtain ⟨⟨i1, i2, hz⟩, q⟩ := q
      obtain ⟨a, xs, A, rfl, rfl, ha, s1⟩ := r1.list_
      obtain ⟨b, ys, B, rfl, rfl, hb, s2⟩ := r2.list_
      refine .inr (.inr (.inl ⟨a, b, xs, ys, rfl, rfl, ha, hb, by rw [s1.length, s2.length]; exact hz, fun p hp => h _ _ (FR.newL hp (s1.append s2) ?_ q)⟩))
      rw [immL_append, i1, i2]; rfl
    · obtain ⟨⟨i1, i2, ne, hz⟩, q⟩ := q
      obtain ⟨a, xs, rfl, ha, s1⟩ := r1.tuple_
      obtain ⟨b, ys, rfl, hb, s2⟩ := r2.tuple_
      refine .inr (.inr (.inr ⟨a, b, xs, ys, rfl, rfl, ha, hb, fun e => ne ?_, by rw [s1.length, s2.length]; exact hz, fun e => ?_, fun _ p hp => h _ _ (FR.newT hp (s1.append s2) ?_ q)⟩))
      · have := s1.length
        rw [e] at this
        exact List.length_eq_zero_iff.mp this.symm
      · subst e
        cases s2
        rw [List.append_nil] at q
        have ei := s1.imm i1
        subst ei
        exact h _ _ ⟨_, [], Same.refl H, .tup ha s1, List.nodup_nil, fun _ z => (nomatch z), q⟩
      · rw [immL_append, i1, i2]; rfl
    · exact q.elim
/-- ints alone, under a condition -/
def kII (C : Int → Int → Prop) (g : Int → Int → D) : K2 := fun d e Q => match d, e with
  | .int i, .int j => C i j ∧ Q (g i j)
  | _, _ => False
theorem ok_II {C : Int → Int → Prop} {g : Int → Int → V} {g' : Int → Int → D} (hg : ∀ K H i j, Rp K H (g i j) (g' i j) []) (hi : ∀ i j, imm (g' i j) = true) : R2Ok X (rI C g) (kII C g') := by
  refine ⟨fun d e Q Q' h q => ?_, fun H x y d e N M Q R r1 r2 q h => ?_⟩
  · unfold kII at *
    split at q
    · exact ⟨q.1, h _ q.2⟩
    · exact q.elim
  · unfold kII at q
    split at q
    · exact ⟨_, _, r1.int_, r2.int_, q.1, h _ _ (FR.imm (hg _ _ _ _) (hi _ _) q.2)⟩
    · exact q.elim
def kI0 (g : Int → Int → D) : K2 := fun d e Q => match d, e with
  | .int i, .int j => Q (g i j)
  | _, _ => False
theorem ok_I0 {g : Int → Int → V} {g' : Int → Int → D} (hg : ∀ K H i j, Rp K H (g i j) (g' i j) []) (hi : ∀ i j, imm (g' i j) = true) : R2Ok X (rI0 g) (kI0 g') := by
  refine ⟨fun d e Q Q' h q => ?_, fun H x y d e N M Q R r1 r2 q h => ?_⟩
  · unfold kI0 at *
    split at q
    · exact h _ q
    · exact q.elim
  · unfold kI0 at q
    split at q
    · exact ⟨_, _, r1.int_, r2.int_, h _ _ (FR.imm (hg _ _ _ _) (hi _ _) q)⟩
    · exact q.elim
def kSub : K2 := kI0 fun i j => .int (i - j)
theorem ok_sub : R2Ok X (rI0 fun i j => .int (i - j)) kSub := ok_I0 (fun _ _ _ _ => .int _) fun _ _ => rfl
/-- the size of a product is known -/
def MulOk (i j : Int) : Prop := CMul i j ∨ CMulW i j
def DivOk (_ j : Int) : Prop := 0 < j ∧ j.natAbs.log2 < 9000
def ModOk (_ j : Int) : Prop := 0 < j
def kMul : K2 := fun d e Q => match d, e with
  | .int i, .int j => MulOk i j ∧ Q (.int (i * j))
  | .list xs, .int k => (immL xs = true ∧ -(2 ^ 63) ≤ k ∧ k < 2 ^ 63 ∧ xs.length * k.toNat ≤ sizeLine) ∧ Q (.list (List.replicate k.toNat xs).flatten)
  | _, _ => False
def rMulG : R2 := fun x y H Q => rI CMul (fun i j => .int (i * j)) x y H Q ∨ (rI CMulW (fun i j => .int (i * j)) x y H Q ∨ rRep x y H Q)
theorem op_mulG : OpR X (binaryOp .Mult) rMulG := op_mul.or (op_mulW.or op_rep)
theorem Rps.rep {K : PySem.W.Frag} {H : Hp} {xs : List V} {ds : List D} (r : Rps K H xs ds []) : ∀ k : Nat, Rps K H (List.replicate k xs).flatten (List.replicate k ds).flatten []
  | 0 => .nil
  | k + 1 => by
    rw [List.replicate_succ, List.replicate_succ, List.flatten_cons, List.flatten_cons]
    simpa using r.append (Rps.rep r k)
theorem immL_rep {ds : List D} (h : immL ds = true) : ∀ k : Nat, immL (List.replicate k ds).flatten = true
  | 0 => rfl
  | k + 1 => by rw [List.replicate_succ, List.flatten_cons, immL_append, h, immL_rep h k]; rfl
theorem ok_mul : R2Ok X rMulG kMul := by
  refine ⟨fun d e Q Q' h q => ?_, fun H x y d e N M Q R r1 r2 q h => ?_⟩
  · unfold kMul at *
    split at q
    · exact ⟨q.1, h _ q.2⟩
    · exact ⟨q.1, h _ q.2⟩
    · exact q.elim
  · unfold kMul at q
    split at q
    · rcases q with ⟨c | c, q⟩
      · exact .inl ⟨_, _, r1.int_, r2.int_, c, h _ _ (FR.imm (.int _) rfl q)⟩
      · exact .inr (.inl ⟨_, _, r1.int_, r2.int_, c, h _ _ (FR.imm (.int _) rfl q)⟩)
    · obtain ⟨⟨i1, k1, k2, hz⟩, q⟩ := q
      obtain ⟨a, xs, A, rfl, rfl, ha, s1⟩ := r1.list_
      have ei := s1.imm i1
      subst ei
      exact .inr (.inr ⟨a, _, xs, rfl, r2.int_, ha, k1, k2, by rw [s1.length]; exact hz, fun p hp => h _ _ (FR.newL hp (s1.rep _) (immL_rep i1 _) q)⟩)
    · exact q.elim
def kDiv : K2 := kII DivOk fun i j => .int (i / j)
theorem ok_div : R2Ok X (rI CDivW fun i j => .int (i / j)) kDiv := ok_II (fun _ _ _ _ => .int _) fun _ _ => rfl
def kMod : K2 := kII ModOk fun i j => .int (i % j)
theorem ok_mod : R2Ok X (rI (fun _ j => 0 < j) fun i j => .int (i % j)) kMod := ok_II (fun _ _ _ _ => .int _) fun _ _ => rfl
def PowOk (i j : Int) : Prop := 0 ≤ j ∧ j ≤ 1000000 ∧ i.natAbs < 2 ^ 64
def kPow : K2 := kII PowOk fun i j => .int (i ^ j.toNat)
theorem ok_pow : R2Ok X (rI CPow fun i j => .int (i ^ j.toNat)) kPow := ok_II (fun _ _ _ _ => .int _) fun _ _ => rfl
/-! ### comparisons -/
def kLt : K2 := kI0 fun i j => .bool (decide (i < j))
def kLe : K2 := kI0 fun i j => .bool (decide (i ≤ j))
def kGt : K2 := kI0 fun i j => .bool (decide (j < i))
def kGe : K2 := kI0 fun i j => .bool (decide (j ≤ i))
theorem ok_lt : R2Ok X (rI0 fun i j => .bl (decide (i < j))) kLt := ok_I0 (fun _ _ _ _ => .bl _) fun _ _ => rfl
theorem ok_le : R2Ok X (rI0 fun i j => .bl (decide (i ≤ j))) kLe := ok_I0 (fun _ _ _ _ => .bl _) fun _ _ => rfl
theorem ok_gt : R2Ok X (rI0 fun i j => .bl (decide (j < i))) kGt := ok_I0 (fun _ _ _ _ => .bl _) fun _ _ => rfl
theorem ok_ge : R2Ok X (rI0 fun i j => .bl (decide (j ≤ i))) kGe := ok_I0 (fun _ _ _ _ => .bl _) fun _ _ => rfl
mutual
theorem Rp.dp {K : PySem.W.Frag} {H : Hp} {v : V} {d : D} {N : List Addr} : Rp K H v d N → SeqAt.shaped d = true → Dp K H v d
  | .non, _ => .non
  | .bl c, _ => .bl c
  | .int i, _ => .int i
  | .str x, _ => .str x
  | .lst h r, s => .lst (SqL.of h) (Rps.dp r (by
    have := SeqAt.canLay_of_shaped s
    simpa [PyData.canLay0] using this))
  | .tup h r, s => .tup h (Rps.dp r (by
    have := SeqAt.canLay_of_shaped s
    simpa [PyData.canLay0] using this))
  | .scr _, s => by
    have := SeqAt.canLay_of_shaped s
    simp [PyData.canLay0] at this
  | .jnk _, s => by
    have := SeqAt.canLay_of_shaped s
    simp [PyData.canLay0] at this
  | .set _ _, s => by
    have := SeqAt.canLay_of_shaped s
    simp [setD, PyData.canLay0] at this
  | .dk _ _ _, s => by
    have := SeqAt.canLay_of_shaped s
    simp [dkD, PyData.canLay0] at this
  | .dt _ _ _, s => by
    have := SeqAt.canLay_of_shaped s
    simp [dtD, PyData.canLay0] at this
  | .ins _ _ _, s => by
    have := SeqAt.canLay_of_shaped s
    simp [insD, PyData.canLay0] at this
  | .xc _ _, s => by
    have := SeqAt.canLay_of_shaped s
    simp [xcD, PyData.canLay0] at this
theorem Rps.dp {K : PySem.W.Frag} {H : Hp} {vs : List V} {ds : List D} {N : List Addr} : Rps K H vs ds N → PyData.canLayAll0 ds = true → DpAll K H vs ds
  | .nil, _ => .nil
  | .cons (d := d) (ds := ds) r s, h => by
    have h' : d.canLay0 = true ∧ PyData.canLayAll0 ds = true := by simpa [PyData.canLayAll0] using h
    exact .cons (Rp.dpC r h'.1) (Rps.dp s h'.2)
theorem Rp.dpC {K : PySem.W.Frag} {H : Hp} {v : V} {d : D} {N : List Addr} : Rp K H v d N → d.canLay0 = true → Dp K H v d
  | .non, _ => .non
  | .bl c, _ => .bl c
  | .int i, _ => .int i
  | .str x, _ => .str x
  | .lst h r, s => .lst (SqL.of h) (Rps.dp r (by simpa [PyData.canLay0] using s))
  | .tup h r, s => .tup h (Rps.dp r (by simpa [PyData.canLay0] using s))
  | .scr _, s => by simp [PyData.canLay0] at s
  | .jnk _, s => by simp [PyData.canLay0] at s
  | .set _ _, s => by simp [setD, PyData.canLay0] at s
  | .dk _ _ _, s => by simp [dkD, PyData.canLay0] at s
  | .dt _ _ _, s => by simp [dtD, PyData.canLay0] at s
  | .ins _ _ _, s => by simp [insD, PyData.canLay0] at s
  | .xc _ _, s => by simp [xcD, PyData.canLay0] at s
end
def ng (neg b : Bool) : Bool := match neg with
  | true => !b
  | false => b
@[simp] theorem ng_t (b : Bool) : ng true b = !b := rfl
@[simp] theorem ng_f (b : Bool) : ng false b = b := rfl
theorem ng_if (neg b : Bool) : (if neg then !b else b) = ng neg b := by cases neg <;> rfl
def kEqB (neg : Bool) : K2 := fun d e Q => match d, e with
  | .int i, .int j => Q (.bool (ng neg (decide (i = j))))
  | .str i, .str j => Q (.bool (ng neg (decide (i = j))))
  | d, e => (SeqAt.shaped d = true ∧ SeqAt.shaped e = true) ∧ Q (.bool (ng neg (PyData.eqv d e)))
abbrev kEq : K2 := kEqB false
abbrev kNe : K2 := kEqB true
theorem mono_eqB (neg : Bool) : ∀ d e (Q Q' : D → Prop), (∀ x, Q x → Q' x) → kEqB neg d e Q → kEqB neg d e Q' := fun d e Q Q' h q => by
  unfold kEqB at *
  split at q
  · exact h _ q
  · exact h _ q
  · exact ⟨q.1, h _ q.2⟩
theorem op_eqG (hu : X.A.units + 64 < cLine) : OpR X (compareOp .Eq) (fun x y H Q => rEq x y H Q ∨ rEqD X.K x y H Q) := op_eq.or (op_eqD hu)
theorem op_neG (hu : X.A.units + 64 < cLine) : OpR X (compareOp .NotEq) (fun x y H Q => rNe x y H Q ∨ rNeD X.K x y H Q) := op_ne.or (op_neD hu)
theorem ok_eq : R2Ok X (fun x y H Q => rEq x y H Q ∨ rEqD X.K x y H Q) kEq := by
  refine ⟨mono_eqB _, fun H x y d e N M Q R r1 r2 q h => ?_⟩
  unfold kEq kEqB at q
  split at q
  · rw [r1.int_, r2.int_]
    refine .inl ⟨rfl, h _ _ (FR.imm (.bl _) rfl ?_)⟩
    rw [show ∀ i j : Int, decide (V.int i = V.int j) = decide (i = j) from fun i j => by simp]
    exact q
  · rw [r1.str_, r2.str_]
    refine .inl ⟨rfl, h _ _ (FR.imm (.bl _) rfl ?_)⟩
    rw [show ∀ i j : Str, decide (V.str i = V.str j) = decide (i = j) from fun i j => by simp]
    exact q
  · exact .inr ⟨_, _, r1.dp q.1.1, r2.dp q.1.2, q.1.1, q.1.2, h _ _ (FR.imm (.bl _) rfl q.2)⟩
theorem ok_ne : R2Ok X (fun x y H Q => rNe x y H Q ∨ rNeD X.K x y H Q) kNe := by
  refine ⟨mono_eqB _, fun H x y d e N M Q R r1 r2 q h => ?_⟩
  unfold kNe kEqB at q
  split at q
  · rw [r1.int_, r2.int_]
    refine .inl ⟨rfl, h _ _ (FR.imm (.bl _) rfl ?_)⟩
    rw [show ∀ i j : Int, decide (V.int i = V.int j) = decide (i = j) from fun i j => by simp]
    exact q
  · rw [r1.str_, r2.str_]
    refine .inl ⟨rfl, h _ _ (FR.imm (.bl _) rfl ?_)⟩
    rw [show ∀ i j : Str, decide (V.str i = V.str j) = decide (i = j) from fun i j => by simp]
    exact q
  · exact .inr ⟨_, _, r1.dp q.1.1, r2.dp q.1.2, q.1.1, q.1.2, h _ _ (FR.imm (.bl _) rfl q.2)⟩
/-- in, not in, over flat things -/
def flatD : D → Bool
  | .none => true
  | .bool _ => true
  | .int _ => true
  | .str _ => true
  | _ => false
theorem flat_rp {K : PySem.W.Frag} {H : Hp} {v : V} {d : D} {N : List Addr} (r : Rp K H v d N) (f : flatD d = true) : flatV v = true ∧ ∀ {w e M}, Rp K H w e M → flatD e = true → eqV v w = PyData.eqv d e := by
  cases r <;> simp only [flatD, setD, dkD, dtD, insD, xcD] at f <;> first | exact absurd f (by decide) | skip
  all_goals refine ⟨rfl, fun {w e M} r2 f2 => ?_⟩
  all_goals cases r2 <;> simp only [flatD, setD, dkD, dtD, insD, xcD] at f2 <;> first | exact absurd f2 (by decide) | rfl
theorem flat_rps {K : PySem.W.Frag} {H : Hp} {v : V} {d : D} {N : List Addr} (r : Rp K H v d N) (f : flatD d = true) : ∀ {xs : List V} {ds : List D} {M : List Addr}, Rps K H xs ds M → ds.all flatD = true → xs.all flatV = true ∧ inV v xs = ds.any fun e => PyData.eqv e d
  | _, _, _, .nil, _ => ⟨rfl, rfl⟩
  | _, _, _, .cons (d := e) (ds := es) r1 s, h => by
    have h' : flatD e = true ∧ es.all flatD = true := by rw [List.all_cons, Bool.and_eq_true] at h; exact h
    obtain ⟨a, b⟩ := flat_rps r f s h'.2
    obtain ⟨c, g⟩ := flat_rp r1 h'.1
    refine ⟨by rw [List.all_cons, c, a]; rfl, ?_⟩
    show (eqV _ v || inV v _) = _
    rw [b, List.any_cons, g r f]
def kInB (neg : Bool) : K2 := fun d e Q => match e with
  | .list ds => (flatD d = true ∧ ds.all flatD = true) ∧ Q (.bool (ng neg (ds.any fun e => PyData.eqv e d)))
  | .tuple ds => (flatD d = true ∧ ds.all flatD = true) ∧ Q (.bool (ng neg (ds.any fun e => PyData.eqv e d)))
  | _ => False
abbrev kIn : K2 := kInB false
abbrev kNotIn : K2 := kInB true
theorem ok_inB (neg : Bool) : R2Ok X (rIn X.K neg) (kInB neg) := by
  refine ⟨fun d e Q Q' h q => ?_, fun H x y d e N M Q R r1 r2 q h => ?_⟩
  · unfold kInB at *
    split at q
    · exact ⟨q.1, h _ q.2⟩
    · exact ⟨q.1, h _ q.2⟩
    · exact q.elim
  · unfold kInB at q
    split at q
    · obtain ⟨⟨f1, f2⟩, q⟩ := q
      obtain ⟨a, xs, A, rfl, rfl, ha, s⟩ := r2.list_
      obtain ⟨g1, g2⟩ := flat_rps r1 f1 s f2
      refine ⟨a, xs, rfl, .inl (SqL.of ha), (flat_rp r1 f1).1, g1, h _ _ (FR.imm (.bl _) rfl ?_)⟩
      rw [g2, ng_if]; exact q
    · obtain ⟨⟨f1, f2⟩, q⟩ := q
      obtain ⟨a, xs, rfl, ha, s⟩ := r2.tuple_
      obtain ⟨g1, g2⟩ := flat_rps r1 f1 s f2
      refine ⟨a, xs, rfl, .inr ha, (flat_rp r1 f1).1, g1, h _ _ (FR.imm (.bl _) rfl ?_)⟩
      rw [g2, ng_if]; exact q
    · exact q.elim

/-! ### - not, is None, and, or -/
def kNeg : K1 := fun d Q => match d with
  | .int i => Q (.int (-i))
  | _ => False
theorem ok_neg : R1Ok X (rU fun i => .int (-i)) kNeg := by
  refine ⟨fun d Q Q' h q => ?_, fun H x d N Q R r q h => ?_⟩
  · unfold kNeg at *; split at q
    · exact h _ q
    · exact q.elim
  · unfold kNeg at q; split at q
    · exact ⟨_, r.int_, h _ _ (FR.imm (.int _) rfl q)⟩
    · exact q.elim
variable {a b e : Expr} {es : List Expr} {fa fb f : DE} {g : DA} {pos : Pos}
theorem ev_un1 {e : Expr} {r : V → Hp → VK → Prop} {k : K1} (hk : R1Ok X r k) (ha : EV G X a fa) (hp : ∀ {ta : TE}, PE X a ta → PE X e (tUn r ta)) : EV G X e (dUn k fa) := by
  refine ⟨fun δ P P' h q => ha.mono _ _ _ (fun x q => hk.mono _ _ _ (fun d q => h _ q) q) q, fun H0 π hG => pei (hp (ha.pe H0 π hG)) fun σ H Q ⟨δ, ν, E, q⟩ => ?_⟩
  refine ⟨δ, ν, E, ha.mono _ _ _ (fun x q v H1 M s1 o1 => ?_) q⟩
  refine hk.ok H1 v x.d M _ _ o1.rp q fun u H3 ⟨d, M', s3, r3, n3, f3, q3⟩ => ?_
  exact q3 u H3 M' (s1.trans s3) (FR.vok s1 r3 n3 f3 E)
def kNot : K1 := fun d Q => match d with
  | .bool b => Q (.bool (!b))
  | _ => False
theorem ok_not : R1Ok X (fun x H Q => ∃ c, x = .bl c ∧ Q (.bl (!c)) H) kNot := by
  refine ⟨fun d Q Q' h q => ?_, fun H x d N Q R r q h => ?_⟩
  · unfold kNot at *; split at q
    · exact h _ q
    · exact q.elim
  · unfold kNot at q; split at q
    · exact ⟨_, r.bool_, h _ _ (FR.imm (.bl _) rfl q)⟩
    · exact q.elim
theorem ev_not (ha : EV G X a fa) : EV G X (.UnaryOp .Not a pos) (dUn kNot fa) := ev_un1 ok_not ha fun h => pe_not h
theorem Rp.non_iff {K : PySem.W.Frag} {H : Hp} {v : V} {d : D} {N : List Addr} (r : Rp K H v d N) : decide (v = .non) = (match d with | .none => true | _ => false) := by
  cases r <;> simp_all [setD, dkD, dtD, insD, xcD]
def isNone : D → Bool
  | .none => true
  | _ => false
def kIsN (neg : Bool) : K1 := fun d Q => Q (.bool (ng neg (isNone d)))
theorem Rp.isNone {K : PySem.W.Frag} {H : Hp} {v : V} {d : D} {N : List Addr} (r : Rp K H v d N) : decide (v = .non) = KT.isNone d := by
  cases r <;> simp_all [KT.isNone, setD, dkD, dtD, insD, xcD]
theorem ok_isN : R1Ok X (fun x H Q => Q (.bl (decide (x = .non))) H) (kIsN false) := by
  refine ⟨fun d Q Q' h q => h _ q, fun H x d N Q R r q h => ?_⟩
  refine h _ _ (FR.imm (.bl _) rfl ?_)
  rw [r.isNone]; exact q
theorem ok_notN : R1Ok X (fun x H Q => Q (.bl (!decide (x = .non))) H) (kIsN true) := by
  refine ⟨fun d Q Q' h q => h _ q, fun H x d N Q R r q h => ?_⟩
  refine h _ _ (FR.imm (.bl _) rfl ?_)
  rw [r.isNone]; exact q
theorem ev_isN {j pos'} (ha : EV G X a fa) : EV G X (.Compare a [.Is] [.Constant .none j pos'] pos) (dUn (kIsN false) fa) := ev_un1 ok_isN ha fun h => pe_cmp (pc_isN h)
theorem ev_notN {j pos'} (ha : EV G X a fa) : EV G X (.Compare a [.IsNot] [.Constant .none j pos'] pos) (dUn (kIsN true) fa) := ev_un1 ok_notN ha fun h => pe_cmp (pc_notN h)

def dAnd (fa fb : DE) : DE := fun δ P => fa δ fun x => match x.d with
  | .bool b => (match b with
    | true => fb δ P
    | false => P ⟨.bool false, true, []⟩)
  | _ => False
def dOr (fa fb : DE) : DE := fun δ P => fa δ fun x => match x.d with
  | .bool b => (match b with
    | true => P ⟨.bool true, true, []⟩
    | false => fb δ P)
  | _ => False
theorem vok_bool {K : PySem.W.Frag} {H H' : Hp} {δ : En} {ν : Nu} {b : Bool} : VOk K H δ ν H' (.bl b) ⟨.bool b, true, []⟩ [] :=
  ⟨.bl _, fun _ => List.nodup_nil, fun _ _ h => (nomatch h), fun _ _ _ _ _ _ _ h => (nomatch h)⟩
theorem ev_one {op} (ha : EV G X a fa) : EV G X (.BoolOp op [a] pos) fa := ⟨ha.mono, fun H0 π hG => pe_one (ha.pe H0 π hG)⟩
theorem ev_and {rest : List Expr} (ha : EV G X a fa) (hb : EV G X (.BoolOp .And (b :: rest) pos) fb) : EV G X (.BoolOp .And (a :: b :: rest) pos) (dAnd fa fb) := by
  refine ⟨fun δ P P' h q => ha.mono _ _ _ (fun x q => ?_) q, fun H0 π hG => pei (pe_and (ha.pe H0 π hG) (hb.pe H0 π hG)) fun σ H Q ⟨δ, ν, E, q⟩ => ?_⟩
  · cases hx : x.d <;> rw [hx] at q <;> first | exact q.elim | skip
    rename_i c
    cases c
    · exact h _ q
    · exact hb.mono _ _ _ h q
  · refine ⟨δ, ν, E, ha.mono _ _ _ (fun x q v H1 M s1 o1 => ?_) q⟩
    have r := o1.rp
    cases hx : x.d <;> rw [hx] at q r <;> first | exact q.elim | skip
    rename_i c
    cases c
    · exact ⟨false, r.bool_, q _ _ _ s1 vok_bool⟩
    · exact ⟨true, r.bool_, ⟨δ, ν, E.same s1, hb.mono _ _ _ (fun y q w H2 N s2 o2 => q w H2 N (s1.trans s2) (o2.back s1)) q⟩⟩
theorem ev_or {rest : List Expr} (ha : EV G X a fa) (hb : EV G X (.BoolOp .Or (b :: rest) pos) fb) : EV G X (.BoolOp .Or (a :: b :: rest) pos) (dOr fa fb) := by
  refine ⟨fun δ P P' h q => ha.mono _ _ _ (fun x q => ?_) q, fun H0 π hG => pei (pe_or (ha.pe H0 π hG) (hb.pe H0 π hG)) fun σ H Q ⟨δ, ν, E, q⟩ => ?_⟩
  · cases hx : x.d <;> rw [hx] at q <;> first | exact q.elim | skip
    rename_i c
    cases c
    · exact hb.mono _ _ _ h q
    · exact h _ q
  · refine ⟨δ, ν, E, ha.mono _ _ _ (fun x q v H1 M s1 o1 => ?_) q⟩
    have r := o1.rp
    cases hx : x.d <;> rw [hx] at q r <;> first | exact q.elim | skip
    rename_i c
    cases c
    · exact ⟨false, r.bool_, ⟨δ, ν, E.same s1, hb.mono _ _ _ (fun y q w H2 N s2 o2 => q w H2 N (s1.trans s2) (o2.back s1)) q⟩⟩
    · exact ⟨true, r.bool_, q _ _ _ s1 vok_bool⟩

/-! ### tests -/
abbrev DT := En → (Bool → Prop) → Prop
def semT (K : PySem.W.Frag) (H0 : Hp) (π : Nat → Option V) (f : DT) : TT := fun σ H Q => ∃ δ ν, EnvOk K H0 π H σ δ ν ∧ f δ fun b => ∀ H', Same H H' → Q b H'
structure ET (G : GT) (X : Cx) (e : Expr) (f : DT) : Prop where
  mono : ∀ δ (P P' : Bool → Prop), (∀ x, P x → P' x) → f δ P → f δ P'
  pt : ∀ H0 π, G H0 π → PT X e (semT X.K H0 π f)
structure EW (G : GT) (X : Cx) (e : Expr) (f : DT) : Prop where
  mono : ∀ δ (P P' : Bool → Prop), (∀ x, P x → P' x) → f δ P → f δ P'
  pw : ∀ H0 π, G H0 π → PW X e (semT X.K H0 π f)
theorem EW.et {f : DT} (h : EW G X e f) : ET G X e f := ⟨h.mono, fun H0 π hG => (h.pw H0 π hG).pt⟩
def dTst (f : DE) : DT := fun δ P => f δ fun x => match x.d with
  | .bool b => P b
  | _ => False
theorem tst_mono (h : ∀ δ (P P' : Val → Prop), (∀ x, P x → P' x) → f δ P → f δ P') : ∀ δ (P P' : Bool → Prop), (∀ x, P x → P' x) → dTst f δ P → dTst f δ P' := fun δ P P' i q => h _ _ _ (fun x q => by
  revert q; split
  · exact i _
  · exact id) q
/-- what a value's reading gives a test -/
theorem tst_sem {K : PySem.W.Frag} {H0 : Hp} {π : Nat → Option V} {σ : L2.St} {H : Hp} {Q : Bool → Hp → Prop} (hm : ∀ δ (P P' : Val → Prop), (∀ x, P x → P' x) → f δ P → f δ P') (h : semT K H0 π (dTst f) σ H Q) :
    semE K H0 π f σ H fun x H' => ∃ k, x = .bl k ∧ Q k H' := by
  obtain ⟨δ, ν, E, q⟩ := h
  refine ⟨δ, ν, E, hm _ _ _ (fun x q v H1 M s1 o1 => ?_) q⟩
  have r := o1.rp
  revert q; split
  · rename_i b e; intro q
    rw [e] at r
    exact ⟨b, r.bool_, q _ s1⟩
  · exact False.elim
theorem et_val (h : EV G X e f) (he : ∀ whole, isTrue e X.env whole = (do let v ← whole; standAt e.pos; holding [v] (truthy v)) := by intro _; rfl) : ET G X e (dTst f) :=
  ⟨tst_mono h.mono, fun H0 π hG => pti (pt_val (h.pe H0 π hG) he) fun σ H Q q => tst_sem h.mono q⟩
theorem et_bin2 {e : Expr} {r : R2} {k : K2} (hk : R2Ok X r k) (ha : EV G X a fa) (hb : EV G X b fb) (hp : ∀ {ta tb : TE}, PE X a ta → PE X b tb → PT X e (tTest (tOp r ta tb))) : ET G X e (dTst (dBin k fa fb)) := by
  have hm : ∀ δ (P P' : Val → Prop), (∀ x, P x → P' x) → dBin k fa fb δ P → dBin k fa fb δ P' := fun δ P P' h q => ha.mono _ _ _ (fun x q => hb.mono _ _ _ (fun y q => hk.mono _ _ _ _ (fun d q => h _ q) q) q) q
  refine ⟨tst_mono hm, fun H0 π hG => pti (hp (ha.pe H0 π hG) (hb.pe H0 π hG)) fun σ H Q h => ?_⟩
  obtain ⟨δ, ν, E, q⟩ := tst_sem hm h
  refine ⟨δ, ν, E, ha.mono _ _ _ (fun x q v H1 M s1 o1 => ?_) q⟩
  refine ⟨δ, ν, E.same s1, hb.mono _ _ _ (fun y q w H2 N s2 o2 => ?_) q⟩
  refine hk.ok H2 v w x.d y.d M N _ _ (o1.rp.same s2) o2.rp q fun u H3 ⟨d, M', s3, r3, n3, f3, q3⟩ => ?_
  exact q3 u H3 M' ((s1.trans s2).trans s3) (FR.vok (s1.trans s2) r3 n3 f3 E)
theorem et_cmp {op : CmpOp} {r : R2} {k : K2} (ho : OpR X (compareOp op) r) (hk : R2Ok X r k) (ha : EV G X a fa) (hb : EV G X b fb) (hm : behindInMarks op b = false) : ET G X (.Compare a [op] [b] pos) (dTst (dBin k fa fb)) :=
  et_bin2 hk ha hb fun h1 h2 => pt_cmpR ho h1 h2 hm
theorem et_un1 {e : Expr} {r : V → Hp → VK → Prop} {k : K1} (hk : R1Ok X r k) (ha : EV G X a fa) (hp : ∀ {ta : TE}, PE X a ta → PT X e (tB (tUn r ta))) : ET G X e (dTst (dUn k fa)) := by
  have hm : ∀ δ (P P' : Val → Prop), (∀ x, P x → P' x) → dUn k fa δ P → dUn k fa δ P' := fun δ P P' h q => ha.mono _ _ _ (fun x q => hk.mono _ _ _ (fun d q => h _ q) q) q
  refine ⟨tst_mono hm, fun H0 π hG => pti (hp (ha.pe H0 π hG)) fun σ H Q h => ?_⟩
  obtain ⟨δ, ν, E, q⟩ := tst_sem hm h
  refine ⟨δ, ν, E, ha.mono _ _ _ (fun x q v H1 M s1 o1 => ?_) q⟩
  refine hk.ok H1 v x.d M _ _ o1.rp q fun u H3 ⟨d, M', s3, r3, n3, f3, q3⟩ => ?_
  exact q3 u H3 M' (s1.trans s3) (FR.vok s1 r3 n3 f3 E)
theorem et_isN {j pos'} (ha : EV G X a fa) : ET G X (.Compare a [.Is] [.Constant .none j pos'] pos) (dTst (dUn (kIsN false) fa)) := et_un1 ok_isN ha fun h => pt_cmp (pc_isN h)
theorem et_notN {j pos'} (ha : EV G X a fa) : ET G X (.Compare a [.IsNot] [.Constant .none j pos'] pos) (dTst (dUn (kIsN true) fa)) := et_un1 ok_notN ha fun h => pt_cmp (pc_notN h)
variable {ta tb t : DT} {rest : List Expr}
def dtAnd (ta tb : DT) : DT := fun δ P => ta δ fun c => match c with
  | true => tb δ P
  | false => P false
def dtOr (ta tb : DT) : DT := fun δ P => ta δ fun c => match c with
  | true => P true
  | false => tb δ P
def dtNot (ta : DT) : DT := fun δ P => ta δ fun c => P (!c)
theorem ew_and1 (ha : ET G X a ta) : EW G X (.BoolOp .And [a] pos) ta := ⟨ha.mono, fun H0 π hG => pw_and1 (ha.pt H0 π hG)⟩
theorem ew_or1 (ha : ET G X a ta) : EW G X (.BoolOp .Or [a] pos) ta := ⟨ha.mono, fun H0 π hG => pw_or1 (ha.pt H0 π hG)⟩
theorem pwi {X : Cx} {e : Expr} {t t' : TT} (h : PW X e t) (i : ∀ σ H Q, t' σ H Q → t σ H Q) : PW X e t' :=
  ⟨fun wh pins s σ H Q I q => h.run wh pins s σ H Q I (i σ H Q q)⟩
theorem ew_and (ha : ET G X a ta) (hb : EW G X (.BoolOp .And (b :: rest) pos) tb) : EW G X (.BoolOp .And (a :: b :: rest) pos) (dtAnd ta tb) := by
  refine ⟨fun δ P P' h q => ha.mono _ _ _ (fun c q => ?_) q, fun H0 π hG => pwi (pw_and (ha.pt H0 π hG) (hb.pw H0 π hG)) fun σ H Q ⟨δ, ν, E, q⟩ => ?_⟩
  · cases c
    · exact h _ q
    · exact hb.mono _ _ _ h q
  · refine ⟨δ, ν, E, ha.mono _ _ _ (fun c q H1 s1 => ?_) q⟩
    cases c
    · exact q _ s1
    · exact ⟨δ, ν, E.same s1, hb.mono _ _ _ (fun b q H2 s2 => q _ (s1.trans s2)) q⟩
theorem ew_or (ha : ET G X a ta) (hb : EW G X (.BoolOp .Or (b :: rest) pos) tb) : EW G X (.BoolOp .Or (a :: b :: rest) pos) (dtOr ta tb) := by
  refine ⟨fun δ P P' h q => ha.mono _ _ _ (fun c q => ?_) q, fun H0 π hG => pwi (pw_or (ha.pt H0 π hG) (hb.pw H0 π hG)) fun σ H Q ⟨δ, ν, E, q⟩ => ?_⟩
  · cases c
    · exact hb.mono _ _ _ h q
    · exact h _ q
  · refine ⟨δ, ν, E, ha.mono _ _ _ (fun c q H1 s1 => ?_) q⟩
    cases c
    · exact ⟨δ, ν, E.same s1, hb.mono _ _ _ (fun b q H2 s2 => q _ (s1.trans s2)) q⟩
    · exact q _ s1
theorem et_not (ha : ET G X a ta) : ET G X (.UnaryOp .Not a pos) (dtNot ta) :=
  ⟨fun δ P P' h q => ha.mono _ _ _ (fun c q => h _ q) q, fun H0 π hG => pti (pt_not (ha.pt H0 π hG)) fun σ H Q ⟨δ, ν, E, q⟩ => ⟨δ, ν, E, q⟩⟩
theorem ev_ifExp {c : Expr} (hc : ET G X c t) (ha : EV G X a fa) (hb : EV G X b fb) : EV G X (.IfExp c a b pos) (fun δ P => t δ fun k => match k with | true => fa δ P | false => fb δ P) := by
  refine ⟨fun δ P P' h q => hc.mono _ _ _ (fun c q => ?_) q, fun H0 π hG => pei (pe_ifExp (hc.pt H0 π hG) (ha.pe H0 π hG) (hb.pe H0 π hG)) fun σ H Q ⟨δ, ν, E, q⟩ => ?_⟩
  · cases c
    · exact hb.mono _ _ _ h q
    · exact ha.mono _ _ _ h q
  · refine ⟨δ, ν, E, hc.mono _ _ _ (fun c q H1 s1 => ?_) q⟩
    cases c
    · exact ⟨δ, ν, E.same s1, hb.mono _ _ _ (fun y q w H2 N s2 o2 => q w H2 N (s1.trans s2) (o2.back s1)) q⟩
    · exact ⟨δ, ν, E.same s1, ha.mono _ _ _ (fun y q w H2 N s2 o2 => q w H2 N (s1.trans s2) (o2.back s1)) q⟩
end
end KT
/-! KtD: items, slices, displays, built-ins. -/
namespace KT
open PySem PySem.Spec PyProof.Rows L2
variable [WT]

section
variable {K : PySem.W.Frag} {H0 H H1 H' : Hp} {π : Nat → Option V} {σ : L2.St} {δ : En} {ν : Nu} {v : V} {x : Val} {M : List Addr}
/-- a part of a value -/
theorem VOk.part (q : VOk K H δ ν H' v x M) {w : V} {d : D} {L : List Addr} (r : Rp K H' w d L) (sub : L.Sublist M) : VOk K H δ ν H' w ⟨d, x.own, x.roots⟩ L :=
  ⟨r, fun o => (q.nd o).sublist sub, fun o a ha => q.fr o a (sub.subset ha), fun j s h o n a ha hm => q.al j s h o n a ha (sub.subset hm)⟩
/-- a new list of parts -/
theorem VOk.newL (E : EnvOk K H0 π H σ δ ν) (s0 : Same H H1) (q : VOk K H δ ν H1 v x M) {p : Addr} {xs : List V} {ds : List D} {L : List Addr} (hp : H1 p = none) (r : Rps K H1 xs ds L) (sub : L.Sublist M) :
    VOk K H δ ν (upd H1 p (.lst xs)) (.ref p) ⟨.list ds, x.own, x.roots⟩ (p :: L) := by
  have npm : ∀ a ∈ L, a ≠ p := fun a ha e => r.trk a ha (e ▸ hp)
  refine ⟨.lst upd_same (r.same (Same.upd_new hp)), fun o => List.nodup_cons.mpr ⟨fun h => npm p h rfl, (q.nd o).sublist sub⟩, fun o a ha => ?_, fun j s h o n a ha hm => ?_⟩
  · rcases List.mem_cons.mp ha with rfl | ha
    · exact .inl (s0.free hp)
    · exact q.fr o a (sub.subset ha)
  · rcases List.mem_cons.mp hm with rfl | hm
    · exact E.trk h a ha (s0.free hp)
    · exact q.al j s h o n a ha (sub.subset hm)
end

section
variable {X : Cx} {a b e : Expr} {es : List Expr} {fa fb f : DE} {g : DA} {pos : Pos}

/-! ### xs[i] -/
def kSubs (dx dy : D) (own : Bool) (roots : List Nat) (P : Val → Prop) : Prop := match dx, dy with
  | .list ds, .int i => ∃ d, atI ds i = some d ∧ P (nv ⟨d, own, roots⟩)
  | .tuple ds, .int i => ∃ d, atI ds i = some d ∧ P (nv ⟨d, own, roots⟩)
  | .str z, .int i => ∃ c, (z.length ≤ sizeLine ∧ atI z.cps.toList i = some c) ∧ P ⟨.str ⟨#[c]⟩, true, []⟩
  | _, _ => False
theorem mono_subs {dx dy : D} {own : Bool} {roots : List Nat} {P P' : Val → Prop} (h : ∀ x, P x → P' x) (q : kSubs dx dy own roots P) : kSubs dx dy own roots P' := by
  cases dx <;> cases dy <;> first | exact q.elim | (obtain ⟨d, a, b⟩ := q; exact ⟨d, a, h _ b⟩)
def dSub (fa fb : DE) : DE := fun δ P => fa δ fun x => fb δ fun y => kSubs x.d y.d x.own x.roots P
theorem Rps.at_ {K : PySem.W.Frag} {H : Hp} {xs : List V} {ds : List D} {N : List Addr} {i : Int} {d : D} (r : Rps K H xs ds N) (h : atI ds i = some d) : ∃ v L, atI xs i = some v ∧ L.Sublist N ∧ Rp K H v d L := by
  unfold atI at *
  rw [r.length]
  cases e : ixN ds.length i with
  | none => rw [e] at h; simp at h
  | some j =>
    rw [e] at h
    obtain ⟨v, A, M, B, h1, h2, h3⟩ := r.get (i := j) (d := d) (by simpa using h)
    refine ⟨v, M, by simpa using h1, ?_, h3⟩
    rw [h2]
    exact (List.sublist_append_right A M).trans (List.sublist_append_left (A ++ M) B)
theorem ev_sub (ha : EV G X a fa) (hb : EV G X b fb) (hs : PlainIx b) : EV G X (.Subscript a b pos) (dSub fa fb) := by
  refine ⟨fun δ P P' h q => ha.mono _ _ _ (fun x q => hb.mono _ _ _ (fun y q => ?_) q) q, fun H0 π hG => pei (pe_ix ix_seq (ha.pe H0 π hG) (hb.pe H0 π hG) hs) fun σ H Q ⟨δ, ν, E, q⟩ => ?_⟩
  · exact mono_subs h q
  · refine ⟨δ, ν, E, ha.mono _ _ _ (fun x q v H1 M s1 o1 => ?_) q⟩
    refine ⟨δ, ν, E.same s1, hb.mono _ _ _ (fun y q w H2 N s2 o2 => ?_) q⟩
    have r1 := o1.rp.same s2
    have r2 := o2.rp
    unfold kSubs at q
    revert q; split
    · rename_i ds i ed ei
      rintro ⟨d, h1, q⟩
      rw [ei] at r2
      rw [ed] at r1
      obtain ⟨l, xs, A, rfl, rfl, hl, s⟩ := r1.list_
      obtain ⟨u, L, h2, h3, h4⟩ := s.at_ h1
      obtain ⟨M', o'⟩ := ((o1.same s2).part h4 (h3.trans (List.sublist_cons_self l A))).nv
      exact .inl ⟨l, xs, i, u, rfl, r2.int_, SqL.of hl, h2, q u H2 M' (s1.trans s2) o'⟩
    · rename_i ds i ed ei
      rintro ⟨d, h1, q⟩
      rw [ei] at r2
      rw [ed] at r1
      obtain ⟨l, xs, rfl, hl, s⟩ := r1.tuple_
      obtain ⟨u, L, h2, h3, h4⟩ := s.at_ h1
      obtain ⟨M', o'⟩ := ((o1.same s2).part h4 h3).nv
      exact .inr (.inl ⟨l, xs, i, u, rfl, r2.int_, hl, h2, q u H2 M' (s1.trans s2) o'⟩)
    · rename_i z i ed ei
      rintro ⟨c, ⟨hz, h1⟩, q⟩
      rw [ei] at r2
      rw [ed] at r1
      exact .inr (.inr ⟨z, i, c, r1.str_, r2.int_, hz, h1, q _ H2 [] (s1.trans s2) (VOk.imm (.str _) rfl)⟩)
    · exact False.elim

/-! ### xs[a:b] -/
def cutD (ds : List D) (lo hi : Option Int) : List D := (ds.drop (HT.sIx ds.length 0 lo)).take (HT.sIx ds.length ds.length hi - HT.sIx ds.length 0 lo)
abbrev DO := En → (Option Int → Prop) → Prop
def dNo : DO := fun _ P => P none
def dSo (f : DE) : DO := fun δ P => f δ fun x => match x.d with
  | .int i => P (some i)
  | _ => False
def semO (K : PySem.W.Frag) (H0 : Hp) (π : Nat → Option V) (f : DO) : TO := fun σ H Q => ∃ δ ν, EnvOk K H0 π H σ δ ν ∧ f δ fun b => ∀ H', Same H H' → Q b H'
structure EO (G : GT) (X : Cx) (e : Option Expr) (f : DO) : Prop where
  mono : ∀ δ (P P' : Option Int → Prop), (∀ x, P x → P' x) → f δ P → f δ P'
  po : ∀ H0 π, G H0 π → PO X e (semO X.K H0 π f)
theorem poi {X : Cx} {e : Option Expr} {t t' : TO} (h : PO X e t) (i : ∀ σ H Q, t' σ H Q → t σ H Q) : PO X e t' :=
  ⟨fun pins s σ H Q I q => h.run pins s σ H Q I (i σ H Q q)⟩
theorem eo_none : EO G X none dNo := ⟨fun _ _ _ h q => h _ q, fun H0 π hG => poi po_none fun σ H Q ⟨δ, ν, E, q⟩ => q H (Same.refl H)⟩
theorem eo_some (h : EV G X e f) : EO G X (some e) (dSo f) := by
  refine ⟨fun δ P P' i q => h.mono _ _ _ (fun x q => ?_) q, fun H0 π hG => poi (po_some (h.pe H0 π hG)) fun σ H Q ⟨δ, ν, E, q⟩ => ?_⟩
  · revert q; split
    · exact i _
    · exact id
  · refine ⟨δ, ν, E, h.mono _ _ _ (fun x q v H1 M s1 o1 => ?_) q⟩
    have r := o1.rp
    revert q; split
    · rename_i i e; intro q
      rw [e] at r
      exact ⟨i, r.int_, q _ s1⟩
    · exact False.elim
/-- a list of such items: new and its own where they bear no list -/
def mkL (ds : List D) (own : Bool) (roots : List Nat) : Val := ⟨.list ds, (match immL ds with | true => true | false => own), (match immL ds with | true => [] | false => roots)⟩
def scrL : List (D × D) → Option (List D)
  | [] => some []
  | (.int n, .none) :: r => (scrL r).map (PyData.int n :: ·)
  | _ :: _ => none
def dSlice (fa : DE) (lo hi : DO) : DE := fun δ P => fa δ fun x => lo δ fun i => hi δ fun j => match x.d with
  | .list ds => P (mkL (cutD ds i j) x.own x.roots)
  | .str z => z.length ≤ sizeLine ∧ P ⟨.str (cutS z i j), true, []⟩
  | .tuple ds => (immL ds = true ∧ ¬ (HT.sIx ds.length 0 i = 0 ∧ HT.sIx ds.length ds.length j = ds.length)) ∧ P ⟨.tuple (cutD ds i j), true, []⟩
  | .dict kvs => ∃ ns : List Int, kvs = scrP ns ∧ P ⟨.list (cutD (ns.map PyData.int) i j), true, []⟩
  | _ => False
theorem Rps.cut {K : PySem.W.Frag} {H : Hp} {xs : List V} {ds : List D} {N : List Addr} (r : Rps K H xs ds N) (lo hi : Option Int) : ∃ L, L.Sublist N ∧ Rps K H (cutV xs lo hi) (cutD ds lo hi) L := by
  unfold cutV cutD
  rw [r.length]
  obtain ⟨A, B, h1, h2, h3⟩ := r.take (HT.sIx ds.length 0 lo)
  obtain ⟨C, E, h4, h5, h6⟩ := h3.take (HT.sIx ds.length ds.length hi - HT.sIx ds.length 0 lo)
  refine ⟨C, ?_, h5⟩
  rw [h1, h4]
  exact (List.sublist_append_left C E).trans (List.sublist_append_right A (C ++ E))
theorem cutD_mem {ds : List D} {lo hi : Option Int} {d : D} (h : d ∈ cutD ds lo hi) : d ∈ ds := List.mem_of_mem_drop (List.mem_of_mem_take h)
theorem immL_cut {ds : List D} (h : immL ds = true) (lo hi : Option Int) : immL (cutD ds lo hi) = true := immL_of.mpr fun d hd => immL_of.mp h d (cutD_mem hd)
theorem sl_all {X : Cx} : SlR X (fun x lo hi H Q => rSlL X.K x lo hi H Q ∨ (rSlS x lo hi H Q ∨ rSlT X.K x lo hi H Q)) := sl_list.or (sl_str.or sl_tup)
theorem script_inj {ns ms : List Int} (h : (ns.map fun n => ((PyData.int n : D), (PyData.none : D))) = ms.map fun n => (PyData.int n, PyData.none)) : ns = ms := by
  induction ns generalizing ms with
  | nil => cases ms with
    | nil => rfl
    | cons _ _ => simp at h
  | cons n ns ih => cases ms with
    | nil => simp at h
    | cons m ms =>
      simp only [List.map_cons, List.cons.injEq, Prod.mk.injEq, PyData.int.injEq, and_true] at h
      rw [h.1, ih h.2]
theorem ev_slice {lo hi : Option Expr} {fl fh : DO} {p2 : Pos} (ha : EV G X a fa) (hl : EO G X lo fl) (hh : EO G X hi fh) : EV G X (.Subscript a (.Slice lo hi none p2) pos) (dSlice fa fl fh) := by
  refine ⟨fun δ P P' h q => ha.mono _ _ _ (fun x q => hl.mono _ _ _ (fun i q => hh.mono _ _ _ (fun j q => ?_) q) q) q, fun H0 π hG => pei (pe_slice sl_all (ha.pe H0 π hG) (hl.po H0 π hG) (hh.po H0 π hG)) fun σ H Q ⟨δ, ν, E, q⟩ => ?_⟩
  · revert q; split
    · exact h _
    · exact fun ⟨a, b⟩ => ⟨a, h _ b⟩
    · exact fun ⟨a, b⟩ => ⟨a, h _ b⟩
    · exact fun ⟨a, b, c⟩ => ⟨a, b, h _ c⟩
    · exact id
  · refine ⟨δ, ν, E, ha.mono _ _ _ (fun x q v H1 M s1 o1 => ?_) q⟩
    refine ⟨δ, ν, E.same s1, hl.mono _ _ _ (fun i q H2 s2 => ?_) q⟩
    refine ⟨δ, ν, (E.same s1).same s2, hh.mono _ _ _ (fun j q H3 s3 => ?_) q⟩
    have sA := (s1.trans s2).trans s3
    have oA := o1.same (s2.trans s3)
    have r := oA.rp
    revert q; split
    · rename_i ds ed
      intro q
      rw [ed] at r
      obtain ⟨l, xs, A, rfl, rfl, hl, s⟩ := r.list_
      refine .inl ⟨l, xs, rfl, SqL.of hl, fun p hp => ?_⟩
      obtain ⟨L, hs, hr⟩ := s.cut i j
      unfold mkL at q
      cases hi : immL (cutD ds i j) with
      | true =>
        rw [hi] at q
        have e := hr.imm hi
        subst e
        exact q _ _ _ (sA.trans (Same.upd_new hp)) (FR.vok (sA) (.lst upd_same (hr.same (Same.upd_new hp))) (by simp) (fun a ha => by rw [List.mem_singleton.mp ha]; exact hp) E)
      | false =>
        rw [hi] at q
        exact q _ _ _ (sA.trans (Same.upd_new hp)) (VOk.newL E sA oA hp hr (hs.trans (List.sublist_cons_self l A)))
    · rename_i z ed
      rintro ⟨hz, q⟩
      rw [ed] at r
      exact .inr (.inl ⟨z, r.str_, hz, q _ _ _ sA (VOk.imm (.str _) rfl)⟩)
    · rename_i ds ed
      rintro ⟨⟨hi, hw⟩, q⟩
      rw [ed] at r
      obtain ⟨l, xs, rfl, hl, s⟩ := r.tuple_
      obtain ⟨L, hs, hr⟩ := s.cut i j
      refine .inr (.inr ⟨l, xs, rfl, hl, by rw [s.length]; exact hw, fun p hp => ?_⟩)
      have e := hr.imm (immL_cut hi i j)
      subst e
      exact q _ _ _ (sA.trans (Same.upd_new hp)) (FR.vok sA (.tup (.inl (.inl upd_same)) (hr.same (Same.upd_new hp))) List.nodup_nil (fun a ha => (nomatch ha)) E)
    · rename_i kvs ed
      rintro ⟨ns, e, q⟩
      rw [ed, e] at r
      generalize hk : scrP ns = kk at r
      cases r with
      | jnk _ => simp [scrP] at hk
      | set _ _ => simp [scrP] at hk
      | dk _ _ _ => simp [scrP] at hk
      | dt _ _ _ => simp [scrP] at hk
      | ins _ _ _ => simp [scrP] at hk
      | xc _ _ => simp [scrP] at hk
      | @scr l ms hsc =>
        have e2 := script_inj (List.cons.inj hk).2
        subst e2
        have sq : SqL X.K H3 l (ns.map V.int) := by
          rcases hsc with ⟨o, h⟩ | h
          · exact .inl (.inr ⟨o, h⟩)
          · exact .inr h
        refine .inl ⟨l, _, rfl, sq, fun p hp => ?_⟩
        obtain ⟨L, hs, hr⟩ := (rps_ints X.K H3 ns).cut i j
        have e := hr.imm (immL_cut (imm_ints ns) i j)
        subst e
        exact q _ _ _ (sA.trans (Same.upd_new hp)) (FR.vok sA (.lst upd_same (hr.same (Same.upd_new hp))) (by simp) (fun a ha => by rw [List.mem_singleton.mp ha]; exact hp) E)
    · exact False.elim

/-! ### displays -/
def ndB : List Nat → Bool
  | [] => true
  | x :: xs => !xs.contains x && ndB xs
theorem ndB_ok : ∀ {xs : List Nat}, ndB xs = true → xs.Nodup
  | [], _ => List.nodup_nil
  | x :: xs, h => by
    have h' : (!xs.contains x) = true ∧ ndB xs = true := by simpa only [ndB, Bool.and_eq_true] using h
    exact List.nodup_cons.mpr ⟨by simpa using h'.1, ndB_ok h'.2⟩
def mkV (c : List D → D) (xs : List Val) : Val := ⟨c (xs.map Val.d), xs.all Val.own && ndB (xs.flatMap Val.roots), xs.flatMap Val.roots⟩
def dLst (g : DA) : DE := fun δ P => g δ fun xs => xs.length ≤ sizeLine ∧ P (mkV .list xs)
def dTup (g : DA) : DE := fun δ P => g δ fun xs => xs.length ≤ sizeLine ∧ P (mkV .tuple xs)
theorem ev_lst (ha : EA G X es g) : EV G X (.List es pos) (dLst g) := by
  refine ⟨fun δ P P' h q => ha.mono _ _ _ (fun xs q => ⟨q.1, h _ q.2⟩) q, fun H0 π hG => pei (pe_lst (ha.pa H0 π hG)) fun σ H Q ⟨δ, ν, E, q⟩ => ?_⟩
  refine ⟨δ, ν, E, ha.mono _ _ _ (fun xs q vs H1 Ms s1 o1 => ⟨by rw [o1.length]; exact q.1, fun p hp => ?_⟩) q⟩
  have npm : ∀ a ∈ Ms.flatten, a ≠ p := fun a ha e => o1.rps.trk a ha (e ▸ hp)
  refine q.2 _ _ (p :: Ms.flatten) (s1.trans (Same.upd_new hp)) ⟨.lst upd_same (o1.rps.same (Same.upd_new hp)), fun o => ?_, fun o a ha => ?_, fun j s h o n a ha hm => ?_⟩
  · have o' : xs.all Val.own = true ∧ ndB (xs.flatMap Val.roots) = true := by simpa only [mkV, Bool.and_eq_true] using o
    exact List.nodup_cons.mpr ⟨fun h => npm p h rfl, o1.nd o'.1 (ndB_ok o'.2)⟩
  · have o' : xs.all Val.own = true ∧ ndB (xs.flatMap Val.roots) = true := by simpa only [mkV, Bool.and_eq_true] using o
    rcases List.mem_cons.mp ha with rfl | ha
    · exact .inl (s1.free hp)
    · exact o1.fr o'.1 a ha
  · rcases List.mem_cons.mp hm with rfl | hm
    · exact E.trk h a ha (s1.free hp)
    · exact o1.al j s h o n a ha hm
theorem ev_tup {x1} (ha : EA G X es g) : EV G X (.Tuple es x1 pos) (dTup g) := by
  refine ⟨fun δ P P' h q => ha.mono _ _ _ (fun xs q => ⟨q.1, h _ q.2⟩) q, fun H0 π hG => pei (pe_tup (ha.pa H0 π hG)) fun σ H Q ⟨δ, ν, E, q⟩ => ?_⟩
  refine ⟨δ, ν, E, ha.mono _ _ _ (fun xs q vs H1 Ms s1 o1 => ⟨by rw [o1.length]; exact q.1, fun p hp => ?_⟩) q⟩
  refine q.2 _ _ Ms.flatten (s1.trans (Same.upd_new hp)) ⟨.tup (.inl (.inl upd_same)) (o1.rps.same (Same.upd_new hp)), fun o => ?_, fun o a ha => ?_, fun j s h o n a ha hm => o1.al j s h o n a ha hm⟩
  · have o' : xs.all Val.own = true ∧ ndB (xs.flatMap Val.roots) = true := by simpa only [mkV, Bool.and_eq_true] using o
    exact o1.nd o'.1 (ndB_ok o'.2)
  · have o' : xs.all Val.own = true ∧ ndB (xs.flatMap Val.roots) = true := by simpa only [mkV, Bool.and_eq_true] using o
    exact o1.fr o'.1 a ha

/-! ### built-ins -/
theorem Rps.one_ {K : PySem.W.Frag} {H : Hp} {xs : List V} {d : D} {N : List Addr} (r : Rps K H xs [d] N) : ∃ v, xs = [v] ∧ Rp K H v d N := by
  cases r with
  | cons r s => cases s; exact ⟨_, rfl, by simpa using r⟩
theorem Rps.two_ {K : PySem.W.Frag} {H : Hp} {xs : List V} {d e : D} {N : List Addr} (r : Rps K H xs [d, e] N) : ∃ v w A B, xs = [v, w] ∧ Rp K H v d A ∧ Rp K H w e B := by
  cases r with
  | cons r s =>
    obtain ⟨w, rfl, q⟩ := s.one_
    exact ⟨_, _, _, _, rfl, r, q⟩
def kLen : KL := fun ds Q => match ds with
  | [.list xs] => Q (.int xs.length)
  | [.tuple xs] => Q (.int xs.length)
  | [.str z] => z.length ≤ sizeLine ∧ Q (.int z.length)
  | _ => False
theorem call_lenG : CallR X (.builtin "len") (fun xs H Q => (∃ p ys, xs = [.ref p] ∧ (SqL X.K H p ys ∨ SqT X.K H p ys) ∧ Q (.int ys.length) H) ∨ (∃ z, xs = [.str z] ∧ z.length ≤ sizeLine ∧ Q (.int z.length) H)) :=
  call_len_seq.or call_len_str
theorem ok_len : RLOk X (fun xs H Q => (∃ p ys, xs = [.ref p] ∧ (SqL X.K H p ys ∨ SqT X.K H p ys) ∧ Q (.int ys.length) H) ∨ (∃ z, xs = [.str z] ∧ z.length ≤ sizeLine ∧ Q (.int z.length) H)) kLen := by
  refine ⟨fun ds Q Q' h q => ?_, fun H xs ds N Q R r q h => ?_⟩
  · unfold kLen at *; split at q
    · exact h _ q
    · exact h _ q
    · exact ⟨q.1, h _ q.2⟩
    · exact q.elim
  · unfold kLen at q; split at q
    · obtain ⟨v, rfl, u⟩ := r.one_
      obtain ⟨a, ys, M, rfl, rfl, ha, s⟩ := u.list_
      refine .inl ⟨a, ys, rfl, .inl (SqL.of ha), h _ _ (FR.imm (.int _) rfl ?_)⟩
      rw [s.length]; exact q
    · obtain ⟨v, rfl, u⟩ := r.one_
      obtain ⟨a, ys, rfl, ha, s⟩ := u.tuple_
      refine .inl ⟨a, ys, rfl, .inr ha, h _ _ (FR.imm (.int _) rfl ?_)⟩
      rw [s.length]; exact q
    · obtain ⟨v, rfl, u⟩ := r.one_
      rw [u.str_]
      exact .inr ⟨_, rfl, q.1, h _ _ (FR.imm (.int _) rfl q.2)⟩
    · exact q.elim
def kAbs : KL := fun ds Q => match ds with
  | [.int i] => Q (.int i.natAbs)
  | _ => False
theorem ok_abs : RLOk X (fun xs H Q => ∃ i, xs = [.int i] ∧ Q (.int (if i < 0 then -i else i)) H) kAbs := by
  refine ⟨fun ds Q Q' h q => ?_, fun H xs ds N Q R r q h => ?_⟩
  · unfold kAbs at *; split at q
    · exact h _ q
    · exact q.elim
  · unfold kAbs at q; split at q
    · rename_i i
      obtain ⟨v, rfl, u⟩ := r.one_
      rw [u.int_]
      refine ⟨_, rfl, h _ _ (FR.imm (.int _) rfl ?_)⟩
      rw [show (if i < 0 then -i else i) = (i.natAbs : Int) by split <;> omega]
      exact q
    · exact q.elim
/-- max, min: of two ints or of one list of ints -/
def kMax : KL := fun ds Q => match ds with
  | [.int i, .int j] => Q (.int (max i j))
  | [.list xs] => ∃ ns : List Int, (xs = ns.map PyData.int ∧ 0 < ns.length) ∧ ∀ m, m ∈ ns → (∀ y, y ∈ ns → y ≤ m) → Q (.int m)
  | _ => False
def kMin : KL := fun ds Q => match ds with
  | [.int i, .int j] => Q (.int (min i j))
  | [.list xs] => ∃ ns : List Int, (xs = ns.map PyData.int ∧ 0 < ns.length) ∧ ∀ m, m ∈ ns → (∀ y, y ∈ ns → m ≤ y) → Q (.int m)
  | _ => False
theorem ok_max : RLOk X (fun xs H Q => (∃ i j, xs = [.int i, .int j] ∧ Q (.int (if j > i then j else i)) H) ∨ rMax X.K xs H Q) kMax := by
  refine ⟨fun ds Q Q' h q => ?_, fun H xs ds N Q R r q h => ?_⟩
  · unfold kMax at *; split at q
    · exact h _ q
    · obtain ⟨ns, a, b⟩ := q
      exact ⟨ns, a, fun m x y => h _ (b m x y)⟩
    · exact q.elim
  · unfold kMax at q; split at q
    · rename_i i j
      obtain ⟨v, w, A, B, rfl, r1, r2⟩ := r.two_
      rw [r1.int_, r2.int_]
      refine .inl ⟨_, _, rfl, h _ _ (FR.imm (.int _) rfl ?_)⟩
      rw [show (if j > i then j else i) = max i j by split <;> omega]
      exact q
    · obtain ⟨ns, ⟨rfl, b⟩, c⟩ := q
      obtain ⟨v, rfl, u⟩ := r.one_
      obtain ⟨a, ys, M, rfl, rfl, ha, s⟩ := u.list_
      have e := s.ints
      subst e
      exact .inr ⟨a, ns, rfl, SqL.of ha, b, fun m x y => h _ _ (FR.imm (.int _) rfl (c m x y))⟩
    · exact q.elim
theorem ok_min : RLOk X (fun xs H Q => (∃ i j, xs = [.int i, .int j] ∧ Q (.int (if j < i then j else i)) H) ∨ rMin X.K xs H Q) kMin := by
  refine ⟨fun ds Q Q' h q => ?_, fun H xs ds N Q R r q h => ?_⟩
  · unfold kMin at *; split at q
    · exact h _ q
    · obtain ⟨ns, a, b⟩ := q
      exact ⟨ns, a, fun m x y => h _ (b m x y)⟩
    · exact q.elim
  · unfold kMin at q; split at q
    · rename_i i j
      obtain ⟨v, w, A, B, rfl, r1, r2⟩ := r.two_
      rw [r1.int_, r2.int_]
      refine .inl ⟨_, _, rfl, h _ _ (FR.imm (.int _) rfl ?_)⟩
      rw [show (if j < i then j else i) = min i j by split <;> omega]
      exact q
    · obtain ⟨ns, ⟨rfl, b⟩, c⟩ := q
      obtain ⟨v, rfl, u⟩ := r.one_
      obtain ⟨a, ys, M, rfl, rfl, ha, s⟩ := u.list_
      have e := s.ints
      subst e
      exact .inr ⟨a, ns, rfl, SqL.of ha, b, fun m x y => h _ _ (FR.imm (.int _) rfl (c m x y))⟩
    · exact q.elim
theorem call_maxG (hc : X.calm = true) : CallR X (.builtin "max") (fun xs H Q => (∃ i j, xs = [.int i, .int j] ∧ Q (.int (if j > i then j else i)) H) ∨ rMax X.K xs H Q) := (call_max2 hc).or (cr_max hc)
theorem call_minG (hc : X.calm = true) : CallR X (.builtin "min") (fun xs H Q => (∃ i j, xs = [.int i, .int j] ∧ Q (.int (if j < i then j else i)) H) ∨ rMin X.K xs H Q) := (call_min2 hc).or (cr_min hc)
def kSum : KL := fun ds Q => match ds with
  | [.list xs] => ∃ ns : List Int, xs = ns.map PyData.int ∧ Q (.int ns.sum)
  | _ => False
theorem ok_sum : RLOk X (rSum X.K) kSum := by
  refine ⟨fun ds Q Q' h q => ?_, fun H xs ds N Q R r q h => ?_⟩
  · unfold kSum at *; split at q
    · obtain ⟨ns, a, b⟩ := q
      exact ⟨ns, a, h _ b⟩
    · exact q.elim
  · unfold kSum at q; split at q
    · obtain ⟨ns, rfl, c⟩ := q
      obtain ⟨v, rfl, u⟩ := r.one_
      obtain ⟨a, ys, M, rfl, rfl, ha, s⟩ := u.list_
      have e := s.ints
      subst e
      exact ⟨a, ns, rfl, SqL.of ha, h _ _ (FR.imm (.int _) rfl c)⟩
    · exact q.elim
def kList : KL := fun ds Q => match ds with
  | [.list xs] => immL xs = true ∧ Q (.list xs)
  | [.tuple xs] => immL xs = true ∧ Q (.list xs)
  | _ => False
theorem ok_list : RLOk X (fun xs H Q => ∃ p ys, xs = [.ref p] ∧ (SqL X.K H p ys ∨ SqT X.K H p ys) ∧ ∀ l, H l = none → Q (.ref l) (upd H l (.lst ys))) kList := by
  refine ⟨fun ds Q Q' h q => ?_, fun H xs ds N Q R r q h => ?_⟩
  · unfold kList at *; split at q
    · exact ⟨q.1, h _ q.2⟩
    · exact ⟨q.1, h _ q.2⟩
    · exact q.elim
  · unfold kList at q; split at q
    · obtain ⟨v, rfl, u⟩ := r.one_
      obtain ⟨a, ys, M, rfl, rfl, ha, s⟩ := u.list_
      exact ⟨a, ys, rfl, .inl (SqL.of ha), fun l hl => h _ _ (FR.newL hl s q.1 q.2)⟩
    · obtain ⟨v, rfl, u⟩ := r.one_
      obtain ⟨a, ys, rfl, ha, s⟩ := u.tuple_
      exact ⟨a, ys, rfl, .inr ha, fun l hl => h _ _ (FR.newL hl s q.1 q.2)⟩
    · exact q.elim
def kTuple : KL := fun ds Q => match ds with
  | [.list xs] => immL xs = true ∧ Q (.tuple xs)
  | [.tuple xs] => immL xs = true ∧ Q (.tuple xs)
  | _ => False
theorem ok_tuple : RLOk X (fun xs H Q => ∃ p ys, xs = [.ref p] ∧ ((SqL X.K H p ys ∧ ∀ l, H l = none → Q (.ref l) (upd H l (.tup ys))) ∨ (SqT X.K H p ys ∧ Q (.ref p) H))) kTuple := by
  refine ⟨fun ds Q Q' h q => ?_, fun H xs ds N Q R r q h => ?_⟩
  · unfold kTuple at *; split at q
    · exact ⟨q.1, h _ q.2⟩
    · exact ⟨q.1, h _ q.2⟩
    · exact q.elim
  · unfold kTuple at q; split at q
    · obtain ⟨v, rfl, u⟩ := r.one_
      obtain ⟨a, ys, M, rfl, rfl, ha, s⟩ := u.list_
      exact ⟨a, ys, rfl, .inl ⟨SqL.of ha, fun l hl => h _ _ (FR.newT hl s q.1 q.2)⟩⟩
    · obtain ⟨v, rfl, u⟩ := r.one_
      obtain ⟨a, ys, rfl, ha, s⟩ := u.tuple_
      exact ⟨a, ys, rfl, .inr ⟨ha, h _ _ (FR.imm (.tup ha s) (by simpa [KT.imm] using q.1) q.2)⟩⟩
    · exact q.elim
def kInt : KL := fun ds Q => match ds with
  | [.int i] => Q (.int i)
  | [.bool b] => Q (.int (if b then 1 else 0))
  | _ => False
theorem ok_int : RLOk X (fun xs H Q => (∃ i, xs = [.int i] ∧ Q (.int i) H) ∨ ∃ k, xs = [.bl k] ∧ Q (.int (if k then 1 else 0)) H) kInt := by
  refine ⟨fun ds Q Q' h q => ?_, fun H xs ds N Q R r q h => ?_⟩
  · unfold kInt at *; split at q
    · exact h _ q
    · exact h _ q
    · exact q.elim
  · unfold kInt at q; split at q
    · obtain ⟨v, rfl, u⟩ := r.one_
      rw [u.int_]
      exact .inl ⟨_, rfl, h _ _ (FR.imm (.int _) rfl q)⟩
    · obtain ⟨v, rfl, u⟩ := r.one_
      rw [u.bool_]
      exact .inr ⟨_, rfl, h _ _ (FR.imm (.int _) rfl q)⟩
    · exact q.elim
def kSorted : KL := fun ds Q => match ds with
  | [.list xs] => ∃ ns : List Int, xs = ns.map PyData.int ∧ ∀ ms : List Int, ms.Perm ns → ms.Pairwise (· ≤ ·) → Q (.list (ms.map PyData.int))
  | _ => False
theorem ok_sorted : RLOk X (rSortedI X.K) kSorted := by
  refine ⟨fun ds Q Q' h q => ?_, fun H xs ds N Q R r q h => ?_⟩
  · unfold kSorted at *; split at q
    · obtain ⟨ns, a, b⟩ := q
      exact ⟨ns, a, fun ms x y => h _ (b ms x y)⟩
    · exact q.elim
  · unfold kSorted at q; split at q
    · obtain ⟨ns, rfl, c⟩ := q
      obtain ⟨v, rfl, u⟩ := r.one_
      obtain ⟨a, ys, M, rfl, rfl, ha, s⟩ := u.list_
      have e := s.ints
      subst e
      exact ⟨a, ns, rfl, SqL.of ha, fun ms p x y hp => h _ _ (FR.newL hp (rps_ints _ _ ms) (imm_ints ms) (c ms x y))⟩
    · exact q.elim

/-! ### isinstance of a built-in class -/
def tyD : D → String
  | .none => "NoneType"
  | .bool _ => "bool"
  | .int _ => "int"
  | .str _ => "str"
  | .list _ => "list"
  | .tuple _ => "tuple"
  | .dict _ => "list"
def isiB (T : String) : D → Bool
  | .none => T == "NoneType"
  | .bool _ => T == "bool" || T == "int"
  | .int _ => T == "int"
  | .str _ => T == "str"
  | .list _ => T == "list"
  | .tuple _ => T == "tuple"
  | .dict _ => T == "list"
/-- a datum that tells nothing of its kind -/
def isJ : D → Bool
  | .dict ((.int _, .none) :: _) => false
  | .dict _ => true
  | _ => false
def kIsi (T : String) : K1 := fun d Q => match isJ d with
  | true => False
  | false => Q (.bool (isiB T d))
theorem Rp.tyx {K : PySem.W.Frag} {H : Hp} {v : V} {d : D} {N : List Addr} (r : Rp K H v d N) (hj : isJ d = false) : TyX K H v (.type (tyD d)) := by
  cases r with
  | jnk _ => cases hj
  | set _ _ => cases hj
  | dk _ _ _ => cases hj
  | dt _ _ _ => cases hj
  | ins _ _ _ => cases hj
  | xc _ _ => cases hj
  | non => exact .base .non
  | bl c => exact .base (.bl c)
  | int i => exact .base (.int i)
  | str x => exact .base (.str x)
  | lst h _ => exact .base (.lst h)
  | tup h _ =>
    rcases h with (h | ⟨o, h⟩) | ⟨o, its, n, h1, h2, h3⟩
    · exact .base (.tup h)
    · exact .fTuple h
    · exact .kTuple h1 h2
  | scr h =>
    rcases h with ⟨o, h⟩ | ⟨o, its, n, h1, h2, h3⟩
    · exact .base (.frz h)
    · exact .kList h1 h2
theorem ev_isi {T : String} {x : Str} {p p' : Pos} (hg : Gl X "isinstance") (hm : X.mg "isinstance" = none) (hgT : Gl X x) (hmT : X.mg x = none) (hvT : bootBuiltins x = some (.type T)) (ha : EV G X a fa)
    (hk : (["NoneType", "bool", "int", "str", "list", "tuple"].all fun U => kitB U T == some (if U == "bool" then T == "bool" || T == "int" else T == U)) = true) (hn : x ≠ "__name__" := by decide) (hdb : (x == ("__debug__" : Str)) = false := by decide)
    (he : starEach [a, .Name x p'] X.env = (false, eval a X.env) :: starEach [.Name x p'] X.env := by rfl) (he2 : starEach [Expr.Name x p'] X.env = (false, eval (.Name x p') X.env) :: starEach [] X.env := by rfl)
    (hpl : (backTo pos (starEach [Expr.Name x p'] X.env)).any (·.1) = false := by rfl) :
    EV G X (.Call (.Name "isinstance" p) [a, .Name x p'] [] pos) (dUn (kIsi T) fa) := by
  have hk1 : R1Ok X (fun u H Q => rIsi X.K [u, .ty T] H Q) (kIsi T) := by
    refine ⟨fun d Q Q' h q => ?_, fun H u d N Q R r q h => ?_⟩
    · unfold kIsi at *
      cases hj : isJ d with
      | true => rw [hj] at q; exact q.elim
      | false => rw [hj] at q; exact h _ q
    have hj : isJ d = false := by
      cases hj : isJ d with
      | true => unfold kIsi at q; rw [hj] at q; exact q.elim
      | false => rfl
    have q : Q (.bool (isiB T d)) := by unfold kIsi at q; rw [hj] at q; exact q
    refine ⟨u, .ty T, _, _, isiB T d, rfl, .ty T, r.tyx hj, kit_ty ?_, h _ _ (FR.imm (.bl _) rfl q)⟩
    have g : ∀ U ∈ ["NoneType", "bool", "int", "str", "list", "tuple"], kitB U T = some (if U == "bool" then T == "bool" || T == "int" else T == U) := fun U hU => by
      simpa using List.all_eq_true.mp hk U hU
    cases d <;> exact g _ (by simp [tyD])
  exact ev_un1 hk1 ha fun {ta} h => pe_callB call_isi hg hm boot_isinstance (pa_cons h (pa_cons (pe_bltn hgT hmT hvT (v := .ty T) rfl hn hdb) pa_nil he2) he) (by decide) (by decide) he hpl
end
end KT
/-! KtE: statements. -/
namespace KT
open PySem PySem.Spec PyProof.Rows L2
variable [WT]

structure DEnds where
  nx : En → Prop
  rt : Val → En → Prop
abbrev DS := DEnds → En → Prop
/-- the wanted ends, as the data see them -/
def dEnds (K : PySem.W.Frag) (H0 : Hp) (π : Nat → Option V) (D : Ends) : DEnds where
  nx := fun δ => ∀ σ H ν, EnvOk K H0 π H σ δ ν → D.nx σ H
  rt := fun x δ => ∀ v σ H H' ν M, EnvOk K H0 π H σ δ ν → Same H H' → VOk K H δ ν H' v x M → D.rt v H'
def semS (K : PySem.W.Frag) (H0 : Hp) (π : Nat → Option V) (m : DS) : TS := fun D σ H => ∃ δ ν, EnvOk K H0 π H σ δ ν ∧ m (dEnds K H0 π D) δ
def MonoS (m : DS) : Prop := ∀ (A B : DEnds) δ, (∀ δ, A.nx δ → B.nx δ) → (∀ x δ, A.rt x δ → B.rt x δ) → m A δ → m B δ
structure SV (G : GT) (X : Cx) (st : Stmt) (m : DS) : Prop where
  mono : MonoS m
  ps : ∀ H0 π, G H0 π → PS X st (semS X.K H0 π m)
structure SVs (G : GT) (X : Cx) (st : List Stmt) (m : DS) : Prop where
  mono : MonoS m
  pss : ∀ H0 π, G H0 π → PSs X st (semS X.K H0 π m)
theorem psi {X : Cx} {st : Stmt} {t t' : TS} (h : PS X st t) (i : ∀ D σ H, t' D σ H → t D σ H) : PS X st t' :=
  ⟨fun pins s σ H D I q => h.run pins s σ H D I (i D σ H q)⟩
theorem pssi {X : Cx} {st : List Stmt} {t t' : TS} (h : PSs X st t) (i : ∀ D σ H, t' D σ H → t D σ H) : PSs X st t' :=
  ⟨fun pins s σ H D I q => h.run pins s σ H D I (i D σ H q)⟩
section
variable {X : Cx} {a b e c : Expr} {es : List Expr} {fa fb f : DE} {g : DA} {t : DT} {pos : Pos} {st : Stmt} {sts : List Stmt} {m n : DS}

def mNil : DS := fun E δ => E.nx δ
def mSeq (m n : DS) : DS := fun E δ => m ⟨n E, E.rt⟩ δ
theorem svs_nil : SVs G X [] mNil := ⟨fun A B δ h1 h2 q => h1 _ q, fun H0 π hG => pssi pss_nil fun D σ H ⟨δ, ν, E, q⟩ => q σ H ν E⟩
theorem mseq_mono (h1 : MonoS m) (h2 : MonoS n) : MonoS (mSeq m n) := fun A B δ i1 i2 q => h1 ⟨n A, A.rt⟩ ⟨n B, B.rt⟩ δ (fun δ q => h2 A B δ i1 i2 q) i2 q
theorem svs_cons (h1 : SV G X st m) (h2 : SVs G X sts n) : SVs G X (st :: sts) (mSeq m n) := by
  refine ⟨mseq_mono h1.mono h2.mono, fun H0 π hG => pssi (pss_cons (h1.ps H0 π hG) (h2.pss H0 π hG)) fun D σ H ⟨δ, ν, E, q⟩ => ?_⟩
  exact ⟨δ, ν, E, h1.mono ⟨n (dEnds X.K H0 π D), (dEnds X.K H0 π D).rt⟩ _ _ (fun δ q σ' H' ν' E' => ⟨δ, ν', E', q⟩) (fun x δ q => q) q⟩
theorem svs_one (h1 : SV G X st m) : SVs G X [st] m := ⟨h1.mono, fun H0 π hG => pss_one (h1.ps H0 π hG)⟩
theorem sv_pass : SV G X (.Pass pos) mNil := ⟨fun A B δ h1 h2 q => h1 _ q, fun H0 π hG => psi ps_pass fun D σ H ⟨δ, ν, E, q⟩ => q σ H ν E⟩

/-- x = e; k: the names in e are given up (else their lists are shared from here on) -/
def stor (δ : En) (i : Nat) (x : Val) (k : Bool) : En := match k with
  | true => (killR δ x.roots).set i (some ⟨x.d, x.own, false⟩)
  | false => (demR δ x.roots).set i (some ⟨x.d, (match x.roots with | [] => x.own | _ => false), false⟩)
def storK (δ : En) (i : Nat) (x : Val) (k : Bool) (P : En → Prop) : Prop := match k with
  | true => killK δ x.roots fun δ' => setK δ' i (some ⟨x.d, x.own, false⟩) P
  | false => demK δ x.roots fun δ' => setK δ' i (some ⟨x.d, (match x.roots with | [] => x.own | _ => false), false⟩) P
theorem storK_eq (δ : En) (i : Nat) (x : Val) (k : Bool) (P : En → Prop) : storK δ i x k P = P (stor δ i x k) := by
  cases k
  · show demK δ x.roots (fun δ' => setK δ' i _ P) = _
    rw [demK_eq, setK_eq]
    rfl
  · show killK δ x.roots (fun δ' => setK δ' i _ P) = _
    rw [killK_eq, setK_eq]
    rfl
def mSet (i : Nat) (k : Bool) (f : DE) : DS := fun E δ => f δ fun x => storK δ i x k E.nx
theorem stor_ok {K : PySem.W.Frag} {H0 H H' : Hp} {π : Nat → Option V} {σ : L2.St} {δ : En} {ν : Nu} {v : V} {x : Val} {M : List Addr} (E : EnvOk K H0 π H σ δ ν) (s : Same H H') (q : VOk K H δ ν H' v x M) (i : Nat) (k : Bool) :
    EnvOk K H0 π H' (σ.set i (some v)) (stor δ i x k) (fun j => if j = i then M else ν j) := by
  unfold stor
  cases k with
  | true => exact ((E.same s).kill x.roots).set (q.killed E) i
  | false =>
    dsimp only
    split
    · rename_i e
      have q' := q.killed E
      rw [e] at q' ⊢
      exact (E.same s).set q' i
    · exact ((E.same s).dem x.roots).set (q.demoted E) i
theorem set_sem {H0 : Hp} {π : Nat → Option V} {K : PySem.W.Frag} {i : Nat} {k : Bool} (hm : ∀ δ (P P' : Val → Prop), (∀ x, P x → P' x) → f δ P → f δ P') {D : Ends} {σ : L2.St} {H : Hp} (h : semS K H0 π (mSet i k f) D σ H) :
    tAsg (semE K H0 π f) (gName i) D σ H := by
  obtain ⟨δ, ν, E, q⟩ := h
  exact ⟨δ, ν, E, hm _ _ _ (fun x q v H1 M s1 o1 => by rw [storK_eq] at q; exact q _ _ _ (stor_ok E s1 o1 i k)) q⟩
theorem mset_mono {i : Nat} {k : Bool} (hm : ∀ δ (P P' : Val → Prop), (∀ x, P x → P' x) → f δ P → f δ P') : MonoS (mSet i k f) := fun A B δ h1 h2 q => hm _ _ _ (fun x q => by rw [storK_eq] at q ⊢; exact h1 _ q) q
theorem sv_set (i : Nat) (k : Bool) {x : Str} {pos' : Pos} (hN : X.N.Nodup) (he : EV G X e f) (hi : X.N[i]? = some x := by rfl) (hx : Loc X.env.scope x := by first | exact Or.inl rfl | exact Or.inr rfl)
    (hs : swapsWith e (some (.Name x pos')) pos.line X.env = pure false := by rfl) (hf : X.fn x = true ∨ X.env.scope.names.lookup x = some .local := by first | exact .inl rfl | exact .inr rfl | assumption) :
    SV G X (.Assign [.Name x pos'] e pos) (mSet i k f) :=
  ⟨mset_mono he.mono, fun H0 π hG => psi (ps_set hN hi hx (he.pe H0 π hG) hs hf) fun D σ H h => set_sem he.mono h⟩
/-- return -/
def mRet (f : DE) : DS := fun E δ => f δ fun x => E.rt x δ
theorem sv_ret (he : EV G X e f) : SV G X (.Return (some e) pos) (mRet f) := by
  refine ⟨fun A B δ h1 h2 q => he.mono _ _ _ (fun x q => h2 _ _ q) q, fun H0 π hG => psi (ps_ret (he.pe H0 π hG)) fun D σ H ⟨δ, ν, E, q⟩ => ?_⟩
  exact ⟨δ, ν, E, he.mono _ _ _ (fun x q v H1 M s1 o1 => q v σ H H1 ν M E s1 o1) q⟩
def mRetN : DS := fun E δ => E.rt ⟨.none, true, []⟩ δ
theorem sv_retN : SV G X (.Return none pos) mRetN := by
  refine ⟨fun A B δ h1 h2 q => h2 _ _ q, fun H0 π hG => psi ps_retN fun D σ H ⟨δ, ν, E, q⟩ => ?_⟩
  exact q .non σ H H ν [] E (Same.refl H) (VOk.imm .non rfl)
/-- an expression alone -/
def mExpr (f : DE) : DS := fun E δ => f δ fun _ => E.nx δ
theorem sv_expr (he : EV G X e f) (hs : swapsWith e none pos.line X.env = pure false := by rfl) : SV G X (.Expr e pos) (mExpr f) := by
  refine ⟨fun A B δ h1 h2 q => he.mono _ _ _ (fun x q => h1 _ q) q, fun H0 π hG => psi (ps_expr (he.pe H0 π hG) hs) fun D σ H ⟨δ, ν, E, q⟩ => ?_⟩
  exact ⟨δ, ν, E, he.mono _ _ _ (fun x q v H1 M s1 o1 => q _ _ _ (E.same s1)) q⟩
/-- if -/
def mIf (t : DT) (m n : DS) : DS := fun E δ => t δ fun b => match b with
  | true => m E δ
  | false => n E δ
theorem sv_if {sa sb : List Stmt} (hc : ET G X c t) (ha : SVs G X sa m) (hb : SVs G X sb n) : SV G X (.If c sa sb pos) (mIf t m n) := by
  refine ⟨fun A B δ h1 h2 q => hc.mono _ _ _ (fun b q => ?_) q, fun H0 π hG => psi (ps_if (hc.pt H0 π hG) (ha.pss H0 π hG) (hb.pss H0 π hG)) fun D σ H ⟨δ, ν, E, q⟩ => ?_⟩
  · cases b
    · exact hb.mono A B δ h1 h2 q
    · exact ha.mono A B δ h1 h2 q
  · refine ⟨δ, ν, E, hc.mono _ _ _ (fun b q H1 s1 => ?_) q⟩
    cases b
    · exact ⟨δ, ν, E.same s1, q⟩
    · exact ⟨δ, ν, E.same s1, q⟩
/-- while -/
def whI (t : DT) (m : DS) (E : DEnds) : Nat → En → Prop
  | 0, _ => False
  | n + 1, δ => t δ fun b => match b with
    | true => m ⟨whI t m E n, E.rt⟩ δ
    | false => E.nx δ
def mWhile (t : DT) (m : DS) : DS := fun E δ => ∃ n, whI t m E n δ
theorem whI_mono (ht : ∀ δ (P P' : Bool → Prop), (∀ x, P x → P' x) → t δ P → t δ P') (hm : MonoS m) {A B : DEnds} (h1 : ∀ δ, A.nx δ → B.nx δ) (h2 : ∀ x δ, A.rt x δ → B.rt x δ) : ∀ n δ, whI t m A n δ → whI t m B n δ
  | 0, _, q => q
  | n + 1, δ, q => ht _ _ _ (fun b q => by
    cases b
    · exact h1 _ q
    · exact hm ⟨whI t m A n, A.rt⟩ ⟨whI t m B n, B.rt⟩ δ (fun δ q => whI_mono ht hm h1 h2 n δ q) h2 q) q
theorem sv_while {sa : List Stmt} (hp : PassesOwn (model X.prog X.w) X.A X.env X.xe) (hc : ET G X c t) (ha : SVs G X sa m) : SV G X (.While c sa [] pos) (mWhile t m) := by
  refine ⟨fun A B δ h1 h2 ⟨n, q⟩ => ⟨n, whI_mono hc.mono ha.mono h1 h2 n δ q⟩, fun H0 π hG => psi (ps_while hp (hc.pt H0 π hG) (ha.pss H0 π hG)) fun D σ H ⟨δ, ν, E, n, q⟩ => ?_⟩
  refine ⟨fun n σ H => ∃ δ ν, EnvOk X.K H0 π H σ δ ν ∧ whI t m (dEnds X.K H0 π D) n δ, ⟨n, δ, ν, E, q⟩, fun n σ H ⟨δ, ν, E, q⟩ => ?_⟩
  cases n with
  | zero => exact q.elim
  | succ n =>
    refine ⟨δ, ν, E, hc.mono _ _ _ (fun b q H1 s1 => ?_) q⟩
    cases b with
    | false => exact q _ _ _ (E.same s1)
    | true =>
      rw [if_pos rfl]
      refine ⟨fun σ H => ∃ δ ν, EnvOk X.K H0 π H σ δ ν ∧ whI t m (dEnds X.K H0 π D) n δ, fun σ' H' q => ⟨n, Nat.lt_succ_self n, q⟩, δ, ν, E.same s1, ?_⟩
      exact ha.mono ⟨whI t m (dEnds X.K H0 π D) n, (dEnds X.K H0 π D).rt⟩ _ _ (fun δ q σ' H' ν' E' => ⟨δ, ν', E', q⟩) (fun x δ q => q) q

/-! ### targets -/
/-- a, b, .. = the items of a tuple -/
def setAll : En → List Nat → List D → Bool → En
  | δ, i :: is, d :: ds, o => setAll (δ.set i (some ⟨d, o, false⟩)) is ds o
  | δ, _, _, _ => δ
def setAllK : En → List Nat → List D → Bool → (En → Prop) → Prop
  | δ, i :: is, d :: ds, o, P => setK δ i (some ⟨d, o, false⟩) fun δ' => setAllK δ' is ds o P
  | δ, _, _, _, P => P δ
theorem setAllK_eq : ∀ (is : List Nat) (ds : List D) (δ : En) (o : Bool) (P : En → Prop), setAllK δ is ds o P = P (setAll δ is ds o)
  | [], ds, δ, o, P => by simp only [setAllK, setAll]
  | i :: is, [], δ, o, P => by simp only [setAllK, setAll]
  | i :: is, d :: ds, δ, o, P => by
    simp only [setAllK, setAll]
    rw [setK_eq, setAllK_eq is ds]
def setAllV : L2.St → List Nat → List V → L2.St
  | σ, i :: is, v :: vs => setAllV (σ.set i (some v)) is vs
  | σ, _, _ => σ
def setNu : Nu → Nat → List Addr → Nu := fun ν i M j => if j = i then M else ν j
theorem set_all_ok {K : PySem.W.Frag} {H0 H : Hp} {π : Nat → Option V} {o : Bool} : ∀ {is : List Nat} {σ : L2.St} {δ : En} {ν : Nu} {vs : List V} {ds : List D} {N : List Addr}, EnvOk K H0 π H σ δ ν → Rps K H vs ds N →
    (o = true → N.Nodup ∧ (∀ a ∈ N, H0 a = none) ∧ ∀ a ∈ N, ∀ j s, δ[j]? = some (some s) → a ∉ ν j) → (∀ j s, δ[j]? = some (some s) → s.own = true → ∀ a ∈ ν j, a ∉ N) → ∃ ν', EnvOk K H0 π H (setAllV σ is vs) (setAll δ is ds o) ν'
  | [], σ, δ, ν, _, _, _, E, r, _, _ => ⟨ν, by simpa only [setAll, setAllV] using E⟩
  | i :: is, σ, δ, ν, _, _, _, E, .nil, _, _ => ⟨ν, by simpa only [setAll, setAllV] using E⟩
  | i :: is, σ, δ, ν, _, _, _, E, .cons (v := v) (vs := vs) (d := d) (ds := ds) (N := N1) (M := N2) r s, h1, h2 => by
    have q : FOk K H0 δ ν H v d o N1 := by
      refine ⟨r, fun z => (List.nodup_append.mp (h1 z).1).1, fun z a ha => (h1 z).2.1 a (List.mem_append_left _ ha), fun z a ha => (h1 z).2.2 a (List.mem_append_left _ ha), fun j t ht ho a ha hm => h2 j t ht ho a ha (List.mem_append_left _ hm)⟩
    have E' := E.set q i
    simp only [setAll, setAllV]
    refine set_all_ok E' s (fun z => ⟨(List.nodup_append.mp (h1 z).1).2.1, fun a ha => (h1 z).2.1 a (List.mem_append_right _ ha), fun a ha j t ht => ?_⟩) fun j t ht ho a ha hm => ?_
    · show a ∉ (if j = i then N1 else ν j)
      by_cases ej : j = i
      · rw [if_pos ej]
        exact fun hm => (List.nodup_append.mp (h1 z).1).2.2 a hm a ha rfl
      · rw [if_neg ej]
        rw [List.getElem?_set_ne (Ne.symm ej)] at ht
        exact (h1 z).2.2 a (List.mem_append_right _ ha) j t ht
    · have ha : a ∈ (if j = i then N1 else ν j) := ha
      by_cases ej : j = i
      · subst ej
        rw [if_pos rfl] at ha
        by_cases hl : j < δ.length
        · rw [List.getElem?_set_self hl] at ht
          cases ht
          have z : o = true := ho
          exact (List.nodup_append.mp (h1 z).1).2.2 a ha a hm rfl
        · rw [List.getElem?_eq_none (by simpa using hl)] at ht; cases ht
      · rw [if_neg ej] at ha
        rw [List.getElem?_set_ne (Ne.symm ej)] at ht
        exact h2 j t ht ho a ha (List.mem_append_right _ hm)
def gNames : List Nat → TGs
  | [] => gNil
  | i :: is => gCons (gName i) (gNames is)
theorem gnames_ok : ∀ {is : List Nat} {vs : List V} {σ : L2.St} {H : Hp} {Q : L2.St → Hp → Prop}, vs.length = is.length → Q (setAllV σ is vs) H → gNames is vs σ H Q
  | [], [], _, _, _, _, q => ⟨rfl, q⟩
  | i :: is, v :: vs, _, _, _, h, q => ⟨v, vs, rfl, gnames_ok (by simpa using h) q⟩
/-- what is stored at a target: a name, or a tuple of names -/
inductive Tgt where
  | nm (i : Nat)
  | tp (is : List Nat)
def gOf (K : PySem.W.Frag) : Tgt → TG
  | .nm i => gName i
  | .tp is => gTup K is.length (gNames is)
def asgT (t : Tgt) (d : D) (o : Bool) (δ : En) (P : En → Prop) : Prop := match t with
  | .nm i => setK δ i (some ⟨d, o, false⟩) P
  | .tp is => (match d with
    | .tuple ds => ds.length = is.length ∧ setAllK δ is ds o P
    | _ => False)
theorem asgT_nm {i : Nat} {d : D} {o : Bool} {δ : En} {P : En → Prop} : asgT (.nm i) d o δ P = P (δ.set i (some ⟨d, o, false⟩)) := setK_eq _ _ _ _
theorem asgT_tp {is : List Nat} {ds : List D} {o : Bool} {δ : En} {P : En → Prop} : asgT (.tp is) (.tuple ds) o δ P = (ds.length = is.length ∧ P (setAll δ is ds o)) := by
  show (ds.length = is.length ∧ setAllK δ is ds o P) = _
  rw [setAllK_eq]
theorem asgT_mono {tg : Tgt} {d : D} {o : Bool} {δ : En} {P Q : En → Prop} (h : ∀ δ, P δ → Q δ) (q : asgT tg d o δ P) : asgT tg d o δ Q := by
  cases tg with
  | nm i =>
    rw [asgT_nm] at q ⊢
    exact h _ q
  | tp is =>
    cases d with
    | tuple ds =>
      rw [asgT_tp] at q ⊢
      exact ⟨q.1, h _ q.2⟩
    | _ => exact q.elim
theorem asgT_ok {K : PySem.W.Frag} {H0 H : Hp} {π : Nat → Option V} {σ : L2.St} {δ : En} {ν : Nu} {v : V} {d : D} {o : Bool} {M : List Addr} {tg : Tgt} {P : En → Prop} {Q : L2.St → Hp → Prop} (E : EnvOk K H0 π H σ δ ν) (q : FOk K H0 δ ν H v d o M)
    (h : asgT tg d o δ P) (i : ∀ σ' δ' ν', EnvOk K H0 π H σ' δ' ν' → P δ' → Q σ' H) : gOf K tg v σ H Q := by
  cases tg with
  | nm j =>
    rw [asgT_nm] at h
    exact i _ _ _ (E.set q j) h
  | tp is =>
    have r := q.rp
    cases d with
    | tuple ds =>
      rw [asgT_tp] at h
      obtain ⟨hl, h⟩ := h
      obtain ⟨a, xs, rfl, ha, s⟩ := r.tuple_
      obtain ⟨ν', E'⟩ := set_all_ok (is := is) E s (fun z => ⟨q.nd z, q.fr z, q.dj z⟩) q.al
      exact ⟨a, xs, rfl, ha, by rw [s.length]; exact hl, gnames_ok (by rw [s.length]; exact hl) (i _ _ _ E' h)⟩
    | _ => exact h.elim
/-- the targets of the text -/
structure TgOk (X : Cx) (tgt : Expr) (tg : Tgt) : Prop where
  pg : PG X tgt (gOf X.K tg)
theorem tg_nm (i : Nat) {x : Str} {pos : Pos} (hN : X.N.Nodup) (hi : X.N[i]? = some x := by rfl) (hx : Loc X.env.scope x := by first | exact Or.inl rfl | exact Or.inr rfl)
    (hf : X.fn x = true ∨ X.env.scope.names.lookup x = some .local := by first | exact .inl rfl | exact .inr rfl | assumption) : TgOk X (.Name x pos) (.nm i) := ⟨pg_name hN hi hx hf⟩
theorem tg_tp {es : List Expr} {is : List Nat} {k : Nat} {pos : Pos} (hc : X.calm = true) (h : PGs X es (gNames is)) (hn : (assignEach es X.env).length = is.length := by rfl) (hst : (assignEach es X.env).findIdx? (·.1) = none := by rfl) :
    TgOk X (.Tuple es k pos) (.tp is) := ⟨pg_tup hc h hn hst⟩
/-- a, b = e -/
def mAsg (tg : Tgt) (k : Bool) (f : DE) : DS := fun E δ => f δ fun x => match k with
  | true => killK δ x.roots fun δ' => asgT tg x.d x.own δ' E.nx
  | false => demK δ x.roots fun δ' => asgT tg x.d (match x.roots with | [] => x.own | _ => false) δ' E.nx
theorem sv_asg {tgt : Expr} {tg : Tgt} (k : Bool) (he : EV G X e f) (hg : TgOk X tgt tg) (hs : swapsWithSole [tgt] e pos.line X.env = pure false := by rfl) (hw : swappedStores [tgt] e X.env = pure none := by rfl)
    (h1 : (assignEach [tgt] X.env).map (·.2) = [assign tgt X.env] := by rfl) : SV G X (.Assign [tgt] e pos) (mAsg tg k f) := by
  refine ⟨fun A B δ h1 h2 q => he.mono _ _ _ (fun x q => ?_) q, fun H0 π hG => psi (ps_asg (he.pe H0 π hG) hg.pg hs hw h1) fun D σ H ⟨δ, ν, E, q⟩ => ?_⟩
  · cases k
    · dsimp only at q ⊢
      rw [demK_eq] at q ⊢
      exact asgT_mono h1 q
    · dsimp only at q ⊢
      rw [killK_eq] at q ⊢
      exact asgT_mono h1 q
  · refine ⟨δ, ν, E, he.mono _ _ _ (fun x q v H1 M s1 o1 => ?_) q⟩
    cases k with
    | true =>
      dsimp only at q
      rw [killK_eq] at q
      exact asgT_ok ((E.same s1).kill x.roots) (o1.killed E) q fun σ' δ' ν' E' q => q _ _ _ E'
    | false =>
      dsimp only at q
      rw [demK_eq] at q
      revert q
      split
      · rename_i er
        intro q
        have o2 := o1.killed E
        rw [er] at o2 q
        exact asgT_ok (E.same s1) o2 q fun σ' δ' ν' E' q => q _ _ _ E'
      · intro q
        exact asgT_ok ((E.same s1).dem x.roots) (o1.demoted E) q fun σ' δ' ν' E' q => q _ _ _ E'
end

/-! ### a def -/
/-- the parameters at the entry -/
def initE (n : Nat) (ds : List D) : En := ds.map (fun d => some ⟨d, false, true⟩) ++ List.replicate (n - ds.length) none
def initK : Nat → List D → (En → Prop) → Prop
  | n + 1, d :: ds, P => initK n ds fun δ => P (some ⟨d, false, true⟩ :: δ)
  | n + 1, [], P => initK n [] fun δ => P (none :: δ)
  | 0, ds, P => P (ds.map fun d => some ⟨d, false, true⟩)
theorem initK_eq : ∀ (n : Nat) (ds : List D) (P : En → Prop), initK n ds P = P (initE n ds)
  | 0, ds, P => by simp [initK, initE]
  | n + 1, [], P => by
    simp only [initK]
    rw [initK_eq n []]
    simp [initE, List.replicate_succ]
  | n + 1, d :: ds, P => by
    simp only [initK]
    rw [initK_eq n ds]
    simp [initE]
def runF (n : Nat) (m : DS) : W := fun ds Q => initK n ds fun δ => m ⟨fun _ => Q .none, fun x _ => x.own = true ∧ Q x.d⟩ δ
theorem init_look {n : Nat} {ds : List D} {i : Nat} {s : Slot} (h : (initE n ds)[i]? = some (some s)) : ∃ d, ds[i]? = some d ∧ s = ⟨d, false, true⟩ := by
  unfold initE at h
  by_cases hi : i < ds.length
  · rw [List.getElem?_append_left (by simpa using hi), List.getElem?_map, List.getElem?_eq_getElem hi] at h
    simp only [Option.map_some, Option.some.injEq] at h
    exact ⟨ds[i], List.getElem?_eq_getElem hi, h.symm⟩
  · rw [List.getElem?_append_right (by simpa using hi), List.getElem?_replicate] at h
    split at h <;> simp at h
theorem init_ok {K : PySem.W.Frag} {H : Hp} {N : List Str} {vs : List V} {ds : List D} {M : List Addr} (r : Rps K H vs ds M) (hl : vs.length ≤ N.length) : ∃ ν, EnvOk K H (fun i => vs[i]?) H (start N vs) (initE N.length ds) ν := by
  have all : ∀ i d, ds[i]? = some d → ∃ v L, vs[i]? = some v ∧ Rp K H v d L := fun i d h => by
    obtain ⟨v, A, L, B, h1, _, h3⟩ := r.get h
    exact ⟨v, L, h1, h3⟩
  have hν : ∃ ν : Nu, ∀ i d, ds[i]? = some d → ∃ v, vs[i]? = some v ∧ Rp K H v d (ν i) := by
    refine ⟨fun i => match h : ds[i]? with | some d => Classical.choose (Classical.choose_spec (all i d h)) | none => [], fun i d h => ?_⟩
    dsimp only
    split
    · rename_i d' h'
      rw [h] at h'
      cases h'
      exact ⟨_, Classical.choose_spec (Classical.choose_spec (all i d h))⟩
    · rename_i h'
      rw [h] at h'
      cases h'
  obtain ⟨ν, hν⟩ := hν
  refine ⟨ν, ?_, Same.refl H, fun i s h => ?_, fun i s h o => ?_, fun i j s t n h o => ?_⟩
  · have := r.length
    simp [initE, L2.start]; omega
  · obtain ⟨d, hd, rfl⟩ := init_look h
    obtain ⟨v, hv, rv⟩ := hν i d hd
    refine ⟨v, ?_, rv, fun _ => hv⟩
    unfold L2.start
    have hi : i < vs.length := (List.getElem?_eq_some_iff.mp hv).1
    rw [List.getElem?_append_left (by simpa using hi), List.getElem?_map, hv]
    rfl
  · obtain ⟨d, _, rfl⟩ := init_look h
    cases o
  · obtain ⟨d, _, rfl⟩ := init_look h
    cases o
section
variable {P : Program} {w : World} {K : PySem.W.Frag} {mg : Str → Option Value} {base : Heap}
/-- a def keeps the promise of its body's predicate -/
theorem ok_def {x qual : Str} {st : Stmt} {f : Addr} {fd : FuncData} {N ps : List Str} {k : Nat} {m : DS} (F : L2.Fun K x qual st f fd) (S : FnScope N ps (defScope st))
    (hbody : ∀ (cdv : Value) (A : Around) (outer : List Env) (s : Shared) (H : Hp) (E : XK), Room k (A.deeper (envOfC qual (defScope st) s.heap.objs.size f cdv)) →
      SVs GAll (cxOf L2.CX0 P w K mg base N qual (defScope st) f cdv A outer s H E).nox (defBody st) m) (hpn : ps.length ≤ N.length := by decide) :
    FnOk P w K mg base L2.CX0 (k + 1) f fd ps (spOf K ps.length (runF N.length m)) := by
  refine F.ok S (fun vs H Q E h => h.1) fun cdv A outer s H vs Q E hr h => ?_
  obtain ⟨hl, ds, M, r, Qd, q, hQ⟩ := h
  have B := hbody cdv A outer s H E hr
  obtain ⟨ν, e⟩ := init_ok (N := N) r (by rw [hl]; exact hpn)
  have q : m ⟨fun _ => Qd .none, fun x _ => x.own = true ∧ Qd x.d⟩ (initE N.length ds) := by
    have q' := q
    unfold runF at q'
    rw [initK_eq] at q'
    exact q'
  refine ⟨_, B.pss H (fun i => vs[i]?) True.intro, initE N.length ds, ν, e, ?_⟩
  refine B.mono _ _ _ (fun δ q σ' H' ν' E' => ?_) (fun y δ q v σ' H1 H' ν' M' E' s1 o => ?_) q
  · exact hQ _ q .non H' [] E'.sm .non List.nodup_nil fun _ z => (nomatch z)
  · obtain ⟨ho, q⟩ := q
    refine hQ _ q v H' M' (E'.sm.trans s1) o.rp (o.nd ho) fun a ha => ?_
    rcases o.fr ho a ha with z | ⟨j, _, t, ht, hto, hm⟩
    · exact E'.sm.free z
    · exact (E'.nd j t ht hto).2 a hm
/-- .. as one that may be called -/
theorem cal_def {x : Str} {st : Stmt} {f : Addr} {fd : FuncData} {N ps : List Str} {k : Nat} {m : DS} (F : L2.Fun K x x st f fd) (S : FnScope N ps (defScope st)) (hm : mg x = some (.ref f)) (hb : Binds K fd ps [])
    (hbody : ∀ (cdv : Value) (A : Around) (outer : List Env) (s : Shared) (H : Hp) (E : XK), Room k (A.deeper (envOfC x (defScope st) s.heap.objs.size f cdv)) →
      SVs GAll (cxOf L2.CX0 P w K mg base N x (defScope st) f cdv A outer s H E).nox (defBody st) m) (hpn : ps.length ≤ N.length := by decide) : Cal P w K mg base x (k + 1) ps.length (runF N.length m) :=
  ⟨f, fd, ps, ok_def F S hbody hpn, hm, F.kp, hb⟩
end
end KT
/-! KtF: loops, lists changed in place. -/
namespace KT
open PySem PySem.Spec PyProof.Rows L2
variable [WT]

/-! ### loops over data -/
/-- n turns from turn i on -/
def loopN (body : Nat → (En → Prop) → En → Prop) : Nat → Nat → (En → Prop) → En → Prop
  | 0, _, P, δ => P δ
  | n + 1, i, P, δ => body i (loopN body n (i + 1) P) δ
/-- .. that no computation opens -/
inductive LoopN (body : Nat → (En → Prop) → En → Prop) (n i : Nat) (P : En → Prop) (δ : En) : Prop
  | of_ : loopN body n i P δ → LoopN body n i P δ
  | of2 : loopN body n i P δ → LoopN body n i P δ
theorem LoopN_to {body : Nat → (En → Prop) → En → Prop} {n i : Nat} {P : En → Prop} {δ : En} (h : LoopN body n i P δ) : loopN body n i P δ := by
  rcases h with h | h <;> exact h
theorem LoopN_of {body : Nat → (En → Prop) → En → Prop} {n i : Nat} {P : En → Prop} {δ : En} (h : loopN body n i P δ) : LoopN body n i P δ := by
  exact .of_ h
theorem loopN_mono {body body' : Nat → (En → Prop) → En → Prop} (hb : ∀ i (P Q : En → Prop), (∀ δ, P δ → Q δ) → ∀ δ, body i P δ → body' i Q δ) {P Q : En → Prop} (h : ∀ δ, P δ → Q δ) : ∀ n i δ, loopN body n i P δ → loopN body' n i Q δ
  | 0, _, _, q => h _ q
  | n + 1, i, δ, q => hb i _ _ (fun δ q => loopN_mono hb h n (i + 1) δ q) δ q

section
variable {K : PySem.W.Frag} {H0 H H1 H' : Hp} {π : Nat → Option V} {σ : L2.St} {δ : En} {ν : Nu} {v : V} {x : Val} {M : List Addr}
/-- a value without lists, to be stored -/
theorem FOk.imm {d : D} (r : Rp K H' v d M) (h : imm d = true) (o : Bool) : FOk K H0 δ ν H' v d o M := by
  have e := r.imm h
  subst e
  exact ⟨r, fun _ => List.nodup_nil, fun _ _ z => (nomatch z), fun _ _ z => (nomatch z), fun _ _ _ _ _ _ z => (nomatch z)⟩

/-! the heap that is shut: all but the names' own lists -/
open Classical in
noncomputable def shut (H : Hp) (δ : En) (ν : Nu) : Hp := fun a => if ∃ i s, δ[i]? = some (some s) ∧ s.own = true ∧ a ∈ ν i then none else H a
theorem shut_same (H : Hp) (δ : En) (ν : Nu) : Same (shut H δ ν) H := fun b o h => by
  unfold shut at h
  split at h
  · cases h
  · exact h
mutual
theorem Rp.lsts {v : V} {d : D} {N : List Addr} : Rp K H v d N → ∀ a ∈ N, ∃ o, H a = some o ∧ Mut o = true
  | .non => fun _ h => nomatch h
  | .bl _ => fun _ h => nomatch h
  | .int _ => fun _ h => nomatch h
  | .str _ => fun _ h => nomatch h
  | .lst h r => fun a ha => by
    rcases List.mem_cons.mp ha with rfl | ha
    · exact ⟨_, h, rfl⟩
    · exact r.lsts a ha
  | .tup h r => r.lsts
  | .scr _ => fun _ h => nomatch h
  | .jnk _ => fun _ h => nomatch h
  | .set h _ => fun a ha => by rw [List.mem_singleton.mp ha]; exact ⟨_, h, rfl⟩
  | .dk h _ r => fun a ha => by
    rcases List.mem_cons.mp ha with rfl | ha
    · exact ⟨_, h, rfl⟩
    · exact r.lsts a ha
  | .dt h _ r => fun a ha => by
    rcases List.mem_cons.mp ha with rfl | ha
    · exact ⟨_, h, rfl⟩
    · exact r.lsts a ha
  | .ins _ h r => fun a ha => by
    rcases List.mem_cons.mp ha with rfl | ha
    · exact ⟨_, h, rfl⟩
    · exact r.lsts a ha
  | .xc _ r => r.lsts
theorem Rps.lsts {vs : List V} {ds : List D} {N : List Addr} : Rps K H vs ds N → ∀ a ∈ N, ∃ o, H a = some o ∧ Mut o = true
  | .nil => fun _ h => nomatch h
  | .cons r s => fun a ha => (List.mem_append.mp ha).elim (r.lsts a) (s.lsts a)
end
mutual
/-- what a value needs of the heap: its lists and what is no list -/
theorem Rp.keep {v : V} {d : D} {N : List Addr} : Rp K H v d N → (∀ a o, H a = some o → (a ∈ N ∨ Mut o = false) → H' a = some o) → Rp K H' v d N
  | .non, _ => .non
  | .bl c, _ => .bl c
  | .int i, _ => .int i
  | .str x, _ => .str x
  | .lst h r, k => .lst (k _ _ h (.inl List.mem_cons_self)) (Rps.keep r fun a o e q => k a o e (q.imp (List.mem_cons_of_mem _) id))
  | .tup h r, k => .tup (h.imp (fun z => z.imp (fun z => k _ _ z (.inr rfl)) fun ⟨o, z⟩ => ⟨o, k _ _ z (.inr rfl)⟩) id) (Rps.keep r k)
  | .scr h, k => .scr (h.imp (fun ⟨o, q⟩ => ⟨o, k _ _ q (.inr rfl)⟩) id)
  | .jnk h, _ => .jnk h
  | .set h n, k => .set (k _ _ h (.inl List.mem_cons_self)) n
  | .dk h n r, k => .dk (k _ _ h (.inl List.mem_cons_self)) n (Rps.keep r fun a o e q => k a o e (q.imp (List.mem_cons_of_mem _) id))
  | .dt h n r, k => .dt (k _ _ h (.inl List.mem_cons_self)) n (Rps.keep r fun a o e q => k a o e (q.imp (List.mem_cons_of_mem _) id))
  | .ins i h r, k => .ins i (k _ _ h (.inl List.mem_cons_self)) (Rps.keep r fun a o e q => k a o e (q.imp (List.mem_cons_of_mem _) id))
  | .xc h r, k => .xc (k _ _ h (.inr rfl)) (Rps.keep r k)
theorem Rps.keep {vs : List V} {ds : List D} {N : List Addr} : Rps K H vs ds N → (∀ a o, H a = some o → (a ∈ N ∨ Mut o = false) → H' a = some o) → Rps K H' vs ds N
  | .nil, _ => .nil
  | .cons r s, k => .cons (Rp.keep r fun a o e q => k a o e (q.imp (List.mem_append_left _) id)) (Rps.keep s fun a o e q => k a o e (q.imp (List.mem_append_right _) id))
end
theorem EnvOk.shut (E : EnvOk K H0 π H σ δ ν) : EnvOk K (shut H δ ν) π H σ δ ν := by
  refine ⟨E.len, shut_same H δ ν, E.at_, fun i s h o => ⟨(E.nd i s h o).1, fun a ha => ?_⟩, E.dj⟩
  unfold KT.shut
  rw [if_pos ⟨i, s, h, o, ha⟩]
theorem shut_over (E : EnvOk K H0 π H σ δ ν) : Same H0 (shut H δ ν) := fun b o h => by
  unfold shut
  rw [if_neg]
  · exact E.sm b o h
  · rintro ⟨i, s, hs, ho, hm⟩
    rw [(E.nd i s hs ho).2 b hm] at h
    cases h
theorem EnvOk.open {H2 : Hp} (E : EnvOk K H2 π H σ δ ν) (s : Same H0 H2) : EnvOk K H0 π H σ δ ν :=
  ⟨E.len, s.trans E.sm, E.at_, fun i t h o => ⟨(E.nd i t h o).1, fun a ha => s.free ((E.nd i t h o).2 a ha)⟩, E.dj⟩
/-- a value that touches no name's own list stands in the shut heap -/
theorem Rp.shut (E : EnvOk K H0 π H σ δ ν) {v : V} {d : D} {N : List Addr} (r : Rp K H v d N) (al : ∀ j s, δ[j]? = some (some s) → s.own = true → ∀ a ∈ ν j, a ∉ N) : Rp K (shut H δ ν) v d N := by
  refine r.keep fun a o e q => ?_
  unfold KT.shut
  rw [if_neg]
  · exact e
  · rintro ⟨i, s, hs, ho, hm⟩
    rcases q with q | q
    · exact al i s hs ho a hm q
    · obtain ⟨v', _, rv, _⟩ := E.at_ i s hs
      obtain ⟨xs, e', hmu⟩ := rv.lsts a hm
      rw [e] at e'
      cases e'
      exact absurd hmu (by rw [q]; decide)
/-- a part of the shut heap, to be stored as shared -/
theorem FOk.shared {H2 : Hp} (E : EnvOk K H2 π H σ δ ν) {d : D} {L : List Addr} (r : Rp K H2 v d L) : FOk K H2 δ ν H v d false L :=
  ⟨r.same E.sm, fun z => (nomatch z), fun z => (nomatch z), fun z => (nomatch z), fun j s h o a ha hm => r.trk a hm ((E.nd j s h o).2 a ha)⟩
end

section
variable {X : Cx} {a b e c : Expr} {es : List Expr} {fa fb f : DE} {g : DA} {t : DT} {pos : Pos} {st : Stmt} {sts : List Stmt} {m n : DS}

/-! ### for over a range -/
def rg1 (ds : List D) (P : Int → Nat → Prop) : Prop := match ds with
  | [.int j] => (-(2 ^ 62) ≤ j ∧ j < 2 ^ 62) ∧ P 0 j.toNat
  | _ => False
def rg2 (ds : List D) (P : Int → Nat → Prop) : Prop := match ds with
  | [.int i, .int j] => (-(2 ^ 62) ≤ i ∧ i < 2 ^ 62 ∧ -(2 ^ 62) ≤ j ∧ j < 2 ^ 62) ∧ P i (j - i).toNat
  | _ => False
theorem rg1_mono {ds : List D} {P Q : Int → Nat → Prop} (h : ∀ i n, P i n → Q i n) (q : rg1 ds P) : rg1 ds Q := by
  unfold rg1 at *
  split at q
  · exact ⟨q.1, h _ _ q.2⟩
  · exact q.elim
theorem rg2_mono {ds : List D} {P Q : Int → Nat → Prop} (h : ∀ i n, P i n → Q i n) (q : rg2 ds P) : rg2 ds Q := by
  unfold rg2 at *
  split at q
  · exact ⟨q.1, h _ _ q.2⟩
  · exact q.elim
def bodyR (tg : Tgt) (wl : List Nat) (m : DS) (E : DEnds) (lo : Int) : Nat → (En → Prop) → En → Prop := fun k P δ => asgT tg (.int (lo + k)) true (killR δ wl) fun δ' => m ⟨P, E.rt⟩ δ'
def mForR (rg : List D → (Int → Nat → Prop) → Prop) (tg : Tgt) (wl : List Nat) (g : DA) (m : DS) : DS := fun E δ => g δ fun xs => rg (xs.map Val.d) fun lo n => LoopN (bodyR tg wl m E lo) n 0 (fun δ => E.nx (killR δ wl)) δ
theorem bodyR_mono {tg : Tgt} {wl : List Nat} (hm : MonoS m) {A B : DEnds} (h2 : ∀ x δ, A.rt x δ → B.rt x δ) {lo : Int} : ∀ i (P Q : En → Prop), (∀ δ, P δ → Q δ) → ∀ δ, bodyR tg wl m A lo i P δ → bodyR tg wl m B lo i Q δ := fun i P Q h δ q =>
  asgT_mono (fun δ q => hm ⟨P, A.rt⟩ ⟨Q, B.rt⟩ δ h h2 q) q
theorem forR_sem {tg : Tgt} {wl : List Nat} {H0 : Hp} {π : Nat → Option V} {lo : Int} {n : Nat} (hm : MonoS m) {D : Ends} {σ : L2.St} {H : Hp} {δ : En} {ν : Nu} (E : EnvOk X.K H0 π H σ δ ν)
    (q : loopN (bodyR tg wl m (dEnds X.K H0 π D) lo) n 0 (fun δ => (dEnds X.K H0 π D).nx (killR δ wl)) δ) :
    ∃ W : Nat → Nat → L2.St → Hp → Prop, (∃ m, W 0 m σ H) ∧ ∀ i k σ H, W i k σ H →
      ((Itr lo n).stop i H ∧ D.nx σ H) ∨ ((Itr lo n).go i H ∧ ∃ N : L2.St → Hp → Prop, (∀ σ' H', N σ' H' → ∃ m', m' < k ∧ W (i + 1) m' σ' H') ∧ ∀ x H', (Itr lo n).yld i H x H' → gOf X.K tg x σ H' fun σ2 H2 => semS X.K H0 π m { D with nx := N, ct := N, bk := D.nx } σ2 H2) := by
  refine for_range (lo := lo) (n := n) (fun k σ H => ∃ δ ν, EnvOk X.K H0 π H σ δ ν ∧ loopN (bodyR tg wl m (dEnds X.K H0 π D) lo) (n - k) k (fun δ => (dEnds X.K H0 π D).nx (killR δ wl)) δ) ⟨δ, ν, E, q⟩ (fun k σ H hk ⟨δ, ν, E, q⟩ => ?_) fun σ H ⟨δ, ν, E, q⟩ => ?_
  · obtain ⟨r, hr⟩ : ∃ r, n - k = r + 1 := ⟨n - k - 1, by omega⟩
    have hr2 : n - (k + 1) = r := by omega
    rw [hr] at q
    refine asgT_ok (E.kill wl) (FOk.imm (.int _) rfl true) q fun σ' δ' ν' E' q => ⟨δ', ν', E', ?_⟩
    exact hm ⟨loopN (bodyR tg wl m (dEnds X.K H0 π D) lo) r (k + 1) (fun δ => (dEnds X.K H0 π D).nx (killR δ wl)), (dEnds X.K H0 π D).rt⟩ _ _ (fun δ q σ'' H'' ν'' E'' => ⟨δ, ν'', E'', by rw [hr2]; exact q⟩) (fun x δ q => q) q
  · rw [Nat.sub_self] at q
    exact q _ _ _ (E.kill wl)
theorem mforR_mono {rg : List D → (Int → Nat → Prop) → Prop} {tg : Tgt} {wl : List Nat} (hr : ∀ {ds : List D} {P Q : Int → Nat → Prop}, (∀ i n, P i n → Q i n) → rg ds P → rg ds Q)
    (hg : ∀ δ (P P' : List Val → Prop), (∀ x, P x → P' x) → g δ P → g δ P') (hm : MonoS m) : MonoS (mForR rg tg wl g m) := fun A B δ h1 h2 q =>
  hg _ _ _ (fun xs q => hr (fun i n q => LoopN_of (loopN_mono (bodyR_mono hm h2) (fun δ q => h1 _ q) _ _ _ (LoopN_to q))) q) q
theorem sv_forR1 {tgt : Expr} {tg : Tgt} (wl : List Nat) {body : List Stmt} {p pos' : Pos} (hp : PassesOwn (model X.prog X.w) X.A X.env X.xe) (hc : X.calm = true) (hr : Gl X "range") (hmr : X.mg "range" = none) (ha : EA G X [a] g) (htg : TgOk X tgt tg) (hb : SVs G X body m)
    (hs1 : starEach [a] X.env = [(false, eval a X.env)] := by rfl) (hs : ∀ x, foldedSetIterable (.Call (.Name "range" p) [a] [] pos') X.env x = pure x := by intro _; rfl) :
    SV G X (.For tgt (.Call (.Name "range" p) [a] [] pos') body [] pos) (mForR rg1 tg wl g m) := by
  refine ⟨mforR_mono rg1_mono ha.mono hb.mono, fun H0 π hG => psi (ps_for hp hc (pi_range1 hr hmr (ha.pa H0 π hG) hs1) htg.pg (hb.pss H0 π hG) hs) fun D σ H ⟨δ, ν, E, q⟩ => ?_⟩
  refine ⟨δ, ν, E, ha.mono _ _ _ (fun xs q vs H1 Ms s1 o1 => ?_) q⟩
  have r := o1.rps
  revert q
  generalize xs.map Val.d = ds at r
  intro q
  unfold rg1 at q
  split at q
  · obtain ⟨v, rfl, u⟩ := r.one_
    rw [u.int_]
    exact ⟨_, rfl, q.1.1, q.1.2, forR_sem hb.mono (E.same s1) (LoopN_to q.2)⟩
  · exact q.elim
theorem sv_forR2 {tgt : Expr} {tg : Tgt} (wl : List Nat) {body : List Stmt} {p pos' : Pos} (hp : PassesOwn (model X.prog X.w) X.A X.env X.xe) (hc : X.calm = true) (hr : Gl X "range") (hmr : X.mg "range" = none) (ha : EA G X [a, b] g) (htg : TgOk X tgt tg) (hb : SVs G X body m)
    (hs1 : starEach [a, b] X.env = [(false, eval a X.env), (false, eval b X.env)] := by rfl) (hs2 : starEach [b] X.env = [(false, eval b X.env)] := by rfl) (hs : ∀ x, foldedSetIterable (.Call (.Name "range" p) [a, b] [] pos') X.env x = pure x := by intro _; rfl) :
    SV G X (.For tgt (.Call (.Name "range" p) [a, b] [] pos') body [] pos) (mForR rg2 tg wl g m) := by
  refine ⟨mforR_mono rg2_mono ha.mono hb.mono, fun H0 π hG => psi (ps_for hp hc (pi_range2 hr hmr (ha.pa H0 π hG) hs1 hs2) htg.pg (hb.pss H0 π hG) hs) fun D σ H ⟨δ, ν, E, q⟩ => ?_⟩
  refine ⟨δ, ν, E, ha.mono _ _ _ (fun xs q vs H1 Ms s1 o1 => ?_) q⟩
  have r := o1.rps
  revert q
  generalize xs.map Val.d = ds at r
  intro q
  unfold rg2 at q
  split at q
  · obtain ⟨v, w, A, B, rfl, u1, u2⟩ := r.two_
    rw [u1.int_, u2.int_]
    exact ⟨_, _, rfl, q.1, forR_sem hb.mono (E.same s1) (LoopN_to q.2)⟩
  · exact q.elim

/-! ### for over a list or a tuple -/
/-- what is walked: a list or a tuple at an address -/
def iSeq (K : PySem.W.Frag) (tl : TE) : TI := fun σ H R => tl σ H fun x H1 => ∃ a, x = .ref a ∧ (((∃ xs, SqL K H1 a xs) ∧ R (Itl K a) H1) ∨ ((∃ xs, SqT K H1 a xs) ∧ R (Itt K a) H1))
theorem pi_seq {tgt l : Expr} {tl : TE} (hl : PE X l tl) : PI X tgt l (iSeq X.K tl) := by
  refine ⟨fun pins s σ H R I h => ?_⟩
  refine thn (hl.run pins s σ H _ I h) fun v s1 h2 => ?_
  obtain ⟨x, H1, I1, r1, a, e, q⟩ := h2
  subst e
  rcases q with ⟨hq, q⟩ | ⟨hq, q⟩
  · have P : PE X l (fun σ2 H2 Q => False) := ⟨fun _ _ _ _ _ _ z => z.elim⟩
    obtain ⟨xs, hq⟩ := hq
    cases r1
    obtain ⟨its, rv, p, hz⟩ := I1.list hq
    refine wpAny_pyIter_list p.isList ⟨s1.heap.objs.size, [s1.heap.objs.size], _, _, H1, rfl, ?_, turn_list a _, ⟨_, Heap.get?_push_size _ rfl, rfl, rfl⟩, fun b hb => ?_, q⟩
    · exact I1.kept (t' := s1.toks) fun b o e => Heap.get?_push_of_some _ e
    · rw [List.mem_singleton.mp hb]
      exact I1.fpOk (Nat.le_refl _) (I1.hok.fresh (Nat.le_refl _))
  · obtain ⟨xs, hq⟩ := hq
    cases r1
    obtain ⟨its, rv, p, hz⟩ := I1.tuple hq
    refine wpAny_pyIter_tuple (show s1.heap.IsTuple a its.toArray from p) ⟨s1.heap.objs.size, [s1.heap.objs.size], _, _, H1, rfl, ?_, turn_tuple a _, ⟨_, Heap.get?_push_size _ rfl, rfl, rfl⟩, fun b hb => ?_, q⟩
    · exact I1.kept (t' := s1.toks) fun b o e => Heap.get?_push_of_some _ e
    · rw [List.mem_singleton.mp hb]
      exact I1.fpOk (Nat.le_refl _) (I1.hok.fresh (Nat.le_refl _))
/-- the turns over a list's items -/
def loopL (body : D → (En → Prop) → En → Prop) : List D → (En → Prop) → En → Prop
  | [], P, δ => P δ
  | d :: ds, P, δ => body d (loopL body ds P) δ
inductive LoopL (body : D → (En → Prop) → En → Prop) (ds : List D) (P : En → Prop) (δ : En) : Prop
  | of_ : loopL body ds P δ → LoopL body ds P δ
  | of2 : loopL body ds P δ → LoopL body ds P δ
theorem LoopL_to {body : D → (En → Prop) → En → Prop} {ds : List D} {P : En → Prop} {δ : En} (h : LoopL body ds P δ) : loopL body ds P δ := by
  rcases h with h | h <;> exact h
theorem LoopL_of {body : D → (En → Prop) → En → Prop} {ds : List D} {P : En → Prop} {δ : En} (h : loopL body ds P δ) : LoopL body ds P δ := by
  exact .of_ h
theorem loopL_mono {body body' : D → (En → Prop) → En → Prop} (hb : ∀ i (P Q : En → Prop), (∀ δ, P δ → Q δ) → ∀ δ, body i P δ → body' i Q δ) {P Q : En → Prop} (h : ∀ δ, P δ → Q δ) : ∀ ds δ, loopL body ds P δ → loopL body' ds Q δ
  | [], _, q => h _ q
  | d :: ds, δ, q => hb d _ _ (fun δ q => loopL_mono hb h ds δ q) δ q
def seqOf : D → Option (List D)
  | .list ds => some ds
  | .tuple ds => some ds
  | _ => none
def bodyV (tg : Tgt) (wl : List Nat) (m : DS) (E : DEnds) : D → (En → Prop) → En → Prop := fun d P δ => asgT tg d (imm d) (killR δ wl) fun δ' => m ⟨P, E.rt⟩ δ'
/-- over a value that no name changes meanwhile -/
def mForV (tg : Tgt) (wl : List Nat) (f : DE) (m : DS) : DS := fun E δ => f δ fun x => match seqOf x.d with
  | some ds => LoopL (bodyV tg wl m E) ds (fun δ => E.nx (killR δ wl)) (demR δ x.roots)
  | none => False
theorem bodyV_mono {tg : Tgt} {wl : List Nat} (hm : MonoS m) {A B : DEnds} (h2 : ∀ x δ, A.rt x δ → B.rt x δ) : ∀ i (P Q : En → Prop), (∀ δ, P δ → Q δ) → ∀ δ, bodyV tg wl m A i P δ → bodyV tg wl m B i Q δ := fun i P Q h δ q =>
  asgT_mono (fun δ q => hm ⟨P, A.rt⟩ ⟨Q, B.rt⟩ δ h h2 q) q
theorem mforV_mono {tg : Tgt} {wl : List Nat} (hf : ∀ δ (P P' : Val → Prop), (∀ x, P x → P' x) → f δ P → f δ P') (hm : MonoS m) : MonoS (mForV tg wl f m) := fun A B δ h1 h2 q => hf _ _ _ (fun x q => by
  revert q
  split
  · exact fun q => LoopL_of (loopL_mono (bodyV_mono hm h2) (fun δ q => h1 _ q) _ _ (LoopL_to q))
  · exact id) q
theorem dEnds_open {K : PySem.W.Frag} {H0 H2 : Hp} {π : Nat → Option V} {D : Ends} (s : Same H0 H2) : (∀ δ, (dEnds K H0 π D).nx δ → (dEnds K H2 π D).nx δ) ∧ ∀ x δ, (dEnds K H0 π D).rt x δ → (dEnds K H2 π D).rt x δ :=
  ⟨fun δ q σ H ν E => q σ H ν (E.open s), fun x δ q v σ H H' ν M E => q v σ H H' ν M (E.open s)⟩
theorem FOk.item {K : PySem.W.Frag} {H2 H : Hp} {π : Nat → Option V} {σ : L2.St} {δ : En} {ν : Nu} {v : V} {d : D} {L : List Addr} (E : EnvOk K H2 π H σ δ ν) (r : Rp K H2 v d L) : FOk K H2 δ ν H v d (KT.imm d) L := by
  cases h : KT.imm d with
  | true => exact FOk.imm (r.same E.sm) h true
  | false => exact FOk.shared E r
/-- the loop's turns, the walked thing standing in the shut heap -/
theorem forV_sem {tg : Tgt} {wl : List Nat} {H2 : Hp} {π : Nat → Option V} {ds : List KT.D} (hm : MonoS m) {D : Ends} {σ : L2.St} {H : Hp} {δ : En} {ν : Nu} {p : Addr} {d : KT.D} {M : List Addr} (E : EnvOk X.K H2 π H σ δ ν)
    (r : Rp X.K H2 (.ref p) d M) (hd : seqOf d = some ds) {F : DEnds} (hF : ∀ x δ, F.rt x δ → (dEnds X.K H2 π D).rt x δ) (hn : ∀ δ, F.nx δ → (dEnds X.K H2 π D).nx δ) {t2 : TS} (ht : ∀ D' σ H, semS X.K H2 π m D' σ H → t2 D' σ H)
    (q : loopL (bodyV tg wl m F) ds (fun δ => F.nx (killR δ wl)) δ) (J : It) (hJ : (∃ xs, d = .list xs ∧ J = Itl X.K p) ∨ (∃ xs, d = .tuple xs ∧ J = Itt X.K p)) :
    ∃ W : Nat → Nat → L2.St → Hp → Prop, (∃ m, W 0 m σ H) ∧ ∀ i k σ H, W i k σ H →
      (J.stop i H ∧ D.nx σ H) ∨ (J.go i H ∧ ∃ N : L2.St → Hp → Prop, (∀ σ' H', N σ' H' → ∃ m', m' < k ∧ W (i + 1) m' σ' H') ∧ ∀ x H', J.yld i H x H' → gOf X.K tg x σ H' fun σ3 H3 => t2 { D with nx := N, ct := N, bk := D.nx } σ3 H3) := by
  have turn : ∀ (i : Nat) (x : V) (xs : List V) (L : List Addr) (σ : L2.St) (H : Hp), Rps X.K H2 xs ds L → xs[i]? = some x → (∃ δ ν, EnvOk X.K H2 π H σ δ ν ∧ loopL (bodyV tg wl m F) (ds.drop i) (fun δ => F.nx (killR δ wl)) δ) →
      gOf X.K tg x σ H fun σ3 H3 => t2 { D with nx := fun σ H => ∃ δ ν, EnvOk X.K H2 π H σ δ ν ∧ loopL (bodyV tg wl m F) (ds.drop (i + 1)) (fun δ => F.nx (killR δ wl)) δ, ct := fun σ H => ∃ δ ν, EnvOk X.K H2 π H σ δ ν ∧ loopL (bodyV tg wl m F) (ds.drop (i + 1)) (fun δ => F.nx (killR δ wl)) δ, bk := D.nx } σ3 H3 := by
    intro i x xs L σ H hs hx ⟨δ, ν, E, q⟩
    obtain ⟨e, A, L', B, h1, h2, h3⟩ := hs.getV hx
    obtain ⟨hi, hie⟩ := List.getElem?_eq_some_iff.mp h1
    rw [List.drop_eq_getElem_cons hi, hie] at q
    refine asgT_ok (E.kill wl) (FOk.item (E.kill wl) h3) q fun σ' δ' ν' E' q => ht _ _ _ ⟨δ', ν', E', ?_⟩
    exact hm ⟨loopL (bodyV tg wl m F) (ds.drop (i + 1)) (fun δ => F.nx (killR δ wl)), F.rt⟩ _ _ (fun δ q σ'' H'' ν'' E'' => ⟨δ, ν'', E'', q⟩) hF q
  have fin : ∀ σ H, (∃ δ ν, EnvOk X.K H2 π H σ δ ν ∧ loopL (bodyV tg wl m F) (ds.drop ds.length) (fun δ => F.nx (killR δ wl)) δ) → D.nx σ H := by
    intro σ H ⟨δ, ν, E, q⟩
    rw [List.drop_length] at q
    exact hn _ q _ _ _ (E.kill wl)
  rcases hJ with ⟨xs', rfl, rfl⟩ | ⟨xs', rfl, rfl⟩
  · cases hd
    obtain ⟨a, xs, L, e, rfl, ha, s⟩ := r.list_
    cases e
    refine for_list (K := X.K) (a := p) (xs := xs) (g := gOf X.K tg) (fun i σ H => ∃ δ ν, EnvOk X.K H2 π H σ δ ν ∧ loopL (bodyV tg wl m F) (ds.drop i) (fun δ => F.nx (killR δ wl)) δ) ⟨δ, ν, E, q⟩ (fun i σ H _ ⟨δ, ν, E, _⟩ => SqL.of (E.sm _ _ ha)) (fun i x σ H hx h => turn i x xs L σ H s hx h) (fun σ H h => fin σ H ?_)
    rw [s.length] at h
    exact h
  · cases hd
    obtain ⟨a, xs, e, ha, s⟩ := r.tuple_
    cases e
    refine for_tup (K := X.K) (a := p) (xs := xs) (g := gOf X.K tg) (fun i σ H => ∃ δ ν, EnvOk X.K H2 π H σ δ ν ∧ loopL (bodyV tg wl m F) (ds.drop i) (fun δ => F.nx (killR δ wl)) δ) ⟨δ, ν, E, q⟩ (fun i σ H _ ⟨δ, ν, E, _⟩ => SqT.same E.sm ha) (fun i x σ H hx h => turn i x xs M σ H s hx h) (fun σ H h => fin σ H ?_)
    rw [s.length] at h
    exact h
/-- a block at any shut heap, any pins -/
def semAny (G : GT) (K : PySem.W.Frag) (m : DS) : TS := fun D σ H => ∃ H2 π, G H2 π ∧ semS K H2 π m D σ H
theorem SVs.any (h : SVs G X sts m) : PSs X sts (semAny G X.K m) := ⟨fun pins s σ H D I ⟨H2, π, g, q⟩ => (h.pss H2 π g).run pins s σ H D I q⟩
theorem sv_forV [GUp G] {tgt iter : Expr} {tg : Tgt} (wl : List Nat) {body : List Stmt} (hp : PassesOwn (model X.prog X.w) X.A X.env X.xe) (hc : X.calm = true) (he : EV G X iter f) (htg : TgOk X tgt tg) (hb : SVs G X body m)
    (hs : ∀ x, foldedSetIterable iter X.env x = pure x := by intro _; rfl) : SV G X (.For tgt iter body [] pos) (mForV tg wl f m) := by
  refine ⟨mforV_mono he.mono hb.mono, fun H0 π hG => psi (ps_for hp hc (pi_seq (he.pe H0 π hG)) htg.pg hb.any hs) fun D σ H ⟨δ, ν, E, q⟩ => ?_⟩
  refine ⟨δ, ν, E, he.mono _ _ _ (fun x q v H1 M s1 o1 => ?_) q⟩
  have E1 := (E.same s1).dem x.roots
  have o2 := o1.demoted E
  have r2 := Rp.shut E1 o1.rp o2.al
  have E2 := E1.shut
  have so : Same H0 (shut H1 (demR δ x.roots) ν) := shut_over E1
  have go : ∀ (p : Addr) (ds : List KT.D) (J : It), v = .ref p → seqOf x.d = some ds → ((∃ xs, x.d = .list xs ∧ J = Itl X.K p) ∨ (∃ xs, x.d = .tuple xs ∧ J = Itt X.K p)) → loopL (bodyV tg wl m (dEnds X.K H0 π D)) ds (fun δ => (dEnds X.K H0 π D).nx (killR δ wl)) (demR δ x.roots) →
      ∃ W : Nat → Nat → L2.St → Hp → Prop, (∃ m, W 0 m σ H1) ∧ ∀ i k σ H, W i k σ H →
        (J.stop i H ∧ D.nx σ H) ∨ (J.go i H ∧ ∃ N : L2.St → Hp → Prop, (∀ σ' H', N σ' H' → ∃ m', m' < k ∧ W (i + 1) m' σ' H') ∧ ∀ x H', J.yld i H x H' → gOf X.K tg x σ H' fun σ3 H3 => semAny G X.K m { D with nx := N, ct := N, bk := D.nx } σ3 H3) := by
    intro p ds J ev hd hJ q
    subst ev
    exact forV_sem hb.mono E2 r2 hd (dEnds_open so).2 (dEnds_open so).1 (fun D' σ H h => ⟨_, _, GUp.up hG so, h⟩) q J hJ
  have r := o1.rp
  revert q
  cases hx : x.d with
  | list ds =>
    intro q
    rw [hx] at r
    obtain ⟨a, xs, L, rfl, _, ha, s⟩ := r.list_
    exact ⟨a, rfl, .inl ⟨⟨xs, SqL.of ha⟩, go a ds _ rfl (by rw [hx]; rfl) (.inl ⟨ds, hx, rfl⟩) (LoopL_to q)⟩⟩
  | tuple ds =>
    intro q
    rw [hx] at r
    obtain ⟨a, xs, rfl, ha, s⟩ := r.tuple_
    exact ⟨a, rfl, .inr ⟨⟨xs, ha⟩, go a ds _ rfl (by rw [hx]; rfl) (.inr ⟨ds, hx, rfl⟩) (LoopL_to q)⟩⟩
  | _ => exact False.elim
end
end KT
/-! KtG: for over a name, comprehensions, lists changed in place. -/
namespace KT
open PySem PySem.Spec PyProof.Rows L2
variable [WT]

/-! ### a name that stays while its list is walked -/
def unpin (j : Nat) (p : Bool) (δ : En) : En := match p with
  | true => δ
  | false => (match δ[j]? with
    | some (some t) => δ.set j (some ⟨t.d, t.own, false⟩)
    | _ => δ)
theorem unpin_look {j : Nat} {p : Bool} {δ : En} {i : Nat} {s : Slot} (h : (unpin j p δ)[i]? = some (some s)) : ∃ t, δ[i]? = some (some t) ∧ s.d = t.d ∧ s.own = t.own ∧ (s.pin = true → t.pin = true ∧ (i = j → p = true)) := by
  unfold unpin at h
  cases p with
  | true => exact ⟨s, h, rfl, rfl, fun z => ⟨z, fun _ => rfl⟩⟩
  | false =>
    dsimp only at h
    split at h
    · rename_i t ht
      by_cases e : j = i
      · subst e
        rw [List.getElem?_set_self (List.getElem?_eq_some_iff.mp ht).1] at h
        cases h
        exact ⟨t, ht, rfl, rfl, fun z => (nomatch z)⟩
      · rw [List.getElem?_set_ne e] at h
        exact ⟨s, h, rfl, rfl, fun z => ⟨z, fun z' => absurd z'.symm e⟩⟩
    · rename_i hn
      refine ⟨s, h, rfl, rfl, fun z => ⟨z, fun z' => ?_⟩⟩
      subst z'
      exact absurd h (hn s)
theorem unpin_there {j : Nat} {p : Bool} {δ : En} {i : Nat} {t : Slot} (h : δ[i]? = some (some t)) : ∃ s, (unpin j p δ)[i]? = some (some s) ∧ s.own = t.own := by
  unfold unpin
  cases p with
  | true => exact ⟨t, h, rfl⟩
  | false =>
    dsimp only
    split
    · rename_i u hu
      by_cases e : j = i
      · subst e
        rw [h] at hu
        cases hu
        exact ⟨_, List.getElem?_set_self (List.getElem?_eq_some_iff.mp h).1, rfl⟩
      · exact ⟨t, by rw [List.getElem?_set_ne e]; exact h, rfl⟩
    · exact ⟨t, h, rfl⟩
theorem unpin_len (j : Nat) (p : Bool) (δ : En) : (unpin j p δ).length = δ.length := by
  unfold unpin
  cases p
  · dsimp only; split <;> simp
  · rfl
section
variable {K : PySem.W.Frag} {H0 H H1 H' : Hp} {π : Nat → Option V} {σ : L2.St} {δ : En} {ν : Nu} {v : V} {x : Val} {M : List Addr}
/-- the same names, less owned, pinned otherwise -/
theorem EnvOk.re (E : EnvOk K H0 π H σ δ ν) {δ' : En} {π' : Nat → Option V} (hl : δ'.length = δ.length)
    (h : ∀ i s, δ'[i]? = some (some s) → ∃ t, δ[i]? = some (some t) ∧ s.d = t.d ∧ (s.own = true → t.own = true) ∧ (s.pin = true → ∀ v, σ[i]? = some (some v) → π' i = some v)) : EnvOk K H0 π' H σ δ' ν := by
  refine ⟨hl.trans E.len, E.sm, fun i s hs => ?_, fun i s hs o => ?_, fun i j s t n hs o ht => ?_⟩
  · obtain ⟨t, h1, h2, h3, h4⟩ := h i s hs
    obtain ⟨w, a, b, c⟩ := E.at_ i t h1
    exact ⟨w, a, h2 ▸ b, fun z => h4 z w a⟩
  · obtain ⟨t, h1, h2, h3, h4⟩ := h i s hs
    exact E.nd i t h1 (h3 o)
  · obtain ⟨t1, h1, h2, h3, h4⟩ := h i s hs
    obtain ⟨t2, h5, _⟩ := h j t ht
    exact E.dj i j t1 t2 n h1 (h3 o) h5
def pinTo (π : Nat → Option V) (j : Nat) (v : V) : Nat → Option V := fun i => if i = j then some v else π i
theorem EnvOk.pin (E : EnvOk K H0 π H σ δ ν) {j : Nat} {s : Slot} {o : Bool} (hj : δ[j]? = some (some s)) (hv : σ[j]? = some (some v)) (ho : o = true → s.own = true) : EnvOk K H0 (pinTo π j v) H σ (δ.set j (some ⟨s.d, o, true⟩)) ν := by
  have hl := (List.getElem?_eq_some_iff.mp hj).1
  refine E.re (by simp) fun i t h => ?_
  by_cases e : j = i
  · subst e
    rw [List.getElem?_set_self hl] at h
    cases h
    exact ⟨s, hj, rfl, ho, fun _ w hw => by rw [hv] at hw; cases hw; simp [pinTo]⟩
  · rw [List.getElem?_set_ne e] at h
    refine ⟨t, h, rfl, id, fun z w hw => ?_⟩
    obtain ⟨w', a, _, c⟩ := E.at_ i t h
    rw [hw] at a
    cases a
    unfold pinTo
    rw [if_neg (Ne.symm e)]
    exact c z
theorem EnvOk.unpin (E : EnvOk K H0 (pinTo π j v) H σ δ ν) {p : Bool} (hp : p = true → π j = some v) : EnvOk K H0 π H σ (unpin j p δ) ν := by
  refine E.re (unpin_len _ _ _) fun i s h => ?_
  obtain ⟨t, h1, h2, h3, h4⟩ := unpin_look h
  refine ⟨t, h1, h2, fun z => h3 ▸ z, fun z w hw => ?_⟩
  obtain ⟨w', a, _, c⟩ := E.at_ i t h1
  rw [hw] at a
  cases a
  have q := c (h4 z).1
  unfold pinTo at q
  split at q
  · rename_i e
    subst e
    rw [hp ((h4 z).2 rfl)]
    exact q
  · exact q
theorem VOk.unpin (q : VOk K H δ ν H' v x M) (j : Nat) (p : Bool) : VOk K H (unpin j p δ) ν H' v x M :=
  ⟨q.rp, q.nd, fun o a ha => (q.fr o a ha).imp id fun ⟨k, hk, s, h1, h2, h3⟩ => let ⟨t, h4, h5⟩ := unpin_there h1; ⟨k, hk, t, h4, h5.trans h2, h3⟩,
    fun k s h o n a ha => let ⟨t, h1, _, h3, _⟩ := unpin_look h; q.al k t h1 (h3 ▸ o) n a ha⟩
end
section
variable {X : Cx} {a b e c : Expr} {es : List Expr} {fa fb f : DE} {g : DA} {t : DT} {pos : Pos} {st : Stmt} {sts : List Stmt} {m n : DS}
def bodyN (j : Nat) (s : Slot) (tg : Tgt) (wl : List Nat) (m : DS) (E : DEnds) : D → (En → Prop) → En → Prop := fun d P δ => δ[j]? = some (some s) ∧ asgT tg d (imm d) (killR δ wl) fun δ' => m ⟨P, E.rt⟩ δ'
def ownN (ds : List D) (o : Bool) : Bool := match immL ds with
  | true => o
  | false => false
def mForN (tg : Tgt) (wl : List Nat) (j : Nat) (m : DS) : DS := fun E δ => match δ[j]? with
  | some (some s) => (match seqOf s.d with
    | some ds => LoopL (bodyN j ⟨s.d, ownN ds s.own, true⟩ tg wl m ⟨E.nx, fun x δ => E.rt x (unpin j s.pin δ)⟩) ds (fun δ => δ[j]? = some (some ⟨s.d, ownN ds s.own, true⟩) ∧ E.nx (unpin j s.pin (killR δ wl))) (δ.set j (some ⟨s.d, ownN ds s.own, true⟩))
    | none => False)
  | _ => False
theorem bodyN_mono {j : Nat} {s : Slot} {tg : Tgt} {wl : List Nat} (hm : MonoS m) {A B : DEnds} (h2 : ∀ x δ, A.rt x δ → B.rt x δ) : ∀ i (P Q : En → Prop), (∀ δ, P δ → Q δ) → ∀ δ, bodyN j s tg wl m A i P δ → bodyN j s tg wl m B i Q δ := fun i P Q h δ q =>
  ⟨q.1, asgT_mono (fun δ q => hm ⟨P, A.rt⟩ ⟨Q, B.rt⟩ δ h h2 q) q.2⟩
theorem mforN_mono {tg : Tgt} {wl : List Nat} {j : Nat} (hm : MonoS m) : MonoS (mForN tg wl j m) := fun A B δ h1 h2 q => by
  unfold mForN at *
  split at q
  · rename_i s hs
    split at q
    · exact LoopL_of (loopL_mono (bodyN_mono (A := ⟨A.nx, fun x δ => A.rt x (unpin j s.pin δ)⟩) (B := ⟨B.nx, fun x δ => B.rt x (unpin j s.pin δ)⟩) hm fun x δ q => h2 _ _ q) (fun δ q => ⟨q.1, h1 _ q.2⟩) _ _ (LoopL_to q))
    · exact q.elim
  · exact q.elim
theorem ownN_le {ds : List D} {o : Bool} (h : ownN ds o = true) : o = true ∧ immL ds = true := by
  unfold ownN at h
  split at h
  · rename_i e; exact ⟨h, e⟩
  · cases h
theorem sv_forN [GUp G] {tgt : Expr} {x : Str} {tg : Tgt} (wl : List Nat) (j : Nat) {body : List Stmt} {px : Pos} (hp : PassesOwn (model X.prog X.w) X.A X.env X.xe) (hc : X.calm = true) (htg : TgOk X tgt tg) (hb : SVs G X body m)
    (hN : X.N[j]? = some x := by rfl) (hv : Vis X.env.scope x := by first | exact Or.inl rfl | exact Or.inr (Or.inl rfl) | exact Or.inr (Or.inr rfl)) (hd : (x == ("__debug__" : Str)) = false := by decide)
    (hcd : (x == ("__classdict__" : Str)) = false := by decide) (hs : ∀ y, foldedSetIterable (.Name x px) X.env y = pure y := by intro _; rfl) : SV G X (.For tgt (.Name x px) body [] pos) (mForN tg wl j m) := by
  refine ⟨mforN_mono hb.mono, fun H0 π hG => psi (ps_for hp hc (pi_seq (pe_var hN hv hd hcd)) htg.pg hb.any hs) fun D σ H ⟨δ, ν, E, q⟩ => ?_⟩
  unfold mForN at q
  split at q
  · rename_i s hj
    split at q
    · rename_i ds hds
      obtain ⟨v, hv', r, hpin⟩ := E.at_ j s hj
      have E1 : EnvOk X.K H0 (pinTo π j v) H σ (δ.set j (some ⟨s.d, ownN ds s.own, true⟩)) ν := E.pin hj hv' fun z => (ownN_le z).1
      have nxO : ∀ {σ' : L2.St} {H' : Hp} {ν' : Nu} {δ' : En}, EnvOk X.K H0 (pinTo π j v) H' σ' δ' ν' → (dEnds X.K H0 π D).nx (unpin j s.pin (killR δ' wl)) → D.nx σ' H' := fun E' q => q _ _ _ ((E'.kill wl).unpin hpin)
      have rtO : ∀ x δ', (dEnds X.K H0 π D).rt x (unpin j s.pin δ') → (dEnds X.K H0 (pinTo π j v) D).rt x δ' := fun x δ' q v' σ' H1 H2 ν' M E' s1 o1 => q v' σ' H1 H2 ν' M (E'.unpin hpin) s1 (o1.unpin j s.pin)
      -- the list or tuple as it stands at a turn
      have seqAt : ∀ {σ' : L2.St} {H' : Hp} {ν' : Nu} {δ' : En}, EnvOk X.K H0 (pinTo π j v) H' σ' δ' ν' → δ'[j]? = some (some ⟨s.d, ownN ds s.own, true⟩) → Rp X.K H' v s.d (ν' j) := fun E' h => by
        obtain ⟨w, _, r', hp'⟩ := E'.at_ j _ h
        have e := hp' rfl
        unfold pinTo at e
        rw [if_pos rfl] at e
        cases e
        exact r'
      have itemOk : ∀ {σ' : L2.St} {H' : Hp} {ν' : Nu} {δ' : En} {u : V} {d : KT.D} {L : List Addr}, EnvOk X.K H0 (pinTo π j v) H' σ' δ' ν' → δ'[j]? = some (some ⟨s.d, ownN ds s.own, true⟩) → Rp X.K H' u d L → (∀ a ∈ L, a ∈ ν' j) → d ∈ ds →
          FOk X.K H0 (killR δ' wl) ν' H' u d (KT.imm d) L := fun {σ' H' ν' δ' u d L} E' h ru hsub hmem => by
        cases hi : KT.imm d with
        | true => exact FOk.imm ru hi true
        | false =>
          have hno : ownN ds s.own = false := by
            cases hz : ownN ds s.own with
            | false => rfl
            | true =>
              have z := immL_of.mp (ownN_le hz).2 d hmem
              rw [hi] at z
              exact z.symm
          refine ⟨ru, fun z => (nomatch z), fun z => (nomatch z), fun z => (nomatch z), fun k t hk ho a ha hm => ?_⟩
          have hk' := (killR_some hk).1
          have n : k ≠ j := fun e => by
            subst e
            rw [h] at hk'
            cases hk'
            rw [hno] at ho
            cases ho
          exact E'.dj k j t _ n hk' ho h a ha (hsub a hm)
      refine ⟨v, hv', ?_⟩
      have W1 : ∀ (J : It), True → True := fun _ _ => trivial
      let Pv : Nat → L2.St → Hp → Prop := fun i σ H => ∃ δ ν, EnvOk X.K H0 (pinTo π j v) H σ δ ν ∧ loopL (bodyN j ⟨s.d, ownN ds s.own, true⟩ tg wl m ⟨(dEnds X.K H0 π D).nx, fun x δ => (dEnds X.K H0 π D).rt x (unpin j s.pin δ)⟩) (ds.drop i) (fun δ => δ[j]? = some (some ⟨s.d, ownN ds s.own, true⟩) ∧ (dEnds X.K H0 π D).nx (unpin j s.pin (killR δ wl))) δ
      have start0 : Pv 0 σ H := ⟨_, ν, E1, LoopL_to q⟩
      have there : ∀ i σ H, i ≤ ds.length → Pv i σ H → ∃ δ ν, EnvOk X.K H0 (pinTo π j v) H σ δ ν ∧ δ[j]? = some (some ⟨s.d, ownN ds s.own, true⟩) := fun i σ H hi ⟨δ, ν, E', q⟩ => by
        refine ⟨δ, ν, E', ?_⟩
        by_cases hlt : i < ds.length
        · rw [List.drop_eq_getElem_cons hlt] at q
          exact q.1
        · rw [List.drop_eq_nil_of_le (by omega)] at q
          exact q.1
      have fin : ∀ σ H, Pv ds.length σ H → D.nx σ H := fun σ H ⟨δ, ν, E', q⟩ => by
        rw [List.drop_length] at q
        exact nxO E' q.2
      have turn : ∀ (i : Nat) (u : V) (d : KT.D) (σ : L2.St) (H : Hp), ds[i]? = some d → (∀ (δ : En) (ν : Nu), EnvOk X.K H0 (pinTo π j v) H σ δ ν → δ[j]? = some (some ⟨s.d, ownN ds s.own, true⟩) → ∃ L, Rp X.K H u d L ∧ ∀ a ∈ L, a ∈ ν j) → Pv i σ H →
          gOf X.K tg u σ H fun σ3 H3 => semAny G X.K m { D with nx := Pv (i + 1), ct := Pv (i + 1), bk := D.nx } σ3 H3 := fun i u d σ H hd hu ⟨δ, ν, E', q⟩ => by
        obtain ⟨hi, hie⟩ := List.getElem?_eq_some_iff.mp hd
        rw [List.drop_eq_getElem_cons hi, hie] at q
        obtain ⟨L, ru, hsub⟩ := hu δ ν E' q.1
        refine asgT_ok (E'.kill wl) (itemOk E' q.1 ru hsub (hie ▸ List.getElem_mem hi)) q.2 fun σ' δ' ν' E'' q => ⟨H0, pinTo π j v, GUp.up hG (Same.refl _), δ', ν', E'', ?_⟩
        exact hb.mono ⟨_, fun x δ => (dEnds X.K H0 π D).rt x (unpin j s.pin δ)⟩ _ _ (fun δ q σ'' H'' ν'' E3 => ⟨δ, ν'', E3, q⟩) rtO q
      revert hds
      cases hsd : s.d with
      | list ds' =>
        intro hds
        cases hds
        rw [hsd] at r
        obtain ⟨p, xs, L, rfl, _, hp1, rs⟩ := r.list_
        refine ⟨p, rfl, .inl ⟨⟨xs, SqL.of hp1⟩, fun i k σ H => k = ds.length - i ∧ i ≤ ds.length ∧ Pv i σ H, ⟨ds.length, by simp, Nat.zero_le _, start0⟩, ?_⟩⟩
        rintro i k σ H ⟨rfl, hi, w⟩
        obtain ⟨δ1, ν1, E', h'⟩ := there i σ H hi w
        have r' := seqAt E' h'
        rw [hsd] at r'
        obtain ⟨p', xs', L', e, _, hp2, rs'⟩ := r'.list_
        cases e
        by_cases hlt : i < ds.length
        · have hl : i < xs'.length := by rw [rs'.length]; exact hlt
          refine .inr ⟨⟨xs', xs'[i], SqL.of hp2, List.getElem?_eq_getElem hl⟩, Pv (i + 1), fun σ' H' p' => ⟨ds.length - (i + 1), by omega, rfl, hlt, p'⟩, fun u H' y => ?_⟩
          obtain ⟨e, y⟩ := y
          subst e
          refine turn i u ds[i] σ _ (List.getElem?_eq_getElem hlt) (fun δ2 ν2 E2 h2 => ?_) w
          have r2 := seqAt E2 h2
          rw [hsd] at r2
          obtain ⟨p2, ys, L2, e, eL, hp3, rs2⟩ := r2.list_
          cases e
          have hy := y ys (SqL.of hp3)
          obtain ⟨w', A, M, B, k1, k2, k3⟩ := rs2.get (List.getElem?_eq_getElem hlt)
          rw [hy] at k1
          cases k1
          exact ⟨M, k3, fun a ha => by rw [eL, k2]; simp [ha]⟩
        · have e : i = ds.length := by omega
          subst e
          exact .inl ⟨⟨xs', SqL.of hp2, by rw [rs'.length]; exact Nat.le_refl _⟩, fin σ H w⟩
      | tuple ds' =>
        intro hds
        cases hds
        rw [hsd] at r
        obtain ⟨p, xs, rfl, hp1, rs⟩ := r.tuple_
        refine ⟨p, rfl, .inr ⟨⟨xs, hp1⟩, fun i k σ H => k = ds.length - i ∧ i ≤ ds.length ∧ Pv i σ H, ⟨ds.length, by simp, Nat.zero_le _, start0⟩, ?_⟩⟩
        rintro i k σ H ⟨rfl, hi, w⟩
        obtain ⟨δ1, ν1, E', h'⟩ := there i σ H hi w
        have r' := seqAt E' h'
        rw [hsd] at r'
        obtain ⟨p', xs', e, hp2, rs'⟩ := r'.tuple_
        cases e
        by_cases hlt : i < ds.length
        · have hl : i < xs'.length := by rw [rs'.length]; exact hlt
          refine .inr ⟨⟨xs', xs'[i], hp2, List.getElem?_eq_getElem hl⟩, Pv (i + 1), fun σ' H' p' => ⟨ds.length - (i + 1), by omega, rfl, hlt, p'⟩, fun u H' y => ?_⟩
          obtain ⟨e, y⟩ := y
          subst e
          refine turn i u ds[i] σ _ (List.getElem?_eq_getElem hlt) (fun δ2 ν2 E2 h2 => ?_) w
          have r2 := seqAt E2 h2
          rw [hsd] at r2
          obtain ⟨p2, ys, e, hp3, rs2⟩ := r2.tuple_
          cases e
          have hy := y ys hp3
          obtain ⟨w', A, M, B, k1, k2, k3⟩ := rs2.get (List.getElem?_eq_getElem hlt)
          rw [hy] at k1
          cases k1
          exact ⟨M, k3, fun a ha => by rw [k2]; simp [ha]⟩
        · have e : i = ds.length := by omega
          subst e
          exact .inl ⟨⟨xs', hp2, by rw [rs'.length]; exact Nat.le_refl _⟩, fin σ H w⟩
      | _ => intro hds; cases hds
    · exact q.elim
  · exact q.elim
end
end KT
/-! KtH: comprehensions; lists changed in place; a, b = x, y. -/
namespace KT
open PySem PySem.Spec PyProof.Rows L2
variable [WT]

/-! ### the slots of a comprehension's own names -/
theorem wipe_get (σ : L2.St) : ∀ (vs : List Nat) (i : Nat), (wipe σ vs)[i]? = if i ∈ vs then (if i < σ.length then some none else none) else σ[i]?
  | [], i => by simp [wipe]
  | v :: vs, i => by
    unfold wipe
    by_cases e : v = i
    · subst e
      simp only [List.mem_cons, true_or, if_true]
      by_cases h : v < σ.length
      · rw [List.getElem?_set_self (by rw [wipe_length]; exact h), if_pos h]
      · rw [List.getElem?_eq_none (by rw [List.length_set, wipe_length]; omega), if_neg h]
    · rw [List.getElem?_set_ne e, wipe_get σ vs i]
      have e' : i ≠ v := Ne.symm e
      simp only [List.mem_cons, e', false_or]
theorem wipe_set {σ : L2.St} {vs : List Nat} {i : Nat} (h : i ∈ vs) (o : Option V) : wipe (σ.set i o) vs = wipe σ vs := by
  apply List.ext_getElem?
  intro j
  rw [wipe_get, wipe_get, List.length_set]
  by_cases hj : j ∈ vs
  · rw [if_pos hj, if_pos hj]
  · rw [if_neg hj, if_neg hj, List.getElem?_set_ne (fun e => by subst e; exact hj h)]
theorem wipe_wipe (σ : L2.St) (vs : List Nat) : wipe (wipe σ vs) vs = wipe σ vs := by
  apply List.ext_getElem?
  intro j
  rw [wipe_get, wipe_length]
  by_cases hj : j ∈ vs
  · rw [if_pos hj, wipe_get, if_pos hj]
  · rw [if_neg hj]
theorem wipe_setAll : ∀ {is : List Nat} {σ : L2.St} {ws : List V} {vs : List Nat}, (∀ i ∈ is, i ∈ vs) → wipe (setAllV σ is ws) vs = wipe σ vs
  | [], _, _, _, _ => by simp only [setAllV]
  | _ :: _, _, [], _, _ => by simp only [setAllV]
  | i :: is, σ, w :: ws, vs, h => by
    simp only [setAllV]
    rw [wipe_setAll fun j hj => h j (List.mem_cons_of_mem _ hj), wipe_set (h i List.mem_cons_self)]
def Tgt.slots : Tgt → List Nat
  | .nm i => [i]
  | .tp is => is
theorem asgT_okW {K : PySem.W.Frag} {H0 H : Hp} {π : Nat → Option V} {σ : L2.St} {δ : En} {ν : Nu} {v : V} {d : D} {o : Bool} {M : List Addr} {tg : Tgt} {P : En → Prop} {Q : L2.St → Hp → Prop} {vs : List Nat} (E : EnvOk K H0 π H σ δ ν) (q : FOk K H0 δ ν H v d o M)
    (hs : ∀ i ∈ tg.slots, i ∈ vs) (h : asgT tg d o δ P) (i : ∀ σ' δ' ν', EnvOk K H0 π H σ' δ' ν' → wipe σ' vs = wipe σ vs → P δ' → Q σ' H) : gOf K tg v σ H Q := by
  cases tg with
  | nm j =>
    rw [asgT_nm] at h
    exact i _ _ _ (E.set q j) (wipe_set (hs j (by simp [Tgt.slots])) _) h
  | tp is =>
    have r := q.rp
    cases d with
    | tuple ds =>
      rw [asgT_tp] at h
      obtain ⟨hl, h⟩ := h
      obtain ⟨a, xs, rfl, ha, s⟩ := r.tuple_
      obtain ⟨ν', E'⟩ := set_all_ok (is := is) E s (fun z => ⟨q.nd z, q.fr z, q.dj z⟩) q.al
      exact ⟨a, xs, rfl, ha, by rw [s.length]; exact hl, gnames_ok (by rw [s.length]; exact hl) (i _ _ _ E' (wipe_setAll hs) h)⟩
    | _ => exact h.elim

/-! ### comprehensions over data -/
def lcStep (tg : Tgt) (t : DT) (fe : DE) (δ : En) : D → List D → (List D → Prop) → Prop := fun d acc P => asgT tg d (imm d) δ fun δ' => t δ' fun b => match b with
  | true => fe δ' fun y => (y.own = true ∧ y.roots = [] ∧ acc.length < sizeLine) ∧ P (acc ++ [y.d])
  | false => P acc
def lcL (step : D → List D → (List D → Prop) → Prop) : List D → List D → (List D → Prop) → Prop
  | [], acc, P => P acc
  | d :: ds, acc, P => step d acc fun acc => lcL step ds acc P
inductive LcL (step : D → List D → (List D → Prop) → Prop) (ds acc : List D) (P : List D → Prop) : Prop
  | of_ : lcL step ds acc P → LcL step ds acc P
  | of2 : lcL step ds acc P → LcL step ds acc P
theorem LcL_to {step : D → List D → (List D → Prop) → Prop} {ds acc : List D} {P : List D → Prop} (h : LcL step ds acc P) : lcL step ds acc P := by
  rcases h with h | h <;> exact h
theorem LcL_of {step : D → List D → (List D → Prop) → Prop} {ds acc : List D} {P : List D → Prop} (h : lcL step ds acc P) : LcL step ds acc P := by
  exact .of_ h
theorem lcL_mono {step step' : D → List D → (List D → Prop) → Prop} (hb : ∀ d acc (P Q : List D → Prop), (∀ a, P a → Q a) → step d acc P → step' d acc Q) {P Q : List D → Prop} (h : ∀ a, P a → Q a) : ∀ ds acc, lcL step ds acc P → lcL step' ds acc Q
  | [], _, q => h _ q
  | d :: ds, acc, q => hb d acc _ _ (fun a q => lcL_mono hb h ds a q) q
theorem lcStep_mono {tg : Tgt} {t : DT} {fe : DE} {δ : En} (ht : ∀ δ (P P' : Bool → Prop), (∀ x, P x → P' x) → t δ P → t δ P') (he : ∀ δ (P P' : Val → Prop), (∀ x, P x → P' x) → fe δ P → fe δ P') :
    ∀ d acc (P Q : List D → Prop), (∀ a, P a → Q a) → lcStep tg t fe δ d acc P → lcStep tg t fe δ d acc Q := fun d acc P Q h q =>
  asgT_mono (fun δ q => ht _ _ _ (fun b q => by
    cases b
    · exact h _ q
    · exact he _ _ _ (fun y q => ⟨q.1, h _ q.2⟩) q) q) q
/-- the comprehension's turns over items ds -/
def lcRun (tg : Tgt) (wl : List Nat) (t : DT) (fe : DE) (roots : List Nat) (ds : List D) (δ : En) (P : Val → Prop) : Prop :=
  killK δ wl fun δ => demK δ roots fun δ => LcL (lcStep tg t fe δ) ds [] fun acc => P ⟨.list acc, true, []⟩
theorem lcRun_eq (tg : Tgt) (wl : List Nat) (t : DT) (fe : DE) (roots : List Nat) (ds : List D) (δ : En) (P : Val → Prop) :
    lcRun tg wl t fe roots ds δ P = LcL (lcStep tg t fe (demR (killR δ wl) roots)) ds [] fun acc => P ⟨.list acc, true, []⟩ := by
  unfold lcRun
  rw [killK_eq, demK_eq]
def rgItems (lo : Int) (n : Nat) : List D := (List.range n).map fun (k : Nat) => PyData.int (lo + (k : Int))
def dLcR (rg : List D → (Int → Nat → Prop) → Prop) (tg : Tgt) (wl : List Nat) (t : DT) (fe : DE) (g : DA) : DE := fun δ P => g δ fun xs => rg (xs.map Val.d) fun lo n => lcRun tg wl t fe [] (rgItems lo n) δ P
def dLcV (tg : Tgt) (wl : List Nat) (t : DT) (fe : DE) (f : DE) : DE := fun δ P => f δ fun x => match seqOf x.d with
  | some ds => lcRun tg wl t fe x.roots ds δ P
  | none => False
def dtYes : DT := fun _ P => P true
structure ETs (G : GT) (X : Cx) (ifs : List Expr) (f : DT) : Prop where
  mono : ∀ δ (P P' : Bool → Prop), (∀ x, P x → P' x) → f δ P → f δ P'
  pts : ∀ H0 π, G H0 π → PTs X ifs (semT X.K H0 π f)
theorem ptsi {X : Cx} {e : List Expr} {t t' : TT} (h : PTs X e t) (i : ∀ σ H Q, t' σ H Q → t σ H Q) : PTs X e t' :=
  ⟨fun pins s σ H Q I q => h.run pins s σ H Q I (i σ H Q q)⟩
theorem ets_nil {X : Cx} : ETs G X [] dtYes := ⟨fun _ _ _ h q => h _ q, fun H0 π hG => ptsi pts_nil fun σ H Q ⟨δ, ν, E, q⟩ => q H (Same.refl H)⟩
theorem ets_one {X : Cx} {c : Expr} {t : DT} (h : ET G X c t) : ETs G X [c] t := ⟨h.mono, fun H0 π hG => pts_one (h.pt H0 π hG)⟩

section
variable {X : Cx} {a b e c : Expr} {es : List Expr} {fa fb f fe : DE} {g : DA} {t : DT} {pos : Pos} {st : Stmt} {sts : List Stmt} {m n : DS}
def semEAny (G : GT) (K : PySem.W.Frag) (f : DE) : TE := fun σ H Q => ∃ H2 π, G H2 π ∧ semE K H2 π f σ H Q
def semTAny (G : GT) (K : PySem.W.Frag) (f : DT) : TT := fun σ H Q => ∃ H2 π, G H2 π ∧ semT K H2 π f σ H Q
theorem EV.any (h : EV G X e f) : PE X e (semEAny G X.K f) := ⟨fun pins s σ H Q I ⟨H2, π, g, q⟩ => (h.pe H2 π g).run pins s σ H Q I q⟩
theorem ETs.any {ifs : List Expr} (h : ETs G X ifs t) : PTs X ifs (semTAny G X.K t) := ⟨fun pins s σ H Q I ⟨H2, π, g, q⟩ => (h.pts H2 π g).run pins s σ H Q I q⟩

/-- the new list's turns: what holds at turn i of the heap -/
def LcInv (K : PySem.W.Frag) (H1 : Hp) (Dd : Addr) (step : D → List D → (List D → Prop) → Prop) (ds : List D) (P : List D → Prop) (i : Nat) (H : Hp) : Prop :=
  Same H1 H ∧ ∃ accV accD Ma, H Dd = some (.lst accV) ∧ Rps K H accV accD Ma ∧ (Dd :: Ma).Nodup ∧ (∀ a ∈ Ma, H1 a = none) ∧ lcL step (ds.drop i) accD P
theorem lc_turn {G : GT} {K : PySem.W.Frag} {H1 H2 : Hp} {π : Nat → Option V} {σ0 : L2.St} {δ1 : En} {ν : Nu} {Dd : Addr} {tg : Tgt} {vs : List Nat} {ds : List D} {P : List D → Prop} (hG : G H2 π) (ht : ∀ δ (P P' : Bool → Prop), (∀ x, P x → P' x) → t δ P → t δ P')
    (he : ∀ δ (P P' : Val → Prop), (∀ x, P x → P' x) → fe δ P → fe δ P') (hDd : H1 Dd = none) (E : EnvOk K H2 π H1 (wipe σ0 vs) δ1 ν) (hs : ∀ i ∈ tg.slots, i ∈ vs) {i : Nat} {x : V} {d : D} {H : Hp} (hd : ds[i]? = some d) (hx : ∃ L, Rp K H2 x d L)
    (w : LcInv K H1 Dd (lcStep tg t fe δ1) ds P i H) :
    gOf K tg x (wipe σ0 vs) H fun σ2 H2' => wipe σ2 vs = wipe σ0 vs ∧ semTAny G K t σ2 H2' fun b H3 =>
      if b = true then semEAny G K fe σ2 H3 fun y H4 => ∃ acc, H4 Dd = some (.lst acc) ∧ acc.length < sizeLine ∧ LcInv K H1 Dd (lcStep tg t fe δ1) ds P (i + 1) (upd H4 Dd (.lst (acc ++ [y]))) else LcInv K H1 Dd (lcStep tg t fe δ1) ds P (i + 1) H3 := by
  obtain ⟨s1, accV, accD, Ma, hD, hr, hn, hf, q⟩ := w
  obtain ⟨hi, hie⟩ := List.getElem?_eq_some_iff.mp hd
  rw [List.drop_eq_getElem_cons hi, hie] at q
  obtain ⟨L, rx⟩ := hx
  have EH := E.same s1
  have q2 : asgT tg d (imm d) δ1 fun δ' => t δ' fun b => match b with
    | true => fe δ' fun y => (y.own = true ∧ y.roots = [] ∧ accD.length < sizeLine) ∧ lcL (lcStep tg t fe δ1) (ds.drop (i + 1)) (accD ++ [y.d]) P
    | false => lcL (lcStep tg t fe δ1) (ds.drop (i + 1)) accD P := q
  refine asgT_okW EH (FOk.item EH rx) hs q2 fun σ' δ' ν' E' hw q => ⟨by rw [hw, wipe_wipe], H2, π, hG, δ', ν', E', ht _ _ _ (fun bb q H3 s3 => ?_) q⟩
  cases bb with
  | false =>
    rw [if_neg Bool.false_ne_true]
    exact ⟨s1.trans s3, accV, accD, Ma, s3 _ _ hD, hr.same s3, hn, hf, q⟩
  | true =>
    rw [if_pos rfl]
    refine ⟨H2, π, hG, δ', ν', E'.same s3, he _ _ _ (fun y q v H4 M s4 o => ?_) q⟩
    obtain ⟨⟨ho, hrt, hz⟩, q⟩ := q
    have sA : Same H1 H4 := (s1.trans s3).trans s4
    have hD4 : H4 Dd = some (.lst accV) := s4 _ _ (s3 _ _ hD)
    have fresh : ∀ a ∈ M, H3 a = none := fun a ha => by
      rcases o.fr ho a ha with z | ⟨k, hk, _⟩
      · exact z
      · rw [hrt] at hk; cases hk
    have nD : Dd ∉ M := fun h => by
      have := fresh Dd h
      rw [s3 _ _ hD] at this
      cases this
    have hr4 := (hr.same s3).same s4
    have nMa : ∀ a ∈ Ma, ∀ b' ∈ M, a ≠ b' := fun a ha b' hb' e => by
      subst e
      exact (hr.same s3).trk a ha (fresh a hb')
    have hn' := List.nodup_cons.mp hn
    refine ⟨accV, hD4, by rw [hr.length]; exact hz, fun b' o' e => ?_, accV ++ [v], accD ++ [y.d], Ma ++ M, upd_same, ?_, ?_, fun a ha => ?_, q⟩
    · rw [upd_ne (ne_of_none e hDd)]
      exact sA _ _ e
    · exact Rps.upd hD4 (hr4.append (Rps.one o.rp)) fun h => (List.mem_append.mp h).elim hn'.1 nD
    · refine List.nodup_cons.mpr ⟨fun h => (List.mem_append.mp h).elim hn'.1 nD, List.nodup_append.mpr ⟨hn'.2, o.nd ho, nMa⟩⟩
    · rcases List.mem_append.mp ha with h | h
      · exact hf a h
      · exact (s1.trans s3).free (fresh a h)
theorem lc_end {K : PySem.W.Frag} {H0 H H1 H' : Hp} {π : Nat → Option V} {σ : L2.St} {δ : En} {ν : Nu} {Dd : Addr} {step : D → List D → (List D → Prop) → Prop} {ds : List D} {Pv : Val → Prop} {Q : VK} (E : EnvOk K H0 π H σ δ ν) (s : Same H H1) (hDd : H1 Dd = none)
    (hP : ∀ x, Pv x → ∀ v H' M, Same H H' → VOk K H δ ν H' v x M → Q v H') {n : Nat} (hn : ds.length ≤ n) (w : LcInv K H1 Dd step ds (fun acc => Pv ⟨.list acc, true, []⟩) n H') : Q (.ref Dd) H' := by
  obtain ⟨s1, accV, accD, Ma, hD, hr, hnd, hf, q⟩ := w
  rw [List.drop_eq_nil_of_le hn] at q
  exact hP _ q _ _ _ (s.trans s1) (FR.vok s (.lst hD hr) hnd (fun a ha => by
    rcases List.mem_cons.mp ha with rfl | ha
    · exact hDd
    · exact hf a ha) E)
theorem lc_start {K : PySem.W.Frag} {H1 : Hp} {Dd : Addr} {step : D → List D → (List D → Prop) → Prop} {ds : List D} {P : List D → Prop} (hDd : H1 Dd = none) (q : lcL step ds [] P) : LcInv K H1 Dd step ds P 0 (upd H1 Dd (.lst [])) :=
  ⟨Same.upd_new hDd, [], [], [], upd_same, .nil, by simp, fun _ h => (nomatch h), q⟩
/-- the names of the comprehension's block are forgotten -/
theorem EnvOk.wiped {K : PySem.W.Frag} {H0 H : Hp} {π : Nat → Option V} {σ : L2.St} {δ : En} {ν : Nu} (E : EnvOk K H0 π H σ δ ν) (vs : List Nat) : EnvOk K H0 π H (wipe σ vs) (killR δ vs) ν := by
  have E' := E.kill vs
  refine ⟨E'.len.trans (wipe_length σ vs).symm, E'.sm, fun i s h => ?_, E'.nd, E'.dj⟩
  obtain ⟨h1, h2⟩ := killR_some h
  obtain ⟨v, x, y, z⟩ := E'.at_ i s h
  refine ⟨v, ?_, y, z⟩
  rw [wipe_get, if_neg h2]
  exact x
theorem lcR_sem {G : GT} {K : PySem.W.Frag} {H0 : Hp} {π : Nat → Option V} {tg : Tgt} {vs : List Nat} {σ : L2.St} {H H1 : Hp} {Q : VK} {δ : En} {ν : Nu} {lo : Int} {n : Nat} {Pv : Val → Prop} (hG : G H0 π) (ht : ∀ δ (P P' : Bool → Prop), (∀ x, P x → P' x) → t δ P → t δ P')
    (he : ∀ δ (P P' : Val → Prop), (∀ x, P x → P' x) → fe δ P → fe δ P') (hs : ∀ i ∈ tg.slots, i ∈ vs) (E : EnvOk K H0 π H σ δ ν) (s : Same H H1) (hP : ∀ x, Pv x → ∀ v H' M, Same H H' → VOk K H δ ν H' v x M → Q v H') (q : lcRun tg vs t fe [] (rgItems lo n) δ Pv) :
    ∀ Dd, H1 Dd = none → ∃ W : Nat → Nat → Hp → Prop, (∃ m, W 0 m (upd H1 Dd (.lst []))) ∧ ∀ i m H, W i m H →
      ((Itr lo n).stop i H ∧ Q (.ref Dd) H) ∨ ((Itr lo n).go i H ∧ ∃ Nx : Hp → Prop, (∀ H', Nx H' → ∃ m', m' < m ∧ W (i + 1) m' H') ∧ ∀ x H', (Itr lo n).yld i H x H' → gOf K tg x (wipe σ vs) H' fun σ2 H2 => wipe σ2 vs = wipe σ vs ∧ semTAny G K t σ2 H2 fun b H3 =>
        if b = true then semEAny G K fe σ2 H3 fun y H4 => ∃ acc, H4 Dd = some (.lst acc) ∧ acc.length < sizeLine ∧ Nx (upd H4 Dd (.lst (acc ++ [y]))) else Nx H3) := by
  intro Dd hDd
  rw [lcRun_eq] at q
  have E1 : EnvOk K H0 π H1 (wipe σ vs) (demR (killR δ vs) []) ν := ((E.same s).wiped vs).dem []
  have hl : (rgItems lo n).length = n := by simp [rgItems]
  refine lc_range (lo := lo) (n := n) (LcInv K H1 Dd (lcStep tg t fe (demR (killR δ vs) [])) (rgItems lo n) fun acc => Pv ⟨.list acc, true, []⟩) (lc_start hDd (LcL_to q)) (fun i H hi w => ?_) fun H w => lc_end E s hDd hP (by rw [hl]; exact Nat.le_refl _) w
  refine lc_turn hG ht he hDd E1 hs (d := .int (lo + i)) ?_ ⟨[], .int _⟩ w
  simp [rgItems, hi]
theorem lcV_sem {G : GT} [GUp G] {K : PySem.W.Frag} {H0 : Hp} {π : Nat → Option V} {tg : Tgt} {vs : List Nat} {σ : L2.St} {H H1 : Hp} {Q : VK} {δ : En} {ν : Nu} {p : Addr} {x : Val} {M : List Addr} {ds : List D} {Pv : Val → Prop} (hG : G H0 π) (ht : ∀ δ (P P' : Bool → Prop), (∀ x, P x → P' x) → t δ P → t δ P')
    (he : ∀ δ (P P' : Val → Prop), (∀ x, P x → P' x) → fe δ P → fe δ P') (hs : ∀ i ∈ tg.slots, i ∈ vs) (E : EnvOk K H0 π H σ δ ν) (s : Same H H1) (o : VOk K H δ ν H1 (.ref p) x M) (hds : seqOf x.d = some ds)
    (hP : ∀ x, Pv x → ∀ v H' M, Same H H' → VOk K H δ ν H' v x M → Q v H') (q : lcRun tg vs t fe x.roots ds δ Pv) (J : It) (hJ : (∃ xs, x.d = .list xs ∧ J = Itl K p) ∨ (∃ xs, x.d = .tuple xs ∧ J = Itt K p)) :
    ∀ Dd, H1 Dd = none → ∃ W : Nat → Nat → Hp → Prop, (∃ m, W 0 m (upd H1 Dd (.lst []))) ∧ ∀ i m H, W i m H →
      (J.stop i H ∧ Q (.ref Dd) H) ∨ (J.go i H ∧ ∃ Nx : Hp → Prop, (∀ H', Nx H' → ∃ m', m' < m ∧ W (i + 1) m' H') ∧ ∀ x H', J.yld i H x H' → gOf K tg x (wipe σ vs) H' fun σ2 H2 => wipe σ2 vs = wipe σ vs ∧ semTAny G K t σ2 H2 fun b H3 =>
        if b = true then semEAny G K fe σ2 H3 fun y H4 => ∃ acc, H4 Dd = some (.lst acc) ∧ acc.length < sizeLine ∧ Nx (upd H4 Dd (.lst (acc ++ [y]))) else Nx H3) := by
  intro Dd hDd
  rw [lcRun_eq] at q
  have E1 : EnvOk K H0 π H1 (wipe σ vs) (demR (killR δ vs) x.roots) ν := ((E.same s).wiped vs).dem x.roots
  have al : ∀ j s, (demR (killR δ vs) x.roots)[j]? = some (some s) → s.own = true → ∀ a ∈ ν j, a ∉ M := fun j s h ho a ha => by
    obtain ⟨t, h1, h2, h3, h4⟩ := demR_some h
    exact o.al j t (killR_some h1).1 (h4 ho).1 (h4 ho).2 a ha
  have r2 := Rp.shut E1 o.rp al
  have E2 := E1.shut
  rcases hJ with ⟨xs', hx, rfl⟩ | ⟨xs', hx, rfl⟩
  · rw [hx] at hds r2
    cases hds
    obtain ⟨a, xs, L, e, _, ha, rs⟩ := r2.list_
    cases e
    refine lc_list (K := K) (a := p) (xs := xs) (LcInv K H1 Dd (lcStep tg t fe (demR (killR δ vs) x.roots)) ds fun acc => Pv ⟨.list acc, true, []⟩) (lc_start hDd (LcL_to q)) (fun i H _ w => SqL.of (w.1 _ _ (shut_same _ _ _ _ _ ha))) (fun i u H hu w => ?_) fun H w => lc_end E s hDd hP (by rw [rs.length]; exact Nat.le_refl _) w
    obtain ⟨d, A, L', B, k1, k2, k3⟩ := rs.getV hu
    exact lc_turn (GUp.up hG (shut_over E1)) ht he hDd E2 hs k1 ⟨L', k3⟩ w
  · rw [hx] at hds r2
    cases hds
    obtain ⟨a, xs, e, ha, rs⟩ := r2.tuple_
    cases e
    refine lc_tup (K := K) (a := p) (xs := xs) (LcInv K H1 Dd (lcStep tg t fe (demR (killR δ vs) x.roots)) ds fun acc => Pv ⟨.list acc, true, []⟩) (lc_start hDd (LcL_to q)) (fun i H _ w => SqT.same ((shut_same _ _ _).trans w.1) ha) (fun i u H hu w => ?_) fun H w => lc_end E s hDd hP (by rw [rs.length]; exact Nat.le_refl _) w
    obtain ⟨d, A, L', B, k1, k2, k3⟩ := rs.getV hu
    exact lc_turn (GUp.up hG (shut_over E1)) ht he hDd E2 hs k1 ⟨L', k3⟩ w

theorem lcRun_mono {tg : Tgt} {wl : List Nat} {roots : List Nat} {ds : List D} {δ : En} (ht : ∀ δ (P P' : Bool → Prop), (∀ x, P x → P' x) → t δ P → t δ P') (he : ∀ δ (P P' : Val → Prop), (∀ x, P x → P' x) → fe δ P → fe δ P') {P Q : Val → Prop} (h : ∀ x, P x → Q x)
    (q : lcRun tg wl t fe roots ds δ P) : lcRun tg wl t fe roots ds δ Q := by
  rw [lcRun_eq] at q ⊢
  exact LcL_of (lcL_mono (lcStep_mono ht he) (fun a q => h _ q) _ _ (LcL_to q))
/-- a comprehension: src gives the turns -/
structure ELc (G : GT) (X : Cx) (e : Expr) (wi : TI) (tg : Tgt) (vs : List Nat) (t : DT) (fe : DE) (f : DE) : Prop where
  mono : ∀ δ (P P' : Val → Prop), (∀ x, P x → P' x) → f δ P → f δ P'
theorem dLcR_mono {rg : List D → (Int → Nat → Prop) → Prop} {tg : Tgt} {wl : List Nat} (hr : ∀ {ds : List D} {P Q : Int → Nat → Prop}, (∀ i n, P i n → Q i n) → rg ds P → rg ds Q) (hg : ∀ δ (P P' : List Val → Prop), (∀ x, P x → P' x) → g δ P → g δ P')
    (ht : ∀ δ (P P' : Bool → Prop), (∀ x, P x → P' x) → t δ P → t δ P') (he : ∀ δ (P P' : Val → Prop), (∀ x, P x → P' x) → fe δ P → fe δ P') : ∀ δ (P P' : Val → Prop), (∀ x, P x → P' x) → dLcR rg tg wl t fe g δ P → dLcR rg tg wl t fe g δ P' := fun δ P P' h q =>
  hg _ _ _ (fun xs q => hr (fun i n q => lcRun_mono ht he h q) q) q
theorem dLcV_mono {tg : Tgt} {wl : List Nat} (hf : ∀ δ (P P' : Val → Prop), (∀ x, P x → P' x) → f δ P → f δ P')
    (ht : ∀ δ (P P' : Bool → Prop), (∀ x, P x → P' x) → t δ P → t δ P') (he : ∀ δ (P P' : Val → Prop), (∀ x, P x → P' x) → fe δ P → fe δ P') : ∀ δ (P P' : Val → Prop), (∀ x, P x → P' x) → dLcV tg wl t fe f δ P → dLcV tg wl t fe f δ P' := fun δ P P' h q =>
  hf _ _ _ (fun x q => by
    revert q; split
    · exact lcRun_mono ht he h
    · exact id) q
theorem dLcR1_sem {G : GT} {K : PySem.W.Frag} {H0 : Hp} {π : Nat → Option V} {tg : Tgt} {vs : List Nat} {σ : L2.St} {H : Hp} {Q : VK} (hG : G H0 π) (hg : ∀ δ (P P' : List Val → Prop), (∀ x, P x → P' x) → g δ P → g δ P')
    (ht : ∀ δ (P P' : Bool → Prop), (∀ x, P x → P' x) → t δ P → t δ P') (he : ∀ δ (P P' : Val → Prop), (∀ x, P x → P' x) → fe δ P → fe δ P') (hs : ∀ i ∈ tg.slots, i ∈ vs) (h : semE K H0 π (dLcR rg1 tg vs t fe g) σ H Q) :
    tLc (iRng1 (semA K H0 π g)) (gOf K tg) (semTAny G K t) (semEAny G K fe) vs σ H Q := by
  obtain ⟨δ, ν, E, q⟩ := h
  refine ⟨δ, ν, E, hg _ _ _ (fun xs q ws H1 Ms s1 o1 => ?_) q⟩
  have r := o1.rps
  revert q
  generalize xs.map Val.d = ds at r
  intro q
  unfold rg1 at q
  split at q
  · obtain ⟨v, rfl, u⟩ := r.one_
    rw [u.int_]
    exact ⟨_, rfl, q.1.1, q.1.2, lcR_sem hG ht he hs E s1 (fun x q => q) q.2⟩
  · exact q.elim
theorem dLcR2_sem {G : GT} {K : PySem.W.Frag} {H0 : Hp} {π : Nat → Option V} {tg : Tgt} {vs : List Nat} {σ : L2.St} {H : Hp} {Q : VK} (hG : G H0 π) (hg : ∀ δ (P P' : List Val → Prop), (∀ x, P x → P' x) → g δ P → g δ P')
    (ht : ∀ δ (P P' : Bool → Prop), (∀ x, P x → P' x) → t δ P → t δ P') (he : ∀ δ (P P' : Val → Prop), (∀ x, P x → P' x) → fe δ P → fe δ P') (hs : ∀ i ∈ tg.slots, i ∈ vs) (h : semE K H0 π (dLcR rg2 tg vs t fe g) σ H Q) :
    tLc (iRng2 (semA K H0 π g)) (gOf K tg) (semTAny G K t) (semEAny G K fe) vs σ H Q := by
  obtain ⟨δ, ν, E, q⟩ := h
  refine ⟨δ, ν, E, hg _ _ _ (fun xs q ws H1 Ms s1 o1 => ?_) q⟩
  have r := o1.rps
  revert q
  generalize xs.map Val.d = ds at r
  intro q
  unfold rg2 at q
  split at q
  · obtain ⟨v, w, A, B, rfl, u1, u2⟩ := r.two_
    rw [u1.int_, u2.int_]
    exact ⟨_, _, rfl, q.1, lcR_sem hG ht he hs E s1 (fun x q => q) q.2⟩
  · exact q.elim
theorem dLcV_sem {G : GT} [GUp G] {K : PySem.W.Frag} {H0 : Hp} {π : Nat → Option V} {tg : Tgt} {vs : List Nat} {σ : L2.St} {H : Hp} {Q : VK} (hG : G H0 π) (hf : ∀ δ (P P' : Val → Prop), (∀ x, P x → P' x) → f δ P → f δ P')
    (ht : ∀ δ (P P' : Bool → Prop), (∀ x, P x → P' x) → t δ P → t δ P') (he : ∀ δ (P P' : Val → Prop), (∀ x, P x → P' x) → fe δ P → fe δ P') (hs : ∀ i ∈ tg.slots, i ∈ vs) (h : semE K H0 π (dLcV tg vs t fe f) σ H Q) :
    tLc (iSeq K (semE K H0 π f)) (gOf K tg) (semTAny G K t) (semEAny G K fe) vs σ H Q := by
  obtain ⟨δ, ν, E, q⟩ := h
  refine ⟨δ, ν, E, hf _ _ _ (fun x q v H1 M s1 o1 => ?_) q⟩
  have r := o1.rp
  revert q
  cases hx : x.d with
  | list ds =>
    intro q
    rw [hx] at r
    obtain ⟨a, xs, L, rfl, _, ha, s⟩ := r.list_
    exact ⟨a, rfl, .inl ⟨⟨xs, SqL.of ha⟩, lcV_sem hG ht he hs E s1 o1 (by rw [hx]; rfl) (fun x q => q) q _ (.inl ⟨ds, hx, rfl⟩)⟩⟩
  | tuple ds =>
    intro q
    rw [hx] at r
    obtain ⟨a, xs, rfl, ha, s⟩ := r.tuple_
    exact ⟨a, rfl, .inr ⟨⟨xs, ha⟩, lcV_sem hG ht he hs E s1 o1 (by rw [hx]; rfl) (fun x q => q) q _ (.inr ⟨ds, hx, rfl⟩)⟩⟩
  | _ => exact False.elim
end
end KT
/-! KtI: comprehensions as expressions and in a store; lists changed in place; a, b = x, y. -/
namespace KT
open PySem PySem.Spec PyProof.Rows L2
variable [WT]
def MonoT (t : DT) : Prop := ∀ δ (P P' : Bool → Prop), (∀ x, P x → P' x) → t δ P → t δ P'
def MonoE (f : DE) : Prop := ∀ δ (P P' : Val → Prop), (∀ x, P x → P' x) → f δ P → f δ P'
section
variable {X : Cx} {a b e c : Expr} {es : List Expr} {fa fb f fe : DE} {g : DA} {t : DT} {pos : Pos} {st : Stmt} {sts : List Stmt} {m n : DS}
/-- what a comprehension walks -/
structure ESrc (G : GT) (X : Cx) (tgt iter : Expr) (tg : Tgt) (vs : List Nat) (t : DT) (fe : DE) (f : DE) : Prop where
  mono : MonoE f
  src : ∀ H0 π, G H0 π → ∃ wi, PI X tgt iter wi ∧ ∀ σ H Q, semE X.K H0 π f σ H Q → tLc wi (gOf X.K tg) (semTAny G X.K t) (semEAny G X.K fe) vs σ H Q
theorem es_R1 {tgt : Expr} {tg : Tgt} {vs : List Nat} {p pos' : Pos} (hr : Gl X "range") (hmr : X.mg "range" = none) (ha : EA G X [a] g) (hs : (∀ i ∈ tg.slots, i ∈ vs) := by decide) (hs1 : starEach [a] X.env = [(false, eval a X.env)] := by rfl) (ht : MonoT t) (he : MonoE fe) :
    ESrc G X tgt (.Call (.Name "range" p) [a] [] pos') tg vs t fe (dLcR rg1 tg vs t fe g) :=
  ⟨dLcR_mono rg1_mono ha.mono ht he, fun H0 π hG => ⟨_, pi_range1 hr hmr (ha.pa H0 π hG) hs1, fun σ H Q h => dLcR1_sem hG ha.mono ht he hs h⟩⟩
theorem es_R2 {tgt : Expr} {tg : Tgt} {vs : List Nat} {p pos' : Pos} (hr : Gl X "range") (hmr : X.mg "range" = none) (ha : EA G X [a, b] g) (hs : (∀ i ∈ tg.slots, i ∈ vs) := by decide) (hs1 : starEach [a, b] X.env = [(false, eval a X.env), (false, eval b X.env)] := by rfl)
    (hs2 : starEach [b] X.env = [(false, eval b X.env)] := by rfl) (ht : MonoT t) (he : MonoE fe) :
    ESrc G X tgt (.Call (.Name "range" p) [a, b] [] pos') tg vs t fe (dLcR rg2 tg vs t fe g) :=
  ⟨dLcR_mono rg2_mono ha.mono ht he, fun H0 π hG => ⟨_, pi_range2 hr hmr (ha.pa H0 π hG) hs1 hs2, fun σ H Q h => dLcR2_sem hG ha.mono ht he hs h⟩⟩
theorem es_V [GUp G] {tgt iter : Expr} {tg : Tgt} {vs : List Nat} (hf : EV G X iter f) (hs : (∀ i ∈ tg.slots, i ∈ vs) := by decide) (ht : MonoT t) (he : MonoE fe) : ESrc G X tgt iter tg vs t fe (dLcV tg vs t fe f) :=
  ⟨dLcV_mono hf.mono ht he, fun H0 π hG => ⟨_, pi_seq (hf.pe H0 π hG), fun σ H Q h => dLcV_sem hG hf.mono ht he hs h⟩⟩
theorem ev_lc {elt tgt iter : Expr} {ifs : List Expr} {scope : Scope} (own : List (Str × Nat)) {vs : List Nat} {tg : Tgt} (hc : X.calm = true) (hN : X.N.Nodup) (ok : BlkOk X.N X.env.scope scope own)
    (htg : ∀ (s : Shared) (H : Hp) (C : Addr) (cl : List (Str × Addr)) (fp : List Addr), TgOk (X.blk s H scope (compEnvC scope cl C X.env) fp) tgt tg)
    (hts : ∀ (s : Shared) (H : Hp) (C : Addr) (cl : List (Str × Addr)) (fp : List Addr), ETs G (X.blk s H scope (compEnvC scope cl C X.env) fp) ifs t)
    (hel : ∀ (s : Shared) (H : Hp) (C : Addr) (cl : List (Str × Addr)) (fp : List Addr), EV G (X.blk s H scope (compEnvC scope cl C X.env) fp) elt fe)
    (hsrc : MonoT t → MonoE fe → ESrc G X tgt iter tg vs t fe f) (hvs : own.map (·.2) = vs := by rfl) (hs : ∀ x, foldedSetIterable iter X.env x = pure x := by intro _; rfl) :
    EV G X (.ListComp elt [⟨tgt, iter, ifs, 0⟩] scope pos) f := by
  subst hvs
  have S := hsrc (hts X.s_0 X.H_0 0 [] []).mono (hel X.s_0 X.H_0 0 [] []).mono
  refine ⟨S.mono, fun H0 π hG => ?_⟩
  obtain ⟨wi, hi, sem⟩ := S.src H0 π hG
  exact pei (pe_lc hc hN hi ok (fun s H C cl fp => (htg s H C cl fp).pg) (fun s H C cl fp => (hts s H C cl fp).any) (fun s H C cl fp => (hel s H C cl fp).any) hs) sem
theorem sv_setLc {elt tgt iter : Expr} {ifs : List Expr} {scope : Scope} {y : Str} {py spos : Pos} (i : Nat) (own : List (Str × Nat)) {vs : List Nat} {tg : Tgt} (hc : X.calm = true) (hN : X.N.Nodup) (ok : BlkOk X.N X.env.scope scope own)
    (htg : ∀ (s : Shared) (H : Hp) (C : Addr) (cl : List (Str × Addr)) (fp : List Addr), TgOk (X.blk s H scope (compEnvC scope cl C X.env) fp) tgt tg)
    (hts : ∀ (s : Shared) (H : Hp) (C : Addr) (cl : List (Str × Addr)) (fp : List Addr), ETs G (X.blk s H scope (compEnvC scope cl C X.env) fp) ifs t)
    (hel : ∀ (s : Shared) (H : Hp) (C : Addr) (cl : List (Str × Addr)) (fp : List Addr), EV G (X.blk s H scope (compEnvC scope cl C X.env) fp) elt fe)
    (hsrc : MonoT t → MonoE fe → ESrc G X tgt iter tg vs t fe f) (hy : X.N[i]? = some y := by rfl) (hyl : X.env.scope.names.lookup y = some .local := by rfl)
    (hsw : swapsWith (.ListComp elt [⟨tgt, iter, ifs, 0⟩] scope pos) (some (.Name y py)) spos.line X.env = pure true := by exact sw_true rfl rfl rfl (by decide +kernel))
    (hvs : own.map (·.2) = vs := by rfl) (hs : ∀ x, foldedSetIterable iter X.env x = pure x := by intro _; rfl) :
    SV G X (.Assign [.Name y py] (.ListComp elt [⟨tgt, iter, ifs, 0⟩] scope pos) spos) (mSet i true f) := by
  subst hvs
  have S := hsrc (hts X.s_0 X.H_0 0 [] []).mono (hel X.s_0 X.H_0 0 [] []).mono
  refine ⟨mset_mono S.mono, fun H0 π hG => ?_⟩
  obtain ⟨wi, hi, sem⟩ := S.src H0 π hG
  exact psi (ps_setLc hc hN hy hyl hsw hi ok (fun s H C cl fp => (htg s H C cl fp).pg) (fun s H C cl fp => (hts s H C cl fp).any) (fun s H C cl fp => (hel s H C cl fp).any) hs) fun D σ H h => sem σ H _ (set_sem S.mono h)

/-! ### a list changed in place -/
theorem EnvOk.write {K : PySem.W.Frag} {H0 H : Hp} {π : Nat → Option V} {σ : L2.St} {δ : En} {ν : Nu} (E : EnvOk K H0 π H σ δ ν) {j : Nat} {s : Slot} {p : Addr} {N' N'' : List Addr} {xs ys : List V} {es : List D} (hj : δ[j]? = some (some s)) (ho : s.own = true)
    (hv : σ[j]? = some (some (.ref p))) (hn : ν j = p :: N') (hp : H p = some (.lst xs)) (r : Rps K H ys es N'') (nd : (p :: N'').Nodup) (fr : ∀ a ∈ N'', H0 a = none) (dj : ∀ a ∈ N'', ∀ k t, k ≠ j → δ[k]? = some (some t) → a ∉ ν k)
    (al : ∀ k t, k ≠ j → δ[k]? = some (some t) → t.own = true → ∀ a ∈ ν k, a ∉ N'') : EnvOk K H0 π (upd H p (.lst ys)) σ (δ.set j (some ⟨.list es, true, s.pin⟩)) (setNu ν j (p :: N'')) := by
  have hl := (List.getElem?_eq_some_iff.mp hj).1
  have hp0 : H0 p = none := (E.nd j s hj ho).2 p (by rw [hn]; exact List.mem_cons_self)
  have nk : ∀ k t, k ≠ j → δ[k]? = some (some t) → p ∉ ν k := fun k t n h => E.dj j k s t (Ne.symm n) hj ho h p (by rw [hn]; exact List.mem_cons_self)
  have nd' := List.nodup_cons.mp nd
  have look : ∀ k t, (δ.set j (some ⟨.list es, true, s.pin⟩))[k]? = some (some t) → (k = j ∧ t = ⟨.list es, true, s.pin⟩) ∨ (k ≠ j ∧ δ[k]? = some (some t)) := fun k t h => by
    by_cases e : k = j
    · subst e
      rw [List.getElem?_set_self hl] at h
      cases h
      exact .inl ⟨rfl, rfl⟩
    · rw [List.getElem?_set_ne (Ne.symm e)] at h
      exact .inr ⟨e, h⟩
  have nu1 : setNu ν j (p :: N'') j = p :: N'' := by simp [setNu]
  have nu2 : ∀ k, k ≠ j → setNu ν j (p :: N'') k = ν k := fun k n => by simp [setNu, n]
  refine ⟨by simpa using E.len, fun b o h => ?_, fun k t h => ?_, fun k t h o => ?_, fun k l t u n h o h' a ha => ?_⟩
  · rw [upd_ne (fun e => by subst e; rw [hp0] at h; cases h)]
    exact E.sm b o h
  · rcases look k t h with ⟨rfl, rfl⟩ | ⟨n, h⟩
    · obtain ⟨w, a, _, c⟩ := E.at_ k s hj
      rw [hv] at a
      cases a
      refine ⟨_, hv, ?_, c⟩
      rw [nu1]
      exact .lst upd_same (Rps.upd hp r nd'.1)
    · obtain ⟨w, a, b, c⟩ := E.at_ k t h
      refine ⟨w, a, ?_, c⟩
      rw [nu2 k n]
      exact Rp.upd hp b (nk k t n h)
  · rcases look k t h with ⟨rfl, rfl⟩ | ⟨n, h⟩
    · rw [nu1]
      refine ⟨nd, fun a ha => ?_⟩
      rcases List.mem_cons.mp ha with rfl | ha
      · exact hp0
      · exact fr a ha
    · rw [nu2 k n]
      exact E.nd k t h o
  · rcases look k t h with ⟨rfl, rfl⟩ | ⟨n1, h3⟩
    · rw [nu1] at ha
      rcases look l u h' with ⟨rfl, _⟩ | ⟨n2, h2⟩
      · exact absurd rfl n
      · rw [nu2 l n2]
        rcases List.mem_cons.mp ha with rfl | ha
        · exact nk l u n2 h2
        · exact dj a ha l u n2 h2
    · have ha2 : a ∈ ν k := by
        rw [nu2 k n1] at ha
        exact ha
      rcases look l u h' with ⟨rfl, _⟩ | ⟨n2, h2⟩
      · rw [nu1]
        intro hm
        rcases List.mem_cons.mp hm with rfl | hm
        · exact nk k t n1 h3 ha2
        · exact al k t n1 h3 o a ha2 hm
      · rw [nu2 l n2]
        exact E.dj k l t u n h3 o h2 a ha2
/-- the slot of a name whose list is its own -/
theorem own_list {K : PySem.W.Frag} {H0 H : Hp} {π : Nat → Option V} {σ : L2.St} {δ : En} {ν : Nu} (E : EnvOk K H0 π H σ δ ν) {j : Nat} {ds : List D} {pn : Bool} (hj : δ[j]? = some (some ⟨.list ds, true, pn⟩)) :
    ∃ p xs N', σ[j]? = some (some (.ref p)) ∧ ν j = p :: N' ∧ H p = some (.lst xs) ∧ Rps K H xs ds N' ∧ (p :: N').Nodup ∧ ∀ a ∈ N', H0 a = none := by
  obtain ⟨v, hv, r, _⟩ := E.at_ j _ hj
  obtain ⟨p, xs, N', rfl, hn, hp, rs⟩ := r.list_
  have h := E.nd j _ hj rfl
  rw [hn] at h
  exact ⟨p, xs, N', hv, hn, hp, rs, h.1, fun a ha => h.2 a (List.mem_cons_of_mem _ ha)⟩

def ownL (δ : En) (j : Nat) : Option (List D × Bool) := match δ[j]? with
  | some (some ⟨.list ds, true, pn⟩) => some (ds, pn)
  | _ => none
theorem ownL_some {δ : En} {j : Nat} {ds : List D} {pn : Bool} (h : ownL δ j = some (ds, pn)) : δ[j]? = some (some ⟨.list ds, true, pn⟩) := by
  unfold ownL at h
  split at h
  · rename_i e; cases h; exact e
  · cases h
theorem killR_at {δ : En} {j : Nat} : ∀ {r : List Nat}, r.contains j = false → (killR δ r)[j]? = δ[j]?
  | [], _ => rfl
  | i :: r, h => by
    rw [List.contains_cons, Bool.or_eq_false_iff] at h
    simp only [killR]
    rw [List.getElem?_set_ne (fun e => by subst e; simp at h), killR_at h.2]
/-- a list changed at its name, by values that come by now -/
theorem write_by {K : PySem.W.Frag} {H0 H H1 : Hp} {π : Nat → Option V} {σ : L2.St} {δ : En} {ν : Nu} {j : Nat} {ds : List D} {pn : Bool} (E : EnvOk K H0 π H σ δ ν) (hj : δ[j]? = some (some ⟨.list ds, true, pn⟩)) (s1 : Same H H1) {p : Addr} {xs : List V} {N' : List Addr}
    (hv : σ[j]? = some (some (.ref p))) (hn : ν j = p :: N') (hp : H p = some (.lst xs)) (nd : (p :: N').Nodup) (fr : ∀ a ∈ N', H0 a = none) {v : V} {x : Val} {M : List Addr} (o : VOk K H δ ν H1 v x M) (ho : x.own = true) (hr : x.roots.contains j = false)
    {ys : List V} {es : List D} {N'' : List Addr} (r : Rps K H1 ys es N'') (sub : ∀ a ∈ N'', a ∈ N' ∨ a ∈ M) (nd2 : N''.Nodup) :
    EnvOk K H0 π (upd H1 p (.lst ys)) σ ((killR δ x.roots).set j (some ⟨.list es, true, pn⟩)) (setNu ν j (p :: N'')) := by
  have E1 := (E.same s1).kill x.roots
  have F := o.killed E
  have hj1 : (killR δ x.roots)[j]? = some (some ⟨.list ds, true, pn⟩) := by rw [killR_at hr]; exact hj
  have nd' := List.nodup_cons.mp nd
  have pM : p ∉ M := fun h => F.dj ho p h j _ hj1 (by rw [hn]; exact List.mem_cons_self)
  refine E1.write hj1 rfl hv hn (s1 _ _ hp) r (List.nodup_cons.mpr ⟨fun h => (sub p h).elim nd'.1 pM, nd2⟩) (fun a ha => (sub a ha).elim (fr a) (F.fr ho a)) (fun a ha k t n h => ?_) fun k t n h ow a ha hm => ?_
  · rcases sub a ha with z | z
    · exact E1.dj j k _ t (Ne.symm n) hj1 rfl h a (by rw [hn]; exact List.mem_cons_of_mem _ z)
    · exact F.dj ho a z k t h
  · rcases sub a hm with z | z
    · exact E1.dj k j t _ n h ow hj1 a ha (by rw [hn]; exact List.mem_cons_of_mem _ z)
    · exact F.al k t h ow a ha z
/-- x.append(e) -/
def mApp (j : Nat) (f : DE) : DS := fun E δ => match ownL δ j with
  | some (ds, pn) => f δ fun x => (x.own = true ∧ x.roots.contains j = false ∧ ds.length < sizeLine) ∧ killK δ x.roots fun δ' => setK δ' j (some ⟨.list (ds ++ [x.d]), true, pn⟩) E.nx
  | none => False
theorem mApp_mono {j : Nat} (hm : MonoE f) : MonoS (mApp j f) := fun A B δ h1 h2 q => by
  unfold mApp at *
  split at q
  · refine hm _ _ _ (fun x q => ⟨q.1, ?_⟩) q
    have q2 := q.2
    rw [killK_eq, setK_eq] at q2 ⊢
    exact h1 _ q2
  · exact q.elim
theorem sv_app (j : Nat) {x : Str} {px pm pe : Pos} (he : EV G X e f) (hN : X.N[j]? = some x := by rfl) (hv : Vis X.env.scope x := by first | exact Or.inl rfl | exact Or.inr (Or.inl rfl) | exact Or.inr (Or.inr rfl)) (hd : (x == ("__debug__" : Str)) = false := by decide)
    (hcd : (x == ("__classdict__" : Str)) = false := by decide) (hs1 : starEach [e] X.env = (false, eval e X.env) :: starEach [] X.env := by rfl)
    (hs : swapsWith (.Call (.Attribute (.Name x px) "append" pm) [e] [] pe) none pos.line X.env = pure false := by rfl)
    (hbm : ∀ {to : TE} {t : TA}, PE X (.Name x px) to → PA X [e] t → PE X (.Call (.Attribute (.Name x px) "append" pm) [e] [] pe) (tBM X.K "list" rAppend to t) := by
      intro _ _ h1 h2; exact pe_bm PySem.F.plainAttrs_list PySem.F.slot_list_append PySem.F.type_list_append mt_append h1 h2) :
    SV G X (.Expr (.Call (.Attribute (.Name x px) "append" pm) [e] [] pe) pos) (mApp j f) := by
  refine ⟨mApp_mono he.mono, fun H0 π hG => psi (ps_expr (hbm (pe_var hN hv hd hcd) (pa_cons (he.pe H0 π hG) pa_nil hs1)) hs) fun D σ H ⟨δ, ν, E, q⟩ => ?_⟩
  unfold mApp at q
  split at q
  · rename_i ds pn hj
    have hj := ownL_some hj
    obtain ⟨p, xs, N', hv, hn, hp, rs, nd, fr⟩ := own_list E hj
    refine ⟨_, hv, .inl ⟨rfl, _, SqL.of hp⟩, δ, ν, E, he.mono _ _ _ (fun y q w H1 M s1 o1 => ?_) q⟩
    obtain ⟨⟨ho, hr, hz⟩, q⟩ := q
    rw [killK_eq, setK_eq] at q
    refine ⟨p, xs, w, rfl, rfl, s1 _ _ hp, by rw [rs.length]; exact hz, q _ _ _ (write_by E hj s1 hv hn hp nd fr o1 ho hr ((rs.same s1).append (Rps.one o1.rp)) (fun a ha => List.mem_append.mp ha) ?_)⟩
    refine List.nodup_append.mpr ⟨(List.nodup_cons.mp nd).2, o1.nd ho, fun a ha b hb e => ?_⟩
    subst e
    have hj1 : (killR δ y.roots)[j]? = some (some ⟨.list ds, true, pn⟩) := by rw [killR_at hr]; exact hj
    exact (o1.killed E).dj ho a hb j _ hj1 (by rw [hn]; exact List.mem_cons_of_mem _ ha)
  · exact q.elim
/-- x[i] = e -/
def mSetI (j : Nat) (fi fe : DE) : DS := fun E δ => match ownL δ j with
  | some (ds, pn) => fe δ fun x => fi δ fun y => (match y.d with
    | .int k => ∃ m, (x.own = true ∧ x.roots.contains j = false ∧ ixN ds.length k = some m) ∧ killK δ x.roots fun δ' => setK δ' j (some ⟨.list (ds.set m x.d), true, pn⟩) E.nx
    | _ => False)
  | none => False
theorem mSetI_mono {j : Nat} {fi fe : DE} (hi : MonoE fi) (he : MonoE fe) : MonoS (mSetI j fi fe) := fun A B δ h1 h2 q => by
  unfold mSetI at *
  split at q
  · refine he _ _ _ (fun x q => hi _ _ _ (fun y q => ?_) q) q
    split at q
    · rename_i hy
      obtain ⟨m, a, b⟩ := q
      refine ⟨m, a, ?_⟩
      rw [killK_eq, setK_eq] at b ⊢
      exact h1 _ b
    · exact q.elim
  · exact q.elim
theorem sv_setI (j : Nat) {x : Str} {px ps : Pos} {i e : Expr} {fi fe : DE} (hi : EV G X i fi) (he : EV G X e fe) (hN : X.N[j]? = some x := by rfl) (hv : Vis X.env.scope x := by first | exact Or.inl rfl | exact Or.inr (Or.inl rfl) | exact Or.inr (Or.inr rfl))
    (hd : (x == ("__debug__" : Str)) = false := by decide) (hcd : (x == ("__classdict__" : Str)) = false := by decide)
    (ha : ∀ v, assign (.Subscript (.Name x px) i ps) X.env v = (do
      let ov ← holding [v] (eval (.Name x px) X.env)
      let iv ← holding [v, ov] (eval i X.env)
      standAt ps
      holding [v, ov, iv] (setItem ov iv v)
      release [v, ov, iv] []) := by intro _; rfl)
    (hs : swapsWithSole [.Subscript (.Name x px) i ps] e pos.line X.env = pure false := by rfl) (hw : swappedStores [.Subscript (.Name x px) i ps] e X.env = pure none := by rfl)
    (h1 : (assignEach [.Subscript (.Name x px) i ps] X.env).map (·.2) = [assign (.Subscript (.Name x px) i ps) X.env] := by rfl) :
    SV G X (.Assign [.Subscript (.Name x px) i ps] e pos) (mSetI j fi fe) := by
  refine ⟨mSetI_mono hi.mono he.mono, fun H0 π hG => psi (ps_asg (he.pe H0 π hG) (pg_sub (pe_var hN hv hd hcd) (hi.pe H0 π hG) set_list ha) hs hw h1) fun D σ H ⟨δ, ν, E, q⟩ => ?_⟩
  unfold mSetI at q
  split at q
  · rename_i ds pn hj0
    have hj := ownL_some hj0
    obtain ⟨p, xs, N', hv', hn, hp, rs, nd, fr⟩ := own_list E hj
    refine ⟨δ, ν, E, he.mono _ _ _ (fun y q w H1 M s1 o1 => ?_) q⟩
    refine ⟨_, hv', δ, ν, E.same s1, hi.mono _ _ _ (fun z q u H2 L s2 o2 => ?_) q⟩
    have rz := o2.rp
    revert q
    cases hz : z.d <;> first | exact False.elim | skip
    rename_i k
    rintro ⟨m, ⟨ho, hr, hm⟩, q⟩
    rw [killK_eq, setK_eq] at q
    rw [hz] at rz
    have hml : m < ds.length := by
      unfold ixN at hm
      split at hm
      · split at hm
        · cases hm; omega
        · cases hm
      · split at hm
        · cases hm; omega
        · cases hm
    have s12 := s1.trans s2
    obtain ⟨A, O, B, e1, r2⟩ := (rs.same s12).set (o1.rp.same s2) hml
    refine ⟨p, xs, k, m, rfl, rz.int_, s12 _ _ hp, by rw [rs.length]; exact hm, q _ _ _ (write_by E hj s12 hv' hn hp nd fr (o1.same s2) ho hr r2 (fun a ha => ?_) ?_)⟩
    · rw [e1]
      simp only [List.mem_append] at ha ⊢
      rcases ha with (h | h) | h
      · exact .inl (.inl (.inl h))
      · exact .inr h
      · exact .inl (.inr h)
    · have hj1 : (killR δ y.roots)[j]? = some (some ⟨.list ds, true, pn⟩) := by rw [killR_at hr]; exact hj
      have F := o1.killed E
      have nN : N'.Nodup := (List.nodup_cons.mp nd).2
      have sep : ∀ a ∈ N', ∀ b ∈ M, a ≠ b := fun a ha b hb e => by
        subst e
        exact F.dj ho a hb j _ hj1 (by rw [hn]; exact List.mem_cons_of_mem _ ha)
      rw [e1] at nN sep
      rw [List.nodup_append] at nN
      rw [List.nodup_append] at nN
      obtain ⟨⟨nA, nO, nAO⟩, nB, nAB⟩ := nN
      rw [List.nodup_append, List.nodup_append]
      refine ⟨⟨nA, o1.nd ho, fun a ha b hb => sep a (by simp [ha]) b hb⟩, nB, fun a ha b hb => ?_⟩
      rcases List.mem_append.mp ha with ha | ha
      · exact nAB a (List.mem_append_left _ ha) b hb
      · exact fun e => sep b (by simp [hb]) a ha e.symm
  · exact q.elim
end
end KT
/-! KtJ: the law's end. -/
namespace KT
open PySem PySem.Spec PyProof.Rows L2
variable [WT]
def dIf (t : DT) (fa fb : DE) : DE := fun δ P => t δ fun k => match k with
  | true => fa δ P
  | false => fb δ P
/-- the script as data -/
def scr (ns : List Int) : D := .dict (scrP ns)
/-- what the law's call asks, from its predicate -/
theorem law_sp {K : PySem.W.Frag} {wl : W} (h : ∀ ns : List Int, ns.length ≤ 63 → (∀ z ∈ ns, Builtin.Int.intBits z ≤ 1048576) → wl [scr ns] fun d => d = .bool true) (H : Hp) (a : Addr) (ns : List Int) (hl : ns.length ≤ 63) (hb : ∀ z ∈ ns, Builtin.Int.intBits z ≤ 1048576) (hO : Only H)
    (hS : SqL K H a (ns.map V.int)) : spOf K 1 wl [.ref a] H (fun v _ => v = .bl true) fun _ _ _ => False := by
  have r : Rp K H (.ref a) (scr ns) [] := by
    refine .scr ?_
    rcases hS with (z | ⟨o, z⟩) | z
    · rcases hO a with q | ⟨o, xs, q⟩
      · rw [q] at z; cases z
      · rw [q] at z; cases z
    · exact .inl ⟨o, z⟩
    · exact .inr z
  refine ⟨rfl, [scr ns], [] ++ [], .cons r .nil, _, h ns hl hb, fun d e v H' M _ r' _ _ => ?_⟩
  subst e
  exact r'.bool_
end KT
/-! KtK: a list within a list of a name, changed in place. -/
namespace KT
open PySem PySem.Spec PyProof.Rows L2
variable [WT]
theorem EnvOk.writeD {K : PySem.W.Frag} {H0 H : Hp} {π : Nat → Option V} {σ : L2.St} {δ : En} {ν : Nu} (E : EnvOk K H0 π H σ δ ν) {j : Nat} {s : Slot} {v : V} {q : Addr} {zs ys : List V} {d' : D} {N2 : List Addr} (hj : δ[j]? = some (some s)) (ho : s.own = true)
    (hv : σ[j]? = some (some v)) (hq : q ∈ ν j) (hp : H q = some (.lst zs)) (r : Rp K (upd H q (.lst ys)) v d' N2) (nd : N2.Nodup) (fr : ∀ a ∈ N2, H0 a = none) (dj : ∀ a ∈ N2, ∀ k t, k ≠ j → δ[k]? = some (some t) → a ∉ ν k)
    (al : ∀ k t, k ≠ j → δ[k]? = some (some t) → t.own = true → ∀ a ∈ ν k, a ∉ N2) : EnvOk K H0 π (upd H q (.lst ys)) σ (δ.set j (some ⟨d', true, s.pin⟩)) (setNu ν j N2) := by
  have hl := (List.getElem?_eq_some_iff.mp hj).1
  have hp0 : H0 q = none := (E.nd j s hj ho).2 q hq
  have nk : ∀ k t, k ≠ j → δ[k]? = some (some t) → q ∉ ν k := fun k t n h => E.dj j k s t (Ne.symm n) hj ho h q hq
  have look : ∀ k t, (δ.set j (some ⟨d', true, s.pin⟩))[k]? = some (some t) → (k = j ∧ t = ⟨d', true, s.pin⟩) ∨ (k ≠ j ∧ δ[k]? = some (some t)) := fun k t h => by
    by_cases e : k = j
    · subst e
      rw [List.getElem?_set_self hl] at h
      cases h
      exact .inl ⟨rfl, rfl⟩
    · rw [List.getElem?_set_ne (Ne.symm e)] at h
      exact .inr ⟨e, h⟩
  have nu1 : setNu ν j N2 j = N2 := by simp [setNu]
  have nu2 : ∀ k, k ≠ j → setNu ν j N2 k = ν k := fun k n => by simp [setNu, n]
  refine ⟨by simpa using E.len, fun b o h => ?_, fun k t h => ?_, fun k t h o => ?_, fun k l t u n h o h' a ha => ?_⟩
  · rw [upd_ne (fun e => by subst e; rw [hp0] at h; cases h)]
    exact E.sm b o h
  · rcases look k t h with ⟨rfl, rfl⟩ | ⟨n, h⟩
    · obtain ⟨w, a, _, c⟩ := E.at_ k s hj
      rw [hv] at a
      cases a
      refine ⟨_, hv, ?_, c⟩
      rw [nu1]
      exact r
    · obtain ⟨w, a, b, c⟩ := E.at_ k t h
      refine ⟨w, a, ?_, c⟩
      rw [nu2 k n]
      exact Rp.upd hp b (nk k t n h)
  · rcases look k t h with ⟨rfl, rfl⟩ | ⟨n, h⟩
    · rw [nu1]
      exact ⟨nd, fr⟩
    · rw [nu2 k n]
      exact E.nd k t h o
  · rcases look k t h with ⟨rfl, rfl⟩ | ⟨n1, h3⟩
    · rw [nu1] at ha
      rcases look l u h' with ⟨rfl, _⟩ | ⟨n2, h2⟩
      · exact absurd rfl n
      · rw [nu2 l n2]
        exact dj a ha l u n2 h2
    · have ha2 : a ∈ ν k := by
        rw [nu2 k n1] at ha
        exact ha
      rcases look l u h' with ⟨rfl, _⟩ | ⟨n2, h2⟩
      · rw [nu1]
        exact al k t n1 h3 o a ha2
      · rw [nu2 l n2]
        exact E.dj k l t u n h3 o h2 a ha2
/-- an item, and what comes about where a list within it changes -/
theorem Rps.get2 {K : PySem.W.Frag} {H : Hp} : ∀ {vs : List V} {ds : List D} {N : List Addr} {i : Nat} {d : D}, Rps K H vs ds N → ds[i]? = some d →
    ∃ v A M B, vs[i]? = some v ∧ N = A ++ M ++ B ∧ Rp K H v d M ∧ ∀ (q : Addr) (ys zs : List V), H q = some (.lst zs) → q ∉ A → q ∉ B → ∀ d' M2, Rp K (L2.upd H q (.lst ys)) v d' M2 → Rps K (L2.upd H q (.lst ys)) vs (ds.set i d') (A ++ M2 ++ B)
  | _, _, _, _, _, .nil, e => by simp at e
  | _, _, _, 0, d, .cons (N := N) (M := M) r s, e => by
    simp at e; subst e
    exact ⟨_, [], N, M, rfl, by simp, r, fun q ys zs hq _ hB d' M2 r' => by simpa using Rps.cons r' (Rps.upd hq s hB)⟩
  | _, _, _, i + 1, d, .cons (N := N) (M := M) r s, e => by
    obtain ⟨v, A, M', B, h1, h2, h3, h4⟩ := Rps.get2 (i := i) (d := d) s (by simpa using e)
    refine ⟨v, N ++ A, M', B, by simpa using h1, by rw [h2]; simp, h3, fun q ys zs hq hA hB d' M2 r' => ?_⟩
    have hA' : ¬ (q ∈ N ∨ q ∈ A) := fun h => hA (List.mem_append.mpr h)
    have t := h4 q ys zs hq (fun h => hA' (.inr h)) hB d' M2 r'
    simpa [List.append_assoc] using Rps.cons (Rp.upd hq r fun h => hA' (.inl h)) t
section
variable {X : Cx} {f fi : DE}
/-- x[i].append(e) -/
def mAppI (j : Nat) (fi f : DE) : DS := fun E δ => match ownL δ j with
  | some (ds, pn) => fi δ fun y => (match y.d with
    | .int k => ∃ m es, (ixN ds.length k = some m ∧ ds[m]? = some (.list es)) ∧ f δ fun x => (x.own = true ∧ x.roots.contains j = false ∧ es.length < sizeLine) ∧ killK δ x.roots fun δ' => setK δ' j (some ⟨.list (ds.set m (.list (es ++ [x.d]))), true, pn⟩) E.nx
    | _ => False)
  | none => False
theorem mAppI_mono {j : Nat} (hi : MonoE fi) (hm : MonoE f) : MonoS (mAppI j fi f) := fun A B δ h1 h2 q => by
  unfold mAppI at *
  split at q
  · refine hi _ _ _ (fun y q => ?_) q
    split at q
    · rename_i hy
      obtain ⟨m, es, a, q⟩ := q
      refine ⟨m, es, a, hm _ _ _ (fun x q => ⟨q.1, ?_⟩) q⟩
      have q2 := q.2
      rw [killK_eq, setK_eq] at q2 ⊢
      exact h1 _ q2
    · exact q.elim
  · exact q.elim
theorem sv_appI (j : Nat) {x : Str} {px ps pm pe : Pos} {i e : Expr} (hi : EV G X i fi) (hs0 : PlainIx i) (he : EV G X e f) (hN : X.N[j]? = some x := by rfl) (hv : Vis X.env.scope x := by first | exact Or.inl rfl | exact Or.inr (Or.inl rfl) | exact Or.inr (Or.inr rfl)) (hd : (x == ("__debug__" : Str)) = false := by decide)
    (hcd : (x == ("__classdict__" : Str)) = false := by decide) (hs1 : starEach [e] X.env = (false, eval e X.env) :: starEach [] X.env := by rfl)
    (hs : swapsWith (.Call (.Attribute (.Subscript (.Name x px) i ps) "append" pm) [e] [] pe) none pos.line X.env = pure false := by rfl)
    (hbm : ∀ {to : TE} {t : TA}, PE X (.Subscript (.Name x px) i ps) to → PA X [e] t → PE X (.Call (.Attribute (.Subscript (.Name x px) i ps) "append" pm) [e] [] pe) (tBM X.K "list" rAppend to t) := by
      intro _ _ h1 h2; exact pe_bm PySem.F.plainAttrs_list PySem.F.slot_list_append PySem.F.type_list_append mt_append h1 h2) :
    SV G X (.Expr (.Call (.Attribute (.Subscript (.Name x px) i ps) "append" pm) [e] [] pe) pos) (mAppI j fi f) := by
  refine ⟨mAppI_mono hi.mono he.mono, fun H0 π hG => psi (ps_expr (hbm (pe_ix ix_seq (pe_var hN hv hd hcd) (hi.pe H0 π hG) hs0) (pa_cons (he.pe H0 π hG) pa_nil hs1)) hs) fun D σ H ⟨δ, ν, E, q⟩ => ?_⟩
  unfold mAppI at q
  split at q
  · rename_i ds pn hj
    have hj := ownL_some hj
    obtain ⟨p, xs, N', hv, hn, hp, rs, nd, fr⟩ := own_list E hj
    refine ⟨_, hv, δ, ν, E, hi.mono _ _ _ (fun z q u H1 L s1 o1 => ?_) q⟩
    have rz := o1.rp
    revert q
    cases hz : z.d <;> first | exact False.elim | skip
    rename_i k
    rintro ⟨m, es, ⟨hm, hes⟩, q⟩
    rw [hz] at rz
    obtain ⟨v, A, M, B, g1, g2, g3, g4⟩ := (rs.same s1).get2 hes
    obtain ⟨a, ys, M', rfl, rfl, ha, rs'⟩ := g3.list_
    have hat : atI xs k = some (.ref a) := by
      unfold atI
      rw [rs.length, hm]
      exact g1
    refine .inl ⟨p, xs, k, .ref a, rfl, rz.int_, SqL.of (s1 _ _ hp), hat, .inl ⟨rfl, _, SqL.of ha⟩, δ, ν, E.same s1, he.mono _ _ _ (fun y q w H2 W s2 o2 => ?_) q⟩
    obtain ⟨⟨ho, hr, hz⟩, q⟩ := q
    rw [killK_eq, setK_eq] at q
    have s12 := s1.trans s2
    obtain ⟨v2, A2, M2, B2, k1, k2, k3, k4⟩ := (rs.same s12).get2 hes
    rw [g1] at k1
    cases k1
    obtain ⟨a2, ys2, M3, e1, rfl, ha2, rs2⟩ := k3.list_
    cases e1
    have e2 := s2 _ _ ha
    rw [ha2] at e2
    cases e2
    have E1 := (E.same s12).kill y.roots
    have F := o2.killed (E.same s1)
    have hj1 : (killR δ y.roots)[j]? = some (some ⟨.list ds, true, pn⟩) := by rw [killR_at hr]; exact hj
    have nN : N'.Nodup := (List.nodup_cons.mp nd).2
    have aN : a ∈ N' := by rw [k2]; simp
    have pN : p ∉ N' := (List.nodup_cons.mp nd).1
    have nN2 := nN
    rw [k2, List.nodup_append, List.nodup_append] at nN2
    obtain ⟨⟨nA, nM, nAM⟩, nB, nAB⟩ := nN2
    have aA : a ∉ A2 := fun h => nAM a h a List.mem_cons_self rfl
    have aB : a ∉ B2 := fun h => nAB a (List.mem_append_right _ List.mem_cons_self) a h rfl
    have nM' := List.nodup_cons.mp nM
    have sep : ∀ b ∈ N', ∀ c ∈ W, b ≠ c := fun b hb c hc e => by
      subst e
      exact F.dj ho b hc j _ hj1 (by rw [hn]; exact List.mem_cons_of_mem _ hb)
    have pW : p ∉ W := fun h => F.dj ho p h j _ hj1 (by rw [hn]; exact List.mem_cons_self)
    have aW : a ∉ W := fun h => sep a aN a h rfl
    have r0 : Rps X.K (upd H2 a (.lst (ys ++ [w]))) (ys ++ [w]) (es ++ [y.d]) (M3 ++ W) := Rps.upd ha2 (rs2.append (Rps.one o2.rp)) fun h => (List.mem_append.mp h).elim nM'.1 aW
    have r1 : Rp X.K (upd H2 a (.lst (ys ++ [w]))) (.ref a) (.list (es ++ [y.d])) (a :: (M3 ++ W)) := .lst upd_same r0
    have r2 := k4 a (ys ++ [w]) ys ha2 aA aB _ _ r1
    have hpa : p ≠ a := fun e => pN (by rw [e]; exact aN)
    have r3 : Rp X.K (upd H2 a (.lst (ys ++ [w]))) (.ref p) (.list (ds.set m (.list (es ++ [y.d])))) (p :: (A2 ++ a :: (M3 ++ W) ++ B2)) :=
      .lst (by rw [upd_ne hpa]; exact s12 _ _ hp) r2
    have inN : ∀ b, b ∈ A2 ++ a :: (M3 ++ W) ++ B2 → b ∈ N' ∨ b ∈ W := fun b hb => by
      rw [k2]
      simp only [List.mem_append, List.mem_cons] at hb ⊢
      rcases hb with (h | h | h | h) | h
      · exact .inl (.inl (.inl h))
      · exact .inl (.inl (.inr (.inl h)))
      · exact .inl (.inl (.inr (.inr h)))
      · exact .inr h
      · exact .inl (.inr h)
    refine ⟨a, ys, w, rfl, rfl, ha2, by rw [rs2.length]; exact hz, q _ _ _ (E1.writeD (s := ⟨.list ds, true, pn⟩) hj1 rfl hv (by rw [hn]; exact List.mem_cons_of_mem _ aN) ha2 r3 ?_ ?_ ?_ ?_)⟩
    · refine List.nodup_cons.mpr ⟨fun h => (inN p h).elim pN pW, ?_⟩
      have nMW : (a :: (M3 ++ W)).Nodup := by
        refine List.nodup_cons.mpr ⟨fun h => (List.mem_append.mp h).elim nM'.1 aW, List.nodup_append.mpr ⟨nM'.2, o2.nd ho, fun b hb c hc => sep b (by rw [k2]; simp [hb]) c hc⟩⟩
      refine List.nodup_append.mpr ⟨List.nodup_append.mpr ⟨nA, nMW, fun b hb c hc => ?_⟩, nB, fun b hb c hc => ?_⟩
      · rcases List.mem_cons.mp hc with rfl | hc
        · exact nAM b hb c List.mem_cons_self
        · rcases List.mem_append.mp hc with hc | hc
          · exact nAM b hb c (List.mem_cons_of_mem _ hc)
          · exact sep b (by rw [k2]; simp [hb]) c hc
      · rcases List.mem_append.mp hb with hb | hb
        · exact nAB b (List.mem_append_left _ hb) c hc
        · rcases List.mem_cons.mp hb with rfl | hb
          · exact nAB b (List.mem_append_right _ List.mem_cons_self) c hc
          · rcases List.mem_append.mp hb with hb | hb
            · exact nAB b (List.mem_append_right _ (List.mem_cons_of_mem _ hb)) c hc
            · exact fun e => sep c (by rw [k2]; simp [hc]) b hb e.symm
    · intro b hb
      rcases List.mem_cons.mp hb with rfl | hb
      · exact (E.nd j _ hj rfl).2 b (by rw [hn]; exact List.mem_cons_self)
      · rcases inN b hb with h | h
        · exact fr b h
        · exact F.fr ho b h
    · intro b hb k' t n h
      rcases List.mem_cons.mp hb with rfl | hb
      · exact E1.dj j k' _ t (Ne.symm n) hj1 rfl h b (by rw [hn]; exact List.mem_cons_self)
      · rcases inN b hb with z | z
        · exact E1.dj j k' _ t (Ne.symm n) hj1 rfl h b (by rw [hn]; exact List.mem_cons_of_mem _ z)
        · exact F.dj ho b z k' t h
    · intro k' t n h ow b hb hm
      rcases List.mem_cons.mp hm with rfl | hm
      · exact E1.dj k' j t _ n h ow hj1 b hb (by rw [hn]; exact List.mem_cons_self)
      · rcases inN b hm with z | z
        · exact E1.dj k' j t _ n h ow hj1 b hb (by rw [hn]; exact List.mem_cons_of_mem _ z)
        · exact F.al k' t h ow b hb z
  · exact q.elim
end
/-! ### a test after which the ways meet again -/
inductive mIfJ (t : DT) (m n : DS) (E : DEnds) (δ : En) : Prop
  | of_ : mIf t m n E δ → mIfJ t m n E δ
  | of2 : mIf t m n E δ → mIfJ t m n E δ
theorem mIfJ_eq (t : DT) (m n : DS) : mIfJ t m n = mIf t m n := by
  funext E δ
  exact propext ⟨fun h => by rcases h with h | h <;> exact h, fun h => .of_ h⟩
theorem sv_ifJ {X : Cx} {st : Stmt} {t : DT} {m n : DS} (h : SV G X st (mIf t m n)) : SV G X st (mIfJ t m n) := by rw [mIfJ_eq]; exact h
/-- e tells the names behind it -/
theorem ifJ {t : DT} {m n : DS} {N : En → Prop} {rt : Val → En → Prop} {δ : En} {α : Type} (e : α → En) (h : ∀ a, N (e a)) (k : ∀ N : En → Prop, (∀ a, N (e a)) → mIf t m n ⟨N, rt⟩ δ) : mIfJ t m n ⟨N, rt⟩ δ := by rw [mIfJ_eq]; exact k N h
theorem ifN {t : DT} {m n : DS} {E : DEnds} {δ : En} (k : mIf t m n E δ) : mIfJ t m n E δ := by rw [mIfJ_eq]; exact k
/-! ### a name that is lent for a while -/
mutual
theorem Rp.nodes {K : PySem.W.Frag} {H : Hp} {v : V} {d : D} {N : List Addr} : Rp K H v d N → ∀ a ∈ N, H a ≠ none
  | .non, _, h => nomatch h
  | .bl _, _, h => nomatch h
  | .int _, _, h => nomatch h
  | .str _, _, h => nomatch h
  | .lst h r, a, ha => by
    rcases List.mem_cons.mp ha with rfl | ha
    · rw [h]; exact fun z => nomatch z
    · exact Rps.nodes r a ha
  | .tup _ r, a, ha => Rps.nodes r a ha
  | .scr _, _, h => nomatch h
  | .jnk _, _, h => nomatch h
  | .set h _, a, ha => by rw [List.mem_singleton.mp ha, h]; exact fun z => nomatch z
  | .dk h _ r, a, ha => by
    rcases List.mem_cons.mp ha with rfl | ha
    · rw [h]; exact fun z => nomatch z
    · exact Rps.nodes r a ha
  | .dt h _ r, a, ha => by
    rcases List.mem_cons.mp ha with rfl | ha
    · rw [h]; exact fun z => nomatch z
    · exact Rps.nodes r a ha
  | .ins _ h r, a, ha => by
    rcases List.mem_cons.mp ha with rfl | ha
    · rw [h]; exact fun z => nomatch z
    · exact Rps.nodes r a ha
  | .xc _ r, a, ha => Rps.nodes r a ha
theorem Rps.nodes {K : PySem.W.Frag} {H : Hp} {vs : List V} {ds : List D} {N : List Addr} : Rps K H vs ds N → ∀ a ∈ N, H a ≠ none
  | .nil, _, h => nomatch h
  | .cons r s, a, ha => (List.mem_append.mp ha).elim (Rp.nodes r a) (Rps.nodes s a)
end
def Clean (j : Nat) (δ δ' : En) : Prop := ∀ k t, k ≠ j → δ'[k]? = some (some t) → t.own = true ∨ imm t.d = true ∨ (t.pin = true ∧ t.own = false ∧ δ[k]? = some (some t))
open Classical in
theorem EnvOk.back {K : PySem.W.Frag} {H0 H H' : Hp} {π : Nat → Option V} {σ σ' : L2.St} {δ δ' : En} {ν ν' : Nu} (E : EnvOk K H0 π H σ δ ν) {j : Nat} {s : Slot} {v : V} (hj : δ[j]? = some (some s)) (ho : s.own = true) (hp : s.pin = false) (hv : σ[j]? = some (some v))
    (E' : EnvOk K (KT.shut H (δ.set j (some ⟨s.d, false, true⟩)) ν) (pinTo π j v) H' σ' δ' ν') (hj' : δ'[j]? = some (some ⟨s.d, false, true⟩)) (cl : Clean j δ δ') : ∃ ν'', EnvOk K H0 π H' σ' (δ'.set j (some s)) ν'' := by
  have hl := (List.getElem?_eq_some_iff.mp hj).1
  have hl' := (List.getElem?_eq_some_iff.mp hj').1
  have E1 : EnvOk K H0 (pinTo π j v) H σ (δ.set j (some ⟨s.d, false, true⟩)) ν := E.pin hj hv (o := false) fun z => nomatch z
  have so : Same H0 (KT.shut H (δ.set j (some ⟨s.d, false, true⟩)) ν) := shut_over E1
  -- what stands in the shut heap
  have keep : ∀ (k : Nat) (t : Slot) (w : V), (k = j ∨ t.own = false) → δ[k]? = some (some t) → Rp K H w t.d (ν k) → Rp K (KT.shut H (δ.set j (some ⟨s.d, false, true⟩)) ν) w t.d (ν k) := fun k t w hk ht r => Rp.shut E1 r fun l u hu huo a ha => by
    by_cases e : l = j
    · subst e
      rw [List.getElem?_set_self hl] at hu
      cases hu
      cases huo
    · rw [List.getElem?_set_ne (Ne.symm e)] at hu
      have n : l ≠ k := fun z => by
        subst z
        rcases hk with hk | hk
        · exact e hk
        · rw [hu] at ht
          cases ht
          rw [hk] at huo
          cases huo
      exact E.dj l k u t n hu huo ht a ha
  obtain ⟨v0, hv0, r0, _⟩ := E.at_ j s hj
  rw [hv] at hv0
  cases hv0
  have rj := keep j s v (.inl rfl) hj r0
  let C : Nat → Prop := fun k => ∃ t : Slot, δ'[k]? = some (some t) ∧ t.own = false ∧ imm t.d = false
  let ν2 : Nu := fun k => if k = j then ν j else if C k then ν k else ν' k
  have nj : ν2 j = ν j := if_pos rfl
  have n1 : ∀ k t, k ≠ j → δ'[k]? = some (some t) → (t.own = true ∨ imm t.d = true) → ν2 k = ν' k := fun k t n h ho => by
    show (if k = j then ν j else if C k then ν k else ν' k) = ν' k
    rw [if_neg n, if_neg]
    rintro ⟨t', h', a, b⟩
    rw [h] at h'
    cases h'
    rcases ho with ho | ho
    · rw [a] at ho; cases ho
    · rw [b] at ho; cases ho
  have n2 : ∀ k t, k ≠ j → δ'[k]? = some (some t) → t.own = false → imm t.d = false → ν2 k = ν k := fun k t n h a b => by
    show (if k = j then ν j else if C k then ν k else ν' k) = ν k
    rw [if_neg n, if_pos ⟨t, h, a, b⟩]
  have look : ∀ k t, (δ'.set j (some s))[k]? = some (some t) → (k = j ∧ t = s) ∨ (k ≠ j ∧ δ'[k]? = some (some t)) := fun k t h => by
    by_cases e : k = j
    · subst e
      rw [List.getElem?_set_self hl'] at h
      cases h
      exact .inl ⟨rfl, rfl⟩
    · rw [List.getElem?_set_ne (Ne.symm e)] at h
      exact .inr ⟨e, h⟩
  -- the pinned ones
  have pinned : ∀ k t, k ≠ j → δ'[k]? = some (some t) → t.own = false → imm t.d = false → t.pin = true ∧ δ[k]? = some (some t) := fun k t n h a b => by
    rcases cl k t n h with z | z | z
    · rw [a] at z; cases z
    · rw [b] at z; cases z
    · exact ⟨z.1, z.2.2⟩
  have at2 : ∀ k t, k ≠ j → δ'[k]? = some (some t) → ∃ w, σ'[k]? = some (some w) ∧ Rp K H' w t.d (ν2 k) ∧ (t.pin = true → π k = some w) := fun k t n h => by
    obtain ⟨w, a, b, c⟩ := E'.at_ k t h
    have c' : t.pin = true → π k = some w := fun z => by
      have q := c z
      unfold pinTo at q
      rw [if_neg n] at q
      exact q
    cases ho : t.own with
    | true => exact ⟨w, a, by rw [n1 k t n h (.inl ho)]; exact b, c'⟩
    | false =>
      cases hi : imm t.d with
      | true => exact ⟨w, a, by rw [n1 k t n h (.inr hi)]; exact b, c'⟩
      | false =>
        obtain ⟨hpn, hk⟩ := pinned k t n h ho hi
        obtain ⟨w0, a0, b0, c0⟩ := E.at_ k t hk
        have e := c' hpn
        rw [c0 hpn] at e
        cases e
        exact ⟨_, a, by rw [n2 k t n h ho hi]; exact (keep k t _ (.inr ho) hk b0).same E'.sm, c'⟩
  -- own lists lie beyond the shut heap
  have far : ∀ k t, k ≠ j → δ'[k]? = some (some t) → t.own = true → ∀ a ∈ ν2 k, KT.shut H (δ.set j (some ⟨s.d, false, true⟩)) ν a = none := fun k t n h o a ha => by
    rw [n1 k t n h (.inl o)] at ha
    exact (E'.nd k t h o).2 a ha
  refine ⟨ν2, by simpa using E'.len, so.trans E'.sm, fun k t h => ?_, fun k t h o => ?_, fun k l t u n h o h' a ha ham => ?_⟩
  · rcases look k t h with ⟨rfl, rfl⟩ | ⟨n, h⟩
    · obtain ⟨w, a, _, c⟩ := E'.at_ k _ hj'
      have q := c rfl
      unfold pinTo at q
      rw [if_pos rfl] at q
      cases q
      exact ⟨v, a, by rw [nj]; exact rj.same E'.sm, fun z => by rw [hp] at z; cases z⟩
    · exact at2 k t n h
  · rcases look k t h with ⟨rfl, rfl⟩ | ⟨n, h⟩
    · rw [nj]; exact E.nd k t hj ho
    · rw [n1 k t n h (.inl o)]
      exact ⟨(E'.nd k t h o).1, fun a ha => so.free ((E'.nd k t h o).2 a ha)⟩
  · rcases look k t h with ⟨rfl, rfl⟩ | ⟨nk, h⟩
    · rw [nj] at ha
      rcases look l u h' with ⟨rfl, rfl⟩ | ⟨nl, h2⟩
      · exact n rfl
      · cases uo : u.own with
        | true => exact rj.nodes a ha (far l u nl h2 uo a ham)
        | false =>
          cases ui : imm u.d with
          | true =>
            rw [n1 l u nl h2 (.inr ui)] at ham
            obtain ⟨w, _, b, _⟩ := E'.at_ l u h2
            rw [b.imm ui] at ham
            cases ham
          | false =>
            rw [n2 l u nl h2 uo ui] at ham
            exact E.dj k l t u n hj ho (pinned l u nl h2 uo ui).2 a ha ham
    · have hf := far k t nk h o a ha
      rcases look l u h' with ⟨rfl, rfl⟩ | ⟨nl, h2⟩
      · rw [nj] at ham
        exact rj.nodes a ham hf
      · cases uo : u.own with
        | true =>
          rw [n1 k t nk h (.inl o)] at ha
          rw [n1 l u nl h2 (.inl uo)] at ham
          exact E'.dj k l t u n h o h2 a ha ham
        | false =>
          cases ui : imm u.d with
          | true =>
            rw [n1 l u nl h2 (.inr ui)] at ham
            obtain ⟨w, _, b, _⟩ := E'.at_ l u h2
            rw [b.imm ui] at ham
            cases ham
          | false =>
            rw [n2 l u nl h2 uo ui] at ham
            have hk := (pinned l u nl h2 uo ui).2
            obtain ⟨w0, _, b0, _⟩ := E.at_ l u hk
            exact (keep l u w0 (.inr uo) hk b0).nodes a ham hf
/-- the statement, j lent: its list is not changed in it, and it is the name's own again behind it -/
def mLend (j : Nat) (m : DS) : DS := fun E δ => match δ[j]? with
  | some (some ⟨d, true, false⟩) => m ⟨fun δ' => (δ'[j]? = some (some ⟨d, false, true⟩) ∧ Clean j δ δ') ∧ E.nx (δ'.set j (some ⟨d, true, false⟩)), fun x δ' => E.rt x (unpin j false δ')⟩ (δ.set j (some ⟨d, false, true⟩))
  | _ => False
theorem mLend_mono {j : Nat} {m : DS} (hm : MonoS m) : MonoS (mLend j m) := fun A B δ h1 h2 q => by
  unfold mLend at *
  split at q
  · refine hm _ _ _ (fun δ q => ?_) (fun x δ q => ?_) q
    · exact ⟨q.1, h1 _ q.2⟩
    · exact h2 _ _ q
  · exact q.elim
theorem sv_lend [GUp G] {X : Cx} {st : Stmt} {m : DS} (j : Nat) (h : SV G X st m) : SV G X st (mLend j m) := by
  have any : PS X st (semAny G X.K m) := ⟨fun pins s σ H D I ⟨H2, π, g, q⟩ => (h.ps H2 π g).run pins s σ H D I q⟩
  refine ⟨mLend_mono h.mono, fun H0 π hG => psi any fun D σ H ⟨δ, ν, E, q⟩ => ?_⟩
  unfold mLend at q
  split at q
  · rename_i d hj
    obtain ⟨v, hv, r, _⟩ := E.at_ j _ hj
    have E1 : EnvOk X.K H0 (pinTo π j v) H σ (δ.set j (some ⟨d, false, true⟩)) ν := E.pin hj hv (o := false) fun z => nomatch z
    have so := shut_over E1
    refine ⟨_, pinTo π j v, GUp.up hG so, _, ν, E1.shut, h.mono _ _ _ (fun δ' q σ' H' ν' E' => ?_) (fun x δ' q v' σ' H1 H2 ν' M E' s1 o1 => ?_) q⟩
    · obtain ⟨ν2, E2⟩ := E.back hj rfl rfl hv E' q.1.1 q.1.2
      exact q.2 _ _ _ E2
    · exact q v' σ' H1 H2 ν' M ((E'.open so).unpin fun z => nomatch z) s1 (o1.unpin j false)
  · exact q.elim
/-- what is behind a lent name, slot by slot -/
def cleanL (j : Nat) : Nat → En → En → Prop
  | i, o :: δ, none :: δ' => cleanL j (i + 1) δ δ'
  | i, o :: δ, some t :: δ' => (i = j ∨ t.own = true ∨ imm t.d = true ∨ (t.pin = true ∧ t.own = false ∧ o = some t)) ∧ cleanL j (i + 1) δ δ'
  | _, _, [] => True
  | _, [], _ :: _ => False
theorem cleanL_at {j : Nat} : ∀ {i : Nat} {δ δ' : En}, cleanL j i δ δ' → ∀ k t, i + k ≠ j → δ'[k]? = some (some t) → t.own = true ∨ imm t.d = true ∨ (t.pin = true ∧ t.own = false ∧ δ[k]? = some (some t))
  | _, _, [], _, k, t, _, h => by simp at h
  | _, [], _ :: _, q, _, _, _, _ => q.elim
  | i, o :: δ, none :: δ', q, k, t, n, h => by
    cases k with
    | zero => simp at h
    | succ k => exact cleanL_at (i := i + 1) q k t (by omega) (by simpa using h)
  | i, o :: δ, some u :: δ', q, k, t, n, h => by
    cases k with
    | zero =>
      simp at h
      subst h
      rcases q.1 with z | z | z | z
      · exact absurd z (by simpa using n)
      · exact .inl z
      · exact .inr (.inl z)
      · exact .inr (.inr ⟨z.1, z.2.1, by simpa using z.2.2⟩)
    | succ k => exact cleanL_at (i := i + 1) q.2 k t (by omega) (by simpa using h)
theorem clean_of {j : Nat} {δ δ' : En} (h : cleanL j 0 δ δ') : Clean j δ δ' := fun k t n hk => cleanL_at h k t (by simpa using n) hk
end KT
/-! KtL: lists of lists joined. -/
namespace KT
open PySem PySem.Spec PyProof.Rows L2
variable [WT]
section
variable {X : Cx} {a b e : Expr} {fa fb f : DE} {pos : Pos}
/-- xs + ys, the items kept by both -/
def dCat (fa fb : DE) : DE := fun δ P => fa δ fun x => fb δ fun y => match x.d, y.d with
  | .list xs, .list ys => xs.length + ys.length ≤ sizeLine ∧ P ⟨.list (xs ++ ys), false, x.roots ++ y.roots⟩
  | _, _ => False
theorem ev_cat (ha : EV G X a fa) (hb : EV G X b fb) : EV G X (.BinOp a .Add b pos) (dCat fa fb) := by
  refine ⟨fun δ P P' h q => ha.mono _ _ _ (fun x q => hb.mono _ _ _ (fun y q => ?_) q) q, fun H0 π hG => pei (pe_op op_cat (ha.pe H0 π hG) (hb.pe H0 π hG)) fun σ H Q ⟨δ, ν, E, q⟩ => ?_⟩
  · split at q
    · exact ⟨q.1, h _ q.2⟩
    · exact q.elim
  · refine ⟨δ, ν, E, ha.mono _ _ _ (fun x q v H1 M s1 o1 => ?_) q⟩
    refine ⟨δ, ν, E.same s1, hb.mono _ _ _ (fun y q w H2 N s2 o2 => ?_) q⟩
    split at q
    · rename_i xs ys ex ey
      obtain ⟨hz, q⟩ := q
      have r1 := o1.rp.same s2
      have r2 := o2.rp
      rw [ex] at r1
      rw [ey] at r2
      obtain ⟨p1, vs, A, rfl, eM, h1, t1⟩ := r1.list_
      obtain ⟨p2, ws, B, rfl, eN, h2, t2⟩ := r2.list_
      refine ⟨p1, p2, vs, ws, rfl, rfl, h1, h2, by rw [t1.length, t2.length]; exact hz, fun p hp => ?_⟩
      have s3 : Same H2 (upd H2 p (.lst (vs ++ ws))) := Same.upd_new hp
      refine q _ _ (p :: (A ++ B)) ((s1.trans s2).trans s3) ⟨.lst upd_same ((t1.append t2).same s3), fun z => (nomatch z), fun z => (nomatch z), fun j t hj ho hn a ha hm => ?_⟩
      have hn1 : j ∉ x.roots := fun z => hn (List.mem_append_left _ z)
      have hn2 : j ∉ y.roots := fun z => hn (List.mem_append_right _ z)
      rcases List.mem_cons.mp hm with rfl | hm
      · exact ((E.same (s1.trans s2)).trk hj) _ ha hp
      · rcases List.mem_append.mp hm with hm | hm
        · exact o1.al j t hj ho hn1 a ha (by rw [eM]; exact List.mem_cons_of_mem _ hm)
        · exact o2.al j t hj ho hn2 a ha (by rw [eN]; exact List.mem_cons_of_mem _ hm)
    · exact q.elim
end
end KT
/-! KtM: raise where it is not reached, a < b < c, x.reverse(), bit_length, a module's constant, a, b = x, y, x[i][j] = e. -/
namespace KT
open PySem PySem.Spec PyProof.Rows L2
variable [WT]
section
variable {X : Cx} {a b c e : Expr} {fa fb fc f fi fj : DE} {pos : Pos} {st : Stmt}
/-- a statement that is not reached -/
def mNever : DS := fun _ _ => False
theorem sv_never : SV G X st mNever := ⟨fun _ _ _ _ _ q => q.elim, fun H0 π hG => psi ps_never fun D σ H ⟨_, _, _, q⟩ => q.elim⟩
/-- a < b < c -/
def dChain (k k' : K2) (fa fb fc : DE) : DE := fun δ P => fa δ fun x => fb δ fun y => k x.d y.d fun d => match d with
  | .bool t => (match t with
    | true => fc δ fun z => k' y.d z.d fun d => P ⟨d, true, []⟩
    | false => P ⟨.bool false, true, []⟩)
  | _ => False
theorem chain_mono {k k' : K2} {r r' : R2} (hk : R2Ok X r k) (hk' : R2Ok X r' k') (ha : EV G X a fa) (hb : EV G X b fb) (hc : EV G X c fc) : ∀ δ (P P' : Val → Prop), (∀ x, P x → P' x) → dChain k k' fa fb fc δ P → dChain k k' fa fb fc δ P' :=
  fun δ P P' h q => ha.mono _ _ _ (fun x q => hb.mono _ _ _ (fun y q => hk.mono _ _ _ _ (fun d q => by
    revert q
    cases d <;> try exact id
    rename_i t
    cases t
    · exact h _
    · exact hc.mono _ _ _ (fun z q => hk'.mono _ _ _ _ (fun d q => h _ q) q)) q) q) q
theorem chain_sem {k k' : K2} {r r' : R2} (hk : R2Ok X r k) (hk' : R2Ok X r' k') (ha : EV G X a fa) (hb : EV G X b fb) (hc : EV G X c fc) {H0 : Hp} {π : Nat → Option V} {σ : L2.St} {H : Hp} {Q : VK} (h : semE X.K H0 π (dChain k k' fa fb fc) σ H Q) :
    tChain r r' (semE X.K H0 π fa) (semE X.K H0 π fb) (semE X.K H0 π fc) σ H Q := by
  obtain ⟨δ, ν, E, q⟩ := h
  refine ⟨δ, ν, E, ha.mono _ _ _ (fun x q v H1 M s1 o1 => ?_) q⟩
  refine ⟨δ, ν, E.same s1, hb.mono _ _ _ (fun y q w H2 N s2 o2 => ?_) q⟩
  refine hk.ok H2 v w x.d y.d M N _ _ (o1.rp.same s2) o2.rp q fun u H3 ⟨d, M', s3, r3, n3, f3, q3⟩ => ?_
  revert q3 r3
  cases d <;> first | exact fun _ => False.elim | skip
  rename_i t
  intro r3
  cases t with
  | false =>
    intro q3
    exact ⟨false, r3.bool_, q3 _ H3 [] ((s1.trans s2).trans s3) vok_bool⟩
  | true =>
    intro q3
    refine ⟨true, r3.bool_, ?_⟩
    rw [if_pos rfl]
    refine ⟨δ, ν, E.same ((s1.trans s2).trans s3), hc.mono _ _ _ (fun z q w2 H4 N4 s4 o4 => ?_) q3⟩
    refine hk'.ok H4 w w2 y.d z.d N N4 _ _ ((o2.rp.same s3).same s4) o4.rp q fun u5 H5 ⟨d5, M5, s5, r5, n5, f5, q5⟩ => ?_
    exact q5 u5 H5 M5 ((((s1.trans s2).trans s3).trans s4).trans s5) (FR.vok (((s1.trans s2).trans s3).trans s4) r5 n5 f5 E)
theorem ev_chain {op op' : CmpOp} {k k' : K2} {r r' : R2} (ho : OpR X (compareOp op) r) (hk : R2Ok X r k) (ho' : OpR X (compareOp op') r') (hk' : R2Ok X r' k') (ha : EV G X a fa) (hb : EV G X b fb) (hc : EV G X c fc)
    (hm : lastMarks [op, op'] [b, c] = false := by with_unfolding_all rfl) : EV G X (.Compare a [op, op'] [b, c] pos) (dChain k k' fa fb fc) :=
  ⟨chain_mono hk hk' ha hb hc, fun H0 π hG => pei (pe_chain ho ho' (ha.pe H0 π hG) (hb.pe H0 π hG) (hc.pe H0 π hG) hm) fun σ H Q h => chain_sem hk hk' ha hb hc h⟩
theorem et_chain {op op' : CmpOp} {k k' : K2} {r r' : R2} (ho : OpR X (compareOp op) r) (hk : R2Ok X r k) (ho' : OpR X (compareOp op') r') (hk' : R2Ok X r' k') (ha : EV G X a fa) (hb : EV G X b fb) (hc : EV G X c fc)
    (hm : lastMarks [op, op'] [b, c] = false := by with_unfolding_all rfl) : ET G X (.Compare a [op, op'] [b, c] pos) (dTst (dChain k k' fa fb fc)) :=
  ⟨tst_mono (chain_mono hk hk' ha hb hc), fun H0 π hG => pti (pt_chain ho ho' (ha.pe H0 π hG) (hb.pe H0 π hG) (hc.pe H0 π hG) hm) fun σ H Q h => chain_sem hk hk' ha hb hc (tst_sem (chain_mono hk hk' ha hb hc) h)⟩
/-- x.bit_length() -/
def kBits : K1 := fun d Q => match d with
  | .int i => Q (.int (Builtin.Int.intBits i : Nat))
  | _ => False
theorem ok_bits : R1Ok X (fun x H Q => ∃ i, x = .int i ∧ Q (.int (Builtin.Int.intBits i : Nat)) H) kBits := by
  refine ⟨fun d Q Q' h q => ?_, fun H x d N Q R r q h => ?_⟩
  · unfold kBits at *; split at q
    · exact h _ q
    · exact q.elim
  · unfold kBits at q; split at q
    · exact ⟨_, r.int_, h _ _ (FR.imm (.int _) rfl q)⟩
    · exact q.elim
theorem ev_bits {apos : Pos} (ha : EV G X a fa) (hbase : attributeBase a "bit_length" X.env (eval a X.env) = eval a X.env := by rfl) (hline : (apos.endLine == pos.line) = true := by rfl) : EV G X (.Call (.Attribute a "bit_length" apos) [] [] pos) (dUn kBits fa) :=
  ev_un1 ok_bits ha fun h => pe_bits h hbase hline
/-- a constant of the module -/
structure Glo (K : PySem.W.Frag) (mg : Str → Option Value) (x : Str) (d : D) : Prop where
  ex : ∃ (v : V) (u : Value), mg x = some u ∧ RelV v u ∧ ∀ H, Rp K H v d []
theorem ev_glob {x : Str} {d : D} (g : Glo X.K X.mg x d) (hg : Gl X x := by rfl) (hd : (x == ("__debug__" : Str)) = false := by decide) : EV G X (.Name x pos) (dC d) := by
  refine ⟨fun _ _ _ h q => h _ q, fun H0 π hG => ?_⟩
  obtain ⟨v, u, hm, r, q⟩ := g.ex
  exact pei (pe_glob hg hm r hd) fun σ H Q ⟨δ, ν, _, h⟩ => h v H [] (Same.refl H) ⟨q H, fun _ => List.nodup_nil, fun _ _ h => (nomatch h), fun _ _ _ _ _ _ _ h => (nomatch h)⟩
theorem glo_int {K : PySem.W.Frag} {mg : Str → Option Value} {x : Str} {i : Int} {t : Nat} (h : mg x = some (.int i t)) : Glo K mg x (.int i) := ⟨.int i, _, h, ⟨_, rfl⟩, fun _ => .int i⟩
theorem glo_tup {K : PySem.W.Frag} {mg : Str → Option Value} {x : Str} {p : Addr} {o : Obj} {its : Array Value} {n : Nat} {ds : List D} {vs : List V} (h : mg x = some (.ref p)) (hl : K.lookup p = some o) (hc : o.cls = .type "tuple") (hd : o.data = .seq its n) (hz : its.size ≤ sizeLine) (hv : Vals vs its.toList)
    (r : ∀ H, Rps K H vs ds []) : Glo K mg x (.tuple ds) := ⟨.ref p, _, h, rfl, fun H => .tup (.inr ⟨o, its, n, hl, hc, hd, hz, hv⟩) (r H)⟩
end
section
variable {X : Cx} {a b c e : Expr} {fa fb fc f fi fj : DE} {pos : Pos} {st : Stmt}
/-- x.reverse(): a list without lists -/
def mRev (j : Nat) : DS := fun E δ => match ownL δ j with
  | some (ds, pn) => immL ds = true ∧ setK δ j (some ⟨.list ds.reverse, true, pn⟩) E.nx
  | none => False
theorem mRev_mono {j : Nat} : MonoS (mRev j) := fun A B δ h1 h2 q => by
  unfold mRev at *
  split at q
  · refine ⟨q.1, ?_⟩
    have q2 := q.2
    rw [setK_eq] at q2 ⊢
    exact h1 _ q2
  · exact q.elim
theorem Rps.rev0 {K : PySem.W.Frag} {H : Hp} : ∀ {vs : List V} {ds : List D}, Rps K H vs ds [] → Rps K H vs.reverse ds.reverse []
  | [], _, .nil => .nil
  | v :: vs, _, r => by
    generalize hN : ([] : List Addr) = N at r
    cases r with
    | cons r s =>
      have h := List.append_eq_nil_iff.mp hN.symm
      obtain ⟨rfl, rfl⟩ := h
      rw [List.reverse_cons, List.reverse_cons]
      simpa using (Rps.rev0 s).append (Rps.one r)
theorem sv_rev (j : Nat) {x : Str} {px pm pe : Pos} (hN : X.N[j]? = some x := by rfl) (hv : Vis X.env.scope x := by first | exact Or.inl rfl | exact Or.inr (Or.inl rfl) | exact Or.inr (Or.inr rfl)) (hd : (x == ("__debug__" : Str)) = false := by decide)
    (hcd : (x == ("__classdict__" : Str)) = false := by decide)
    (hs : swapsWith (.Call (.Attribute (.Name x px) "reverse" pm) [] [] pe) none pos.line X.env = pure false := by rfl)
    (hbm : ∀ {to : TE}, PE X (.Name x px) to → PE X (.Call (.Attribute (.Name x px) "reverse" pm) [] [] pe) (tBM0 X.K "list" rReverse to) := by
      intro _ h1; exact pe_bm0 PySem.F.plainAttrs_list PySem.F.slot_list_reverse PySem.F.type_list_reverse mt_reverse h1) :
    SV G X (.Expr (.Call (.Attribute (.Name x px) "reverse" pm) [] [] pe) pos) (mRev j) := by
  refine ⟨mRev_mono, fun H0 π hG => psi (ps_expr (hbm (pe_var hN hv hd hcd)) hs) fun D σ H ⟨δ, ν, E, q⟩ => ?_⟩
  unfold mRev at q
  split at q
  · rename_i ds pn hj
    have hj := ownL_some hj
    obtain ⟨p, xs, N', hv, hn, hp, rs, nd, fr⟩ := own_list E hj
    obtain ⟨im, q⟩ := q
    have e0 := rs.imm im
    subst e0
    rw [setK_eq] at q
    refine ⟨_, hv, .inl ⟨rfl, _, SqL.of hp⟩, p, xs, rfl, rfl, hp, ?_⟩
    exact q _ _ _ (E.write hj rfl hv hn hp rs.rev0 nd (fun _ h => (nomatch h)) (fun _ h => (nomatch h)) fun _ _ _ _ _ _ _ h => (nomatch h))
  · exact q.elim
/-- a, b = x, y: two names of the def's own, values without lists -/
def mPar (i j : Nat) (fa fb : DE) : DS := fun E δ => fa δ fun x => fb δ fun y => (imm x.d = true ∧ imm y.d = true) ∧ setK δ i (some ⟨x.d, true, false⟩) fun δ' => setK δ' j (some ⟨y.d, true, false⟩) E.nx
theorem mPar_mono {i j : Nat} (ha : MonoE fa) (hb : MonoE fb) : MonoS (mPar i j fa fb) := fun A B δ h1 h2 q => ha _ _ _ (fun x q => hb _ _ _ (fun y q => ⟨q.1, by
  have q2 := q.2
  rw [setK_eq, setK_eq] at q2 ⊢
  exact h1 _ q2⟩) q) q
theorem sv_par (i j : Nat) {x y : Str} {px py pt : Pos} {kt k2 pt2} (hc : X.calm = true) (hN : X.N.Nodup) (ha : EV G X a fa) (hb : EV G X b fb) (hi : X.N[i]? = some x := by rfl) (hj : X.N[j]? = some y := by rfl) (hij : i ≠ j := by decide)
    (hx : X.env.scope.names.lookup x = some .local := by rfl) (hy : X.env.scope.names.lookup y = some .local := by rfl)
    (hs1 : starEach [a, b] X.env = (false, eval a X.env) :: starEach [b] X.env := by rfl) (hs2 : starEach [b] X.env = (false, eval b X.env) :: starEach [] X.env := by rfl)
    (hw : swappedStores [.Tuple [.Name x px, .Name y py] kt pt] (.Tuple [a, b] k2 pt2) X.env = pure (some [x, y]) := by rfl)
    (hs : swapsWithSole [.Tuple [.Name x px, .Name y py] kt pt] (.Tuple [a, b] k2 pt2) pos.line X.env = pure false := by rfl) :
    SV G X (.Assign [.Tuple [.Name x px, .Name y py] kt pt] (.Tuple [a, b] k2 pt2) pos) (mPar i j fa fb) := by
  refine ⟨mPar_mono ha.mono hb.mono, fun H0 π hG => psi (ps_par hc hN hi hj hij hx hy (pa_cons (ha.pe H0 π hG) (pa_cons (hb.pe H0 π hG) pa_nil hs2) hs1) hw hs) fun D σ H ⟨δ, ν, E, q⟩ => ?_⟩
  refine ⟨δ, ν, E, ha.mono _ _ _ (fun x q v H1 M s1 o1 => ?_) q⟩
  refine ⟨δ, ν, E.same s1, hb.mono _ _ _ (fun y q w H2 N s2 o2 => ?_) q⟩
  obtain ⟨⟨i1, i2⟩, q⟩ := q
  rw [setK_eq, setK_eq] at q
  refine ⟨v, w, rfl, q _ _ _ ((EnvOk.set (E.same (s1.trans s2)) (FOk.imm (o1.rp.same s2) i1 true) i).set (FOk.imm o2.rp i2 true) j)⟩
/-- x[a][b] = e, e without lists -/
def mSetII (j : Nat) (fi fj fe : DE) : DS := fun E δ => match ownL δ j with
  | some (ds, pn) => fe δ fun x => fi δ fun y => (match y.d with
    | .int k => ∃ m es, (ixN ds.length k = some m ∧ ds[m]? = some (.list es)) ∧ fj δ fun z => (match z.d with
      | .int l => ∃ n, (imm x.d = true ∧ ixN es.length l = some n) ∧ setK δ j (some ⟨.list (ds.set m (.list (es.set n x.d))), true, pn⟩) E.nx
      | _ => False)
    | _ => False)
  | none => False
theorem mSetII_mono {j : Nat} {fe : DE} (hi : MonoE fi) (hj : MonoE fj) (he : MonoE fe) : MonoS (mSetII j fi fj fe) := fun A B δ h1 h2 q => by
  unfold mSetII at *
  split at q
  · refine he _ _ _ (fun x q => hi _ _ _ (fun y q => ?_) q) q
    split at q
    · obtain ⟨m, es, a, q⟩ := q
      refine ⟨m, es, a, hj _ _ _ (fun z q => ?_) q⟩
      split at q
      · obtain ⟨n, a2, q⟩ := q
        refine ⟨n, a2, ?_⟩
        rw [setK_eq] at q ⊢
        exact h1 _ q
      · exact q.elim
    · exact q.elim
  · exact q.elim
theorem sv_setII (j : Nat) {x : Str} {px ps ps2 : Pos} {a b e : Expr} {fe : DE} (hi : EV G X a fi) (hs0 : PlainIx a) (hj0 : EV G X b fj) (he : EV G X e fe) (hN : X.N[j]? = some x := by rfl) (hv : Vis X.env.scope x := by first | exact Or.inl rfl | exact Or.inr (Or.inl rfl) | exact Or.inr (Or.inr rfl))
    (hd : (x == ("__debug__" : Str)) = false := by decide) (hcd : (x == ("__classdict__" : Str)) = false := by decide)
    (ha : ∀ v, assign (.Subscript (.Subscript (.Name x px) a ps2) b ps) X.env v = (do
      let ov ← holding [v] (eval (.Subscript (.Name x px) a ps2) X.env)
      let iv ← holding [v, ov] (eval b X.env)
      standAt ps
      holding [v, ov, iv] (setItem ov iv v)
      release [v, ov, iv] []) := by intro _; rfl)
    (hs : swapsWithSole [.Subscript (.Subscript (.Name x px) a ps2) b ps] e pos.line X.env = pure false := by rfl) (hw : swappedStores [.Subscript (.Subscript (.Name x px) a ps2) b ps] e X.env = pure none := by rfl)
    (h1 : (assignEach [.Subscript (.Subscript (.Name x px) a ps2) b ps] X.env).map (·.2) = [assign (.Subscript (.Subscript (.Name x px) a ps2) b ps) X.env] := by rfl) :
    SV G X (.Assign [.Subscript (.Subscript (.Name x px) a ps2) b ps] e pos) (mSetII j fi fj fe) := by
  refine ⟨mSetII_mono hi.mono hj0.mono he.mono, fun H0 π hG => psi (ps_asg (he.pe H0 π hG) (pg_sub (pe_ix ix_seq (pe_var hN hv hd hcd) (hi.pe H0 π hG) hs0) (hj0.pe H0 π hG) set_list ha) hs hw h1) fun D σ H ⟨δ, ν, E, q⟩ => ?_⟩
  unfold mSetII at q
  split at q
  · rename_i ds pn hj
    have hj := ownL_some hj
    obtain ⟨p, xs, N', hv, hn, hp, rs, nd, fr⟩ := own_list E hj
    refine ⟨δ, ν, E, he.mono _ _ _ (fun y q w H1 M s1 o1 => ?_) q⟩
    refine ⟨_, hv, δ, ν, E.same s1, hi.mono _ _ _ (fun z q u H2 L s2 o2 => ?_) q⟩
    have rz := o2.rp
    revert q
    cases hz : z.d <;> first | exact False.elim | skip
    rename_i k
    rintro ⟨m, es, ⟨hm, hes⟩, q⟩
    rw [hz] at rz
    obtain ⟨v, A, M1, B, g1, g2, g3, g4⟩ := (rs.same (s1.trans s2)).get2 hes
    obtain ⟨a1, ys, M', rfl, rfl, ha1, rs'⟩ := g3.list_
    have hat : atI xs k = some (.ref a1) := by
      unfold atI
      rw [rs.length, hm]
      exact g1
    refine .inl ⟨p, xs, k, .ref a1, rfl, rz.int_, SqL.of ((s1.trans s2) _ _ hp), hat, δ, ν, E.same (s1.trans s2), hj0.mono _ _ _ (fun t q u3 H3 L3 s3 o3 => ?_) q⟩
    have rt := o3.rp
    revert q
    cases ht : t.d <;> first | exact False.elim | skip
    rename_i l
    rintro ⟨n, ⟨im, hl⟩, q⟩
    rw [ht] at rt
    rw [setK_eq] at q
    have s13 := (s1.trans s2).trans s3
    obtain ⟨v2, A2, M2, B2, k1, k2, k3, k4⟩ := (rs.same s13).get2 hes
    rw [g1] at k1
    cases k1
    obtain ⟨a2, ys2, M3, e1, rfl, ha2, rs2⟩ := k3.list_
    cases e1
    have e2 := s3 _ _ ha1
    rw [ha2] at e2
    cases e2
    have rw0 : Rp X.K H3 w y.d [] := by
      have r := (o1.rp.same s2).same s3
      rw [r.imm im] at r
      exact r
    have hnl : n < es.length := by
      unfold ixN at hl
      split at hl
      · split at hl
        · cases hl; omega
        · cases hl
      · split at hl
        · cases hl; omega
        · cases hl
    obtain ⟨A3, O3, B3, f1, f2⟩ := rs2.set rw0 hnl
    have nN : N'.Nodup := (List.nodup_cons.mp nd).2
    have aN : a1 ∈ N' := by rw [k2]; simp
    have pN : p ∉ N' := (List.nodup_cons.mp nd).1
    have nN2 := nN
    rw [k2, List.nodup_append, List.nodup_append] at nN2
    obtain ⟨⟨nA, nM, nAM⟩, nB, nAB⟩ := nN2
    have aA : a1 ∉ A2 := fun h => nAM a1 h a1 List.mem_cons_self rfl
    have aB : a1 ∉ B2 := fun h => nAB a1 (List.mem_append_right _ List.mem_cons_self) a1 h rfl
    have nM' := List.nodup_cons.mp nM
    have sub3 : (A3 ++ [] ++ B3).Sublist M3 := by
      rw [f1, List.append_nil]
      exact (List.sublist_append_left A3 O3).append (List.Sublist.refl B3)
    have r0 := Rps.upd (ys := ys.set n w) ha2 f2 fun h => nM'.1 (sub3.mem h)
    have r1 : Rp X.K (upd H3 a1 (.lst (ys.set n w))) (.ref a1) (.list (es.set n y.d)) (a1 :: (A3 ++ [] ++ B3)) := .lst upd_same r0
    have r2 := k4 a1 (ys.set n w) ys ha2 aA aB _ _ r1
    have hpa : p ≠ a1 := fun e => pN (by rw [e]; exact aN)
    have r3 : Rp X.K (upd H3 a1 (.lst (ys.set n w))) (.ref p) (.list (ds.set m (.list (es.set n y.d)))) (p :: (A2 ++ a1 :: (A3 ++ [] ++ B3) ++ B2)) :=
      .lst (by rw [upd_ne hpa]; exact s13 _ _ hp) r2
    have subN : (A2 ++ a1 :: (A3 ++ [] ++ B3) ++ B2).Sublist N' := by
      rw [k2]
      exact ((List.Sublist.refl A2).append (sub3.cons₂ a1)).append (List.Sublist.refl B2)
    have E1 := E.same s13
    refine ⟨a1, ys, l, n, rfl, rt.int_, ha2, by rw [rs2.length]; exact hl, q _ _ _ (E1.writeD (s := ⟨.list ds, true, pn⟩) hj rfl hv (by rw [hn]; exact List.mem_cons_of_mem _ aN) ha2 r3 ?_ ?_ ?_ ?_)⟩
    · exact List.nodup_cons.mpr ⟨fun h => pN (subN.mem h), nN.sublist subN⟩
    · intro b hb
      rcases List.mem_cons.mp hb with rfl | hb
      · exact (E.nd j _ hj rfl).2 b (by rw [hn]; exact List.mem_cons_self)
      · exact fr b (subN.mem hb)
    · intro b hb k' t' n' h
      rcases List.mem_cons.mp hb with rfl | hb
      · exact E1.dj j k' _ t' (Ne.symm n') hj rfl h b (by rw [hn]; exact List.mem_cons_self)
      · exact E1.dj j k' _ t' (Ne.symm n') hj rfl h b (by rw [hn]; exact List.mem_cons_of_mem _ (subN.mem hb))
    · intro k' t' n' h ow b hb hm
      rcases List.mem_cons.mp hm with rfl | hm
      · exact E1.dj k' j t' _ n' h ow hj b hb (by rw [hn]; exact List.mem_cons_self)
      · exact E1.dj k' j t' _ n' h ow hj b hb (by rw [hn]; exact List.mem_cons_of_mem _ (subN.mem hm))
  · exact q.elim
end
end KT
/-! KtN: x is True, xs[::-1]. -/
namespace KT
open PySem PySem.Spec PyProof.Rows L2
variable [WT]
section
variable {X : Cx} {a b c e : Expr} {fa fb fc f fi fj : DE} {pos : Pos} {st : Stmt}
/-- is, is not, of two bools -/
def kIsB (neg : Bool) : K2 := fun d e Q => match d, e with
  | .bool a, .bool b => Q (.bool (ng neg (decide (a = b))))
  | _, _ => False
theorem ok_isB : R2Ok X (fun x y H Q => ∃ a b, x = .bl a ∧ y = .bl b ∧ Q (.bl (decide (a = b))) H) (kIsB false) := by
  refine ⟨fun d e Q Q' h q => ?_, fun H x y d e N M Q R r1 r2 q h => ?_⟩
  · unfold kIsB at *; split at q
    · exact h _ q
    · exact q.elim
  · unfold kIsB at q; split at q
    · exact ⟨_, _, r1.bool_, r2.bool_, h _ _ (FR.imm (.bl _) rfl q)⟩
    · exact q.elim
theorem ok_isnotB : R2Ok X (fun x y H Q => ∃ a b, x = .bl a ∧ y = .bl b ∧ Q (.bl (!decide (a = b))) H) (kIsB true) := by
  refine ⟨fun d e Q Q' h q => ?_, fun H x y d e N M Q R r1 r2 q h => ?_⟩
  · unfold kIsB at *; split at q
    · exact h _ q
    · exact q.elim
  · unfold kIsB at q; split at q
    · exact ⟨_, _, r1.bool_, r2.bool_, h _ _ (FR.imm (.bl _) rfl q)⟩
    · exact q.elim
/-- xs[::-1]: a list without lists -/
def kRevs : K1 := fun d Q => match d with
  | .list ds => immL ds = true ∧ Q (.list ds.reverse)
  | _ => False
theorem ok_revs : R1Ok X (fun x H Q => ∃ a xs, x = .ref a ∧ SqL X.K H a xs ∧ ∀ p, H p = none → Q (.ref p) (upd H p (.lst xs.reverse))) kRevs := by
  refine ⟨fun d Q Q' h q => ?_, fun H x d N Q R r q h => ?_⟩
  · unfold kRevs at *; split at q
    · exact ⟨q.1, h _ q.2⟩
    · exact q.elim
  · unfold kRevs at q; split at q
    · obtain ⟨im, q⟩ := q
      obtain ⟨a, xs, M, rfl, rfl, ha, s⟩ := r.list_
      have e0 := s.imm im
      subst e0
      exact ⟨a, xs, rfl, SqL.of ha, fun p hp => h _ _ (FR.newL hp s.rev0 (immL_of.mpr fun d hd => immL_of.mp im d (List.mem_reverse.mp hd)) q)⟩
    · exact q.elim
theorem ev_revs {k : Nat} {p1 p2 p3 : Pos} (ha : EV G X a fa) : EV G X (.Subscript a (.Slice none none (some (.UnaryOp .USub (.Constant (.int 1) k p1) p2)) p3) pos) (dUn kRevs fa) := ev_un1 ok_revs ha fun h => pe_revL h
end
end KT
/-! KtO: a list of fresh items put behind an own list. -/
namespace KT
open PySem PySem.Spec PyProof.Rows L2
variable [WT]
section
variable {X : Cx} {a b e : Expr} {fa fb f : DE} {pos : Pos}
/-- xs + ys where ys is new with all its items -/
def dCatO (fa fb : DE) : DE := fun δ P => fa δ fun x => fb δ fun y => match x.d, y.d with
  | .list xs, .list ys => (xs.length + ys.length ≤ sizeLine ∧ y.own = true ∧ y.roots = []) ∧ P ⟨.list (xs ++ ys), x.own, x.roots⟩
  | _, _ => False
theorem ev_catO (ha : EV G X a fa) (hb : EV G X b fb) : EV G X (.BinOp a .Add b pos) (dCatO fa fb) := by
  refine ⟨fun δ P P' h q => ha.mono _ _ _ (fun x q => hb.mono _ _ _ (fun y q => ?_) q) q, fun H0 π hG => pei (pe_op op_cat (ha.pe H0 π hG) (hb.pe H0 π hG)) fun σ H Q ⟨δ, ν, E, q⟩ => ?_⟩
  · split at q
    · exact ⟨q.1, h _ q.2⟩
    · exact q.elim
  · refine ⟨δ, ν, E, ha.mono _ _ _ (fun x q v H1 M s1 o1 => ?_) q⟩
    refine ⟨δ, ν, E.same s1, hb.mono _ _ _ (fun y q w H2 N s2 o2 => ?_) q⟩
    split at q
    · rename_i xs ys ex ey
      obtain ⟨⟨hz, hy, hr⟩, q⟩ := q
      have t0 := o1.rp.trk
      have r1 := o1.rp.same s2
      have r2 := o2.rp
      rw [ex] at r1
      rw [ey] at r2
      obtain ⟨p1, vs, A, rfl, eM, h1, t1⟩ := r1.list_
      obtain ⟨p2, ws, B, rfl, eN, h2, t2⟩ := r2.list_
      have nB := o2.nd hy
      have fB : ∀ z ∈ B, H1 z = none := fun z hz => by
        rcases o2.fr hy z (by rw [eN]; exact List.mem_cons_of_mem _ hz) with h | ⟨j, hj, _⟩
        · exact h
        · rw [hr] at hj
          exact nomatch hj
      refine ⟨p1, p2, vs, ws, rfl, rfl, h1, h2, by rw [t1.length, t2.length]; exact hz, fun p hp => ?_⟩
      have s3 : Same H2 (upd H2 p (.lst (vs ++ ws))) := Same.upd_new hp
      refine q _ _ (p :: (A ++ B)) ((s1.trans s2).trans s3) ⟨.lst upd_same ((t1.append t2).same s3), fun z => ?_, fun z c hc => ?_, fun j t hj ho hn c ha hm => ?_⟩
      · have nA := o1.nd z
        rw [eM] at nA
        rw [eN] at nB
        refine List.nodup_cons.mpr ⟨fun hm => ?_, List.nodup_append.mpr ⟨(List.nodup_cons.mp nA).2, (List.nodup_cons.mp nB).2, fun c hc c' hc' e => ?_⟩⟩
        · rcases List.mem_append.mp hm with hm | hm
          · exact t1.trk p hm hp
          · exact t2.trk p hm hp
        · subst e
          exact t0 c (by rw [eM]; exact List.mem_cons_of_mem _ hc) (fB c hc')
      · rcases List.mem_cons.mp hc with rfl | hc
        · exact .inl ((s1.trans s2).free hp)
        · rcases List.mem_append.mp hc with hc | hc
          · exact o1.fr z c (by rw [eM]; exact List.mem_cons_of_mem _ hc)
          · exact .inl (s1.free (fB c hc))
      · rcases List.mem_cons.mp hm with rfl | hm
        · exact ((E.same (s1.trans s2)).trk hj) _ ha hp
        · rcases List.mem_append.mp hm with hm | hm
          · exact o1.al j t hj ho hn c ha (by rw [eM]; exact List.mem_cons_of_mem _ hm)
          · exact (E.same s1).trk hj c ha (fB c hm)
    · exact q.elim
end
/-- % by a divisor of either sign -/
def ModN (_ j : Int) : Prop := j ≠ 0
def kModN : K2 := kII ModN fun i j => .int (i.fmod j)
theorem ok_modN {X : Cx} : R2Ok X (rI (fun _ j => j ≠ 0) fun i j => .int (i.fmod j)) kModN := ok_II (fun _ _ _ _ => .int _) fun _ _ => rfl
end KT
/-! KtQ: defs that change lists passed to them: the last parameters are own lists of the caller's names. -/
namespace KT
open PySem PySem.Spec PyProof.Rows L2
variable [WT]
/-- arguments, the data and the new data of the changed lists -/
abbrev WM := List D → (D → List D → Prop) → Prop
/-- the own lists of these names -/
def getsK : List Nat → En → (List D → Prop) → Prop
  | [], _, P => P []
  | j :: js, δ, P => match δ[j]? with
    | some (some ⟨d, true, _⟩) => getsK js δ fun ds => P (d :: ds)
    | _ => False
/-- .. that still are the caller's -/
def getpK : List Nat → En → (List D → Prop) → Prop
  | [], _, P => P []
  | j :: js, δ, P => match δ[j]? with
    | some (some ⟨d, true, true⟩) => getpK js δ fun ds => P (d :: ds)
    | _ => False
/-- new data for these names -/
def putsK : List Nat → List D → En → (En → Prop) → Prop
  | j :: js, e :: es, δ, P => match δ[j]? with
    | some (some ⟨_, true, pn⟩) => setK δ j (some ⟨e, true, pn⟩) fun δ' => putsK js es δ' P
    | _ => False
  | [], [], δ, P => P δ
  | _, _, _, _ => False
def initKM : List Bool → Nat → List D → (En → Prop) → Prop
  | b :: fl, n + 1, d :: ds, P => initKM fl n ds fun δ => P (some ⟨d, b, true⟩ :: δ)
  | [], n + 1, [], P => initKM [] n [] fun δ => P (none :: δ)
  | [], 0, [], P => P []
  | _, _, _, _ => False
def initEM (fl : List Bool) (n : Nat) (ds : List D) : En := List.zipWith (fun b d => some ⟨d, b, true⟩) fl ds ++ List.replicate (n - ds.length) none
theorem initKM_to : ∀ (fl : List Bool) (n : Nat) (ds : List D) (P : En → Prop), initKM fl n ds P → fl.length = ds.length ∧ P (initEM fl n ds)
  | [], 0, [], P, q => ⟨rfl, q⟩
  | [], n + 1, [], P, q => by
    obtain ⟨a, b⟩ := initKM_to [] n [] _ q
    exact ⟨rfl, by simpa [initEM, List.replicate_succ] using b⟩
  | b :: fl, n + 1, d :: ds, P, q => by
    obtain ⟨a, c⟩ := initKM_to fl n ds _ q
    exact ⟨by simp [a], by simpa [initEM] using c⟩
  | [], 0, d :: ds, P, q => q.elim
  | [], n + 1, d :: ds, P, q => q.elim
  | b :: fl, 0, _, P, q => q.elim
  | b :: fl, n + 1, [], P, q => q.elim
/-- the predicate of a def that changes the lists of the parameters mu -/
def runFM (fl : List Bool) (mu : List Nat) (n : Nat) (m : DS) : WM := fun ds Q => initKM fl n ds fun δ => m ⟨fun δ' => getpK mu δ' fun es => Q .none es, fun x δ' => imm x.d = true ∧ getpK mu δ' fun es => Q x.d es⟩ δ
theorem getpK_to {δ : En} : ∀ {js : List Nat} {P : List D → Prop}, getpK js δ P → ∃ es, P es ∧ es.length = js.length ∧ ∀ (k j : Nat), js[k]? = some j → ∃ e, es[k]? = some e ∧ δ[j]? = some (some ⟨e, true, true⟩)
  | [], P, q => ⟨[], q, rfl, fun k j h => by simp at h⟩
  | j :: js, P, q => by
    unfold getpK at q
    split at q
    · rename_i d hj
      obtain ⟨es, h1, h2, h3⟩ := getpK_to q
      refine ⟨d :: es, h1, by simp [h2], fun k i h => ?_⟩
      cases k with
      | zero => simp at h; subst h; exact ⟨d, rfl, hj⟩
      | succ k => simpa using h3 k i (by simpa using h)
    · exact q.elim
theorem getsK_to {δ : En} : ∀ {js : List Nat} {P : List D → Prop}, getsK js δ P → ∃ es, P es ∧ es.length = js.length ∧ ∀ (k j : Nat), js[k]? = some j → ∃ e pn, es[k]? = some e ∧ δ[j]? = some (some ⟨e, true, pn⟩)
  | [], P, q => ⟨[], q, rfl, fun k j h => by simp at h⟩
  | j :: js, P, q => by
    unfold getsK at q
    split at q
    · rename_i d pn hj
      obtain ⟨es, h1, h2, h3⟩ := getsK_to q
      refine ⟨d :: es, h1, by simp [h2], fun k i h => ?_⟩
      cases k with
      | zero => simp at h; subst h; exact ⟨d, pn, rfl, hj⟩
      | succ k => simpa using h3 k i (by simpa using h)
    · exact q.elim
/-- what stands behind new data -/
theorem putsK_to : ∀ {js : List Nat} {es : List D} {δ : En} {P : En → Prop}, js.Nodup → putsK js es δ P → ∃ δ', P δ' ∧ δ'.length = δ.length ∧ es.length = js.length ∧ (∀ k, k ∉ js → δ'[k]? = δ[k]?) ∧
    ∀ (k j : Nat), js[k]? = some j → ∃ e d pn, es[k]? = some e ∧ δ[j]? = some (some ⟨d, true, pn⟩) ∧ δ'[j]? = some (some ⟨e, true, pn⟩)
  | [], [], δ, P, _, q => ⟨δ, q, rfl, rfl, fun _ _ => rfl, fun k j h => by simp at h⟩
  | j :: js, e :: es, δ, P, hn, q => by
    unfold putsK at q
    split at q
    · rename_i d pn hj
      rw [setK_eq] at q
      have hn' := List.nodup_cons.mp hn
      obtain ⟨δ', h1, h2, h3, h4, h5⟩ := putsK_to hn'.2 q
      have hl := (List.getElem?_eq_some_iff.mp hj).1
      refine ⟨δ', h1, by simpa using h2, by simp [h3], fun k hk => ?_, fun k i h => ?_⟩
      · have hk' : k ≠ j ∧ k ∉ js := ⟨fun z => hk (z ▸ List.mem_cons_self), fun z => hk (List.mem_cons_of_mem _ z)⟩
        rw [h4 k hk'.2, List.getElem?_set_ne (Ne.symm hk'.1)]
      · cases k with
        | zero =>
          simp at h
          subst h
          exact ⟨e, d, pn, rfl, hj, by rw [h4 _ hn'.1, List.getElem?_set_self hl]⟩
        | succ k =>
          have hi : js[k]? = some i := by simpa using h
          obtain ⟨e', d', pn', g1, g2, g3⟩ := h5 k i hi
          have ne : i ≠ j := fun z => hn'.1 (z ▸ List.mem_of_getElem? hi)
          rw [List.getElem?_set_ne (Ne.symm ne)] at g2
          exact ⟨e', d', pn', by simpa using g1, g2, g3⟩
    · exact q.elim
  | [], _ :: _, _, _, _, q => q.elim
  | _ :: _, [], _, _, _, q => q.elim
/-- the arguments stand for the data; the lists of mu apart from all others -/
structure ArgsOk (K : PySem.W.Frag) (H : Hp) (mu : List Nat) (vs : List V) (ds : List D) (ν : Nu) : Prop where
  at_ : ∀ (i : Nat) (d : D), ds[i]? = some d → ∃ v, vs[i]? = some v ∧ Rp K H v d (ν i)
  nd : ∀ i ∈ mu, (ν i).Nodup
  dj : ∀ i ∈ mu, ∀ (j : Nat) (d : D), i ≠ j → ds[j]? = some d → ∀ a ∈ ν i, a ∉ ν j
/-- the heap behind the call -/
structure Back (K : PySem.W.Frag) (H H' : Hp) (mu : List Nat) (vs : List V) (es : List D) (ν ν' : Nu) : Prop where
  fr : ∀ a o, H a = some o → (∀ j ∈ mu, a ∉ ν j) → H' a = some o
  at_ : ∀ (k i : Nat), mu[k]? = some i → ∃ v e, vs[i]? = some v ∧ es[k]? = some e ∧ Rp K H' v e (ν' i)
  nd : ∀ i ∈ mu, (ν' i).Nodup ∧ ∀ a ∈ ν' i, H a = none ∨ ∃ j ∈ mu, a ∈ ν j
  dj : ∀ i ∈ mu, ∀ j ∈ mu, i ≠ j → ∀ a ∈ ν' i, a ∉ ν' j
def spOfM (K : PySem.W.Frag) (n : Nat) (mu : List Nat) (w : WM) : Sp := fun vs H Q _ => vs.length = n ∧ ∃ ds ν, ds.length = n ∧ ArgsOk K H mu vs ds ν ∧ ∃ Qd : D → List D → Prop, w ds Qd ∧ ∀ d es, Qd d es → ∀ v H' ν', Back K H H' mu vs es ν ν' → Rp K H' v d [] → Q v H'
open Classical in
noncomputable def hole (H : Hp) (mu : List Nat) (ν : Nu) : Hp := fun a => if ∃ j ∈ mu, a ∈ ν j then none else H a
theorem hole_same (H : Hp) (mu : List Nat) (ν : Nu) : Same (hole H mu ν) H := fun b o h => by
  unfold hole at h
  split at h
  · cases h
  · exact h
theorem initEM_look {fl : List Bool} {n : Nat} {ds : List D} (hl : fl.length = ds.length) {i : Nat} {s : Slot} (h : (initEM fl n ds)[i]? = some (some s)) : ∃ d b, ds[i]? = some d ∧ fl[i]? = some b ∧ s = ⟨d, b, true⟩ := by
  unfold initEM at h
  by_cases hi : i < ds.length
  · rw [List.getElem?_append_left (by simp [hl]; exact hi), List.getElem?_zipWith, List.getElem?_eq_getElem hi, List.getElem?_eq_getElem (show i < fl.length by omega)] at h
    simp only [Option.some.injEq] at h
    exact ⟨ds[i], fl[i], List.getElem?_eq_getElem hi, List.getElem?_eq_getElem _, h.symm⟩
  · rw [List.getElem?_append_right (by simp [hl]; omega), List.getElem?_replicate] at h
    split at h <;> simp at h
theorem initM_ok {K : PySem.W.Frag} {H : Hp} {N : List Str} {vs : List V} {ds : List D} {fl : List Bool} {mu : List Nat} {ν : Nu} (a : ArgsOk K H mu vs ds ν) (hv : vs.length = ds.length) (hf : fl.length = ds.length) (hl : vs.length ≤ N.length) (hm : ∀ i, fl[i]? = some true → i ∈ mu) :
    EnvOk K (hole H mu ν) (fun i => vs[i]?) H (start N vs) (initEM fl N.length ds) ν := by
  refine ⟨?_, hole_same H mu ν, fun i s h => ?_, fun i s h o => ?_, fun i j s t n h o h' => ?_⟩
  · simp [initEM, L2.start, hf]; omega
  · obtain ⟨d, b, hd, hb, rfl⟩ := initEM_look hf h
    obtain ⟨v, hv, rv⟩ := a.at_ i d hd
    refine ⟨v, ?_, rv, fun _ => hv⟩
    unfold L2.start
    have hi : i < vs.length := (List.getElem?_eq_some_iff.mp hv).1
    rw [List.getElem?_append_left (by simpa using hi), List.getElem?_map, hv]
    rfl
  · obtain ⟨d, b, hd, hb, rfl⟩ := initEM_look hf h
    have o : b = true := o
    subst o
    refine ⟨a.nd i (hm i hb), fun x hx => ?_⟩
    unfold hole
    rw [if_pos ⟨i, hm i hb, hx⟩]
  · obtain ⟨d, b, hd, hb, rfl⟩ := initEM_look hf h
    obtain ⟨d', b', hd', hb', rfl⟩ := initEM_look hf h'
    have o : b = true := o
    subst o
    exact a.dj i (hm i hb) j d' n hd'
section
variable {P : Program} {w : World} {K : PySem.W.Frag} {mg : Str → Option Value} {base : Heap}
/-- a def keeps the promise of its body's predicate -/
theorem ok_defM {x qual : Str} {st : Stmt} {f : Addr} {fd : FuncData} {N ps : List Str} {k : Nat} {m : DS} {fl : List Bool} {mu : List Nat} (F : L2.Fun K x qual st f fd) (S : FnScope N ps (defScope st))
    (hbody : ∀ (cdv : Value) (A : Around) (outer : List Env) (s : Shared) (H : Hp) (E : XK), Room k (A.deeper (envOfC qual (defScope st) s.heap.objs.size f cdv)) →
      SVs GAll (cxOf L2.CX0 P w K mg base N qual (defScope st) f cdv A outer s H E).nox (defBody st) m) (hpn : ps.length ≤ N.length := by decide) (hm : ∀ i, fl[i]? = some true → i ∈ mu) :
    FnOk P w K mg base L2.CX0 (k + 1) f fd ps (spOfM K ps.length mu (runFM fl mu N.length m)) := by
  refine F.ok S (fun vs H Q E h => h.1) fun cdv A outer s H vs Q E hr h => ?_
  obtain ⟨hl, ds, ν, hds, ar, Qd, q, hQ⟩ := h
  have B := hbody cdv A outer s H E hr
  unfold runFM at q
  obtain ⟨hf, q⟩ := initKM_to _ _ _ _ q
  have e := initM_ok (N := N) ar (by omega) hf (by rw [hl]; exact hpn) hm
  refine ⟨_, B.pss (hole H mu ν) (fun i => vs[i]?) True.intro, initEM fl N.length ds, ν, e, ?_⟩
  -- the heap behind, from the names at the end
  have back : ∀ (δ : En) (es : List D) (σ' : L2.St) (H1 H' : Hp) (ν' : Nu), EnvOk K (hole H mu ν) (fun i => vs[i]?) H1 σ' δ ν' → Same H1 H' → (∀ (k j : Nat), mu[k]? = some j → ∃ e, es[k]? = some e ∧ δ[j]? = some (some ⟨e, true, true⟩)) → Back K H H' mu vs es ν ν' := fun δ es σ' H1 H' ν' E' s1 hg => by
    have slot : ∀ i ∈ mu, ∃ e, δ[i]? = some (some ⟨e, true, true⟩) := fun i hi => by
      obtain ⟨k, hk⟩ := List.getElem?_of_mem hi
      obtain ⟨e, _, h⟩ := hg k i hk
      exact ⟨e, h⟩
    refine ⟨fun a o h hn => ?_, fun k i h => ?_, fun i hi => ?_, fun i hi j hj n => ?_⟩
    · refine s1 _ _ (E'.sm _ _ ?_)
      unfold hole
      rw [if_neg (fun ⟨j, hj, hm⟩ => hn j hj hm)]
      exact h
    · obtain ⟨e, he, hs⟩ := hg k i h
      obtain ⟨v, _, r, p⟩ := E'.at_ i _ hs
      exact ⟨v, e, p rfl, he, r.same s1⟩
    · obtain ⟨e, hs⟩ := slot i hi
      obtain ⟨n, f⟩ := E'.nd i _ hs rfl
      refine ⟨n, fun a ha => ?_⟩
      have := f a ha
      unfold hole at this
      split at this
      · rename_i z
        exact .inr z
      · exact .inl this
    · obtain ⟨e, hs⟩ := slot i hi
      obtain ⟨e', hs'⟩ := slot j hj
      exact E'.dj i j _ _ n hs rfl hs'
  refine B.mono _ _ _ (fun δ q σ' H' ν' E' => ?_) (fun y δ q v σ' H1 H' ν' M' E' s1 o => ?_) q
  · obtain ⟨es, q, _, hg⟩ := getpK_to q
    exact hQ _ _ q .non H' ν' (back δ es σ' H' H' ν' E' (Same.refl _) hg) .non
  · obtain ⟨hi, q⟩ := q
    obtain ⟨es, q, _, hg⟩ := getpK_to q
    exact hQ _ _ q v H' ν' (back δ es σ' H1 H' ν' E' s1 hg) (o.rp.imm hi ▸ o.rp)
structure CalM (P : Program) (w : World) (K : PySem.W.Frag) (mg : Str → Option Value) (base : Heap) (x : Str) (k n : Nat) (mu : List Nat) (wf : WM) : Prop where
  ex : ∃ (f : Addr) (fd : FuncData) (ps : List Str), FnOk P w K mg base CX0 k f fd ps (spOfM K n mu wf) ∧ mg x = some (.ref f) ∧ PySem.W.keepIn K (.ref f) = true ∧ Binds K fd ps []
end
end KT
/-! KtR: the call of a def that changes lists of the caller's names. -/
namespace KT
open PySem PySem.Spec PyProof.Rows L2
variable [WT]
theorem idxOf_get {α : Type} [BEq α] [LawfulBEq α] : ∀ {js : List α} {k : Nat} {j : α}, js.Nodup → js[k]? = some j → js.idxOf j = k
  | i :: js, 0, j, _, h => by
    simp at h
    subst h
    simp
  | i :: js, k + 1, j, hn, h => by
    have hn' := List.nodup_cons.mp hn
    have hk : js[k]? = some j := by simpa using h
    have ne : i ≠ j := fun z => hn'.1 (z ▸ List.mem_of_getElem? hk)
    simp [List.idxOf_cons, beq_eq_false_iff_ne.mpr ne, idxOf_get hn'.2 hk]
section
variable {K : PySem.W.Frag} {H0 H H1 H' : Hp} {π : Nat → Option V} {σ : L2.St} {δ δ' : En} {ν : Nu}
/-- the names behind a change of some own lists -/
theorem EnvOk.after (E : EnvOk K H0 π H σ δ ν) {js : List Nat} {ν' : Nu} (own : ∀ j ∈ js, ∃ d pn, δ[j]? = some (some ⟨d, true, pn⟩)) (fr : ∀ a o, H a = some o → (∀ j ∈ js, a ∉ ν j) → H' a = some o)
    (hl : δ'.length = δ.length) (hk : ∀ k, k ∉ js → δ'[k]? = δ[k]?) (hj : ∀ j ∈ js, ∃ e d pn v, δ[j]? = some (some ⟨d, true, pn⟩) ∧ δ'[j]? = some (some ⟨e, true, pn⟩) ∧ σ[j]? = some (some v) ∧ Rp K H' v e (ν' j))
    (nd : ∀ j ∈ js, (ν' j).Nodup ∧ ∀ a ∈ ν' j, H a = none ∨ ∃ i ∈ js, a ∈ ν i) (dj : ∀ i ∈ js, ∀ j ∈ js, i ≠ j → ∀ a ∈ ν' i, a ∉ ν' j) : EnvOk K H0 π H' σ δ' (fun k => if k ∈ js then ν' k else ν k) := by
  have far : ∀ j ∈ js, ∀ a ∈ ν j, H0 a = none := fun j h a ha => by
    obtain ⟨d, pn, hs⟩ := own j h
    exact (E.nd j _ hs rfl).2 a ha
  have out : ∀ k s, k ∉ js → δ[k]? = some (some s) → ∀ j ∈ js, ∀ a ∈ ν j, a ∉ ν k := fun k s hn hs j h a ha => by
    obtain ⟨d, pn, ht⟩ := own j h
    exact E.dj j k _ s (fun z => hn (z ▸ h)) ht rfl hs a ha
  have keep : ∀ k s v, k ∉ js → δ[k]? = some (some s) → Rp K H v s.d (ν k) → Rp K H' v s.d (ν k) := fun k s v hn hs r => by
    refine r.keep fun a o e q => fr a o e fun j h hm => ?_
    rcases q with q | q
    · exact out k s hn hs j h a hm q
    · obtain ⟨d, pn, ht⟩ := own j h
      obtain ⟨v', _, rv, _⟩ := E.at_ j _ ht
      obtain ⟨xs, e', hmu⟩ := rv.lsts a hm
      rw [e] at e'
      cases e'
      exact absurd hmu (by rw [q]; decide)
  refine ⟨by rw [hl]; exact E.len, fun b o h => fr b o (E.sm b o h) fun j hjs hm => ?_, fun k s h => ?_, fun k s h o => ?_, fun i j s t n h o h' a ha => ?_⟩
  · rw [far j hjs b hm] at h
    cases h
  · by_cases c : k ∈ js
    · obtain ⟨e, d, pn, v, g1, g2, g3, g4⟩ := hj k c
      rw [g2] at h
      cases h
      obtain ⟨v', a1, _, a3⟩ := E.at_ k _ g1
      rw [g3] at a1
      cases a1
      exact ⟨v, g3, by rw [if_pos c]; exact g4, a3⟩
    · rw [hk k c] at h
      obtain ⟨v, a1, a2, a3⟩ := E.at_ k s h
      exact ⟨v, a1, by rw [if_neg c]; exact keep k s v c h a2, a3⟩
  · by_cases c : k ∈ js
    · try dsimp only
      rw [if_pos c]
      obtain ⟨n, f⟩ := nd k c
      refine ⟨n, fun a ha => ?_⟩
      rcases f a ha with z | ⟨i, hi, z⟩
      · exact E.sm.free z
      · exact far i hi a z
    · try dsimp only
      rw [if_neg c]
      rw [hk k c] at h
      exact E.nd k s h o
  · try dsimp only at ha ⊢
    by_cases c : i ∈ js
    · rw [if_pos c] at ha
      by_cases c' : j ∈ js
      · rw [if_pos c']
        exact dj i c j c' n a ha
      · rw [if_neg c']
        rw [hk j c'] at h'
        rcases (nd i c).2 a ha with z | ⟨l, hl', z⟩
        · exact fun hm => (E.trk h' a hm) z
        · exact out j t c' h' l hl' a z
    · rw [if_neg c] at ha
      rw [hk i c] at h
      by_cases c' : j ∈ js
      · rw [if_pos c']
        intro hm
        rcases (nd j c').2 a hm with z | ⟨l, hl', z⟩
        · exact E.trk h a ha z
        · exact out i s c h l hl' a z ha
      · rw [if_neg c']
        rw [hk j c'] at h'
        exact E.dj i j s t n h o h' a ha
theorem VsOk.getv : ∀ {vs : List V} {xs : List Val} {Ms : List (List Addr)} {i : Nat} {x : Val}, VsOk K H δ ν H' vs xs Ms → xs[i]? = some x → ∃ v M, vs[i]? = some v ∧ Ms[i]? = some M ∧ VOk K H δ ν H' v x M
  | _, _, _, _, _, .nil, e => by simp at e
  | _, _, _, 0, x, .cons q r c, e => by simp at e; subst e; exact ⟨_, _, rfl, rfl, q⟩
  | _, _, _, i + 1, x, .cons q r c, e => by
    obtain ⟨v, M, h1, h2, h3⟩ := VsOk.getv (i := i) r (by simpa using e)
    exact ⟨v, M, by simpa using h1, by simpa using h2, h3⟩
end
/-- a list of names as arguments -/
def tNames (js : List Nat) : TA := fun σ H Q => (∀ j ∈ js, ∃ v, σ[j]? = some (some v)) ∧ ∀ ws : List V, ws.length = js.length → (∀ (k j : Nat), js[k]? = some j → ∃ w, ws[k]? = some w ∧ σ[j]? = some (some w)) → Q ws H
structure EN (G : GT) (X : Cx) (es : List Expr) (js : List Nat) : Prop where
  pa : PA X es (tNames js)
theorem en_nil {X : Cx} : EN G X [] [] := ⟨pai pa_nil fun σ H Q ⟨_, q⟩ => q [] rfl fun k j h => by simp at h⟩
theorem en_cons {X : Cx} {es : List Expr} {js : List Nat} (j : Nat) {x : Str} {pos : Pos} (hr : EN G X es js) (hN : X.N[j]? = some x := by rfl) (hv : Vis X.env.scope x := by first | exact Or.inl rfl | exact Or.inr (Or.inl rfl) | exact Or.inr (Or.inr rfl)) (hd : (x == ("__debug__" : Str)) = false := by decide)
    (hcd : (x == ("__classdict__" : Str)) = false := by decide) (hs : starEach (.Name x pos :: es) X.env = (false, eval (.Name x pos) X.env) :: starEach es X.env := by rfl) : EN G X (.Name x pos :: es) (j :: js) :=
  ⟨pai (pa_cons (pe_var hN hv hd hcd) hr.pa hs) fun σ H Q ⟨h, q⟩ => by
    obtain ⟨v, hv⟩ := h j List.mem_cons_self
    refine ⟨v, hv, fun i hi => h i (List.mem_cons_of_mem _ hi), fun ws hl hw => q (v :: ws) (by simp [hl]) fun k i hk => ?_⟩
    cases k with
    | zero => simp at hk; subst hk; exact ⟨v, rfl, hv⟩
    | succ k => simpa using hw k i (by simpa using hk)⟩
/-- arguments of which the last ones are names -/
def semM (K : PySem.W.Frag) (H0 : Hp) (π : Nat → Option V) (g : DA) (js : List Nat) : TA := fun σ H Q => ∃ δ ν, EnvOk K H0 π H σ δ ν ∧ (∀ j ∈ js, ∃ v, σ[j]? = some (some v)) ∧
  g δ fun xs => ∀ vs H' Ms ws, Same H H' → VsOk K H δ ν H' vs xs Ms → ws.length = js.length → (∀ (k j : Nat), js[k]? = some j → ∃ w, ws[k]? = some w ∧ σ[j]? = some (some w)) → Q (vs ++ ws) H'
structure EM (G : GT) (X : Cx) (es : List Expr) (g : DA) (js : List Nat) : Prop where
  mono : ∀ δ (P P' : List Val → Prop), (∀ x, P x → P' x) → g δ P → g δ P'
  pa : ∀ H0 π, G H0 π → PA X es (semM X.K H0 π g js)
theorem em_names {X : Cx} {es : List Expr} {js : List Nat} (h : EN G X es js) : EM G X es aNil js :=
  ⟨fun _ _ _ h q => h _ q, fun H0 π hG => pai h.pa fun σ H Q ⟨δ, ν, _, hj, q⟩ => ⟨hj, fun ws hl hw => q [] H [] ws (Same.refl H) .nil hl hw⟩⟩
theorem em_cons {X : Cx} {e : Expr} {es : List Expr} {f : DE} {g : DA} {js : List Nat} (ha : EV G X e f) (hr : EM G X es g js) (hs : starEach (e :: es) X.env = (false, eval e X.env) :: starEach es X.env := by rfl) : EM G X (e :: es) (aCons f g) js := by
  refine ⟨fun δ P P' h q => ha.mono _ _ _ (fun x q => hr.mono _ _ _ (fun xs q => h _ q) q) q, fun H0 π hG => pai (pa_cons (ha.pe H0 π hG) (hr.pa H0 π hG) hs) fun σ H Q ⟨δ, ν, E, hj, q⟩ => ?_⟩
  refine ⟨δ, ν, E, ha.mono _ _ _ (fun x q v H1 M s1 o1 => ?_) q⟩
  refine ⟨δ, ν, E.same s1, hj, hr.mono _ _ _ (fun xs q vs H2 Ms ws s2 o2 hl hw => ?_) q⟩
  refine q (v :: vs) H2 (M :: Ms) ws (s1.trans s2) (.cons (o1.same s2) (o2.back s1) fun i y My hy hM ho hr a ha hm => ?_) hl hw
  obtain ⟨_, oy⟩ := o2.get hy hM
  rcases oy.fr ho a ha with z | ⟨k, hk, t, ht, hto, hka⟩
  · exact o1.rp.trk a hm z
  · exact o1.al k t ht hto (hr k hk) a hka hm
/-- the values touch none of the names' lists -/
def sepB (js : List Nat) (xs : List Val) : Bool := xs.all fun x => x.roots.all fun r => !js.contains r
theorem sepB_to {js : List Nat} {xs : List Val} (h : sepB js xs = true) {x : Val} (hx : x ∈ xs) {j : Nat} (hj : j ∈ js) : j ∉ x.roots := fun hm => by
  have a := List.all_eq_true.mp h x hx
  have b := List.all_eq_true.mp a j hm
  simp at b
  exact b hj
/-- x = f(a, …, y, …): f changes the lists of the names js, its last arguments -/
def mCallM (t n : Nat) (js : List Nat) (w : WM) (g : DA) : DS := fun E δ => getsK js δ fun ds => g δ fun xs => (xs.length + js.length = n ∧ sepB js xs = true) ∧ ∃ Qd : D → List D → Prop, w (xs.map Val.d ++ ds) Qd ∧ ∀ d es, Qd d es → putsK js es δ fun δ' => setK δ' t (some ⟨d, true, false⟩) E.nx
theorem putsK_mono : ∀ {js : List Nat} {es : List D} {δ : En} {P Q : En → Prop}, (∀ δ, P δ → Q δ) → putsK js es δ P → putsK js es δ Q
  | [], [], _, _, _, h, q => h _ q
  | j :: js, e :: es, δ, P, Q, h, q => by
    unfold putsK at *
    split at q
    · rw [setK_eq] at q ⊢
      exact putsK_mono h q
    · exact q.elim
  | [], _ :: _, _, _, _, _, q => q.elim
  | _ :: _, [], _, _, _, _, q => q.elim
theorem getsK_mono : ∀ {js : List Nat} {δ : En} {P Q : List D → Prop}, (∀ x, P x → Q x) → getsK js δ P → getsK js δ Q
  | [], _, _, _, h, q => h _ q
  | j :: js, δ, P, Q, h, q => by
    unfold getsK at *
    split at q
    · exact getsK_mono (fun x z => h _ z) q
    · exact q.elim
theorem mCallM_mono {t n : Nat} {js : List Nat} {w : WM} {g : DA} (hg : ∀ δ (P P' : List Val → Prop), (∀ x, P x → P' x) → g δ P → g δ P') : MonoS (mCallM t n js w g) := fun A B δ h1 h2 q =>
  getsK_mono (fun ds q => hg _ _ _ (fun xs ⟨c, Qd, a, b⟩ => ⟨c, Qd, a, fun d es z => putsK_mono (fun δ q => by rw [setK_eq] at q ⊢; exact h1 _ q) (b d es z)⟩) q) q
section
variable {X : Cx} {e : Expr} {es : List Expr} {g : DA} {pos : Pos}
theorem sv_callM {jr k n : Nat} {js mu : List Nat} {wf : WM} {x y : Str} {p pos' posC : Pos} (t : Nat) (hN : X.N.Nodup) (c : CalM X.prog X.w X.K X.mg X.base x k n mu wf) (hg : Gl X x) (hr : Room jr X.A) (ha : EM G X (e :: es) g js) (hk : k ≤ jr := by decide)
    (hmu : mu = (List.range js.length).map (n - js.length + ·) := by decide) (hjs : js.Nodup := by decide)
    (hi : X.N[t]? = some y := by rfl) (hx : Loc X.env.scope y := by first | exact Or.inl rfl | exact Or.inr rfl)
    (hs : swapsWith (.Call (.Name x p) (e :: es) [] posC) (some (.Name y pos')) pos.line X.env = pure false := by rfl) (hf : X.fn y = true ∨ X.env.scope.names.lookup y = some .local := by first | exact .inl rfl | exact .inr rfl | assumption)
    (hdb : (x == ("__debug__" : Str)) = false := by decide) (he : starEach (e :: es) X.env = (false, eval e X.env) :: starEach es X.env := by rfl) (hpl : (backTo posC (starEach es X.env)).any (·.1) = false := by rfl) :
    SV G X (.Assign [.Name y pos'] (.Call (.Name x p) (e :: es) [] posC) pos) (mCallM t n js wf g) := by
  obtain ⟨f, fd, ps, F, hm, kp, hb⟩ := c.ex
  refine ⟨mCallM_mono ha.mono, fun H0 π hG => psi (ps_set hN hi hx (pe_call (p := p) (pos := posC) F (hr.mono hk) hg hm kp hb .nil L2.pass0 (ha.pa H0 π hG) hdb he hpl) hs hf) fun D σ H ⟨δ, ν, E, q⟩ => ?_⟩
  obtain ⟨ds, q, ld, hds⟩ := getsK_to q
  have own : ∀ j ∈ js, ∃ d pn, δ[j]? = some (some ⟨d, true, pn⟩) := fun j hj => by
    obtain ⟨k, hk⟩ := List.getElem?_of_mem hj
    obtain ⟨d, pn, _, h⟩ := hds k j hk
    exact ⟨d, pn, h⟩
  refine ⟨δ, ν, E, fun j hj => ?_, ha.mono _ _ _ (fun xs q vs H1 Ms ws s1 o1 hl hw => ?_) q⟩
  · obtain ⟨d, pn, h⟩ := own j hj
    obtain ⟨v, hv, _⟩ := E.at_ j _ h
    exact ⟨v, hv⟩
  · obtain ⟨⟨hn, sep⟩, Qd, q1, q2⟩ := q
    have E1 := E.same s1
    have lv := o1.length
    have hmu' : ∀ (k i : Nat), mu[k]? = some i → ∃ j, js[k]? = some j ∧ i = xs.length + k := fun k i h => by
      rw [hmu, List.getElem?_map] at h
      by_cases hk : k < js.length
      · rw [List.getElem?_range hk] at h
        simp at h
        exact ⟨js[k], List.getElem?_eq_getElem hk, by omega⟩
      · rw [List.getElem?_eq_none (by simpa using hk)] at h
        simp at h
    have mem : ∀ i ∈ mu, ∃ k j, mu[k]? = some i ∧ js[k]? = some j ∧ i = xs.length + k := fun i hi => by
      obtain ⟨k, hk⟩ := List.getElem?_of_mem hi
      obtain ⟨j, hj, e⟩ := hmu' k i hk
      exact ⟨k, j, hk, hj, e⟩
    have muj : ∀ j ∈ js, xs.length + js.idxOf j ∈ mu ∧ mu[js.idxOf j]? = some (xs.length + js.idxOf j) ∧ js[js.idxOf j]? = some j := fun j hj => by
      obtain ⟨k, hk⟩ := List.getElem?_of_mem hj
      have e := idxOf_get hjs hk
      rw [e]
      have hk2 := (List.getElem?_eq_some_iff.mp hk).1
      have h : mu[k]? = some (xs.length + k) := by
        rw [hmu, List.getElem?_map, List.getElem?_range hk2]
        simp
        omega
      exact ⟨List.mem_of_getElem? h, h, hk⟩
    -- the arguments' lists
    let ν1 : Nu := fun i => if i < xs.length then Ms.getD i [] else ν (js.getD (i - xs.length) 0)
    have nu2 : ∀ k j, js[k]? = some j → ν1 (xs.length + k) = ν j := fun k j h => by
      show (if xs.length + k < xs.length then _ else ν (js.getD (xs.length + k - xs.length) 0)) = ν j
      rw [if_neg (by omega), show xs.length + k - xs.length = k by omega]
      simp [List.getD_eq_getElem?_getD, h]
    have ao : ArgsOk X.K H1 mu (vs ++ ws) (xs.map Val.d ++ ds) ν1 := by
      refine ⟨fun i d h => ?_, fun i hi => ?_, fun i hi j d n h a ha => ?_⟩
      · by_cases c : i < xs.length
        · rw [List.getElem?_append_left (by simpa using c), List.getElem?_map, List.getElem?_eq_getElem c] at h
          simp at h
          obtain ⟨v, M, h1, h2, h3⟩ := o1.getv (List.getElem?_eq_getElem c)
          refine ⟨v, by rw [List.getElem?_append_left (by omega)]; exact h1, ?_⟩
          show Rp X.K H1 v d (if i < xs.length then Ms.getD i [] else _)
          rw [if_pos c, List.getD_eq_getElem?_getD, h2, ← h]
          exact h3.rp
        · rw [List.getElem?_append_right (by simpa using c)] at h
          simp at h
          have hk2 : i - xs.length < js.length := by rw [← ld]; exact (List.getElem?_eq_some_iff.mp h).1
          have hj := List.getElem?_eq_getElem hk2
          obtain ⟨d', pn, g1, g2⟩ := hds _ _ hj
          rw [h] at g1
          cases g1
          obtain ⟨w, hw1, hw2⟩ := hw _ _ hj
          obtain ⟨v, a1, a2, _⟩ := E1.at_ _ _ g2
          rw [hw2] at a1
          cases a1
          refine ⟨w, by rw [List.getElem?_append_right (by omega), lv]; exact hw1, ?_⟩
          have := nu2 _ _ hj
          rw [show xs.length + (i - xs.length) = i by omega] at this
          rw [this]
          exact a2
      · obtain ⟨k, j, h1, h2, rfl⟩ := mem i hi
        rw [nu2 k j h2]
        obtain ⟨d, pn, g⟩ := own j (List.mem_of_getElem? h2)
        exact (E1.nd j _ g rfl).1
      · obtain ⟨k, j1, h1, h2, rfl⟩ := mem i hi
        rw [nu2 k j1 h2] at ha
        obtain ⟨d1, pn1, g⟩ := own j1 (List.mem_of_getElem? h2)
        by_cases c : j < xs.length
        · obtain ⟨v, M, _, e2, e3⟩ := o1.getv (List.getElem?_eq_getElem c)
          show a ∉ (if j < xs.length then Ms.getD j [] else _)
          rw [if_pos c, List.getD_eq_getElem?_getD, e2]
          exact e3.al j1 _ g rfl (sepB_to sep (List.getElem_mem c) (List.mem_of_getElem? h2)) a ha
        · rw [List.getElem?_append_right (by simpa using c)] at h
          simp at h
          have hk2 : j - xs.length < js.length := by rw [← ld]; exact (List.getElem?_eq_some_iff.mp h).1
          have hj := List.getElem?_eq_getElem hk2
          have := nu2 _ _ hj
          rw [show xs.length + (j - xs.length) = j by omega] at this
          rw [this]
          obtain ⟨d2, pn2, g2⟩ := own _ (List.mem_of_getElem? hj)
          refine E1.dj j1 _ _ _ (fun z => n ?_) g rfl g2 a ha
          rw [← z] at hj
          have e1 := idxOf_get hjs hj
          have e2 := idxOf_get hjs h2
          omega
    show spOfM X.K n mu wf ((vs ++ ws) ++ []) H1 _ L2.E0
    rw [List.append_nil]
    refine ⟨by rw [List.length_append, lv, hl]; exact hn, _, ν1, by rw [List.length_append, List.length_map, ld]; exact hn, ao, Qd, q1, fun d es2 z v H' ν' bk r => ?_⟩
    obtain ⟨δ', q3, l3, l4, k3, p3⟩ := putsK_to hjs (q2 d es2 z)
    rw [setK_eq] at q3
    have E2 : EnvOk X.K H0 π H' σ δ' (fun k => if k ∈ js then ν' (xs.length + js.idxOf k) else ν k) := by
      refine E1.after (ν' := fun k => ν' (xs.length + js.idxOf k)) own (fun a o h hn => bk.fr a o h fun i hi => ?_) l3 k3 (fun j hj => ?_) (fun j hj => ?_) fun i hi j hj n => ?_
      · obtain ⟨k, j, _, h2, rfl⟩ := mem i hi
        rw [nu2 k j h2]
        exact hn j (List.mem_of_getElem? h2)
      · obtain ⟨m1, m2, m3⟩ := muj j hj
        obtain ⟨e', d', pn, g1, g2, g3⟩ := p3 _ _ m3
        obtain ⟨v', e2, b1, b2, b3⟩ := bk.at_ _ _ m2
        rw [g1] at b2
        cases b2
        obtain ⟨w, hw1, hw2⟩ := hw _ _ m3
        rw [List.getElem?_append_right (by omega), lv, show xs.length + js.idxOf j - xs.length = js.idxOf j by omega, hw1] at b1
        cases b1
        exact ⟨_, d', pn, _, g2, g3, hw2, b3⟩
      · obtain ⟨m1, m2, m3⟩ := muj j hj
        obtain ⟨n1, n2⟩ := bk.nd _ m1
        refine ⟨n1, fun a ha => (n2 a ha).imp id fun ⟨i, hi, hm⟩ => ?_⟩
        obtain ⟨k, j', _, h2, rfl⟩ := mem i hi
        rw [nu2 k j' h2] at hm
        exact ⟨j', List.mem_of_getElem? h2, hm⟩
      · obtain ⟨m1, m2, m3⟩ := muj i hi
        obtain ⟨m1', m2', m3'⟩ := muj j hj
        refine bk.dj _ m1 _ m1' fun z => n ?_
        have : js.idxOf i = js.idxOf j := by omega
        rw [this] at m3
        rw [m3] at m3'
        cases m3'
        rfl
    exact q3 _ _ _ (E2.set (d := d) (own := true) ⟨r, fun _ => List.nodup_nil, fun _ _ h => (nomatch h), fun _ _ h => (nomatch h), fun _ _ _ _ _ _ h => (nomatch h)⟩ t)
end
theorem fl_ok {fl : List Bool} {mu : List Nat} (h : ((List.range fl.length).all fun i => !(fl.getD i false) || mu.contains i) = true) : ∀ i, fl[i]? = some true → i ∈ mu := fun i hi => by
  have hl := (List.getElem?_eq_some_iff.mp hi).1
  have a := List.all_eq_true.mp h i (List.mem_range.mpr hl)
  rw [List.getD_eq_getElem?_getD, hi] at a
  simpa using a
section
variable {P : Program} {w : World} {K : PySem.W.Frag} {mg : Str → Option Value} {base : Heap}
theorem cal_defM {x : Str} {st : Stmt} {f : Addr} {fd : FuncData} {N ps : List Str} {k : Nat} {m : DS} {fl : List Bool} {mu : List Nat} (F : L2.Fun K x x st f fd) (S : FnScope N ps (defScope st)) (hm : mg x = some (.ref f)) (hb : Binds K fd ps [])
    (hbody : ∀ (cdv : Value) (A : Around) (outer : List Env) (s : Shared) (H : Hp) (E : XK), Room k (A.deeper (envOfC x (defScope st) s.heap.objs.size f cdv)) →
      SVs GAll (cxOf L2.CX0 P w K mg base N x (defScope st) f cdv A outer s H E).nox (defBody st) m) (hpn : ps.length ≤ N.length := by decide) (hfl : ((List.range fl.length).all fun i => !(fl.getD i false) || mu.contains i) = true := by decide) :
    CalM P w K mg base x (k + 1) ps.length mu (runFM fl mu N.length m) :=
  ⟨f, fd, ps, ok_defM F S hbody hpn (fl_ok hfl), hm, F.kp, hb⟩
end
end KT
/-! KtS: defs that may hand back the list of their last parameter: the caller gives it away. -/
namespace KT
open PySem PySem.Spec PyProof.Rows L2
variable [WT]
def runFV (fl : List Bool) (n : Nat) (m : DS) : W := fun ds Q => initKM fl n ds fun δ => m ⟨fun _ => Q .none, fun x _ => x.own = true ∧ Q x.d⟩ δ
def spOfV (K : PySem.W.Frag) (n : Nat) (mu : List Nat) (w : W) : Sp := fun vs H Q _ => vs.length = n ∧ ∃ ds ν, ds.length = n ∧ ArgsOk K H mu vs ds ν ∧ ∃ Qd : D → Prop, w ds Qd ∧ ∀ d, Qd d → ∀ v H' M, (∀ a o, H a = some o → (∀ j ∈ mu, a ∉ ν j) → H' a = some o) → Rp K H' v d M → M.Nodup → (∀ a ∈ M, H a = none ∨ ∃ j ∈ mu, a ∈ ν j) → Q v H'
section
variable {P : Program} {w : World} {K : PySem.W.Frag} {mg : Str → Option Value} {base : Heap}
theorem ok_defV {x qual : Str} {st : Stmt} {f : Addr} {fd : FuncData} {N ps : List Str} {k : Nat} {m : DS} {fl : List Bool} {mu : List Nat} (F : L2.Fun K x qual st f fd) (S : FnScope N ps (defScope st))
    (hbody : ∀ (cdv : Value) (A : Around) (outer : List Env) (s : Shared) (H : Hp) (E : XK), Room k (A.deeper (envOfC qual (defScope st) s.heap.objs.size f cdv)) →
      SVs GAll (cxOf L2.CX0 P w K mg base N qual (defScope st) f cdv A outer s H E).nox (defBody st) m) (hpn : ps.length ≤ N.length := by decide) (hm : ∀ i, fl[i]? = some true → i ∈ mu) :
    FnOk P w K mg base L2.CX0 (k + 1) f fd ps (spOfV K ps.length mu (runFV fl N.length m)) := by
  refine F.ok S (fun vs H Q E h => h.1) fun cdv A outer s H vs Q E hr h => ?_
  obtain ⟨hl, ds, ν, hds, ar, Qd, q, hQ⟩ := h
  have B := hbody cdv A outer s H E hr
  unfold runFV at q
  obtain ⟨hf, q⟩ := initKM_to _ _ _ _ q
  have e := initM_ok (N := N) ar (by omega) hf (by rw [hl]; exact hpn) hm
  refine ⟨_, B.pss (hole H mu ν) (fun i => vs[i]?) True.intro, initEM fl N.length ds, ν, e, ?_⟩
  have hol : ∀ a o, H a = some o → (∀ j ∈ mu, a ∉ ν j) → hole H mu ν a = some o := fun a o h hn => by
    unfold hole
    rw [if_neg (fun ⟨j, hj, hm⟩ => hn j hj hm)]
    exact h
  have free : ∀ a, hole H mu ν a = none → H a = none ∨ ∃ j ∈ mu, a ∈ ν j := fun a h => by
    unfold hole at h
    split at h
    · rename_i z; exact .inr z
    · exact .inl h
  refine B.mono _ _ _ (fun δ q σ' H' ν' E' => ?_) (fun y δ q v σ' H1 H' ν' M' E' s1 o => ?_) q
  · exact hQ _ q .non H' [] (fun a o h hn => E'.sm _ _ (hol a o h hn)) .non List.nodup_nil fun _ z => (nomatch z)
  · obtain ⟨ho, q⟩ := q
    refine hQ _ q v H' M' (fun a o h hn => s1 _ _ (E'.sm _ _ (hol a o h hn))) o.rp (o.nd ho) fun a ha => free a ?_
    rcases o.fr ho a ha with z | ⟨j, _, t, ht, hto, hm⟩
    · exact E'.sm.free z
    · exact (E'.nd j t ht hto).2 a hm
/-- which parameters are given away -/
def muOf (fl : List Bool) : List Nat := (List.range fl.length).filter fun i => fl.getD i false
structure CalV (P : Program) (w : World) (K : PySem.W.Frag) (mg : Str → Option Value) (base : Heap) (x : Str) (k n : Nat) (fl : List Bool) (wf : W) : Prop where
  ex : ∃ (f : Addr) (fd : FuncData) (ps : List Str), FnOk P w K mg base CX0 k f fd ps (spOfV K n (muOf fl) wf) ∧ mg x = some (.ref f) ∧ PySem.W.keepIn K (.ref f) = true ∧ Binds K fd ps []
theorem cal_defV {x : Str} {st : Stmt} {f : Addr} {fd : FuncData} {N ps : List Str} {k : Nat} {m : DS} {fl : List Bool} (F : L2.Fun K x x st f fd) (S : FnScope N ps (defScope st)) (hm : mg x = some (.ref f)) (hb : Binds K fd ps [])
    (hbody : ∀ (cdv : Value) (A : Around) (outer : List Env) (s : Shared) (H : Hp) (E : XK), Room k (A.deeper (envOfC x (defScope st) s.heap.objs.size f cdv)) →
      SVs GAll (cxOf L2.CX0 P w K mg base N x (defScope st) f cdv A outer s H E).nox (defBody st) m) (hpn : ps.length ≤ N.length := by decide)  :
    CalV P w K mg base x (k + 1) ps.length fl (runFV fl N.length m) :=
  ⟨f, fd, ps, ok_defV F S hbody hpn fun i hi => by
    have hl := (List.getElem?_eq_some_iff.mp hi).1
    unfold muOf
    rw [List.mem_filter, List.mem_range]
    exact ⟨hl, by rw [List.getD_eq_getElem?_getD, hi]; rfl⟩, hm, F.kp, hb⟩
end
/-- the arguments given away: own, apart from all others -/
def apart (x y : Val) : Bool := y.own && y.roots.all fun k => !x.roots.contains k
def sepV : List Bool → List Val → Bool
  | [], _ => true
  | _, [] => true
  | b :: fl, x :: xs => (!b || x.own) && (sepW b x fl xs && sepV fl xs)
where sepW (b : Bool) (x : Val) : List Bool → List Val → Bool
  | c :: fl, y :: xs => (!(b || c) || apart x y) && sepW b x fl xs
  | [], y :: xs => (!b || apart x y) && sepW b x [] xs
  | _, [] => true
/-- .. and their names -/
def mvRoots : List Bool → List Val → List Nat
  | b :: fl, x :: xs => match b with
    | true => x.roots ++ mvRoots fl xs
    | false => mvRoots fl xs
  | _, _ => []
theorem sepW_to {b : Bool} {x : Val} : ∀ {fl : List Bool} {xs : List Val}, sepV.sepW b x fl xs = true → ∀ i y, xs[i]? = some y → (b = true ∨ fl.getD i false = true) → y.own = true ∧ ∀ k ∈ y.roots, k ∉ x.roots
  | c :: fl, z :: xs, h, i, y, e, o => by
    simp only [sepV.sepW, Bool.and_eq_true, Bool.or_eq_true, Bool.not_eq_true'] at h
    cases i with
    | zero =>
      simp at e
      subst e
      have : apart x z = true := by
        rcases h.1 with q | q
        · rcases o with o | o
          · rw [o] at q; simp at q
          · have o : c = true := by simpa using o
            rw [o] at q; simp at q
        · exact q
      unfold apart at this
      rw [Bool.and_eq_true] at this
      exact ⟨this.1, fun k hk => by simpa using List.all_eq_true.mp this.2 k hk⟩
    | succ i => exact sepW_to h.2 i y (by simpa using e) (o.imp id fun o => by simpa using o)
  | [], z :: xs, h, i, y, e, o => by
    simp only [sepV.sepW, Bool.and_eq_true, Bool.or_eq_true, Bool.not_eq_true'] at h
    have ob : b = true := o.elim id fun o => by simp at o
    cases i with
    | zero =>
      simp at e
      subst e
      have : apart x z = true := by
        rcases h.1 with q | q
        · rw [ob] at q; cases q
        · exact q
      unfold apart at this
      rw [Bool.and_eq_true] at this
      exact ⟨this.1, fun k hk => by simpa using List.all_eq_true.mp this.2 k hk⟩
    | succ i => exact sepW_to h.2 i y (by simpa using e) (.inl ob)
  | _, [], h, i, y, e, o => by simp at e
theorem VsOk.sep {K : PySem.W.Frag} {H H' : Hp} {δ : En} {ν : Nu} : ∀ {fl : List Bool} {vs : List V} {xs : List Val} {Ms : List (List Addr)}, VsOk K H δ ν H' vs xs Ms → sepV fl xs = true →
    (∀ i y M, fl.getD i false = true → xs[i]? = some y → Ms[i]? = some M → y.own = true ∧ M.Nodup ∧ (∀ k ∈ y.roots, k ∈ mvRoots fl xs) ∧ ∃ v, VOk K H δ ν H' v y M) ∧
    ∀ i j M M', fl.getD i false = true → i ≠ j → Ms[i]? = some M → Ms[j]? = some M' → ∀ a ∈ M, a ∉ M'
  | [], _, _, _, _, _ => ⟨fun i y M h => by simp at h, fun i j M M' h => by simp at h⟩
  | _ :: _, _, _, _, .nil, _ => ⟨fun i y M _ h => by simp at h, fun i j M M' _ _ h => by simp at h⟩
  | b :: fl, _, _, _, .cons (x := x) (M := M0) (xs := xs) (Ms := Ms) q r c, h => by
    simp only [sepV, Bool.and_eq_true, Bool.or_eq_true, Bool.not_eq_true'] at h
    obtain ⟨h1, h2, h3⟩ := h
    obtain ⟨a1, a2⟩ := VsOk.sep r h3
    have one : ∀ i M, (b = true ∨ fl.getD i false = true) → Ms[i]? = some M → ∀ a ∈ M, a ∉ M0 := fun i M o e a ha => by
      have hi : i < xs.length := by rw [← r.lenM]; exact (List.getElem?_eq_some_iff.mp e).1
      obtain ⟨w1, w2⟩ := sepW_to h2 i xs[i] (List.getElem?_eq_getElem hi) o
      exact c i _ M (List.getElem?_eq_getElem hi) e w1 w2 a ha
    refine ⟨fun i y M o e1 e2 => ?_, fun i j M M' o n e1 e2 => ?_⟩
    · cases i with
      | zero =>
        have o : b = true := by simpa using o
        simp at e1 e2
        subst e1 e2
        have ow : x.own = true := by
          rcases h1 with z | z
          · rw [o] at z; cases z
          · exact z
        exact ⟨ow, q.nd ow, fun k hk => by rw [o]; exact List.mem_append_left _ hk, _, q⟩
      | succ i =>
        obtain ⟨b1, b2, b3, b4⟩ := a1 i y M (by simpa using o) (by simpa using e1) (by simpa using e2)
        refine ⟨b1, b2, fun k hk => ?_, b4⟩
        cases b
        · exact b3 k hk
        · exact List.mem_append_right _ (b3 k hk)
    · cases i with
      | zero =>
        have o : b = true := by simpa using o
        cases j with
        | zero => exact absurd rfl n
        | succ j =>
          simp at e1 e2
          subst e1
          exact fun a ha hm => one j M' (.inl o) e2 a hm ha
      | succ i =>
        cases j with
        | zero =>
          simp at e1 e2
          subst e2
          exact one i M (.inr (by simpa using o)) e1
        | succ j => exact a2 i j M M' (by simpa using o) (by omega) (by simpa using e1) (by simpa using e2)
section
variable {K : PySem.W.Frag} {H0 H H1 H' : Hp} {π : Nat → Option V} {σ : L2.St} {δ : En} {ν : Nu}
/-- lists given away, and what becomes of the names -/
theorem EnvOk.lost (E : EnvOk K H0 π H σ δ ν) (s1 : Same H H1) {S : Addr → Prop} {js : List Nat} (hS : ∀ a, S a → H a = none ∨ ∃ j ∈ js, ∃ s, δ[j]? = some (some s) ∧ s.own = true ∧ a ∈ ν j) (hl : ∀ a, S a → ∃ o, H1 a = some o ∧ Mut o = true) (fr : ∀ a o, H1 a = some o → ¬ S a → H' a = some o) :
    EnvOk K H0 π H' σ (killR δ js) ν ∧ (∀ a, S a → H0 a = none) ∧ ∀ a, S a → ∀ j s, (killR δ js)[j]? = some (some s) → a ∉ ν j := by
  have far : ∀ a, S a → H0 a = none := fun a ha => by
    rcases hS a ha with z | ⟨j, _, s, hs, hso, hm⟩
    · exact E.sm.free z
    · exact (E.nd j s hs hso).2 a hm
  have out : ∀ a, S a → ∀ j s, (killR δ js)[j]? = some (some s) → a ∉ ν j := fun a ha j s hs hm => by
    obtain ⟨hs, hn⟩ := killR_some hs
    rcases hS a ha with z | ⟨k, hk, t, ht, hto, hma⟩
    · exact E.trk hs a hm z
    · exact E.dj k j t s (fun e => hn (e ▸ hk)) ht hto hs a hma hm
  refine ⟨⟨by rw [killR_len]; exact E.len, fun b o h => fr b o (s1 _ _ (E.sm b o h)) fun hm => ?_, fun i s h => ?_, fun i s h o => ?_, fun i j s t n h o h' => ?_⟩, far, out⟩
  · rw [far b hm] at h
    cases h
  · obtain ⟨h1, _⟩ := killR_some h
    obtain ⟨v', a1, a2, a3⟩ := E.at_ i s h1
    refine ⟨v', a1, (a2.same s1).keep fun a o e z => fr a o e fun hm => ?_, a3⟩
    rcases z with z | z
    · exact out a hm i s h z
    · obtain ⟨xs, e', hmu⟩ := hl a hm
      rw [e] at e'
      cases e'
      exact absurd hmu (by rw [z]; decide)
  · exact E.nd i s (killR_some h).1 o
  · exact E.dj i j s t n (killR_some h).1 o (killR_some h').1
end
/-- f(a, …, y, z): f may hand back the lists of its last arguments -/
def dGive (fl : List Bool) (n : Nat) (w : W) (g : DA) (R : D → En → Prop) (δ : En) : Prop := g δ fun xs => (xs.length = n ∧ sepV fl xs = true) ∧ ∃ Qd : D → Prop, w (xs.map Val.d) Qd ∧ ∀ d, Qd d → killK δ (mvRoots fl xs) (R d)
def mCallV (fl : List Bool) (tg : Tgt) (n : Nat) (w : W) (g : DA) : DS := fun E δ => dGive fl n w g (fun d δ' => asgT tg d true δ' E.nx) δ
def mRetV (fl : List Bool) (n : Nat) (w : W) (g : DA) : DS := fun E δ => dGive fl n w g (fun d δ' => E.rt ⟨d, true, []⟩ δ') δ
theorem mem_muOf {fl : List Bool} {i : Nat} : i ∈ muOf fl → fl.getD i false = true := fun h => by
  unfold muOf at h
  exact (List.mem_filter.mp h).2
section
variable {X : Cx} {e : Expr} {es : List Expr} {g : DA} {pos : Pos}
/-- what the call needs, what stands behind it -/
theorem give_ok {H0 H H1 : Hp} {π : Nat → Option V} {σ : L2.St} {δ : En} {ν : Nu} {fl : List Bool} {n : Nat} {wf : W} {vs : List V} {xs : List Val} {Ms : List (List Addr)} {Q : VK} {R : D → En → Prop} (E : EnvOk X.K H0 π H σ δ ν) (s1 : Same H H1) (o1 : VsOk X.K H δ ν H1 vs xs Ms)
    (hn : xs.length = n) (sep : sepV fl xs = true) {Qd : D → Prop} (q1 : wf (xs.map Val.d) Qd) (q2 : ∀ d, Qd d → killK δ (mvRoots fl xs) (R d))
    (fin : ∀ d v H' M, R d (killR δ (mvRoots fl xs)) → EnvOk X.K H0 π H' σ (killR δ (mvRoots fl xs)) ν → Rp X.K H' v d M → M.Nodup → (∀ a ∈ M, H0 a = none) → (∀ a ∈ M, ∀ j s, (killR δ (mvRoots fl xs))[j]? = some (some s) → a ∉ ν j) → Q v H') : spOfV X.K n (muOf fl) wf vs H1 Q L2.E0 := by
  obtain ⟨p1, p2⟩ := o1.sep sep
  have lv := o1.length
  have lm := o1.lenM
  have gM : ∀ i M, Ms[i]? = some M → Ms.getD i [] = M := fun i M h => by rw [List.getD_eq_getElem?_getD, h]; rfl
  have inx : ∀ i a, a ∈ Ms.getD i [] → ∃ y M, xs[i]? = some y ∧ Ms[i]? = some M ∧ a ∈ M := fun i a h => by
    by_cases c : i < xs.length
    · refine ⟨xs[i], Ms[i], List.getElem?_eq_getElem c, List.getElem?_eq_getElem (by omega), ?_⟩
      rw [gM i _ (List.getElem?_eq_getElem (by omega))] at h
      exact h
    · rw [List.getD_eq_getElem?_getD, List.getElem?_eq_none (by omega)] at h
      simp at h
  refine ⟨by rw [lv]; exact hn, _, fun i => Ms.getD i [], by rw [List.length_map]; exact hn, ⟨fun j d h => ?_, fun j hj => ?_, fun j hj l d nl h a ha => ?_⟩, Qd, q1, fun d z v H' M fr r nd fm => ?_⟩
  · rw [List.getElem?_map] at h
    by_cases c : j < xs.length
    · rw [List.getElem?_eq_getElem c] at h
      simp at h
      obtain ⟨v, M, h1, h2, h3⟩ := o1.getv (List.getElem?_eq_getElem c)
      refine ⟨v, h1, ?_⟩
      try dsimp only
      rw [gM j M h2, ← h]
      exact h3.rp
    · rw [List.getElem?_eq_none (by omega)] at h
      simp at h
  · try dsimp only
    by_cases c : j < xs.length
    · rw [gM j _ (List.getElem?_eq_getElem (by omega))]
      exact (p1 j _ _ (mem_muOf hj) (List.getElem?_eq_getElem c) (List.getElem?_eq_getElem (by omega))).2.1
    · rw [List.getD_eq_getElem?_getD, List.getElem?_eq_none (by omega)]
      exact List.nodup_nil
  · try dsimp only at ha ⊢
    obtain ⟨y, M, h1, h2, h3⟩ := inx j a ha
    intro hm
    obtain ⟨y', M', h1', h2', h3'⟩ := inx l a hm
    exact p2 j l M M' (mem_muOf hj) nl h2 h2' a h3 h3'
  · have q3 := q2 d z
    rw [killK_eq] at q3
    obtain ⟨S, hS⟩ : ∃ S : Addr → Prop, S = fun a => ∃ j ∈ muOf fl, a ∈ Ms.getD j [] := ⟨_, rfl⟩
    have inS : ∀ a, S a → ∃ j y M v, xs[j]? = some y ∧ Ms[j]? = some M ∧ a ∈ M ∧ y.own = true ∧ (∀ k ∈ y.roots, k ∈ mvRoots fl xs) ∧ VOk X.K H δ ν H1 v y M := fun a ha => by
      rw [hS] at ha
      obtain ⟨j, hj, hm⟩ := ha
      obtain ⟨y, M, h1, h2, h3⟩ := inx j a hm
      obtain ⟨c1, c2, c3, v, c4⟩ := p1 j y M (mem_muOf hj) h1 h2
      exact ⟨j, y, M, v, h1, h2, h3, c1, c3, c4⟩
    obtain ⟨E2, far, out⟩ := E.lost (H' := H') (js := mvRoots fl xs) (S := S) s1 (fun a ha => by
      obtain ⟨j, y, M, v, _, _, h3, h4, h5, h6⟩ := inS a ha
      exact (h6.fr h4 a h3).imp id fun ⟨k, hk, z⟩ => ⟨k, h5 k hk, z⟩) (fun a ha => by
      obtain ⟨j, y, M, v, _, _, h3, h4, h5, h6⟩ := inS a ha
      exact h6.rp.lsts a h3) (fun a o h hn => fr a o h fun j hj hm => hn (by rw [hS]; exact ⟨j, hj, hm⟩))
    have fm' : ∀ a ∈ M, H1 a = none ∨ S a := fun a ha => (fm a ha).imp id fun z => by rw [hS]; exact z
    refine fin d v H' M q3 E2 r nd (fun a ha => ?_) fun a ha j s hs hm => ?_
    · rcases fm' a ha with z | z
      · exact (E.sm.trans s1).free z
      · exact far a z
    · rcases fm' a ha with z | z
      · exact (E.same s1).trk (killR_some hs).1 a hm z
      · exact out a z j s hs hm
theorem sv_callV {jr k n : Nat} {fl : List Bool} {wf : W} {x : Str} {p posC : Pos} {tgt : Expr} {tg : Tgt} (c : CalV X.prog X.w X.K X.mg X.base x k n fl wf) (hg : Gl X x) (hr : Room jr X.A) (ha : EA G X (e :: es) g) (ht : TgOk X tgt tg) (hk : k ≤ jr := by decide)
    (hs : swapsWithSole [tgt] (.Call (.Name x p) (e :: es) [] posC) pos.line X.env = pure false := by rfl) (hw : swappedStores [tgt] (.Call (.Name x p) (e :: es) [] posC) X.env = pure none := by rfl) (h1 : (assignEach [tgt] X.env).map (·.2) = [assign tgt X.env] := by rfl)
    (hdb : (x == ("__debug__" : Str)) = false := by decide) (he : starEach (e :: es) X.env = (false, eval e X.env) :: starEach es X.env := by rfl) (hpl : (backTo posC (starEach es X.env)).any (·.1) = false := by rfl) :
    SV G X (.Assign [tgt] (.Call (.Name x p) (e :: es) [] posC) pos) (mCallV fl tg n wf g) := by
  obtain ⟨f, fd, ps, F, hm, kp, hb⟩ := c.ex
  refine ⟨fun A B δ h1 h2 q => ha.mono _ _ _ (fun xs ⟨c, Qd, a, b⟩ => ⟨c, Qd, a, fun d z => by
    have := b d z
    rw [killK_eq] at this ⊢
    exact asgT_mono h1 this⟩) q, fun H0 π hG => psi (ps_asg (pe_call (p := p) (pos := posC) F (hr.mono hk) hg hm kp hb .nil L2.pass0 (ha.pa H0 π hG) hdb he hpl) ht.pg hs hw h1) fun D σ H ⟨δ, ν, E, q⟩ => ?_⟩
  refine ⟨δ, ν, E, ha.mono _ _ _ (fun xs q vs H1 Ms s1 o1 => ?_) q⟩
  obtain ⟨⟨hn, lo⟩, Qd, q1, q2⟩ := q
  show spOfV X.K n (muOf fl) wf (vs ++ []) H1 _ L2.E0
  rw [List.append_nil]
  exact give_ok E s1 o1 hn lo q1 q2 fun d v H' M q3 E2 r nd far out => asgT_ok E2 (o := true) (M := M) ⟨r, fun _ => nd, fun _ => far, fun _ => out, fun j s hs _ a ha hm => out a hm j s hs ha⟩ q3 fun σ' δ' ν' E' q => q _ _ _ E'
theorem sv_retV {jr k n : Nat} {fl : List Bool} {wf : W} {x : Str} {p posC : Pos} (c : CalV X.prog X.w X.K X.mg X.base x k n fl wf) (hg : Gl X x) (hr : Room jr X.A) (ha : EA G X (e :: es) g) (hk : k ≤ jr := by decide)
    (hdb : (x == ("__debug__" : Str)) = false := by decide) (he : starEach (e :: es) X.env = (false, eval e X.env) :: starEach es X.env := by rfl) (hpl : (backTo posC (starEach es X.env)).any (·.1) = false := by rfl) :
    SV G X (.Return (some (.Call (.Name x p) (e :: es) [] posC)) pos) (mRetV fl n wf g) := by
  obtain ⟨f, fd, ps, F, hm, kp, hb⟩ := c.ex
  refine ⟨fun A B δ h1 h2 q => ha.mono _ _ _ (fun xs ⟨c, Qd, a, b⟩ => ⟨c, Qd, a, fun d z => by
    have := b d z
    rw [killK_eq] at this ⊢
    exact h2 _ _ this⟩) q, fun H0 π hG => psi (ps_ret (pe_call (p := p) (pos := posC) F (hr.mono hk) hg hm kp hb .nil L2.pass0 (ha.pa H0 π hG) hdb he hpl)) fun D σ H ⟨δ, ν, E, q⟩ => ?_⟩
  refine ⟨δ, ν, E, ha.mono _ _ _ (fun xs q vs H1 Ms s1 o1 => ?_) q⟩
  obtain ⟨⟨hn, lo⟩, Qd, q1, q2⟩ := q
  show spOfV X.K n (muOf fl) wf (vs ++ []) H1 _ L2.E0
  rw [List.append_nil]
  refine give_ok E s1 o1 hn lo q1 q2 fun d v H' M q3 E2 r nd far out => ?_
  -- the heap without the value's lists
  have hs : Same (hole H' [0] fun _ => M) H' := hole_same _ _ _
  have keepH : ∀ a o, H' a = some o → a ∉ M → hole H' [0] (fun _ => M) a = some o := fun a o h hn => by
    unfold hole
    rw [if_neg (fun ⟨j, _, hm⟩ => hn hm)]
    exact h
  have E3 : EnvOk X.K H0 π (hole H' [0] fun _ => M) σ (killR δ (mvRoots fl xs)) ν := by
    refine ⟨E2.len, fun b o h => keepH b o (E2.sm b o h) fun hm => ?_, fun i s h => ?_, E2.nd, E2.dj⟩
    · rw [far b hm] at h
      cases h
    · obtain ⟨v', a1, a2, a3⟩ := E2.at_ i s h
      refine ⟨v', a1, a2.keep fun a o e z => keepH a o e fun hm => ?_, a3⟩
      rcases z with z | z
      · exact out a hm i s h z
      · obtain ⟨xs, e', hmu⟩ := r.lsts a hm
        rw [e] at e'
        cases e'
        exact absurd hmu (by rw [z]; decide)
  refine q3 v σ _ H' ν M E3 hs ⟨r, fun _ => nd, fun _ a ha => .inl ?_, fun j s h _ _ a ha hm => out a hm j s h ha⟩
  unfold hole
  rw [if_pos ⟨0, List.mem_cons_self, ha⟩]
end
end KT
/-! KtX: an own exception class whose __init__ says super().__init__('text'), then self.f = x. -/
namespace KT
open PySem PySem.Spec PyProof.Rows L2 NdefX
variable [WT]

/-- what the written part says of the class C and its __init__ fI (cell cc, code cda) -/
structure SupK (P : Program) (K : PySem.W.Frag) (mg : Str → Option Value) (F : NF) (C fI cc : Addr) : Prop where
  lk : ∃ oc od kV doc pm an ct osl, K.lookup fI = some ⟨oc, od, .func (PySem.W.fnX F.name F.qual F.params F.body F.scope F.cl .none kV doc pm an (.ref F.c) ct), osl⟩
  cl : F.cl = [(("__class__" : Str), cc)]
  cd : PySem.W.codeIn K (.ref F.c) F.qual = true
  code : ∃ ccl cdd vs ccs file tf, K.lookup F.c = some ⟨ccl, cdd, .fields vs, ccs⟩ ∧ vs[2]? = some (.str file tf) ∧ ((P.main.file : Str) == file) = true
  top : (P.main.scope.names.lookup ("super" : Str)).isSome = false
  cell : ∃ c1 c2 c3, K.lookup cc = some ⟨c1, c2, .cell (some (.ref C)), c3⟩
  sup : mg "super" = none
  thr : PySem.W.nsIn K cStatics "thirdparty.any" = some none
  init : PySem.W.ks_superIn K C C "__init__" = some (some (.builtin "ValueError.__init__"))
  self : PySem.W.mroIn K C (.ref C) = some true
  veC : PySem.W.subIn K (.ref C) (.type "ValueError") = some true
  oex : OexC K C

section
variable {CX : CXT} {P : Program} {w : World} {K : PySem.W.Frag} {mg : Str → Option Value} {base : Heap} {N : List Str} {F : NF} {f C cc : Addr} {A : Around} {outer : List Env} {s : Shared} {H : Hp} {E : XK}


/-- super().__init__('text') -/
theorem super_stmt {σ : L2.St} {H1 : Hp} {s1 : Shared} {a : Addr} {ar : Arg} {txt : Str} {j : Nat} {p0 p1 p2 p3 p4 p5 : Pos} {body : List Stmt} {pl : Sem Bool} {E' : Value → Shared → Prop} {Q : Flow → Shared → Prop}
    (B : SupK P K mg F C f cc) (I : Inv (ncx CX P w K mg base N F f A outer s H E) [] σ H1 s1)
    (hp : (F.params.posonlyargs ++ F.params.args).head? = some ar) (hN0 : N[0]? = some ar.arg) (hσ : σ[0]? = some (some (.ref a))) (hka : F.scope.names.lookup ar.arg = some .local)
    (hks : F.scope.names.lookup ("super" : Str) = some .globalImplicit) (hkc : F.scope.names.lookup ("__class__" : Str) = some .free) (hk : F.scope.kind = .function)
    (ea : H1 a = some (exo a C none)) (hQ : ∀ s', Inv (ncx CX P w K mg base N F f A outer s H E) [] σ H1 s' → Q .next s')
    (he : eval (.Call (.Attribute (.Call (.Name "super" p0) [] [] p1) "__init__" p2) [.Constant (.str txt) j p3] [] p4) (envF F f s.heap.objs.size) = (do
      let ov ← attributeBase (.Call (.Name "super" p0) [] [] p1) "__init__" (envF F f s.heap.objs.size) (eval (.Call (.Name "super" p0) [] [] p1) (envF F f s.heap.objs.size))
      standAt p2.atName
      let (g, first) ← holding [ov] (getMethod ov "__init__" pl)
      callWith p4 g first (backTo p4 (starEach [.Constant (.str txt) j p3] (envF F f s.heap.objs.size))) [])) :
    PySem.wpAt (model P w) (A.deeper (envF F f s.heap.objs.size)) (.func body (envF F f s.heap.objs.size))
      (exec (.Expr (.Call (.Attribute (.Call (.Name "super" p0) [] [] p1) "__init__" p2) [.Constant (.str txt) j p3] [] p4) p5) (envF F f s.heap.objs.size)) Q E' s1 := by
  obtain ⟨oc, od, kV, doc, pm, an, ct, osl, lk⟩ := B.lk
  obtain ⟨ccl, cdd, vs, ccs, file, tf, hcode, hvs, hfile⟩ := B.code
  obtain ⟨c1, c2, c3, hcell⟩ := B.cell
  obtain ⟨nm, q, Nn, bs, bm, sn, sub, ab, col, dd, k0, k1, k2', k3, k5, hC, hbm⟩ := B.oex.cls
  have hcl : PySem.W.clsIn K C = some { name := nm, bases := bs, mro := .ref C :: bm, ns := Nn, qualname := q, hasDict := true, slotNames := sn, subclasses := sub, abstract := ab, collection := col, hasDel := false } := by unfold PySem.W.clsIn; rw [hC] <;> rfl
  have KI : K.In s1.heap := I.kIn
  obtain ⟨t1, ho⟩ := exo_at I.hok ea
  obtain ⟨m, hn, hl⟩ := I.loc
  obtain ⟨u, ru, look⟩ := hl 0 ar.arg (.ref a) hN0 hσ (.inl hka)
  obtain rfl : u = Value.ref a := ru
  have hm : m ar.arg = some (.ref a) := by
    rcases look with ⟨_, z⟩ | ⟨z, _⟩
    · exact z
    · have z : F.scope.names.lookup ar.arg = some .cell ∨ F.scope.names.lookup ar.arg = some .free := z
      rw [hka] at z
      rcases z with z | z <;> cases z
  have hsub : PySem.W.ks_superIn K C C "__init__" = PySem.W.alongIn K "__init__" (((Value.ref C :: bm).dropWhile (· != .ref C)).drop 1) := by
    unfold PySem.W.ks_superIn
    rw [hcl]
    rfl
  have hf := B.init
  rw [hsub] at hf
  have hxC : a ≠ C := fun z => by
    have y := KI _ _ hC
    rw [← z, ho] at y
    cases y
  obtain ⟨mb, hb1, hb2⟩ := I.mod.blt
  refine ks_wpAt_Expr_any (hi := I.quiet) ?_
  refine ks_wpAt_MethodCall (he := he) ?_
  refine ks_wpAt_super_base (env := envF F f s.heap.objs.size) hks hkc (by decide) rfl (KI _ _ lk) rfl hp rfl (KI _ _ hcode) rfl hvs hfile B.top ?_
  refine PySem.W.ks_loadName_global hk hks (Calls.loadGlobal_builtin (env := envF F f s.heap.objs.size) (I.mod.glob.keeps I.bk) B.sup (hb1.keeps I.bk) ((hb2 _ (by decide)).trans (by rfl)) ⟨rfl, ?_⟩)
  have hcc : s1.heap.IsCell cc (some (.ref C)) := ⟨_, KI _ _ hcell, rfl⟩
  refine wpAny_loadName_free hk hkc (c := cc) (by show F.cl.lookup _ = _; rw [B.cl]; rfl) hcc ?_
  refine wpAny_loadName_local hk hka hn hm ?_
  refine ks_wpAny_isType_cls (KI _ _ hC) rfl ⟨rfl, ?_⟩
  obtain ⟨hh, g, d, tk, os⟩ := s1
  refine ks_wpAny_call_super (KI _ _ hC) rfl ho rfl (fun c e => by cases e) (PySem.W.looks_mroIn KI B.self) (fun h1 e1 kk => ?_)
  have K1 : K.In h1 := fun b o e => kk b o (KI b o e)
  have ho1 := kk _ _ ho
  have I1 : Inv (ncx CX P w K mg base N F f A outer s H E) [] σ H1 ⟨h1, g, d, tk, os⟩ := I.kept (t' := tk) kk
  have hI1 : PySem.W.Looks (model P w) h1 (isInstance (.ref a) (.type "ValueError")) true := (show PySem.W.InstAt h1 a _ C none from ⟨ho1, rfl, rfl, trivial⟩).type.andThen (PySem.W.looks_subIn K1 B.veC)
  refine PySem.W.kxs_getMethod PySem.W.kxs_ValueError e1 (PySem.W.looks_opaque K1 B.thr) (l₀ := .ref C :: bm) (fun A Q E s k q => wpAny_bind ((PySem.W.looks_clsIn K1 hcl) A _ E s k (wpAny_pure q))) rfl K1 hf hI1 hxC (by decide) ?_
  have hu : (h1.push (PySem.W.kxs_mw "ValueError.__init__" a)).get? h1.objs.size = some (PySem.W.kxs_mw "ValueError.__init__" a) := Heap.get?_push_at rfl rfl
  have k2 : ∀ b o, h1.get? b = some o → (h1.push (PySem.W.kxs_mw "ValueError.__init__" a)).get? b = some o := fun b o e => Heap.get?_push_of_some _ e
  refine PySem.W.kxs_callWith (i := "ValueError.__init__") (x := a) (by rfl) (Calls.evalArgs_plain (Calls.spliced_cons (Calls.Constant_str (k := j) (pos := p3) (Calls.spliced_nil ⟨hu, ?_⟩))))
  have I2 : Inv (ncx CX P w K mg base N F f A outer s H E) [] σ H1 ⟨h1.push (PySem.W.kxs_mw "ValueError.__init__" a), g, d, tk + 1 + 1, os⟩ := I1.kept (t' := tk + 1 + 1) k2
  have ho2 := k2 _ _ ho1
  have hC2 : (h1.push (PySem.W.kxs_mw "ValueError.__init__" a)).get? C = some (excClassObj nm q C Nn bs bm true sn sub ab col dd k0 k1 k2' k3 k5 "ValueError.__new__") := k2 _ _ (K1 _ _ hC)
  refine wpAny_call (codeAny_of_tree ?_)
  show wpAny _ _ (callAny (.ref h1.objs.size) ⟨_, []⟩) _ _ _
  simp only [callAny]
  refine wpAny_bind (wpAny_load hu ?_)
  simp only [PySem.W.kxs_mw, show (Value.type "method-wrapper" == Value.type "method" || Value.type "method-wrapper" == Value.type "builtin_function_or_method" || Value.type "method-wrapper" == Value.type "method-wrapper") = true by decide, if_true]
  refine PySem.W.KFB.if_so (by decide) ?_
  refine wpAny_bind (PySem.W.check_bound_init PySem.F.excBase_ValueError.toExcCallFacts hC2 ho2 rfl ?_)
  refine wpAny_bind (wpAny_pure (wpAny_pure ?_))
  refine ⟨plainId_quiet PySem.F.excBase_ValueError.init.plain _, codeAny_builtin PySem.F.excBase_ValueError.initEntry ?_⟩
  refine PySem.W.exc_init_tree (cls := .ref C) (t0 := t1) (dv := none) (c2 := .none) (c3 := .none) (b4 := .bool false) ho2 (by rw [sizeLine_eq]; show 1 ≤ _; decide) fun h' k3 hx _ => ?_
  have J := I2.write (t' := tk + 1 + 1) (x := a) (e := a) (o := exo a C none) (by rw [ea]; exact True.intro) (.inl rfl) k3 ⟨_, hx⟩ (exo_ok hx)
  have eu : upd H1 a (exo a C none) = H1 := by
    funext b
    by_cases hb : b = a
    · rw [hb, upd_same, ea]
    · rw [upd_ne hb]
  rw [eu] at J
  exact hQ _ J

/-- the def of __init__: super().__init__('text'), then its further statements -/
theorem fn_super {k : Nat} {fd : FuncData} {ps : List Str} {ar : Arg} {txt : Str} {j : Nat} {p0 p1 p2 p3 p4 p5 : Pos} {rest : List Stmt} {t : TS} {pl : Sem Bool}
    (B : SupK P K mg F C f cc) (S : NScope N ps ["__class__"] F.scope) (hbody : F.body = .Expr (.Call (.Attribute (.Call (.Name "super" p0) [] [] p1) "__init__" p2) [.Constant (.str txt) j p3] [] p4) p5 :: rest)
    (hfd : ∃ oc od kV doc pm an ct osl, fd = PySem.W.fnX F.name F.qual F.params F.body F.scope F.cl .none kV doc pm an (.ref F.c) ct ∧ K.lookup f = some ⟨oc, od, .func fd, osl⟩)
    (hp : (F.params.posonlyargs ++ F.params.args).head? = some ar) (hps : ps.head? = some ar.arg)
    (hks : F.scope.names.lookup ("super" : Str) = some .globalImplicit)
    (he : ∀ env : Env, eval (.Call (.Attribute (.Call (.Name "super" p0) [] [] p1) "__init__" p2) [.Constant (.str txt) j p3] [] p4) env = (do
      let ov ← attributeBase (.Call (.Name "super" p0) [] [] p1) "__init__" env (eval (.Call (.Name "super" p0) [] [] p1) env)
      standAt p2.atName
      let (g, first) ← holding [ov] (getMethod ov "__init__" pl)
      callWith p4 g first (backTo p4 (starEach [.Constant (.str txt) j p3] env)) []))
    (hrest : ∀ (A : Around) (outer : List Env) (s : Shared) (H : Hp) (E : XK), PSs (ncx CX P w K mg base N F f A outer s H E) rest t) :
    FnOk P w K mg base CX (k + 1) f fd ps (fun vs H Q E => vs.length = ps.length ∧ ∃ a ys, vs = .ref a :: ys ∧ H a = some (exo a C none) ∧ t { nx := fun _ H' => Q .non H', rt := Q } (startF N vs [none]) H) := by
  refine ⟨fun vs H Q E h => h.1, fun A outer s H args us vs Q E hr e0 hb r hsp => ?_⟩
  obtain ⟨hl, a, ys, rfl, ea, hq⟩ := hsp
  obtain ⟨oc, od, kV, doc, pm, an, ct, osl, rfl, lk⟩ := hfd
  obtain ⟨c1, c2, c3, hcell⟩ := B.cell
  have KI : K.In s.heap := e0.mod.kin.keeps fun b o e => (e0.bs b o e).1
  have lim : s.heap.NoLimit := e0.mod.nolimit.keeps fun b o e => (e0.bs b o e).1
  have hka : F.scope.names.lookup ar.arg = some .local := S.par _ (List.mem_of_mem_head? hps)
  have hkc : F.scope.names.lookup ("__class__" : Str) = some .free := S.frk _ (List.mem_singleton.mpr rfl)
  have hN0 : N[0]? = some ar.arg := by
    have q := S.pre
    cases ps with
    | nil => cases hps
    | cons x xs =>
      cases hps
      cases N with
      | nil => simp at q
      | cons y ys =>
        simp at q
        rw [q.1]
        rfl
  refine ks_codeAny_call_defAt (body := F.body) (binds := ps.zip us) hr.depth (KI _ _ lk) rfl lim (PySem.W.codeRec_of KI B.cd) rfl hb S.nocell (fun x hx => S.par _ (List.of_mem_zip hx).1) (fun h1 hns kp => ?_) S.co S.gen S.kind
  have C0 : CellsAt F.cl ["__class__"] [none] s.heap H := by
    refine ⟨rfl, fun y c e => ?_, fun x y c e1 e2 => ?_, fun i y e => ?_⟩
    · rw [B.cl] at e
      have : c = cc := by
        simp only [List.lookup] at e
        split at e <;> cases e
        rfl
      subst this
      have hin := e0.mod.kin _ _ hcell
      exact ⟨(e0.bs _ _ hin).2, _, _, KI _ _ hcell, rfl⟩
    · rw [B.cl] at e1 e2
      have g : ∀ z : Str, List.lookup z [(("__class__" : Str), cc)] = some c → z = "__class__" := fun z e => by
        simp only [List.lookup] at e
        split at e
        · rename_i h; exact eq_of_beq h
        · cases e
      rw [g x e1, g y e2]
    · cases i with
      | zero =>
        cases e
        refine ⟨cc, by rw [B.cl]; rfl, fun v z => ?_⟩
        cases z
      | succ i => cases e
  have I : Inv (ncx CX P w K mg base N F f A outer s H E) [] (startF N (.ref a :: ys) [none]) H { s with heap := h1, toks := s.toks + (ps.zip us).length } := inv_startN S hr.hd e0 hl r C0 hns kp
  have fin : ∀ {σ' : L2.St} {H' : Hp} {v : V} {u : Value} {s' : Shared}, Inv (ncx CX P w K mg base N F f A outer s H E) [] σ' H' s' → L2.RelV v u → Q v H' → CE outer P w H s Q u s' :=
    fun {σ' H' v u s'} J rv q => ⟨v, H', J.os, J.bare, J.base, J.hok, rv, q⟩
  show PySem.wpAt (model P w) (A.deeper (envF F f s.heap.objs.size)) (.func F.body (envF F f s.heap.objs.size)) (execs F.body (envF F f s.heap.objs.size)) _ _ _
  rw [hbody]
  refine ks_wpAt_execs_cons ?_
  refine super_stmt B I hp hN0 rfl hka hks hkc S.kind ea (fun s2 J => ?_) (he _)
  refine wpAt_of_wpAny (wpAny_mono ((hrest A outer s H E).run [] _ _ _ _ J hq) (fun fl s' hs => ?_) fun e s' hs => hs)
  cases fl with
  | ret u =>
    obtain ⟨v, σ', H', J, rv, q⟩ := hs
    exact fin J rv q
  | next =>
    obtain ⟨σ', H', J, q⟩ := hs
    exact fin (v := V.non) (u := Value.none) J rfl q
  | brk =>
    obtain ⟨_, _, _, q⟩ := hs
    exact False.elim q
  | cont =>
    obtain ⟨_, _, _, q⟩ := hs
    exact False.elim q
end
end KT
/-! KtY: exceptions of own classes over plain data: calls that may raise, raise, try. -/
namespace KT
open PySem PySem.Spec PyProof.Rows L2
variable [WT]

/-- an exception: its class by name, its fields -/
structure Ex where
  c : Str
  fs : List (Str × D)

/-- the fields of an exception's dict -/
def XFld (K : PySem.W.Frag) (H' : Hp) (ex : Ex) (d : Option Addr) (M : List Addr) : Prop :=
  ∃ dx fsV, d = some dx ∧ H' dx = some (.xd fsV) ∧ fsV.map (·.1) = ex.fs.map (·.1) ∧ Rps K H' (fsV.map (·.2)) (ex.fs.map (·.2)) M ∧ M.Nodup
/-- an exception behind a call from the heap H -/
def XRet (K : PySem.W.Frag) (mg : Str → Option Value) (H : Hp) (ex : Ex) (cls : Value) (d : Option Addr) (H' : Hp) : Prop :=
  (∃ C, cls = .ref C ∧ mg ex.c = some (.ref C)) ∧ Same H H' ∧ ∃ M, XFld K H' ex d M ∧ ∀ a ∈ M, H a = none
/-- an exception within a body -/
def wX (K : PySem.W.Frag) (mg : Str → Option Value) (H0 : Hp) (π : Nat → Option V) (XC : Ex → En → Prop) : WX := fun cls d σ H' =>
  ∃ ex δ ν, EnvOk K H0 π H' σ δ ν ∧ (∃ C, cls = .ref C ∧ mg ex.c = some (.ref C)) ∧ (∃ M, XFld K H' ex d M ∧ (∀ a ∈ M, H0 a = none) ∧ ∀ a ∈ M, ∀ j s, δ[j]? = some (some s) → a ∉ ν j) ∧ XC ex δ
theorem XRet.wX {K : PySem.W.Frag} {mg : Str → Option Value} {H0 H H' : Hp} {π : Nat → Option V} {XC : Ex → En → Prop} {ex : Ex} {cls : Value} {d : Option Addr} {σ : L2.St} {δ : En} {ν : Nu} (h : XRet K mg H ex cls d H') (E : EnvOk K H0 π H σ δ ν) (q : XC ex δ) : wX K mg H0 π XC cls d σ H' := by
  obtain ⟨hc, sm, M, hf, hM⟩ := h
  exact ⟨ex, δ, ν, E.same sm, hc, ⟨M, hf, fun a ha => E.sm.free (hM a ha), fun a ha j s hj hm => E.trk hj a hm (hM a ha)⟩, q⟩
theorem wX_ret {K : PySem.W.Frag} {mg : Str → Option Value} {Hf H0 H' : Hp} {π : Nat → Option V} {Xd : Ex → Prop} {cls : Value} {d : Option Addr} {σ : L2.St} (s : Same Hf H0) (h : wX K mg H0 π (fun ex _ => Xd ex) cls d σ H') : ∃ ex, Xd ex ∧ XRet K mg Hf ex cls d H' := by
  obtain ⟨ex, δ, ν, E, hc, ⟨M, hf, h1, _⟩, q⟩ := h
  exact ⟨ex, q, hc, s.trans E.sm, M, hf, fun a ha => s.free (h1 a ha)⟩

/-! ### a def that may raise -/
abbrev WXf := List D → (D → Prop) → (Ex → Prop) → Prop
def spOfX (K : PySem.W.Frag) (mg : Str → Option Value) (n : Nat) (w : WXf) : Sp := fun vs H Q E => vs.length = n ∧ ∃ ds N, Rps K H vs ds N ∧ ∃ Qd Xd, w ds Qd Xd ∧
  (∀ d, Qd d → ∀ v H' M, Same H H' → Rp K H' v d M → M.Nodup → (∀ a ∈ M, H a = none) → Q v H') ∧ ∀ ex, Xd ex → ∀ cls d H', XRet K mg H ex cls d H' → E cls d H'
structure CalX (P : Program) (w : World) (K : PySem.W.Frag) (mg : Str → Option Value) (base : Heap) (x : Str) (k n : Nat) (wf : WXf) : Prop where
  ex : ∃ (f : Addr) (fd : FuncData) (ps : List Str), FnOk P w K mg base (L2.CX P w) k f fd ps (spOfX K mg n wf) ∧ mg x = some (.ref f) ∧ PySem.W.keepIn K (.ref f) = true ∧ Binds K fd ps []
/-- what such a call makes of its arguments -/
def dCallX (n : Nat) (w : WXf) (XC : Ex → En → Prop) (g : DA) : DE := fun δ P => g δ fun xs => (xs.map Val.d).length = n ∧ ∃ Qd Xd, w (xs.map Val.d) Qd Xd ∧ (∀ d, Qd d → P ⟨d, true, []⟩) ∧ ∀ ex, Xd ex → XC ex δ
/-- what is let out of a body is taken -/
def TkX (G : GT) (X : Cx) (XC : Ex → En → Prop) : Prop := ∀ H0 π, G H0 π → L2.Takes X (wX X.K X.mg H0 π XC)
section
variable {X : Cx} {a b e c : Expr} {es : List Expr} {fa fb f : DE} {g : DA} {t : DT} {pos : Pos} {st : Stmt} {sts : List Stmt} {m n : DS} {XC : Ex → En → Prop}
theorem ev_callX {j k n : Nat} {wf : WXf} {x : Str} {p : Pos} (tk : TkX G X XC) (c : CalX X.prog X.w X.K X.mg X.base x k n wf) (hg : Gl X x) (hr : Room j X.A) (ha : EA G X (e :: es) g) (hk : k ≤ j := by decide)
    (hdb : (x == ("__debug__" : Str)) = false := by decide) (he : starEach (e :: es) X.env = (false, eval e X.env) :: starEach es X.env := by rfl) (hpl : (backTo pos (starEach es X.env)).any (·.1) = false := by rfl) :
    EV G X (.Call (.Name x p) (e :: es) [] pos) (dCallX n wf XC g) := by
  obtain ⟨f, fd, ps, F, hm, kp, hb⟩ := c.ex
  refine ⟨fun δ P P' h q => ha.mono _ _ _ (fun xs ⟨q1, Qd, Xd, q2, q3, q4⟩ => ⟨q1, Qd, Xd, q2, fun d z => h _ (q3 d z), q4⟩) q, fun H0 π hG => ?_⟩
  refine pei (pe_callS (E := WE (wX X.K X.mg H0 π XC)) F (hr.mono hk) hg hm kp hb (passAt (tk H0 π hG)) (ha.pa H0 π hG) hdb he hpl) fun σ H Q ⟨δ, ν, E, q⟩ => ?_
  refine ⟨δ, ν, E, ha.mono _ _ _ (fun xs ⟨q1, Qd, Xd, q2, q3, q4⟩ vs H1 Ms s1 o1 => ?_) q⟩
  have r := o1.rps
  refine ⟨by rw [r.length]; exact q1, _, _, r, Qd, Xd, q2, fun d z v H' M s r' n' f' => ?_, fun ex z cls dd H' h => h.wX (E.same s1) (q4 ex z)⟩
  exact q3 d z v H' M (s1.trans s) (FR.vok s1 r' n' f' E)
/-- the same call where it is known not to raise -/
theorem ev_callN {j k n : Nat} {wf : WXf} {x : Str} {p : Pos} (c : CalX X.prog X.w X.K X.mg X.base x k n wf) (hg : Gl X x) (hr : Room j X.A) (ha : EA G X (e :: es) g) (hk : k ≤ j := by decide)
    (hdb : (x == ("__debug__" : Str)) = false := by decide) (he : starEach (e :: es) X.env = (false, eval e X.env) :: starEach es X.env := by rfl) (hpl : (backTo pos (starEach es X.env)).any (·.1) = false := by rfl) :
    EV G X (.Call (.Name x p) (e :: es) [] pos) (dCallX n wf (fun _ _ => False) g) := by
  obtain ⟨f, fd, ps, F, hm, kp, hb⟩ := c.ex
  refine ⟨fun δ P P' h q => ha.mono _ _ _ (fun xs ⟨q1, Qd, Xd, q2, q3, q4⟩ => ⟨q1, Qd, Xd, q2, fun d z => h _ (q3 d z), q4⟩) q, fun H0 π hG => ?_⟩
  refine pei (pe_callS (E := fun _ => L2.E0) F (hr.mono hk) hg hm kp hb (fun σ pins H s e s' I h => L2.passL pins σ H s e s' I h) (ha.pa H0 π hG) hdb he hpl) fun σ H Q ⟨δ, ν, E, q⟩ => ?_
  refine ⟨δ, ν, E, ha.mono _ _ _ (fun xs ⟨q1, Qd, Xd, q2, q3, q4⟩ vs H1 Ms s1 o1 => ?_) q⟩
  have r := o1.rps
  refine ⟨by rw [r.length]; exact q1, _, _, r, Qd, Xd, q2, fun d z v H' M s r' n' f' => ?_, fun ex z cls dd H' h => (q4 ex z).elim⟩
  exact q3 d z v H' M (s1.trans s) (FR.vok s1 r' n' f' E)
end

def runFX (n : Nat) (m : (Ex → En → Prop) → DS) : WXf := fun ds Q Xd => initK n ds fun δ => m (fun ex _ => Xd ex) ⟨fun _ => Q .none, fun x _ => x.own = true ∧ Q x.d⟩ δ
section
variable {P : Program} {w : World} {K : PySem.W.Frag} {mg : Str → Option Value} {base : Heap}
theorem ok_defX {x qual : Str} {st : Stmt} {f : Addr} {fd : FuncData} {N ps : List Str} {k : Nat} {m : (Ex → En → Prop) → DS} (F : L2.Fun K x qual st f fd) (S : FnScope N ps (defScope st))
    (hbody : ∀ (cdv : Value) (A : Around) (outer : List Env) (s : Shared) (H : Hp) (E : XK) (XC : Ex → En → Prop), Room k (A.deeper (envOfC qual (defScope st) s.heap.objs.size f cdv)) →
      TkX (GSame H) (cxOf (L2.CX P w) P w K mg base N qual (defScope st) f cdv A outer s H E) XC →
      PassesOwn (model P w) (A.deeper (envOfC qual (defScope st) s.heap.objs.size f cdv)) (envOfC qual (defScope st) s.heap.objs.size f cdv) (cxOf (L2.CX P w) P w K mg base N qual (defScope st) f cdv A outer s H E).xe →
      SVs (GSame H) (cxOf (L2.CX P w) P w K mg base N qual (defScope st) f cdv A outer s H E) (defBody st) (m XC)) (hpn : ps.length ≤ N.length := by decide) :
    FnOk P w K mg base (L2.CX P w) (k + 1) f fd ps (spOfX K mg ps.length (runFX N.length m)) := by
  refine F.okX S (fun vs H Q E h => h.1) fun cdv A outer s H vs Q E hr h => ?_
  obtain ⟨hl, ds, M, r, Qd, Xd, q, hQ, hX⟩ := h
  have tk : TkX (GSame H) (cxOf (L2.CX P w) P w K mg base N qual (defScope st) f cdv A outer s H E) (fun ex _ => Xd ex) := fun H0 π hG =>
    (takes_of (X := cxOf (L2.CX P w) P w K mg base N qual (defScope st) f cdv A outer s H E) rfl rfl rfl rfl).imp fun cls d σ H' h => by
      obtain ⟨ex, z, hx⟩ := wX_ret hG h
      exact hX ex z cls d H' hx
  have B := hbody cdv A outer s H E (fun ex _ => Xd ex) hr tk (passes_of (X := cxOf (L2.CX P w) P w K mg base N qual (defScope st) f cdv A outer s H E) rfl)
  obtain ⟨ν, e⟩ := init_ok (N := N) r (by rw [hl]; exact hpn)
  have q : m (fun ex _ => Xd ex) ⟨fun _ => Qd .none, fun x _ => x.own = true ∧ Qd x.d⟩ (initE N.length ds) := by
    have q' := q
    unfold runFX at q'
    rw [initK_eq] at q'
    exact q'
  refine ⟨_, B.pss H (fun i => vs[i]?) (Same.refl H), initE N.length ds, ν, e, ?_⟩
  refine B.mono _ _ _ (fun δ q σ' H' ν' E' => ?_) (fun y δ q v σ' H1 H' ν' M' E' s1 o => ?_) q
  · exact hQ _ q .non H' [] E'.sm .non List.nodup_nil fun _ z => (nomatch z)
  · obtain ⟨ho, q⟩ := q
    refine hQ _ q v H' M' (E'.sm.trans s1) o.rp (o.nd ho) fun a ha => ?_
    rcases o.fr ho a ha with z | ⟨j, _, t, ht, hto, hm⟩
    · exact E'.sm.free z
    · exact (E'.nd j t ht hto).2 a hm
theorem cal_defX {x : Str} {st : Stmt} {f : Addr} {fd : FuncData} {N ps : List Str} {k : Nat} {m : (Ex → En → Prop) → DS} (F : L2.Fun K x x st f fd) (S : FnScope N ps (defScope st)) (hm : mg x = some (.ref f)) (hb : Binds K fd ps [])
    (hbody : ∀ (cdv : Value) (A : Around) (outer : List Env) (s : Shared) (H : Hp) (E : XK) (XC : Ex → En → Prop), Room k (A.deeper (envOfC x (defScope st) s.heap.objs.size f cdv)) →
      TkX (GSame H) (cxOf (L2.CX P w) P w K mg base N x (defScope st) f cdv A outer s H E) XC →
      PassesOwn (model P w) (A.deeper (envOfC x (defScope st) s.heap.objs.size f cdv)) (envOfC x (defScope st) s.heap.objs.size f cdv) (cxOf (L2.CX P w) P w K mg base N x (defScope st) f cdv A outer s H E).xe →
      SVs (GSame H) (cxOf (L2.CX P w) P w K mg base N x (defScope st) f cdv A outer s H E) (defBody st) (m XC)) (hpn : ps.length ≤ N.length := by decide) :
    CalX P w K mg base x (k + 1) ps.length (runFX N.length m) := ⟨f, fd, ps, ok_defX F S hbody hpn, hm, F.kp, hb⟩
end
end KT
/-! KtZ: raise C(e), try: .. except C: .. -/
namespace KT
open PySem PySem.Spec PyProof.Rows L2
variable [WT]

def spMk (C : Addr) (fld : Str) : Sp := fun vs H Q _ => vs.length = 2 ∧ ∃ a y, vs = [.ref a, y] ∧ H a = some (exo a C none) ∧ ∀ dx, H dx = none → dx ≠ a → Q .non (upd (upd H dx (exd dx [(fld, y)])) a (exo a C (some dx)))
/-- an own exception class of the text, its __init__ keeps one field -/
structure ExK (P : Program) (w : World) (K : PySem.W.Frag) (mg : Str → Option Value) (base : Heap) (x fld : Str) : Prop where
  ex : ∃ (C fI : Addr) (fd : FuncData) (ps : List Str), OexC K C ∧ PySem.W.findIn K (.ref C) "__init__" = some (some (.ref fI)) ∧ PySem.W.typeIn K (.ref fI) = some (.type "function") ∧
    FnOk P w K mg base CX0 1 fI fd ps (spMk C fld) ∧ Binds K fd ps [] ∧ mg x = some (.ref C) ∧ PySem.W.exmOne K (.ref C) (.ref C) = some true
/-- raise C(e) -/
def mRaise (c fld : Str) (XC : Ex → En → Prop) (f : DE) : DS := fun _ δ => f δ fun x => x.own = true ∧ killK δ x.roots fun δ' => XC ⟨c, [(fld, x.d)]⟩ δ'
section
variable {X : Cx} {a b e c : Expr} {es : List Expr} {fa fb f : DE} {g : DA} {t : DT} {pos : Pos} {st : Stmt} {sts : List Stmt} {m n : DS} {XC : Ex → En → Prop}
theorem sv_raise {j : Nat} {x fld : Str} {p pos2 : Pos} (tk : TkX G X XC) (hc : X.calm = true) (C : ExK X.prog X.w X.K X.mg X.base x fld) (hg : Gl X x) (hr : Room j X.A) (he : EV G X e f) (hk : 2 ≤ j := by decide) (hdb : (x == ("__debug__" : Str)) = false := by decide)
    (hs : starEach [e] X.env = (false, eval e X.env) :: starEach [] X.env := by rfl) (hpl : (backTo pos (starEach [] X.env)).any (·.1) = false := by rfl) :
    SV G X (.Raise (some (.Call (.Name x p) [e] [] pos)) none pos2) (mRaise x fld XC f) := by
  obtain ⟨Ca, fI, fd, ps, T, iC, tI, F1, hb, hm, _⟩ := C.ex
  refine ⟨fun A B δ h1 h2 q => he.mono _ _ _ (fun x q => q) q, fun H0 π hG => ?_⟩
  have P := pmk_oex (x := x) (p := p) (pos := pos) (dvs := []) T iC tI F1 (hr.mono hk) hb .nil C8.pass0 hg hm ((ea_cons he ea_nil hs).pa H0 π hG) hdb hs hpl
  refine psi (ps_raise hc (tk H0 π hG) P) fun D σ H ⟨δ, ν, E, q⟩ => ?_
  refine ⟨δ, ν, E, he.mono _ _ _ (fun y q vs H2 Ms s12 o => ?_) q⟩
  cases o
  rename_i v M vs Ms o1 o2 hd
  cases o2
  refine ⟨by show 1 ≤ 1000; decide, fun ae hae => ⟨rfl, ae, v, rfl, upd_same, fun dx hdx hne => ?_⟩⟩
  obtain ⟨ho, q⟩ := q
  rw [killK_eq] at q
  have hdx2 : H2 dx = none := by rw [upd_ne hne] at hdx; exact hdx
  refine ⟨rfl, dx, _, upd_same, by rw [upd_ne hne, upd_same], hdx2, ?_⟩
  have eH : upd (del (upd (upd (upd H2 ae (exo ae Ca none)) dx (exd dx [(fld, v)])) ae (exo ae Ca (some dx))) ae) dx (.xd [(fld, v)]) = upd H2 dx (.xd [(fld, v)]) := by
    funext b
    by_cases hb : b = dx
    · rw [hb, upd_same, upd_same]
    · rw [upd_ne hb, upd_ne hb]
      by_cases ha : b = ae
      · rw [ha, del_same, hae]
      · rw [del_ne ha, upd_ne ha, upd_ne hb, upd_ne ha]
  rw [eH]
  have s3 : Same H2 (upd H2 dx (.xd [(fld, v)])) := Same.upd_new hdx2
  have fo := o1.killed E
  refine ⟨⟨x, [(fld, y.d)]⟩, killR δ y.roots, ν, ((E.same s12).kill y.roots).same s3, ⟨Ca, rfl, hm⟩, ⟨M, ⟨dx, _, rfl, upd_same, rfl, ?_, fo.nd ho⟩, fo.fr ho, fo.dj ho⟩, q⟩
  have r := Rps.one (o1.rp.same s3)
  exact r
end

/-- the __init__ of a class statement -/
def clsInit : Stmt → Stmt
  | .ClassDef (body := b) .. => b.getD 0 (.Pass ⟨0, 0, 0, 0⟩)
  | _ => .Pass ⟨0, 0, 0, 0⟩
/-- what a class of the text gives, from its facts -/
theorem exK_of {P : Program} {w : World} {K : PySem.W.Frag} {mg : Str → Option Value} {base : Heap} {x qual fld self par : Str} {C fI cc cda : Addr} {st : Stmt} {txt : Str} {j : Nat} {p0 p1 p2 p3 p4 p5 q1 q2 q3 q4 : Pos} {pl : Sem Bool}
    {oc kV doc pm ct ccl c1 : Value} {od an cdd c2 : Option Addr} {osl ccs c3 : Array (Option Value)} {vs : Array Value} {file : Str} {tf : Tok}
    (hbody : defBody st = [.Expr (.Call (.Attribute (.Call (.Name "super" p0) [] [] p1) "__init__" p2) [.Constant (.str txt) j p3] [] p4) p5, .Assign [.Attribute (.Name self q1) fld q2] (.Name par q3) q4])
    (he : ∀ env : Env, eval (.Call (.Attribute (.Call (.Name "super" p0) [] [] p1) "__init__" p2) [.Constant (.str txt) j p3] [] p4) env = (do
      let ov ← attributeBase (.Call (.Name "super" p0) [] [] p1) "__init__" env (eval (.Call (.Name "super" p0) [] [] p1) env)
      standAt p2.atName
      let (g, first) ← holding [ov] (getMethod ov "__init__" pl)
      callWith p4 g first (backTo p4 (starEach [.Constant (.str txt) j p3] env)) []))
    (S : NdefX.NScope [self, par, "__class__"] [self, par] ["__class__"] (defScope st)) (hks : (defScope st).names.lookup ("super" : Str) = some .globalImplicit)
    (hp : ((defArgs st).posonlyargs ++ (defArgs st).args).head?.map (·.arg) = some self)
    (hd1 : (self == ("__debug__" : Str)) = false) (hd2 : (self == ("__classdict__" : Str)) = false) (hd3 : (par == ("__debug__" : Str)) = false) (hd4 : (par == ("__classdict__" : Str)) = false)
    (hsw : ∀ env : Env, swapsWith (.Name par q3) (some (.Attribute (.Name self q1) fld q2)) q4.line env = pure false)
    (hbind : ∀ (kV doc pm : Value) (an : Option Addr) (ct : Value) (us : List Value), us.length = 2 → bindArgs (PySem.W.fnX "__init__" qual (defArgs st) (defBody st) (defScope st) [("__class__", cc)] .none kV doc pm an (.ref cda) ct) ⟨us, []⟩ = pure (([self, par] : List Str).zip us))
    (hm : mg x = some (.ref C)) (T : OexC K C) (hi : PySem.W.findIn K (.ref C) "__init__" = some (some (.ref fI))) (hti : PySem.W.typeIn K (.ref fI) = some (.type "function"))
    (hlf : K.lookup fI = some ⟨oc, od, .func (PySem.W.fnX "__init__" qual (defArgs st) (defBody st) (defScope st) [("__class__", cc)] .none kV doc pm an (.ref cda) ct), osl⟩)
    (hcd : PySem.W.codeIn K (.ref cda) qual = true) (hco : K.lookup cda = some ⟨ccl, cdd, .fields vs, ccs⟩) (hvs : vs[2]? = some (.str file tf)) (hfi : ((P.main.file : Str) == file) = true)
    (htop : (P.main.scope.names.lookup ("super" : Str)).isSome = false) (hce : K.lookup cc = some ⟨c1, c2, .cell (some (.ref C)), c3⟩) (hsu : mg "super" = none) (hth : PySem.W.nsIn K cStatics "thirdparty.any" = some none)
    (hin : PySem.W.ks_superIn K C C "__init__" = some (some (.builtin "ValueError.__init__"))) (hse : PySem.W.mroIn K C (.ref C) = some true) (hve : PySem.W.subIn K (.ref C) (.type "ValueError") = some true)
    (hno : PySem.W.findIn K (.ref C) fld = some none) (hex : PySem.W.exmOne K (.ref C) (.ref C) = some true) : ExK P w K mg base x fld := by
  obtain ⟨ar, har, has⟩ : ∃ ar, ((defArgs st).posonlyargs ++ (defArgs st).args).head? = some ar ∧ ar.arg = self := by
    cases e : ((defArgs st).posonlyargs ++ (defArgs st).args).head? with
    | none => rw [e] at hp; cases hp
    | some ar => rw [e] at hp; exact ⟨ar, rfl, Option.some.inj hp⟩
  subst has
  let F : NdefX.NF := ⟨"__init__", qual, defArgs st, defBody st, defScope st, [("__class__", cc)], cda⟩
  have B : SupK P K mg F C fI cc := ⟨⟨_, _, _, _, _, _, _, _, hlf⟩, rfl, hcd, ⟨_, _, _, _, _, _, hco, hvs, hfi⟩, htop, ⟨_, _, _, hce⟩, hsu, hth, hin, hse, hve, T⟩
  have l0 : (defScope st).names.lookup ar.arg = some .local := S.par _ (by simp)
  have l1 : (defScope st).names.lookup par = some .local := S.par _ (by simp)
  have FK := fn_super (CX := C8.CX0) (P := P) (w := w) (K := K) (mg := mg) (base := base) (N := [ar.arg, par, "__class__"]) (F := F) (f := fI) (C := C) (cc := cc) (k := 0) (ps := [ar.arg, par]) (ar := ar) B S hbody ⟨_, _, _, _, _, _, _, _, rfl, hlf⟩ har rfl hks he
    (t := tOst K fld (tVar 0) (tVar 1)) (fun A outer s H E => pss_one (ps_ost (pe_var (i := 0) rfl (.inl l0) hd1 hd2) (pe_var (i := 1) rfl (.inl l1) hd3 hd4) (hsw _)))
  refine ⟨C, fI, _, [ar.arg, par], T, hi, hti, FK.imp ?_, .all (hbind _ _ _ _ _), hm, hex⟩
  intro vs H Q E ⟨hl, a, y, ev, ea, hq⟩
  subst ev
  refine ⟨rfl, a, [y], rfl, ea, ?_⟩
  refine ⟨y, rfl, .ref a, rfl, a, C, rfl, T, hno, .inl ⟨ea, fun dx h1 h2 => hq dx h1 h2⟩⟩

/-! ### try: body, except C: suite -/
def GEq (H0 : Hp) (π : Nat → Option V) : GT := fun H2 π2 => H2 = H0 ∧ π2 = π
inductive mTry (c : Str) (mb : (Ex → En → Prop) → DS) (ms : DS) (E : DEnds) (δ : En) : Prop
  | of' (XC : Ex → En → Prop) (E' : DEnds) (h1 : ∀ δ, E'.nx δ → E.nx δ) (h2 : ∀ x δ, E'.rt x δ → E.rt x δ) (h3 : ∀ ex δ', XC ex δ' → ex.c = c ∧ ms E δ') (q : mb XC E' δ)
  | of2 (h : False)
theorem mTry.of {c : Str} {mb : (Ex → En → Prop) → DS} {ms : DS} {E : DEnds} {δ : En} (q : mb (fun ex δ' => ex.c = c ∧ ms E δ') E δ) : mTry c mb ms E δ := .of' _ _ (fun _ h => h) (fun _ _ h => h) (fun _ _ h => h) q
section
variable {X : Cx} {a b e c : Expr} {es : List Expr} {fa fb f : DE} {g : DA} {t : DT} {pos : Pos} {st : Stmt} {sts : List Stmt} {m n : DS} {XC : Ex → En → Prop}
theorem sv_try {x fld : Str} {np pos' : Pos} {body suite : List Stmt} {b₀ : Stmt} {mb : (Ex → En → Prop) → DS} {ms : DS} (C : ExK X.prog X.w X.K X.mg X.base x fld) (hg : Gl X x) (hs : X.stack = X.env :: X.outer) (hf : X.env.frame = some X.env.locals)
    (hb : ∀ (XC : Ex → En → Prop) (H0 : Hp) (π : Nat → Option V) (pn : List (Addr × Obj)) (xe : Value → Shared → Prop), TkX (GEq H0 π) (X.tr pn xe) XC → PassesOwn (model X.prog X.w) X.A X.env xe → SVs (GEq H0 π) (X.tr pn xe) body (mb XC))
    (hsu : ∀ (a : Addr) (oe : Obj) (pn : List (Addr × Obj)), SVs G (X.suite a ((a, oe) :: pn)) (b₀ :: suite) ms) (hdb : (x == ("__debug__" : Str)) = false := by decide) :
    SV G X (.Try body [.ExceptHandler (some (.Name x np)) none (b₀ :: suite) pos'] [] [] pos) (mTry x mb ms) := by
  have hms : MonoS ms := (hsu 0 { cls := .none, data := .fields #[] } []).mono
  obtain ⟨Ca, fI, fd, ps, T, iC, tI, F1, hbi, hm, hex⟩ := C.ex
  refine ⟨fun A B δ h1 h2 q => ?_, fun H0 π hG => ?_⟩
  · cases q with
    | of' XC E' k1 k2 k3 q => exact .of' XC E' (fun δ h => h1 _ (k1 _ h)) (fun x δ h => h2 _ _ (k2 _ _ h)) (fun ex δ' h => ⟨(k3 ex δ' h).1, hms _ _ _ h1 h2 (k3 ex δ' h).2⟩) q
    | of2 h => exact h.elim
  · refine psi (ps_try_only (c := .ref Ca) (Wout := fun _ _ _ _ => False) (tb := fun W D σ H => ∃ XC E' δ ν, (∀ cls d σ H, wX X.K X.mg H0 π XC cls d σ H → W cls d σ H) ∧ EnvOk X.K H0 π H σ δ ν ∧ (∀ δ, E'.nx δ → (dEnds X.K H0 π D).nx δ) ∧ (∀ x δ, E'.rt x δ → (dEnds X.K H0 π D).rt x δ) ∧ mb XC E' δ)
      (ts := fun _ _ _ => semS X.K H0 π ms) hs hf ⟨hg, hdb, .inl hm⟩ L2.takes0 (fun W pn xe tk po => ⟨fun pins s σ H D I ⟨XC, E', δ, ν, i, E, k1, k2, q⟩ => ?_⟩) (fun a oe cls d pn _ _ => (hsu a oe pn).pss H0 π hG)) fun D σ H ⟨δ, ν, E, q⟩ => ?_
    · have tk2 : TkX (GEq H0 π) (X.tr pn xe) XC := fun H1 π1 ⟨e1, e2⟩ => by
        subst e1; subst e2
        exact tk.imp i
      have B := hb XC H0 π pn xe tk2 po
      exact (B.pss H0 π ⟨rfl, rfl⟩).run pins s σ H D I ⟨δ, ν, E, B.mono _ _ _ k1 k2 q⟩
    · cases q with
      | of2 h => exact h.elim
      | of' XC E' k1 k2 k3 q =>
        refine ⟨XC, E', δ, ν, fun cls d σ' H' ⟨ex, δ', ν', E1, ⟨Cb, hc, hcm⟩, _, qx⟩ => ?_, E, k1, k2, q⟩
        obtain ⟨hcx, qs⟩ := k3 ex δ' qx
        rw [hcx, hm] at hcm
        cases hcm
        exact ⟨true, by rw [hc]; exact hex, fun _ ae _ => ⟨δ', ν', E1, qs⟩, fun z => (nomatch z)⟩
end
end KT
/-! KtU: x = y[k], the list is taken out of the tuple y (whose k-th item tells nothing from there on). -/
namespace KT
open PySem PySem.Spec PyProof.Rows L2
variable [WT]

def junk : D := .dict [(.none, .none)]
theorem Rps.junk {K : PySem.W.Frag} {H : Hp} : ∀ {xs : List V} {ds : List D} {N : List Addr} {k : Nat} {w : V}, Rps K H xs ds N → xs[k]? = some w → w ≠ .non → ∃ N', Rps K H xs (ds.set k junk) N'
  | _, _, _, _, _, .nil, e, _ => by simp at e
  | _, _, _, 0, w, .cons r s, e, h => by
    simp at e
    subst e
    exact ⟨_, .cons (.jnk h) s⟩
  | _, _, _, k + 1, w, .cons r s, e, h => by
    obtain ⟨N', q⟩ := Rps.junk (k := k) s (by simpa using e) h
    exact ⟨_, .cons r q⟩
def isL : Option D → Bool
  | some (.list _) => true
  | _ => false
/-- j = i[k] -/
def mTake (i k j : Nat) (f : DE) : DS := fun E δ => match δ[i]? with
  | some (some ⟨.tuple ds, true, false⟩) => (immL (ds.set k junk) = true ∧ isL ds[k]? = true) ∧ f δ fun x => storK δ j x true fun δ' => E.nx (δ'.set i (some ⟨.tuple (ds.set k junk), true, false⟩))
  | _ => False
section
variable {X : Cx} {e : Expr} {f : DE} {pos : Pos}
theorem sv_take (i k j : Nat) {x : Str} {pos' : Pos} (hN : X.N.Nodup) (he : EV G X e f) (hij : i ≠ j := by decide) (hi : X.N[j]? = some x := by rfl) (hx : Loc X.env.scope x := by first | exact Or.inl rfl | exact Or.inr rfl)
    (hs : swapsWith e (some (.Name x pos')) pos.line X.env = pure false := by rfl) (hf : X.fn x = true ∨ X.env.scope.names.lookup x = some .local := by first | exact .inl rfl | exact .inr rfl | assumption) :
    SV G X (.Assign [.Name x pos'] e pos) (mTake i k j f) := by
  refine ⟨fun A B δ h1 h2 q => ?_, fun H0 π hG => psi (ps_set hN hi hx (he.pe H0 π hG) hs hf) fun D σ H ⟨δ, ν, E, q⟩ => ?_⟩
  · unfold mTake at *
    split at q
    · refine ⟨q.1, he.mono _ _ _ (fun x q => ?_) q.2⟩
      rw [storK_eq] at q ⊢
      exact h1 _ q
    · exact q.elim
  · unfold mTake at q
    split at q
    · rename_i ds hd
      obtain ⟨⟨q1, q2⟩, q⟩ := q
      refine ⟨δ, ν, E, he.mono _ _ _ (fun x q v H1 M s1 o1 => ?_) q⟩
      rw [storK_eq] at q
      have E1 := stor_ok E s1 o1 j true
      obtain ⟨vi, hvi, ri, _⟩ := E.at_ i _ hd
      have ri := ri.same s1
      obtain ⟨a, xs, rfl, ha, s⟩ := ri.tuple_
      obtain ⟨d, hk⟩ : ∃ d, ds[k]? = some d := by
        cases z : ds[k]? with
        | none => rw [z] at q2; cases q2
        | some d => exact ⟨d, rfl⟩
      obtain ⟨w, A, M', B, hw, _, rw'⟩ := s.get hk
      have hwn : w ≠ .non := by
        rw [hk] at q2
        cases d with
        | list ls =>
          obtain ⟨b, ys, L, ew, _⟩ := rw'.list_
          rw [ew]
          exact fun z => V.noConfusion z
        | _ => cases q2
      obtain ⟨N', s'⟩ := s.junk hw hwn
      have e := s'.imm q1
      subst e
      have hσ : (σ.set j (some v))[i]? = some (some (.ref a)) := by rw [List.getElem?_set_ne (Ne.symm hij)]; exact hvi
      have fo : FOk X.K H0 (stor δ j x true) (fun l => if l = j then M else ν l) H1 (.ref a) (.tuple (ds.set k KT.junk)) true [] := ⟨.tup ha s', fun _ => List.nodup_nil, fun _ a h => (nomatch h), fun _ a h => (nomatch h), fun _ _ _ _ _ _ h => (nomatch h)⟩
      have E2 := E1.set fo i
      have eσ : (σ.set j (some v)).set i (some (.ref a)) = σ.set j (some v) := by
        apply List.ext_getElem?
        intro l
        by_cases hl : l = i
        · subst hl
          rw [hσ, List.getElem?_set_self (by exact (List.getElem?_eq_some_iff.mp hσ).1)]
        · rw [List.getElem?_set_ne (Ne.symm hl)]
      rw [eσ] at E2
      exact q _ _ _ E2
    · exact q.elim
end
theorem isJ_go {d : D} {A : Prop} (hj : isJ d = false) (q : A) : (match (generalizing := false) isJ d with | true => False | false => A) := by
  rw [hj]
  exact q
end KT
/-! KtV: try: .. except C as e: .., where e.f and isinstance(e, T) are asked in the suite. -/
namespace KT
open PySem PySem.Spec PyProof.Rows L2
variable [WT]

/-! ### isinstance of a caught error that has a dict -/
section
variable {prog : Program} {w : World} {A : Around} {E : Value → Shared → Prop} {s : Shared} {K : PySem.W.Frag} {x D : Addr} {ox : Obj} {od : Option Obj}
open PySem.W PySem.Calls
theorem cls_found (C : ExcC K D) : findObj K D od "__class__" = some (.bind (.builtin "getset_descriptor.__get__") (.builtin "object.__class__")) := by
  obtain ⟨cd, hc, _⟩ := any_some C.hd
  have e1 := C.ha
  have e2 := C.hn
  have e3 := C.ht
  unfold findObj
  rw [hc, Option.bind_some, e1, Option.bind_some]
  simp [e2, e3]
theorem cls_asked (C : ExcC K D) {Q : Option Value → Shared → Prop} (X : K.In s.heap) (I : InstAt s.heap x ox D od) (h : Q (some (.ref D)) { s with toks := s.toks + 1 }) : wpAny (model prog w) A (getAttr? (.ref x) "__class__") Q E s := by
  obtain ⟨hp, g, d, t, os⟩ := s
  have T0 := I.type (M := model prog w)
  have T1 := looks_findIn (M := model prog w) X C.hg
  have T2 := looks_findIn (M := model prog w) X C.hk
  have T3 := looks_find (M := model prog w) X I (cls_found (od := od) C)
  have sub : Looks (model prog w) hp (isInstance (.ref x) (.type "BaseException")) true := T0.andThen (looks_subIn X C.hs)
  have n0 : (false && onTheHeap (Value.builtin "BaseException.__getattribute__")) = false := rfl
  have n2 : (Value.builtin "BaseException.__getattribute__" == Value.builtin "object.__getattribute__") = false := by decide +kernel
  have n1 : (onTheHeap (Value.ref D) && Value.builtin "BaseException.__getattribute__" == Value.builtin "object.__getattribute__") = false := by rw [n2]; rfl
  unfold getAttr? getAttrBy? getAttrBy
  refine wpAny_bind (wpAny_mkText ?_)
  refine wpAny_bind (wpAny_attempt (wpAny_holding ?_))
  refine wpAny_bind (T0.at ?_)
  refine wpAny_bind (T1.at ?_)
  show wpAny _ _ (if (onTheHeap (Value.ref D) && Value.builtin "BaseException.__getattribute__" == Value.builtin "object.__getattribute__") = true then _ else _) _ _ _
  rw [n1, if_neg Bool.false_ne_true]
  unfold getAttrByItsOwn hookBefore
  refine wpAny_bind ?_
  rw [if_pos (show onTheHeap (Value.ref D) = true from rfl)]
  refine T2.at ?_
  refine wpAny_bind ?_
  refine wpAny_attempt (wpAny_holding ?_)
  unfold callGetattribute
  rw [n0, if_neg Bool.false_ne_true]
  unfold boundAndCalled
  rw [PySem.F.excAttr_ValueError.ga.bind (.ref x)]
  refine wpAny_bind (wpAny_pure ?_)
  show wpAny _ _ (call (.builtin "BaseException.__getattribute__") [.ref x, .str "__class__" t]) _ _ _
  refine wpAny_call ?_
  refine codeAny_call_builtin PySem.F.excAttr_ValueError.ga.plain PySem.F.entry_bexc_ga ?_
  refine @check_slot (model prog w) _ _ ⟨hp, g, d, t + 1, os⟩ "BaseException.__getattribute__" "BaseException" "__getattribute__" (.ref x) [.str "__class__" t] [] _ (by decide +kernel) (by decide +kernel) sub
    (PySem.F.args_bexc_ga (.ref x) (.str "__class__" t)) ?_
  unfold Builtin.«object.__getattribute__»
  refine wpAny_bind (wpAny_of_eq (a := ((Value.ref x : Value), [Value.str "__class__" t])) (by first | rfl | (simp only [slotArgs]; rfl)) ?_)
  refine wpAny_bind (wpAny_pure ?_)
  refine wpAny_bind (T0.at ?_)
  refine wpAny_bind (T3.at ?_)
  show wpAny _ _ (holding [Value.builtin "object.__class__"] (call (.builtin "getset_descriptor.__get__") [.builtin "object.__class__", .ref x, .ref D]) >>= ret) _ _ _
  refine wpAny_bind (wpAny_holding ?_)
  refine wpAny_call (class_get (s := ⟨hp, g, d, t + 1, os⟩) (ox := ox) (od := od) X I C.hm ?_)
  refine wpAny_pure ?_
  show wpAny _ _ (handedOut (.ref D)) _ _ _
  rw [handedOut_of (v := .ref D) rfl]
  first
    | exact wpAny_pure (wpAny_pure h)
    | exact wpAny_pure h
    | exact wpAny_pure (wpAny_bind (wpAny_pure (wpAny_pure h)))
theorem kitx_err (C : ExcC K D) : KitX K (.ref x) (.ref D) (fun h => InstAt h x ox D od) := by
  obtain ⟨cdD, hcD, _⟩ := any_some C.hd
  have own : ∃ c' d' cd' sl', K.lookup D = some ⟨c', d', .cls cd', sl'⟩ := by
    unfold clsIn at hcD
    split at hcD
    · rename_i c' d' cd' sl' ho
      exact ⟨c', d', cd', sl', ho⟩
    · cases hcD
  obtain ⟨c', d', cd', sl', ho⟩ := own
  refine ⟨fun _ _ _ I => I.type, fun _ _ X _ => ?_, fun h tp dd its n sl X htp => ?_, fun X I k => cls_asked C X I k⟩
  · intro A' Q' E' s' k q
    unfold isType loadHead
    exact wpAny_bind (wpAny_loadPart (k _ _ (X _ _ ho)) (wpAny_pure q))
  · refine Bool.eq_false_iff.mpr fun q => ?_
    have e : D = tp := Value.ref.inj (beq_iff_eq.mp q)
    subst e
    have z := (X _ _ ho).symm.trans htp
    cases z
end
/-- isinstance(e, c), e the exception that the suite holds, its dict at dx -/
def rIsErr (K : PySem.W.Frag) (D a dx : Addr) : List V → Hp → VK → Prop := fun xs H Q => ∃ (c : V) (cv : Value) (b : Bool) (fs : List (Str × V)), xs = [.ref a, c] ∧ (∀ u, RelV c u → u = cv) ∧ H dx = some (.xd fs) ∧ PySem.W.kitOne K (.ref D) cv = some b ∧ Q (.bl b) H
theorem call_isErr {X : Cx} {a D dx : Addr} {oe : Obj} {pn : List (Addr × Obj)} (C : ExcC X.K D) (hz : Zc (.ref D) (some dx) oe) (hf : ∃ vs, oe.data = .fields vs) : CallR (X.suite a ((a, oe) :: pn)) (.builtin "isinstance") (rIsErr X.K D a dx) := by
  intro pins s σ H xs us Q I r h
  obtain ⟨c, cv, b, fs, rfl, hcv, hx, e, q⟩ := h
  cases r with
  | cons rx rr =>
    cases rr with
    | cons rt rr =>
      cases rr
      cases rx
      have ec := hcv _ rt
      subst ec
      obtain ⟨hget, _⟩ := I.pin (a, oe) (List.mem_append.mpr (.inl List.mem_cons_self))
      obtain ⟨vs, hv⟩ := hf
      have hx : ObjOk X.prog X.w H s.heap dx (.xd fs) := I.hok dx _ hx
      obtain ⟨mA, hns, hr⟩ := hx
      obtain ⟨od, ho, hl⟩ := lookIn_ns hns
      have J : PySem.W.InstAt s.heap a oe D (some od) := ⟨hget, hz.1, by unfold PySem.W.notCls; rw [hv] <;> rfl, by rw [hz.2]; exact ho⟩
      exact PySem.W.kia_one (kitx_err C) I.kIn J e (fun z => nomatch z) fun tk => ⟨.bl b, H, I.kept (t' := tk) fun _ _ z => z, rfl, q⟩

/-! ### the caught exception among the names -/
/-- what the suite may ask of the class x with the field fld -/
structure ExI (K : PySem.W.Frag) (mg : Str → Option Value) (x fld : Str) : Prop where
  ex : ∃ C, mg x = some (.ref C) ∧ ExcC K C ∧ XfC K C ∧ PySem.W.findIn K (.ref C) fld = some none
/-- isinstance of an x with the class T of the text, with the built-in one -/
def IsOwn (K : PySem.W.Frag) (mg : Str → Option Value) (x T : Str) (b : Bool) : Prop := ∃ C Ct, mg x = some (.ref C) ∧ mg T = some (.ref Ct) ∧ PySem.W.kitOne K (.ref C) (.ref Ct) = some b
def IsBlt (K : PySem.W.Frag) (mg : Str → Option Value) (x T : Str) (U : String) (b : Bool) : Prop := ∃ C, mg x = some (.ref C) ∧ mg T = none ∧ PySem.W.kitOne K (.ref C) (.type U) = some b
def lookF (f : Str) : List (D × D) → Option D
  | (.str g, d) :: r => (match decide (g = f) with
    | true => some d
    | false => lookF f r)
  | _ => none
/-- e.f, e in slot i -/
def dXf (a dx : Addr) (i : Nat) (f : Str) : DE := fun δ P => match δ[i]? with
  | some (some ⟨.dict ((.int dx', .str _) :: (.int a', .none) :: kvs), own, _⟩) => (dx' = dx ∧ a' = a) ∧ (match lookF f kvs with
    | some d => P (nv ⟨d, own, [i]⟩)
    | none => False)
  | _ => False
/-- isinstance(e, T), which is b -/
def dXi (a dx : Addr) (i : Nat) (b : Bool) : DE := fun δ P => match δ[i]? with
  | some (some ⟨.dict ((.int dx', .str _) :: (.int a', .none) :: _), _, _⟩) => (dx' = dx ∧ a' = a) ∧ P ⟨.bool b, true, []⟩
  | _ => False
theorem xc_inv {K : PySem.W.Frag} {H : Hp} {v : V} {dx a : Int} {c : Str} {kvs : List (D × D)} {N : List Addr} (r : Rp K H v (.dict ((.int dx, .str c) :: (.int a, .none) :: kvs)) N) :
    ∃ (a' dx' : Addr) (fs : List (Str × V)) (ds : List D), v = .ref a' ∧ a = (a' : Int) ∧ dx = (dx' : Int) ∧ H dx' = some (.xd fs) ∧ Rps K H (fs.map (·.2)) ds N ∧ kvs = ((fs.map (·.1)).map PyData.str).zip ds := by
  generalize e : PyData.dict ((.int dx, .str c) :: (.int a, .none) :: kvs) = d at r
  cases r with
  | xc h r =>
    simp only [xcD, PyData.dict.injEq, List.cons.injEq, Prod.mk.injEq, PyData.int.injEq, and_true] at e
    obtain ⟨⟨h1, _⟩, h2, h3⟩ := e
    exact ⟨_, _, _, _, rfl, h2, h1, h, r, h3⟩
  | scr _ => simp [scrP] at e
  | jnk _ => simp at e
  | set _ _ => simp [setD] at e
  | dk _ _ _ => simp [dkD] at e
  | dt _ _ _ => simp [dtD] at e
  | ins _ _ _ => simp [insD] at e
  | _ => cases e
theorem lookF_fs {K : PySem.W.Frag} {H : Hp} {f : Str} : ∀ {fs : List (Str × V)} {ds : List D} {N : List Addr} {d : D}, Rps K H (fs.map (·.2)) ds N → lookF f (((fs.map (·.1)).map PyData.str).zip ds) = some d →
    ∃ v A M B, fs.lookup f = some v ∧ Rp K H v d M ∧ N = A ++ M ++ B
  | [], _, _, _, _, h => by simp [lookF] at h
  | (g, v) :: fs, [], _, _, r, _ => by cases r
  | (g, v) :: fs, e :: ds, _, d, .cons (N := N) (M := M) r s, h => by
    simp only [List.map_cons, List.zip_cons_cons, lookF] at h
    by_cases q : g = f
    · rw [decide_eq_true q] at h
      cases h
      refine ⟨v, [], N, M, ?_, r, by simp⟩
      subst q
      simp [List.lookup]
    · rw [decide_eq_false q] at h
      obtain ⟨w, A, M', B, h1, h2, h3⟩ := lookF_fs s h
      refine ⟨w, N ++ A, M', B, ?_, h2, by rw [h3]; simp⟩
      have hb : (f == g) = false := by
        rw [beq_eq_false_iff_ne]
        exact fun z => q z.symm
      simp [List.lookup, hb, h1]
section
variable {X : Cx} {a dx : Addr} {oe : Obj} {pn : List (Addr × Obj)} {C : Addr} {n : Str} {i : Nat}
theorem ev_xf {x f : Str} {p pos : Pos} (T : ExI X.K X.mg x f) (hm : X.mg x = some (.ref C)) (hz : Zc (.ref C) (some dx) oe) (hf : ∃ vs, oe.data = .fields vs) (hN : X.N[i]? = some n := by rfl)
    (hv : Vis X.env.scope n := by first | exact Or.inl rfl | exact Or.inr (Or.inl rfl) | exact Or.inr (Or.inr rfl)) (hd : (n == ("__debug__" : Str)) = false := by decide) (hcd : (n == ("__classdict__" : Str)) = false := by decide)
    (hb : attributeBase (.Name n p) f X.env (eval (.Name n p) X.env) = eval (.Name n p) X.env := by rfl) : EV G (X.suite a ((a, oe) :: pn)) (.Attribute (.Name n p) f pos) (dXf a dx i f) := by
  obtain ⟨C', hm', _, hx, hno⟩ := T.ex
  rw [hm] at hm'
  cases hm'
  refine ⟨fun δ P P' h q => ?_, fun H0 π hG => pei (pe_xf (X := X) hx hno hz hf (pe_var (X := X.suite a ((a, oe) :: pn)) (i := i) hN hv hd hcd) hb) fun σ H Q ⟨δ, ν, E, q⟩ => ?_⟩
  · unfold dXf at *
    split at q
    · refine ⟨q.1, ?_⟩
      have q := q.2
      split at q
      · exact h _ q
      · exact q.elim
    · exact q.elim
  · unfold dXf at q
    split at q
    · rename_i dx' c a' kvs own pin hs
      obtain ⟨⟨rfl, rfl⟩, q⟩ := q
      obtain ⟨v, hv, o⟩ := slot_vok E hs
      obtain ⟨b, dy, fs, ds, rfl, eb, ed, hH, r, rfl⟩ := xc_inv o.rp
      have eb : b = a := (Int.ofNat_inj.mp eb).symm
      have ed : dy = dx := (Int.ofNat_inj.mp ed).symm
      subst eb ed
      split at q
      · rename_i d hl
        obtain ⟨w, A, M, B, h1, h2, h3⟩ := lookF_fs r hl
        refine ⟨.ref b, hv, rfl, rfl, dy, fs, w, rfl, hH, h1, ?_⟩
        have o2 : VOk X.K H δ ν H w ⟨d, own, [i]⟩ M := by
          have nd := o.nd
          have fr := o.fr
          have al := o.al
          rw [h3] at nd fr al
          refine ⟨h2, fun z => ?_, fun z a ha => fr z a (by simp [ha]), fun j s hj ho hn a ha hm => al j s hj ho hn a ha (by simp [hm])⟩
          have := nd z
          rw [List.append_assoc, List.nodup_append] at this
          exact (List.nodup_append.mp this.2.1).1
        obtain ⟨M', o3⟩ := o2.nv
        exact q w H M' (Same.refl H) o3
      · exact q.elim
    · exact q.elim
theorem ev_xiG {x T : Str} {b : Bool} {c : V} {cv : Value} {p p' pos : Pos} (Ti : ExI X.K X.mg x fld) (hm : X.mg x = some (.ref C)) (hz : Zc (.ref C) (some dx) oe) (hf : ∃ vs, oe.data = .fields vs) (hkt : PySem.W.kitOne X.K (.ref C) cv = some b) (hcv : ∀ u, RelV c u → u = cv)
    (hT : PE (X.suite a ((a, oe) :: pn)) (.Name T p') (tC c)) (hg : Gl X "isinstance") (hi : X.mg "isinstance" = none) (hN : X.N[i]? = some n)
    (hv : Vis X.env.scope n) (hd : (n == ("__debug__" : Str)) = false) (hcd : (n == ("__classdict__" : Str)) = false) {p2 : Pos}
    (he : starEach [.Name n p, .Name T p'] X.env = (false, eval (.Name n p) X.env) :: starEach [.Name T p'] X.env) (he2 : starEach [Expr.Name T p'] X.env = (false, eval (.Name T p') X.env) :: starEach [] X.env)
    (hpl : (backTo pos (starEach [Expr.Name T p'] X.env)).any (·.1) = false) : EV G (X.suite a ((a, oe) :: pn)) (.Call (.Name "isinstance" p2) [.Name n p, .Name T p'] [] pos) (dXi a dx i b) := by
  obtain ⟨C', hm', hc, _⟩ := Ti.ex
  rw [hm] at hm'
  cases hm'
  refine ⟨fun δ P P' h q => ?_, fun H0 π hG => pei (pe_callB (call_isErr (X := X) hc hz hf) hg hi boot_isinstance (pa_cons (pe_var (X := X.suite a ((a, oe) :: pn)) (i := i) hN hv hd hcd) (pa_cons hT pa_nil he2) he) (by decide) (by decide) he hpl) fun σ H Q ⟨δ, ν, E, q⟩ => ?_⟩
  · unfold dXi at *
    split at q
    · exact ⟨q.1, h _ q.2⟩
    · exact q.elim
  · unfold dXi at q
    split at q
    · rename_i dx' c' a' kvs own pin hs
      obtain ⟨⟨rfl, rfl⟩, q⟩ := q
      obtain ⟨v, hv, o⟩ := slot_vok E hs
      obtain ⟨b', dy, fs, ds, rfl, eb, ed, hH, r, rfl⟩ := xc_inv o.rp
      have eb : b' = a := (Int.ofNat_inj.mp eb).symm
      have ed : dy = dx := (Int.ofNat_inj.mp ed).symm
      subst eb ed
      refine ⟨.ref b', hv, c, cv, b, fs, rfl, hcv, hH, hkt, ?_⟩
      exact q (.bl b) H [] (Same.refl H) (VOk.imm (.bl _) rfl)
    · exact q.elim
end
section
variable {X : Cx} {a dx : Addr} {oe : Obj} {pn : List (Addr × Obj)} {C : Addr} {n : Str} {i : Nat}
theorem ev_xio {x fld T : Str} {b : Bool} {p p' p2 pos : Pos} (Ti : ExI X.K X.mg x fld) (It : IsOwn X.K X.mg x T b) (hi : X.mg "isinstance" = none) (hm : X.mg x = some (.ref C)) (hz : Zc (.ref C) (some dx) oe) (hf : ∃ vs, oe.data = .fields vs)
    (hg : Gl X "isinstance" := by rfl) (hgT : Gl X T := by rfl) (hN : X.N[i]? = some n := by rfl) (hv : Vis X.env.scope n := by first | exact Or.inl rfl | exact Or.inr (Or.inl rfl) | exact Or.inr (Or.inr rfl)) (hd : (n == ("__debug__" : Str)) = false := by decide) (hcd : (n == ("__classdict__" : Str)) = false := by decide)
    (hdT : (T == ("__debug__" : Str)) = false := by decide) (he : starEach [.Name n p, .Name T p'] X.env = (false, eval (.Name n p) X.env) :: starEach [.Name T p'] X.env := by rfl) (he2 : starEach [Expr.Name T p'] X.env = (false, eval (.Name T p') X.env) :: starEach [] X.env := by rfl)
    (hpl : (backTo pos (starEach [Expr.Name T p'] X.env)).any (·.1) = false := by rfl) : EV G (X.suite a ((a, oe) :: pn)) (.Call (.Name "isinstance" p2) [.Name n p, .Name T p'] [] pos) (dXi a dx i b) := by
  obtain ⟨C', Ct, h1, h2, h3⟩ := It
  rw [hm] at h1
  cases h1
  exact ev_xiG (c := .ref Ct) (cv := .ref Ct) Ti hm hz hf h3 (fun u r => r) (pe_glob (X := X.suite a ((a, oe) :: pn)) hgT h2 rfl hdT) hg hi hN hv hd hcd he he2 hpl
theorem ev_xib {x fld T : Str} {U : String} {b : Bool} {p p' p2 pos : Pos} (Ti : ExI X.K X.mg x fld) (It : IsBlt X.K X.mg x T U b) (hi : X.mg "isinstance" = none) (hm : X.mg x = some (.ref C)) (hz : Zc (.ref C) (some dx) oe) (hf : ∃ vs, oe.data = .fields vs)
    (hbo : bootBuiltins T = some (.type U) := by rfl) (hg : Gl X "isinstance" := by rfl) (hgT : Gl X T := by rfl) (hN : X.N[i]? = some n := by rfl) (hv : Vis X.env.scope n := by first | exact Or.inl rfl | exact Or.inr (Or.inl rfl) | exact Or.inr (Or.inr rfl)) (hd : (n == ("__debug__" : Str)) = false := by decide) (hcd : (n == ("__classdict__" : Str)) = false := by decide)
    (hn : T ≠ "__name__" := by decide) (hdT : (T == ("__debug__" : Str)) = false := by decide) (he : starEach [.Name n p, .Name T p'] X.env = (false, eval (.Name n p) X.env) :: starEach [.Name T p'] X.env := by rfl) (he2 : starEach [Expr.Name T p'] X.env = (false, eval (.Name T p') X.env) :: starEach [] X.env := by rfl)
    (hpl : (backTo pos (starEach [Expr.Name T p'] X.env)).any (·.1) = false := by rfl) : EV G (X.suite a ((a, oe) :: pn)) (.Call (.Name "isinstance" p2) [.Name n p, .Name T p'] [] pos) (dXi a dx i b) := by
  obtain ⟨C', h1, h2, h3⟩ := It
  rw [hm] at h1
  cases h1
  exact ev_xiG (c := .ty U) (cv := .type U) Ti hm hz hf h3 (fun u r => r) (pe_bltn (X := X.suite a ((a, oe) :: pn)) hgT h2 hbo (v := .ty U) rfl hn hdT) hg hi hN hv hd hcd he he2 hpl
end
/-! ### try: body, except C as n: suite -/
theorem EnvOk.setN {K : PySem.W.Frag} {H0 H : Hp} {π : Nat → Option V} {σ : L2.St} {δ : En} {ν : Nu} (E : EnvOk K H0 π H σ δ ν) (i : Nat) : EnvOk K H0 π H (σ.set i none) (δ.set i none) ν := by
  have look : ∀ j s, (δ.set i none)[j]? = some (some s) → j ≠ i ∧ δ[j]? = some (some s) := fun j s h => by
    by_cases e : j = i
    · subst e
      by_cases hl : j < δ.length
      · rw [List.getElem?_set_self hl] at h; cases h
      · rw [List.getElem?_eq_none (by simpa using hl)] at h; cases h
    · rw [List.getElem?_set_ne (Ne.symm e)] at h
      exact ⟨e, h⟩
  refine ⟨by simpa using E.len, E.sm, fun j s h => ?_, fun j s h o => E.nd j s (look j s h).2 o, fun j k s t n h o h' => E.dj j k s t n (look j s h).2 o (look k t h').2⟩
  obtain ⟨ne, h⟩ := look j s h
  obtain ⟨v, a, b, c⟩ := E.at_ j s h
  exact ⟨v, by rw [List.getElem?_set_ne (Ne.symm ne)]; exact a, b, c⟩
inductive mTryAs (c : Str) (i : Nat) (mb : (Ex → En → Prop) → DS) (ms : Addr → Addr → DS) (E : DEnds) (δ : En) : Prop
  | of' (XC : Ex → En → Prop) (E' : DEnds) (h1 : ∀ δ, E'.nx δ → E.nx δ) (h2 : ∀ x δ, E'.rt x δ → E.rt x δ)
      (h3 : ∀ ex δ', XC ex δ' → ex.c = c ∧ ∀ a dx : Addr, ms a dx ⟨fun δ => setK δ i none E.nx, E.rt⟩ (δ'.set i (some ⟨xcD a dx c (ex.fs.map (·.1)) (ex.fs.map (·.2)), true, false⟩))) (q : mb XC E' δ)
  | of2 (h : False)
theorem mTryAs.of {c : Str} {i : Nat} {mb : (Ex → En → Prop) → DS} {ms : Addr → Addr → DS} {E : DEnds} {δ : En}
    (q : mb (fun ex δ' => ex.c = c ∧ ∀ a dx : Addr, setK δ' i (some ⟨xcD a dx c (ex.fs.map (·.1)) (ex.fs.map (·.2)), true, false⟩) (ms a dx ⟨fun δ => setK δ i none E.nx, E.rt⟩)) E δ) : mTryAs c i mb ms E δ :=
  .of' _ _ (fun _ h => h) (fun _ _ h => h) (fun ex δ' h => ⟨h.1, fun a dx => by have := h.2 a dx; rw [setK_eq] at this; exact this⟩) q
section
variable {X : Cx} {pos : Pos}
theorem sv_try_as {x fld n : Str} {i : Nat} {np pos' : Pos} {body suite : List Stmt} {b₀ : Stmt} {mb : (Ex → En → Prop) → DS} {ms : Addr → Addr → DS} (C : ExK X.prog X.w X.K X.mg X.base x fld) (hg : Gl X x) (hs : X.stack = X.env :: X.outer) (hf : X.env.frame = some X.env.locals)
    (hN : X.N.Nodup) (hi : X.N[i]? = some n) (hln : X.env.kindOf n = some .local)
    (hb : ∀ (XC : Ex → En → Prop) (H0 : Hp) (π : Nat → Option V) (pn : List (Addr × Obj)) (xe : Value → Shared → Prop), TkX (GEq H0 π) (X.tr pn xe) XC → PassesOwn (model X.prog X.w) X.A X.env xe → SVs (GEq H0 π) (X.tr pn xe) body (mb XC))
    (hsu : ∀ (a dx Ca : Addr) (oe : Obj) (pn : List (Addr × Obj)), X.mg x = some (.ref Ca) → Zc (.ref Ca) (some dx) oe → (∃ vs, oe.data = .fields vs) → SVs G (X.suite a ((a, oe) :: pn)) (b₀ :: suite) (ms a dx)) (hdb : (x == ("__debug__" : Str)) = false := by decide) :
    SV G X (.Try body [.ExceptHandler (some (.Name x np)) (some n) (b₀ :: suite) pos'] [] [] pos) (mTryAs x i mb ms) := by
  obtain ⟨Ca, fI, fd, ps, T, iC, tI, F1, hbi, hm, hex⟩ := C.ex
  have hms : ∀ a dx, MonoS (ms a dx) := fun a dx => (hsu a dx Ca { cls := .ref Ca, dict := some dx, data := .fields #[] } [] hm ⟨rfl, rfl⟩ ⟨_, rfl⟩).mono
  refine ⟨fun A B δ h1 h2 q => ?_, fun H0 π hG => ?_⟩
  · cases q with
    | of' XC E' k1 k2 k3 q =>
      refine .of' XC E' (fun δ h => h1 _ (k1 _ h)) (fun x δ h => h2 _ _ (k2 _ _ h)) (fun ex δ' h => ⟨(k3 ex δ' h).1, fun a dx => hms a dx ⟨fun δ => setK δ i none A.nx, A.rt⟩ _ _ (fun δ h => ?_) h2 ((k3 ex δ' h).2 a dx)⟩) q
      have h : setK δ i none A.nx := h
      show setK δ i none B.nx
      rw [setK_eq] at h ⊢
      exact h1 _ h
    | of2 h => exact h.elim
  · refine psi (ps_try_as (c := .ref Ca) (Wout := fun _ _ _ _ => False) (tb := fun W D σ H => ∃ XC E' δ ν, (∀ cls d σ H, wX X.K X.mg H0 π XC cls d σ H → W cls d σ H) ∧ EnvOk X.K H0 π H σ δ ν ∧ (∀ δ, E'.nx δ → (dEnds X.K H0 π D).nx δ) ∧ (∀ x δ, E'.rt x δ → (dEnds X.K H0 π D).rt x δ) ∧ mb XC E' δ)
      (ts := fun a cls d D σ H => ∃ dx, d = some dx ∧ cls = .ref Ca ∧ semS X.K H0 π (ms a dx) D σ H) hs hf hN hi hln ⟨hg, hdb, .inl hm⟩ L2.takes0 (fun W pn xe tk po => ⟨fun pins s σ H D I ⟨XC, E', δ, ν, i, E, k1, k2, q⟩ => ?_⟩)
      (fun a oe cls d pn hz hfl => ⟨fun pins s σ H D I ⟨dx, e1, e2, q⟩ => ?_⟩)) fun D σ H ⟨δ, ν, E, q⟩ => ?_
    · have tk2 : TkX (GEq H0 π) (X.tr pn xe) XC := fun H1 π1 ⟨e1, e2⟩ => by
        subst e1; subst e2
        exact tk.imp i
      have B := hb XC H0 π pn xe tk2 po
      exact (B.pss H0 π ⟨rfl, rfl⟩).run pins s σ H D I ⟨δ, ν, E, B.mono _ _ _ k1 k2 q⟩
    · subst e1 e2
      exact ((hsu a dx Ca oe pn hm hz hfl).pss H0 π hG).run pins s σ H D I q
    · cases q with
      | of2 h => exact h.elim
      | of' XC E' k1 k2 k3 q =>
        refine ⟨XC, E', δ, ν, fun cls d σ' H' ⟨ex, δ', ν', E1, ⟨Cb, hc, hcm⟩, ⟨M, ⟨dx, fsV, ed, hH, hfs, r, nd⟩, hM0, hMd⟩, qx⟩ => ?_, E, k1, k2, q⟩
        obtain ⟨hcx, qs⟩ := k3 ex δ' qx
        rw [hcx, hm] at hcm
        cases hcm
        refine ⟨true, by rw [hc]; exact hex, fun _ ae _ => ⟨dx, ed, hc, ?_⟩, fun z => (nomatch z)⟩
        have rp : Rp X.K H' (.ref ae) (xcD ae dx x (ex.fs.map (·.1)) (ex.fs.map (·.2))) M := by
          rw [← hfs]
          exact .xc hH r
        have E2 := E1.set (own := true) ⟨rp, fun _ => nd, fun _ => hM0, fun _ a ha j s hj => hMd a ha j s hj, fun j s hj _ a ha hm => hMd a hm j s hj ha⟩ i
        refine ⟨_, _, E2, hms ae dx ⟨fun δ => setK δ i none (dEnds X.K H0 π D).nx, (dEnds X.K H0 π D).rt⟩ _ _ (fun δ h σ2 H2 ν2 E3 => ?_) (fun x δ h => h) (qs ae dx)⟩
        have h : setK δ i none (dEnds X.K H0 π D).nx := h
        rw [setK_eq] at h
        exact h _ _ _ (E3.setN i)
end
end KT
/-! KtT: list({k: True for x in xs}), keys whole numbers; a changer called as a statement. -/
namespace KT
open PySem PySem.Spec PyProof.Rows L2
variable [WT]

/-! ### unlike keys, in the order in which they came -/
def ddI (acc : List Int) (z : Int) : List Int := if z ∈ acc then acc else acc ++ [z]
def gK (z : Int) : Key × V := (.inl z, .bl true)
theorem gK_any (z : Int) : ∀ acc : List Int, ((acc.map gK).any fun kv => decide (kv.1 = (.inl z : Key))) = decide (z ∈ acc)
  | [] => by simp
  | a :: acc => by
    rw [List.map_cons, List.any_cons, gK_any z acc]
    by_cases h : a = z
    · subst h; simp [gK]
    · have h' : z ≠ a := Ne.symm h
      simp [gK, h, h']
theorem gK_put (acc : List Int) (z : Int) : putK (acc.map gK) (.inl z : Key) (.bl true) = (ddI acc z).map gK := by
  unfold putK ddI
  rw [gK_any]
  by_cases h : z ∈ acc
  · rw [if_pos (by simpa using h), if_pos h, List.map_map]
    apply List.map_congr_left
    intro a _
    by_cases e : a = z
    · subst e; simp [gK]
    · simp [gK, e]
  · rw [if_neg (by simpa using h), if_neg h, List.map_append]
    rfl
theorem ddI_length (acc : List Int) (z : Int) : (ddI acc z).length ≤ acc.length + 1 := by
  unfold ddI
  split <;> simp

def dcStep (tg : Tgt) (fe : DE) (δ : En) : D → List Int → (List Int → Prop) → Prop := fun d acc P => asgT tg d (imm d) δ fun δ' => fe δ' fun y => match y.d with
  | .int z => acc.length < sizeLine ∧ P (ddI acc z)
  | _ => False
def dcL (step : D → List Int → (List Int → Prop) → Prop) : List D → List Int → (List Int → Prop) → Prop
  | [], acc, P => P acc
  | d :: ds, acc, P => step d acc fun acc => dcL step ds acc P
inductive DcL (step : D → List Int → (List Int → Prop) → Prop) (ds : List D) (acc : List Int) (P : List Int → Prop) : Prop
  | of_ : dcL step ds acc P → DcL step ds acc P
  | of2 : dcL step ds acc P → DcL step ds acc P
theorem DcL_to {step : D → List Int → (List Int → Prop) → Prop} {ds : List D} {acc : List Int} {P : List Int → Prop} (h : DcL step ds acc P) : dcL step ds acc P := by
  rcases h with h | h <;> exact h
theorem DcL_of {step : D → List Int → (List Int → Prop) → Prop} {ds : List D} {acc : List Int} {P : List Int → Prop} (h : dcL step ds acc P) : DcL step ds acc P := by
  exact .of_ h
theorem dcL_mono {step step' : D → List Int → (List Int → Prop) → Prop} (hb : ∀ d acc (P Q : List Int → Prop), (∀ a, P a → Q a) → step d acc P → step' d acc Q) {P Q : List Int → Prop} (h : ∀ a, P a → Q a) : ∀ ds acc, dcL step ds acc P → dcL step' ds acc Q
  | [], _, q => h _ q
  | d :: ds, acc, q => hb d acc _ _ (fun a q => dcL_mono hb h ds a q) q
theorem dcStep_mono {tg : Tgt} {fe : DE} {δ : En} (he : ∀ δ (P P' : Val → Prop), (∀ x, P x → P' x) → fe δ P → fe δ P') :
    ∀ d acc (P Q : List Int → Prop), (∀ a, P a → Q a) → dcStep tg fe δ d acc P → dcStep tg fe δ d acc Q := fun d acc P Q h q =>
  asgT_mono (fun δ q => he _ _ _ (fun y q => by
    revert q; split
    · exact fun q => ⟨q.1, h _ q.2⟩
    · exact id) q) q
def dcRun (tg : Tgt) (wl : List Nat) (fe : DE) (roots : List Nat) (ds : List D) (δ : En) (P : Val → Prop) : Prop :=
  killK δ wl fun δ => demK δ roots fun δ => DcL (dcStep tg fe δ) ds [] fun acc => P ⟨.list (acc.map PyData.int), true, []⟩
theorem dcRun_eq (tg : Tgt) (wl : List Nat) (fe : DE) (roots : List Nat) (ds : List D) (δ : En) (P : Val → Prop) :
    dcRun tg wl fe roots ds δ P = DcL (dcStep tg fe (demR (killR δ wl) roots)) ds [] fun acc => P ⟨.list (acc.map PyData.int), true, []⟩ := by
  unfold dcRun
  rw [killK_eq, demK_eq]
theorem dcRun_mono {tg : Tgt} {wl : List Nat} {fe : DE} {roots : List Nat} {ds : List D} {δ : En} (he : ∀ δ (P P' : Val → Prop), (∀ x, P x → P' x) → fe δ P → fe δ P') {P Q : Val → Prop} (h : ∀ x, P x → Q x)
    (q : dcRun tg wl fe roots ds δ P) : dcRun tg wl fe roots ds δ Q := by
  rw [dcRun_eq] at q ⊢
  exact DcL_of (dcL_mono (dcStep_mono he) (fun a q => h _ q) _ _ (DcL_to q))
/-- list({e: True for tg in f}) -/
def dDcV (tg : Tgt) (wl : List Nat) (fe : DE) (f : DE) : DE := fun δ P => f δ fun x => match seqOf x.d with
  | some ds => dcRun tg wl fe x.roots ds δ P
  | none => False
theorem dDcV_mono {tg : Tgt} {wl : List Nat} {fe f : DE} (hf : ∀ δ (P P' : Val → Prop), (∀ x, P x → P' x) → f δ P → f δ P') (he : ∀ δ (P P' : Val → Prop), (∀ x, P x → P' x) → fe δ P → fe δ P') :
    ∀ δ (P P' : Val → Prop), (∀ x, P x → P' x) → dDcV tg wl fe f δ P → dDcV tg wl fe f δ P' := fun δ P P' h q =>
  hf _ _ _ (fun x q => by
    revert q; split
    · exact dcRun_mono he h
    · exact id) q

section
variable {X : Cx} {e : Expr} {f fe : DE}
def DcInv (K : PySem.W.Frag) (H1 : Hp) (Dd : Addr) (step : D → List Int → (List Int → Prop) → Prop) (ds : List D) (P : List Int → Prop) (i : Nat) (H : Hp) : Prop :=
  Same H1 H ∧ ∃ acc : List Int, H Dd = some (.dK (acc.map gK)) ∧ dcL step (ds.drop i) acc P
theorem dc_turnI {G : GT} {K : PySem.W.Frag} {H1 H2 : Hp} {π : Nat → Option V} {σ0 : L2.St} {δ1 : En} {ν : Nu} {Dd : Addr} {tg : Tgt} {vs : List Nat} {ds : List D} {P : List Int → Prop} (hG : G H2 π)
    (he : ∀ δ (P P' : Val → Prop), (∀ x, P x → P' x) → fe δ P → fe δ P') (hDd : H1 Dd = none) (E : EnvOk K H2 π H1 (wipe σ0 vs) δ1 ν) (hs : ∀ i ∈ tg.slots, i ∈ vs) {i : Nat} {x : V} {d : D} {H : Hp} (hd : ds[i]? = some d) (hx : ∃ L, Rp K H2 x d L)
    (w : DcInv K H1 Dd (dcStep tg fe δ1) ds P i H) :
    gOf K tg x (wipe σ0 vs) H fun σ2 H2' => wipe σ2 vs = wipe σ0 vs ∧ semTAny G K dtYes σ2 H2' fun b H3 =>
      if b = true then semEAny G K fe σ2 H3 fun y H4 => semEAny G K (dC (.bool true)) σ2 H4 fun z H5 => ∃ kvs k, y = kV k ∧ H5 Dd = some (.dK kvs) ∧ kvs.length < sizeLine ∧ DcInv K H1 Dd (dcStep tg fe δ1) ds P (i + 1) (upd H5 Dd (.dK (putK kvs k z))) else DcInv K H1 Dd (dcStep tg fe δ1) ds P (i + 1) H3 := by
  obtain ⟨s1, acc, hD, q⟩ := w
  obtain ⟨hi, hie⟩ := List.getElem?_eq_some_iff.mp hd
  rw [List.drop_eq_getElem_cons hi, hie] at q
  obtain ⟨L, rx⟩ := hx
  have EH := E.same s1
  have q2 : asgT tg d (imm d) δ1 fun δ' => fe δ' fun y => match y.d with
    | .int z => acc.length < sizeLine ∧ dcL (dcStep tg fe δ1) (ds.drop (i + 1)) (ddI acc z) P
    | _ => False := q
  refine asgT_okW EH (FOk.item EH rx) hs q2 fun σ' δ' ν' E' hw q => ⟨by rw [hw, wipe_wipe], H2, π, hG, δ', ν', E', fun H3 s3 => ?_⟩
  dsimp only
  rw [if_pos rfl]
  refine ⟨H2, π, hG, δ', ν', E'.same s3, he _ _ _ (fun y q v H4 M s4 o => ?_) q⟩
  refine ⟨H2, π, hG, δ', ν', (E'.same s3).same s4, fun u H5 M' s5 o5 => ?_⟩
  revert q
  cases hy : y.d with
  | int z =>
    intro q
    obtain ⟨hz, q⟩ := q
    have r := o.rp
    rw [hy] at r
    have ev : v = .int z := r.int_
    have eu : u = .bl true := o5.rp.bool_
    have sA : Same H1 H5 := ((s1.trans s3).trans s4).trans s5
    have hD5 : H5 Dd = some (.dK (acc.map gK)) := s5 _ _ (s4 _ _ (s3 _ _ hD))
    refine ⟨acc.map gK, .inl z, ev, hD5, by rw [List.length_map]; exact hz, fun b' o' e => ?_, ddI acc z, ?_, q⟩
    · rw [upd_ne (ne_of_none e hDd)]
      exact sA _ _ e
    · rw [eu, gK_put]; exact upd_same
  | _ => exact False.elim
theorem dc_endI {K : PySem.W.Frag} {H0 H H1 H' : Hp} {π : Nat → Option V} {σ : L2.St} {δ : En} {ν : Nu} {Dd : Addr} {step : D → List Int → (List Int → Prop) → Prop} {ds : List D} {Pv : Val → Prop} {Q : VK} (E : EnvOk K H0 π H σ δ ν) (s : Same H H1) (hDd : H1 Dd = none)
    (hP : ∀ x, Pv x → ∀ v H' M, Same H H' → VOk K H δ ν H' v x M → Q v H') {n : Nat} (hn : ds.length ≤ n) (w : DcInv K H1 Dd step ds (fun acc => Pv ⟨.list (acc.map PyData.int), true, []⟩) n H') : rListD [.ref Dd] H' Q := by
  obtain ⟨s1, acc, hD, q⟩ := w
  rw [List.drop_eq_nil_of_le hn] at q
  refine ⟨Dd, _, rfl, hD, fun p hp => ?_⟩
  have sU : Same H' (upd H' p (.lst ((acc.map gK).map fun kv => kV kv.1))) := Same.upd_new hp
  have e : ((acc.map gK).map fun kv => kV kv.1) = acc.map V.int := by rw [List.map_map]; rfl
  rw [e] at sU ⊢
  refine hP _ q _ _ _ ((s.trans s1).trans sU) (FR.vok s (.lst upd_same (rps_ints K _ acc)) (by simp) (fun a ha => ?_) E)
  rcases List.mem_cons.mp ha with rfl | ha
  · exact s1.free hp
  · cases ha
/-- over a list that stays -/
theorem dc_list {K : PySem.W.Frag} {a : Addr} {xs : List V} {g : TG} {tt : TT} {tk tv : TE} {vs : List Nat} {σ : L2.St} {H1 : Hp} {D : Addr} {Qd : Hp → Prop} (Pv : Nat → Hp → Prop) (h0 : Pv 0 (upd H1 D (.dK []))) (hl : ∀ i H, i ≤ xs.length → Pv i H → SqL K H a xs)
    (hs : ∀ i x H, xs[i]? = some x → Pv i H → g x (wipe σ vs) H fun σ2 H2 => wipe σ2 vs = wipe σ vs ∧ tt σ2 H2 fun b H3 =>
      if b = true then tk σ2 H3 fun y H4 => tv σ2 H4 fun z H5 => ∃ kvs k, y = kV k ∧ H5 D = some (.dK kvs) ∧ kvs.length < sizeLine ∧ Pv (i + 1) (upd H5 D (.dK (putK kvs k z))) else Pv (i + 1) H3) (hd : ∀ H, Pv xs.length H → Qd H) :
    ∃ W : Nat → Nat → Hp → Prop, (∃ m, W 0 m (upd H1 D (.dK []))) ∧ ∀ i m H, W i m H →
      ((Itl K a).stop i H ∧ Qd H) ∨ ((Itl K a).go i H ∧ ∃ Nx : Hp → Prop, (∀ H', Nx H' → ∃ m', m' < m ∧ W (i + 1) m' H') ∧ ∀ x H', (Itl K a).yld i H x H' → g x (wipe σ vs) H' fun σ2 H2 => wipe σ2 vs = wipe σ vs ∧ tt σ2 H2 fun b H3 =>
        if b = true then tk σ2 H3 fun y H4 => tv σ2 H4 fun z H5 => ∃ kvs k, y = kV k ∧ H5 D = some (.dK kvs) ∧ kvs.length < sizeLine ∧ Nx (upd H5 D (.dK (putK kvs k z))) else Nx H3) := by
  refine ⟨fun i m H => m = xs.length - i ∧ i ≤ xs.length ∧ Pv i H, ⟨xs.length, by simp, Nat.zero_le _, h0⟩, ?_⟩
  rintro i m H ⟨rfl, hi, p⟩
  have q := hl i H hi p
  by_cases hlt : i < xs.length
  · refine .inr ⟨⟨xs, xs[i], q, by simp [hlt]⟩, Pv (i + 1), fun H' p' => ⟨xs.length - (i + 1), by omega, rfl, hlt, p'⟩, fun x H' y => ?_⟩
    obtain ⟨e, y⟩ := y
    subst e
    exact hs i x _ (y xs q) p
  · have e : i = xs.length := by omega
    subst e
    exact .inl ⟨⟨xs, q, Nat.le_refl _⟩, hd H p⟩
theorem dDcV_sem {G : GT} [GUp G] {K : PySem.W.Frag} {H0 : Hp} {π : Nat → Option V} {tg : Tgt} {vs : List Nat} {σ : L2.St} {H : Hp} {Q : VK} (hG : G H0 π) (hf : ∀ δ (P P' : Val → Prop), (∀ x, P x → P' x) → f δ P → f δ P')
    (he : ∀ δ (P P' : Val → Prop), (∀ x, P x → P' x) → fe δ P → fe δ P') (hs : ∀ i ∈ tg.slots, i ∈ vs) (h : semE K H0 π (dDcV tg vs fe f) σ H Q) :
    tDc (iSeq K (semE K H0 π f)) (gOf K tg) (semTAny G K dtYes) (semEAny G K fe) (semEAny G K (dC (.bool true))) vs σ H fun v H' => rListD [v] H' Q := by
  obtain ⟨δ, ν, E, q⟩ := h
  refine ⟨δ, ν, E, hf _ _ _ (fun x q v H1 M s1 o1 => ?_) q⟩
  have E1 : EnvOk K H0 π H1 (wipe σ vs) (demR (killR δ vs) x.roots) ν := ((E.same s1).wiped vs).dem x.roots
  have al : ∀ j s, (demR (killR δ vs) x.roots)[j]? = some (some s) → s.own = true → ∀ a ∈ ν j, a ∉ M := fun j s h ho a ha => by
    obtain ⟨t, h1, h2, h3, h4⟩ := demR_some h
    exact o1.al j t (killR_some h1).1 (h4 ho).1 (h4 ho).2 a ha
  have r := o1.rp
  have r2 := Rp.shut E1 o1.rp al
  have E2 := E1.shut
  revert q
  cases hx : x.d with
  | list ds =>
    intro q
    have q : dcRun tg vs fe x.roots ds δ _ := q
    rw [dcRun_eq] at q
    rw [hx] at r r2
    obtain ⟨a, xs, L, rfl, _, ha, s⟩ := r.list_
    refine ⟨a, rfl, .inl ⟨⟨xs, SqL.of ha⟩, fun Dd hDd => ?_⟩⟩
    obtain ⟨a', xs', L', e, _, ha', rs⟩ := r2.list_
    cases e
    refine dc_list (K := K) (a := a) (xs := xs') (DcInv K H1 Dd (dcStep tg fe (demR (killR δ vs) x.roots)) ds _) ⟨Same.upd_new hDd, [], upd_same, DcL_to q⟩ (fun i H _ w => SqL.of (w.1 _ _ (shut_same _ _ _ _ _ ha'))) (fun i u H hu w => ?_) fun H w => dc_endI E s1 hDd (fun x q => q) (by rw [rs.length]; exact Nat.le_refl _) w
    obtain ⟨d, A, L', B, k1, k2, k3⟩ := rs.getV hu
    exact dc_turnI (GUp.up hG (shut_over E1)) he hDd E2 hs k1 ⟨L', k3⟩ w
  | tuple ds =>
    intro q
    have q : dcRun tg vs fe x.roots ds δ _ := q
    rw [dcRun_eq] at q
    rw [hx] at r r2
    obtain ⟨a, xs, rfl, ha, s⟩ := r.tuple_
    refine ⟨a, rfl, .inr ⟨⟨xs, ha⟩, fun Dd hDd => ?_⟩⟩
    obtain ⟨a', xs', e, ha', rs⟩ := r2.tuple_
    cases e
    refine dc_tup (K := K) (a := a) (xs := xs') (DcInv K H1 Dd (dcStep tg fe (demR (killR δ vs) x.roots)) ds _) ⟨Same.upd_new hDd, [], upd_same, DcL_to q⟩ (fun i H _ w => SqT.same ((shut_same _ _ _).trans w.1) ha') (fun i u H hu w => ?_) fun H w => dc_endI E s1 hDd (fun x q => q) (by rw [rs.length]; exact Nat.le_refl _) w
    obtain ⟨d, A, L', B, k1, k2, k3⟩ := rs.getV hu
    exact dc_turnI (GUp.up hG (shut_over E1)) he hDd E2 hs k1 ⟨L', k3⟩ w
  | _ => exact False.elim
theorem ev_dc {G : GT} [GUp G] {kx tgt iter : Expr} {scope : Scope} {p pos posD : Pos} {pv : Expr} (own : List (Str × Nat)) {vs : List Nat} {tg : Tgt} (hc : X.calm = true) (hN : X.N.Nodup) (ok : BlkOk X.N X.env.scope scope own)
    (hg : Gl X "list") (hm : X.mg "list" = none) (hb : bootBuiltins "list" = some (.type "list"))
    (htg : ∀ (s : Shared) (H : Hp) (C : Addr) (cl : List (Str × Addr)) (fp : List Addr), TgOk (X.blk s H scope (compEnvC scope cl C X.env) fp) tgt tg)
    (hel : ∀ (s : Shared) (H : Hp) (C : Addr) (cl : List (Str × Addr)) (fp : List Addr), EV G (X.blk s H scope (compEnvC scope cl C X.env) fp) kx fe)
    (hvl : ∀ (s : Shared) (H : Hp) (C : Addr) (cl : List (Str × Addr)) (fp : List Addr), EV G (X.blk s H scope (compEnvC scope cl C X.env) fp) pv (dC (.bool true)))
    (hf : EV G X iter f) (hvs : own.map (·.2) = vs := by rfl) (hsl : (∀ i ∈ tg.slots, i ∈ vs) := by decide) (hs : ∀ x, foldedSetIterable iter X.env x = pure x := by intro _; rfl)
    (hst : starEach [.DictComp kx pv [⟨tgt, iter, [], 0⟩] scope posD] X.env = (false, eval (.DictComp kx pv [⟨tgt, iter, [], 0⟩] scope posD) X.env) :: starEach [] X.env := by rfl) (hpl : (backTo pos (starEach [] X.env)).any (·.1) = false := by rfl) :
    EV G X (.Call (.Name "list" p) [.DictComp kx pv [⟨tgt, iter, [], 0⟩] scope posD] [] pos) (dDcV tg vs fe f) := by
  subst hvs
  have me := (hel X.s_0 X.H_0 0 [] []).mono
  refine ⟨dDcV_mono hf.mono me, fun H0 π hG => ?_⟩
  refine pei (pe_callTy (call_list_dK hc) hg hm hb (pa_cons (pe_dc (tt := semTAny G X.K dtYes) (tk := semEAny G X.K fe) (tv := semEAny G X.K (dC (.bool true))) (g := gOf X.K tg) hc hN (pi_seq (hf.pe H0 π hG)) ok (fun s H C cl fp => (htg s H C cl fp).pg) (fun s H C cl fp => (ets_nil (G := G)).any) (fun s H C cl fp => (hel s H C cl fp).any) (fun s H C cl fp => (hvl s H C cl fp).any) hs) pa_nil hst) (by decide) (by decide) (by rfl) hpl) fun σ H Q h => ?_
  exact dDcV_sem hG hf.mono me hsl h
end

/-! ### a def that changes its last parameters' lists, what it hands back is dropped by all callers -/
def runFE (fl : List Bool) (mu : List Nat) (n : Nat) (m : DS) : WM := fun ds Q => initKM fl n ds fun δ => m ⟨fun δ' => getpK mu δ' fun es => Q .none es, fun x δ' => getpK mu δ' fun es => Q x.d es⟩ δ
def spOfE (K : PySem.W.Frag) (n : Nat) (mu : List Nat) (w : WM) : Sp := fun vs H Q _ => vs.length = n ∧ ∃ ds ν, ds.length = n ∧ ArgsOk K H mu vs ds ν ∧ ∃ Qd : D → List D → Prop, w ds Qd ∧ ∀ d es, Qd d es → ∀ v H' ν', Back K H H' mu vs es ν ν' → Q v H'
structure CalE (P : Program) (w : World) (K : PySem.W.Frag) (mg : Str → Option Value) (base : Heap) (x : Str) (k n : Nat) (mu : List Nat) (wf : WM) : Prop where
  ex : ∃ (f : Addr) (fd : FuncData) (ps : List Str), FnOk P w K mg base CX0 k f fd ps (spOfE K n mu wf) ∧ mg x = some (.ref f) ∧ PySem.W.keepIn K (.ref f) = true ∧ Binds K fd ps []
section
variable {P : Program} {w : World} {K : PySem.W.Frag} {mg : Str → Option Value} {base : Heap}
theorem ok_defE {x qual : Str} {st : Stmt} {f : Addr} {fd : FuncData} {N ps : List Str} {k : Nat} {m : DS} {fl : List Bool} {mu : List Nat} (F : L2.Fun K x qual st f fd) (S : FnScope N ps (defScope st))
    (hbody : ∀ (cdv : Value) (A : Around) (outer : List Env) (s : Shared) (H : Hp) (E : XK), Room k (A.deeper (envOfC qual (defScope st) s.heap.objs.size f cdv)) →
      SVs GAll (cxOf L2.CX0 P w K mg base N qual (defScope st) f cdv A outer s H E).nox (defBody st) m) (hpn : ps.length ≤ N.length := by decide) (hm : ∀ i, fl[i]? = some true → i ∈ mu) :
    FnOk P w K mg base L2.CX0 (k + 1) f fd ps (spOfE K ps.length mu (runFE fl mu N.length m)) := by
  refine F.ok S (fun vs H Q E h => h.1) fun cdv A outer s H vs Q E hr h => ?_
  obtain ⟨hl, ds, ν, hds, ar, Qd, q, hQ⟩ := h
  have B := hbody cdv A outer s H E hr
  unfold runFE at q
  obtain ⟨hf, q⟩ := initKM_to _ _ _ _ q
  have e := initM_ok (N := N) ar (by omega) hf (by rw [hl]; exact hpn) hm
  refine ⟨_, B.pss (hole H mu ν) (fun i => vs[i]?) True.intro, initEM fl N.length ds, ν, e, ?_⟩
  -- the heap behind, from the names at the end
  have back : ∀ (δ : En) (es : List D) (σ' : L2.St) (H1 H' : Hp) (ν' : Nu), EnvOk K (hole H mu ν) (fun i => vs[i]?) H1 σ' δ ν' → Same H1 H' → (∀ (k j : Nat), mu[k]? = some j → ∃ e, es[k]? = some e ∧ δ[j]? = some (some ⟨e, true, true⟩)) → Back K H H' mu vs es ν ν' := fun δ es σ' H1 H' ν' E' s1 hg => by
    have slot : ∀ i ∈ mu, ∃ e, δ[i]? = some (some ⟨e, true, true⟩) := fun i hi => by
      obtain ⟨k, hk⟩ := List.getElem?_of_mem hi
      obtain ⟨e, _, h⟩ := hg k i hk
      exact ⟨e, h⟩
    refine ⟨fun a o h hn => ?_, fun k i h => ?_, fun i hi => ?_, fun i hi j hj n => ?_⟩
    · refine s1 _ _ (E'.sm _ _ ?_)
      unfold hole
      rw [if_neg (fun ⟨j, hj, hm⟩ => hn j hj hm)]
      exact h
    · obtain ⟨e, he, hs⟩ := hg k i h
      obtain ⟨v, _, r, p⟩ := E'.at_ i _ hs
      exact ⟨v, e, p rfl, he, r.same s1⟩
    · obtain ⟨e, hs⟩ := slot i hi
      obtain ⟨n, f⟩ := E'.nd i _ hs rfl
      refine ⟨n, fun a ha => ?_⟩
      have := f a ha
      unfold hole at this
      split at this
      · rename_i z
        exact .inr z
      · exact .inl this
    · obtain ⟨e, hs⟩ := slot i hi
      obtain ⟨e', hs'⟩ := slot j hj
      exact E'.dj i j _ _ n hs rfl hs'
  refine B.mono _ _ _ (fun δ q σ' H' ν' E' => ?_) (fun y δ q v σ' H1 H' ν' M' E' s1 o => ?_) q
  · obtain ⟨es, q, _, hg⟩ := getpK_to q
    exact hQ _ _ q .non H' ν' (back δ es σ' H' H' ν' E' (Same.refl _) hg)
  · obtain ⟨es, q, _, hg⟩ := getpK_to q
    exact hQ _ _ q v H' ν' (back δ es σ' H1 H' ν' E' s1 hg)
theorem cal_defE {x : Str} {st : Stmt} {f : Addr} {fd : FuncData} {N ps : List Str} {k : Nat} {m : DS} {fl : List Bool} {mu : List Nat} (F : L2.Fun K x x st f fd) (S : FnScope N ps (defScope st)) (hm : mg x = some (.ref f)) (hb : Binds K fd ps [])
    (hbody : ∀ (cdv : Value) (A : Around) (outer : List Env) (s : Shared) (H : Hp) (E : XK), Room k (A.deeper (envOfC x (defScope st) s.heap.objs.size f cdv)) →
      SVs GAll (cxOf L2.CX0 P w K mg base N x (defScope st) f cdv A outer s H E).nox (defBody st) m) (hpn : ps.length ≤ N.length := by decide) (hfl : ((List.range fl.length).all fun i => !(fl.getD i false) || mu.contains i) = true := by decide) :
    CalE P w K mg base x (k + 1) ps.length mu (runFE fl mu N.length m) :=
  ⟨f, fd, ps, ok_defE F S hbody hpn (fl_ok hfl), hm, F.kp, hb⟩
end
/-! ### f(a, …, y, …) as a statement: f changes the lists of the names js, what it hands back is dropped -/
def mCallE (n : Nat) (js : List Nat) (w : WM) (g : DA) : DS := fun E δ => getsK js δ fun ds => g δ fun xs => (xs.length + js.length = n ∧ sepB js xs = true) ∧ ∃ Qd : D → List D → Prop, w (xs.map Val.d ++ ds) Qd ∧ ∀ d es, Qd d es → putsK js es δ fun δ' => E.nx δ'
theorem mCallE_mono {n : Nat} {js : List Nat} {w : WM} {g : DA} (hg : ∀ δ (P P' : List Val → Prop), (∀ x, P x → P' x) → g δ P → g δ P') : MonoS (mCallE n js w g) := fun A B δ h1 h2 q =>
  getsK_mono (fun ds q => hg _ _ _ (fun xs ⟨c, Qd, a, b⟩ => ⟨c, Qd, a, fun d es z => putsK_mono (fun δ q => h1 _ q) (b d es z)⟩) q) q
section
variable {X : Cx} {e : Expr} {es : List Expr} {g : DA} {pos : Pos}
theorem sv_callME {jr k n : Nat} {js mu : List Nat} {wf : WM} {x : Str} {p posC : Pos} (c : CalE X.prog X.w X.K X.mg X.base x k n mu wf) (hg : Gl X x) (hr : Room jr X.A) (ha : EM G X (e :: es) g js) (hk : k ≤ jr := by decide)
    (hmu : mu = (List.range js.length).map (n - js.length + ·) := by decide) (hjs : js.Nodup := by decide)
    (hs : swapsWith (.Call (.Name x p) (e :: es) [] posC) none pos.line X.env = pure false := by rfl)
    (hdb : (x == ("__debug__" : Str)) = false := by decide) (he : starEach (e :: es) X.env = (false, eval e X.env) :: starEach es X.env := by rfl) (hpl : (backTo posC (starEach es X.env)).any (·.1) = false := by rfl) :
    SV G X (.Expr (.Call (.Name x p) (e :: es) [] posC) pos) (mCallE n js wf g) := by
  obtain ⟨f, fd, ps, F, hm, kp, hb⟩ := c.ex
  refine ⟨mCallE_mono ha.mono, fun H0 π hG => psi (ps_expr (pe_call (p := p) (pos := posC) F (hr.mono hk) hg hm kp hb .nil L2.pass0 (ha.pa H0 π hG) hdb he hpl) hs) fun D σ H ⟨δ, ν, E, q⟩ => ?_⟩
  obtain ⟨ds, q, ld, hds⟩ := getsK_to q
  have own : ∀ j ∈ js, ∃ d pn, δ[j]? = some (some ⟨d, true, pn⟩) := fun j hj => by
    obtain ⟨k, hk⟩ := List.getElem?_of_mem hj
    obtain ⟨d, pn, _, h⟩ := hds k j hk
    exact ⟨d, pn, h⟩
  refine ⟨δ, ν, E, fun j hj => ?_, ha.mono _ _ _ (fun xs q vs H1 Ms ws s1 o1 hl hw => ?_) q⟩
  · obtain ⟨d, pn, h⟩ := own j hj
    obtain ⟨v, hv, _⟩ := E.at_ j _ h
    exact ⟨v, hv⟩
  · obtain ⟨⟨hn, sep⟩, Qd, q1, q2⟩ := q
    have E1 := E.same s1
    have lv := o1.length
    have hmu' : ∀ (k i : Nat), mu[k]? = some i → ∃ j, js[k]? = some j ∧ i = xs.length + k := fun k i h => by
      rw [hmu, List.getElem?_map] at h
      by_cases hk : k < js.length
      · rw [List.getElem?_range hk] at h
        simp at h
        exact ⟨js[k], List.getElem?_eq_getElem hk, by omega⟩
      · rw [List.getElem?_eq_none (by simpa using hk)] at h
        simp at h
    have mem : ∀ i ∈ mu, ∃ k j, mu[k]? = some i ∧ js[k]? = some j ∧ i = xs.length + k := fun i hi => by
      obtain ⟨k, hk⟩ := List.getElem?_of_mem hi
      obtain ⟨j, hj, e⟩ := hmu' k i hk
      exact ⟨k, j, hk, hj, e⟩
    have muj : ∀ j ∈ js, xs.length + js.idxOf j ∈ mu ∧ mu[js.idxOf j]? = some (xs.length + js.idxOf j) ∧ js[js.idxOf j]? = some j := fun j hj => by
      obtain ⟨k, hk⟩ := List.getElem?_of_mem hj
      have e := idxOf_get hjs hk
      rw [e]
      have hk2 := (List.getElem?_eq_some_iff.mp hk).1
      have h : mu[k]? = some (xs.length + k) := by
        rw [hmu, List.getElem?_map, List.getElem?_range hk2]
        simp
        omega
      exact ⟨List.mem_of_getElem? h, h, hk⟩
    -- the arguments' lists
    let ν1 : Nu := fun i => if i < xs.length then Ms.getD i [] else ν (js.getD (i - xs.length) 0)
    have nu2 : ∀ k j, js[k]? = some j → ν1 (xs.length + k) = ν j := fun k j h => by
      show (if xs.length + k < xs.length then _ else ν (js.getD (xs.length + k - xs.length) 0)) = ν j
      rw [if_neg (by omega), show xs.length + k - xs.length = k by omega]
      simp [List.getD_eq_getElem?_getD, h]
    have ao : ArgsOk X.K H1 mu (vs ++ ws) (xs.map Val.d ++ ds) ν1 := by
      refine ⟨fun i d h => ?_, fun i hi => ?_, fun i hi j d n h a ha => ?_⟩
      · by_cases c : i < xs.length
        · rw [List.getElem?_append_left (by simpa using c), List.getElem?_map, List.getElem?_eq_getElem c] at h
          simp at h
          obtain ⟨v, M, h1, h2, h3⟩ := o1.getv (List.getElem?_eq_getElem c)
          refine ⟨v, by rw [List.getElem?_append_left (by omega)]; exact h1, ?_⟩
          show Rp X.K H1 v d (if i < xs.length then Ms.getD i [] else _)
          rw [if_pos c, List.getD_eq_getElem?_getD, h2, ← h]
          exact h3.rp
        · rw [List.getElem?_append_right (by simpa using c)] at h
          simp at h
          have hk2 : i - xs.length < js.length := by rw [← ld]; exact (List.getElem?_eq_some_iff.mp h).1
          have hj := List.getElem?_eq_getElem hk2
          obtain ⟨d', pn, g1, g2⟩ := hds _ _ hj
          rw [h] at g1
          cases g1
          obtain ⟨w, hw1, hw2⟩ := hw _ _ hj
          obtain ⟨v, a1, a2, _⟩ := E1.at_ _ _ g2
          rw [hw2] at a1
          cases a1
          refine ⟨w, by rw [List.getElem?_append_right (by omega), lv]; exact hw1, ?_⟩
          have := nu2 _ _ hj
          rw [show xs.length + (i - xs.length) = i by omega] at this
          rw [this]
          exact a2
      · obtain ⟨k, j, h1, h2, rfl⟩ := mem i hi
        rw [nu2 k j h2]
        obtain ⟨d, pn, g⟩ := own j (List.mem_of_getElem? h2)
        exact (E1.nd j _ g rfl).1
      · obtain ⟨k, j1, h1, h2, rfl⟩ := mem i hi
        rw [nu2 k j1 h2] at ha
        obtain ⟨d1, pn1, g⟩ := own j1 (List.mem_of_getElem? h2)
        by_cases c : j < xs.length
        · obtain ⟨v, M, _, e2, e3⟩ := o1.getv (List.getElem?_eq_getElem c)
          show a ∉ (if j < xs.length then Ms.getD j [] else _)
          rw [if_pos c, List.getD_eq_getElem?_getD, e2]
          exact e3.al j1 _ g rfl (sepB_to sep (List.getElem_mem c) (List.mem_of_getElem? h2)) a ha
        · rw [List.getElem?_append_right (by simpa using c)] at h
          simp at h
          have hk2 : j - xs.length < js.length := by rw [← ld]; exact (List.getElem?_eq_some_iff.mp h).1
          have hj := List.getElem?_eq_getElem hk2
          have := nu2 _ _ hj
          rw [show xs.length + (j - xs.length) = j by omega] at this
          rw [this]
          obtain ⟨d2, pn2, g2⟩ := own _ (List.mem_of_getElem? hj)
          refine E1.dj j1 _ _ _ (fun z => n ?_) g rfl g2 a ha
          rw [← z] at hj
          have e1 := idxOf_get hjs hj
          have e2 := idxOf_get hjs h2
          omega
    show spOfE X.K n mu wf ((vs ++ ws) ++ []) H1 _ L2.E0
    rw [List.append_nil]
    refine ⟨by rw [List.length_append, lv, hl]; exact hn, _, ν1, by rw [List.length_append, List.length_map, ld]; exact hn, ao, Qd, q1, fun d es2 z v H' ν' bk => ?_⟩
    obtain ⟨δ', q3, l3, l4, k3, p3⟩ := putsK_to hjs (q2 d es2 z)
    have E2 : EnvOk X.K H0 π H' σ δ' (fun k => if k ∈ js then ν' (xs.length + js.idxOf k) else ν k) := by
      refine E1.after (ν' := fun k => ν' (xs.length + js.idxOf k)) own (fun a o h hn => bk.fr a o h fun i hi => ?_) l3 k3 (fun j hj => ?_) (fun j hj => ?_) fun i hi j hj n => ?_
      · obtain ⟨k, j, _, h2, rfl⟩ := mem i hi
        rw [nu2 k j h2]
        exact hn j (List.mem_of_getElem? h2)
      · obtain ⟨m1, m2, m3⟩ := muj j hj
        obtain ⟨e', d', pn, g1, g2, g3⟩ := p3 _ _ m3
        obtain ⟨v', e2, b1, b2, b3⟩ := bk.at_ _ _ m2
        rw [g1] at b2
        cases b2
        obtain ⟨w, hw1, hw2⟩ := hw _ _ m3
        rw [List.getElem?_append_right (by omega), lv, show xs.length + js.idxOf j - xs.length = js.idxOf j by omega, hw1] at b1
        cases b1
        exact ⟨_, d', pn, _, g2, g3, hw2, b3⟩
      · obtain ⟨m1, m2, m3⟩ := muj j hj
        obtain ⟨n1, n2⟩ := bk.nd _ m1
        refine ⟨n1, fun a ha => (n2 a ha).imp id fun ⟨i, hi, hm⟩ => ?_⟩
        obtain ⟨k, j', _, h2, rfl⟩ := mem i hi
        rw [nu2 k j' h2] at hm
        exact ⟨j', List.mem_of_getElem? h2, hm⟩
      · obtain ⟨m1, m2, m3⟩ := muj i hi
        obtain ⟨m1', m2', m3'⟩ := muj j hj
        refine bk.dj _ m1 _ m1' fun z => n ?_
        have : js.idxOf i = js.idxOf j := by omega
        rw [this] at m3
        rw [m3] at m3'
        cases m3'
        rfl
    exact q3 _ _ _ E2
end

/-! ### an own pair of lists: x[i][k] = e; x[i][k].append(e), where x is read no more -/
def ownT (δ : En) (j : Nat) : Option (List D × Bool) := match δ[j]? with
  | some (some ⟨.tuple ds, true, pn⟩) => some (ds, pn)
  | _ => none
theorem ownT_some {δ : En} {j : Nat} {ds : List D} {pn : Bool} (h : ownT δ j = some (ds, pn)) : δ[j]? = some (some ⟨.tuple ds, true, pn⟩) := by
  unfold ownT at h
  split at h
  · rename_i e; cases h; exact e
  · cases h
theorem own_tup {K : PySem.W.Frag} {H0 H : Hp} {π : Nat → Option V} {σ : L2.St} {δ : En} {ν : Nu} (E : EnvOk K H0 π H σ δ ν) {j : Nat} {ds : List D} {pn : Bool} (hj : δ[j]? = some (some ⟨.tuple ds, true, pn⟩)) :
    ∃ p xs, σ[j]? = some (some (.ref p)) ∧ SqT K H p xs ∧ Rps K H xs ds (ν j) ∧ (ν j).Nodup ∧ ∀ a ∈ ν j, H0 a = none := by
  obtain ⟨v, hv, r, _⟩ := E.at_ j _ hj
  obtain ⟨p, xs, rfl, hp, rs⟩ := r.tuple_
  have h := E.nd j _ hj rfl
  exact ⟨p, xs, hv, hp, rs, h.1, h.2⟩
section
variable {X : Cx} {fi fj fk f : DE} {pos : Pos}
def mSetTI (j : Nat) (fi fj fe : DE) : DS := fun E δ => match ownT δ j with
  | some (ds, pn) => fe δ fun x => fi δ fun y => (match y.d with
    | .int k => ∃ m es, (ixN ds.length k = some m ∧ ds[m]? = some (.list es)) ∧ fj δ fun z => (match z.d with
      | .int l => ∃ n, (imm x.d = true ∧ ixN es.length l = some n) ∧ setK δ j (some ⟨.tuple (ds.set m (.list (es.set n x.d))), true, pn⟩) E.nx
      | _ => False)
    | _ => False)
  | none => False
theorem mSetTI_mono {j : Nat} {fe : DE} (hi : MonoE fi) (hj : MonoE fj) (he : MonoE fe) : MonoS (mSetTI j fi fj fe) := fun A B δ h1 h2 q => by
  unfold mSetTI at *
  split at q
  · refine he _ _ _ (fun x q => hi _ _ _ (fun y q => ?_) q) q
    split at q
    · obtain ⟨m, es, a, q⟩ := q
      refine ⟨m, es, a, hj _ _ _ (fun z q => ?_) q⟩
      split at q
      · obtain ⟨n, a2, q⟩ := q
        refine ⟨n, a2, ?_⟩
        rw [setK_eq] at q ⊢
        exact h1 _ q
      · exact q.elim
    · exact q.elim
  · exact q.elim
theorem sv_setTI (j : Nat) {x : Str} {px ps ps2 : Pos} {a b e : Expr} {fe : DE} (hi : EV G X a fi) (hs0 : PlainIx a) (hj0 : EV G X b fj) (he : EV G X e fe) (hN : X.N[j]? = some x := by rfl) (hv : Vis X.env.scope x := by first | exact Or.inl rfl | exact Or.inr (Or.inl rfl) | exact Or.inr (Or.inr rfl))
    (hd : (x == ("__debug__" : Str)) = false := by decide) (hcd : (x == ("__classdict__" : Str)) = false := by decide)
    (ha : ∀ v, assign (.Subscript (.Subscript (.Name x px) a ps2) b ps) X.env v = (do
      let ov ← holding [v] (eval (.Subscript (.Name x px) a ps2) X.env)
      let iv ← holding [v, ov] (eval b X.env)
      standAt ps
      holding [v, ov, iv] (setItem ov iv v)
      release [v, ov, iv] []) := by intro _; rfl)
    (hs : swapsWithSole [.Subscript (.Subscript (.Name x px) a ps2) b ps] e pos.line X.env = pure false := by rfl) (hw : swappedStores [.Subscript (.Subscript (.Name x px) a ps2) b ps] e X.env = pure none := by rfl)
    (h1 : (assignEach [.Subscript (.Subscript (.Name x px) a ps2) b ps] X.env).map (·.2) = [assign (.Subscript (.Subscript (.Name x px) a ps2) b ps) X.env] := by rfl) :
    SV G X (.Assign [.Subscript (.Subscript (.Name x px) a ps2) b ps] e pos) (mSetTI j fi fj fe) := by
  refine ⟨mSetTI_mono hi.mono hj0.mono he.mono, fun H0 π hG => psi (ps_asg (he.pe H0 π hG) (pg_sub (pe_ix ix_seq (pe_var hN hv hd hcd) (hi.pe H0 π hG) hs0) (hj0.pe H0 π hG) set_list ha) hs hw h1) fun D σ H ⟨δ, ν, E, q⟩ => ?_⟩
  unfold mSetTI at q
  split at q
  · rename_i ds pn hj
    have hj := ownT_some hj
    obtain ⟨p, xs, hv, hp, rs, nd, fr⟩ := own_tup E hj
    refine ⟨δ, ν, E, he.mono _ _ _ (fun y q w H1 M s1 o1 => ?_) q⟩
    refine ⟨_, hv, δ, ν, E.same s1, hi.mono _ _ _ (fun z q u H2 L s2 o2 => ?_) q⟩
    have rz := o2.rp
    revert q
    cases hz : z.d <;> first | exact False.elim | skip
    rename_i k
    rintro ⟨m, es, ⟨hm, hes⟩, q⟩
    rw [hz] at rz
    obtain ⟨v, A, M1, B, g1, g2, g3, g4⟩ := (rs.same (s1.trans s2)).get2 hes
    obtain ⟨a1, ys, M', rfl, rfl, ha1, rs'⟩ := g3.list_
    have hat : atI xs k = some (.ref a1) := by
      unfold atI
      rw [rs.length, hm]
      exact g1
    refine .inr (.inl ⟨p, xs, k, .ref a1, rfl, rz.int_, SqT.same (s1.trans s2) hp, hat, δ, ν, E.same (s1.trans s2), hj0.mono _ _ _ (fun t q u3 H3 L3 s3 o3 => ?_) q⟩)
    have rt := o3.rp
    revert q
    cases ht : t.d <;> first | exact False.elim | skip
    rename_i l
    rintro ⟨n, ⟨im, hl⟩, q⟩
    rw [ht] at rt
    rw [setK_eq] at q
    have s13 := (s1.trans s2).trans s3
    obtain ⟨v2, A2, M2, B2, k1, k2, k3, k4⟩ := (rs.same s13).get2 hes
    rw [g1] at k1
    cases k1
    obtain ⟨a2, ys2, M3, e1, rfl, ha2, rs2⟩ := k3.list_
    cases e1
    have e2 := s3 _ _ ha1
    rw [ha2] at e2
    cases e2
    have rw0 : Rp X.K H3 w y.d [] := by
      have r := (o1.rp.same s2).same s3
      rw [r.imm im] at r
      exact r
    have hnl : n < es.length := by
      unfold ixN at hl
      split at hl
      · split at hl
        · cases hl; omega
        · cases hl
      · split at hl
        · cases hl; omega
        · cases hl
    obtain ⟨A3, O3, B3, f1, f2⟩ := rs2.set rw0 hnl
    have nN : (ν j).Nodup := nd
    have aN : a1 ∈ ν j := by rw [k2]; simp
    have nN2 := nN
    rw [k2, List.nodup_append, List.nodup_append] at nN2
    obtain ⟨⟨nA, nM, nAM⟩, nB, nAB⟩ := nN2
    have aA : a1 ∉ A2 := fun h => nAM a1 h a1 List.mem_cons_self rfl
    have aB : a1 ∉ B2 := fun h => nAB a1 (List.mem_append_right _ List.mem_cons_self) a1 h rfl
    have nM' := List.nodup_cons.mp nM
    have sub3 : (A3 ++ [] ++ B3).Sublist M3 := by
      rw [f1, List.append_nil]
      exact (List.sublist_append_left A3 O3).append (List.Sublist.refl B3)
    have r0 := Rps.upd (ys := ys.set n w) ha2 f2 fun h => nM'.1 (sub3.mem h)
    have r1 : Rp X.K (upd H3 a1 (.lst (ys.set n w))) (.ref a1) (.list (es.set n y.d)) (a1 :: (A3 ++ [] ++ B3)) := .lst upd_same r0
    have r2 := k4 a1 (ys.set n w) ys ha2 aA aB _ _ r1
    have r3 : Rp X.K (upd H3 a1 (.lst (ys.set n w))) (.ref p) (.tuple (ds.set m (.list (es.set n y.d)))) (A2 ++ a1 :: (A3 ++ [] ++ B3) ++ B2) := .tup (SqT.upd ha2 (SqT.same s13 hp)) r2
    have subN : (A2 ++ a1 :: (A3 ++ [] ++ B3) ++ B2).Sublist (ν j) := by
      rw [k2]
      exact ((List.Sublist.refl A2).append (sub3.cons₂ a1)).append (List.Sublist.refl B2)
    have E1 := E.same s13
    refine ⟨a1, ys, l, n, rfl, rt.int_, ha2, by rw [rs2.length]; exact hl, q _ _ _ (E1.writeD (s := ⟨.tuple ds, true, pn⟩) hj rfl hv aN ha2 r3 (nN.sublist subN) (fun b hb => fr b (subN.mem hb)) (fun b hb k' t' n' h => E1.dj j k' _ t' (Ne.symm n') hj rfl h b (subN.mem hb)) fun k' t' n' h ow b hb hm => E1.dj k' j t' _ n' h ow hj b hb (subN.mem hm))⟩
  · exact q.elim
/-- a name is forgotten, a list of its own changes -/
theorem EnvOk.forget {K : PySem.W.Frag} {H0 H : Hp} {π : Nat → Option V} {σ : L2.St} {δ : En} {ν : Nu} (E : EnvOk K H0 π H σ δ ν) {j : Nat} {s : Slot} {q : Addr} {zs ys : List V} (hj : δ[j]? = some (some s)) (ho : s.own = true) (hq : q ∈ ν j) (hp : H q = some (.lst zs)) :
    EnvOk K H0 π (upd H q (.lst ys)) σ (δ.set j none) ν := by
  have hl := (List.getElem?_eq_some_iff.mp hj).1
  have hp0 : H0 q = none := (E.nd j s hj ho).2 q hq
  have look : ∀ k t, (δ.set j none)[k]? = some (some t) → k ≠ j ∧ δ[k]? = some (some t) := fun k t h => by
    by_cases e : k = j
    · subst e
      rw [List.getElem?_set_self hl] at h
      cases h
    · rw [List.getElem?_set_ne (Ne.symm e)] at h
      exact ⟨e, h⟩
  refine ⟨by simpa using E.len, fun b o h => ?_, fun k t h => ?_, fun k t h o => ?_, fun k l t u n h o h' a ha => ?_⟩
  · rw [upd_ne (fun e => by subst e; rw [hp0] at h; cases h)]
    exact E.sm b o h
  · obtain ⟨n, h⟩ := look k t h
    obtain ⟨w, a, b, c⟩ := E.at_ k t h
    exact ⟨w, a, Rp.upd hp b fun z => E.dj j k s t (Ne.symm n) hj ho h q hq z, c⟩
  · exact E.nd k t (look k t h).2 o
  · exact E.dj k l t u n (look k t h).2 o (look l u h').2 a ha
def mAppTF (j : Nat) (fi fk f : DE) : DS := fun E δ => match ownT δ j with
  | some (ds, _) => fi δ fun y => (match y.d with
    | .int k => ∃ m es, (ixN ds.length k = some m ∧ ds[m]? = some (.list es)) ∧ fk δ fun z => (match z.d with
      | .int l => ∃ n fs, (ixN es.length l = some n ∧ es[n]? = some (.list fs)) ∧ f δ fun x => (imm x.d = true ∧ fs.length < sizeLine) ∧ setK δ j none E.nx
      | _ => False)
    | _ => False)
  | none => False
theorem mAppTF_mono {j : Nat} (hi : MonoE fi) (hk : MonoE fk) (hm : MonoE f) : MonoS (mAppTF j fi fk f) := fun A B δ h1 h2 q => by
  unfold mAppTF at *
  split at q
  · refine hi _ _ _ (fun y q => ?_) q
    split at q
    · obtain ⟨m, es, a, q⟩ := q
      refine ⟨m, es, a, hk _ _ _ (fun z q => ?_) q⟩
      split at q
      · obtain ⟨n, fs, a2, q⟩ := q
        refine ⟨n, fs, a2, hm _ _ _ (fun x q => ⟨q.1, ?_⟩) q⟩
        have q2 := q.2
        rw [setK_eq] at q2 ⊢
        exact h1 _ q2
      · exact q.elim
    · exact q.elim
  · exact q.elim
theorem sv_appTF (j : Nat) {x : Str} {px ps ps2 pm pe : Pos} {i k e : Expr} (hi : EV G X i fi) (hs0 : PlainIx i) (hk : EV G X k fk) (hs2 : PlainIx k) (he : EV G X e f) (hN : X.N[j]? = some x := by rfl) (hv : Vis X.env.scope x := by first | exact Or.inl rfl | exact Or.inr (Or.inl rfl) | exact Or.inr (Or.inr rfl)) (hd : (x == ("__debug__" : Str)) = false := by decide)
    (hcd : (x == ("__classdict__" : Str)) = false := by decide) (hs1 : starEach [e] X.env = (false, eval e X.env) :: starEach [] X.env := by rfl)
    (hs : swapsWith (.Call (.Attribute (.Subscript (.Subscript (.Name x px) i ps) k ps2) "append" pm) [e] [] pe) none pos.line X.env = pure false := by rfl)
    (hbm : ∀ {to : TE} {t : TA}, PE X (.Subscript (.Subscript (.Name x px) i ps) k ps2) to → PA X [e] t → PE X (.Call (.Attribute (.Subscript (.Subscript (.Name x px) i ps) k ps2) "append" pm) [e] [] pe) (tBM X.K "list" rAppend to t) := by
      intro _ _ h1 h2; exact pe_bm PySem.F.plainAttrs_list PySem.F.slot_list_append PySem.F.type_list_append mt_append h1 h2) :
    SV G X (.Expr (.Call (.Attribute (.Subscript (.Subscript (.Name x px) i ps) k ps2) "append" pm) [e] [] pe) pos) (mAppTF j fi fk f) := by
  refine ⟨mAppTF_mono hi.mono hk.mono he.mono, fun H0 π hG => psi (ps_expr (hbm (pe_ix ix_seq (pe_ix ix_seq (pe_var hN hv hd hcd) (hi.pe H0 π hG) hs0) (hk.pe H0 π hG) hs2) (pa_cons (he.pe H0 π hG) pa_nil hs1)) hs) fun D σ H ⟨δ, ν, E, q⟩ => ?_⟩
  unfold mAppTF at q
  split at q
  · rename_i ds pn hj
    have hj := ownT_some hj
    obtain ⟨p, xs, hv, hp, rs, nd, fr⟩ := own_tup E hj
    refine ⟨_, hv, δ, ν, E, hi.mono _ _ _ (fun z q u H1 L s1 o1 => ?_) q⟩
    have rz := o1.rp
    revert q
    cases hz : z.d <;> first | exact False.elim | skip
    rename_i i1
    rintro ⟨m, es, ⟨hm, hes⟩, q⟩
    rw [hz] at rz
    obtain ⟨v, A, M, B, g1, g2, g3, g4⟩ := (rs.same s1).get2 hes
    obtain ⟨a, ys, M', rfl, rfl, ha, rs'⟩ := g3.list_
    have hat : atI xs i1 = some (.ref a) := by
      unfold atI
      rw [rs.length, hm]
      exact g1
    refine .inr (.inl ⟨p, xs, i1, .ref a, rfl, rz.int_, SqT.same s1 hp, hat, δ, ν, E.same s1, hk.mono _ _ _ (fun z2 q u2 H2 L2 s2 o2 => ?_) q⟩)
    have rz2 := o2.rp
    revert q
    cases hz2 : z2.d <;> first | exact False.elim | skip
    rename_i i2
    rintro ⟨n, fs, ⟨hn, hfs⟩, q⟩
    rw [hz2] at rz2
    obtain ⟨v2, A2, M2, B2, k1, k2, k3, k4⟩ := (rs'.same s2).get2 hfs
    obtain ⟨b, ws, M3, rfl, rfl, hb, rs2⟩ := k3.list_
    have hat2 : atI ys i2 = some (.ref b) := by
      unfold atI
      rw [rs'.length, hn]
      exact k1
    refine .inl ⟨a, ys, i2, .ref b, rfl, rz2.int_, SqL.of (s2 _ _ ha), hat2, .inl ⟨rfl, _, SqL.of hb⟩, δ, ν, (E.same s1).same s2, he.mono _ _ _ (fun y q w H3 W s3 o3 => ?_) q⟩
    obtain ⟨⟨im, hz⟩, q⟩ := q
    rw [setK_eq] at q
    have bN : b ∈ ν j := by
      rw [g2, k2]
      simp
    exact ⟨b, ws, w, rfl, rfl, s3 _ _ hb, by rw [rs2.length]; exact hz, q _ _ _ ((((E.same s1).same s2).same s3).forget hj rfl bN (s3 _ _ hb))⟩
  · exact q.elim
end
end KT
/-! Kt1: sets of whole numbers: set(), x in s, s.add(x). -/
namespace KT
open PySem PySem.Spec PyProof.Rows L2
variable [WT]
/-- the members of a set, in the order in which they came -/
def setOf : D → Option (List Int)
  | .dict ((.bool true, .none) :: r) => some (r.filterMap fun kv => match kv.1 with
    | .int z => some z
    | _ => none)
  | _ => none
theorem setOf_setD (zs : List Int) : setOf (setD zs) = some zs := by
  unfold setD setOf
  congr 1
  induction zs with
  | nil => rfl
  | cons z zs ih => simpa using ih
theorem Rp.set_ {K : PySem.W.Frag} {H : Hp} {v : V} {d : D} {N : List Addr} {zs : List Int} (r : Rp K H v d N) (h : setOf d = some zs) : ∃ a, v = .ref a ∧ d = setD zs ∧ N = [a] ∧ H a = some (SetO WT.w a (fun z => decide (z ∈ zs)) zs.length) ∧ zs.Nodup := by
  cases r with
  | set hs nd =>
    rw [setOf_setD] at h
    cases h
    exact ⟨_, rfl, rfl, rfl, hs, nd⟩
  | _ => simp [setOf, scrP, dkD, dtD, insD, xcD] at h
def dSet0 : DE := fun _ P => P ⟨setD [], true, []⟩
section
variable {X : Cx} {a b e : Expr} {fa fb f : DE} {pos : Pos}
theorem ev_set0 {G : GT} {p : Pos} (hw : X.w = WT.w) (hg : Gl X "set") (hm : X.mg "set" = none) (hv : bootBuiltins "set" = some (.type "set")) : EV G X (.Call (.Name "set" p) [] [] pos) dSet0 := by
  refine ⟨fun δ P P' h q => h _ q, fun H0 π hG => pei (pe_callTy0 cr_set0 hg hm hv (by decide) (by decide)) fun σ H Q ⟨δ, ν, E, q⟩ => ?_⟩
  refine ⟨rfl, fun l hl => ?_⟩
  have r : Rp X.K (upd H l (SetO X.w l (fun _ => false) 0)) (.ref l) (setD []) [l] := by
    refine .set ?_ List.nodup_nil
    rw [upd_same, hw]
    congr 2
  exact q _ _ [l] (Same.upd_new hl) (FR.vok (Same.refl H) r (by simp) (fun a ha => by rw [List.mem_singleton.mp ha]; exact hl) E)
/-- k in s, k not in s -/
def kInS (n : Bool) : K2 := fun d e Q => ∃ (k : Int) (zs : List Int), (d = .int k ∧ e = setD zs) ∧ Q (.bool (ng n (decide (k ∈ zs))))
theorem kInS_mono (n : Bool) : ∀ d e (Q Q' : D → Prop), (∀ x, Q x → Q' x) → kInS n d e Q → kInS n d e Q' := fun d e Q Q' h ⟨k, zs, a, q⟩ => ⟨k, zs, a, h _ q⟩
theorem ok_inS (hw : X.w = WT.w := by rfl) : R2Ok X (rSIn X.w) (kInS false) := by
  refine ⟨kInS_mono false, fun H x y d e N M Q R rx ry q h => ?_⟩
  obtain ⟨k, zs, ⟨rfl, rfl⟩, q⟩ := q
  obtain ⟨a, rfl, _, rfl, ha, _⟩ := ry.set_ (setOf_setD zs)
  rw [rx.int_]
  exact ⟨k, a, _, _, rfl, rfl, by rw [hw]; exact ha, h _ _ (FR.imm (.bl _) rfl q)⟩
theorem ok_ninS (hw : X.w = WT.w := by rfl) : R2Ok X (rSNotIn X.w) (kInS true) := by
  refine ⟨kInS_mono true, fun H x y d e N M Q R rx ry q h => ?_⟩
  obtain ⟨k, zs, ⟨rfl, rfl⟩, q⟩ := q
  obtain ⟨a, rfl, _, rfl, ha, _⟩ := ry.set_ (setOf_setD zs)
  rw [rx.int_]
  exact ⟨k, a, _, _, rfl, rfl, by rw [hw]; exact ha, h _ _ (FR.imm (.bl (!decide (k ∈ zs))) rfl q)⟩
/-- an own set gets a member -/
theorem EnvOk.writeS {K : PySem.W.Frag} {H0 H : Hp} {π : Nat → Option V} {σ : L2.St} {δ : En} {ν : Nu} (E : EnvOk K H0 π H σ δ ν) {j : Nat} {s : Slot} {q : Addr} {o o' : HO} {d' : D} (hj : δ[j]? = some (some s)) (ho : s.own = true)
    (hv : σ[j]? = some (some (.ref q))) (hn : ν j = [q]) (hp : H q = some o) (hm : Mut o = true) (r : Rp K (upd H q o') (.ref q) d' [q]) : EnvOk K H0 π (upd H q o') σ (δ.set j (some ⟨d', true, s.pin⟩)) ν := by
  have hl := (List.getElem?_eq_some_iff.mp hj).1
  have hq : q ∈ ν j := by rw [hn]; exact List.mem_cons_self
  have hp0 : H0 q = none := (E.nd j s hj ho).2 q hq
  have look : ∀ k t, (δ.set j (some ⟨d', true, s.pin⟩))[k]? = some (some t) → (k = j ∧ t = ⟨d', true, s.pin⟩) ∨ (k ≠ j ∧ δ[k]? = some (some t)) := fun k t h => by
    by_cases e : k = j
    · subst e
      rw [List.getElem?_set_self hl] at h
      cases h
      exact .inl ⟨rfl, rfl⟩
    · rw [List.getElem?_set_ne (Ne.symm e)] at h
      exact .inr ⟨e, h⟩
  refine ⟨by simpa using E.len, fun b x h => ?_, fun k t h => ?_, fun k t h x => ?_, fun k l t u n h x h' a ha => ?_⟩
  · rw [upd_ne (fun e => by subst e; rw [hp0] at h; cases h)]
    exact E.sm b x h
  · rcases look k t h with ⟨rfl, rfl⟩ | ⟨n, h⟩
    · obtain ⟨w, a, _, c⟩ := E.at_ k s hj
      rw [hv] at a
      cases a
      exact ⟨_, hv, by rw [hn]; exact r, c⟩
    · obtain ⟨w, a, b, c⟩ := E.at_ k t h
      exact ⟨w, a, Rp.updG hp hm b fun z => E.dj j k s t (Ne.symm n) hj ho h q hq z, c⟩
  · rcases look k t h with ⟨rfl, rfl⟩ | ⟨n, h⟩
    · exact E.nd k s hj ho
    · exact E.nd k t h x
  · rcases look k t h with ⟨rfl, rfl⟩ | ⟨n1, h1⟩
    · rcases look l u h' with ⟨rfl, _⟩ | ⟨n2, h2⟩
      · exact absurd rfl n
      · exact E.dj k l s u n hj ho h2 a ha
    · rcases look l u h' with ⟨rfl, rfl⟩ | ⟨n2, h2⟩
      · exact E.dj k l t s n h1 x hj a ha
      · exact E.dj k l t u n h1 x h2 a ha
def addS (zs : List Int) (k : Int) : List Int := if k ∈ zs then zs else zs ++ [k]
def mSAdd (j : Nat) (f : DE) : DS := fun E δ => ∃ (zs : List Int) (pn : Bool), δ[j]? = some (some ⟨setD zs, true, pn⟩) ∧ f δ fun x => ∃ k : Int, (x.d = .int k ∧ zs.length + 1 < scanBound) ∧ setK δ j (some ⟨setD (addS zs k), true, pn⟩) E.nx
theorem mSAdd_mono {j : Nat} (hm : MonoE f) : MonoS (mSAdd j f) := fun A B δ h1 h2 ⟨zs, pn, e, q⟩ => by
  refine ⟨zs, pn, e, hm _ _ _ (fun x ⟨k, a, q⟩ => ⟨k, a, ?_⟩) q⟩
  rw [setK_eq] at q ⊢
  exact h1 _ q
theorem sv_sadd (hw : X.w = WT.w) (j : Nat) {x : Str} {px pm pe : Pos} {e : Expr} (he : EV G X e f) (hN : X.N[j]? = some x := by rfl) (hv : Vis X.env.scope x := by first | exact Or.inl rfl | exact Or.inr (Or.inl rfl) | exact Or.inr (Or.inr rfl)) (hd : (x == ("__debug__" : Str)) = false := by decide)
    (hcd : (x == ("__classdict__" : Str)) = false := by decide) (hs1 : starEach [e] X.env = (false, eval e X.env) :: starEach [] X.env := by rfl)
    (hs : swapsWith (.Call (.Attribute (.Name x px) "add" pm) [e] [] pe) none pos.line X.env = pure false := by rfl)
    (hbm : ∀ {to : TE} {t : TA}, PE X (.Name x px) to → PA X [e] t → PE X (.Call (.Attribute (.Name x px) "add" pm) [e] [] pe) (tSAdd X.w to t) := by
      intro _ _ h1 h2; exact pe_sadd h1 h2) :
    SV G X (.Expr (.Call (.Attribute (.Name x px) "add" pm) [e] [] pe) pos) (mSAdd j f) := by
  refine ⟨mSAdd_mono he.mono, fun H0 π hG => psi (ps_expr (hbm (pe_var hN hv hd hcd) (pa_cons (he.pe H0 π hG) pa_nil hs1)) hs) fun D σ H ⟨δ, ν, E, zs, pn, hj, q⟩ => ?_⟩
  obtain ⟨v, hσ, rv, _⟩ := E.at_ j _ hj
  obtain ⟨a, rfl, _, hn, ha, nd⟩ := rv.set_ (setOf_setD zs)
  refine ⟨_, hσ, ⟨a, _, _, rfl, by rw [hw]; exact ha⟩, δ, ν, E, he.mono _ _ _ (fun y q u H1 W s1 o1 => ?_) q⟩
  have ry := o1.rp
  obtain ⟨k, ⟨hy, hz2⟩, q⟩ := q
  rw [hy] at ry
  rw [setK_eq] at q
  have ha1 := s1 _ _ ha
  refine ⟨a, k, _, _, rfl, by rw [ry.int_], by rw [hw]; exact ha1, hz2, q _ _ _ ((E.same s1).writeS hj rfl hσ hn ha1 rfl ?_)⟩
  have nd2 : (addS zs k).Nodup := by
    unfold addS
    split
    · exact nd
    · rename_i c
      exact List.nodup_append.mpr ⟨nd, by simp, fun a ha b hb e => c (by simp at hb; rw [← hb, ← e]; exact ha)⟩
  refine .set ?_ nd2
  rw [upd_same, hw]
  congr 2
  · funext z
    unfold addS
    split
    · rename_i c
      by_cases e : z = k
      · subst e; simp [c]
      · simp [e]
    · simp
  · unfold addS
    by_cases c : k ∈ zs
    · simp [c]
    · simp [c]
end
end KT
/-! Kt2: instances of own classes: e.f, self.f = e, self.f.append(e), C(..), o.m(..), isinstance, xs.clear(). -/
namespace KT
open PySem PySem.Spec PyProof.Rows L2
variable [WT]
theorem zip_inj : ∀ {fs gs : List Str} {ds es : List D}, fs.length = ds.length → gs.length = es.length → (fs.map PyData.str).zip ds = (gs.map PyData.str).zip es → fs = gs ∧ ds = es
  | [], [], [], [], _, _, _ => ⟨rfl, rfl⟩
  | f :: fs, g :: gs, d :: ds, e :: es, h1, h2, h => by
    simp only [List.map_cons, List.zip_cons_cons, List.cons.injEq, Prod.mk.injEq, PyData.str.injEq] at h
    obtain ⟨a, b⟩ := zip_inj (by simpa using h1) (by simpa using h2) h.2
    exact ⟨by rw [h.1.1, a], by rw [h.1.2, b]⟩
  | [], _ :: _, [], _ :: _, _, _, h => by simp at h
  | _ :: _, [], _ :: _, [], _, _, h => by simp at h
  | [], _, _ :: _, _, h, _, _ => by simp at h
  | _ :: _, _, [], _, h, _, _ => by simp at h
  | _, [], _, _ :: _, _, h, _ => by simp at h
  | _, _ :: _, _, [], _, h, _ => by simp at h
theorem Rp.ins_ {K : PySem.W.Frag} {H : Hp} {v : V} {d : D} {N : List Addr} {c : Str} {fs : List Str} {ds : List D} (r : Rp K H v d N) (h : d = insD c fs ds) (hl : fs.length = ds.length) :
    ∃ a C dx fv M, v = .ref a ∧ InsC K c C fs ∧ H a = some (.ins C dx fv) ∧ fv.map (·.1) = fs ∧ Rps K H (fv.map (·.2)) ds M ∧ N = a :: M := by
  cases r with
  | @ins a C dx c' fv ds' M i ha rs =>
    unfold insD at h
    simp only [PyData.dict.injEq, List.cons.injEq, Prod.mk.injEq, PyData.str.injEq, and_true] at h
    obtain ⟨rfl, h⟩ := h
    obtain ⟨rfl, rfl⟩ := zip_inj (by have := rs.length; simpa using this) hl h
    exact ⟨_, C, dx, fv, M, rfl, i, ha, rfl, rs, rfl⟩
  | _ => simp [insD, scrP, setD, dkD, dtD, xcD] at h
theorem lookup_at : ∀ {fv : List (Str × V)} {k : Nat} {f : Str} {v : V}, (fv.map (·.1)).Nodup → (fv.map (·.1))[k]? = some f → (fv.map (·.2))[k]? = some v → fv.lookup f = some v
  | [], _, _, _, _, h, _ => by simp at h
  | (g, x) :: fv, 0, f, v, _, h1, h2 => by
    simp at h1 h2
    subst h1 h2
    simp [List.lookup]
  | (g, x) :: fv, k + 1, f, v, nd, h1, h2 => by
    have nd' := List.nodup_cons.mp nd
    have h1' : (fv.map (·.1))[k]? = some f := by simpa using h1
    have ne : (f == g) = false := by
      rw [beq_eq_false_iff_ne]
      intro e
      subst e
      exact nd'.1 (List.mem_of_getElem? h1')
    simp only [List.lookup, ne]
    exact lookup_at nd'.2 h1' (by simpa using h2)
theorem putF_new (f : Str) (y : V) : ∀ fv : List (Str × V), f ∉ fv.map (·.1) → putF f y fv = fv ++ [(f, y)]
  | [], _ => rfl
  | (g, x) :: r, h => by
    simp only [List.map_cons, List.mem_cons, not_or] at h
    unfold putF
    rw [if_neg (fun e => h.1 e.symm), putF_new f y r h.2]
    rfl
/-- e.f: the k-th field -/
def dFld (k : Nat) (f : Str) (fa : DE) : DE := fun δ P => fa δ fun x => ∃ (c : Str) (fs : List Str) (ds : List D) (d : D), (x.d = insD c fs ds ∧ fs.length = ds.length ∧ fs[k]? = some f ∧ ds[k]? = some d) ∧ P (nv ⟨d, x.own, x.roots⟩)
section
variable {X : Cx} {a b e o : Expr} {es : List Expr} {fa fb f : DE} {g : DA} {pos : Pos}
theorem ev_fld {G : GT} {k : Nat} {fn : Str} (ha : EV G X e fa) (hb : attributeBase e fn X.env (eval e X.env) = eval e X.env := by rfl) : EV G X (.Attribute e fn pos) (dFld k fn fa) := by
  refine ⟨fun δ P P' h q => ha.mono _ _ _ (fun x ⟨c, fs, ds, d, z, q⟩ => ⟨c, fs, ds, d, z, h _ q⟩) q, fun H0 π hG => pei (pe_fld (ha.pe H0 π hG) hb) fun σ H Q ⟨δ, ν, E, q⟩ => ?_⟩
  refine ⟨δ, ν, E, ha.mono _ _ _ (fun x ⟨c, fs, ds, d, ⟨h1, h2, h3, h4⟩, q⟩ v H1 M s1 o1 => ?_) q⟩
  obtain ⟨a, C, dx, fv, M', rfl, i, ha1, rfl, rs, rfl⟩ := o1.rp.ins_ h1 h2
  obtain ⟨u, A, L, B, g1, g2, g3⟩ := rs.get h4
  have sub : L.Sublist M' := by
    rw [g2]
    exact (List.sublist_append_right A L).trans (List.sublist_append_left (A ++ L) B)
  obtain ⟨M2, o'⟩ := (o1.part g3 (sub.trans (List.sublist_cons_self a M'))).nv
  exact ⟨a, C, dx, fv, u, rfl, ha1, i.2.1, i.2.2.2 fn (List.mem_of_getElem? h3), lookup_at i.2.2.1 h3 g1, q u H1 M2 s1 o'⟩
end
/-- an own thing is changed within, by the lists that it had and those of a value -/
theorem EnvOk.writeO {K : PySem.W.Frag} {H0 H : Hp} {π : Nat → Option V} {σ : L2.St} {δ : En} {ν : Nu} (E : EnvOk K H0 π H σ δ ν) {j : Nat} {s : Slot} {v : V} {q : Addr} {o o' : HO} {d' : D} {N2 : List Addr} (hj : δ[j]? = some (some s)) (ho : s.own = true)
    (hv : σ[j]? = some (some v)) (hq : q ∈ ν j) (hp : H q = some o) (hm : Mut o = true) (r : Rp K (upd H q o') v d' N2) (nd : N2.Nodup) (fr : ∀ a ∈ N2, H0 a = none) (dj : ∀ a ∈ N2, ∀ k t, k ≠ j → δ[k]? = some (some t) → a ∉ ν k)
    (al : ∀ k t, k ≠ j → δ[k]? = some (some t) → t.own = true → ∀ a ∈ ν k, a ∉ N2) : EnvOk K H0 π (upd H q o') σ (δ.set j (some ⟨d', true, s.pin⟩)) (setNu ν j N2) := by
  have hl := (List.getElem?_eq_some_iff.mp hj).1
  have hp0 : H0 q = none := (E.nd j s hj ho).2 q hq
  have look : ∀ k t, (δ.set j (some ⟨d', true, s.pin⟩))[k]? = some (some t) → (k = j ∧ t = ⟨d', true, s.pin⟩) ∨ (k ≠ j ∧ δ[k]? = some (some t)) := fun k t h => by
    by_cases e : k = j
    · subst e
      rw [List.getElem?_set_self hl] at h
      cases h
      exact .inl ⟨rfl, rfl⟩
    · rw [List.getElem?_set_ne (Ne.symm e)] at h
      exact .inr ⟨e, h⟩
  have nu1 : setNu ν j N2 j = N2 := by simp [setNu]
  have nu2 : ∀ k, k ≠ j → setNu ν j N2 k = ν k := fun k n => by simp [setNu, n]
  refine ⟨by simpa using E.len, fun b o h => ?_, fun k t h => ?_, fun k t h o => ?_, fun k l t u n h o h' a ha => ?_⟩
  · rw [upd_ne (fun e => by subst e; rw [hp0] at h; cases h)]
    exact E.sm b o h
  · rcases look k t h with ⟨rfl, rfl⟩ | ⟨n, h⟩
    · obtain ⟨w, a, _, c⟩ := E.at_ k s hj
      rw [hv] at a
      cases a
      refine ⟨_, hv, ?_, c⟩
      rw [nu1]
      exact r
    · obtain ⟨w, a, b, c⟩ := E.at_ k t h
      refine ⟨w, a, ?_, c⟩
      rw [nu2 k n]
      exact Rp.updG hp hm b (E.dj j k s t (Ne.symm n) hj ho h q hq)
  · rcases look k t h with ⟨rfl, rfl⟩ | ⟨n, h⟩
    · rw [nu1]; exact ⟨nd, fr⟩
    · rw [nu2 k n]; exact E.nd k t h o
  · rcases look k t h with ⟨rfl, rfl⟩ | ⟨n1, h1⟩
    · rw [nu1] at ha
      rcases look l u h' with ⟨rfl, _⟩ | ⟨n2, h2⟩
      · exact absurd rfl n
      · rw [nu2 l n2]
        exact dj a ha l u n2 h2
    · rw [nu2 k n1] at ha
      rcases look l u h' with ⟨rfl, rfl⟩ | ⟨n2, h2⟩
      · rw [nu1]
        exact al k t n1 h1 o a ha
      · rw [nu2 l n2]
        exact E.dj k l t u n h1 o h2 a ha
/-- what stands behind such a change, where the new lists are old ones and a value's -/
theorem EnvOk.absorb {K : PySem.W.Frag} {H0 H H2 : Hp} {π : Nat → Option V} {σ : L2.St} {δ : En} {ν : Nu} {j : Nat} {d0 : D} {pn : Bool} (E : EnvOk K H0 π H σ δ ν) (hj : δ[j]? = some (some ⟨d0, true, pn⟩)) (s12 : Same H H2)
    {v w : V} {y : Val} {W : List Addr} (o2 : VOk K H δ ν H2 w y W) (ho : y.own = true) (hr : y.roots.contains j = false) (hv : σ[j]? = some (some v)) {q : Addr} (hq : q ∈ ν j) {o o' : HO} (hp : H2 q = some o) (hm : Mut o = true) {d' : D} {N2 : List Addr}
    (r : Rp K (upd H2 q o') v d' N2) (sub : ∀ b ∈ N2, b ∈ ν j ∨ b ∈ W) (nd : N2.Nodup) : EnvOk K H0 π (upd H2 q o') σ ((killR δ y.roots).set j (some ⟨d', true, pn⟩)) (setNu ν j N2) := by
  have E1 := (E.same s12).kill y.roots
  have F := o2.killed E
  have hj1 : (killR δ y.roots)[j]? = some (some ⟨d0, true, pn⟩) := by rw [killR_at hr]; exact hj
  refine E1.writeO (s := ⟨d0, true, pn⟩) hj1 rfl hv hq hp hm r nd (fun a ha => ?_) (fun a ha k t n h => ?_) fun k t n h ow a ha hmm => ?_
  · rcases sub a ha with z | z
    · exact (E.nd j _ hj rfl).2 a z
    · exact F.fr ho a z
  · rcases sub a ha with z | z
    · exact E1.dj j k _ t (Ne.symm n) hj1 rfl h a z
    · exact F.dj ho a z k t h
  · rcases sub a hmm with z | z
    · exact E1.dj k j t _ n h ow hj1 a ha z
    · exact F.al k t h ow a ha z
/-- the lists of the value are not those of the name -/
theorem VOk.apart {K : PySem.W.Frag} {H0 H H2 : Hp} {π : Nat → Option V} {σ : L2.St} {δ : En} {ν : Nu} {j : Nat} {d0 : D} {pn : Bool} (E : EnvOk K H0 π H σ δ ν) (hj : δ[j]? = some (some ⟨d0, true, pn⟩)) {w : V} {y : Val} {W : List Addr} (o2 : VOk K H δ ν H2 w y W) (ho : y.own = true)
    (hr : y.roots.contains j = false) : ∀ a ∈ W, a ∉ ν j := fun a ha h => by
  have hj1 : (killR δ y.roots)[j]? = some (some ⟨d0, true, pn⟩) := by rw [killR_at hr]; exact hj
  exact (o2.killed E).dj ho a ha j _ hj1 h
def mSetF (c : Str) (j : Nat) (fn : Str) (f : DE) : DS := fun E δ => ∃ (fs : List Str) (ds : List D) (pn : Bool), (δ[j]? = some (some ⟨insD c fs ds, true, pn⟩) ∧ fs.length = ds.length ∧ fs.length < 900 ∧ fs.contains fn = false) ∧
  f δ fun x => (x.own = true ∧ x.roots.contains j = false) ∧ killK δ x.roots fun δ' => setK δ' j (some ⟨insD c (fs ++ [fn]) (ds ++ [x.d]), true, pn⟩) E.nx
theorem mSetF_mono {c : Str} {j : Nat} {fn : Str} {f : DE} (hm : MonoE f) : MonoS (mSetF c j fn f) := fun A B δ h1 h2 ⟨fs, ds, pn, a, q⟩ => by
  refine ⟨fs, ds, pn, a, hm _ _ _ (fun x q => ⟨q.1, ?_⟩) q⟩
  have q2 := q.2
  rw [killK_eq, setK_eq] at q2 ⊢
  exact h1 _ q2
/-- the class c has no attribute f -/
def NoF (K : PySem.W.Frag) (c f : Str) : Prop := ∀ C, PySem.W.nsIn K mainGlobals c = some (some (.ref C)) → NoAttr K C f
section
variable {X : Cx} {a b e o : Expr} {es : List Expr} {fa fb f : DE} {g : DA} {pos : Pos}
theorem sv_setF {G : GT} {c : Str} (j : Nat) {x fn : Str} {px pf : Pos} (nf : NoF X.K c fn) (he : EV G X e f) (hN : X.N[j]? = some x := by rfl) (hv : Vis X.env.scope x := by first | exact Or.inl rfl | exact Or.inr (Or.inl rfl) | exact Or.inr (Or.inr rfl)) (hd : (x == ("__debug__" : Str)) = false := by decide)
    (hcd : (x == ("__classdict__" : Str)) = false := by decide) (hs : swapsWith e (some (.Attribute (.Name x px) fn pf)) pos.line X.env = pure false := by rfl) :
    SV G X (.Assign [.Attribute (.Name x px) fn pf] e pos) (mSetF c j fn f) := by
  refine ⟨mSetF_mono he.mono, fun H0 π hG => psi (ps_fld (pe_var hN hv hd hcd) (he.pe H0 π hG) hs) fun D σ H ⟨δ, ν, E, fs, ds, pn, ⟨hj, hl, h9, hc⟩, q⟩ => ?_⟩
  refine ⟨δ, ν, E, he.mono _ _ _ (fun y ⟨⟨ho, hr⟩, q⟩ w H2 W s12 o2 => ?_) q⟩
  rw [killK_eq, setK_eq] at q
  obtain ⟨v, hσ, rv, _⟩ := E.at_ j _ hj
  obtain ⟨a, C, dx, fv, M, rfl, i, ha, rfl, rs, hn⟩ := (rv.same s12).ins_ rfl hl
  have nin : fn ∉ fv.map (·.1) := fun h => by
    have : (fv.map (·.1)).contains fn = true := List.contains_iff_mem.mpr h
    rw [hc] at this
    cases this
  have NA := nf C i.1
  refine ⟨_, hσ, a, C, dx, fv, rfl, ha, i.2.1, NA, by have := h9; simp at this; omega, q _ _ _ (E.absorb (N2 := a :: (M ++ W)) hj s12 o2 ho hr hσ (by rw [hn]; exact List.mem_cons_self) ha rfl ?_ (fun b hb => ?_) ?_)⟩
  · have aM : a ∉ M ++ W := fun h => by
      have nd := (E.nd j _ hj rfl).1
      rw [hn] at nd
      rcases List.mem_append.mp h with h | h
      · exact (List.nodup_cons.mp nd).1 h
      · exact VOk.apart E hj o2 ho hr a h (by rw [hn]; exact List.mem_cons_self)
    have r0 : Rps X.K (upd H2 a (.ins C dx (putF fn w fv))) ((putF fn w fv).map (·.2)) (ds ++ [y.d]) (M ++ W) := by
      rw [putF_new fn w fv nin, List.map_append]
      exact Rps.updG (o := .ins C dx fv) ha rfl (rs.append (Rps.one o2.rp)) aM
    have e1 : (putF fn w fv).map (·.1) = fv.map (·.1) ++ [fn] := by rw [putF_new fn w fv nin, List.map_append]; rfl
    have r1 := Rp.ins (K := X.K) (H := upd H2 a (.ins C dx (putF fn w fv))) (a := a) (C := C) (dx := dx) (c := c) (fs := putF fn w fv) (ds := ds ++ [y.d]) (N := M ++ W) ⟨i.1, i.2.1, by
      rw [e1]
      exact List.nodup_append.mpr ⟨i.2.2.1, by simp, fun p hp r hr e => nin (by simp at hr; rw [← hr, ← e]; exact hp)⟩, fun g hg => by
      rw [e1] at hg
      rcases List.mem_append.mp hg with h | h
      · exact i.2.2.2 g h
      · rw [List.mem_singleton.mp h]; exact NA⟩ upd_same r0
    rw [e1] at r1
    exact r1
  · rw [hn]
    rcases List.mem_cons.mp hb with rfl | hb
    · exact .inl List.mem_cons_self
    · exact (List.mem_append.mp hb).imp (List.mem_cons_of_mem _) id
  · have nd := (E.nd j _ hj rfl).1
    rw [hn] at nd
    have nd' := List.nodup_cons.mp nd
    have ap := VOk.apart E hj o2 ho hr
    rw [hn] at ap
    refine List.nodup_cons.mpr ⟨fun h => (List.mem_append.mp h).elim nd'.1 fun h => ap a h List.mem_cons_self, List.nodup_append.mpr ⟨nd'.2, o2.nd ho, fun b hb c' hc' e => ?_⟩⟩
    subst e
    exact ap b hc' (List.mem_cons_of_mem _ hb)
end
/-- self.f.append(e) -/
def mAppF (c : Str) (j k : Nat) (fn : Str) (f : DE) : DS := fun E δ => ∃ (fs : List Str) (ds es : List D) (pn : Bool), (δ[j]? = some (some ⟨insD c fs ds, true, pn⟩) ∧ fs.length = ds.length ∧ fs[k]? = some fn ∧ ds[k]? = some (.list es)) ∧
  f δ fun x => (x.own = true ∧ x.roots.contains j = false ∧ es.length < sizeLine) ∧ killK δ x.roots fun δ' => setK δ' j (some ⟨insD c fs (ds.set k (.list (es ++ [x.d]))), true, pn⟩) E.nx
theorem mAppF_mono {c : Str} {j k : Nat} {fn : Str} {f : DE} (hm : MonoE f) : MonoS (mAppF c j k fn f) := fun A B δ h1 h2 ⟨fs, ds, es, pn, a, q⟩ => by
  refine ⟨fs, ds, es, pn, a, hm _ _ _ (fun x q => ⟨q.1, ?_⟩) q⟩
  have q2 := q.2
  rw [killK_eq, setK_eq] at q2 ⊢
  exact h1 _ q2
section
variable {X : Cx} {a b e o : Expr} {es : List Expr} {fa fb f : DE} {g : DA} {pos : Pos}
theorem sv_appF {G : GT} {c : Str} (j k : Nat) {x fn : Str} {px pf pm pe : Pos} (he : EV G X e f) (hN : X.N[j]? = some x := by rfl) (hv : Vis X.env.scope x := by first | exact Or.inl rfl | exact Or.inr (Or.inl rfl) | exact Or.inr (Or.inr rfl)) (hd : (x == ("__debug__" : Str)) = false := by decide)
    (hcd : (x == ("__classdict__" : Str)) = false := by decide) (hs1 : starEach [e] X.env = (false, eval e X.env) :: starEach [] X.env := by rfl)
    (hb : attributeBase (.Name x px) fn X.env (eval (.Name x px) X.env) = eval (.Name x px) X.env := by rfl)
    (hs : swapsWith (.Call (.Attribute (.Attribute (.Name x px) fn pf) "append" pm) [e] [] pe) none pos.line X.env = pure false := by rfl)
    (hbm : ∀ {to : TE} {t : TA}, PE X (.Attribute (.Name x px) fn pf) to → PA X [e] t → PE X (.Call (.Attribute (.Attribute (.Name x px) fn pf) "append" pm) [e] [] pe) (tBM X.K "list" rAppend to t) := by
      intro _ _ h1 h2; exact pe_bm PySem.F.plainAttrs_list PySem.F.slot_list_append PySem.F.type_list_append mt_append h1 h2) :
    SV G X (.Expr (.Call (.Attribute (.Attribute (.Name x px) fn pf) "append" pm) [e] [] pe) pos) (mAppF c j k fn f) := by
  refine ⟨mAppF_mono he.mono, fun H0 π hG => psi (ps_expr (hbm (pe_fld (pe_var hN hv hd hcd) hb) (pa_cons (he.pe H0 π hG) pa_nil hs1)) hs) fun D σ H ⟨δ, ν, E, fs, ds, es, pn, ⟨hj, hl, hf, hes⟩, q⟩ => ?_⟩
  obtain ⟨v, hσ, rv, _⟩ := E.at_ j _ hj
  obtain ⟨p, C, dx, fv, M, rfl, i, hp, rfl, rs, hn⟩ := rv.ins_ rfl hl
  obtain ⟨v1, A, M1, B, g1, g2, g3, _⟩ := rs.get2 hes
  obtain ⟨a, ys, M3, rfl, rfl, ha, rs2⟩ := g3.list_
  refine ⟨_, hσ, p, C, dx, fv, .ref a, rfl, hp, i.2.1, i.2.2.2 fn (List.mem_of_getElem? hf), lookup_at i.2.2.1 hf g1, .inl ⟨rfl, _, SqL.of ha⟩, δ, ν, E, he.mono _ _ _ (fun y ⟨⟨ho, hr, hz⟩, q⟩ w H2 W s2 o2 => ?_) q⟩
  rw [killK_eq, setK_eq] at q
  obtain ⟨v2, A2, M2, B2, k1, k2, k3, k4⟩ := (rs.same s2).get2 hes
  rw [g1] at k1
  cases k1
  obtain ⟨a2, ys2, M4, e1, rfl, ha2, rs3⟩ := k3.list_
  cases e1
  have e2 := s2 _ _ ha
  rw [ha2] at e2
  cases e2
  have nd := (E.nd j _ hj rfl).1
  rw [hn] at nd
  have nN := (List.nodup_cons.mp nd).2
  have pN := (List.nodup_cons.mp nd).1
  have ap := VOk.apart E hj o2 ho hr
  rw [hn] at ap
  have aN : a ∈ M := by rw [k2]; simp
  have nN2 := nN
  rw [k2, List.nodup_append, List.nodup_append] at nN2
  obtain ⟨⟨nA, nM, nAM⟩, nB, nAB⟩ := nN2
  have aA : a ∉ A2 := fun h => nAM a h a List.mem_cons_self rfl
  have aB : a ∉ B2 := fun h => nAB a (List.mem_append_right _ List.mem_cons_self) a h rfl
  have nM' := List.nodup_cons.mp nM
  have sep : ∀ b ∈ M, ∀ c' ∈ W, b ≠ c' := fun b hb c' hc' e => by
    subst e
    exact ap b hc' (List.mem_cons_of_mem _ hb)
  have pW : p ∉ W := fun h => ap p h List.mem_cons_self
  have aW : a ∉ W := fun h => sep a aN a h rfl
  have hpa : p ≠ a := fun e => pN (by rw [e]; exact aN)
  have r0 : Rps X.K (upd H2 a (.lst (ys ++ [w]))) (ys ++ [w]) (es ++ [y.d]) (M4 ++ W) := Rps.upd ha2 (rs3.append (Rps.one o2.rp)) fun h => (List.mem_append.mp h).elim nM'.1 aW
  have r1 : Rp X.K (upd H2 a (.lst (ys ++ [w]))) (.ref a) (.list (es ++ [y.d])) (a :: (M4 ++ W)) := .lst upd_same r0
  have r2 := k4 a (ys ++ [w]) ys ha2 aA aB _ _ r1
  have r3 : Rp X.K (upd H2 a (.lst (ys ++ [w]))) (.ref p) (insD c (fv.map (·.1)) (ds.set k (.list (es ++ [y.d])))) (p :: (A2 ++ a :: (M4 ++ W) ++ B2)) :=
    .ins (dx := dx) i (by rw [upd_ne hpa]; exact s2 _ _ hp) r2
  refine ⟨a, ys, w, rfl, rfl, ha2, by rw [rs3.length]; exact hz, q _ _ _ (E.absorb hj s2 o2 ho hr hσ (by rw [hn]; exact List.mem_cons_of_mem _ aN) ha2 rfl r3 (fun b hb => ?_) ?_)⟩
  · rw [hn, k2]
    simp only [List.mem_append, List.mem_cons] at hb ⊢
    rcases hb with h | (h | h | h | h) | h
    · exact .inl (.inl h)
    · exact .inl (.inr (.inl (.inl h)))
    · exact .inl (.inr (.inl (.inr (.inl h))))
    · exact .inl (.inr (.inl (.inr (.inr h))))
    · exact .inr h
    · exact .inl (.inr (.inr h))
  · have nMW : (a :: (M4 ++ W)).Nodup := by
      refine List.nodup_cons.mpr ⟨fun h => (List.mem_append.mp h).elim nM'.1 aW, List.nodup_append.mpr ⟨nM'.2, o2.nd ho, fun b hb c' hc' => sep b (by rw [k2]; simp [hb]) c' hc'⟩⟩
    refine List.nodup_cons.mpr ⟨fun h => ?_, List.nodup_append.mpr ⟨List.nodup_append.mpr ⟨nA, nMW, fun b hb c' hc' => ?_⟩, nB, fun b hb c' hc' => ?_⟩⟩
    · rw [k2] at pN
      simp only [List.mem_append, List.mem_cons] at h pN
      rcases h with (h | h | h | h) | h
      · exact pN (.inl (.inl h))
      · exact pN (.inl (.inr (.inl h)))
      · exact pN (.inl (.inr (.inr h)))
      · exact pW h
      · exact pN (.inr h)
    · rcases List.mem_cons.mp hc' with rfl | hc'
      · exact nAM b hb c' List.mem_cons_self
      · rcases List.mem_append.mp hc' with hc' | hc'
        · exact nAM b hb c' (List.mem_cons_of_mem _ hc')
        · exact sep b (by rw [k2]; simp [hb]) c' hc'
    · rcases List.mem_append.mp hb with hb | hb
      · exact nAB b (List.mem_append_left _ hb) c' hc'
      · rcases List.mem_cons.mp hb with rfl | hb
        · exact nAB b (List.mem_append_right _ List.mem_cons_self) c' hc'
        · rcases List.mem_append.mp hb with hb | hb
          · exact nAB b (List.mem_append_right _ (List.mem_cons_of_mem _ hb)) c' hc'
          · exact fun e => sep c' (by rw [k2]; simp [hc']) b hb e.symm
end
end KT
/-! Kt3: making an instance, calling its methods, asking for its class, xs.clear(). -/
namespace KT
open PySem PySem.Spec PyProof.Rows L2
variable [WT]
/-- the heap without one address -/
noncomputable def minus (H : Hp) (a : Addr) : Hp := fun b => if b = a then none else H b
/-- the promise of an __init__: the instance a (without fields), the arguments behind it -/
def spI (K : PySem.W.Frag) (mg : Str → Option Value) (c : Str) (n : Nat) (w : WXf) : Sp := fun vs H Q E => vs.length = n + 1 ∧ ∃ a rest, vs = .ref a :: rest ∧ ∃ C dx, (InsC K c C [] ∧ H a = some (.ins C dx [])) ∧ ∃ ds N, Rps K H rest ds N ∧ a ∉ N ∧ ∃ Qd Xd, w ds Qd Xd ∧
  (∀ d, Qd d → ∀ H' M, (∀ b o, b ≠ a → H b = some o → H' b = some o) → Rp K H' (.ref a) d M → M.Nodup → (∀ b ∈ M, b = a ∨ H b = none) → Q .non H') ∧ ∀ ex, Xd ex → ∀ cls d H', XRet K mg (minus H a) ex cls d H' → E cls d H'
structure CalI (P : Program) (w : World) (K : PySem.W.Frag) (mg : Str → Option Value) (base : Heap) (c : Str) (k n : Nat) (wf : WXf) : Prop where
  ex : ∃ (C f : Addr) (fd : FuncData) (ps : List Str), (InsC K c C [] ∧ Mk K C f) ∧ FnOk P w K mg base (L2.CX P w) k f fd ps (spI K mg c n wf) ∧ mg c = some (.ref C) ∧ Binds K fd ps []
def runI (c : Str) (n : Nat) (m : (Ex → En → Prop) → DS) : WXf := fun ds Q Xd => initKM (true :: List.replicate ds.length false) n (insD c [] [] :: ds) fun δ => m (fun ex _ => Xd ex) ⟨fun δ' => getpK [0] δ' fun es => (match es with | [d] => Q d | _ => False), fun _ _ => False⟩ δ
theorem Rps.split {K : PySem.W.Frag} {H : Hp} : ∀ {vs : List V} {ds : List D} {N : List Addr}, Rps K H vs ds N → ∃ ν : Nu, ∀ i d, ds[i]? = some d → ∃ v, vs[i]? = some v ∧ Rp K H v d (ν i) ∧ ∀ b ∈ ν i, b ∈ N
  | _, _, _, .nil => ⟨fun _ => [], fun i d h => by simp at h⟩
  | _, _, _, .cons (N := N) (M := M) r s => by
    obtain ⟨ν, h⟩ := Rps.split s
    refine ⟨fun i => match i with | 0 => N | i + 1 => ν i, fun i d hd => ?_⟩
    cases i with
    | zero => simp at hd; subst hd; exact ⟨_, rfl, r, fun b hb => List.mem_append_left _ hb⟩
    | succ i =>
      obtain ⟨v, h1, h2, h3⟩ := h i d (by simpa using hd)
      exact ⟨v, by simpa using h1, h2, fun b hb => List.mem_append_right _ (h3 b hb)⟩
section
variable {P : Program} {w : World} {K : PySem.W.Frag} {mg : Str → Option Value} {base : Heap}
theorem ok_defI {c x qual : Str} {st : Stmt} {f : Addr} {fd : FuncData} {N ps : List Str} {k n : Nat} {m : (Ex → En → Prop) → DS} (F : L2.Fun K x qual st f fd) (S : FnScope N ps (defScope st)) (hn : ps.length = n + 1)
    (hbody : ∀ (cdv : Value) (A : Around) (outer : List Env) (s : Shared) (H Hs : Hp) (E : XK) (XC : Ex → En → Prop), Room k (A.deeper (envOfC qual (defScope st) s.heap.objs.size f cdv)) →
      TkX (GSame Hs) (cxOf (L2.CX P w) P w K mg base N qual (defScope st) f cdv A outer s H E) XC →
      PassesOwn (model P w) (A.deeper (envOfC qual (defScope st) s.heap.objs.size f cdv)) (envOfC qual (defScope st) s.heap.objs.size f cdv) (cxOf (L2.CX P w) P w K mg base N qual (defScope st) f cdv A outer s H E).xe →
      SVs (GSame Hs) (cxOf (L2.CX P w) P w K mg base N qual (defScope st) f cdv A outer s H E) (defBody st) (m XC)) (hpn : ps.length ≤ N.length := by decide) :
    FnOk P w K mg base (L2.CX P w) (k + 1) f fd ps (spI K mg c n (runI c N.length m)) := by
  refine F.okX S (fun vs H Q E h => h.1.trans hn.symm) fun cdv A outer s H vs Q E hr h => ?_
  obtain ⟨hl, a, rest, rfl, C, dx, ⟨hC, ha⟩, ds, M, r, aM, Qd, Xd, q, hQ, hX⟩ := h
  obtain ⟨ν0, hν⟩ := r.split
  let ν : Nu := fun i => match i with | 0 => [a] | i + 1 => ν0 i
  have hole1 : hole H [0] ν = minus H a := by
    funext b
    unfold hole minus
    by_cases e : b = a
    · rw [if_pos e, if_pos ⟨0, List.mem_cons_self, by rw [e]; exact List.mem_cons_self⟩]
    · rw [if_neg e, if_neg]
      rintro ⟨j, hj, hm⟩
      rw [List.mem_singleton.mp hj] at hm
      exact e (List.mem_singleton.mp hm)
  have ar : ArgsOk K H [0] (.ref a :: rest) (insD c [] [] :: ds) ν := by
    refine ⟨fun i d h => ?_, fun i hi => ?_, fun i hi j d nij h b hb => ?_⟩
    · cases i with
      | zero =>
        simp at h
        subst h
        exact ⟨_, rfl, .ins (fs := []) hC ha .nil⟩
      | succ i =>
        obtain ⟨v, h1, h2, _⟩ := hν i d (by simpa using h)
        exact ⟨v, by simpa using h1, h2⟩
    · rw [List.mem_singleton.mp hi]
      exact List.nodup_cons.mpr ⟨by simp, List.nodup_nil⟩
    · rw [List.mem_singleton.mp hi] at hb nij
      have hb := List.mem_singleton.mp hb
      subst hb
      cases j with
      | zero => exact absurd rfl nij
      | succ j =>
        obtain ⟨v, _, _, h3⟩ := hν j d (by simpa using h)
        exact fun z => aM (h3 _ z)
  have tk : TkX (GSame (hole H [0] ν)) (cxOf (L2.CX P w) P w K mg base N qual (defScope st) f cdv A outer s H E) (fun ex _ => Xd ex) := fun H0 π hG =>
    (takes_of (X := cxOf (L2.CX P w) P w K mg base N qual (defScope st) f cdv A outer s H E) rfl rfl rfl rfl).imp fun cls d σ H' h => by
      obtain ⟨ex, z, hx⟩ := wX_ret hG h
      rw [hole1] at hx
      exact hX ex z cls d H' hx
  have B := hbody cdv A outer s H (hole H [0] ν) E (fun ex _ => Xd ex) hr tk (passes_of (X := cxOf (L2.CX P w) P w K mg base N qual (defScope st) f cdv A outer s H E) rfl)
  have q := q
  unfold runI at q
  obtain ⟨hf, q⟩ := initKM_to _ _ _ _ q
  have rl := r.length
  have e := initM_ok (N := N) ar (by simp [rl]) hf (by rw [hl, ← hn]; exact hpn) (fun i hi => by
    cases i with
    | zero => exact List.mem_cons_self
    | succ i =>
      have hi : (List.replicate ds.length false)[i]? = some true := by simpa using hi
      rw [List.getElem?_replicate] at hi
      split at hi <;> simp at hi)
  refine ⟨_, B.pss (hole H [0] ν) (fun i => (V.ref a :: rest)[i]?) (Same.refl _), initEM _ N.length (insD c [] [] :: ds), ν, e, ?_⟩
  refine B.mono _ _ _ (fun δ q σ' H' ν' E' => ?_) (fun y δ (q : False) => q.elim) q
  obtain ⟨es, q, hl2, hg⟩ := getpK_to q
  obtain ⟨d, he, hd⟩ := hg 0 0 rfl
  have he1 : es = [d] := by
    cases es with
    | nil => simp at he
    | cons x xs =>
      simp at he hl2
      rw [he, hl2]
  subst he1
  obtain ⟨v, _, rv, pv⟩ := E'.at_ 0 _ hd
  have ev : v = .ref a := by
    have := pv rfl
    simpa using this.symm
  subst ev
  obtain ⟨nd, fr⟩ := E'.nd 0 _ hd rfl
  refine hQ d q H' (ν' 0) (fun b o hb hh => E'.sm b o ?_) rv nd fun b hb => ?_
  · rw [hole1]
    unfold minus
    rw [if_neg hb]
    exact hh
  · have := fr b hb
    rw [hole1] at this
    unfold minus at this
    split at this
    · rename_i z; exact .inl z
    · exact .inr this
theorem cal_defI {c qual : Str} {st : Stmt} {C f : Addr} {fd : FuncData} {N ps : List Str} {k n : Nat} {m : (Ex → En → Prop) → DS} (F : L2.Fun K "__init__" qual st f fd) (S : FnScope N ps (defScope st)) (hn : ps.length = n + 1) (hC : InsC K c C []) (hM : Mk K C f) (hm : mg c = some (.ref C)) (hb : Binds K fd ps [])
    (hbody : ∀ (cdv : Value) (A : Around) (outer : List Env) (s : Shared) (H Hs : Hp) (E : XK) (XC : Ex → En → Prop), Room k (A.deeper (envOfC qual (defScope st) s.heap.objs.size f cdv)) →
      TkX (GSame Hs) (cxOf (L2.CX P w) P w K mg base N qual (defScope st) f cdv A outer s H E) XC →
      PassesOwn (model P w) (A.deeper (envOfC qual (defScope st) s.heap.objs.size f cdv)) (envOfC qual (defScope st) s.heap.objs.size f cdv) (cxOf (L2.CX P w) P w K mg base N qual (defScope st) f cdv A outer s H E).xe →
      SVs (GSame Hs) (cxOf (L2.CX P w) P w K mg base N qual (defScope st) f cdv A outer s H E) (defBody st) (m XC)) (hpn : ps.length ≤ N.length := by decide) :
    CalI P w K mg base c (k + 1) n (runI c N.length m) := ⟨C, f, fd, ps, ⟨hC, hM⟩, ok_defI F S hn hbody hpn, hm, hb⟩
end
section
variable {X : Cx} {k : Nat} {f C : Addr} {fd : FuncData} {ps : List Str} {sp : Sp} {E : L2.St → XK} {x m : Str} {p pos : Pos} {e : Expr} {es : List Expr} {t : TA} {CX : CXT}
/-- an instance is made; what its __init__ lets out is told by the names' values -/
theorem run_mkS {pins : List (Addr × Obj)} {σ : L2.St} {H : Hp} {s : Shared} {Q : VK} {us : List Value} {vs : List V} (M : Mk X.K C f) (F : FnOk X.prog X.w X.K X.mg X.base CX k f fd ps sp) (hr : Room (k + 1) X.A) (hb : Binds X.K fd ps [])
    (hx : PassesAt CX X σ (E σ)) (I : Inv X pins σ H s) (r : Vals vs us)
    (h : ∀ y dy, H y = none → H dy = none → dy ≠ y → sp (.ref y :: vs) (upd (upd H dy (.own y)) y (.ins C dy [])) (fun v H2 => v = .non ∧ Q (.ref y) H2) (E σ)) : wpAny (model X.prog X.w) X.A (call (.ref C) us) (EP X pins σ Q) X.xe s := by
  have q0 := h (s.heap.objs.size + 1) s.heap.objs.size (I.hok.fresh (Nat.le_succ _)) (I.hok.fresh (Nat.le_refl _)) (Nat.ne_of_lt (Nat.lt_succ_self _))
  have J := Inv.made (C := C) I
  have rr : Vals (V.ref (s.heap.objs.size + 1) :: vs) (Value.ref (s.heap.objs.size + 1) :: us) := .cons rfl r
  have bd := hb _ (Value.ref (s.heap.objs.size + 1) :: us) J.kIn (by rw [List.append_nil]; exact rr.length.symm.trans (F.len _ _ _ _ q0))
  rw [List.append_nil] at bd
  have go := F.run _ X.stack _ _ ⟨Value.ref (s.heap.objs.size + 1) :: us, []⟩ _ _ _ (E σ) (hr.make C us []) (J.env0.make C us []) bd rr q0
  refine wpAny_call (make_map (f := f) I.kIn M.makes M.init (beq_iff_eq.mp M.fn) (codeAny_mono go fun r s' hq => ?_))
  match r, hq with
  | .error z, hq => exact hx pins _ _ z s' J hq
  | .ok (.ret u), hq =>
    obtain ⟨v, H', I3, rv, ev, q3⟩ := J.after hq
    subst ev
    exact ⟨rv, ⟨V.ref (s.heap.objs.size + 1), H', I3, rfl, q3⟩⟩
  | .ok .next, hq => exact False.elim hq
  | .ok .brk, hq => exact False.elim hq
  | .ok .cont, hq => exact False.elim hq
def tMakeS (C : Addr) (sp : Sp) (E : L2.St → XK) (t : TA) : TE := fun σ H Q => t σ H fun vs H1 => ∀ y dy, H1 y = none → H1 dy = none → dy ≠ y → sp (.ref y :: vs) (upd (upd H1 dy (.own y)) y (.ins C dy [])) (fun v H2 => v = .non ∧ Q (.ref y) H2) (E σ)
theorem pe_mkS (M : Mk X.K C f) (F : FnOk X.prog X.w X.K X.mg X.base CX k f fd ps sp) (hr : Room (k + 1) X.A) (hg : Gl X x) (hm : X.mg x = some (.ref C)) (hb : Binds X.K fd ps []) (hx : ∀ σ, PassesAt CX X σ (E σ)) (ha : PA X (e :: es) t)
    (hdb : (x == ("__debug__" : Str)) = false) (he : starEach (e :: es) X.env = (false, eval e X.env) :: starEach es X.env) (hpl : (backTo pos (starEach es X.env)).any (·.1) = false) :
    PE X (.Call (.Name x p) (e :: es) [] pos) (tMakeS C sp E t) :=
  ⟨fun pins s σ H Q I h => wpAny_Call_Name_kw (ld_glob I hg hm (PySem.W.callWith_K (h₀ := X.base) I.ok.mod.kin M.kp (thn (ha.run pos pins s σ H _ I h) fun _ _ ⟨_, _, I1, r, q⟩ => ⟨I1.kIn, run_mkS M F hr hb (hx σ) I1 r q⟩) he hpl) hdb)⟩
end
section
variable {X : Cx} {a b e o : Expr} {es : List Expr} {fa fb f fo : DE} {g : DA} {pos : Pos} {XC : Ex → En → Prop}
theorem ev_make {G : GT} {j k n : Nat} {wf : WXf} {c : Str} {p : Pos} (tk : TkX G X XC) (cc : CalI X.prog X.w X.K X.mg X.base c k n wf) (hg : Gl X c) (hr : Room j X.A) (ha : EA G X (e :: es) g) (hk : k + 1 ≤ j := by decide)
    (hdb : (c == ("__debug__" : Str)) = false := by decide) (he : starEach (e :: es) X.env = (false, eval e X.env) :: starEach es X.env := by rfl) (hpl : (backTo pos (starEach es X.env)).any (·.1) = false := by rfl) :
    EV G X (.Call (.Name c p) (e :: es) [] pos) (dCallX n wf XC g) := by
  obtain ⟨C, f, fd, ps, ⟨hC, M⟩, F, hm, hb⟩ := cc.ex
  refine ⟨fun δ P P' h q => ha.mono _ _ _ (fun xs ⟨q1, Qd, Xd, q2, q3, q4⟩ => ⟨q1, Qd, Xd, q2, fun d z => h _ (q3 d z), q4⟩) q, fun H0 π hG => ?_⟩
  refine pei (pe_mkS (E := WE (wX X.K X.mg H0 π XC)) M F (hr.mono hk) hg hm hb (passAt (tk H0 π hG)) (ha.pa H0 π hG) hdb he hpl) fun σ H Q ⟨δ, ν, E, q⟩ => ?_
  refine ⟨δ, ν, E, ha.mono _ _ _ (fun xs ⟨q1, Qd, Xd, q2, q3, q4⟩ vs H1 Ms s1 o1 y dy hy hdy hne => ?_) q⟩
  have r := o1.rps
  have s2 : Same H1 (upd (upd H1 dy (.own y)) y (.ins C dy [])) := fun b z hz => by
    rw [upd_ne (fun h => by subst h; rw [hy] at hz; cases hz), upd_ne (fun h => by subst h; rw [hdy] at hz; cases hz)]
    exact hz
  refine ⟨by simp [r.length, q1], y, vs, rfl, C, dy, ⟨hC, upd_same⟩, _, _, r.same s2, fun h => r.trk y h hy, Qd, Xd, q2, fun d z H' M' k1 r' n' f' => ⟨rfl, ?_⟩, fun ex z cls dd H' h => ?_⟩
  · have s3 : Same H1 H' := fun b z hz => k1 b z (fun h => by subst h; rw [hy] at hz; cases hz) (s2 b z hz)
    refine q3 d z _ H' M' (s1.trans s3) (FR.vok s1 r' n' (fun b hb => ?_) E)
    rcases f' b hb with rfl | h
    · exact hy
    · cases e0 : H1 b with
      | none => rfl
      | some z => rw [s2 b z e0] at h; cases h
  · obtain ⟨h1, h2, M', h3, h4⟩ := h
    have sub : ∀ b, minus (upd (upd H1 dy (.own y)) y (.ins C dy [])) y b = none → H1 b = none := fun b hb => by
      cases e0 : H1 b with
      | none => rfl
      | some z =>
        unfold minus at hb
        rw [if_neg (fun h => by subst h; rw [hy] at e0; cases e0), s2 b z e0] at hb
        cases hb
    have s3 : Same H1 H' := fun b z hz => h2 b z (by
      unfold minus
      rw [if_neg (fun h => by subst h; rw [hy] at hz; cases hz)]
      exact s2 b z hz)
    exact XRet.wX ⟨h1, s3, M', h3, fun b hb => sub b (h4 b hb)⟩ (E.same s1) (q4 ex z)
/-- o.m(..) -/
structure CalMe (P : Program) (w : World) (K : PySem.W.Frag) (mg : Str → Option Value) (base : Heap) (c m : Str) (k n : Nat) (wf : W) : Prop where
  ex : ∃ (C f : Addr) (fd : FuncData) (ps : List Str), FnOk P w K mg base CX0 k f fd ps (spOf K n wf) ∧ Binds K fd ps [] ∧ PySem.W.nsIn K mainGlobals c = some (some (.ref C)) ∧ Meth K C m f ∧ Cls K C
def dMeth (c : Str) (n : Nat) (w : W) (fo : DE) (g : DA) : DE := fun δ P => fo δ fun x => ∃ (fs : List Str) (ds : List D), (x.d = insD c fs ds ∧ fs.length = ds.length) ∧ g δ fun xs => (xs.length + 1 = n) ∧ ∃ Qd, w (x.d :: xs.map Val.d) Qd ∧ ∀ d, Qd d → P ⟨d, true, []⟩
theorem lookup_no {m : Str} : ∀ {fv : List (Str × V)}, m ∉ fv.map (·.1) → fv.lookup m = none
  | [], _ => rfl
  | (g, x) :: fv, h => by
    simp only [List.map_cons, List.mem_cons, not_or] at h
    simp only [List.lookup, beq_eq_false_iff_ne.mpr h.1]
    exact lookup_no h.2
theorem ev_meth {G : GT} {j k n : Nat} {wf : W} {c m : Str} {apos : Pos} {pl : Sem Bool} (cc : CalMe X.prog X.w X.K X.mg X.base c m k n wf) (hr : Room j X.A) (ho : EV G X o fo) (ha : EA G X (e :: es) g) (hk : k ≤ j := by decide)
    (hst : starEach (e :: es) X.env = (false, eval e X.env) :: starEach es X.env := by rfl) (hpl : (backTo pos (starEach es X.env)).any (·.1) = false := by rfl)
    (ht : eval (.Call (.Attribute o m apos) (e :: es) [] pos) X.env = (do
      let ov ← eval o X.env
      standAt apos.atName
      let (f, first) ← holding [ov] (getMethod ov m pl)
      callWith pos f first (backTo pos (starEach (e :: es) X.env)) (backToKw pos (keywordEach [] X.env))) := by rfl) :
    EV G X (.Call (.Attribute o m apos) (e :: es) [] pos) (dMeth c n wf fo g) := by
  obtain ⟨C, f, fd, ps, F, hb, hC, hM, hcl⟩ := cc.ex
  refine ⟨fun δ P P' h q => ho.mono _ _ _ (fun x ⟨fs, ds, z, q⟩ => ⟨fs, ds, z, ha.mono _ _ _ (fun xs ⟨q1, Qd, q2, q3⟩ => ⟨q1, Qd, q2, fun d z => h _ (q3 d z)⟩) q⟩) q, fun H0 π hG => ?_⟩
  refine pei (pe_meth (E := L2.E0) (dvs := []) (ho.pe H0 π hG) hcl hM F (hr.mono hk) hb .nil L2.pass0 (ha.pa H0 π hG) hst hpl ht) fun σ H Q ⟨δ, ν, E, q⟩ => ?_
  refine ⟨δ, ν, E, ho.mono _ _ _ (fun x ⟨fs, ds, ⟨h1, h2⟩, q⟩ v H1 M s1 o1 => ?_) q⟩
  obtain ⟨a, C', dx, fv, M', rfl, i, ha1, rfl, rs, rfl⟩ := o1.rp.ins_ h1 h2
  have eC : C' = C := by
    have := i.1
    rw [hC] at this
    cases this; rfl
  subst eC
  refine ⟨a, dx, fv, rfl, ha1, lookup_no fun hm => ?_, δ, ν, E.same s1, ha.mono _ _ _ (fun xs ⟨q1, Qd, q2, q3⟩ vs H2 Ms s2 o2 => ?_) q⟩
  · have := i.2.2.2 m hm
    unfold NoAttr at this
    rw [hM.at_] at this
    cases this
  · have r2 := o2.rps
    show spOf X.K n wf (V.ref a :: (vs ++ [])) H2 Q L2.E0
    rw [List.append_nil]
    refine ⟨by simp [r2.length, q1], _, _, .cons (o1.rp.same s2) r2, Qd, q2, fun d z v H' M s r n f => ?_⟩
    exact q3 d z v H' M ((s1.trans s2).trans s) (FR.vok (s1.trans s2) r n f E)

/-! ### isinstance where instances of an own class c may come -/
/-- what is asked of the class for isinstance -/
def InsT (K : PySem.W.Frag) (C : Addr) : Prop := PySem.W.findIn K (.ref C) "__class__" = some (some (.builtin "object.__class__")) ∧ PySem.W.specialIn K (.builtin "object.__class__") "__get__" = some (some (.builtin "getset_descriptor.__get__")) ∧
  PySem.W.takesIn K (.builtin "object.__class__") = some true ∧ PySem.W.mroIn K C (.type "object") = some true
/-- isinstance(x, T), T built in: an instance of c is none -/
def kIsiO (c : Str) (T : String) : K1 := fun d Q => (isJ d = false ∧ Q (.bool (isiB T d))) ∨ ∃ (fs : List Str) (ds : List D), (d = insD c fs ds ∧ fs.length = ds.length) ∧ Q (.bool false)
/-- isinstance(x, c) -/
def kIsC (c : Str) : K1 := fun d Q => (isJ d = false ∧ Q (.bool false)) ∨ ∃ (fs : List Str) (ds : List D), (d = insD c fs ds ∧ fs.length = ds.length) ∧ Q (.bool true)
structure IsCK (K : PySem.W.Frag) (mg : Str → Option Value) (c : Str) : Prop where
  ex : ∃ C, PySem.W.nsIn K mainGlobals c = some (some (.ref C)) ∧ mg c = some (.ref C) ∧ InsT K C ∧ PySem.W.kitOne K (.ref C) (.ref C) = some true ∧ PySem.W.kitOne K (.ref C) (.type "list") = some false ∧
    (["NoneType", "bool", "int", "str", "list", "tuple"].all fun U => PySem.W.kitOne K (.type U) (.ref C) == some false) = true
theorem ev_isiO {G : GT} {c : Str} {x : Str} {p p' : Pos} (I : IsCK X.K X.mg c) (hg : Gl X "isinstance") (hm : X.mg "isinstance" = none) (hgT : Gl X x) (hmT : X.mg x = none) (hvT : bootBuiltins x = some (.type "list")) (ha : EV G X a fa)
    (hk : (["NoneType", "bool", "int", "str", "list", "tuple"].all fun U => kitB U "list" == some (decide ("list" = U))) = true) (hn : x ≠ "__name__" := by decide) (hdb : (x == ("__debug__" : Str)) = false := by decide)
    (he : starEach [a, .Name x p'] X.env = (false, eval a X.env) :: starEach [.Name x p'] X.env := by rfl) (he2 : starEach [Expr.Name x p'] X.env = (false, eval (.Name x p') X.env) :: starEach [] X.env := by rfl)
    (hpl : (backTo pos (starEach [Expr.Name x p'] X.env)).any (·.1) = false := by rfl) :
    EV G X (.Call (.Name "isinstance" p) [a, .Name x p'] [] pos) (dUn (kIsiO c "list") fa) := by
  have hk1 : R1Ok X (fun u H Q => rIsi X.K [u, .ty "list"] H Q) (kIsiO c "list") := by
    refine ⟨fun d Q Q' h q => ?_, fun H u d N Q R r q h => ?_⟩
    · rcases q with ⟨j, q⟩ | ⟨fs, ds, j, q⟩
      · exact .inl ⟨j, h _ q⟩
      · exact .inr ⟨fs, ds, j, h _ q⟩
    · rcases q with ⟨hj, q⟩ | ⟨fs, ds, ⟨h1, h2⟩, q⟩
      · refine ⟨u, .ty "list", _, _, isiB "list" d, rfl, .ty "list", r.tyx hj, kit_ty ?_, h _ _ (FR.imm (.bl _) rfl q)⟩
        have g : ∀ U ∈ ["NoneType", "bool", "int", "str", "list", "tuple"], kitB U "list" = some (decide ("list" = U)) := fun U hU => by
          simpa using List.all_eq_true.mp hk U hU
        cases d <;> exact g _ (by simp [tyD])
      · obtain ⟨a', C', dx, fv, M', rfl, i, ha1, rfl, rs, rfl⟩ := r.ins_ h1 h2
        obtain ⟨C, hC, _, hT, _, hL, _⟩ := I.ex
        have e := i.1
        rw [hC] at e
        cases e
        exact ⟨_, .ty "list", _, _, false, rfl, .ty "list", .base (.ins ha1 i.2.1 hT.1 hT.2.1 hT.2.2.1 hT.2.2.2), hL, h _ _ (FR.imm (.bl _) rfl q)⟩
  exact ev_un1 hk1 ha fun {ta} h => pe_callB call_isi hg hm boot_isinstance (pa_cons h (pa_cons (pe_bltn hgT hmT hvT (v := .ty "list") rfl hn hdb) pa_nil he2) he) (by decide) (by decide) he hpl
theorem ev_isC {G : GT} {c : Str} {p p' : Pos} (I : IsCK X.K X.mg c) (hg : Gl X "isinstance") (hm : X.mg "isinstance" = none) (hgT : Gl X c) (ha : EV G X a fa) (hdb : (c == ("__debug__" : Str)) = false := by decide)
    (he : starEach [a, .Name c p'] X.env = (false, eval a X.env) :: starEach [.Name c p'] X.env := by rfl) (he2 : starEach [Expr.Name c p'] X.env = (false, eval (.Name c p') X.env) :: starEach [] X.env := by rfl)
    (hpl : (backTo pos (starEach [Expr.Name c p'] X.env)).any (·.1) = false := by rfl) :
    EV G X (.Call (.Name "isinstance" p) [a, .Name c p'] [] pos) (dUn (kIsC c) fa) := by
  obtain ⟨C, hC, hmC, hT, hS, hL, hB⟩ := I.ex
  have hk1 : R1Ok X (fun u H Q => rIsi X.K [u, .ref C] H Q) (kIsC c) := by
    refine ⟨fun d Q Q' h q => ?_, fun H u d N Q R r q h => ?_⟩
    · rcases q with ⟨j, q⟩ | ⟨fs, ds, j, q⟩
      · exact .inl ⟨j, h _ q⟩
      · exact .inr ⟨fs, ds, j, h _ q⟩
    · rcases q with ⟨hj, q⟩ | ⟨fs, ds, ⟨h1, h2⟩, q⟩
      · refine ⟨u, .ref C, _, _, false, rfl, .own C, r.tyx hj, ?_, h _ _ (FR.imm (.bl _) rfl q)⟩
        have g : ∀ U ∈ ["NoneType", "bool", "int", "str", "list", "tuple"], PySem.W.kitOne X.K (.type U) (.ref C) = some false := fun U hU => by
          simpa using List.all_eq_true.mp hB U hU
        cases d <;> exact g _ (by simp [tyD])
      · obtain ⟨a', C', dx, fv, M', rfl, i, ha1, rfl, rs, rfl⟩ := r.ins_ h1 h2
        have e := i.1
        rw [hC] at e
        cases e
        exact ⟨_, .ref C, _, _, true, rfl, .own C, .base (.ins ha1 i.2.1 hT.1 hT.2.1 hT.2.2.1 hT.2.2.2), hS, h _ _ (FR.imm (.bl _) rfl q)⟩
  exact ev_un1 hk1 ha fun {ta} h => pe_callB call_isi hg hm boot_isinstance (pa_cons h (pa_cons (pe_glob hgT hmC (show RelV (.ref C) (.ref C) from rfl) hdb) pa_nil he2) he) (by decide) (by decide) he hpl
/-- the same where it is known that the __init__ lets nothing out -/
theorem ev_makeN {G : GT} {j k n : Nat} {wf : WXf} {c : Str} {p : Pos} (cc : CalI X.prog X.w X.K X.mg X.base c k n wf) (hg : Gl X c) (hr : Room j X.A) (ha : EA G X (e :: es) g) (hk : k + 1 ≤ j := by decide)
    (hdb : (c == ("__debug__" : Str)) = false := by decide) (he : starEach (e :: es) X.env = (false, eval e X.env) :: starEach es X.env := by rfl) (hpl : (backTo pos (starEach es X.env)).any (·.1) = false := by rfl) :
    EV G X (.Call (.Name c p) (e :: es) [] pos) (dCallX n wf (fun _ _ => False) g) := by
  obtain ⟨C, f, fd, ps, ⟨hC, M⟩, F, hm, hb⟩ := cc.ex
  refine ⟨fun δ P P' h q => ha.mono _ _ _ (fun xs ⟨q1, Qd, Xd, q2, q3, q4⟩ => ⟨q1, Qd, Xd, q2, fun d z => h _ (q3 d z), q4⟩) q, fun H0 π hG => ?_⟩
  refine pei (pe_mkS (E := fun _ => L2.E0) M F (hr.mono hk) hg hm hb (fun σ pins H s e s' I h => L2.passL pins σ H s e s' I h) (ha.pa H0 π hG) hdb he hpl) fun σ H Q ⟨δ, ν, E, q⟩ => ?_
  refine ⟨δ, ν, E, ha.mono _ _ _ (fun xs ⟨q1, Qd, Xd, q2, q3, q4⟩ vs H1 Ms s1 o1 y dy hy hdy hne => ?_) q⟩
  have r := o1.rps
  have s2 : Same H1 (upd (upd H1 dy (.own y)) y (.ins C dy [])) := fun b z hz => by
    rw [upd_ne (fun h => by subst h; rw [hy] at hz; cases hz), upd_ne (fun h => by subst h; rw [hdy] at hz; cases hz)]
    exact hz
  refine ⟨by simp [r.length, q1], y, vs, rfl, C, dy, ⟨hC, upd_same⟩, _, _, r.same s2, fun h => r.trk y h hy, Qd, Xd, q2, fun d z H' M' k1 r' n' f' => ⟨rfl, ?_⟩, fun ex z cls dd H' h => (q4 ex z).elim⟩
  have s3 : Same H1 H' := fun b z hz => k1 b z (fun h => by subst h; rw [hy] at hz; cases hz) (s2 b z hz)
  refine q3 d z _ H' M' (s1.trans s3) (FR.vok s1 r' n' (fun b hb => ?_) E)
  rcases f' b hb with rfl | h
  · exact hy
  · cases e0 : H1 b with
    | none => rfl
    | some z => rw [s2 b z e0] at h; cases h
theorem CalM.toE {P : Program} {w : World} {K : PySem.W.Frag} {mg : Str → Option Value} {base : Heap} {x : Str} {k n : Nat} {mu : List Nat} {wf : WM} (c : CalM P w K mg base x k n mu wf) : CalE P w K mg base x k n mu wf := by
  obtain ⟨f, fd, ps, F, h⟩ := c.ex
  refine ⟨f, fd, ps, F.imp fun vs H Q E q => ?_, h⟩
  obtain ⟨h1, ds, ν, h2, h3, Qd, h4, h5⟩ := q
  exact ⟨h1, ds, ν, h2, h3, Qd, h4, fun d es z v H' ν' bk _ => h5 d es z v H' ν' bk⟩
theorem noF_of {K : PySem.W.Frag} {c : Str} {C : Addr} {fs : List Str} {f : Str} (h : PySem.W.nsIn K mainGlobals c = some (some (.ref C))) (ha : (fs.all fun f => PySem.W.findIn K (.ref C) f == some none) = true) (hf : f ∈ fs) : NoF K c f := fun C' h' => by
  rw [h] at h'
  cases h'
  have := List.all_eq_true.mp ha f hf
  exact eq_of_beq this
/-- the k-th def of a class statement -/
def clsFn (s : Stmt) (k : Nat) : Stmt := match s with
  | .ClassDef (body := b) .. => b.getD k (.Pass ⟨0, 0, 0, 0⟩)
  | _ => .Pass ⟨0, 0, 0, 0⟩
/-- x.clear() -/
def mClear (j : Nat) : DS := fun E δ => match ownL δ j with
  | some (_, pn) => setK δ j (some ⟨.list [], true, pn⟩) E.nx
  | none => False
theorem mClear_mono {j : Nat} : MonoS (mClear j) := fun A B δ h1 h2 q => by
  unfold mClear at *
  split at q
  · rw [setK_eq] at q ⊢
    exact h1 _ q
  · exact q.elim
theorem sv_clear {G : GT} (j : Nat) {x : Str} {px pm pe : Pos} (hN : X.N[j]? = some x := by rfl) (hv : Vis X.env.scope x := by first | exact Or.inl rfl | exact Or.inr (Or.inl rfl) | exact Or.inr (Or.inr rfl)) (hd : (x == ("__debug__" : Str)) = false := by decide)
    (hcd : (x == ("__classdict__" : Str)) = false := by decide)
    (hs : swapsWith (.Call (.Attribute (.Name x px) "clear" pm) [] [] pe) none pos.line X.env = pure false := by rfl)
    (hbm : ∀ {to : TE}, PE X (.Name x px) to → PE X (.Call (.Attribute (.Name x px) "clear" pm) [] [] pe) (tBM0 X.K "list" rClear to) := by
      intro _ h1; exact pe_bm0 PySem.F.plainAttrs_list PySem.F.slot_list_clear PySem.F.type_list_clear mt_clear h1) :
    SV G X (.Expr (.Call (.Attribute (.Name x px) "clear" pm) [] [] pe) pos) (mClear j) := by
  refine ⟨mClear_mono, fun H0 π hG => psi (ps_expr (hbm (pe_var hN hv hd hcd)) hs) fun D σ H ⟨δ, ν, E, q⟩ => ?_⟩
  unfold mClear at q
  split at q
  · rename_i ds pn hj
    have hj := ownL_some hj
    obtain ⟨p, xs, N', hv, hn, hp, rs, nd, fr⟩ := own_list E hj
    rw [setK_eq] at q
    refine ⟨_, hv, .inl ⟨rfl, _, SqL.of hp⟩, p, xs, rfl, rfl, hp, ?_⟩
    exact q _ _ _ (E.write hj rfl hv hn hp .nil (by simp) (fun _ h => (nomatch h)) (fun _ h => (nomatch h)) fun _ _ _ _ _ _ _ h => (nomatch h))
  · exact q.elim
end
end KT
/-! Kt4: f(y, …, a, …) as a statement: f changes the lists of the names js, its first arguments. -/
namespace KT
open PySem PySem.Spec PyProof.Rows L2
variable [WT]
/-- arguments of which the first ones are names -/
def semMF (K : PySem.W.Frag) (H0 : Hp) (π : Nat → Option V) (g : DA) (js : List Nat) : TA := fun σ H Q => ∃ δ ν, EnvOk K H0 π H σ δ ν ∧ (∀ j ∈ js, ∃ v, σ[j]? = some (some v)) ∧
  g δ fun xs => ∀ vs H' Ms ws, Same H H' → VsOk K H δ ν H' vs xs Ms → ws.length = js.length → (∀ (k j : Nat), js[k]? = some j → ∃ w, ws[k]? = some w ∧ σ[j]? = some (some w)) → Q (ws ++ vs) H'
structure EMF (G : GT) (X : Cx) (es : List Expr) (g : DA) (js : List Nat) : Prop where
  mono : ∀ δ (P P' : List Val → Prop), (∀ x, P x → P' x) → g δ P → g δ P'
  pa : ∀ H0 π, G H0 π → PA X es (semMF X.K H0 π g js)
theorem emf_args {G : GT} {X : Cx} {es : List Expr} {g : DA} (ha : EA G X es g) : EMF G X es g [] :=
  ⟨ha.mono, fun H0 π hG => pai (ha.pa H0 π hG) fun σ H Q ⟨δ, ν, E, _, q⟩ => ⟨δ, ν, E, ha.mono _ _ _ (fun xs q vs H' Ms s o => q vs H' Ms [] s o rfl fun k j h => by simp at h) q⟩⟩
theorem emf_cons {G : GT} {X : Cx} {es : List Expr} {g : DA} {js : List Nat} (j : Nat) {x : Str} {pos : Pos} (hr : EMF G X es g js) (hN : X.N[j]? = some x := by rfl) (hv : Vis X.env.scope x := by first | exact Or.inl rfl | exact Or.inr (Or.inl rfl) | exact Or.inr (Or.inr rfl)) (hd : (x == ("__debug__" : Str)) = false := by decide)
    (hcd : (x == ("__classdict__" : Str)) = false := by decide) (hs : starEach (.Name x pos :: es) X.env = (false, eval (.Name x pos) X.env) :: starEach es X.env := by rfl) : EMF G X (.Name x pos :: es) g (j :: js) :=
  ⟨hr.mono, fun H0 π hG => pai (pa_cons (pe_var hN hv hd hcd) (hr.pa H0 π hG) hs) fun σ H Q ⟨δ, ν, E, h, q⟩ => by
    obtain ⟨v, hv⟩ := h j List.mem_cons_self
    refine ⟨v, hv, δ, ν, E, fun i hi => h i (List.mem_cons_of_mem _ hi), hr.mono _ _ _ (fun xs q vs H' Ms ws s o hl hw => q vs H' Ms (v :: ws) s o (by simp [hl]) fun k i hk => ?_) q⟩
    cases k with
    | zero => simp at hk; subst hk; exact ⟨v, rfl, hv⟩
    | succ k => simpa using hw k i (by simpa using hk)⟩
def mCallEF (n : Nat) (js : List Nat) (w : WM) (g : DA) : DS := fun E δ => getsK js δ fun ds => g δ fun xs => (xs.length + js.length = n ∧ sepB js xs = true) ∧ ∃ Qd : D → List D → Prop, w (ds ++ xs.map Val.d) Qd ∧ ∀ d es, Qd d es → putsK js es δ fun δ' => E.nx δ'
theorem mCallEF_mono {n : Nat} {js : List Nat} {w : WM} {g : DA} (hg : ∀ δ (P P' : List Val → Prop), (∀ x, P x → P' x) → g δ P → g δ P') : MonoS (mCallEF n js w g) := fun A B δ h1 h2 q =>
  getsK_mono (fun ds q => hg _ _ _ (fun xs ⟨c, Qd, a, b⟩ => ⟨c, Qd, a, fun d es z => putsK_mono (fun δ q => h1 _ q) (b d es z)⟩) q) q
section
variable {G : GT} {X : Cx} {e : Expr} {es : List Expr} {g : DA} {pos : Pos}
theorem sv_callMF {jr k n : Nat} {js mu : List Nat} {wf : WM} {x : Str} {p posC : Pos} (c : CalE X.prog X.w X.K X.mg X.base x k n mu wf) (hg : Gl X x) (hr : Room jr X.A) (ha : EMF G X (e :: es) g js) (hk : k ≤ jr := by decide)
    (hmu : mu = List.range js.length := by decide) (hjs : js.Nodup := by decide)
    (hs : swapsWith (.Call (.Name x p) (e :: es) [] posC) none pos.line X.env = pure false := by rfl)
    (hdb : (x == ("__debug__" : Str)) = false := by decide) (he : starEach (e :: es) X.env = (false, eval e X.env) :: starEach es X.env := by rfl) (hpl : (backTo posC (starEach es X.env)).any (·.1) = false := by rfl) :
    SV G X (.Expr (.Call (.Name x p) (e :: es) [] posC) pos) (mCallEF n js wf g) := by
  obtain ⟨f, fd, ps, F, hm, kp, hb⟩ := c.ex
  refine ⟨mCallEF_mono ha.mono, fun H0 π hG => psi (ps_expr (pe_call (p := p) (pos := posC) F (hr.mono hk) hg hm kp hb .nil L2.pass0 (ha.pa H0 π hG) hdb he hpl) hs) fun D σ H ⟨δ, ν, E, q⟩ => ?_⟩
  obtain ⟨ds, q, ld, hds⟩ := getsK_to q
  have own : ∀ j ∈ js, ∃ d pn, δ[j]? = some (some ⟨d, true, pn⟩) := fun j hj => by
    obtain ⟨k, hk⟩ := List.getElem?_of_mem hj
    obtain ⟨d, pn, _, h⟩ := hds k j hk
    exact ⟨d, pn, h⟩
  refine ⟨δ, ν, E, fun j hj => ?_, ha.mono _ _ _ (fun xs q vs H1 Ms ws s1 o1 hl hw => ?_) q⟩
  · obtain ⟨d, pn, h⟩ := own j hj
    obtain ⟨v, hv, _⟩ := E.at_ j _ h
    exact ⟨v, hv⟩
  · obtain ⟨⟨hn, sep⟩, Qd, q1, q2⟩ := q
    have E1 := E.same s1
    have lv := o1.length
    have hmu' : ∀ (k i : Nat), mu[k]? = some i → ∃ j, js[k]? = some j ∧ i = k := fun k i h => by
      rw [hmu] at h
      by_cases hk : k < js.length
      · rw [List.getElem?_range hk] at h
        simp at h
        exact ⟨js[k], List.getElem?_eq_getElem hk, by omega⟩
      · rw [List.getElem?_eq_none (by simpa using hk)] at h
        simp at h
    have mem : ∀ i ∈ mu, ∃ k j, mu[k]? = some i ∧ js[k]? = some j ∧ i = k := fun i hi => by
      obtain ⟨k, hk⟩ := List.getElem?_of_mem hi
      obtain ⟨j, hj, e⟩ := hmu' k i hk
      exact ⟨k, j, hk, hj, e⟩
    have muj : ∀ j ∈ js, js.idxOf j ∈ mu ∧ mu[js.idxOf j]? = some (js.idxOf j) ∧ js[js.idxOf j]? = some j := fun j hj => by
      obtain ⟨k, hk⟩ := List.getElem?_of_mem hj
      have e := idxOf_get hjs hk
      rw [e]
      have hk2 := (List.getElem?_eq_some_iff.mp hk).1
      have h : mu[k]? = some k := by
        rw [hmu, List.getElem?_range hk2]
      exact ⟨List.mem_of_getElem? h, h, hk⟩
    -- the arguments' lists
    let ν1 : Nu := fun i => if i < js.length then ν (js.getD i 0) else Ms.getD (i - js.length) []
    have nu2 : ∀ k j, js[k]? = some j → ν1 k = ν j := fun k j h => by
      show (if k < js.length then ν (js.getD k 0) else _) = ν j
      rw [if_pos (List.getElem?_eq_some_iff.mp h).1]
      simp [List.getD_eq_getElem?_getD, h]
    have ao : ArgsOk X.K H1 mu (ws ++ vs) (ds ++ xs.map Val.d) ν1 := by
      refine ⟨fun i d h => ?_, fun i hi => ?_, fun i hi j d n h a ha => ?_⟩
      · by_cases c : i < js.length
        · rw [List.getElem?_append_left (by omega)] at h
          have hj := List.getElem?_eq_getElem c
          obtain ⟨d', pn, g1, g2⟩ := hds _ _ hj
          rw [h] at g1
          cases g1
          obtain ⟨w, hw1, hw2⟩ := hw _ _ hj
          obtain ⟨v, a1, a2, _⟩ := E1.at_ _ _ g2
          rw [hw2] at a1
          cases a1
          refine ⟨w, by rw [List.getElem?_append_left (by omega)]; exact hw1, ?_⟩
          rw [nu2 _ _ hj]
          exact a2
        · rw [List.getElem?_append_right (by omega), List.getElem?_map] at h
          cases hx : xs[i - ds.length]? with
          | none => rw [hx] at h; simp at h
          | some y =>
            rw [hx] at h
            simp at h
            obtain ⟨v, M, h1, h2, h3⟩ := o1.getv hx
            refine ⟨v, by rw [List.getElem?_append_right (by omega), hl, ← ld]; exact h1, ?_⟩
            show Rp X.K H1 v d (if i < js.length then _ else Ms.getD (i - js.length) [])
            rw [if_neg c, List.getD_eq_getElem?_getD, ← ld, h2, ← h]
            exact h3.rp
      · obtain ⟨k, j, h1, h2, rfl⟩ := mem i hi
        rw [nu2 _ j h2]
        obtain ⟨d, pn, g⟩ := own j (List.mem_of_getElem? h2)
        exact (E1.nd j _ g rfl).1
      · obtain ⟨k, j1, h1, h2, rfl⟩ := mem i hi
        rw [nu2 _ j1 h2] at ha
        obtain ⟨d1, pn1, g⟩ := own j1 (List.mem_of_getElem? h2)
        by_cases c : j < js.length
        · rw [List.getElem?_append_left (by omega)] at h
          have hj := List.getElem?_eq_getElem c
          rw [nu2 _ _ hj]
          obtain ⟨d2, pn2, g2⟩ := own _ (List.mem_of_getElem? hj)
          refine E1.dj j1 _ _ _ (fun z => n ?_) g rfl g2 a ha
          rw [← z] at hj
          have e1 := idxOf_get hjs hj
          have e2 := idxOf_get hjs h2
          omega
        · rw [List.getElem?_append_right (by omega), List.getElem?_map] at h
          cases hx : xs[j - ds.length]? with
          | none => rw [hx] at h; simp at h
          | some y =>
            obtain ⟨v, M, _, e2, e3⟩ := o1.getv hx
            show a ∉ (if j < js.length then _ else Ms.getD (j - js.length) [])
            rw [if_neg c, List.getD_eq_getElem?_getD, ← ld, e2]
            exact e3.al j1 _ g rfl (sepB_to sep (List.mem_of_getElem? hx) (List.mem_of_getElem? h2)) a ha
    show spOfE X.K n mu wf ((ws ++ vs) ++ []) H1 _ L2.E0
    rw [List.append_nil]
    refine ⟨by rw [List.length_append, lv, hl]; omega, _, ν1, by rw [List.length_append, List.length_map, ld]; omega, ao, Qd, q1, fun d es2 z v H' ν' bk => ?_⟩
    obtain ⟨δ', q3, l3, l4, k3, p3⟩ := putsK_to hjs (q2 d es2 z)
    have E2 : EnvOk X.K H0 π H' σ δ' (fun k => if k ∈ js then ν' (js.idxOf k) else ν k) := by
      refine E1.after (ν' := fun k => ν' (js.idxOf k)) own (fun a o h hn => bk.fr a o h fun i hi => ?_) l3 k3 (fun j hj => ?_) (fun j hj => ?_) fun i hi j hj n => ?_
      · obtain ⟨k, j, _, h2, rfl⟩ := mem i hi
        rw [nu2 _ j h2]
        exact hn j (List.mem_of_getElem? h2)
      · obtain ⟨m1, m2, m3⟩ := muj j hj
        obtain ⟨e', d', pn, g1, g2, g3⟩ := p3 _ _ m3
        obtain ⟨v', e2, b1, b2, b3⟩ := bk.at_ _ _ m2
        rw [g1] at b2
        cases b2
        obtain ⟨w, hw1, hw2⟩ := hw _ _ m3
        rw [List.getElem?_append_left (by rw [hl]; exact (List.getElem?_eq_some_iff.mp m3).1), hw1] at b1
        cases b1
        exact ⟨_, d', pn, _, g2, g3, hw2, b3⟩
      · obtain ⟨m1, m2, m3⟩ := muj j hj
        obtain ⟨n1, n2⟩ := bk.nd _ m1
        refine ⟨n1, fun a ha => (n2 a ha).imp id fun ⟨i, hi, hm⟩ => ?_⟩
        obtain ⟨k, j', _, h2, rfl⟩ := mem i hi
        rw [nu2 _ j' h2] at hm
        exact ⟨j', List.mem_of_getElem? h2, hm⟩
      · obtain ⟨m1, m2, m3⟩ := muj i hi
        obtain ⟨m1', m2', m3'⟩ := muj j hj
        refine bk.dj _ m1 _ m1' fun z => n ?_
        have : js.idxOf i = js.idxOf j := z
        rw [this] at m3
        rw [m3] at m3'
        cases m3'
        rfl
    exact q3 _ _ _ E2
end
end KT
/-! Kt5: in, not in, over lists of data of any depth. -/
namespace KT
open PySem PySem.Spec PyProof.Rows L2
variable [WT]
theorem units65 {k : Nat} {A : Around} (r : Room k A) : A.units + 65 < cLine := by have := r.un; omega
def kInDB (neg : Bool) : K2 := fun d e Q => match e with
  | .list ds => (SeqAt.shaped d = true ∧ SeqAt.shaped (.list ds) = true) ∧ Q (.bool (ng neg (ds.any fun z => PyData.eqv z d)))
  | _ => False
section
variable {X : Cx}
theorem inDB_mono (neg : Bool) : ∀ d e (Q Q' : D → Prop), (∀ x, Q x → Q' x) → kInDB neg d e Q → kInDB neg d e Q' := fun d e Q Q' h q => by
  unfold kInDB at *
  split at q
  · exact ⟨q.1, h _ q.2⟩
  · exact q.elim
theorem ok_inD : R2Ok X (rInD X.K) (kInDB false) := by
  refine ⟨inDB_mono false, fun H x y d e N M Q R r1 r2 q h => ?_⟩
  unfold kInDB at q
  split at q
  · exact ⟨_, _, r1.dp q.1.1, r2.dp q.1.2, q.1.1, q.1.2, h _ _ (FR.imm (.bl _) rfl q.2)⟩
  · exact q.elim
theorem ok_notInD : R2Ok X (rNotInD X.K) (kInDB true) := by
  refine ⟨inDB_mono true, fun H x y d e N M Q R r1 r2 q h => ?_⟩
  unfold kInDB at q
  split at q
  · exact ⟨_, _, r1.dp q.1.1, r2.dp q.1.2, q.1.1, q.1.2, h _ _ (FR.imm (.bl _) rfl q.2)⟩
  · exact q.elim
end
end KT
/-! Kt6: x[i].append(e) for an own pair x that is read no more. -/
namespace KT
open PySem PySem.Spec PyProof.Rows L2
variable [WT]
section
variable {G : GT} {X : Cx} {fi f : DE} {pos : Pos}
def mAppT (j : Nat) (fi f : DE) : DS := fun E δ => match ownT δ j with
  | some (ds, _) => fi δ fun y => (match y.d with
    | .int k => ∃ m fs, (ixN ds.length k = some m ∧ ds[m]? = some (.list fs)) ∧ f δ fun x => (imm x.d = true ∧ fs.length < sizeLine) ∧ setK δ j none E.nx
    | _ => False)
  | none => False
theorem mAppT_mono {j : Nat} (hi : MonoE fi) (hm : MonoE f) : MonoS (mAppT j fi f) := fun A B δ h1 h2 q => by
  unfold mAppT at *
  split at q
  · refine hi _ _ _ (fun y q => ?_) q
    split at q
    · obtain ⟨n, fs, a2, q⟩ := q
      refine ⟨n, fs, a2, hm _ _ _ (fun x q => ⟨q.1, ?_⟩) q⟩
      have q2 := q.2
      rw [setK_eq] at q2 ⊢
      exact h1 _ q2
    · exact q.elim
  · exact q.elim
theorem sv_appT (j : Nat) {x : Str} {px ps pm pe : Pos} {i e : Expr} (hi : EV G X i fi) (hs0 : PlainIx i) (he : EV G X e f) (hN : X.N[j]? = some x := by rfl) (hv : Vis X.env.scope x := by first | exact Or.inl rfl | exact Or.inr (Or.inl rfl) | exact Or.inr (Or.inr rfl)) (hd : (x == ("__debug__" : Str)) = false := by decide)
    (hcd : (x == ("__classdict__" : Str)) = false := by decide) (hs1 : starEach [e] X.env = (false, eval e X.env) :: starEach [] X.env := by rfl)
    (hs : swapsWith (.Call (.Attribute (.Subscript (.Name x px) i ps) "append" pm) [e] [] pe) none pos.line X.env = pure false := by rfl)
    (hbm : ∀ {to : TE} {t : TA}, PE X (.Subscript (.Name x px) i ps) to → PA X [e] t → PE X (.Call (.Attribute (.Subscript (.Name x px) i ps) "append" pm) [e] [] pe) (tBM X.K "list" rAppend to t) := by
      intro _ _ h1 h2; exact pe_bm PySem.F.plainAttrs_list PySem.F.slot_list_append PySem.F.type_list_append mt_append h1 h2) :
    SV G X (.Expr (.Call (.Attribute (.Subscript (.Name x px) i ps) "append" pm) [e] [] pe) pos) (mAppT j fi f) := by
  refine ⟨mAppT_mono hi.mono he.mono, fun H0 π hG => psi (ps_expr (hbm (pe_ix ix_seq (pe_var hN hv hd hcd) (hi.pe H0 π hG) hs0) (pa_cons (he.pe H0 π hG) pa_nil hs1)) hs) fun D σ H ⟨δ, ν, E, q⟩ => ?_⟩
  unfold mAppT at q
  split at q
  · rename_i ds pn hj
    have hj := ownT_some hj
    obtain ⟨p, xs, hv, hp, rs, nd, fr⟩ := own_tup E hj
    refine ⟨_, hv, δ, ν, E, hi.mono _ _ _ (fun z q u H1 L s1 o1 => ?_) q⟩
    have rz := o1.rp
    revert q
    cases hz : z.d <;> first | exact False.elim | skip
    rename_i i1
    rintro ⟨m, es, ⟨hm, hes⟩, q⟩
    rw [hz] at rz
    obtain ⟨v, A, M, B, g1, g2, g3, g4⟩ := (rs.same s1).get2 hes
    obtain ⟨a, ys, M', rfl, rfl, ha, rs'⟩ := g3.list_
    have hat : atI xs i1 = some (.ref a) := by
      unfold atI
      rw [rs.length, hm]
      exact g1
    refine .inr (.inl ⟨p, xs, i1, .ref a, rfl, rz.int_, SqT.same s1 hp, hat, .inl ⟨rfl, _, SqL.of ha⟩, δ, ν, E.same s1, he.mono _ _ _ (fun y q w H3 W s3 o3 => ?_) q⟩)
    obtain ⟨⟨im, hz⟩, q⟩ := q
    rw [setK_eq] at q
    have bN : a ∈ ν j := by
      rw [g2]
      simp
    exact ⟨a, ys, w, rfl, rfl, s3 _ _ ha, by rw [rs'.length]; exact hz, q _ _ _ (((E.same s1).same s3).forget hj rfl bN (s3 _ _ ha))⟩
  · exact q.elim
end
end KT
/-! Kt7: x.insert(i, e), x.remove(n). -/
namespace KT
open PySem PySem.Spec PyProof.Rows L2
variable [WT]
section
variable {G : GT} {X : Cx} {fi f : DE} {pos : Pos}
/-- x.insert(i, e) -/
def mIns (j : Nat) (fi f : DE) : DS := fun E δ => match ownL δ j with
  | some (ds, pn) => fi δ fun y => (match y.d with
    | .int k => f δ fun x => (x.own = true ∧ x.roots.contains j = false ∧ ds.length < sizeLine ∧ 0 ≤ k ∧ k ≤ ds.length) ∧ killK δ x.roots fun δ' => setK δ' j (some ⟨.list (ds.take k.toNat ++ [x.d] ++ ds.drop k.toNat), true, pn⟩) E.nx
    | _ => False)
  | none => False
theorem mIns_mono {j : Nat} (hi : MonoE fi) (hm : MonoE f) : MonoS (mIns j fi f) := fun A B δ h1 h2 q => by
  unfold mIns at *
  split at q
  · refine hi _ _ _ (fun y q => ?_) q
    split at q
    · refine hm _ _ _ (fun x q => ⟨q.1, ?_⟩) q
      have q2 := q.2
      rw [killK_eq, setK_eq] at q2 ⊢
      exact h1 _ q2
    · exact q.elim
  · exact q.elim
theorem sv_ins (j : Nat) {x : Str} {px pm pe : Pos} {i e : Expr} (hi : EV G X i fi) (he : EV G X e f) (hN : X.N[j]? = some x := by rfl) (hv : Vis X.env.scope x := by first | exact Or.inl rfl | exact Or.inr (Or.inl rfl) | exact Or.inr (Or.inr rfl)) (hd : (x == ("__debug__" : Str)) = false := by decide)
    (hcd : (x == ("__classdict__" : Str)) = false := by decide) (hs1 : starEach [i, e] X.env = (false, eval i X.env) :: starEach [e] X.env := by rfl) (hs2 : starEach [e] X.env = (false, eval e X.env) :: starEach [] X.env := by rfl)
    (hs : swapsWith (.Call (.Attribute (.Name x px) "insert" pm) [i, e] [] pe) none pos.line X.env = pure false := by rfl)
    (hbm : ∀ {to : TE} {t : TA}, PE X (.Name x px) to → PA X [i, e] t → PE X (.Call (.Attribute (.Name x px) "insert" pm) [i, e] [] pe) (tBM X.K "list" (fun x vs H Q => ∃ (l : Addr) (xs : List V) (i : Int) (y : V), x = .ref l ∧ vs = [.int i, y] ∧ H l = some (.lst xs) ∧ xs.length < sizeLine ∧ 0 ≤ i ∧ i < 2 ^ 63 ∧
    Q .non (upd H l (.lst (xs.take i.toNat ++ [y] ++ xs.drop i.toNat)))) to t) := by
      intro _ _ h1 h2; exact pe_bm PySem.F.plainAttrs_list PySem.F.slot_list_insert PySem.F.type_list_insert mt_insert h1 h2) :
    SV G X (.Expr (.Call (.Attribute (.Name x px) "insert" pm) [i, e] [] pe) pos) (mIns j fi f) := by
  refine ⟨mIns_mono hi.mono he.mono, fun H0 π hG => psi (ps_expr (hbm (pe_var hN hv hd hcd) (pa_cons (hi.pe H0 π hG) (pa_cons (he.pe H0 π hG) pa_nil hs2) hs1)) hs) fun D σ H ⟨δ, ν, E, q⟩ => ?_⟩
  unfold mIns at q
  split at q
  · rename_i ds pn hj
    have hj := ownL_some hj
    obtain ⟨p, xs, N', hv, hn, hp, rs, nd, fr⟩ := own_list E hj
    refine ⟨_, hv, .inl ⟨rfl, _, SqL.of hp⟩, δ, ν, E, hi.mono _ _ _ (fun z q u H1 L s1 o1 => ?_) q⟩
    have rz := o1.rp
    revert q
    cases hz : z.d <;> first | exact False.elim | skip
    rename_i k
    intro q
    rw [hz] at rz
    refine ⟨δ, ν, E.same s1, he.mono _ _ _ (fun y q w H2 M s2 o2 => ?_) q⟩
    obtain ⟨⟨ho, hr, hzl, k0, kl⟩, q⟩ := q
    rw [killK_eq, setK_eq] at q
    have s12 := s1.trans s2
    have big := (show sizeLine < 2 ^ 63 by decide)
    refine ⟨p, xs, k, w, rfl, by rw [rz.int_], s12 _ _ hp, by rw [rs.length]; exact hzl, k0, by omega, ?_⟩
    obtain ⟨A, B, eN, rA, rB⟩ := (rs.same s12).take k.toNat
    have E1 := E.same s1
    refine q _ _ _ (write_by E1 hj s2 hv hn (s1 _ _ hp) nd fr o2 ho hr ((rA.append (Rps.one o2.rp)).append rB) (fun a ha => ?_) ?_)
    · rw [eN]
      simp only [List.mem_append] at ha ⊢
      rcases ha with (h | h) | h
      · exact .inl (.inl h)
      · exact .inr h
      · exact .inl (.inr h)
    · have nd2 := (List.nodup_cons.mp nd).2
      rw [eN] at nd2
      obtain ⟨nA, nB, nAB⟩ := List.nodup_append.mp nd2
      have hj1 : (killR δ y.roots)[j]? = some (some ⟨.list ds, true, pn⟩) := by rw [killR_at hr]; exact hj
      have dis : ∀ a ∈ N', a ∉ M := fun a ha hb => (o2.killed E1).dj ho a hb j _ hj1 (by rw [hn]; exact List.mem_cons_of_mem _ ha)
      rw [eN] at dis
      refine List.nodup_append.mpr ⟨List.nodup_append.mpr ⟨nA, o2.nd ho, fun a ha b hb e => ?_⟩, nB, fun a ha b hb e => ?_⟩
      · subst e
        exact dis a (List.mem_append_left _ ha) hb
      · subst e
        rcases List.mem_append.mp ha with h | h
        · exact nAB a h a hb rfl
        · exact dis a (List.mem_append_right _ hb) h
  · exact q.elim
/-- x.remove(n), x a list of numbers that holds n -/
def mRem (j : Nat) (f : DE) : DS := fun E δ => match ownL δ j with
  | some (ds, pn) => f δ fun y => (match y.d with
    | .int k => ∃ (ns : List Int) (m : Nat), (ds = ns.map PyData.int ∧ ns[m]? = some k ∧ ∀ i : Nat, i < m → ns[i]? ≠ some k) ∧ setK δ j (some ⟨.list ((ns.eraseIdx m).map PyData.int), true, pn⟩) E.nx
    | _ => False)
  | none => False
theorem mRem_mono {j : Nat} (hm : MonoE f) : MonoS (mRem j f) := fun A B δ h1 h2 q => by
  unfold mRem at *
  split at q
  · refine hm _ _ _ (fun y q => ?_) q
    split at q
    · obtain ⟨ns, m, a, q⟩ := q
      refine ⟨ns, m, a, ?_⟩
      rw [setK_eq] at q ⊢
      exact h1 _ q
    · exact q.elim
  · exact q.elim
theorem immL_ints : ∀ ns : List Int, immL (ns.map PyData.int) = true
  | [] => rfl
  | _ :: ns => by
    show (imm _ && immL _) = true
    rw [immL_ints ns]
    rfl
theorem rps_of_ints {K : PySem.W.Frag} {H : Hp} : ∀ ns : List Int, Rps K H (ns.map V.int) (ns.map PyData.int) []
  | [] => .nil
  | n :: ns => .cons (.int n) (rps_of_ints ns)
theorem sv_rem (j : Nat) {x : Str} {px pm pe : Pos} {e : Expr} (he : EV G X e f) (hN : X.N[j]? = some x := by rfl) (hv : Vis X.env.scope x := by first | exact Or.inl rfl | exact Or.inr (Or.inl rfl) | exact Or.inr (Or.inr rfl)) (hd : (x == ("__debug__" : Str)) = false := by decide)
    (hcd : (x == ("__classdict__" : Str)) = false := by decide) (hs1 : starEach [e] X.env = (false, eval e X.env) :: starEach [] X.env := by rfl)
    (hs : swapsWith (.Call (.Attribute (.Name x px) "remove" pm) [e] [] pe) none pos.line X.env = pure false := by rfl)
    (hbm : ∀ {to : TE} {t : TA}, PE X (.Name x px) to → PA X [e] t → PE X (.Call (.Attribute (.Name x px) "remove" pm) [e] [] pe) (tBM X.K "list" rRemI to t) := by
      intro _ _ h1 h2; exact pe_bm PySem.F.plainAttrs_list PySem.F.slot_list_remove PySem.F.type_list_remove mt_remove h1 h2) :
    SV G X (.Expr (.Call (.Attribute (.Name x px) "remove" pm) [e] [] pe) pos) (mRem j f) := by
  refine ⟨mRem_mono he.mono, fun H0 π hG => psi (ps_expr (hbm (pe_var hN hv hd hcd) (pa_cons (he.pe H0 π hG) pa_nil hs1)) hs) fun D σ H ⟨δ, ν, E, q⟩ => ?_⟩
  unfold mRem at q
  split at q
  · rename_i ds pn hj
    have hj := ownL_some hj
    obtain ⟨p, xs, N', hv, hn, hp, rs, nd, fr⟩ := own_list E hj
    refine ⟨_, hv, .inl ⟨rfl, _, SqL.of hp⟩, δ, ν, E, he.mono _ _ _ (fun z q u H1 L s1 o1 => ?_) q⟩
    have rz := o1.rp
    revert q
    cases hz : z.d <;> first | exact False.elim | skip
    rename_i k
    rintro ⟨ns, m, ⟨eds, hm, hno⟩, qq⟩
    rw [hz] at rz
    rw [setK_eq] at qq
    subst eds
    have e1 := rs.ints
    subst e1
    refine ⟨p, ns, k, m, rfl, by rw [rz.int_], s1 _ _ hp, hm, hno, ?_⟩
    have E1 := E.same s1
    have pj : p ∈ ν j := by rw [hn]; exact List.mem_cons_self
    refine qq _ _ _ (E1.writeD hj rfl hv pj (s1 _ _ hp) (N2 := [p]) (.lst (upd_same) (rps_of_ints _)) (by simp) (fun a ha => ?_) (fun a ha k' t n h => ?_) fun k' t n h ow a ha hm2 => ?_)
    · rw [List.mem_singleton.mp ha]
      exact (E.nd j _ hj rfl).2 p pj
    · rw [List.mem_singleton.mp ha]
      exact E1.dj j k' _ t (Ne.symm n) hj rfl h p pj
    · rw [List.mem_singleton.mp hm2] at ha
      exact E1.dj k' j t _ n h ow hj p ha pj
  · exact q.elim
end
end KT
/-! Kt8: list(range(..)). -/
namespace KT
open PySem PySem.Spec PyProof.Rows L2
variable [WT]
section
variable {G : GT} {X : Cx} {a b : Expr} {fa fb : DE} {pos : Pos}
def rgL (a b : Int) : List D := (List.range (b - a).toNat).map fun i => PyData.int (a + (i : Nat))
theorem rps_rg {K : PySem.W.Frag} {H : Hp} (a b : Int) : Rps K H (rgV a b) (rgL a b) [] := by
  unfold rgV rgL
  generalize List.range (b - a).toNat = ks
  induction ks with
  | nil => exact .nil
  | cons k ks ih => exact .cons (.int _) ih
theorem rgL_zero (n : Int) : rgL 0 n = (List.range n.toNat).map fun k : Nat => PyData.int (k : Int) := by
  unfold rgL
  rw [Int.sub_zero]
  exact List.map_congr_left fun k _ => by rw [Int.zero_add]
/-- list(range(n)) -/
def dListRg1 (f : DE) : DE := fun δ P => f δ fun y => match y.d with
  | .int n => (-1000000 ≤ n ∧ n ≤ 1000000) ∧ P ⟨.list ((List.range n.toNat).map fun k : Nat => PyData.int (k : Int)), true, []⟩
  | _ => False
theorem ev_listRg1 {p p' pos' : Pos} (hc : X.calm = true) (hg : Gl X "list") (hm : X.mg "list" = none) (hr : Gl X "range") (hmr : X.mg "range" = none) (ha : EV G X a fa)
    (na : starEach [.Call (.Name "range" p') [a] [] pos'] X.env = (false, eval (.Call (.Name "range" p') [a] [] pos') X.env) :: starEach [] X.env := by rfl)
    (nb : starEach [a] X.env = (false, eval a X.env) :: starEach [] X.env := by rfl) :
    EV G X (.Call (.Name "list" p) [.Call (.Name "range" p') [a] [] pos'] [] pos) (dListRg1 fa) := by
  refine ⟨fun δ P P' h q => ?_, fun H0 π hG => pei (pe_listRg hc hg hm (prg_1 hr hmr (ha.pe H0 π hG) nb) na) fun σ H Q ⟨δ, ν, E, q⟩ => ?_⟩
  · unfold dListRg1 at *
    refine ha.mono _ _ _ (fun y q => ?_) q
    split at q
    · exact ⟨q.1, h _ q.2⟩
    · exact q.elim
  · unfold dListRg1 at q
    refine ⟨δ, ν, E, ha.mono _ _ _ (fun z q u H1 L s1 o1 => ?_) q⟩
    have rz := o1.rp
    revert q
    cases hz : z.d <;> first | exact False.elim | skip
    rename_i n
    rintro ⟨⟨l0, l1⟩, q⟩
    rw [hz] at rz
    refine ⟨n, rz.int_, ⟨by omega, by omega, by omega, by omega, by omega⟩, fun l hl => ?_⟩
    rw [← rgL_zero n] at q
    have r : Rp X.K (upd H1 l (.lst (rgV 0 n))) (.ref l) (.list (rgL 0 n)) [l] := .lst upd_same (rps_rg 0 n)
    exact q _ _ [l] (s1.trans (Same.upd_new hl)) (FR.vok s1 r (by simp) (fun a ha => by rw [List.mem_singleton.mp ha]; exact hl) E)
/-- list(range(a, b)) -/
def dListRg2 (f g : DE) : DE := fun δ P => f δ fun x => match x.d with
  | .int a => g δ fun y => (match y.d with
    | .int b => (-1000000 ≤ a ∧ a ≤ 1000000 ∧ -1000000 ≤ b ∧ b ≤ 1000000) ∧ P ⟨.list ((List.range (b - a).toNat).map fun k : Nat => PyData.int (a + (k : Int))), true, []⟩
    | _ => False)
  | _ => False
theorem ev_listRg2 {p p' pos' : Pos} (hc : X.calm = true) (hg : Gl X "list") (hm : X.mg "list" = none) (hr : Gl X "range") (hmr : X.mg "range" = none) (ha : EV G X a fa) (hb : EV G X b fb)
    (na : starEach [.Call (.Name "range" p') [a, b] [] pos'] X.env = (false, eval (.Call (.Name "range" p') [a, b] [] pos') X.env) :: starEach [] X.env := by rfl)
    (nb : starEach [a, b] X.env = (false, eval a X.env) :: starEach [b] X.env := by rfl) (nc : starEach [b] X.env = (false, eval b X.env) :: starEach [] X.env := by rfl) (hp : (backTo pos' (starEach [b] X.env)).any (·.1) = false := by rfl) :
    EV G X (.Call (.Name "list" p) [.Call (.Name "range" p') [a, b] [] pos'] [] pos) (dListRg2 fa fb) := by
  refine ⟨fun δ P P' h q => ?_, fun H0 π hG => pei (pe_listRg hc hg hm (prg_2 hr hmr (ha.pe H0 π hG) (hb.pe H0 π hG) nb nc hp) na) fun σ H Q ⟨δ, ν, E, q⟩ => ?_⟩
  · unfold dListRg2 at *
    refine ha.mono _ _ _ (fun x q => ?_) q
    split at q
    · refine hb.mono _ _ _ (fun y q => ?_) q
      split at q
      · exact ⟨q.1, h _ q.2⟩
      · exact q.elim
    · exact q.elim
  · unfold dListRg2 at q
    refine ⟨δ, ν, E, ha.mono _ _ _ (fun z q u H1 L s1 o1 => ?_) q⟩
    have rz := o1.rp
    revert q
    cases hz : z.d <;> first | exact False.elim | skip
    rename_i n
    intro q
    rw [hz] at rz
    refine ⟨δ, ν, E.same s1, hb.mono _ _ _ (fun y q w H2 M s2 o2 => ?_) q⟩
    have ry := o2.rp
    revert q
    cases hy : y.d <;> first | exact False.elim | skip
    rename_i m
    rintro ⟨⟨l0, l1, l2, l3⟩, q⟩
    rw [hy] at ry
    refine ⟨n, m, rz.int_, ry.int_, ⟨by omega, by omega, by omega, by omega, by omega⟩, fun l hl => ?_⟩
    have r : Rp X.K (upd H2 l (.lst (rgV n m))) (.ref l) (.list (rgL n m)) [l] := .lst upd_same (rps_rg n m)
    exact q _ _ [l] ((s1.trans s2).trans (Same.upd_new hl)) (FR.vok (s1.trans s2) r (by simp) (fun a ha => by rw [List.mem_singleton.mp ha]; exact hl) E)
end
end KT
/-! Kt9: a list that is told no more (its items belong to another name). -/
namespace KT
open PySem PySem.Spec PyProof.Rows L2
variable [WT]
section
variable {G : GT} {X : Cx} {e : Expr} {f : DE}
def dJunk (f : DE) : DE := fun δ P => f δ fun x => match x.d with
  | .list _ => P ⟨junk, true, []⟩
  | _ => False
theorem ev_junk (he : EV G X e f) : EV G X e (dJunk f) := by
  refine ⟨fun δ P P' h q => ?_, fun H0 π hG => pei (he.pe H0 π hG) fun σ H Q ⟨δ, ν, E, q⟩ => ?_⟩
  · unfold dJunk at *
    refine he.mono _ _ _ (fun x q => ?_) q
    split at q
    · exact h _ q
    · exact q.elim
  · unfold dJunk at q
    refine ⟨δ, ν, E, he.mono _ _ _ (fun x q v H1 M s1 o1 => ?_) q⟩
    have rx := o1.rp
    revert q
    cases hx : x.d <;> first | exact False.elim | skip
    intro q
    rw [hx] at rx
    obtain ⟨a, xs, M', rfl, _⟩ := rx.list_
    exact q _ _ [] s1 ⟨.jnk (fun h => by cases h), fun _ => List.nodup_nil, fun _ a h => (nomatch h), fun _ _ _ _ _ _ _ h => (nomatch h)⟩
end
end KT
/-! Kt0: x.index(n), len(set(x)) of lists of numbers. -/
namespace KT
open PySem PySem.Spec PyProof.Rows L2
variable [WT]
section
variable {G : GT} {X : Cx} {a b : Expr} {fa fb : DE} {pos : Pos}
theorem fm_len (ns : List Int) : ∀ i, i ≤ ns.length → (firstMet (fun i => ns.getD i 0) i).length ≤ i ∧ (∀ z, z ∈ firstMet (fun i => ns.getD i 0) i ↔ z ∈ ns.take i) ∧ ((firstMet (fun i => ns.getD i 0) i).length = i ↔ (ns.take i).Nodup)
  | 0, _ => by simp [firstMet_zero]
  | i + 1, hi => by
    obtain ⟨h1, h2, h3⟩ := fm_len ns i (by omega)
    have hlt : i < ns.length := by omega
    have e1 : ns.getD i 0 = ns[i] := by rw [List.getD_eq_getElem?_getD, List.getElem?_eq_getElem hlt]; rfl
    have e2 : ns.take (i + 1) = ns.take i ++ [ns[i]] := by rw [List.take_add_one, List.getElem?_eq_getElem hlt]; rfl
    rw [firstMet_succ, e2]
    show (if (firstMet (fun i => ns.getD i 0) i).any (· == ns.getD i 0) then _ else _ : List Int).length ≤ _ ∧ (∀ z, z ∈ (if (firstMet (fun i => ns.getD i 0) i).any (· == ns.getD i 0) then _ else _ : List Int) ↔ _) ∧ ((if (firstMet (fun i => ns.getD i 0) i).any (· == ns.getD i 0) then _ else _ : List Int).length = _ ↔ _)
    by_cases c : ns[i] ∈ ns.take i
    · have y : (firstMet (fun i => ns.getD i 0) i).any (· == ns.getD i 0) = true := List.any_eq_true.mpr ⟨ns[i], (h2 _).mpr c, by rw [e1]; simp⟩
      rw [if_pos y]
      refine ⟨by omega, fun z => ?_, fun h => by omega, fun h => ?_⟩
      · rw [h2, List.mem_append, List.mem_singleton]
        exact ⟨.inl, fun h => h.elim id fun e => e ▸ c⟩
      · exact absurd rfl ((List.nodup_append.mp h).2.2 _ c _ (List.mem_singleton.mpr rfl))
    · have y : ¬ (firstMet (fun i => ns.getD i 0) i).any (· == ns.getD i 0) = true := fun h => by
        obtain ⟨z, hz, e⟩ := List.any_eq_true.mp h
        rw [e1, beq_iff_eq] at e
        exact c (e ▸ (h2 z).mp hz)
      rw [if_neg y, e1]
      refine ⟨by rw [List.length_append, List.length_singleton]; omega, fun z => ?_, ?_⟩
      · rw [List.mem_append, List.mem_append, h2]
      · rw [List.length_append, List.length_singleton]
        refine ⟨fun h => List.nodup_append.mpr ⟨h3.mp (by omega), by simp, fun x hx y hy e => ?_⟩, fun h => ?_⟩
        · rw [List.mem_singleton.mp hy] at e
          exact c (e ▸ hx)
        · have := h3.mpr (List.nodup_append.mp h).1
          omega
def tLenSet' (K : PySem.W.Frag) (ta : TE) : TE := fun σ H Q => ta σ H fun x H1 => ∃ (l : Addr) (ns : List Int), x = .ref l ∧ SqL K H1 l (ns.map V.int) ∧ ns.length ≤ 4000 ∧ ∀ m : Nat, (m ≤ ns.length ∧ (m = ns.length ↔ ns.Nodup)) → Q (.int (m : Nat)) H1
theorem pe_lenSet' {ta : TE} {p p2 q : Pos} (hg : Gl X "len") (hm : X.mg "len" = none) (hg2 : Gl X "set") (hm2 : X.mg "set" = none) (ha : PE X a ta) (hc : X.calm = true := by rfl)
    (na : starEach [a] X.env = (false, eval a X.env) :: starEach [] X.env := by rfl) : PE X (.Call (.Name "len" p) [.Call (.Name "set" p2) [a] [] q] [] pos) (tLenSet' X.K ta) := by
  refine ⟨fun pins s σ H Q I h => ?_⟩
  refine Call_ (ld_blt I hg hm boot_len ?_)
  refine PyProof.Rows.callWith_builtin1 (PyProof.Rows.args_cons ?_ rfl) rfl rfl
  refine Call_ (ld_blt I hg2 hm2 boot_set ?_)
  refine PyProof.Rows.callWith_type1 (PyProof.Rows.args_cons (thn (ha.run pins s σ H _ I h) fun v s1 ⟨x, H1, I1, r1, q1⟩ => PyProof.Rows.args_nil ?_) na) na rfl
  obtain ⟨l, ns, rfl, hq, hl, q1⟩ := q1
  cases r1
  obtain ⟨its, r, pl, hz⟩ := I1.list hq
  have hlen : its.toArray.size = ns.length := by rw [List.size_toArray, ← r.length, List.length_map]
  refine call_set_list (I1.ok.hd hc) pl.isList (ns := ns) (by simpa using r.ints) (by rw [hlen]; unfold scanBound; omega) fun h' tk hS hk => ?_
  refine PyProof.Rows.args_nil ?_
  obtain ⟨f1, _, f3⟩ := fm_len ns ns.length (Nat.le_refl _)
  rw [List.take_length] at f3
  rw [hlen] at hS
  obtain ⟨o, es, ep, t, ho, hex, hd, _, _, _, hf, hn⟩ := hS
  have I2 : Inv X pins σ H1 { s1 with heap := h', toks := tk } := I1.kept fun b o e => hk b o (Heap.lt_size e) e
  exact call_len_set ho hex hd hf (by rw [hn] <;> omega) ⟨.int ((firstMet (fun i => ns.getD i 0) ns.length).length : Nat), H1, I2.tok _, ⟨_, by rw [hn]⟩, q1 _ ⟨f1, f3⟩⟩
/-- len(set(x)): m numbers, as many as x if all are unlike -/
def dLenSet (f : DE) : DE := fun δ P => f δ fun x => ∃ ns : List Int, (x.d = .list (ns.map PyData.int) ∧ ns.length ≤ 4000) ∧ ∀ m : Nat, (m ≤ ns.length ∧ (m = ns.length ↔ ns.Nodup)) → P ⟨.int (m : Int), true, []⟩
theorem ev_lenSet {p p2 q : Pos} (hc : X.calm = true) (hg : Gl X "len") (hm : X.mg "len" = none) (hg2 : Gl X "set") (hm2 : X.mg "set" = none) (ha : EV G X a fa)
    (na : starEach [a] X.env = (false, eval a X.env) :: starEach [] X.env := by rfl) : EV G X (.Call (.Name "len" p) [.Call (.Name "set" p2) [a] [] q] [] pos) (dLenSet fa) := by
  refine ⟨fun δ P P' h q => ha.mono _ _ _ (fun y ⟨ns, a, q⟩ => ⟨ns, a, fun m hm => h _ (q m hm)⟩) q, fun H0 π hG => pei (pe_lenSet' hg hm hg2 hm2 (ha.pe H0 π hG) hc na) fun σ H Q ⟨δ, ν, E, q⟩ => ?_⟩
  refine ⟨δ, ν, E, ha.mono _ _ _ (fun z ⟨ns, ⟨ez, hl⟩, q⟩ u H1 L s1 o1 => ?_) q⟩
  have rz := o1.rp
  rw [ez] at rz
  obtain ⟨l, xs, A, rfl, rfl, ha, s⟩ := rz.list_
  have e1 := s.ints
  subst e1
  exact ⟨l, ns, rfl, SqL.of ha, hl, fun m hm => q m hm _ _ [] s1 (FR.vok s1 (.int _) List.nodup_nil (fun _ h => (nomatch h)) E)⟩
/-- x.index(n), x a list of numbers that holds n -/
def dIdx (f g : DE) : DE := fun δ P => f δ fun x => ∃ ns : List Int, x.d = .list (ns.map PyData.int) ∧ g δ fun y => ∃ (k : Int) (m : Nat), (y.d = .int k ∧ ns[m]? = some k ∧ ∀ i : Nat, i < m → ns[i]? ≠ some k) ∧ P ⟨.int (m : Int), true, []⟩
theorem ev_idx {pm : Pos} (ha : EV G X a fa) (hb : EV G X b fb) (hs1 : starEach [b] X.env = (false, eval b X.env) :: starEach [] X.env := by rfl)
    (hbm : ∀ {to : TE} {t : TA}, PE X a to → PA X [b] t → PE X (.Call (.Attribute a "index" pm) [b] [] pos) (tBM X.K "list" (rIndex X.K) to t) := by
      intro _ _ h1 h2; exact pe_bm PySem.F.plainAttrs_list PySem.F.slot_list_index PySem.F.type_list_index mt_index h1 h2) :
    EV G X (.Call (.Attribute a "index" pm) [b] [] pos) (dIdx fa fb) := by
  refine ⟨fun δ P P' h q => ha.mono _ _ _ (fun x ⟨ns, a, q⟩ => ⟨ns, a, hb.mono _ _ _ (fun y ⟨k, m, a, q⟩ => ⟨k, m, a, h _ q⟩) q⟩) q, fun H0 π hG => pei (hbm (ha.pe H0 π hG) (pa_cons (hb.pe H0 π hG) pa_nil hs1)) fun σ H Q ⟨δ, ν, E, q⟩ => ?_⟩
  refine ⟨δ, ν, E, ha.mono _ _ _ (fun z ⟨ns, ez, q⟩ u H1 L s1 o1 => ?_) q⟩
  have E1 := E.same s1
  have rz := o1.rp
  rw [ez] at rz
  obtain ⟨l, xs, A, rfl, rfl, hl, s⟩ := rz.list_
  have e1 := s.ints
  subst e1
  refine ⟨.inl ⟨rfl, _, SqL.of hl⟩, δ, ν, E1, hb.mono _ _ _ (fun y ⟨k, m, ⟨ey, hm, hno⟩, q⟩ w H2 M s2 o2 => ?_) q⟩
  have ry := o2.rp
  rw [ey] at ry
  have ew := ry.int_
  subst ew
  refine ⟨l, ns.map V.int, .int k, m, .int k, rfl, rfl, SqL.of (s2 _ _ hl), rfl, List.all_eq_true.mpr fun v hv => ?_, by rw [List.getElem?_map, hm]; rfl, by simp [eqV], fun i v hi hv => ?_, q _ _ [] (s1.trans s2) (FR.vok (s1.trans s2) (.int _) List.nodup_nil (fun _ h => (nomatch h)) E)⟩
  · obtain ⟨j, _, rfl⟩ := List.mem_map.mp hv
    rfl
  · rw [List.getElem?_map] at hv
    cases hj : ns[i]? with
    | none => rw [hj] at hv; cases hv
    | some j =>
      rw [hj] at hv
      cases hv
      have ne : j ≠ k := fun e => hno i hi (by rw [hj, e])
      simp [eqV, ne]
/-! lists of numbers, compared -/
def ltL : List Int → List Int → Bool
  | [], [] => false
  | [], _ :: _ => true
  | _ :: _, [] => false
  | x :: xs, y :: ys => if x = y then ltL xs ys else decide (x < y)
theorem ltL_eq : ∀ xs ys : List Int, PySem.W.listLt xs ys = ltL xs ys
  | [], [] => rfl
  | [], _ :: _ => rfl
  | _ :: _, [] => rfl
  | x :: xs, y :: ys => by
    show (if x = y then PySem.W.listLt xs ys else decide (x < y)) = (if x = y then ltL xs ys else decide (x < y))
    rw [ltL_eq xs ys]
def rGtL (K : PySem.W.Frag) : R2 := fun x y H Q => ∃ xs ys : List Int, Dp K H x (.list (xs.map PyData.int)) ∧ Dp K H y (.list (ys.map PyData.int)) ∧ Q (.bl (ltL ys xs)) H
theorem dep_ints : ∀ xs : List Int, PyData.depthAll (xs.map PyData.int) ≤ 1
  | [] => by simp [PyData.depthAll]
  | x :: xs => by
    have := dep_ints xs
    simp only [List.map_cons, PyData.depthAll, PyData.depth]
    omega
theorem op_gtL (hu : X.A.units + 65 < cLine) : OpR X (compareOp .Gt) (rGtL X.K) := by
  intro pins s σ H x y v u Q I rx ry h
  obtain ⟨xs, ys, hd, he, q⟩ := h
  obtain ⟨as, r1⟩ := Dp.reads I _ x v hd rx
  obtain ⟨bs, r2⟩ := Dp.reads I _ y u he ry
  have d1 : (PyData.list (xs.map PyData.int)).depth ≤ 2 := by
    have := dep_ints xs
    simp only [PyData.depth]
    omega
  refine PySem.W.gt_data r1 r2 (by simp only [PySem.W.alike]; exact PySem.W.alikeAll_map xs ys) (fun e => by cases e) (by omega) ⟨.bl _, H, I, ?_, q⟩
  show Value.bool _ = Value.bool _
  congr 1
  exact ((PySem.W.dataLt_list _ _).trans (PySem.W.lexAll_map ys xs)).trans (ltL_eq ys xs)
/-- x > y of two lists of numbers -/
def kGtL : K2 := fun d e Q => ∃ xs ys : List Int, (d = .list (xs.map PyData.int) ∧ e = .list (ys.map PyData.int)) ∧ Q (.bool (ltL ys xs))
theorem lay_ints : ∀ xs : List Int, PyData.canLayAll0 (xs.map PyData.int) = true
  | [] => by simp [PyData.canLayAll0]
  | x :: xs => by simp only [List.map_cons, PyData.canLayAll0, PyData.canLay0, lay_ints xs, Bool.and_self]
theorem shp_ints (xs : List Int) : SeqAt.shaped (.list (xs.map PyData.int)) = true := by
  have := dep_ints xs
  have d : (PyData.list (xs.map PyData.int)).depth ≤ 2 := by
    simp only [PyData.depth]
    omega
  have c : (PyData.list (xs.map PyData.int)).canLay0 = true := by simp only [PyData.canLay0, lay_ints xs]
  unfold SeqAt.shaped
  rw [c, Bool.true_and, decide_eq_true_eq]
  exact Nat.le_trans d (by decide)
theorem ok_gtL : R2Ok X (rGtL X.K) kGtL := by
  refine ⟨fun d e Q Q' h ⟨xs, ys, a, q⟩ => ⟨xs, ys, a, h _ q⟩, fun H x y d e N M Q R r1 r2 ⟨xs, ys, ⟨e1, e2⟩, q⟩ h => ?_⟩
  subst e1 e2
  exact ⟨xs, ys, r1.dp (shp_ints xs), r2.dp (shp_ints ys), h _ _ (FR.imm (.bl _) rfl q)⟩
end
end KT
/-! KtP: tools for the plain laws: loops, comprehensions, items, over data. -/
namespace KT
open PySem PySem.Spec PyProof.Rows L2
variable [WT]

theorem selB {b : Bool} {A B : Prop} (h1 : b = true → A) (h2 : b = false → B) : (match (generalizing := false) b with | true => A | false => B) := by
  cases b
  · exact h2 rfl
  · exact h1 rfl
theorem selD {p : Prop} [Decidable p] {A B : Prop} (h1 : p → A) (h2 : ¬ p → B) : (match (generalizing := false) decide p with | true => A | false => B) := by
  by_cases h : p
  · rw [decide_eq_true h]; exact h1 h
  · rw [decide_eq_false h]; exact h2 h

theorem viaK {C G : Prop} (f : C → G) (c : C) : G := f c
theorem any_ints {xs : List Int} {z : Int} : ((xs.map PyData.int).any fun e => PyData.eqv e (.int z)) = decide (z ∈ xs) := by
  induction xs with
  | nil => rfl
  | cons x xs ih =>
    rw [List.map_cons, List.any_cons, ih]
    have e : PyData.eqv (.int x) (.int z) = decide (z = x) := by
      show decide (x = z) = decide (z = x)
      by_cases h : x = z
      · simp [h]
      · simp [h, Ne.symm h]
    rw [e]
    simp
theorem flat_ints (xs : List Int) : (xs.map PyData.int).all flatD = true := by
  rw [List.all_eq_true]
  intro d hd
  obtain ⟨x, _, rfl⟩ := List.mem_map.mp hd
  rfl
theorem in_val {z : Int} {xs : List Int} {Q : D → Prop} (q : Q (.bool (decide (z ∈ xs)))) : Q (.bool (ng false ((xs.map PyData.int).any fun e => PyData.eqv e (.int z)))) := by
  rw [any_ints]; exact q
theorem inT {z : Int} {xs : List Int} {A B : Prop} (h : z ∈ xs) (q : A) : (match (generalizing := false) ng false ((xs.map PyData.int).any fun e => PyData.eqv e (.int z)) with | true => A | false => B) := by
  rw [any_ints, decide_eq_true h]; exact q
theorem inF {z : Int} {xs : List Int} {A B : Prop} (h : ¬ z ∈ xs) (q : B) : (match (generalizing := false) ng false ((xs.map PyData.int).any fun e => PyData.eqv e (.int z)) with | true => A | false => B) := by
  rw [any_ints, decide_eq_false h]; exact q
theorem ninT {z : Int} {xs : List Int} {A B : Prop} (h : ¬ z ∈ xs) (q : A) : (match (generalizing := false) ng true ((xs.map PyData.int).any fun e => PyData.eqv e (.int z)) with | true => A | false => B) := by
  rw [any_ints, decide_eq_false h]; exact q
theorem ninF {z : Int} {xs : List Int} {A B : Prop} (h : z ∈ xs) (q : B) : (match (generalizing := false) ng true ((xs.map PyData.int).any fun e => PyData.eqv e (.int z)) with | true => A | false => B) := by
  rw [any_ints, decide_eq_true h]; exact q
theorem neB {a b : Bool} {A B : Prop} (h1 : a ≠ b → A) (h2 : a = b → B) : (match (generalizing := false) ng true (PyData.eqv (.bool a) (.bool b)) with | true => A | false => B) := by
  cases a <;> cases b
  · exact h2 rfl
  · exact h1 (by decide)
  · exact h1 (by decide)
  · exact h2 rfl
theorem selT {p : Prop} [Decidable p] {A B : Prop} (h : p) (q : A) : (match (generalizing := false) decide p with | true => A | false => B) := by
  rw [decide_eq_true h]; exact q
theorem selF {p : Prop} [Decidable p] {A B : Prop} (h : ¬ p) (q : B) : (match (generalizing := false) decide p with | true => A | false => B) := by
  rw [decide_eq_false h]; exact q
theorem selE {p : Prop} [Decidable p] {A B : Prop} (h1 : p → A) (h2 : ¬ p → B) : (match (generalizing := false) ng false (decide p) with | true => A | false => B) := by
  by_cases h : p
  · rw [decide_eq_true h]; exact h1 h
  · rw [decide_eq_false h]; exact h2 h
theorem selET {p : Prop} [Decidable p] {A B : Prop} (h : p) (q : A) : (match (generalizing := false) ng false (decide p) with | true => A | false => B) := by
  rw [decide_eq_true h]; exact q
theorem selEF {p : Prop} [Decidable p] {A B : Prop} (h : ¬ p) (q : B) : (match (generalizing := false) ng false (decide p) with | true => A | false => B) := by
  rw [decide_eq_false h]; exact q
theorem selN {p : Prop} [Decidable p] {A B : Prop} (h1 : ¬ p → A) (h2 : p → B) : (match (generalizing := false) ng true (decide p) with | true => A | false => B) := by
  by_cases h : p
  · rw [decide_eq_true h]; exact h2 h
  · rw [decide_eq_false h]; exact h1 h
theorem selNT {p : Prop} [Decidable p] {A B : Prop} (h : ¬ p) (q : A) : (match (generalizing := false) ng true (decide p) with | true => A | false => B) := by
  rw [decide_eq_false h]; exact q
theorem selNF {p : Prop} [Decidable p] {A B : Prop} (h : p) (q : B) : (match (generalizing := false) ng true (decide p) with | true => A | false => B) := by
  rw [decide_eq_true h]; exact q
/-- two ways that meet again: e tells the names behind them -/
theorem selJ {c : Bool} {m1 m2 : DS} {N : En → Prop} {rt : Val → En → Prop} {δ : En} {α : Type} (e : α → En) (h : ∀ a, N (e a)) (h1 : c = true → ∀ N : En → Prop, (∀ a, N (e a)) → m1 ⟨N, rt⟩ δ) (h2 : c = false → ∀ N : En → Prop, (∀ a, N (e a)) → m2 ⟨N, rt⟩ δ) :
    (match (generalizing := false) c with | true => m1 ⟨N, rt⟩ δ | false => m2 ⟨N, rt⟩ δ) := by
  cases c
  · exact h2 rfl N h
  · exact h1 rfl N h
/-! ### data -/
def dI (xs : List Int) : D := .list (xs.map PyData.int)
def dL {α : Type} (enc : α → D) (xs : List α) : D := .list (xs.map enc)
theorem dI_eq (xs : List Int) : dI xs = dL PyData.int xs := rfl

/-! ### items -/
theorem atI_map {α β : Type} (f : α → β) {xs : List α} {k : Nat} (h : k < xs.length) : atI (xs.map f) ((k : Nat) : Int) = some (f xs[k]) :=
  atI_nat (by rw [List.getElem?_map, List.getElem?_eq_getElem h]; rfl)
theorem atI_mapI {α β : Type} (f : α → β) {xs : List α} {i : Int} (h0 : 0 ≤ i) (h : i < xs.length) : ∃ hk : i.toNat < xs.length, atI (xs.map f) i = some (f xs[i.toNat]) := by
  obtain ⟨k, rfl⟩ := Int.eq_ofNat_of_zero_le h0
  have hk : k < xs.length := by omega
  exact ⟨hk, atI_map f hk⟩
theorem ixN_nat {n : Nat} {i : Int} (h0 : 0 ≤ i) (h : i < n) : ixN n i = some i.toNat := by
  unfold ixN
  rw [if_pos h0, if_pos h]

/-! ### loops -/
theorem loopN_inv {body : Nat → (En → Prop) → En → Prop} (I : Nat → En → Prop) : ∀ (n i : Nat) (P : En → Prop) (δ : En), I i δ → (∀ k δ P, i ≤ k → k < i + n → I k δ → (∀ δ', I (k + 1) δ' → P δ') → body k P δ) → (∀ δ, I (i + n) δ → P δ) → loopN body n i P δ
  | 0, i, P, δ, h, _, e => e δ h
  | n + 1, i, P, δ, h, s, e => s i δ _ (Nat.le_refl _) (by omega) h fun δ' h' => loopN_inv I n (i + 1) P δ' h' (fun k δ P h1 h2 => s k δ P (by omega) (by omega)) (fun δ h => e δ (by rw [show i + (n + 1) = i + 1 + n by omega]; exact h))
/-- for over a range, the names as they stand at each turn (the wiped ones forgotten) -/
theorem forR_fun {tg : Tgt} {wl : List Nat} {m : DS} {E : DEnds} {lo : Int} {n : Nat} {F : En → Prop} {δ : En} (f : Nat → En) (h0 : killR δ wl = f 0)
    (hs : ∀ k, k < n → ∀ P : En → Prop, (∀ δ', killR δ' wl = f (k + 1) → P δ') → asgT tg (.int (lo + k)) true (f k) fun δ' => m ⟨P, E.rt⟩ δ') (hF : F (f n)) : LoopN (bodyR tg wl m E lo) n 0 (fun δ => F (killR δ wl)) δ := by
  refine LoopN_of (loopN_inv (fun k δ => killR δ wl = f k) n 0 _ δ h0 (fun k δ P _ hk e hP => ?_) fun δ e => ?_)
  · show asgT tg _ true (killR δ wl) _
    rw [e]
    exact hs k (by omega) P hP
  · rw [e, Nat.zero_add]; exact hF
/-- the same where only something is known of the names -/
theorem forR_inv {tg : Tgt} {wl : List Nat} {m : DS} {E : DEnds} {lo : Int} {n : Nat} {F : En → Prop} {δ : En} (I : Nat → En → Prop) (h0 : I 0 (killR δ wl))
    (hs : ∀ k, k < n → ∀ δ, I k δ → ∀ P : En → Prop, (∀ δ', I (k + 1) (killR δ' wl) → P δ') → asgT tg (.int (lo + k)) true δ fun δ' => m ⟨P, E.rt⟩ δ') (hF : ∀ δ, I n δ → F δ) : LoopN (bodyR tg wl m E lo) n 0 (fun δ => F (killR δ wl)) δ := by
  refine LoopN_of (loopN_inv (fun k δ => I k (killR δ wl)) n 0 _ δ h0 (fun k δ P _ hk e hP => hs k (by omega) _ e P hP) fun δ e => hF _ (by rw [Nat.zero_add] at e; exact e))
theorem loopL_inv {body : D → (En → Prop) → En → Prop} {α : Type} (enc : α → D) (I : List α → En → Prop) : ∀ (xs pre : List α) (P : En → Prop) (δ : En), I pre δ → (∀ p x q δ P, pre ++ xs = p ++ x :: q → I p δ → (∀ δ', I (p ++ [x]) δ' → P δ') → body (enc x) P δ) → (∀ δ, I (pre ++ xs) δ → P δ) →
    loopL body (xs.map enc) P δ
  | [], pre, P, δ, h, _, e => e δ (by simpa using h)
  | x :: xs, pre, P, δ, h, s, e => s pre x xs δ _ rfl h fun δ' h' => loopL_inv enc I xs (pre ++ [x]) P δ' h' (fun p y q δ P e1 => s p y q δ P (by rw [← e1]; simp)) (fun δ h => e δ (by simpa using h))
/-- for over a value's items: pre is what has been taken -/
theorem forV_inv {tg : Tgt} {wl : List Nat} {m : DS} {E : DEnds} {F : En → Prop} {δ : En} {α : Type} {enc : α → D} {xs : List α} (I : List α → En → Prop) (h0 : I [] (killR δ wl))
    (hs : ∀ p x q, xs = p ++ x :: q → ∀ δ, I p δ → ∀ P : En → Prop, (∀ δ', I (p ++ [x]) (killR δ' wl) → P δ') → asgT tg (enc x) (imm (enc x)) δ fun δ' => m ⟨P, E.rt⟩ δ') (hF : ∀ δ, I xs δ → F δ) : LoopL (bodyV tg wl m E) (xs.map enc) (fun δ => F (killR δ wl)) δ :=
  LoopL_of (loopL_inv enc (fun p δ => I p (killR δ wl)) xs [] _ δ h0 (fun p x q δ P e h hP => hs p x q e _ h P hP) fun δ h => hF _ h)
theorem forN_inv {tg : Tgt} {wl : List Nat} {m : DS} {E : DEnds} {F : En → Prop} {δ : En} {j : Nat} {s : Slot} {α : Type} {enc : α → D} {xs : List α} (I : List α → En → Prop) (h0 : I [] (killR δ wl)) (hj : wl.contains j = false) (hI : ∀ p δ, I p δ → δ[j]? = some (some s))
    (hs : ∀ p x q, xs = p ++ x :: q → ∀ δ, I p δ → ∀ P : En → Prop, (∀ δ', I (p ++ [x]) (killR δ' wl) → P δ') → asgT tg (enc x) (imm (enc x)) δ fun δ' => m ⟨P, E.rt⟩ δ') {pn : Bool} (hF : ∀ δ, I xs δ → F (unpin j pn δ)) :
    LoopL (bodyN j s tg wl m E) (xs.map enc) (fun δ => δ[j]? = some (some s) ∧ F (unpin j pn (killR δ wl))) δ :=
  LoopL_of (loopL_inv enc (fun p δ => I p (killR δ wl)) xs [] _ δ h0 (fun p x q δ P e h hP => ⟨by rw [← killR_at hj]; exact hI _ _ h, hs p x q e _ h P hP⟩) fun δ h => ⟨by rw [← killR_at hj]; exact hI _ _ h, hF _ h⟩)

/-! ### comprehensions -/
theorem lcL_inv {step : D → List D → (List D → Prop) → Prop} {α : Type} (enc : α → D) (g : α → List D) : ∀ (xs : List α) (acc : List D) (P : List D → Prop), acc.length + xs.length ≤ sizeLine → (∀ x, (g x).length ≤ 1) →
    (∀ x ∈ xs, ∀ acc K, acc.length < sizeLine → K (acc ++ g x) → step (enc x) acc K) → P (acc ++ xs.flatMap g) → lcL step (xs.map enc) acc P
  | [], acc, P, _, _, _, h => by
    show P acc
    simpa using h
  | x :: xs, acc, P, hl, hg, hs, h => by
    simp only [List.length_cons] at hl
    refine hs x List.mem_cons_self acc _ (by omega) (lcL_inv enc g xs (acc ++ g x) P ?_ hg (fun y hy => hs y (List.mem_cons_of_mem _ hy)) ?_)
    · have := hg x
      rw [List.length_append]
      omega
    · simpa [List.append_assoc] using h
theorem lc_map {step : D → List D → (List D → Prop) → Prop} {α : Type} {enc : α → D} {xs : List α} {P : List D → Prop} (f : α → D) (hl : xs.length ≤ sizeLine) (hs : ∀ x ∈ xs, ∀ acc K, acc.length < sizeLine → K (acc ++ [f x]) → step (enc x) acc K) (h : P (xs.map f)) :
    LcL step (xs.map enc) [] P :=
  LcL_of <| lcL_inv enc (fun x => [f x]) xs [] P (by simpa using hl) (fun _ => Nat.le_refl _) hs (by
    have e : ∀ xs : List α, (xs.flatMap fun x => [f x]) = xs.map f := fun xs => by
      induction xs with
      | nil => rfl
      | cons x xs ih => simp [List.flatMap_cons, ih]
    rw [List.nil_append, e]
    exact h)
theorem lc_filter {step : D → List D → (List D → Prop) → Prop} {α : Type} {enc : α → D} {xs : List α} {P : List D → Prop} (p : α → Bool) (f : α → D) (hl : xs.length ≤ sizeLine)
    (hs : ∀ x ∈ xs, ∀ acc K, acc.length < sizeLine → (p x = true → K (acc ++ [f x])) → (p x = false → K acc) → step (enc x) acc K) (h : P ((xs.filter p).map f)) : LcL step (xs.map enc) [] P :=
  LcL_of <| lcL_inv enc (fun x => if p x then [f x] else []) xs [] P (by simpa using hl) (fun x => by split <;> simp) (fun x hx acc K ha hK => hs x hx acc K ha (fun e => by rw [e] at hK; exact hK) (fun e => by rw [e] at hK; simpa using hK)) (by
    have e : ∀ xs : List α, (xs.flatMap fun x => if p x then [f x] else []) = (xs.filter p).map f := fun xs => by
      induction xs with
      | nil => rfl
      | cons x xs ih =>
        rw [List.flatMap_cons, ih, List.filter_cons]
        split <;> simp
    rw [List.nil_append, e]
    exact h)
theorem rgItems_eq (lo : Int) (n : Nat) : rgItems lo n = (List.range n).map fun (k : Nat) => PyData.int (lo + (k : Int)) := rfl

/-! ### equality of data -/
theorem eqv_ints : ∀ xs ys : List Int, PyData.eqvAll (xs.map PyData.int) (ys.map PyData.int) = decide (xs = ys)
  | [], [] => by simp [PyData.eqvAll]
  | [], _ :: _ => by simp [PyData.eqvAll]
  | _ :: _, [] => by simp [PyData.eqvAll]
  | x :: xs, y :: ys => by
    simp only [List.map_cons, PyData.eqvAll, PyData.eqv, eqv_ints xs ys, List.cons.injEq, Bool.decide_and]
    rw [show (x == y) = decide (x = y) from rfl]
theorem eqv_dI (xs ys : List Int) : PyData.eqv (dI xs) (dI ys) = decide (xs = ys) := by
  unfold dI
  simp only [PyData.eqv]
  exact eqv_ints xs ys
theorem canLay_ints : ∀ xs : List Int, PyData.canLayAll0 (xs.map PyData.int) = true
  | [] => rfl
  | x :: xs => by simp [PyData.canLayAll0, PyData.canLay0, canLay_ints xs]
/-- data of a small depth -/
def shp (n : Nat) (d : D) : Prop := d.canLay0 = true ∧ d.depth ≤ n
theorem shp.sh {n : Nat} {d : D} (h : shp n d) (hn : n ≤ 64 := by decide) : SeqAt.shaped d = true := by
  unfold SeqAt.shaped
  rw [h.1, Bool.true_and, decide_eq_true_eq]
  exact Nat.le_trans h.2 hn
theorem depthAll_le {n : Nat} : ∀ {ds : List D}, (∀ d ∈ ds, d.depth ≤ n) → PyData.depthAll ds ≤ n
  | [], _ => by simp [PyData.depthAll]
  | d :: ds, h => by
    simp only [PyData.depthAll]
    exact Nat.max_le.mpr ⟨h d List.mem_cons_self, depthAll_le fun e he => h e (List.mem_cons_of_mem _ he)⟩
theorem layAll_of : ∀ {ds : List D}, (∀ d ∈ ds, d.canLay0 = true) → PyData.canLayAll0 ds = true
  | [], _ => rfl
  | d :: ds, h => by
    simp only [PyData.canLayAll0, h d List.mem_cons_self, layAll_of fun e he => h e (List.mem_cons_of_mem _ he), Bool.and_self]
theorem shp_list {n : Nat} {ds : List D} (h : ∀ d ∈ ds, shp n d) : shp (n + 1) (.list ds) := by
  refine ⟨?_, ?_⟩
  · simp only [PyData.canLay0]
    exact layAll_of fun d hd => (h d hd).1
  · simp only [PyData.depth]
    have := depthAll_le (n := n) fun d hd => (h d hd).2
    omega
theorem shp_tuple {n : Nat} {ds : List D} (h : ∀ d ∈ ds, shp n d) : shp (n + 1) (.tuple ds) := by
  refine ⟨?_, ?_⟩
  · simp only [PyData.canLay0]
    exact layAll_of fun d hd => (h d hd).1
  · simp only [PyData.depth]
    have := depthAll_le (n := n) fun d hd => (h d hd).2
    omega
theorem shp_int (i : Int) : shp 1 (.int i) := ⟨rfl, by simp [PyData.depth]⟩
theorem shp_bool (i : Bool) : shp 1 (.bool i) := ⟨rfl, by simp [PyData.depth]⟩
theorem shp_none : shp 1 .none := ⟨rfl, by simp [PyData.depth]⟩
theorem shp.up {n m : Nat} {d : D} (h : shp n d) (hm : n ≤ m := by decide) : shp m d := ⟨h.1, Nat.le_trans h.2 hm⟩
theorem shp_dI (xs : List Int) : shp 2 (dI xs) := shp_list fun d hd => by
  obtain ⟨x, _, rfl⟩ := List.mem_map.mp hd
  exact shp_int x
/-- equality of data by a typed reading -/
def EqEnc {α : Type} [DecidableEq α] (enc : α → D) : Prop := ∀ x y : α, PyData.eqv (enc x) (enc y) = decide (x = y)
theorem eqv_all {α : Type} [DecidableEq α] {enc : α → D} (h : EqEnc enc) : ∀ xs ys : List α, PyData.eqvAll (xs.map enc) (ys.map enc) = decide (xs = ys)
  | [], [] => by simp [PyData.eqvAll]
  | [], _ :: _ => by simp [PyData.eqvAll]
  | _ :: _, [] => by simp [PyData.eqvAll]
  | x :: xs, y :: ys => by simp only [List.map_cons, PyData.eqvAll, h x y, eqv_all h xs ys, List.cons.injEq, Bool.decide_and]
theorem eqv_dL {α : Type} [DecidableEq α] {enc : α → D} (h : EqEnc enc) (xs ys : List α) : PyData.eqv (dL enc xs) (dL enc ys) = decide (xs = ys) := by
  unfold dL
  simp only [PyData.eqv]
  exact eqv_all h xs ys
theorem eqEnc_dI : EqEnc dI := eqv_dI
theorem eqEnc_int : EqEnc PyData.int := fun x y => rfl
theorem eqEnc_dL {α : Type} [DecidableEq α] {enc : α → D} (h : EqEnc enc) : EqEnc (dL enc) := eqv_dL h
theorem kEq_list {xs ys : List D} {Q : D → Prop} {n : Nat} (h1 : shp n (.list xs)) (h2 : shp n (.list ys)) (q : Q (.bool (PyData.eqv (.list xs) (.list ys)))) (hn : n ≤ 64 := by decide) : kEqB false (.list xs) (.list ys) Q := ⟨⟨h1.sh hn, h2.sh hn⟩, q⟩
theorem kNe_list {xs ys : List D} {Q : D → Prop} {n : Nat} (h1 : shp n (.list xs)) (h2 : shp n (.list ys)) (q : Q (.bool (!PyData.eqv (.list xs) (.list ys)))) (hn : n ≤ 64 := by decide) : kEqB true (.list xs) (.list ys) Q := ⟨⟨h1.sh hn, h2.sh hn⟩, q⟩
theorem cutD_to {α : Type} (f : α → D) (xs : List α) (k : Nat) : cutD (xs.map f) none (some (k : Int)) = (xs.take k).map f := by
  unfold cutD
  rw [HT.sIx_none, HT.sIx_nat, List.drop_zero, Nat.sub_zero, List.length_map, ← List.map_take]
  congr 1
  by_cases h : k ≤ xs.length
  · rw [Nat.min_eq_left h]
  · rw [Nat.min_eq_right (by omega), List.take_of_length_le (Nat.le_refl _), List.take_of_length_le (by omega)]
theorem cutD_from {α : Type} (f : α → D) (xs : List α) (k : Nat) : cutD (xs.map f) (some (k : Int)) none = (xs.drop k).map f := by
  unfold cutD
  rw [HT.sIx_none, HT.sIx_nat, List.length_map, ← List.map_drop, ← List.map_take]
  congr 1
  by_cases h : k ≤ xs.length
  · rw [Nat.min_eq_left h, List.take_of_length_le (by simp)]
  · rw [Nat.min_eq_right (by omega), List.drop_of_length_le (Nat.le_refl _), List.drop_of_length_le (by omega)]
    simp
theorem mul_r {i j : Int} (h : -(2 ^ 64) < j ∧ j < 2 ^ 64) : MulOk i j := .inl (.inr h)
theorem mul_l {i j : Int} (h : -(2 ^ 64) < i ∧ i < 2 ^ 64) : MulOk i j := .inl (.inl h)
theorem log2_lt {n : Nat} {k : Nat} (h : n < 2 ^ k) (hk : 0 < k) : n.log2 < k := by
  by_cases h0 : n = 0
  · subst h0
    rw [Nat.log2_zero]
    exact hk
  · exact (Nat.log2_lt h0).mpr h
theorem div_ok {i j : Int} (h : 0 < j) (hj : j < 2 ^ 8000) : DivOk i j := ⟨h, Nat.lt_of_lt_of_le (log2_lt (n := j.natAbs) (k := 8000) (by
  have e : ((2 : Int) ^ 8000) = (((2 : Nat) ^ 8000 : Nat) : Int) := by rw [Int.natCast_pow]; rfl
  omega) (by decide)) (by decide)⟩
theorem div_small {i j : Int} (h : 0 < j) (hj : j < 2 ^ 64) : DivOk i j := ⟨h, Nat.lt_of_lt_of_le (log2_lt (n := j.natAbs) (k := 64) (by omega) (by decide)) (by decide)⟩
theorem pow_ok {i j : Int} (h0 : 0 ≤ j) (h1 : j ≤ 1000000) (h2 : i.natAbs < 2 ^ 64) : PowOk i j := ⟨h0, h1, h2⟩
theorem mod_pos {i j : Int} (h : 0 < j) : ModOk i j := h
theorem line_big : 100000 ≤ sizeLine := by rw [sizeLine_eq]; decide
abbrev sI (i : Int) : Option Slot := some ⟨.int i, true, false⟩
abbrev pI (i : Int) : Option Slot := some ⟨.int i, false, true⟩
abbrev pL (xs : List Int) : Option Slot := some ⟨dI xs, false, true⟩
abbrev sL (xs : List Int) : Option Slot := some ⟨dI xs, true, false⟩
/-! ### typed data of the laws -/
def oD : Option Int → D
  | none => .none
  | some i => .int i
structure Dm where
  low : Int
  high : Int
  least : Option Int
  most : Option Int
  deriving DecidableEq
def dDm (x : Dm) : D := .tuple [.int x.low, .int x.high, oD x.least, oD x.most]
@[simp] theorem imm_oD (o : Option Int) : imm (oD o) = true := by cases o <;> rfl
@[simp] theorem imm_dDm (x : Dm) : imm (dDm x) = true := by
  simp [dDm, imm, immL, imm_oD]
theorem immL_map {α : Type} {enc : α → D} (h : ∀ x, imm (enc x) = true) (xs : List α) : immL (xs.map enc) = true := immL_of.mpr fun d hd => by
  obtain ⟨x, _, rfl⟩ := List.mem_map.mp hd
  exact h x
theorem eqv_oD : EqEnc oD := fun x y => by
  cases x <;> cases y <;> simp [oD, PyData.eqv]
  rfl
theorem eqv_dDm : EqEnc dDm := fun x y => by
  obtain ⟨a, b, c, d⟩ := x
  obtain ⟨a', b', c', d'⟩ := y
  simp only [dDm, PyData.eqv, PyData.eqvAll, eqv_oD c c', eqv_oD d d', Dm.mk.injEq, Bool.decide_and, Bool.and_true]
  rfl
theorem shp_oD (o : Option Int) : shp 1 (oD o) := by
  cases o
  · exact shp_none
  · exact shp_int _
theorem shp_dDm (x : Dm) : shp 2 (dDm x) := shp_tuple fun d hd => by
  simp only [List.mem_cons, List.not_mem_nil, or_false] at hd
  rcases hd with rfl | rfl | rfl | rfl
  · exact shp_int _
  · exact shp_int _
  · exact shp_oD _
  · exact shp_oD _
theorem shp_dL {α : Type} {enc : α → D} {n : Nat} (h : ∀ x, shp n (enc x)) (xs : List α) : shp (n + 1) (dL enc xs) := shp_list fun d hd => by
  obtain ⟨x, _, rfl⟩ := List.mem_map.mp hd
  exact h x
/-- the item at a place -/
def at' (xs : List Int) (i : Int) : Int := xs.getD i.toNat 0
theorem atI_at {xs : List Int} {i : Int} (h0 : 0 ≤ i) (h : i < xs.length) : atI (xs.map PyData.int) i = some (.int (at' xs i)) := by
  obtain ⟨hk, e⟩ := atI_mapI PyData.int h0 h
  rw [e]
  simp [at', List.getD_eq_getElem?_getD, List.getElem?_eq_getElem hk]
theorem at'_nat {xs : List Int} {k : Nat} (h : k < xs.length) : at' xs k = xs[k] := by
  simp [at', List.getD_eq_getElem?_getD, List.getElem?_eq_getElem h]
theorem call_eq {w : W} {ds : List D} {Q : D → Prop} {r : D} (h : w ds (· = r)) (q : Q r) : ∃ Qd, w ds Qd ∧ ∀ d, Qd d → Q d := ⟨_, h, fun d e => e ▸ q⟩
theorem call_ex {w : W} {ds : List D} {Q Qd : D → Prop} (h : w ds Qd) (q : ∀ d, Qd d → Q d) : ∃ Qd, w ds Qd ∧ ∀ d, Qd d → Q d := ⟨_, h, q⟩
theorem dI_map {α : Type} (f : α → Int) (xs : List α) : PyData.list (xs.map fun x => PyData.int (f x)) = dI (xs.map f) := by
  simp [dI, List.map_map, Function.comp_def]
theorem dL_map {α β : Type} (enc : β → D) (f : α → β) (xs : List α) : PyData.list (xs.map fun x => enc (f x)) = dL enc (xs.map f) := by
  simp [dL, List.map_map, Function.comp_def]
theorem dI_app (xs : List Int) (a : Int) : PyData.list (List.map PyData.int xs ++ [PyData.int a]) = dI (xs ++ [a]) := by simp [dI]
theorem dL_app {α : Type} (enc : α → D) (xs : List α) (x : α) : PyData.list (List.map enc xs ++ [enc x]) = dL enc (xs ++ [x]) := by simp [dL]
theorem dL_app2 {α : Type} (enc : α → D) (xs ys : List α) : PyData.list (List.map enc xs ++ List.map enc ys) = dL enc (xs ++ ys) := by simp [dL]
/-- a list of draws -/
def Drawn (xs : List Int) : Prop := ∀ x ∈ xs, 0 ≤ x ∧ x < 1000003
theorem Drawn.app {xs : List Int} (h : Drawn xs) (a : Int) : Drawn (xs ++ [a % 1000003]) := fun x hx => by
  rcases List.mem_append.mp hx with hx | hx
  · exact h x hx
  · rw [List.mem_singleton.mp hx]
    exact ⟨Int.emod_nonneg _ (by decide), Int.emod_lt_of_pos _ (by decide)⟩
theorem Drawn.at' {xs : List Int} (h : Drawn xs) (i : Int) : 0 ≤ KT.at' xs i ∧ KT.at' xs i < 1000003 := by
  unfold KT.at'
  rw [List.getD_eq_getElem?_getD]
  cases e : xs[i.toNat]? with
  | none => exact ⟨Int.le_refl 0, by decide⟩
  | some v => exact h v (List.mem_of_getElem? e)
theorem at'_map {f : Int → Int} {xs : List Int} {i : Int} (h0 : 0 ≤ i) (h : i < xs.length) : at' (xs.map f) i = f (at' xs i) := by
  obtain ⟨k, rfl⟩ := Int.eq_ofNat_of_zero_le h0
  have hk : k < xs.length := by omega
  rw [at'_nat (by simpa using hk), at'_nat hk, List.getElem_map]
theorem at'_range {f : Nat → Int} {n : Nat} {i : Int} (h0 : 0 ≤ i) (h : i < n) : at' ((List.range n).map f) i = f i.toNat := by
  obtain ⟨k, rfl⟩ := Int.eq_ofNat_of_zero_le h0
  have hk : k < n := by omega
  rw [at'_nat (by simpa using hk)]
  simp
theorem eqv_self {n : Nat} {d : D} (h : shp n d) : PyData.eqv d d = true := PySem.SeqAt.eqv_refl d h.1
/-- a list or tuple compared with itself -/
theorem eq_self {n : Nat} {d : D} {Q : D → Prop} (h : shp n d) (q : Q (.bool true)) (hn : n ≤ 64 := by decide) : (SeqAt.shaped d = true ∧ SeqAt.shaped d = true) ∧ Q (.bool (ng false (PyData.eqv d d))) := by
  rw [eqv_self h]
  exact ⟨⟨h.sh hn, h.sh hn⟩, q⟩
theorem ne_self {n : Nat} {d : D} {Q : D → Prop} (h : shp n d) (q : Q (.bool false)) (hn : n ≤ 64 := by decide) : (SeqAt.shaped d = true ∧ SeqAt.shaped d = true) ∧ Q (.bool (ng true (PyData.eqv d d))) := by
  rw [eqv_self h]
  exact ⟨⟨h.sh hn, h.sh hn⟩, q⟩
/-- a comprehension that gives ints, data -/
theorem map_int {α : Type} (f : α → Int) (xs : List α) : (xs.map fun x => PyData.int (f x)) = (xs.map f).map PyData.int := by
  rw [List.map_map]; rfl
theorem map_enc {α β : Type} (enc : β → D) (f : α → β) (xs : List α) : (xs.map fun x => enc (f x)) = (xs.map f).map enc := by
  rw [List.map_map]; rfl
theorem lc_mapI {step : D → List D → (List D → Prop) → Prop} {α : Type} {enc : α → D} {xs : List α} {P : List D → Prop} (f : α → Int) (ys : List Int) (hl : xs.length ≤ sizeLine) (hs : ∀ x ∈ xs, ∀ acc K, acc.length < sizeLine → K (acc ++ [PyData.int (f x)]) → step (enc x) acc K)
    (e : xs.map f = ys) (h : P (ys.map PyData.int)) : LcL step (xs.map enc) [] P :=
  lc_map (fun x => PyData.int (f x)) hl hs (by rw [map_int, e]; exact h)
theorem lc_mapL {step : D → List D → (List D → Prop) → Prop} {α β : Type} {enc : α → D} {xs : List α} {P : List D → Prop} (enc2 : β → D) (f : α → β) (ys : List β) (hl : xs.length ≤ sizeLine) (hs : ∀ x ∈ xs, ∀ acc K, acc.length < sizeLine → K (acc ++ [enc2 (f x)]) → step (enc x) acc K)
    (e : xs.map f = ys) (h : P (ys.map enc2)) : LcL step (xs.map enc) [] P :=
  lc_map (fun x => enc2 (f x)) hl hs (by rw [map_enc, e]; exact h)
theorem lc_filterL {step : D → List D → (List D → Prop) → Prop} {α β : Type} {enc : α → D} {xs : List α} {P : List D → Prop} (enc2 : β → D) (p : α → Bool) (f : α → β) (ys : List β) (hl : xs.length ≤ sizeLine)
    (hs : ∀ x ∈ xs, ∀ acc K, acc.length < sizeLine → (p x = true → K (acc ++ [enc2 (f x)])) → (p x = false → K acc) → step (enc x) acc K) (e : (xs.filter p).map f = ys) (h : P (ys.map enc2)) : LcL step (xs.map enc) [] P :=
  lc_filter p (fun x => enc2 (f x)) hl hs (by rw [map_enc, e]; exact h)
/-- over a range -/
theorem lc_rgI {step : D → List D → (List D → Prop) → Prop} {lo : Int} {n : Nat} {P : List D → Prop} (f : Nat → Int) (ys : List Int) (hl : n ≤ sizeLine) (hs : ∀ k, k < n → ∀ acc K, acc.length < sizeLine → K (acc ++ [PyData.int (f k)]) → step (.int (lo + (k : Int))) acc K)
    (e : (List.range n).map f = ys) (h : P (ys.map PyData.int)) : LcL step (rgItems lo n) [] P := by
  rw [rgItems_eq]
  exact lc_mapI f ys (by simpa using hl) (fun k hk => hs k (by simpa using hk)) e h
theorem lc_rgL {step : D → List D → (List D → Prop) → Prop} {lo : Int} {n : Nat} {β : Type} {P : List D → Prop} (enc2 : β → D) (f : Nat → β) (ys : List β) (hl : n ≤ sizeLine) (hs : ∀ k, k < n → ∀ acc K, acc.length < sizeLine → K (acc ++ [enc2 (f k)]) → step (.int (lo + (k : Int))) acc K)
    (e : (List.range n).map f = ys) (h : P (ys.map enc2)) : LcL step (rgItems lo n) [] P := by
  rw [rgItems_eq]
  exact lc_mapL enc2 f ys (by simpa using hl) (fun k hk => hs k (by simpa using hk)) e h
/-- tests of a thing with itself; data that are the same by reading -/
theorem ne_m {n : Nat} {d e : D} {A B : Prop} (h : shp n d) (he : e = d) (q : B) (hn : n ≤ 64 := by decide) : (SeqAt.shaped d = true ∧ SeqAt.shaped e = true) ∧ (match (generalizing := false) ng true (PyData.eqv d e) with | true => A | false => B) := by
  subst he
  rw [eqv_self h]
  exact ⟨⟨h.sh hn, h.sh hn⟩, q⟩
theorem eq_m {n : Nat} {d e : D} {A B : Prop} (h : shp n d) (he : e = d) (q : A) (hn : n ≤ 64 := by decide) : (SeqAt.shaped d = true ∧ SeqAt.shaped e = true) ∧ (match (generalizing := false) ng false (PyData.eqv d e) with | true => A | false => B) := by
  subst he
  rw [eqv_self h]
  exact ⟨⟨h.sh hn, h.sh hn⟩, q⟩
/-! ### greatest and least of a list -/
def mx : List Int → Int
  | [] => 0
  | x :: xs => match xs with
    | [] => x
    | _ :: _ => max x (mx xs)
def mn : List Int → Int
  | [] => 0
  | x :: xs => match xs with
    | [] => x
    | _ :: _ => min x (mn xs)
theorem mx_spec : ∀ xs : List Int, 0 < xs.length → mx xs ∈ xs ∧ ∀ y ∈ xs, y ≤ mx xs
  | [], h => absurd h (by simp)
  | [x], _ => ⟨by simp [mx], fun y hy => by simp at hy; subst hy; simp [mx]⟩
  | x :: z :: xs, _ => by
    have ih := mx_spec (z :: xs) (by simp)
    have e : mx (x :: z :: xs) = max x (mx (z :: xs)) := rfl
    rw [e]
    refine ⟨?_, fun y hy => ?_⟩
    · by_cases h : x ≤ mx (z :: xs)
      · rw [Int.max_eq_right h]; exact List.mem_cons_of_mem _ ih.1
      · rw [Int.max_eq_left (by omega)]; exact List.mem_cons_self
    · rcases List.mem_cons.mp hy with rfl | hy
      · omega
      · have := ih.2 y hy; omega
theorem mn_spec : ∀ xs : List Int, 0 < xs.length → mn xs ∈ xs ∧ ∀ y ∈ xs, mn xs ≤ y
  | [], h => absurd h (by simp)
  | [x], _ => ⟨by simp [mn], fun y hy => by simp at hy; subst hy; simp [mn]⟩
  | x :: z :: xs, _ => by
    have ih := mn_spec (z :: xs) (by simp)
    have e : mn (x :: z :: xs) = min x (mn (z :: xs)) := rfl
    rw [e]
    refine ⟨?_, fun y hy => ?_⟩
    · by_cases h : x ≤ mn (z :: xs)
      · rw [Int.min_eq_left h]; exact List.mem_cons_self
      · rw [Int.min_eq_right (by omega)]; exact List.mem_cons_of_mem _ ih.1
    · rcases List.mem_cons.mp hy with rfl | hy
      · omega
      · have := ih.2 y hy; omega
theorem kmx {xs : List Int} {A : Int → Prop} (h : 0 < xs.length) (q : A (mx xs)) : ∃ ns : List Int, (xs.map PyData.int = ns.map PyData.int ∧ 0 < ns.length) ∧ ∀ m, m ∈ ns → (∀ y, y ∈ ns → y ≤ m) → A m :=
  ⟨xs, ⟨rfl, h⟩, fun m hm hy => by
    have a := (mx_spec xs h).2 m hm
    have b := hy _ (mx_spec xs h).1
    rw [show m = mx xs by omega]
    exact q⟩
theorem kmn {xs : List Int} {A : Int → Prop} (h : 0 < xs.length) (q : A (mn xs)) : ∃ ns : List Int, (xs.map PyData.int = ns.map PyData.int ∧ 0 < ns.length) ∧ ∀ m, m ∈ ns → (∀ y, y ∈ ns → m ≤ y) → A m :=
  ⟨xs, ⟨rfl, h⟩, fun m hm hy => by
    have a := (mn_spec xs h).2 m hm
    have b := hy _ (mn_spec xs h).1
    rw [show m = mn xs by omega]
    exact q⟩
/-- a list of one number, times -/
theorem rep_ints (v : Int) : ∀ n : Nat, (List.replicate n [PyData.int v]).flatten = (List.replicate n v).map PyData.int
  | 0 => rfl
  | n + 1 => by
    rw [List.replicate_succ, List.flatten_cons, rep_ints v n, List.replicate_succ, List.map_cons]
    rfl
theorem same_len {α : Type} {xs ys : List α} (h : xs = ys) : xs.length = ys.length := by rw [h]
theorem dI_set (xs : List Int) (k : Nat) (v : Int) : PyData.list ((xs.map PyData.int).set k (.int v)) = dI (xs.set k v) := by
  unfold dI
  rw [List.map_set]
theorem atI_set {ys : List Int} {m : Nat} {v i : Int} (h0 : 0 ≤ i) (h : i < ys.length) : atI ((ys.map PyData.int).set m (.int v)) i = some (.int (at' (ys.set m v) i)) := by
  rw [show (ys.map PyData.int).set m (.int v) = (ys.set m v).map PyData.int from (List.map_set ..).symm]
  exact atI_at h0 (by simpa using h)
theorem dI_set2 (xs : List Int) (k l : Nat) (v w : Int) : PyData.list (((xs.map PyData.int).set k (.int v)).set l (.int w)) = dI ((xs.set k v).set l w) := by
  unfold dI
  rw [List.map_set, List.map_set]
/-- an item of the names, by another reading -/
theorem env_eq {d e : D} {F : D → En} {N : En → Prop} (h : d = e) (q : N (F e)) : N (F d) := h ▸ q
/-! ### loops and meeting ways, told by the names that change alone -/
def setSl : En → List Nat → List (Option Slot) → En
  | δ, j :: js, s :: ss => setSl (δ.set j s) js ss
  | δ, [], _ => δ
  | δ, _ :: _, [] => δ
def setSlK : En → List Nat → List (Option Slot) → (En → Prop) → Prop
  | δ, j :: js, s :: ss, P => setK δ j s fun δ' => setSlK δ' js ss P
  | δ, [], _, P => P δ
  | δ, _ :: _, [], P => P δ
theorem setSlK_eq : ∀ (js : List Nat) (ss : List (Option Slot)) (δ : En) (P : En → Prop), setSlK δ js ss P = P (setSl δ js ss)
  | [], _, _, _ => by simp only [setSlK, setSl]
  | _ :: _, [], _, _ => by simp only [setSlK, setSl]
  | j :: js, s :: ss, δ, P => by
    show setK δ j s (fun δ' => setSlK δ' js ss P) = P (setSl (δ.set j s) js ss)
    rw [setK_eq, setSlK_eq js ss]
theorem forR_st {tg : Tgt} {wl : List Nat} {m : DS} {E : DEnds} {lo : Int} {n : Nat} {F : En → Prop} {δ : En} {α : Type} (js : List Nat) (f : α → List (Option Slot)) (I : Nat → α → Prop) (a0 : α) (hI : I 0 a0) (h0 : killR δ wl = setSl (killR δ wl) js (f a0))
    (hs : ∀ k, k < n → ∀ a, I k a → ∀ P : En → Prop, (∀ a' δ', I (k + 1) a' → killR δ' wl = setSl (killR δ wl) js (f a') → P δ') → killK δ wl fun δ0 => setSlK δ0 js (f a) fun δ1 => asgT tg (.int (lo + k)) true δ1 fun δ' => m ⟨P, E.rt⟩ δ')
    (hF : ∀ a, I n a → killK δ wl fun δ0 => setSlK δ0 js (f a) F) : LoopN (bodyR tg wl m E lo) n 0 (fun δ => F (killR δ wl)) δ := by
  refine forR_inv (fun k δ' => ∃ a, I k a ∧ δ' = setSl (killR δ wl) js (f a)) ⟨a0, hI, h0⟩ (fun k hk δ' ⟨a, ha, e⟩ P hP => ?_) (fun δ' ⟨a, ha, e⟩ => ?_)
  · have q := hs k hk a ha P fun a' δ'' h1 h2 => hP δ'' ⟨a', h1, h2⟩
    rw [killK_eq, setSlK_eq] at q
    rw [e]
    exact q
  · have q := hF a ha
    rw [killK_eq, setSlK_eq] at q
    rw [e]
    exact q
theorem forR_same {tg : Tgt} {wl : List Nat} {m : DS} {E : DEnds} {lo : Int} {n : Nat} {F : En → Prop} {δ : En}
    (hs : ∀ k, k < n → ∀ P : En → Prop, (∀ δ', killR δ' wl = killR δ wl → P δ') → killK δ wl fun δ1 => asgT tg (.int (lo + k)) true δ1 fun δ' => m ⟨P, E.rt⟩ δ')
    (hF : killK δ wl F) : LoopN (bodyR tg wl m E lo) n 0 (fun δ => F (killR δ wl)) δ := by
  refine forR_inv (fun k δ' => δ' = killR δ wl) rfl (fun k hk δ' e P hP => ?_) (fun δ' e => ?_)
  · have q := hs k hk P fun δ'' h2 => hP δ'' h2
    rw [killK_eq] at q
    rw [e]
    exact q
  · rw [killK_eq] at hF
    rw [e]
    exact hF
theorem forV_st {tg : Tgt} {wl : List Nat} {m : DS} {E : DEnds} {F : En → Prop} {δ : En} {β : Type} {enc : β → D} {xs : List β} {α : Type} (js : List Nat) (f : α → List (Option Slot)) (I : List β → α → Prop) (a0 : α) (hI : I [] a0) (h0 : killR δ wl = setSl (killR δ wl) js (f a0))
    (hs : ∀ p x q, xs = p ++ x :: q → ∀ a, I p a → ∀ P : En → Prop, (∀ a' δ', I (p ++ [x]) a' → killR δ' wl = setSl (killR δ wl) js (f a') → P δ') → killK δ wl fun δ0 => setSlK δ0 js (f a) fun δ1 => asgT tg (enc x) (imm (enc x)) δ1 fun δ' => m ⟨P, E.rt⟩ δ')
    (hF : ∀ a, I xs a → killK δ wl fun δ0 => setSlK δ0 js (f a) F) : LoopL (bodyV tg wl m E) (xs.map enc) (fun δ => F (killR δ wl)) δ := by
  refine forV_inv (fun p δ' => ∃ a, I p a ∧ δ' = setSl (killR δ wl) js (f a)) ⟨a0, hI, h0⟩ (fun p x q ex δ' ⟨a, ha, e⟩ P hP => ?_) (fun δ' ⟨a, ha, e⟩ => ?_)
  · have q := hs p x q ex a ha P fun a' δ'' h1 h2 => hP δ'' ⟨a', h1, h2⟩
    rw [killK_eq, setSlK_eq] at q
    rw [e]
    exact q
  · have q := hF a ha
    rw [killK_eq, setSlK_eq] at q
    rw [e]
    exact q
theorem forV_same {tg : Tgt} {wl : List Nat} {m : DS} {E : DEnds} {F : En → Prop} {δ : En} {β : Type} {enc : β → D} {xs : List β}
    (hs : ∀ p x q, xs = p ++ x :: q → ∀ P : En → Prop, (∀ δ', killR δ' wl = killR δ wl → P δ') → killK δ wl fun δ1 => asgT tg (enc x) (imm (enc x)) δ1 fun δ' => m ⟨P, E.rt⟩ δ')
    (hF : killK δ wl F) : LoopL (bodyV tg wl m E) (xs.map enc) (fun δ => F (killR δ wl)) δ := by
  refine forV_inv (fun p δ' => δ' = killR δ wl) rfl (fun p x q ex δ' e P hP => ?_) (fun δ' e => ?_)
  · have q := hs p x q ex P fun δ'' h2 => hP δ'' h2
    rw [killK_eq] at q
    rw [e]
    exact q
  · rw [killK_eq] at hF
    rw [e]
    exact hF
theorem setSl_at {j : Nat} : ∀ {js : List Nat} {ss : List (Option Slot)} {δ : En}, js.contains j = false → (setSl δ js ss)[j]? = δ[j]?
  | [], _, _, _ => by simp only [setSl]
  | _ :: _, [], _, _ => by simp only [setSl]
  | i :: js, s :: ss, δ, h => by
    have h' : (j == i) = false ∧ js.contains j = false := by simpa using h
    show (setSl (δ.set i s) js ss)[j]? = _
    rw [setSl_at h'.2, List.getElem?_set_ne (fun e => by subst e; simp at h')]
/-- over a name's list: the name keeps its value -/
theorem forN_st {tg : Tgt} {wl : List Nat} {m : DS} {E : DEnds} {F : En → Prop} {δ : En} {j : Nat} {s : Slot} {β : Type} {enc : β → D} {xs : List β} {α : Type} (js : List Nat) (f : α → List (Option Slot)) (I : List β → α → Prop) (a0 : α) (hI : I [] a0) (h0 : killR δ wl = setSl (killR δ wl) js (f a0))
    (hj : wl.contains j = false) (hjs : js.contains j = false) (hjj : δ[j]? = some (some s))
    (hs : ∀ p x q, xs = p ++ x :: q → ∀ a, I p a → ∀ P : En → Prop, (∀ a' δ', I (p ++ [x]) a' → killR δ' wl = setSl (killR δ wl) js (f a') → P δ') → killK δ wl fun δ0 => setSlK δ0 js (f a) fun δ1 => asgT tg (enc x) (imm (enc x)) δ1 fun δ' => m ⟨P, E.rt⟩ δ')
    {pn : Bool} (hF : ∀ a, I xs a → killK δ wl fun δ0 => setSlK δ0 js (f a) fun δ1 => F (unpin j pn δ1)) :
    LoopL (bodyN j s tg wl m E) (xs.map enc) (fun δ => δ[j]? = some (some s) ∧ F (unpin j pn (killR δ wl))) δ := by
  refine forN_inv (fun p δ' => ∃ a, I p a ∧ δ' = setSl (killR δ wl) js (f a)) ⟨a0, hI, h0⟩ hj (fun p δ' ⟨a, _, e⟩ => by rw [e, setSl_at hjs, killR_at hj, hjj]) (fun p x q ex δ' ⟨a, ha, e⟩ P hP => ?_) (fun δ' ⟨a, ha, e⟩ => ?_)
  · have q := hs p x q ex a ha P fun a' δ'' h1 h2 => hP δ'' ⟨a', h1, h2⟩
    rw [killK_eq, setSlK_eq] at q
    rw [e]
    exact q
  · have q := hF a ha
    rw [killK_eq, setSlK_eq] at q
    rw [e]
    exact q
theorem forN_same {tg : Tgt} {wl : List Nat} {m : DS} {E : DEnds} {F : En → Prop} {δ : En} {j : Nat} {s : Slot} {β : Type} {enc : β → D} {xs : List β} (hj : wl.contains j = false) (hjj : δ[j]? = some (some s))
    (hs : ∀ p x q, xs = p ++ x :: q → ∀ P : En → Prop, (∀ δ', killR δ' wl = killR δ wl → P δ') → killK δ wl fun δ1 => asgT tg (enc x) (imm (enc x)) δ1 fun δ' => m ⟨P, E.rt⟩ δ')
    {pn : Bool} (hF : killK δ wl fun δ1 => F (unpin j pn δ1)) :
    LoopL (bodyN j s tg wl m E) (xs.map enc) (fun δ => δ[j]? = some (some s) ∧ F (unpin j pn (killR δ wl))) δ := by
  refine forN_inv (fun p δ' => δ' = killR δ wl) rfl hj (fun p δ' e => by rw [e, killR_at hj, hjj]) (fun p x q ex δ' e P hP => ?_) (fun δ' e => ?_)
  · have q := hs p x q ex P fun δ'' h2 => hP δ'' h2
    rw [killK_eq] at q
    rw [e]
    exact q
  · rw [killK_eq] at hF
    rw [e]
    exact hF
/-- ways that meet: js tells which names differ -/
theorem ifJs {t : DT} {m n : DS} {N : En → Prop} {rt : Val → En → Prop} {δ : En} {α : Type} (js : List Nat) (f : α → List (Option Slot)) (h : ∀ a, setSlK δ js (f a) N) (k : ∀ N : En → Prop, (∀ a, N (setSl δ js (f a))) → mIf t m n ⟨N, rt⟩ δ) : mIfJ t m n ⟨N, rt⟩ δ :=
  ifJ (fun a => setSl δ js (f a)) (fun a => by have q := h a; rw [setSlK_eq] at q; exact q) k
/-- one name's list that grows -/
abbrev sD (d : D) : List (Option Slot) := [some ⟨d, true, false⟩]
theorem ownP {α : Type} {enc : α → D} (xs : List α) : ownN (xs.map enc) false = false := by unfold ownN; split <;> rfl
/-! ### while -/
theorem wh_inv {t : DT} {m : DS} {E : DEnds} {δ : En} (I : Nat → En → Prop) (n0 : Nat) (h : I n0 δ) (hs : ∀ n δ, I n δ → ∀ P : En → Prop, (∀ k δ', k < n → I k δ' → P δ') → t δ fun b => match b with | true => m ⟨P, E.rt⟩ δ | false => E.nx δ) : ∃ n, whI t m E n δ := by
  have main : ∀ N n δ, n < N → I n δ → whI t m E N δ := fun N => by
    induction N with
    | zero => intro n δ hn _; omega
    | succ N ih => intro n δ hn hI; exact hs n δ hI (whI t m E N) fun k δ' hk hI' => ih k δ' (by omega) hI'
  exact ⟨n0 + 1, main _ _ _ (Nat.lt_succ_self _) h⟩
theorem wh_st {t : DT} {m : DS} {E : DEnds} {δ : En} {α : Type} (js : List Nat) (f : α → List (Option Slot)) (I : Nat → α → Prop) (n0 : Nat) (a0 : α) (hI : I n0 a0) (h0 : δ = setSl δ js (f a0))
    (hs : ∀ n a, I n a → ∀ P : En → Prop, (∀ k a' δ', k < n → I k a' → δ' = setSl δ js (f a') → P δ') → setSlK δ js (f a) fun δ1 => t δ1 fun b => match b with | true => m ⟨P, E.rt⟩ δ1 | false => E.nx δ1) : ∃ n, whI t m E n δ := by
  refine wh_inv (fun n δ' => ∃ a, I n a ∧ δ' = setSl δ js (f a)) n0 ⟨a0, hI, h0⟩ fun n δ' ⟨a, ha, e⟩ P hP => ?_
  have q := hs n a ha P fun k a' δ'' hk h1 h2 => hP k δ'' hk ⟨a', h1, h2⟩
  rw [setSlK_eq] at q
  rw [e]
  exact q
/-! ### tuples of ints -/
abbrev dT (v : List Int) : D := .tuple (v.map PyData.int)
theorem imm_dT (v : List Int) : imm (dT v) = true := imm_ints v
theorem atI_c0 {α : Type} {a : α} {l : List α} : atI (a :: l) 0 = some a := atI_nat (j := 0) rfl
theorem atI_c1 {α : Type} {a b : α} {l : List α} : atI (a :: b :: l) 1 = some b := atI_nat (j := 1) rfl
theorem atI_c2 {α : Type} {a b c : α} {l : List α} : atI (a :: b :: c :: l) 2 = some c := atI_nat (j := 2) rfl
theorem atI_c3 {α : Type} {a b c d : α} {l : List α} : atI (a :: b :: c :: d :: l) 3 = some d := atI_nat (j := 3) rfl
theorem atI_c4 {α : Type} {a b c d e : α} {l : List α} : atI (a :: b :: c :: d :: e :: l) 4 = some e := atI_nat (j := 4) rfl
theorem atI_c5 {α : Type} {a b c d e f : α} {l : List α} : atI (a :: b :: c :: d :: e :: f :: l) 5 = some f := atI_nat (j := 5) rfl
theorem atI_c6 {α : Type} {a b c d e f g : α} {l : List α} : atI (a :: b :: c :: d :: e :: f :: g :: l) 6 = some g := atI_nat (j := 6) rfl
theorem nv_of (d : D) (h : imm d = true) (o : Bool) (r : List Nat) : nv ⟨d, o, r⟩ = ⟨d, true, []⟩ := by
  unfold nv
  rw [h]
theorem demT {x : Val} {δ : En} {F : En → Prop} (h : imm x.d = true) (q : F δ) : demK δ (nv x).roots F := by
  unfold nv
  rw [h]
  exact q
/-- over a range, with a test -/
theorem lc_rgF {step : D → List D → (List D → Prop) → Prop} {lo : Int} {n : Nat} {β : Type} {P : List D → Prop} (enc2 : β → D) (p : Nat → Bool) (f : Nat → β) (ys : List β) (hl : n ≤ sizeLine)
    (hs : ∀ k, k < n → ∀ acc K, acc.length < sizeLine → (p k = true → K (acc ++ [enc2 (f k)])) → (p k = false → K acc) → step (.int (lo + (k : Int))) acc K) (e : ((List.range n).filter p).map f = ys) (h : P (ys.map enc2)) : LcL step (rgItems lo n) [] P := by
  rw [rgItems_eq]
  exact lc_filterL enc2 p f ys (by simpa using hl) (fun k hk => hs k (by simpa using hk)) e h
theorem atI_range {α : Type} (f : Nat → α) {n : Nat} {i : Int} (h0 : 0 ≤ i) (h : i < n) : atI ((List.range n).map f) i = some (f i.toNat) := by
  obtain ⟨hk, e⟩ := atI_mapI f (xs := List.range n) h0 (by simpa using h)
  rw [e]
  simp
end KT
namespace KM
open PySem PySem.Spec PyProof.Rows L2 KT
variable [WT]
/-- chain_scale(period, generator, count); slots: 0 period, 1 generator, 2 count, 3 notes, 4 seen, 5 at, 6 note -/
def m_chain_scale : DS :=
  (mSeq (mSet 3 true (dLst aNil))
  (mSeq (mSet 4 true dSet0)
  (mSeq (mForR rg1 (.nm 5) [5, 6] (aCons (dVar 2) aNil)
  (mSeq (mSet 6 true (dBin kMod (dBin kMul (dVar 5) (dVar 1)) (dVar 0)))
  (mSeq (mIf (dTst (dBin (kInS false) (dVar 6) (dVar 4)))
  mNever
  mNil)
  (mSeq (mSAdd 4 (dVar 6))
  (mApp 3 (dVar 6))))))
  (mRet (dCall kSorted (aCons (dVar 3) aNil))))))
def w_chain_scale : W := runF 7 m_chain_scale
/-- gaps(scale, period); slots: 0 scale, 1 period, 2 distances, 3 at -/
def m_gaps : DS :=
  (mSeq (mSet 2 true (dLst aNil))
  (mSeq (mForR rg1 (.nm 3) [3] (aCons (dBin kSub (dCall kLen (aCons (dVar 0) aNil)) (dC (.int 1))) aNil)
  (mApp 2 (dBin kSub (dSub (dVar 0) (dBin kAdd (dVar 3) (dC (.int 1)))) (dSub (dVar 0) (dVar 3)))))
  (mSeq (mApp 2 (dBin kSub (dBin kAdd (dSub (dVar 0) (dC (.int 0))) (dVar 1)) (dSub (dVar 0) (dUn kNeg (dC (.int 1))))))
  (mRet (dVar 2)))))
def w_gaps : W := runF 4 m_gaps
/-- shifted(scale, period, by); slots: 0 scale, 1 period, 2 by, 3 note -/
def m_shifted : DS :=
  (mRet (dCall kSorted (aCons (dLcV (.nm 3) [3] dtYes (dBin kMod (dBin kAdd (dVar 3) (dVar 2)) (dVar 1)) (dVar 0)) aNil)))
def w_shifted : W := runF 4 m_shifted
/-- shared(first, second); slots: 0 first, 1 second, 2 note -/
def m_shared : DS :=
  (mRet (dLcV (.nm 2) [2] (dTst (dBin kIn (dVar 2) (dVar 1))) (dVar 2) (dVar 0)))
def w_shared : W := runF 3 m_shared
/-- chain_from(note, period, generator, count); slots: 0 note, 1 period, 2 generator, 3 count, 4 k -/
def m_chain_from : DS :=
  (mRet (dCall kSorted (aCons (dLcR rg1 (.nm 4) [4] dtYes (dBin kMod (dBin kAdd (dVar 0) (dBin kMul (dVar 4) (dVar 2))) (dVar 1)) (aCons (dVar 3) aNil)) aNil)))
def w_chain_from : W := runF 5 m_chain_from
/-- chain_start(scale, period, generator); slots: 0 scale, 1 period, 2 generator, 3 note -/
def m_chain_start : DS :=
  (mSeq (mForN (.nm 3) [3] 0
  (mIf (dTst (dBin kEq (dCall (wCall 4 w_chain_from) (aCons (dVar 3) (aCons (dVar 1) (aCons (dVar 2) (aCons (dCall kLen (aCons (dVar 0) aNil)) aNil))))) (dVar 0)))
  (mRet (dVar 3))
  mNil))
  (mRet (dC .none)))
def w_chain_start : W := runF 4 m_chain_start
/-- rotated_gaps(gap_list, by); slots: 0 gap_list, 1 by, 2 at -/
def m_rotated_gaps : DS :=
  (mSeq (mSet 2 true (dBin kMod (dVar 1) (dCall kLen (aCons (dVar 0) aNil))))
  (mRet (dBin kAdd (dSlice (dVar 0) (dSo (dVar 2)) dNo) (dSlice (dVar 0) dNo (dSo (dVar 2))))))
def w_rotated_gaps : W := runF 3 m_rotated_gaps
/-- mode_count(gap_list); slots: 0 gap_list, 1 by -/
def m_mode_count : DS :=
  (mSeq (mSet 1 true (dC (.int 1)))
  (mSeq (mWhile (dTst (dBin kNe (dCall (wCall 2 w_rotated_gaps) (aCons (dVar 0) (aCons (dVar 1) aNil))) (dVar 0)))
  (mSet 1 true (dBin kAdd (dVar 1) (dC (.int 1)))))
  (mRet (dVar 1))))
def w_mode_count : W := runF 2 m_mode_count
/-- modes(gap_list); slots: 0 gap_list, 1 by -/
def m_modes : DS :=
  (mRet (dLcR rg1 (.nm 1) [1] dtYes (dCall (wCall 2 w_rotated_gaps) (aCons (dVar 0) (aCons (dVar 1) aNil))) (aCons (dCall (wCall 1 w_mode_count) (aCons (dVar 0) aNil)) aNil)))
def w_modes : W := runF 2 m_modes
/-- notes_of(gap_list); slots: 0 gap_list, 1 notes, 2 total, 3 gap -/
def m_notes_of : DS :=
  (mSeq (mSet 1 true (dLst aNil))
  (mSeq (mSet 2 true (dC (.int 0)))
  (mSeq (mForN (.nm 3) [3] 0
  (mSeq (mApp 1 (dVar 2))
  (mSet 2 true (dBin kAdd (dVar 2) (dVar 3)))))
  (mRet (dVar 1)))))
def w_notes_of : W := runF 4 m_notes_of
/-- brightest(gap_list); slots: 0 gap_list, 1 best, 2 by -/
def m_brightest : DS :=
  (mSeq (mSet 1 true (dC (.int 0)))
  (mSeq (mForR rg2 (.nm 2) [2] (aCons (dC (.int 1)) (aCons (dCall kLen (aCons (dVar 0) aNil)) aNil))
  (mIf (dTst (dBin kGtL (dCall (wCall 1 w_notes_of) (aCons (dCall (wCall 2 w_rotated_gaps) (aCons (dVar 0) (aCons (dVar 2) aNil))) aNil)) (dCall (wCall 1 w_notes_of) (aCons (dCall (wCall 2 w_rotated_gaps) (aCons (dVar 0) (aCons (dVar 1) aNil))) aNil))))
  (mSet 1 true (dVar 2))
  mNil))
  (mRet (dVar 1))))
def w_brightest : W := runF 3 m_brightest
/-- mode_from(scale, period, note); slots: 0 scale, 1 period, 2 note -/
def m_mode_from : DS :=
  (mRet (dCall (wCall 3 w_shifted) (aCons (dVar 0) (aCons (dVar 1) (aCons (dUn kNeg (dVar 2)) aNil)))))
def w_mode_from : W := runF 3 m_mode_from
/-- _law_draws(script, many); slots: 0 script, 1 many, 2 found, 3 cell, 4 number, 5 k, 6 mixed, 7 base -/
def m__law_draws : DS :=
  (mSeq (mSet 2 true (dLst aNil))
  (mSeq (mForV (.nm 3) [3, 4, 5, 6] (dSlice (dVar 0) dNo (dSo (dC (.int 63))))
  (mSeq (mSet 4 true (dCall kAbs (aCons (dCall kInt (aCons (dVar 3) aNil)) aNil)))
  (mIf (dTst (dBin kGe (dVar 4) (dBin kPow (dC (.int 10)) (dC (.int 18)))))
  (mForR rg1 (.nm 5) [5] (aCons (dC (.int 60)) aNil)
  (mIf (dTst (dBin kGt (dVar 4) (dC (.int 0))))
  (mSeq (mApp 2 (dBin kMod (dVar 4) (dC (.int 1000003))))
  (mSet 4 true (dBin kDiv (dVar 4) (dC (.int 1000003)))))
  mNil))
  (mSeq (mSet 6 true (dBin kMod (dBin kAdd (dBin kAdd (dBin kMul (dVar 4) (dC (.int 48271))) (dBin kMul (dC (.int 7)) (dCall kLen (aCons (dVar 2) aNil)))) (dC (.int 11))) (dC (.int 2147483647))))
  (mForR rg1 (.nm 5) [5] (aCons (dC (.int 4)) aNil)
  (mSeq (mSet 6 true (dBin kMod (dBin kAdd (dBin kAdd (dBin kAdd (dBin kMul (dVar 6) (dC (.int 69621))) (dBin kDiv (dVar 6) (dC (.int 65536)))) (dBin kMul (dC (.int 13)) (dVar 5))) (dC (.int 5))) (dC (.int 2147483629))))
  (mApp 2 (dBin kMod (dBin kDiv (dVar 6) (dC (.int 8))) (dC (.int 1000003))))))))))
  (mSeq (mForR rg1 (.nm 5) [5, 7] (aCons (dVar 1) aNil)
  (mIf (dTst (dBin kLt (dCall kLen (aCons (dVar 2) aNil)) (dVar 1)))
  (mSeq (mSet 7 true (dC (.int 0)))
  (mSeq (mIf (dTst (dBin kGt (dCall kLen (aCons (dVar 2) aNil)) (dC (.int 0))))
  (mSet 7 false (dSub (dVar 2) (dBin kMod (dVar 5) (dCall kLen (aCons (dVar 2) aNil)))))
  mNil)
  (mApp 2 (dBin kMod (dBin kAdd (dBin kAdd (dBin kMul (dVar 7) (dC (.int 16807))) (dBin kMul (dC (.int 31)) (dCall kLen (aCons (dVar 2) aNil)))) (dC (.int 17))) (dC (.int 1000003))))))
  mNil))
  (mRet (dSlice (dVar 2) dNo (dSo (dVar 1)))))))
def w__law_draws : W := runF 8 m__law_draws
/-- _law_is_number(value); slots: 0 value -/
def m__law_is_number : DS :=
  (mRet (dAnd (dUn (kIsi "int") (dVar 0)) (dUn kNot (dUn (kIsi "bool") (dVar 0)))))
def w__law_is_number : W := runF 1 m__law_is_number
/-- _law_is_numbers(value, size); slots: 0 value, 1 size, 2 item -/
def m__law_is_numbers : DS :=
  (mSeq (mIf (dtOr (dtNot (dTst (dUn (kIsi "list") (dVar 0)))) (dTst (dBin kNe (dCall kLen (aCons (dVar 0) aNil)) (dVar 1))))
  (mRet (dC (.bool false)))
  mNil)
  (mSeq (mForN (.nm 2) [2] 0
  (mIf (dtNot (dTst (dCall (wCall 1 w__law_is_number) (aCons (dVar 2) aNil))))
  (mRet (dC (.bool false)))
  mNil))
  (mRet (dC (.bool true)))))
def w__law_is_numbers : W := runF 3 m__law_is_numbers
/-- _law_same_numbers(found, due); slots: 0 found, 1 due, 2 at -/
def m__law_same_numbers : DS :=
  (mSeq (mIf (dtNot (dTst (dCall (wCall 2 w__law_is_numbers) (aCons (dVar 0) (aCons (dCall kLen (aCons (dVar 1) aNil)) aNil)))))
  (mRet (dC (.bool false)))
  mNil)
  (mSeq (mForR rg1 (.nm 2) [2] (aCons (dCall kLen (aCons (dVar 1) aNil)) aNil)
  (mIf (dTst (dBin kNe (dSub (dVar 0) (dVar 2)) (dSub (dVar 1) (dVar 2))))
  (mRet (dC (.bool false)))
  mNil))
  (mRet (dC (.bool true)))))
def w__law_same_numbers : W := runF 3 m__law_same_numbers
/-- _law_gcd(first, second); slots: 0 first, 1 second, 2 step -/
def m__law_gcd : DS :=
  (mSeq (mSet 0 true (dCall kAbs (aCons (dVar 0) aNil)))
  (mSeq (mSet 1 true (dCall kAbs (aCons (dVar 1) aNil)))
  (mSeq (mForR rg1 (.nm 2) [2] (aCons (dC (.int 80)) aNil)
  (mIf (dTst (dBin kGt (dVar 1) (dC (.int 0))))
  (mPar 0 1 (dVar 1) (dBin kMod (dVar 0) (dVar 1)))
  mNil))
  (mRet (dVar 0)))))
def w__law_gcd : W := runF 3 m__law_gcd
/-- _law_unlike(numbers); slots: 0 numbers, 1 result, 2 number -/
def m__law_unlike : DS :=
  (mSeq (mSet 1 true (dLst aNil))
  (mSeq (mForV (.nm 2) [2] (dCall kSorted (aCons (dVar 0) aNil))
  (mIf (dtOr (dTst (dBin kEq (dCall kLen (aCons (dVar 1) aNil)) (dC (.int 0)))) (dTst (dBin kNe (dSub (dVar 1) (dUn kNeg (dC (.int 1)))) (dVar 2))))
  (mApp 1 (dVar 2))
  mNil))
  (mRet (dVar 1))))
def w__law_unlike : W := runF 3 m__law_unlike
/-- _law_chain_world(draws); slots: 0 draws, 1 period, 2 generator, 3 order, 4 count -/
def m__law_chain_world : DS :=
  (mSeq (mSet 1 true (dBin kAdd (dC (.int 1)) (dBin kMod (dSub (dVar 0) (dC (.int 0))) (dC (.int 40)))))
  (mSeq (mSet 2 true (dBin kSub (dBin kMod (dSub (dVar 0) (dC (.int 1))) (dC (.int 121))) (dC (.int 60))))
  (mSeq (mIfJ (dTst (dBin kEq (dBin kMod (dSub (dVar 0) (dC (.int 2))) (dC (.int 8))) (dC (.int 0))))
  (mSeq (mSet 1 true (dBin kAdd (dC (.int 1)) (dBin kMod (dSub (dVar 0) (dC (.int 0))) (dBin kPow (dC (.int 10)) (dC (.int 6))))))
  (mSet 2 true (dBin kSub (dBin kAdd (dBin kMul (dSub (dVar 0) (dC (.int 1))) (dC (.int 1000003))) (dSub (dVar 0) (dC (.int 3)))) (dBin kPow (dC (.int 10)) (dC (.int 11))))))
  mNil)
  (mSeq (mIfJ (dTst (dBin kEq (dBin kMod (dSub (dVar 0) (dC (.int 2))) (dC (.int 8))) (dC (.int 1))))
  (mSet 1 true (dBin kMul (dBin kMul (dBin kMul (dBin kMul (dC (.int 2)) (dC (.int 3))) (dC (.int 4))) (dC (.int 5))) (dBin kAdd (dC (.int 1)) (dBin kMod (dSub (dVar 0) (dC (.int 0))) (dC (.int 8))))))
  mNil)
  (mSeq (mSet 3 true (dBin kDiv (dVar 1) (dCall (wCall 2 w__law_gcd) (aCons (dVar 1) (aCons (dVar 2) aNil)))))
  (mSeq (mSet 4 true (dBin kAdd (dC (.int 1)) (dBin kMod (dSub (dVar 0) (dC (.int 4))) (dCall kMin (aCons (dC (.int 400)) (aCons (dVar 3) aNil))))))
  (mSeq (mIfJ (dTst (dBin kEq (dBin kMod (dBin kDiv (dSub (dVar 0) (dC (.int 2))) (dC (.int 8))) (dC (.int 6))) (dC (.int 0))))
  (mSet 4 true (dCall kMin (aCons (dC (.int 400)) (aCons (dVar 3) aNil))))
  (mIf (dTst (dBin kLt (dBin kMod (dBin kDiv (dSub (dVar 0) (dC (.int 2))) (dC (.int 8))) (dC (.int 6))) (dC (.int 5))))
  (mSet 4 true (dCall kMin (aCons (dVar 4) (aCons (dBin kAdd (dC (.int 1)) (dBin kMod (dSub (dVar 0) (dC (.int 4))) (dC (.int 30)))) aNil))))
  mNil))
  (mRet (dTup (aCons (dVar 1) (aCons (dVar 2) (aCons (dVar 3) (aCons (dVar 4) aNil)))))))))))))
def w__law_chain_world : W := runF 5 m__law_chain_world
/-- _law_from(start, period, generator, count); slots: 0 start, 1 period, 2 generator, 3 count, 4 k -/
def m__law_from : DS :=
  (mRet (dCall kSorted (aCons (dLcR rg1 (.nm 4) [4] dtYes (dBin kMod (dBin kAdd (dVar 0) (dBin kMul (dVar 4) (dVar 2))) (dVar 1)) (aCons (dVar 3) aNil)) aNil)))
def w__law_from : W := runF 5 m__law_from
/-- _law_start(scale, period, generator); slots: 0 scale, 1 period, 2 generator, 3 note -/
def m__law_start : DS :=
  (mSeq (mForN (.nm 3) [3] 0
  (mIf (dTst (dBin kEq (dCall (wCall 4 w__law_from) (aCons (dVar 3) (aCons (dVar 1) (aCons (dVar 2) (aCons (dCall kLen (aCons (dVar 0) aNil)) aNil))))) (dVar 0)))
  (mRet (dVar 3))
  mNil))
  (mRet (dC .none)))
def w__law_start : W := runF 4 m__law_start
/-- _law_asks_start(scale, period, generator, due); slots: 0 scale, 1 period, 2 generator, 3 due, 4 passed, 5 told -/
def m__law_asks_start : DS :=
  (mSeq (mSet 4 true (dCall kList (aCons (dVar 0) aNil)))
  (mSeq (mSet 5 true (dCall (wCall 3 w_chain_start) (aCons (dVar 4) (aCons (dVar 1) (aCons (dVar 2) aNil)))))
  (mSeq (mIf (dTst (dBin kNe (dVar 4) (dVar 0)))
  (mRet (dC (.bool false)))
  mNil)
  (mSeq (mIf (dTst (dUn (kIsN false) (dVar 3)))
  (mRet (dUn (kIsN false) (dVar 5)))
  mNil)
  (mRet (dAnd (dCall (wCall 1 w__law_is_number) (aCons (dVar 5) aNil)) (dBin kEq (dVar 5) (dVar 3))))))))
def w__law_asks_start : W := runF 6 m__law_asks_start
/-- _law_asks_pair(first, second, period, by); slots: 0 first, 1 second, 2 period, 3 by, 4 one, 5 two, 6 found, 7 due, 8 note -/
def m__law_asks_pair : DS :=
  (mSeq (mSet 4 true (dCall kList (aCons (dVar 0) aNil)))
  (mSeq (mSet 5 true (dCall kList (aCons (dVar 1) aNil)))
  (mSeq (mSet 6 true (dCall (wCall 2 w_shared) (aCons (dVar 4) (aCons (dVar 5) aNil))))
  (mSeq (mSet 7 true (dLcV (.nm 8) [8] (dTst (dBin kIn (dVar 8) (dVar 1))) (dVar 8) (dVar 0)))
  (mSeq (mIf (dtOr (dTst (dBin kNe (dVar 4) (dVar 0))) (dtOr (dTst (dBin kNe (dVar 5) (dVar 1))) (dtNot (dTst (dCall (wCall 2 w__law_same_numbers) (aCons (dVar 6) (aCons (dVar 7) aNil)))))))
  (mRet (dC (.bool false)))
  mNil)
  (mSeq (mIf (dtOr (dtNot (dTst (dCall (wCall 2 w__law_same_numbers) (aCons (dCall (wCall 2 w_shared) (aCons (dVar 5) (aCons (dVar 4) aNil))) (aCons (dVar 7) aNil))))) (dtNot (dTst (dCall (wCall 2 w__law_same_numbers) (aCons (dCall (wCall 2 w_shared) (aCons (dVar 4) (aCons (dVar 4) aNil))) (aCons (dVar 0) aNil))))))
  (mRet (dC (.bool false)))
  mNil)
  (mSeq (mSet 6 true (dCall (wCall 3 w_shifted) (aCons (dVar 4) (aCons (dVar 2) (aCons (dVar 3) aNil)))))
  (mSeq (mSet 7 true (dCall kSorted (aCons (dLcV (.nm 8) [8] dtYes (dBin kMod (dBin kAdd (dVar 8) (dVar 3)) (dVar 2)) (dVar 0)) aNil)))
  (mSeq (mIf (dtOr (dTst (dBin kNe (dVar 4) (dVar 0))) (dtNot (dTst (dCall (wCall 2 w__law_same_numbers) (aCons (dVar 6) (aCons (dVar 7) aNil))))))
  (mRet (dC (.bool false)))
  mNil)
  (mSeq (mApp 6 (dVar 2))
  (mRet (dCall (wCall 2 w__law_same_numbers) (aCons (dCall (wCall 3 w_shifted) (aCons (dVar 4) (aCons (dVar 2) (aCons (dVar 3) aNil)))) (aCons (dVar 7) aNil))))))))))))))
def w__law_asks_pair : W := runF 9 m__law_asks_pair
/-- _law_first(script); slots: 0 script, 1 draws, 2 period, 3 generator, 4 order, 5 count, 6 start, 7 chain, 8 due, 9 by, 10 moved, 11 many, 12 bent, 13 drawn, 14 scale, 15 note, 16 k -/
def m__law_first : DS :=
  (mSeq (mSet 1 true (dCall (wCall 2 w__law_draws) (aCons (dVar 0) (aCons (dC (.int 40)) aNil))))
  (mSeq (mAsg (.tp [2, 3, 4, 5]) true (dCall (wCall 1 w__law_chain_world) (aCons (dVar 1) aNil)))
  (mSeq (mSet 5 true (dCall kMin (aCons (dVar 5) (aCons (dBin kAdd (dC (.int 1)) (dBin kMod (dSub (dVar 1) (dC (.int 5))) (dC (.int 30)))) aNil))))
  (mSeq (mIfJ (dtAnd (dTst (dBin kLe (dVar 4) (dC (.int 30)))) (dTst (dBin kEq (dBin kMod (dSub (dVar 1) (dC (.int 6))) (dC (.int 5))) (dC (.int 0)))))
  (mSet 5 false (dVar 4))
  mNil)
  (mSeq (mSet 6 true (dBin kMod (dSub (dVar 1) (dC (.int 7))) (dVar 2)))
  (mSeq (mSet 7 true (dCall (wCall 4 w__law_from) (aCons (dVar 6) (aCons (dVar 2) (aCons (dVar 3) (aCons (dVar 5) aNil))))))
  (mSeq (mSet 8 false (dVar 6))
  (mSeq (mIfJ (dTst (dBin kEq (dVar 5) (dVar 4)))
  (mSet 8 false (dSub (dVar 7) (dC (.int 0))))
  mNil)
  (mSeq (mIf (dtNot (dTst (dCall (wCall 4 w__law_asks_start) (aCons (dVar 7) (aCons (dVar 2) (aCons (dVar 3) (aCons (dVar 8) aNil)))))))
  (mRet (dC (.bool false)))
  mNil)
  (mSeq (mSet 9 true (dBin kSub (dBin kMod (dSub (dVar 1) (dC (.int 8))) (dC (.int 2001))) (dC (.int 1000))))
  (mSeq (mIfJ (dTst (dBin kEq (dBin kMod (dSub (dVar 1) (dC (.int 2))) (dC (.int 8))) (dC (.int 0))))
  (mSet 9 true (dBin kMul (dBin kSub (dSub (dVar 1) (dC (.int 8))) (dC (.int 500000))) (dBin kPow (dC (.int 10)) (dC (.int 6)))))
  mNil)
  (mSeq (mSet 10 true (dCall (wCall 3 w_shifted) (aCons (dCall kList (aCons (dVar 7) aNil)) (aCons (dVar 2) (aCons (dVar 9) aNil)))))
  (mSeq (mIf (dtNot (dTst (dCall (wCall 2 w__law_same_numbers) (aCons (dVar 10) (aCons (dCall kSorted (aCons (dLcV (.nm 15) [15] dtYes (dBin kMod (dBin kAdd (dVar 15) (dVar 9)) (dVar 2)) (dVar 7)) aNil)) aNil)))))
  (mRet (dC (.bool false)))
  mNil)
  (mSeq (mIf (dtAnd (dTst (dBin kLt (dVar 5) (dVar 4))) (dtNot (dTst (dCall (wCall 4 w__law_asks_start) (aCons (dVar 10) (aCons (dVar 2) (aCons (dVar 3) (aCons (dBin kMod (dBin kAdd (dVar 6) (dVar 9)) (dVar 2)) aNil))))))))
  (mRet (dC (.bool false)))
  mNil)
  (mSeq (mIf (dtAnd (dTst (dBin kEq (dVar 6) (dC (.int 0)))) (dtNot (dTst (dCall (wCall 2 w__law_same_numbers) (aCons (dCall (wCall 3 w_chain_scale) (aCons (dVar 2) (aCons (dVar 3) (aCons (dVar 5) aNil)))) (aCons (dVar 7) aNil))))))
  (mRet (dC (.bool false)))
  mNil)
  (mSeq (mIfJ (dtAnd (dTst (dBin kGt (dVar 4) (dC (.int 32)))) (dTst (dBin kEq (dBin kMod (dSub (dVar 1) (dC (.int 27))) (dC (.int 8))) (dC (.int 0)))))
  (mSeq (mSet 11 true (dCall kMin (aCons (dBin kSub (dVar 4) (dC (.int 1))) (aCons (dBin kAdd (dC (.int 31)) (dBin kMod (dSub (dVar 1) (dC (.int 28))) (dC (.int 70)))) aNil))))
  (mIf (dtNot (dTst (dCall (wCall 4 w__law_asks_start) (aCons (dCall (wCall 4 w__law_from) (aCons (dVar 6) (aCons (dVar 2) (aCons (dVar 3) (aCons (dVar 11) aNil))))) (aCons (dVar 2) (aCons (dVar 3) (aCons (dVar 6) aNil)))))))
  (mRet (dC (.bool false)))
  mNil))
  mNil)
  (mSeq (mSet 12 true (dCall kList (aCons (dVar 7) aNil)))
  (mSeq (mSetI 12 (dBin kMod (dSub (dVar 1) (dC (.int 9))) (dVar 5)) (dBin kMod (dSub (dVar 1) (dC (.int 10))) (dVar 2)))
  (mSeq (mSet 12 true (dCall (wCall 1 w__law_unlike) (aCons (dVar 12) aNil)))
  (mSeq (mSet 13 true (dCall (wCall 1 w__law_unlike) (aCons (dLcR rg1 (.nm 16) [16] dtYes (dBin kMod (dSub (dVar 1) (dBin kAdd (dC (.int 12)) (dVar 16))) (dVar 2)) (aCons (dBin kAdd (dC (.int 1)) (dBin kMod (dSub (dVar 1) (dC (.int 11))) (dC (.int 12)))) aNil)) aNil)))
  (mSeq (mLend 10 (mLend 13 (mLend 12 (mForV (.nm 14) [14] (dLst (aCons (dVar 12) (aCons (dVar 13) (aCons (dLst (aCons (dBin kMod (dSub (dVar 1) (dC (.int 24))) (dVar 2)) aNil)) (aCons (dVar 10) aNil)))))
  (mSeq (mIf (dtNot (dTst (dCall (wCall 4 w__law_asks_start) (aCons (dVar 14) (aCons (dVar 2) (aCons (dVar 3) (aCons (dCall (wCall 3 w__law_start) (aCons (dVar 14) (aCons (dVar 2) (aCons (dVar 3) aNil)))) aNil)))))))
  (mRet (dC (.bool false)))
  mNil)
  (mSeq (mIf (dtNot (dTst (dCall (wCall 4 w__law_asks_start) (aCons (dVar 14) (aCons (dVar 2) (aCons (dBin kSub (dC (.int 1)) (dVar 3)) (aCons (dCall (wCall 3 w__law_start) (aCons (dVar 14) (aCons (dVar 2) (aCons (dBin kSub (dC (.int 1)) (dVar 3)) aNil)))) aNil)))))))
  (mRet (dC (.bool false)))
  mNil)
  (mIf (dtOr (dtNot (dTst (dCall (wCall 4 w__law_asks_pair) (aCons (dVar 14) (aCons (dVar 7) (aCons (dVar 2) (aCons (dVar 9) aNil))))))) (dtNot (dTst (dCall (wCall 4 w__law_asks_pair) (aCons (dVar 7) (aCons (dVar 14) (aCons (dVar 2) (aCons (dBin kMod (dSub (dVar 1) (dC (.int 25))) (dVar 2)) aNil))))))))
  (mRet (dC (.bool false)))
  mNil)))))))
  (mRet (dAnd (dCall (wCall 4 w__law_asks_pair) (aCons (dVar 13) (aCons (dVar 12) (aCons (dVar 2) (aCons (dUn kNeg (dC (.int 1))) aNil))))) (dCall (wCall 4 w__law_asks_pair) (aCons (dVar 13) (aCons (dLst (aCons (dBin kMod (dSub (dVar 1) (dC (.int 26))) (dVar 2)) aNil)) (aCons (dVar 2) (aCons (dC (.int 0)) aNil))))))))))))))))))))))))))))
def w__law_first : W := runF 17 m__law_first
/-- _law_sums(shares); slots: 0 shares, 1 sums, 2 total, 3 share -/
def m__law_sums : DS :=
  (mSeq (mSet 1 true (dLst aNil))
  (mSeq (mSet 2 true (dC (.int 0)))
  (mSeq (mForN (.nm 3) [3] 0
  (mSeq (mApp 1 (dVar 2))
  (mSet 2 true (dBin kAdd (dVar 2) (dVar 3)))))
  (mRet (dVar 1)))))
def w__law_sums : W := runF 4 m__law_sums
/-- _law_chain(period, generator, count); slots: 0 period, 1 generator, 2 count, 3 k -/
def m__law_chain : DS :=
  (mRet (dCall kSorted (aCons (dLcR rg1 (.nm 3) [3] dtYes (dBin kMod (dBin kMul (dVar 3) (dVar 1)) (dVar 0)) (aCons (dVar 2) aNil)) aNil)))
def w__law_chain : W := runF 4 m__law_chain
/-- _law_gaps(scale, period); slots: 0 scale, 1 period, 2 result, 3 at -/
def m__law_gaps : DS :=
  (mSeq (mSet 2 true (dLst aNil))
  (mSeq (mForR rg1 (.nm 3) [3] (aCons (dCall kLen (aCons (dVar 0) aNil)) aNil)
  (mIf (dTst (dBin kLt (dBin kAdd (dVar 3) (dC (.int 1))) (dCall kLen (aCons (dVar 0) aNil))))
  (mApp 2 (dBin kSub (dSub (dVar 0) (dBin kAdd (dVar 3) (dC (.int 1)))) (dSub (dVar 0) (dVar 3))))
  (mApp 2 (dBin kSub (dBin kAdd (dSub (dVar 0) (dC (.int 0))) (dVar 1)) (dSub (dVar 0) (dVar 3))))))
  (mRet (dVar 2))))
def w__law_gaps : W := runF 4 m__law_gaps
/-- _law_rotated(gap_list, by); slots: 0 gap_list, 1 by, 2 k -/
def m__law_rotated : DS :=
  (mRet (dLcR rg1 (.nm 2) [2] dtYes (dSub (dVar 0) (dBin kMod (dBin kAdd (dVar 1) (dVar 2)) (dCall kLen (aCons (dVar 0) aNil)))) (aCons (dCall kLen (aCons (dVar 0) aNil)) aNil)))
def w__law_rotated : W := runF 3 m__law_rotated
/-- _law_count(gap_list); slots: 0 gap_list, 1 by -/
def m__law_count : DS :=
  (mSeq (mForR rg2 (.nm 1) [1] (aCons (dC (.int 1)) (aCons (dCall kLen (aCons (dVar 0) aNil)) aNil))
  (mIf (dTst (dBin kEq (dCall (wCall 2 w__law_rotated) (aCons (dVar 0) (aCons (dVar 1) aNil))) (dVar 0)))
  (mRet (dVar 1))
  mNil))
  (mRet (dCall kLen (aCons (dVar 0) aNil))))
def w__law_count : W := runF 2 m__law_count
/-- _law_brighter(first, second); slots: 0 first, 1 second, 2 at -/
def m__law_brighter : DS :=
  (mSeq (mForR rg1 (.nm 2) [2] (aCons (dCall kLen (aCons (dVar 0) aNil)) aNil)
  (mIf (dTst (dBin kNe (dSub (dVar 0) (dVar 2)) (dSub (dVar 1) (dVar 2))))
  (mRet (dBin kGt (dSub (dVar 0) (dVar 2)) (dSub (dVar 1) (dVar 2))))
  mNil))
  (mRet (dC (.bool false))))
def w__law_brighter : W := runF 3 m__law_brighter
/-- _law_brightest(gap_list); slots: 0 gap_list, 1 best, 2 by -/
def m__law_brightest : DS :=
  (mSeq (mSet 1 true (dC (.int 0)))
  (mSeq (mForR rg2 (.nm 2) [2] (aCons (dC (.int 1)) (aCons (dCall kLen (aCons (dVar 0) aNil)) aNil))
  (mIf (dTst (dCall (wCall 2 w__law_brighter) (aCons (dCall (wCall 1 w__law_sums) (aCons (dCall (wCall 2 w__law_rotated) (aCons (dVar 0) (aCons (dVar 2) aNil))) aNil)) (aCons (dCall (wCall 1 w__law_sums) (aCons (dCall (wCall 2 w__law_rotated) (aCons (dVar 0) (aCons (dVar 1) aNil))) aNil)) aNil))))
  (mSet 1 true (dVar 2))
  mNil))
  (mRet (dVar 1))))
def w__law_brightest : W := runF 3 m__law_brightest
/-- _law_asks_rotations(gap_list, turns); slots: 0 gap_list, 1 turns, 2 passed, 3 by, 4 found -/
def m__law_asks_rotations : DS :=
  (mSeq (mSet 2 true (dCall kList (aCons (dVar 0) aNil)))
  (mSeq (mForN (.nm 3) [3, 4] 1
  (mSeq (mSet 4 true (dCall (wCall 2 w_rotated_gaps) (aCons (dVar 2) (aCons (dVar 3) aNil))))
  (mSeq (mIf (dtOr (dTst (dBin kNe (dVar 2) (dVar 0))) (dtNot (dTst (dCall (wCall 2 w__law_same_numbers) (aCons (dVar 4) (aCons (dCall (wCall 2 w__law_rotated) (aCons (dVar 0) (aCons (dVar 3) aNil))) aNil))))))
  (mRet (dC (.bool false)))
  mNil)
  (mSeq (mIf (dtNot (dTst (dCall (wCall 2 w__law_same_numbers) (aCons (dCall (wCall 1 w_notes_of) (aCons (dVar 4) aNil)) (aCons (dCall (wCall 1 w__law_sums) (aCons (dVar 4) aNil)) aNil)))))
  (mRet (dC (.bool false)))
  mNil)
  (mSetI 4 (dC (.int 0)) (dC (.int 0)))))))
  (mRet (dAnd (dCall (wCall 2 w__law_same_numbers) (aCons (dCall (wCall 1 w_notes_of) (aCons (dVar 2) aNil)) (aCons (dCall (wCall 1 w__law_sums) (aCons (dVar 0) aNil)) aNil))) (dBin kEq (dVar 2) (dVar 0))))))
def w__law_asks_rotations : W := runF 5 m__law_asks_rotations
/-- _law_asks_modes(gap_list); slots: 0 gap_list, 1 count, 2 passed, 3 told, 4 found, 5 by -/
def m__law_asks_modes : DS :=
  (mSeq (mSet 1 true (dCall (wCall 1 w__law_count) (aCons (dVar 0) aNil)))
  (mSeq (mSet 2 true (dCall kList (aCons (dVar 0) aNil)))
  (mSeq (mSet 3 true (dCall (wCall 1 w_mode_count) (aCons (dVar 2) aNil)))
  (mSeq (mIf (dtOr (dtNot (dTst (dCall (wCall 1 w__law_is_number) (aCons (dVar 3) aNil)))) (dtOr (dTst (dBin kNe (dVar 3) (dVar 1))) (dTst (dBin kNe (dBin kMod (dCall kLen (aCons (dVar 0) aNil)) (dVar 3)) (dC (.int 0))))))
  (mRet (dC (.bool false)))
  mNil)
  (mSeq (mSet 4 true (dCall (wCall 1 w_modes) (aCons (dVar 2) aNil)))
  (mSeq (mIf (dtOr (dtNot (dTst (dUn (kIsi "list") (dVar 4)))) (dTst (dBin kNe (dCall kLen (aCons (dVar 4) aNil)) (dVar 1))))
  (mRet (dC (.bool false)))
  mNil)
  (mSeq (mForR rg1 (.nm 5) [5] (aCons (dVar 1) aNil)
  (mSeq (mIf (dtNot (dTst (dCall (wCall 2 w__law_same_numbers) (aCons (dSub (dVar 4) (dVar 5)) (aCons (dCall (wCall 2 w__law_rotated) (aCons (dVar 0) (aCons (dVar 5) aNil))) aNil)))))
  (mRet (dC (.bool false)))
  mNil)
  (mIf (dTst (dBin (kInDB false) (dSub (dVar 4) (dVar 5)) (dSlice (dVar 4) dNo (dSo (dVar 5)))))
  (mRet (dC (.bool false)))
  mNil)))
  (mSeq (mForR rg1 (.nm 5) [5] (aCons (dCall kLen (aCons (dVar 0) aNil)) aNil)
  (mIf (dTst (dBin (kInDB true) (dCall (wCall 2 w__law_rotated) (aCons (dVar 0) (aCons (dVar 5) aNil))) (dVar 4)))
  (mRet (dC (.bool false)))
  mNil))
  (mSeq (mAppI 4 (dC (.int 0)) (dC (.int 0)))
  (mSeq (mSet 3 true (dCall (wCall 1 w_brightest) (aCons (dVar 2) aNil)))
  (mSeq (mIf (dtOr (dtNot (dTst (dCall (wCall 1 w__law_is_number) (aCons (dVar 3) aNil)))) (dTst (dBin kNe (dVar 3) (dCall (wCall 1 w__law_brightest) (aCons (dVar 0) aNil)))))
  (mRet (dC (.bool false)))
  mNil)
  (mRet (dAnd (dCall (wCall 2 w__law_same_numbers) (aCons (dSub (dCall (wCall 1 w_modes) (aCons (dVar 2) aNil)) (dC (.int 0))) (aCons (dVar 0) aNil))) (dBin kEq (dVar 2) (dVar 0)))))))))))))))
def w__law_asks_modes : W := runF 6 m__law_asks_modes
/-- _law_asks_scale(scale, period); slots: 0 scale, 1 period, 2 passed, 3 distances, 4 at, 5 due, 6 found -/
def m__law_asks_scale : DS :=
  (mSeq (mSet 2 true (dCall kList (aCons (dVar 0) aNil)))
  (mSeq (mSet 3 true (dCall (wCall 2 w__law_gaps) (aCons (dVar 0) (aCons (dVar 1) aNil))))
  (mSeq (mIf (dtNot (dTst (dCall (wCall 2 w__law_same_numbers) (aCons (dCall (wCall 2 w_gaps) (aCons (dVar 2) (aCons (dVar 1) aNil))) (aCons (dVar 3) aNil)))))
  (mRet (dC (.bool false)))
  mNil)
  (mSeq (mIf (dtAnd (dTst (dBin kEq (dSub (dVar 0) (dC (.int 0))) (dC (.int 0)))) (dtNot (dTst (dCall (wCall 2 w__law_same_numbers) (aCons (dCall (wCall 1 w_notes_of) (aCons (dCall (wCall 2 w_gaps) (aCons (dVar 2) (aCons (dVar 1) aNil))) aNil)) (aCons (dVar 0) aNil))))))
  (mRet (dC (.bool false)))
  mNil)
  (mSeq (mForR rg1 (.nm 4) [4, 5, 6] (aCons (dCall kLen (aCons (dVar 0) aNil)) aNil)
  (mSeq (mSet 5 true (dCall (wCall 1 w__law_sums) (aCons (dCall (wCall 2 w__law_rotated) (aCons (dVar 3) (aCons (dVar 4) aNil))) aNil)))
  (mSeq (mSet 6 true (dCall (wCall 3 w_mode_from) (aCons (dVar 2) (aCons (dVar 1) (aCons (dSub (dVar 0) (dVar 4)) aNil)))))
  (mSeq (mIf (dtOr (dTst (dBin kNe (dVar 2) (dVar 0))) (dtNot (dTst (dCall (wCall 2 w__law_same_numbers) (aCons (dVar 6) (aCons (dVar 5) aNil))))))
  (mRet (dC (.bool false)))
  mNil)
  (mIf (dtNot (dTst (dCall (wCall 2 w__law_same_numbers) (aCons (dCall (wCall 1 w_notes_of) (aCons (dCall (wCall 2 w_rotated_gaps) (aCons (dCall (wCall 2 w_gaps) (aCons (dVar 2) (aCons (dVar 1) aNil))) (aCons (dVar 4) aNil))) aNil)) (aCons (dVar 6) aNil)))))
  (mRet (dC (.bool false)))
  mNil)))))
  (mRet (dCall (wCall 1 w__law_asks_modes) (aCons (dVar 3) aNil))))))))
def w__law_asks_scale : W := runF 7 m__law_asks_scale
/-- _law_second(script); slots: 0 script, 1 draws, 2 gap_list, 3 turn, 4 wide, 5 period, 6 generator, 7 order, 8 count, 9 scale, 10 k, 11 gap -/
def m__law_second : DS :=
  (mSeq (mSet 1 true (dCall (wCall 2 w__law_draws) (aCons (dVar 0) (aCons (dC (.int 60)) aNil))))
  (mSeq (mSet 2 true (dLcR rg1 (.nm 10) [10] dtYes (dBin kAdd (dC (.int 1)) (dBin kMod (dSub (dVar 1) (dBin kAdd (dC (.int 20)) (dVar 10))) (dC (.int 5)))) (aCons (dBin kAdd (dC (.int 1)) (dBin kMod (dSub (dVar 1) (dC (.int 10))) (dC (.int 12)))) aNil)))
  (mSeq (mIfJ (dTst (dBin kEq (dBin kMod (dSub (dVar 1) (dC (.int 11))) (dC (.int 2))) (dC (.int 0))))
  (mSeq (mSet 2 false (dSlice (dVar 2) dNo (dSo (dBin kAdd (dC (.int 1)) (dBin kMod (dSub (dVar 1) (dC (.int 10))) (dC (.int 3)))))))
  (mForR rg1 (.nm 3) [3] (aCons (dBin kAdd (dBin kMod (dSub (dVar 1) (dC (.int 12))) (dC (.int 3))) (dC (.int 1))) aNil)
  (mSet 2 true (dBin kAdd (dVar 2) (dSlice (dVar 2) dNo (dSo (dBin kAdd (dC (.int 1)) (dBin kMod (dSub (dVar 1) (dC (.int 10))) (dC (.int 3))))))))))
  mNil)
  (mSeq (mIfJ (dTst (dBin kEq (dBin kMod (dBin kDiv (dSub (dVar 1) (dC (.int 11))) (dC (.int 2))) (dC (.int 8))) (dC (.int 0))))
  (mSet 2 true (dLcV (.nm 11) [11] dtYes (dBin kMul (dVar 11) (dBin kSub (dBin kDiv (dBin kPow (dC (.int 10)) (dC (.int 9))) (dC (.int 5))) (dBin kMod (dSub (dVar 1) (dC (.int 13))) (dC (.int 2))))) (dVar 2)))
  mNil)
  (mSeq (mIf (dtNot (dTst (dCall (wCall 2 w__law_asks_rotations) (aCons (dVar 2) (aCons (dLst (aCons (dC (.int 0)) (aCons (dC (.int 1)) (aCons (dUn kNeg (dC (.int 1))) (aCons (dBin kSub (dBin kMod (dSub (dVar 1) (dC (.int 14))) (dC (.int 61))) (dC (.int 30))) (aCons (dCall kLen (aCons (dVar 2) aNil)) (aCons (dBin kSub (dBin kMul (dSub (dVar 1) (dC (.int 15))) (dBin kPow (dC (.int 10)) (dC (.int 9)))) (dSub (dVar 1) (dC (.int 16)))) aNil))))))) aNil)))))
  (mRet (dC (.bool false)))
  mNil)
  (mSeq (mIf (dtNot (dTst (dCall (wCall 1 w__law_asks_modes) (aCons (dVar 2) aNil))))
  (mRet (dC (.bool false)))
  mNil)
  (mSeq (mIfJ (dTst (dBin kEq (dBin kMod (dSub (dVar 1) (dC (.int 51))) (dC (.int 8))) (dC (.int 0))))
  (mSeq (mSet 4 true (dLcR rg1 (.nm 10) [10] dtYes (dBin kAdd (dC (.int 1)) (dBin kMod (dBin kDiv (dSub (dVar 1) (dBin kAdd (dC (.int 45)) (dBin kMod (dVar 10) (dC (.int 6))))) (dBin kAdd (dC (.int 1)) (dVar 10))) (dC (.int 3)))) (aCons (dBin kAdd (dC (.int 21)) (dBin kMod (dSub (dVar 1) (dC (.int 52))) (dC (.int 40)))) aNil)))
  (mSeq (mIfJ (dTst (dBin kEq (dBin kMod (dSub (dVar 1) (dC (.int 53))) (dC (.int 2))) (dC (.int 0))))
  (mSet 4 true (dBin kAdd (dSlice (dVar 4) dNo (dSo (dC (.int 30)))) (dSlice (dVar 4) dNo (dSo (dC (.int 30))))))
  mNil)
  (mIf (dtNot (dTst (dCall (wCall 1 w__law_asks_modes) (aCons (dVar 4) aNil))))
  (mRet (dC (.bool false)))
  mNil)))
  mNil)
  (mSeq (mAsg (.tp [5, 6, 7, 8]) true (dCall (wCall 1 w__law_chain_world) (aCons (dVar 1) aNil)))
  (mSeq (mIf (dtNot (dTst (dCall (wCall 2 w__law_asks_scale) (aCons (dCall (wCall 3 w__law_chain) (aCons (dVar 5) (aCons (dVar 6) (aCons (dCall kMin (aCons (dVar 8) (aCons (dBin kAdd (dC (.int 1)) (dBin kMod (dSub (dVar 1) (dC (.int 17))) (dC (.int 20)))) aNil))) aNil)))) (aCons (dVar 5) aNil)))))
  (mRet (dC (.bool false)))
  mNil)
  (mSeq (mSet 9 true (dCall (wCall 1 w__law_unlike) (aCons (dLcR rg1 (.nm 10) [10] dtYes (dBin kMod (dSub (dVar 1) (dBin kAdd (dC (.int 33)) (dVar 10))) (dVar 5)) (aCons (dBin kAdd (dC (.int 1)) (dBin kMod (dSub (dVar 1) (dC (.int 18))) (dC (.int 12)))) aNil)) aNil)))
  (mRet (dCall (wCall 2 w__law_asks_scale) (aCons (dVar 9) (aCons (dVar 5) aNil))))))))))))))
def w__law_second : W := runF 12 m__law_second
/-- law(script); slots: 0 script -/
def m_law : DS :=
  (mRet (dAnd (dCall (wCall 1 w__law_first) (aCons (dVar 0) aNil)) (dCall (wCall 1 w__law_second) (aCons (dVar 0) aNil))))
def w_law : W := runF 1 m_law
end KM
namespace KM
open PySem PySem.Spec PyProof.Rows L2 KT
variable [WT]
local macro_rules | `(tactic| walk_at "kw") => `(tactic| (conv => whnf))
local macro_rules | `(tactic| walk_at "ks") => `(tactic| (first | (with_reducible rfl) | (with_reducible exact mod_pos (by first | decide | omega)) | (with_reducible exact div_small (by first | decide | omega) (by first | decide | omega)) | (with_reducible exact mod_pos (by rw [List.length_map]; omega)) | (with_reducible exact mul_r (by decide)) | (with_reducible exact mul_l (by decide)) | (with_reducible exact pow_ok (by decide) (by decide) (by decide)) | (with_reducible exact imm_ints _) | (with_reducible exact immL_map imm_dDm _) | decide | (with_reducible assumption) | omega | ((with_reducible apply And.intro) <;> omega) | (simp only [List.length_map, List.length_append, List.length_cons, List.length_nil]; omega) | (exact ⟨rfl, rfl, by (simp only [List.length_map, List.length_append, List.length_cons, List.length_nil]); omega⟩) | (exact ⟨rfl, rfl, by first | assumption | omega⟩) | (exact rfl) | (refine immL_map (fun _ => ?_) _; rfl) | (exact ⟨by simp [mkV, nv, imm, immL, ndB], by simp [mkV, nv, imm, immL], by first | assumption | omega⟩)))
local macro_rules | `(tactic| walk_at "k") => `(tactic| ((conv => whnf); repeat ((first | ((with_reducible apply And.intro); (· walk_at "ks")) | (with_reducible refine ⟨_, atI_c0, ?_⟩) | (with_reducible refine ⟨_, atI_c1, ?_⟩) | (with_reducible refine ⟨_, atI_c2, ?_⟩) | (with_reducible refine ⟨_, atI_c3, ?_⟩) | (with_reducible refine ⟨_, atI_c4, ?_⟩) | (with_reducible refine ⟨_, atI_c5, ?_⟩) | (with_reducible refine ⟨_, atI_c6, ?_⟩) | (refine ⟨_, atI_at (by first | decide | omega | (rw [List.length_map]; omega)) (by first | decide | omega | (rw [List.length_map]; omega)), ?_⟩) | (refine demT (imm_dT _) ?_) | (with_reducible rw [nv_of (dDm _) (imm_dDm _)]) | (with_reducible rw [nv_of (oD _) (imm_oD _)]) | (refine ⟨_, ⟨rfl, rfl, ixN_nat (by first | decide | omega | (rw [List.length_map]; omega)) (by first | (rw [List.length_map]; omega) | (rw [List.length_set, List.length_map]; omega))⟩, ?_⟩)); (conv => whnf))))
local macro_rules | `(tactic| walk_at "im") => `(tactic| first | rfl | assumption | exact immL_map imm_dDm _ | exact imm_ints _ | (simp [immL, imm, nv, mkV, immT]; done))
local macro_rules | `(tactic| walk_at "ln") => `(tactic| first | omega | (simp only [List.length_map, List.length_append, List.length_cons, List.length_nil, List.length_take, List.length_drop, List.length_range]; omega))
/-- the names of _law_draws: found, cell, number, k, mixed, base -/
def dS (ns : List Int) (many : Int) (d : D) (cell number k mixed base : Option Slot) : En := [some ⟨scr ns, false, true⟩, some ⟨.int many, false, true⟩, some ⟨d, true, false⟩, cell, number, k, mixed, base]
theorem draws_ok (ns : List Int) (h63 : ns.length ≤ 63) (many : Nat) (hm : many ≤ 1000) : w__law_draws [scr ns, .int many] fun d => ∃ xs : List Int, d = dI xs ∧ xs.length = many ∧ Drawn xs := by
  have line := line_big
  walk_at "k"
  refine ⟨ns, rfl, ?_⟩
  walk_at "k"
  rw [show KT.cutD (List.map PyData.int ns) none (some 63) = (ns.take 63).map PyData.int from cutD_to _ ns 63]
  refine forV_inv (fun p δ => ∃ xs, δ = dS ns many (dI xs) none none none none none ∧ Drawn xs ∧ xs.length ≤ 60 * p.length) ⟨[], rfl, fun _ h => (nomatch h), Nat.zero_le _⟩ (fun p x q e δ ⟨xs, hδ, hd, hl⟩ P hP => ?_) (fun δ ⟨xs, hδ, hd, hl⟩ => ?_)
  · subst hδ
    have hp : p.length ≤ 62 := by
      have := congrArg List.length e
      simp only [List.length_take, List.length_append, List.length_cons] at this
      omega
    walk_at "k"
    refine selD (fun h => ?_) (fun h => ?_)
    · walk_at "k"
      refine forR_inv (fun k δ => ∃ d ys n, δ = dS ns many d (sI x) (sI n) none none none ∧ d = dI ys ∧ Drawn ys ∧ ys.length ≤ xs.length + k) ⟨_, xs, _, rfl, rfl, hd, Nat.le_refl _⟩ (fun k hk δ ⟨d, ys, n, hδ, hd2, hy, hyl⟩ R hR => ?_) (fun δ ⟨d, ys, n, hδ, hd2, hy, hyl⟩ => ?_)
      · subst hδ hd2
        have hk : k < 60 := hk
        walk_at "k"
        refine selD (fun h2 => ?_) (fun h2 => ?_)
        · walk_at "k"
          refine hR _ ⟨_, ys ++ [n % 1000003], n / 1000003, rfl, dI_app _ _, hy.app _, by simp; omega⟩
        · exact hR _ ⟨_, ys, n, rfl, rfl, hy, by omega⟩
      · subst hδ hd2
        exact hP _ ⟨ys, rfl, hy, by
          have hyl : ys.length ≤ xs.length + 60 := hyl
          simp; omega⟩
    · walk_at "k"
      refine forR_inv (fun k δ => ∃ d ys n, δ = dS ns many d (sI x) (sI x.natAbs) none (sI n) none ∧ d = dI ys ∧ Drawn ys ∧ ys.length ≤ xs.length + k) ⟨_, xs, _, rfl, rfl, hd, Nat.le_refl _⟩ (fun k hk δ ⟨d, ys, n, hδ, hd2, hy, hyl⟩ R hR => ?_) (fun δ ⟨d, ys, n, hδ, hd2, hy, hyl⟩ => ?_)
      · subst hδ hd2
        have hk : k < 4 := hk
        walk_at "k"
        exact hR _ ⟨_, ys ++ [_ % 1000003], _, rfl, dI_app _ _, hy.app _, by simp; omega⟩
      · subst hδ hd2
        exact hP _ ⟨ys, rfl, hy, by
          have hyl : ys.length ≤ xs.length + 4 := hyl
          simp; omega⟩
  · subst hδ
    have hl2 : xs.length ≤ 3780 := by
      rw [List.length_take] at hl
      omega
    walk_at "k"
    refine forR_inv (fun k δ => ∃ d ys, δ = dS ns many d none none none none none ∧ d = dI ys ∧ Drawn ys ∧ ys.length ≤ xs.length + k ∧ (k ≤ ys.length ∨ many ≤ ys.length)) ⟨_, xs, rfl, rfl, hd, Nat.le_refl _, .inl (Nat.zero_le _)⟩ (fun k hk δ ⟨d, ys, hδ, hd2, hy, hyl, hyk⟩ R hR => ?_) (fun δ ⟨d, ys, hδ, hd2, hy, hyl, hyk⟩ => ?_)
    · subst hδ hd2
      have hk : k < many := by simpa using hk
      walk_at "k"
      rw [List.length_map]
      refine selD (fun h => ?_) (fun h => ?_)
      · walk_at "k"
        rw [List.length_map]
        refine selD (fun h2 => ?_) (fun h2 => ?_)
        · have hm0 : 0 ≤ (0 + (k : Int)) % (ys.length : Int) := Int.emod_nonneg _ (by omega)
          have hm1 : (0 + (k : Int)) % (ys.length : Int) < (ys.length : Int) := Int.emod_lt_of_pos _ (by omega)
          walk_at "k"
          exact hR _ ⟨_, ys ++ [_ % 1000003], rfl, dI_app _ _, hy.app _, by simp; omega, by simp; omega⟩
        · walk_at "k"
          exact hR _ ⟨_, ys ++ [_ % 1000003], rfl, dI_app _ _, hy.app _, by simp; omega, by simp; omega⟩
      · exact hR _ ⟨_, ys, rfl, rfl, hy, by omega, .inr (by omega)⟩
    · subst hδ hd2
      have hyk : many ≤ ys.length := by
        have : (many : Int).toNat ≤ ys.length ∨ many ≤ ys.length := hyk
        omega
      walk_at "k"
      rw [show KT.cutD (List.map PyData.int ys) none (some (many : Int)) = (ys.take many).map PyData.int from cutD_to _ ys many]
      unfold mkL
      rw [imm_ints]
      exact ⟨rfl, ys.take many, rfl, by rw [List.length_take]; omega, fun x hx => hy x (List.mem_of_mem_take hx)⟩
/-! sorted copies, chains of residues (plain) -/
def ins1 (x : Int) : List Int → List Int
  | [] => [x]
  | y :: ys => if x ≤ y then x :: y :: ys else y :: ins1 x ys
def srt : List Int → List Int
  | [] => []
  | x :: xs => ins1 x (srt xs)
theorem ins1_perm (x : Int) : ∀ ys : List Int, (ins1 x ys).Perm (x :: ys)
  | [] => .refl _
  | y :: ys => by
    unfold ins1
    split
    · exact .refl _
    · exact ((ins1_perm x ys).cons y).trans (.swap x y ys)
theorem srt_perm : ∀ xs : List Int, (srt xs).Perm xs
  | [] => .refl _
  | x :: xs => (ins1_perm x _).trans ((srt_perm xs).cons x)
theorem ins1_srt (x : Int) : ∀ ys : List Int, ys.Pairwise (· ≤ ·) → (ins1 x ys).Pairwise (· ≤ ·)
  | [], _ => by simp [ins1]
  | y :: ys, h => by
    have h' := List.pairwise_cons.mp h
    unfold ins1
    split
    · rename_i c
      refine List.pairwise_cons.mpr ⟨fun z hz => ?_, h⟩
      rcases List.mem_cons.mp hz with rfl | hz
      · exact c
      · exact Int.le_trans c (h'.1 z hz)
    · rename_i c
      refine List.pairwise_cons.mpr ⟨fun z hz => ?_, ins1_srt x ys h'.2⟩
      rcases List.mem_cons.mp ((ins1_perm x ys).mem_iff.mp hz) with rfl | hz
      · omega
      · exact h'.1 z hz
theorem srt_srt : ∀ xs : List Int, (srt xs).Pairwise (· ≤ ·)
  | [] => .nil
  | x :: xs => ins1_srt x _ (srt_srt xs)
theorem sorted_uniq : ∀ {xs ys : List Int}, xs.Perm ys → xs.Pairwise (· ≤ ·) → ys.Pairwise (· ≤ ·) → xs = ys
  | [], ys, p, _, _ => (List.nil_perm.mp p).symm
  | x :: xs, [], p, _, _ => absurd (List.perm_nil.mp p) (by simp)
  | x :: xs, y :: ys, p, h1, h2 => by
    have a := List.pairwise_cons.mp h1
    have b := List.pairwise_cons.mp h2
    have e : x = y := by
      have m1 : x ∈ y :: ys := p.mem_iff.mp List.mem_cons_self
      have m2 : y ∈ x :: xs := p.mem_iff.mpr List.mem_cons_self
      have l1 : y ≤ x := by
        rcases List.mem_cons.mp m1 with e | h
        · omega
        · exact b.1 _ h
      have l2 : x ≤ y := by
        rcases List.mem_cons.mp m2 with e | h
        · omega
        · exact a.1 _ h
      omega
    subst e
    rw [sorted_uniq (List.Perm.cons_inv p) a.2 b.2]
theorem srt_uniq {xs ms : List Int} (p : ms.Perm xs) (h : ms.Pairwise (· ≤ ·)) : ms = srt xs := sorted_uniq (p.trans (srt_perm xs).symm) h (srt_srt xs)
theorem srt_congr {xs ys : List Int} (p : xs.Perm ys) : srt xs = srt ys := sorted_uniq ((srt_perm xs).trans (p.trans (srt_perm ys).symm)) (srt_srt _) (srt_srt _)
theorem srt_len (xs : List Int) : (srt xs).length = xs.length := (srt_perm xs).length_eq
theorem mem_srt {xs : List Int} {z : Int} : z ∈ srt xs ↔ z ∈ xs := (srt_perm xs).mem_iff
theorem ksrt {xs : List Int} {Q : List Int → Prop} (q : Q (srt xs)) : ∃ ns : List Int, xs.map PyData.int = ns.map PyData.int ∧ ∀ ms : List Int, ms.Perm ns → ms.Pairwise (· ≤ ·) → Q ms :=
  ⟨xs, rfl, fun ms p h => by rw [srt_uniq p h]; exact q⟩
/-- lists without equal items, sorted, with the same members -/
theorem mem_uniq {xs ys : List Int} (h1 : xs.Pairwise (· ≤ ·)) (n1 : xs.Nodup) (h2 : ys.Pairwise (· ≤ ·)) (n2 : ys.Nodup) (h : ∀ z, z ∈ xs ↔ z ∈ ys) : xs = ys := by
  refine sorted_uniq ?_ h1 h2
  rw [List.perm_iff_count]
  intro a
  by_cases m : a ∈ xs
  · rw [n1.count, n2.count, if_pos m, if_pos ((h a).mp m)]
  · rw [n1.count, n2.count, if_neg m, if_neg (fun z => m ((h a).mpr z))]
theorem srt_head {xs : List Int} (h0 : (0 : Int) ∈ xs) (hp : ∀ x ∈ xs, 0 ≤ x) : ∃ ys, srt xs = 0 :: ys := by
  have m : (0 : Int) ∈ srt xs := mem_srt.mpr h0
  cases e : srt xs with
  | nil => rw [e] at m; simp at m
  | cons y ys =>
    have s := srt_srt xs
    rw [e] at m s
    have a := hp y (mem_srt.mp (by rw [e]; exact List.mem_cons_self))
    rcases List.mem_cons.mp m with rfl | h
    · exact ⟨ys, rfl⟩
    · have := (List.pairwise_cons.mp s).1 0 h
      rw [show y = 0 by omega]
      exact ⟨ys, rfl⟩
/-- the residues of the multiples of g come again every n -/
structure Ch (p g n : Int) : Prop where
  pp : 0 < p
  pn : 0 < n
  ord : ∀ k : Int, (k * g) % p = 0 ↔ n ∣ k
abbrev rs (p g k : Int) : Int := (k * g) % p
theorem Ch.eq {p g n : Int} (C : Ch p g n) (a b : Int) : rs p g a = rs p g b ↔ n ∣ a - b := by
  rw [← C.ord, Int.sub_mul]
  exact Int.emod_eq_emod_iff_emod_sub_eq_zero
theorem rs_sub (p g a b : Int) : (rs p g a + -(rs p g b)) % p = rs p g (a - b) := by
  show ((a * g) % p + -((b * g) % p)) % p = ((a - b) * g) % p
  rw [← Int.sub_eq_add_neg, Int.sub_mul, ← Int.sub_emod]
theorem rs_add (p g a b : Int) : (rs p g a + rs p g b) % p = rs p g (a + b) := by
  show ((a * g) % p + ((b * g) % p)) % p = ((a + b) * g) % p
  rw [Int.add_mul, ← Int.add_emod]
theorem rs_lt {p g n : Int} (C : Ch p g n) (a : Int) : 0 ≤ rs p g a ∧ rs p g a < p := ⟨Int.emod_nonneg _ (by have := C.pp; omega), Int.emod_lt_of_pos _ C.pp⟩
/-- the chain begun a steps early -/
def rl (p g : Int) (a : Int) (c : Nat) : List Int := (List.range c).map fun (k : Nat) => rs p g ((k : Int) - a)
def md (p g : Int) (a : Int) (c : Nat) : List Int := srt (rl p g a c)
theorem rl_len (p g a : Int) (c : Nat) : (rl p g a c).length = c := by simp [rl]
theorem md_len (p g a : Int) (c : Nat) : (md p g a c).length = c := by rw [md, srt_len, rl_len]
theorem mem_md {p g a : Int} {c : Nat} {z : Int} : z ∈ md p g a c ↔ ∃ k : Nat, k < c ∧ z = rs p g ((k : Int) - a) := by
  rw [md, mem_srt, rl, List.mem_map]
  constructor
  · rintro ⟨k, hk, rfl⟩
    exact ⟨k, List.mem_range.mp hk, rfl⟩
  · rintro ⟨k, hk, rfl⟩
    exact ⟨k, List.mem_range.mpr hk, rfl⟩
theorem dvd_small {n v : Int} (hn : 0 < n) (h : n ∣ v) (h1 : -n < v) (h2 : v < n) : v = 0 := by
  obtain ⟨t, rfl⟩ := h
  rcases Int.lt_trichotomy t 0 with h | h | h
  · have := Int.mul_le_mul_of_nonneg_left (show t ≤ -1 by omega) (Int.le_of_lt hn)
    omega
  · subst h; simp
  · have := Int.mul_le_mul_of_nonneg_left (show 1 ≤ t by omega) (Int.le_of_lt hn)
    omega
theorem rl_nodup {p g n : Int} (C : Ch p g n) (a : Int) {c : Nat} (hc : (c : Int) ≤ n) : (rl p g a c).Nodup := by
  unfold rl
  rw [List.nodup_iff_pairwise_ne, List.pairwise_map]
  refine List.Pairwise.imp_of_mem ?_ (List.nodup_iff_pairwise_ne.mp List.nodup_range)
  intro i j hi hj hij e
  rw [C.eq] at e
  have i1 := List.mem_range.mp hi
  have j1 := List.mem_range.mp hj
  have := dvd_small C.pn e (by omega) (by omega)
  omega
theorem md_nodup {p g n : Int} (C : Ch p g n) (a : Int) {c : Nat} (hc : (c : Int) ≤ n) : (md p g a c).Nodup := (srt_perm _).nodup_iff.mpr (rl_nodup C a hc)
theorem md_head {p g n : Int} (C : Ch p g n) {a : Int} {c : Nat} (h0 : 0 ≤ a) (h1 : a < c) : ∃ ys, md p g a c = 0 :: ys := by
  refine srt_head ?_ fun x hx => ?_
  · rw [rl, List.mem_map]
    refine ⟨a.toNat, List.mem_range.mpr (by omega), ?_⟩
    rw [show (a.toNat : Int) - a = 0 by omega]
    simp [rs]
  · rw [rl, List.mem_map] at hx
    obtain ⟨k, _, rfl⟩ := hx
    exact (rs_lt C _).1
/-- the k-th note of one mode stands in the other one -/
theorem in_md {p g n : Int} (C : Ch p g n) {a b : Int} {c k : Nat} (hk : k < c) (hc : (c : Int) ≤ n) (h0 : 0 ≤ b - a) (h1 : b - a < c) : rs p g ((k : Int) - a) ∈ md p g b c ↔ (k : Int) + (b - a) < c ∨ n ≤ k + (b - a) := by
  rw [mem_md]
  constructor
  · rintro ⟨i, hi, e⟩
    rw [C.eq] at e
    rw [show (k : Int) - a - (i - b) = k + (b - a) - i by omega] at e
    by_cases z : (k : Int) + (b - a) < n
    · have := dvd_small C.pn e (by omega) (by omega)
      omega
    · right; omega
  · rintro (h | h)
    · refine ⟨(k + (b - a)).toNat, by omega, ?_⟩
      rw [show (((k : Int) + (b - a)).toNat : Int) - b = k - a by omega]
    · refine ⟨(k + (b - a) - n).toNat, by omega, ?_⟩
      rw [C.eq]
      exact ⟨1, by omega⟩
theorem in_md2 {p g n : Int} (C : Ch p g n) {a b : Int} {c k : Nat} (hk : k < c) (hc : (c : Int) ≤ n) (h0 : 0 ≤ b - a) (h1 : b - a < c) : rs p g ((k : Int) - b) ∈ md p g a c ↔ b - a ≤ (k : Int) ∨ (k : Int) + n < c + (b - a) := by
  rw [mem_md]
  constructor
  · rintro ⟨i, hi, e⟩
    rw [C.eq] at e
    rw [show (k : Int) - b - (i - a) = k - (b - a) - i by omega] at e
    by_cases z : (b - a : Int) ≤ k
    · left; exact z
    · right
      by_cases y : (k : Int) - (b - a) - i > -n
      · have := dvd_small C.pn e (by omega) (by omega)
        omega
      · omega
  · rintro (h | h)
    · refine ⟨(k - (b - a)).toNat, by omega, ?_⟩
      rw [show (((k : Int) - (b - a)).toNat : Int) - a = k - b by omega]
    · refine ⟨(k - (b - a) + n).toNat, by omega, ?_⟩
      rw [C.eq]
      exact ⟨-1, by omega⟩
/-! filters -/
theorem rl_filter {p g a : Int} {c : Nat} (q : Int → Bool) : (rl p g a c).filter q = ((List.range c).filter fun (k : Nat) => q (rs p g ((k : Int) - a))).map fun (k : Nat) => rs p g ((k : Int) - a) := by
  rw [rl, List.filter_map]; rfl
theorem filter_rg_one {P : Nat → Bool} {c j : Nat} (hj : j < c) (h : ∀ k, k < c → (P k = true ↔ k = j)) : (List.range c).filter P = [j] := by
  have e : (List.range c).filter P = (List.range c).filter (fun k => k == j) := by
    refine List.filter_congr fun k hk => ?_
    have := h k (List.mem_range.mp hk)
    by_cases z : k = j
    · rw [this.mpr z, z]; simp
    · have : P k = false := by
        cases hP : P k
        · rfl
        · exact absurd (this.mp hP) z
      rw [this]; simp [z]
  rw [e, List.filter_beq, (List.nodup_range).count, if_pos (List.mem_range.mpr hj)]
  rfl
theorem md_filter_one {p g a : Int} {c j : Nat} {q : Int → Bool} (hj : j < c) (h : ∀ k, k < c → (q (rs p g ((k : Int) - a)) = true ↔ k = j)) : (md p g a c).filter q = [rs p g ((j : Int) - a)] := by
  have e : ((rl p g a c).filter q) = [rs p g ((j : Int) - a)] := by
    rw [rl_filter, filter_rg_one hj h]; rfl
  have pm : ((md p g a c).filter q).Perm ((rl p g a c).filter q) := (srt_perm _).filter q
  rw [e] at pm
  exact List.perm_singleton.mp pm
theorem md_filter_len {p g a : Int} {c : Nat} {q : Int → Bool} {P : Nat → Bool} (h : ∀ k, k < c → q (rs p g ((k : Int) - a)) = P k) : ((md p g a c).filter q).length = ((List.range c).filter P).length := by
  have pm : ((md p g a c).filter q).Perm ((rl p g a c).filter q) := (srt_perm _).filter q
  rw [pm.length_eq, rl_filter, List.length_map]
  rw [List.filter_congr fun k hk => h k (List.mem_range.mp hk)]
theorem cnt_rg (A B : Nat) (hAB : A ≤ B) : ∀ c : Nat, ((List.range c).filter fun k => decide (k < A ∨ B ≤ k)).length = min c A + (c - B)
  | 0 => by simp
  | c + 1 => by
    rw [List.range_succ, List.filter_append, List.length_append, cnt_rg A B hAB c]
    by_cases h : c < A ∨ B ≤ c
    · simp [h]; omega
    · simp [h]; omega
/-- the notes that two modes share -/
theorem shared_len {p g n : Int} (C : Ch p g n) {a b : Int} {c : Nat} (hc : (c : Int) ≤ n) (h0 : 0 ≤ b - a) (h1 : b - a < c) : ((((md p g a c).filter fun x => decide (x ∈ md p g b c)).length : Nat) : Int) = c - (b - a) + max 0 (b - a + c - n) := by
  rw [md_filter_len (P := fun k => decide (k < (c - (b - a)).toNat ∨ (n - (b - a)).toNat ≤ k)) (fun k hk => ?_), cnt_rg _ _ (by omega)]
  · omega
  · refine decide_eq_decide.mpr ((in_md C hk hc h0 h1).trans ?_)
    omega
theorem filter_all_eq {xs ys : List Int} (h : ∀ x ∈ xs, x ∈ ys) : xs.filter (fun x => decide (x ∈ ys)) = xs := by
  rw [List.filter_eq_self]
  exact fun x hx => decide_eq_true (h x hx)
theorem full_in {p g n : Int} (C : Ch p g n) {a b : Int} {c : Nat} (hc : (c : Int) = n) : ∀ x ∈ md p g a c, x ∈ md p g b c := fun x hx => by
  obtain ⟨k, hk, rfl⟩ := mem_md.mp hx
  rw [mem_md]
  refine ⟨(((k : Int) - a + b) % n).toNat, ?_, ?_⟩
  · have l := Int.emod_lt_of_pos ((k : Int) - a + b) C.pn
    have := Int.emod_nonneg ((k : Int) - a + b) (by have := C.pn; omega : n ≠ 0)
    omega
  · rw [C.eq]
    have := Int.emod_nonneg ((k : Int) - a + b) (by have := C.pn; omega : n ≠ 0)
    rw [show ((((k : Int) - a + b) % n).toNat : Int) = ((k : Int) - a + b) % n by omega]
    have e := Int.emod_def ((k : Int) - a + b) n
    exact ⟨((k : Int) - a + b) / n, by rw [e]; omega⟩
theorem full_eq {p g n : Int} (C : Ch p g n) {a b : Int} {c : Nat} (hc : (c : Int) = n) : md p g a c = md p g b c :=
  mem_uniq (srt_srt _) (md_nodup C a (by omega)) (srt_srt _) (md_nodup C b (by omega)) fun z => ⟨full_in C hc z, full_in C hc z⟩
/-- raising all notes: the mode of the a-th link -/
theorem md_shift (p g a : Int) (c : Nat) : srt ((md p g 0 c).map fun x => (x + -(rs p g a)) % p) = md p g a c := by
  refine (srt_congr ((srt_perm (rl p g 0 c)).map _)).trans ?_
  unfold md
  congr 1
  unfold rl
  rw [List.map_map]
  refine List.map_congr_left fun k _ => ?_
  show (rs p g ((k : Int) - 0) + -(rs p g a)) % p = rs p g (k - a)
  rw [rs_sub]
  congr 2
theorem mod_half {x y : Int} (hy : 0 < y) (h : y < x) : 2 * (x % y) ≤ x := by
  have a := Int.emod_lt_of_pos x hy
  have b := Int.emod_nonneg x (by omega : y ≠ 0)
  have e := Int.mul_ediv_add_emod x y
  have q1 : 1 ≤ x / y := by
    refine (Int.le_ediv_iff_mul_le hy).mpr ?_
    omega
  have := Int.mul_le_mul_of_nonneg_left q1 (Int.le_of_lt hy)
  omega
/-- the greatest common divisor by eighty steps -/
theorem lgcd_ok (a b : Int) (ha : 0 < a) (hab : a * b.natAbs < 2 ^ 62) : w__law_gcd [.int a, .int b] fun d => ∃ c A B u v : Int, d = .int c ∧ 0 < c ∧ a = A * c ∧ b = B * c ∧ c = u * a + v * b := by
  walk_at "k"
  have ea : ((a.natAbs : Nat) : Int) = a := by omega
  rw [ea]
  have sb : ∃ s : Int, (b.natAbs : Int) = s * b := by
    rcases Int.le_total 0 b with h | h
    · exact ⟨1, by omega⟩
    · exact ⟨-1, by omega⟩
  obtain ⟨s, es⟩ := sb
  refine forR_st [0, 1] (fun (q : Int × Int) => [sI q.1, sI q.2]) (fun k q => (0 < q.1 ∧ 0 ≤ q.2 ∧ ((k = 0 ∧ q.1 = a ∧ q.2 = b.natAbs) ∨ (1 ≤ k ∧ (q.2 = 0 ∨ (q.2 < q.1 ∧ q.1 * q.2 * 2 ^ k < 2 ^ 63))))) ∧ (∃ u v u' v' : Int, q.1 = u * a + v * b ∧ q.2 = u' * a + v' * b) ∧ ∃ r t r' t' : Int, a = r * q.1 + t * q.2 ∧ b = r' * q.1 + t' * q.2) (a, (b.natAbs : Int)) ⟨⟨ha, by omega, .inl ⟨rfl, rfl, rfl⟩⟩, ⟨1, 0, 0, s, by simp, by simpa using es⟩, ?_⟩ rfl (fun k hk q hq R hR => ?_) (fun q hq => ?_)
  · rcases Int.le_total 0 b with h | h
    · exact ⟨1, 0, 0, 1, by simp, by simp; omega⟩
    · exact ⟨1, 0, 0, -1, by simp, by simp; omega⟩
  · have hk : k < 80 := hk
    obtain ⟨x, y⟩ := q
    obtain ⟨⟨hx, hy, hc⟩, ⟨u, v, u', v', e1, e2⟩, ⟨r, t, r', t', e3, e4⟩⟩ := hq
    dsimp only at hx hy hc e1 e2 e3 e4 ⊢
    walk_at "k"
    refine selD (fun h => ?_) (fun h => ?_)
    · walk_at "k"
      have m1 := Int.emod_nonneg x (by omega : y ≠ 0)
      have m2 := Int.emod_lt_of_pos x h
      refine And.intro ⟨rfl, rfl⟩ (hR (y, x % y) _ ⟨⟨h, m1, .inr ⟨by omega, .inr ⟨m2, ?_⟩⟩⟩, ?_, ?_⟩ rfl)
      · rcases hc with ⟨k0, xa, yb⟩ | ⟨k1, h0 | ⟨h1, h2⟩⟩
        · subst k0
          dsimp only
          have mx : x % y ≤ x := by
            by_cases c : x < y
            · rw [Int.emod_eq_of_lt (by omega) c]; omega
            · omega
          have m0 := Int.mul_le_mul_of_nonneg_left mx hy
          have e0 : (2 : Int) ^ (0 + 1) = 2 := rfl
          rw [e0]
          have hab' : y * x < 2 ^ 62 := by rw [Int.mul_comm, xa, yb]; exact hab
          omega
        · omega
        · dsimp only
          have hh := mod_half h h1
          have p1 : y * (2 * (x % y)) ≤ y * x := Int.mul_le_mul_of_nonneg_left hh hy
          have p2 : y * (x % y) * 2 ^ (k + 1) ≤ x * y * 2 ^ k := by
            rw [Int.pow_succ, show y * (x % y) * (2 ^ k * 2) = y * (2 * (x % y)) * 2 ^ k by grind, Int.mul_comm x y]
            exact Int.mul_le_mul_of_nonneg_right p1 (Int.le_of_lt (Int.pow_pos (by decide)))
          omega
      · have fd := Int.emod_def x y
        generalize x % y = m at *
        generalize x / y = l at *
        exact ⟨u', v', u - l * u', v - l * v', e2, by grind⟩
      · have fd := Int.emod_def x y
        generalize x % y = m at *
        generalize x / y = l at *
        exact ⟨r * l + t, r, r' * l + t', r', by grind, by grind⟩
    · have y0 : y = 0 := by omega
      subst y0
      refine hR (x, 0) _ ⟨⟨hx, Int.le_refl _, .inr ⟨by omega, .inl rfl⟩⟩, ⟨u, v, u', v', e1, e2⟩, ⟨r, t, r', t', e3, e4⟩⟩ rfl
  · obtain ⟨x, y⟩ := q
    obtain ⟨⟨hx, hy, hc⟩, ⟨u, v, u', v', e1, e2⟩, ⟨r, t, r', t', e3, e4⟩⟩ := hq
    dsimp only at hx hy hc e1 e2 e3 e4 ⊢
    have y0 : y = 0 := by
      rcases hc with ⟨k0, _⟩ | ⟨_, h | ⟨h1, h2⟩⟩
      · exact absurd k0 (by decide)
      · exact h
      · by_cases c : y = 0
        · exact c
        · exfalso
          have p1 : 1 * 1 ≤ x * y := Int.mul_le_mul (by omega) (by omega) (by decide) (by omega)
          have : x * y * 2 ^ (80 : Nat) ≥ 1 * 2 ^ (80 : Nat) := Int.mul_le_mul_of_nonneg_right (by omega) (by decide)
          have h2 : x * y * 2 ^ (80 : Nat) < 2 ^ 63 := h2
          have : (2 : Int) ^ (80 : Nat) > 2 ^ 63 := by decide
          omega
    subst y0
    walk_at "k"
    exact ⟨x, r, r', u, v, rfl, hx, by rw [e3]; simp, by rw [e4]; simp, e1⟩
/-- from the divisor to the order of the chain -/
theorem ch_of {p g c A B u v : Int} (hp : 0 < p) (hc : 0 < c) (e1 : p = A * c) (e2 : g = B * c) (e3 : c = u * p + v * g) : p / c = A ∧ 0 < A ∧ Ch p g A := by
  have hA : 0 < A := by
    rcases Int.lt_trichotomy A 0 with h | h | h
    · have := Int.mul_neg_of_neg_of_pos h hc
      omega
    · subst h; simp at e1; omega
    · exact h
  refine ⟨by rw [e1, Int.mul_ediv_cancel _ (by omega)], hA, hp, hA, fun k => ?_⟩
  have co : u * A + v * B = 1 := by
    have : (u * A + v * B) * c = 1 * c := by rw [Int.one_mul]; conv => rhs; rw [e3]
                                             rw [e1, e2]; grind
    exact Int.eq_of_mul_eq_mul_right (by omega) this
  rw [← Int.dvd_iff_emod_eq_zero]
  constructor
  · rintro ⟨t, ht⟩
    have h1 : k * B = A * t := by
      have : (k * B) * c = (A * t) * c := by rw [e1, e2] at ht; grind
      exact Int.eq_of_mul_eq_mul_right (by omega) this
    exact ⟨u * k + v * t, by grind⟩
  · rintro ⟨t, rfl⟩
    exact ⟨t * B, by rw [e1, e2]; grind⟩
theorem chain_world_ok (ds : List Int) (hl : 5 ≤ ds.length) (hd : Drawn ds) : w__law_chain_world [dI ds] fun d => ∃ (p g n : Int) (c : Nat), d = .tuple [.int p, .int g, .int n, .int c] ∧ Ch p g n ∧ 1 ≤ p ∧ p ≤ 1000000 ∧ -(2 ^ 40) < g ∧ g < 2 ^ 40 ∧ n ≤ p ∧ 1 ≤ c ∧ (c : Int) ≤ n ∧ c ≤ 400 := by
  have line := line_big
  have b0 := hd.at' 0
  have b1 := hd.at' 1
  have b2 := hd.at' 2
  have b3 := hd.at' 3
  have b4 := hd.at' 4
  walk_at "k"
  refine ifJs [1, 2] (fun (a : {q : Int × Int // (1 ≤ q.1 ∧ q.1 ≤ 1000000) ∧ -(2 ^ 40) < q.2 ∧ q.2 < 2 ^ 40}) => [sI a.1.1, sI a.1.2]) (fun a => ?_) (fun N hN => ?_)
  · obtain ⟨⟨p, g⟩, ⟨hp1, hp2⟩, hg1, hg2⟩ := a
    dsimp only at hp1 hp2 hg1 hg2 ⊢
    walk_at "k"
    refine ifJs [1] (fun (a : {q : Int // 1 ≤ q ∧ q ≤ 1000000}) => [sI a.1]) (fun a => ?_) (fun N hN => ?_)
    · obtain ⟨p, hp1, hp2⟩ := a
      dsimp only at hp1 hp2 ⊢
      walk_at "k"
      have hpg : p * (g.natAbs : Int) < 2 ^ 62 := by
        have := Int.mul_le_mul hp2 (show (g.natAbs : Int) ≤ 2 ^ 40 by omega) (by omega) (by decide : (0 : Int) ≤ 1000000)
        omega
      refine call_ex (lgcd_ok p g (by omega) hpg) ?_
      rintro _ ⟨c, A, B, u, v, rfl, hc, e1, e2, e3⟩
      obtain ⟨eA, hA, C⟩ := ch_of (by omega) hc e1 e2 e3
      have cp : c ≤ p := by
        have := Int.mul_le_mul_of_nonneg_right (show 1 ≤ A by omega) (Int.le_of_lt hc)
        omega
      have Ap : A ≤ p := by
        have := Int.mul_le_mul_of_nonneg_left (show 1 ≤ c by omega) (Int.le_of_lt hA)
        omega
      subst eA
      walk_at "k"
      have m1 := Int.emod_nonneg (at' ds 4) (by omega : min 400 (p / c) ≠ 0)
      have m2 := Int.emod_lt_of_pos (at' ds 4) (by omega : 0 < min 400 (p / c))
      refine ifJs [4] (fun (a : {q : Int // 1 ≤ q ∧ q ≤ p / c ∧ q ≤ 400}) => [sI a.1]) (fun a => ?_) (fun N hN => ?_)
      · obtain ⟨q, hq1, hq2, hq3⟩ := a
        dsimp only at hq1 hq2 hq3 ⊢
        walk_at "k"
        exact ⟨p, g, p / c, q.toNat, by rw [show ((q.toNat : Nat) : Int) = q by omega]; rfl, C, hp1, hp2, hg1, hg2, Ap, by omega, by omega, by omega⟩
      · walk_at "k"
        refine selE (fun h => ?_) (fun h => ?_)
        · walk_at "k"
          exact hN ⟨min 400 (p / c), by omega⟩
        · walk_at "k"
          refine selD (fun h => ?_) (fun h => ?_)
          · walk_at "k"
            exact hN ⟨min (1 + at' ds 4 % min 400 (p / c)) (1 + at' ds 4 % 30), by omega⟩
          · exact hN ⟨1 + at' ds 4 % min 400 (p / c), by omega⟩
    · walk_at "k"
      refine selE (fun h => ?_) (fun h => ?_)
      · walk_at "k"
        refine hN ⟨_, ?_⟩
        omega
      · exact hN ⟨p, by omega⟩
  · walk_at "k"
    refine selE (fun h => ?_) (fun h => ?_)
    · walk_at "k"
      have e6 : (10 : Int) ^ Int.toNat 6 = 1000000 := by decide
      have e11 : (10 : Int) ^ Int.toNat 11 = 100000000000 := by decide
      refine hN ⟨(1 + at' ds 0 % 10 ^ Int.toNat 6, at' ds 1 * 1000003 + at' ds 3 - 10 ^ Int.toNat 11), ?_⟩
      dsimp only
      rw [e6, e11]
      omega
    · exact hN ⟨(1 + at' ds 0 % 40, at' ds 1 % 121 - 60), by dsimp only; omega⟩
theorem flat_ints : ∀ xs : List Int, (xs.map PyData.int).all flatD = true
  | [] => rfl
  | x :: xs => by simp [flatD, flat_ints xs]
theorem any_ints (w : Int) : ∀ xs : List Int, ((xs.map PyData.int).any fun e => PyData.eqv e (.int w)) = decide (w ∈ xs)
  | [] => by simp
  | x :: xs => by
    rw [List.map_cons, List.any_cons, any_ints w xs]
    simp only [PyData.eqv, List.mem_cons, Bool.decide_or]
    congr 1
    rw [show (x == w) = decide (x = w) from rfl]
    exact decide_eq_decide.mpr eq_comm
theorem notin_m {w : Int} {xs : List Int} {A B : Prop} (h1 : w ∉ xs → A) (h2 : w ∈ xs → B) : (match (generalizing := false) ng true ((xs.map PyData.int).any fun e => PyData.eqv e (.int w)) with | true => A | false => B) := by
  rw [any_ints]
  by_cases h : w ∈ xs
  · rw [decide_eq_true h]; exact h2 h
  · rw [decide_eq_false h]; exact h1 h
theorem in_m {w : Int} {xs : List Int} {A B : Prop} (h1 : w ∈ xs → A) (h2 : w ∉ xs → B) : (match (generalizing := false) ng false ((xs.map PyData.int).any fun e => PyData.eqv e (.int w)) with | true => A | false => B) := by
  rw [any_ints]
  by_cases h : w ∈ xs
  · rw [decide_eq_true h]; exact h1 h
  · rw [decide_eq_false h]; exact h2 h
theorem sb_t : scanBound = 4096 := rfl
theorem rl0 (p g : Int) (c : Nat) : (List.range c).map (fun (k : Nat) => ((0 + (k : Int)) * g) % p) = rl p g 0 c := by
  unfold rl
  refine List.map_congr_left fun k _ => ?_
  show _ = (((k : Int) - 0) * g) % p
  congr 2
  omega
theorem rl_succ (p g a : Int) (k : Nat) : rl p g a (k + 1) = rl p g a k ++ [rs p g ((k : Int) - a)] := by
  simp [rl, List.range_succ]
/-- the program's chain -/
theorem chain_scale_ok {p g n : Int} (C : Ch p g n) {c : Nat} (hc : (c : Int) ≤ n) (h4 : c ≤ 400) (hg : -(2 ^ 60) < g ∧ g < 2 ^ 60) : w_chain_scale [.int p, .int g, .int c] (· = dI (md p g 0 c)) := by
  have line := line_big
  have pp := C.pp
  walk_at "k"
  refine forR_fun (fun k => [pI p, pI g, pI c, sL (rl p g 0 k), some ⟨setD (rl p g 0 k), true, false⟩, none, none]) rfl (fun k hk R hR => ?_) ?_
  · have hk : k < c := by simpa using hk
    have nin : rs p g ((k : Int) - 0) ∉ rl p g 0 k := by
      have nd := rl_nodup C 0 (c := k + 1) (by omega)
      rw [rl_succ] at nd
      intro hm
      exact (List.nodup_append.mp nd).2.2 _ hm _ (List.mem_singleton.mpr rfl) rfl
    have e : (0 + (k : Int)) * g % p = rs p g ((k : Int) - 0) := by
      show _ = (((k : Int) - 0) * g) % p
      congr 2
      omega
    have len := rl_len p g 0 k
    have big : (List.map PyData.int (rl p g 0 k)).length < sizeLine := by rw [List.length_map]; omega
    walk_at "k"
    refine And.intro (mul_r (by omega)) ?_
    walk_at "k"
    refine ⟨_, _, ⟨rfl, rfl⟩, ?_⟩
    walk_at "kw"
    rw [e]
    refine selF nin ?_
    walk_at "kw"
    refine ⟨_, _, rfl, ?_⟩
    walk_at "kw"
    refine ⟨_, ⟨rfl, by rw [rl_len, sb_t]; omega⟩, ?_⟩
    walk_at "k"
    refine hR _ ?_
    have e1 : dI (rl p g 0 (k + 1)) = PyData.list (List.map PyData.int (rl p g 0 k) ++ [PyData.int ((0 + (k : Int)) * g % p)]) := by rw [dI_app, rl_succ, e]
    have e2 : setD (rl p g 0 (k + 1)) = setD (addS (rl p g 0 k) ((0 + (k : Int)) * g % p)) := by rw [rl_succ, e]; exact congrArg setD (if_neg nin).symm
    show _ = [pI p, pI g, pI c, some ⟨dI (rl p g 0 (k + 1)), true, false⟩, some ⟨setD (rl p g 0 (k + 1)), true, false⟩, none, none]
    rw [e1, e2]
    rfl
  · walk_at "kw"
    exact ksrt (xs := rl p g 0 c) (Q := fun ms => true = true ∧ PyData.list (ms.map PyData.int) = dI (md p g 0 c)) ⟨rfl, rfl⟩

theorem law_chain_ok {p g n : Int} (C : Ch p g n) {c : Nat} (h4 : c ≤ 400) (hg : -(2 ^ 60) < g ∧ g < 2 ^ 60) : w__law_chain [.int p, .int g, .int c] (· = dI (md p g 0 c)) := by
  have line := line_big
  have pp := C.pp
  walk_at "k"
  refine lc_rgI (fun (k : Nat) => ((0 + (k : Int)) * g) % p) (rl p g 0 c) (by omega) (fun k hk acc K ha hK => ?_) (rl0 p g c) ?_
  · walk_at "k"
    refine And.intro (mul_r (by omega)) ?_
    walk_at "k"
    exact hK
  · walk_at "kw"
    exact ksrt (Q := fun ms => true = true ∧ PyData.list (ms.map PyData.int) = dI (md p g 0 c)) ⟨rfl, rfl⟩
theorem shared_ok (xs ys : List Int) (hx : xs.length ≤ 100000) : w_shared [dI xs, dI ys] (· = dI (xs.filter fun x => decide (x ∈ ys))) := by
  have line := line_big
  walk_at "k"
  refine lc_filterL (enc := PyData.int) PyData.int (fun x => decide (x ∈ ys)) (fun x => x) _ (by omega) (fun x hx acc K ha h1 h2 => ?_) (List.map_id' _) ?_
  · walk_at "kw"
    refine ⟨⟨rfl, flat_ints _⟩, ?_⟩
    walk_at "kw"
    refine in_m (fun h => ?_) (fun h => ?_)
    · walk_at "k"
      exact h1 (decide_eq_true h)
    · exact h2 (decide_eq_false h)
  · walk_at "k"
    rfl
def isNum : D → Bool
  | .int _ => true
  | _ => false
theorem is_number_ok (d : D) (hj : isJ d = false := by rfl) : w__law_is_number [d] (· = .bool (isNum d)) := by
  cases d with
  | dict kvs =>
    walk_at "k"
    refine isJ_go hj ?_
    walk_at "k"
    rfl
  | _ => walk_at "k"; rfl
theorem is_numbers_ok (xs : List Int) (n : Int) : w__law_is_numbers [dI xs, .int n] (· = .bool (decide ((xs.length : Int) = n))) := by
  walk_at "k"
  rw [List.length_map]
  refine selB (fun hb => ?_) (fun hb => ?_)
  · walk_at "k"
    have : ¬ (xs.length : Int) = n := by simpa using hb
    simp [this]
  · have hn : (xs.length : Int) = n := by simpa using hb
    have him : ownN (xs.map PyData.int) false = false := by unfold ownN; split <;> rfl
    walk_at "k"
    rw [him]
    refine forN_inv (enc := PyData.int) (fun p δ => δ = [some ⟨dI xs, false, true⟩, some ⟨.int n, false, true⟩, none]) rfl rfl (fun p δ hδ => by rw [hδ]; rfl) (fun p x q e δ hδ P hP => ?_) (fun δ hδ => ?_)
    · subst hδ
      walk_at "k"
      refine call_eq (is_number_ok (.int x)) ?_
      walk_at "k"
      exact hP _ rfl
    · subst hδ
      walk_at "k"
      simp [hn]
theorem same_numbers_refl (xs : List Int) (hl : xs.length ≤ 100000) : w__law_same_numbers [dI xs, dI xs] (· = .bool true) := by
  walk_at "k"
  refine call_eq (is_numbers_ok xs _) ?_
  walk_at "kw"
  rw [List.length_map]
  refine selB (fun hb => absurd hb (by simp)) (fun _ => ?_)
  walk_at "k"
  refine forR_fun (fun k => [pL xs, pL xs, none]) rfl (fun k hk P hP => ?_) ?_
  · have hk : k < xs.length := by simpa using hk
    walk_at "kw"
    refine ⟨_, atI_at (by omega) (by omega), ?_⟩
    walk_at "k"
    refine selB (fun hb => absurd hb (by simp)) (fun _ => ?_)
    exact hP _ rfl
  · walk_at "k"
/-! chains from any note -/
def cf (s p g : Int) (c : Nat) : List Int := (List.range c).map fun k : Nat => (s + (k : Int) * g) % p
theorem cf_len (s p g : Int) (c : Nat) : (cf s p g c).length = c := by simp [cf]
theorem cf_mem {s p g : Int} {c : Nat} {z : Int} : z ∈ cf s p g c ↔ ∃ k : Nat, k < c ∧ z = (s + (k : Int) * g) % p := by
  unfold cf
  rw [List.mem_map]
  constructor
  · rintro ⟨k, hk, rfl⟩
    exact ⟨k, List.mem_range.mp hk, rfl⟩
  · rintro ⟨k, hk, rfl⟩
    exact ⟨k, List.mem_range.mpr hk, rfl⟩
theorem cf_eq {p g n : Int} (C : Ch p g n) (s i j : Int) : (s + i * g) % p = (s + j * g) % p ↔ n ∣ i - j := by
  rw [← C.ord, Int.emod_eq_emod_iff_emod_sub_eq_zero, show s + i * g - (s + j * g) = (i - j) * g by rw [Int.sub_mul]; omega]
theorem cf_nodup {p g n : Int} (C : Ch p g n) (s : Int) {c : Nat} (hc : (c : Int) ≤ n) : (cf s p g c).Nodup := by
  unfold cf
  rw [List.nodup_iff_pairwise_ne, List.pairwise_map]
  refine List.Pairwise.imp_of_mem ?_ (List.nodup_iff_pairwise_ne.mp List.nodup_range)
  intro i j hi hj hij e
  rw [cf_eq C] at e
  have i1 := List.mem_range.mp hi
  have j1 := List.mem_range.mp hj
  have := dvd_small C.pn e (by omega) (by omega)
  omega
theorem cf_add (s p g a : Int) (k : Int) : ((s + a * g) % p + k * g) % p = (s + (a + k) * g) % p := by
  rw [Int.emod_add_emod, Int.add_mul]
  congr 1
  omega
def stF (xs : List Int) (p g : Int) : Option Int := xs.find? fun x => decide (srt (cf x p g xs.length) = xs)
theorem find_one {xs : List Int} {P : Int → Bool} {s : Int} (hm : s ∈ xs) (hp : P s = true) (hu : ∀ x ∈ xs, P x = true → x = s) : xs.find? P = some s := by
  cases e : xs.find? P with
  | none => exact absurd hp (by rw [List.find?_eq_none] at e; exact e s hm)
  | some x => rw [hu x (List.mem_of_find?_eq_some e) (List.find?_some e)]
theorem srt_iff {xs ys : List Int} (h : srt xs = srt ys) : ∀ z, z ∈ xs ↔ z ∈ ys := fun z => by rw [← mem_srt (xs := xs), h, mem_srt]
theorem start_of {p g n : Int} (C : Ch p g n) {c : Nat} (h1 : 1 ≤ c) (hc : (c : Int) < n) {s : Int} (s0 : 0 ≤ s) (s1 : s < p) : stF (srt (cf s p g c)) p g = some s := by
  have l : (srt (cf s p g c)).length = c := by rw [srt_len, cf_len]
  unfold stF
  rw [l]
  refine find_one ?_ (decide_eq_true rfl) fun x hx hp => ?_
  · rw [mem_srt, cf_mem]
    exact ⟨0, by omega, by rw [Int.ofNat_zero, Int.zero_mul, Int.add_zero, Int.emod_eq_of_lt s0 s1]⟩
  · have same := srt_iff (of_decide_eq_true hp)
    rw [mem_srt, cf_mem] at hx
    obtain ⟨j, hj, rfl⟩ := hx
    by_cases z : j = 0
    · subst z
      rw [Int.ofNat_zero, Int.zero_mul, Int.add_zero, Int.emod_eq_of_lt s0 s1]
    · have m := (same ((s + (c : Int) * g) % p)).mp (cf_mem.mpr ⟨c - j, by omega, by rw [cf_add]; congr 3; omega⟩)
      obtain ⟨k, hk, e⟩ := cf_mem.mp m
      rw [cf_eq C] at e
      have := dvd_small C.pn e (by omega) (by omega)
      omega
theorem cf_shift {p g n : Int} (C : Ch p g n) {c : Nat} (hc : (c : Int) = n) (s a : Int) : ∀ z, z ∈ cf ((s + a * g) % p) p g c ↔ z ∈ cf s p g c := fun z => by
  have pn := C.pn
  rw [cf_mem, cf_mem]
  constructor
  · rintro ⟨k, hk, rfl⟩
    have m0 := Int.emod_nonneg (a + k) (by omega : n ≠ 0)
    have m1 := Int.emod_lt_of_pos (a + k) pn
    refine ⟨((a + k) % n).toNat, by omega, ?_⟩
    rw [cf_add, cf_eq C, Int.toNat_of_nonneg m0]
    exact Int.dvd_self_sub_emod
  · rintro ⟨k, hk, rfl⟩
    have m0 := Int.emod_nonneg (k - a) (by omega : n ≠ 0)
    have m1 := Int.emod_lt_of_pos (k - a) pn
    refine ⟨(((k : Int) - a) % n).toNat, by omega, ?_⟩
    rw [cf_add, cf_eq C, Int.toNat_of_nonneg m0, show (k : Int) - (a + (k - a) % n) = (k - a) - (k - a) % n by omega]
    exact Int.dvd_self_sub_emod
theorem start_full {p g n : Int} (C : Ch p g n) {c : Nat} (h1 : 1 ≤ c) (hc : (c : Int) = n) (s : Int) : ∃ x ys, srt (cf s p g c) = x :: ys ∧ stF (srt (cf s p g c)) p g = some x := by
  have l : (srt (cf s p g c)).length = c := by rw [srt_len, cf_len]
  cases e : srt (cf s p g c) with
  | nil => rw [e] at l; simp at l; omega
  | cons x ys =>
    refine ⟨x, ys, rfl, ?_⟩
    have hx : x ∈ cf s p g c := by rw [← mem_srt, e]; exact List.mem_cons_self
    obtain ⟨j, hj, rfl⟩ := cf_mem.mp hx
    unfold stF
    rw [← e, l]
    have : srt (cf ((s + (j : Int) * g) % p) p g c) = srt (cf s p g c) := mem_uniq (srt_srt _) ((srt_perm _).nodup_iff.mpr (cf_nodup C _ (by omega))) (srt_srt _) ((srt_perm _).nodup_iff.mpr (cf_nodup C _ (by omega))) fun z => by rw [mem_srt, mem_srt, cf_shift C hc]
    rw [e]
    refine (List.find?_cons_of_pos ?_)
    rw [← e]
    exact decide_eq_true this
/-- strictly ascending lists -/
theorem asc_nodup {xs : List Int} (h : xs.Pairwise (· < ·)) : xs.Nodup := h.imp fun a e => by omega
theorem asc_le {xs : List Int} (h : xs.Pairwise (· < ·)) : xs.Pairwise (· ≤ ·) := h.imp fun a => by omega
theorem asc_of {xs : List Int} (h : xs.Nodup) : (srt xs).Pairwise (· < ·) := by
  have a := srt_srt xs
  have b := (srt_perm xs).nodup_iff.mpr h
  rw [List.nodup_iff_pairwise_ne] at b
  exact (a.and b).imp fun h => by omega
theorem shared_comm {xs ys : List Int} (h1 : xs.Pairwise (· < ·)) (h2 : ys.Pairwise (· < ·)) : ys.filter (fun x => decide (x ∈ xs)) = xs.filter fun x => decide (x ∈ ys) :=
  mem_uniq ((asc_le h2).sublist List.filter_sublist) ((asc_nodup h2).sublist List.filter_sublist) ((asc_le h1).sublist List.filter_sublist) ((asc_nodup h1).sublist List.filter_sublist) fun z => by
    simp only [List.mem_filter, decide_eq_true_eq]
    exact And.comm
theorem shared_self (xs : List Int) : xs.filter (fun x => decide (x ∈ xs)) = xs := List.filter_eq_self.mpr fun x hx => decide_eq_true hx
theorem eqI {a b : List Int} {A B : Prop} (h1 : a = b → A) (h2 : a ≠ b → B) : (SeqAt.shaped (dI a) = true ∧ SeqAt.shaped (dI b) = true) ∧ (match (generalizing := false) ng false (PyData.eqv (dI a) (dI b)) with | true => A | false => B) := by
  refine ⟨⟨(shp_dI a).sh, (shp_dI b).sh⟩, ?_⟩
  rw [eqv_dI]
  by_cases c : a = b
  · rw [decide_eq_true c]; exact h1 c
  · rw [decide_eq_false c]; exact h2 c
theorem neI {a b : List Int} {A B : Prop} (h1 : a ≠ b → A) (h2 : a = b → B) : (SeqAt.shaped (dI a) = true ∧ SeqAt.shaped (dI b) = true) ∧ (match (generalizing := false) ng true (PyData.eqv (dI a) (dI b)) with | true => A | false => B) := by
  refine ⟨⟨(shp_dI a).sh, (shp_dI b).sh⟩, ?_⟩
  rw [eqv_dI]
  by_cases c : a = b
  · rw [decide_eq_true c]; exact h2 c
  · rw [decide_eq_false c]; exact h1 c
theorem chain_from_ok {p g s : Int} (pp : 0 < p) {c : Nat} (h4 : c ≤ 400) : w_chain_from [.int s, .int p, .int g, .int c] (· = dI (srt (cf s p g c))) := by
  have line := line_big
  (walk_at "kw"; (((with_reducible apply And.intro); (· walk_at "ks"))); walk_at "kw")
  refine lc_rgI (fun k : Nat => (s + (k : Int) * g) % p) (cf s p g c) (by omega) (fun k hk acc K ha hK => ?_) (by rw [show ((c : Int)).toNat = c by omega]; rfl) ?_
  · rw [Int.zero_add]
    (walk_at "kw")
    refine ⟨mul_l (by omega), ?_⟩
    (walk_at "kw"; (((with_reducible apply And.intro); (· walk_at "ks"))); walk_at "kw"; (((with_reducible apply And.intro); (· walk_at "ks"))); walk_at "kw")
    exact hK
  · walk_at "kw"
    exact ksrt (xs := cf s p g c) (Q := fun ms => true = true ∧ PyData.list (ms.map PyData.int) = dI (srt (cf s p g c))) ⟨rfl, rfl⟩
theorem law_from_ok {p g s : Int} (pp : 0 < p) {c : Nat} (h4 : c ≤ 400) : w__law_from [.int s, .int p, .int g, .int c] (· = dI (srt (cf s p g c))) := by
  have line := line_big
  (walk_at "kw"; (((with_reducible apply And.intro); (· walk_at "ks"))); walk_at "kw")
  refine lc_rgI (fun k : Nat => (s + (k : Int) * g) % p) (cf s p g c) (by omega) (fun k hk acc K ha hK => ?_) (by rw [show ((c : Int)).toNat = c by omega]; rfl) ?_
  · rw [Int.zero_add]
    (walk_at "kw")
    refine ⟨mul_l (by omega), ?_⟩
    (walk_at "kw"; (((with_reducible apply And.intro); (· walk_at "ks"))); walk_at "kw"; (((with_reducible apply And.intro); (· walk_at "ks"))); walk_at "kw")
    exact hK
  · walk_at "kw"
    exact ksrt (xs := cf s p g c) (Q := fun ms => true = true ∧ PyData.list (ms.map PyData.int) = dI (srt (cf s p g c))) ⟨rfl, rfl⟩
theorem shifted_ok {p b : Int} (pp : 0 < p) {xs : List Int} (hl : xs.length ≤ 1000) : w_shifted [dI xs, .int p, .int b] (· = dI (srt (xs.map fun x => (x + b) % p))) := by
  have line := line_big
  (walk_at "kw")
  refine lc_mapI (fun x => (x + b) % p) _ (by omega) (fun x hx acc K ha hK => ?_) rfl ?_
  · (walk_at "kw"; (((with_reducible apply And.intro); (· walk_at "ks"))); walk_at "kw"; (((with_reducible apply And.intro); (· walk_at "ks"))); walk_at "kw")
    exact hK
  · walk_at "kw"
    exact ksrt (xs := xs.map fun x => (x + b) % p) (Q := fun ms => true = true ∧ PyData.list (ms.map PyData.int) = dI (srt (xs.map fun x => (x + b) % p))) ⟨rfl, rfl⟩
theorem find_step {xs q : List Int} {x : Int} {q2 : List Int} {P : Int → Bool} (e : xs = q ++ x :: q2) (no : ∀ y ∈ q, P y = false) (h : P x = true) : xs.find? P = some x := by
  rw [e, List.find?_append, List.find?_eq_none.mpr fun y hy => by rw [no y hy]; simp, List.find?_cons_of_pos h]
  rfl
theorem chain_start_ok {p g : Int} (pp : 0 < p) {xs : List Int} (hl : xs.length ≤ 400) : w_chain_start [dI xs, .int p, .int g] (· = oD (stF xs p g)) := by
  have line := line_big
  (walk_at "kw")
  rw [show ownN (xs.map PyData.int) false = false by unfold ownN; split <;> rfl]
  refine forN_st (enc := PyData.int) [] (fun _ : Unit => []) (fun q _ => ∀ y ∈ q, decide (srt (cf y p g xs.length) = xs) = false) () (fun _ h => (nomatch h)) rfl rfl rfl rfl (fun q x q2 e _ no R hR => ?_) (fun _ no => ?_)
  · have cfo := chain_from_ok (g := g) (s := x) pp hl
    have lm : (xs.map PyData.int).length = xs.length := List.length_map ..
    rw [← lm] at cfo
    have go := fun (c : ¬ srt (cf x p g (xs.map PyData.int).length) = xs) δ' => hR () δ' fun y hy => by
      rcases List.mem_append.mp hy with h | h
      · exact no y h
      · rw [List.mem_singleton.mp h]; exact decide_eq_false (by rw [← lm]; exact c)
    have f : srt (cf x p g (xs.map PyData.int).length) = xs → stF xs p g = some x := fun c => find_step e no (decide_eq_true (by rw [← lm]; exact c))
    clear hR e no
    (walk_at "kw"; (((with_reducible apply And.intro); (· walk_at "ks"))); walk_at "kw"; (refine call_eq cfo ?_); walk_at "kw")
    refine eqI (fun c => ?_) (fun c => ?_)
    · have f := f c
      (walk_at "kw"; (((with_reducible apply And.intro); (· walk_at "ks"))); walk_at "kw")
      rw [f]
      rfl
    · (walk_at "kw")
      exact go c _ rfl
  · have f : stF xs p g = none := List.find?_eq_none.mpr fun y hy => by rw [no y hy]; simp
    rw [f]
    (walk_at "kw"; (((with_reducible apply And.intro); (· walk_at "ks"))); walk_at "kw"; (rfl))
theorem law_start_ok {p g : Int} (pp : 0 < p) {xs : List Int} (hl : xs.length ≤ 400) : w__law_start [dI xs, .int p, .int g] (· = oD (stF xs p g)) := by
  have line := line_big
  (walk_at "kw")
  rw [show ownN (xs.map PyData.int) false = false by unfold ownN; split <;> rfl]
  refine forN_st (enc := PyData.int) [] (fun _ : Unit => []) (fun q _ => ∀ y ∈ q, decide (srt (cf y p g xs.length) = xs) = false) () (fun _ h => (nomatch h)) rfl rfl rfl rfl (fun q x q2 e _ no R hR => ?_) (fun _ no => ?_)
  · have cfo := law_from_ok (g := g) (s := x) pp hl
    have lm : (xs.map PyData.int).length = xs.length := List.length_map ..
    rw [← lm] at cfo
    have go := fun (c : ¬ srt (cf x p g (xs.map PyData.int).length) = xs) δ' => hR () δ' fun y hy => by
      rcases List.mem_append.mp hy with h | h
      · exact no y h
      · rw [List.mem_singleton.mp h]; exact decide_eq_false (by rw [← lm]; exact c)
    have f : srt (cf x p g (xs.map PyData.int).length) = xs → stF xs p g = some x := fun c => find_step e no (decide_eq_true (by rw [← lm]; exact c))
    clear hR e no
    (walk_at "kw"; (((with_reducible apply And.intro); (· walk_at "ks"))); walk_at "kw"; (refine call_eq cfo ?_); walk_at "kw")
    refine eqI (fun c => ?_) (fun c => ?_)
    · have f := f c
      (walk_at "kw"; (((with_reducible apply And.intro); (· walk_at "ks"))); walk_at "kw")
      rw [f]
      rfl
    · (walk_at "kw")
      exact go c _ rfl
  · have f : stF xs p g = none := List.find?_eq_none.mpr fun y hy => by rw [no y hy]; simp
    rw [f]
    (walk_at "kw"; (((with_reducible apply And.intro); (· walk_at "ks"))); walk_at "kw"; (rfl))
theorem asks_start_ok {p g : Int} (pp : 0 < p) {xs : List Int} (hl : xs.length ≤ 400) : w__law_asks_start [dI xs, .int p, .int g, oD (stF xs p g)] (· = .bool true) := by
  have line := line_big
  have cs := chain_start_ok (g := g) pp hl
  have i1 : immL (xs.map PyData.int) = true := imm_ints _
  cases h : stF xs p g with
  | none =>
    rw [h] at cs
    (walk_at "kw"; (((with_reducible apply And.intro); (· walk_at "ks"))); walk_at "kw"; (((with_reducible apply And.intro); (· walk_at "ks"))); walk_at "kw"; (refine call_eq cs ?_); walk_at "kw")
    refine ne_m (shp_dI xs) rfl ?_
    (walk_at "kw"; (((with_reducible apply And.intro); (· walk_at "ks"))); walk_at "kw"; (rfl))
  | some s =>
    rw [h] at cs
    (walk_at "kw"; (((with_reducible apply And.intro); (· walk_at "ks"))); walk_at "kw"; (((with_reducible apply And.intro); (· walk_at "ks"))); walk_at "kw"; (refine call_eq cs ?_); walk_at "kw")
    refine ne_m (shp_dI xs) rfl ?_
    (walk_at "kw"; (((with_reducible apply And.intro); (· walk_at "ks"))); walk_at "kw"; change ∃ Qd, w__law_is_number [PyData.int s] Qd ∧ _)
    refine call_eq (is_number_ok (.int s)) ?_
    (walk_at "kw"; (((with_reducible apply And.intro); (· walk_at "ks"))); walk_at "kw")
    show PyData.bool (ng false (decide (s = s))) = _
    rw [decide_eq_true rfl]
    rfl
def rising (ch : List Int) : Prop := ch.Pairwise (· < ·)
theorem atI_end {xs : List Int} (h : 0 < xs.length) : atI (xs.map PyData.int) (-1) = some (.int (at' xs ((xs.length : Int) - 1))) := by
  have e : atI (xs.map PyData.int) (-1) = atI (xs.map PyData.int) ((xs.length : Int) - 1) := by
    unfold atI ixN
    rw [List.length_map, if_neg (by decide), if_pos (by omega), if_pos (by omega), if_pos (by omega)]
    congr 2
  rw [e]
  exact atI_at (by omega) (by omega)
theorem le_end {ch : List Int} (h : rising ch) {y : Int} (hy : y ∈ ch) : y ≤ at' ch ((ch.length : Int) - 1) := by
  obtain ⟨k, hk, rfl⟩ := List.getElem_of_mem hy
  rw [show ((ch.length : Int) - 1) = ((ch.length - 1 : Nat) : Int) by omega, at'_nat (by omega)]
  by_cases z : k = ch.length - 1
  · subst z; exact Int.le_refl _
  · exact Int.le_of_lt (List.pairwise_iff_getElem.mp h k (ch.length - 1) hk (by omega) (by omega))
theorem end_mem {ch : List Int} (h : 0 < ch.length) : at' ch ((ch.length : Int) - 1) ∈ ch := by
  rw [show ((ch.length : Int) - 1) = ((ch.length - 1 : Nat) : Int) by omega, at'_nat (by omega)]
  exact List.getElem_mem _
theorem unlike_ok (xs : List Int) (hl : xs.length ≤ 400) : w__law_unlike [dI xs] fun d => ∃ ch, d = dI ch ∧ rising ch ∧ ch.length ≤ xs.length ∧ (∀ y ∈ ch, y ∈ xs) ∧ (xs ≠ [] → ch ≠ []) := by
  have line := line_big
  walk_at "k"
  refine ⟨xs, rfl, fun ms hp hs => ?_⟩
  have lm : ms.length ≤ 400 := by rw [hp.length_eq]; exact hl
  walk_at "k"
  refine forV_inv (enc := PyData.int) (xs := ms) (fun p δ => ∃ d ch, δ = [pL xs, some ⟨d, true, false⟩, none] ∧ d = dI ch ∧ rising ch ∧ ch.length ≤ p.length ∧ (∀ y ∈ ch, y ∈ p) ∧ (p ≠ [] → ch ≠ [])) ⟨_, [], rfl, rfl, .nil, Nat.le_refl _, fun _ h => h, fun h => h⟩ (fun p x q e δ ⟨d, ch, hδ, hd, hr, hc, hm, hz0⟩ P hP => ?_) (fun δ ⟨d, ch, hδ, hd, hr, hc, hm, hz0⟩ => ?_)
  · subst hδ hd
    have lp : p.length < 400 := by
      have := congrArg List.length e
      simp at this
      omega
    have le : ∀ y ∈ ch, y ≤ x := fun y hy => by
      rw [e] at hs
      exact (List.pairwise_append.mp hs).2.2 y (hm y hy) x List.mem_cons_self
    have big : (List.map PyData.int ch).length < sizeLine := by rw [List.length_map]; omega
    have add : (∀ y ∈ ch, y < x) → ∀ δ' : En, killR δ' [2] = [pL xs, some ⟨PyData.list (List.map PyData.int ch ++ [PyData.int x]), true, false⟩, none] → P δ' := fun lt δ' h =>
      hP δ' ⟨_, ch ++ [x], h, dI_app ch x, List.pairwise_append.mpr ⟨hr, List.pairwise_singleton .., fun y hy z hz => by rw [List.mem_singleton.mp hz]; exact lt y hy⟩, by simp; omega, fun y hy => by
        rcases List.mem_append.mp hy with hy | hy
        · exact List.mem_append_left _ (hm y hy)
        · exact List.mem_append_right _ hy, fun _ h => by simp at h⟩
    have c0 : ((List.map PyData.int ch).length : Int) = 0 → ch = [] := fun h => by
      rw [List.length_map] at h
      exact List.length_eq_zero_iff.mp (by omega)
    walk_at "k"
    refine selB (fun h => ?_) (fun h => ?_)
    · have hz : ch = [] := c0 (by simpa using h)
      walk_at "k"
      exact add (fun y hy => by rw [hz] at hy; cases hy) _ rfl
    · have h0 : 0 < ch.length := by
        cases ch with
        | nil => simp at h
        | cons a l => simp
      walk_at "k"
      refine ⟨_, atI_end h0, ?_⟩
      walk_at "k"
      refine selB (fun h2 => ?_) (fun h2 => ?_)
      · have ne : at' ch ((ch.length : Int) - 1) ≠ x := by simpa using h2
        walk_at "k"
        refine add (fun y hy => ?_) _ rfl
        have a := le_end hr hy
        have b := le _ (end_mem h0)
        omega
      · refine hP _ ⟨_, ch, rfl, rfl, hr, by rw [List.length_append]; omega, fun y hy => List.mem_append_left _ (hm y hy), fun _ h => by rw [h] at h0; exact absurd h0 (by decide)⟩
  · subst hδ hd
    walk_at "k"
    exact ⟨ch, rfl, hr, by have := hp.length_eq; omega, fun y hy => hp.mem_iff.mp (hm y hy), fun h => hz0 fun e => h (by rw [e] at hp; exact hp.symm.eq_nil)⟩
theorem asks_pair_ok {p b : Int} (pp : 0 < p) {xs ys : List Int} (h1 : xs.Pairwise (· < ·)) (h2 : ys.Pairwise (· < ·)) (l1 : xs.length ≤ 400) (l2 : ys.length ≤ 400) : w__law_asks_pair [dI xs, dI ys, .int p, .int b] (· = .bool true) := by
  have line := line_big
  have i1 : immL (xs.map PyData.int) = true := imm_ints _
  have i2 : immL (ys.map PyData.int) = true := imm_ints _
  have s1 := shared_ok xs ys (by omega)
  have s2 := shared_ok ys xs (by omega)
  have s3 := shared_ok xs xs (by omega)
  rw [shared_comm h1 h2] at s2
  rw [shared_self] at s3
  have sh := shifted_ok (b := b) pp (by omega : xs.length ≤ 1000)
  have lf := List.length_filter_le (fun x => decide (x ∈ ys)) xs
  have ls : (srt (xs.map fun x => (x + b) % p)).length = xs.length := by rw [srt_len, List.length_map]
  have n1 := same_numbers_refl (xs.filter fun x => decide (x ∈ ys)) (by omega)
  have n2 := same_numbers_refl xs (by omega)
  have n3 := same_numbers_refl (srt (xs.map fun x => (x + b) % p)) (by omega)
  (walk_at "kw"; (((with_reducible apply And.intro); (· walk_at "ks"))); walk_at "kw"; (((with_reducible apply And.intro); (· walk_at "ks"))); walk_at "kw"; (((with_reducible apply And.intro); (· walk_at "ks"))); walk_at "kw"; (refine call_eq s1 ?_); walk_at "kw")
  refine lc_filterL (enc := PyData.int) PyData.int (fun x => decide (x ∈ ys)) id (xs.filter fun x => decide (x ∈ ys)) (by omega) (fun x hx acc P ha h1 h2 => ?_) (by simp) ?_
  · (walk_at "kw")
    refine ⟨⟨rfl, flat_ints _⟩, ?_⟩
    walk_at "kw"
    by_cases c : x ∈ ys
    · refine inT c ?_
      (walk_at "kw"; (((with_reducible apply And.intro); (· walk_at "ks"))); walk_at "kw")
      exact h1 (by simp [c])
    · refine inF c ?_
      (walk_at "kw")
      exact h2 (by simp [c])
  have lf2 : ((srt (xs.map fun x => (x + b) % p)).map PyData.int).length = xs.length := by rw [List.length_map, ls]
  clear s1 lf h1 h2
  generalize xs.filter (fun x => decide (x ∈ ys)) = zs at *
  (walk_at "kw")
  refine ne_m (shp_dI xs) rfl ?_
  (walk_at "kw")
  refine ne_m (shp_dI ys) rfl ?_
  (walk_at "kw"; (((with_reducible apply And.intro); (· walk_at "ks"))); walk_at "kw"; (refine call_eq n1 ?_); walk_at "kw"; (((with_reducible apply And.intro); (· walk_at "ks"))); walk_at "kw"; (refine call_eq s2 ?_); walk_at "kw"; (((with_reducible apply And.intro); (· walk_at "ks"))); walk_at "kw"; (refine call_eq n1 ?_); walk_at "kw"; (((with_reducible apply And.intro); (· walk_at "ks"))); walk_at "kw"; (refine call_eq s3 ?_); walk_at "kw"; (((with_reducible apply And.intro); (· walk_at "ks"))); walk_at "kw"; (refine call_eq n2 ?_); walk_at "kw"; (((with_reducible apply And.intro); (· walk_at "ks"))); walk_at "kw"; (refine call_eq sh ?_); walk_at "kw")
  refine lc_mapI (fun x => (x + b) % p) _ (by omega) (fun x hx acc K ha hK => ?_) rfl ?_
  · (walk_at "kw"; (((with_reducible apply And.intro); (· walk_at "ks"))); walk_at "kw"; (((with_reducible apply And.intro); (· walk_at "ks"))); walk_at "kw")
    exact hK
  walk_at "kw"
  refine ksrt (xs := xs.map fun x => (x + b) % p) ?_
  (walk_at "kw")
  refine ne_m (shp_dI xs) rfl ?_
  (walk_at "kw"; (((with_reducible apply And.intro); (· walk_at "ks"))); walk_at "kw"; (refine call_eq n3 ?_); walk_at "kw"; (((with_reducible apply And.intro); (· walk_at "ks"))); walk_at "kw"; (((with_reducible apply And.intro); (· walk_at "ks"))); walk_at "kw"; (refine call_eq sh ?_); walk_at "kw"; (((with_reducible apply And.intro); (· walk_at "ks"))); walk_at "kw"; (refine call_eq n3 ?_); walk_at "kw"; (((with_reducible apply And.intro); (· walk_at "ks"))); walk_at "kw")
theorem dI_set (o : List Int) (k : Nat) (v : Int) : dI (o.set k v) = .list ((o.map PyData.int).set k (.int v)) := by
  unfold dI
  rw [List.map_set]
theorem cf_moved (s p g b : Int) (c : Nat) : (cf s p g c).map (fun x => (x + b) % p) = cf ((s + b) % p) p g c := by
  unfold cf
  rw [List.map_map]
  refine List.map_congr_left fun k _ => ?_
  show ((s + (k : Int) * g) % p + b) % p = ((s + b) % p + (k : Int) * g) % p
  rw [Int.emod_add_emod, Int.emod_add_emod]
  congr 1
  omega
theorem srt_moved (s p g b : Int) (c : Nat) : srt ((srt (cf s p g c)).map fun x => (x + b) % p) = srt (cf ((s + b) % p) p g c) := by
  rw [← cf_moved]
  exact srt_congr ((srt_perm _).map _)
theorem md_cf (p g : Int) (c : Nat) : md p g 0 c = srt (cf 0 p g c) := by
  unfold md rl cf
  congr 1
  refine List.map_congr_left fun k _ => ?_
  show (((k : Int) - 0) * g) % p = _
  congr 1
  rw [Int.sub_zero, Int.zero_add]
theorem law_first_ok (ns : List Int) (hl : ns.length ≤ 63) : w__law_first [scr ns] (· = .bool true) := by
  have line := line_big
  (walk_at "kw"; (((with_reducible apply And.intro); (· walk_at "ks"))); walk_at "kw"; change ∃ Qd, w__law_draws [scr ns, PyData.int 40] Qd ∧ _)
  refine call_ex (draws_ok ns hl 40 (by decide)) ?_
  rintro _ ⟨ds, rfl, dl, dd⟩
  (walk_at "kw"; (((with_reducible apply And.intro); (· walk_at "ks"))); walk_at "kw"; change ∃ Qd, w__law_chain_world [dI ds] Qd ∧ _)
  refine call_ex (chain_world_ok ds (by omega) dd) ?_
  rintro _ ⟨p, g, n, c0, rfl, C, p1, p2, g1, g2, np, c1, cn, c4⟩
  have pp := C.pp
  have b5 := dd.at' 5
  have b8 := dd.at' 8
  obtain ⟨m, rfl⟩ := Int.eq_ofNat_of_zero_le (Int.le_of_lt C.pn)
  (walk_at "kw"; (((with_reducible apply And.intro); (· walk_at "ks"))); walk_at "kw"; (refine ⟨_, atI_at (by first | decide | omega | (rw [List.length_map]; omega)) (by first | decide | omega | (rw [List.length_map]; omega)), ?_⟩); walk_at "kw"; (((with_reducible apply And.intro); (· walk_at "ks"))); walk_at "kw")
  refine ifJs [5] (fun a : {c : Nat // 1 ≤ c ∧ c ≤ m ∧ c ≤ 30} => [sI a.1]) (fun a => ?_) (fun N hN => ?_)
  · obtain ⟨c, h1, hm, h30⟩ := a
    dsimp only
    have s0 := Int.emod_nonneg (at' ds 7) (by omega : p ≠ 0)
    have s1 := Int.emod_lt_of_pos (at' ds 7) pp
    have fr := fun (s : Int) (c : Nat) (h4 : c ≤ 400) => law_from_ok (g := g) (s := s) pp h4
    have fr0 := fr (at' ds 7 % p) c (by omega)
    have lc : (srt (cf (at' ds 7 % p) p g c)).length = c := by rw [srt_len, cf_len]
    have asc : (srt (cf (at' ds 7 % p) p g c)).Pairwise (· < ·) := asc_of (cf_nodup C _ (by omega))
    have cs := chain_scale_ok C (c := c) (by omega) (by omega) ⟨by omega, by omega⟩
    rw [md_cf] at cs
    (walk_at "kw"; (refine ⟨_, atI_at (by first | decide | omega | (rw [List.length_map]; omega)) (by first | decide | omega | (rw [List.length_map]; omega)), ?_⟩); walk_at "kw"; (((with_reducible apply And.intro); (· walk_at "ks"))); walk_at "kw"; (((with_reducible apply And.intro); (· walk_at "ks"))); walk_at "kw"; (refine call_eq fr0 ?_); walk_at "kw")
    refine ifJs [8] (fun d : {d : Int // stF (srt (cf (at' ds 7 % p) p g c)) p g = some d} => [sI d.1]) (fun d => ?_) (fun N hN => ?_)
    · obtain ⟨du, hd⟩ := d
      dsimp only
      have a1 := asks_start_ok (g := g) pp (xs := srt (cf (at' ds 7 % p) p g c)) (by omega)
      rw [hd] at a1
      have a1 : w__law_asks_start [dI (srt (cf (at' ds 7 % p) p g c)), .int p, .int g, .int du] (· = .bool true) := a1
      (walk_at "kw"; (((with_reducible apply And.intro); (· walk_at "ks"))); walk_at "kw"; (refine call_eq a1 ?_); walk_at "kw"; (refine ⟨_, atI_at (by first | decide | omega | (rw [List.length_map]; omega)) (by first | decide | omega | (rw [List.length_map]; omega)), ?_⟩); walk_at "kw"; (((with_reducible apply And.intro); (· walk_at "ks"))); walk_at "kw")
      refine ifJs [9] (fun b : Int => [sI b]) (fun b => ?_) (fun N hN => ?_)
      · have im : immL ((srt (cf (at' ds 7 % p) p g c)).map PyData.int) = true := imm_ints _
        have shf := shifted_ok (b := b) pp (xs := srt (cf (at' ds 7 % p) p g c)) (by omega)
        rw [srt_moved] at shf
        have eM := srt_moved (at' ds 7 % p) p g b c
        have lM : (srt (cf ((at' ds 7 % p + b) % p) p g c)).length = c := by rw [srt_len, cf_len]
        have ascM : (srt (cf ((at' ds 7 % p + b) % p) p g c)).Pairwise (· < ·) := asc_of (cf_nodup C _ (by omega))
        have sm := same_numbers_refl (srt (cf ((at' ds 7 % p + b) % p) p g c)) (by omega)
        have sK := same_numbers_refl (srt (cf (at' ds 7 % p) p g c)) (by omega)
        have aM : (c : Int) < m → w__law_asks_start [dI (srt (cf ((at' ds 7 % p + b) % p) p g c)), .int p, .int g, .int ((at' ds 7 % p + b) % p)] (· = .bool true) := fun lt => by
          have h := asks_start_ok (g := g) pp (xs := srt (cf ((at' ds 7 % p + b) % p) p g c)) (by omega)
          rw [start_of C h1 lt (Int.emod_nonneg _ (by omega)) (Int.emod_lt_of_pos _ pp)] at h
          exact h
        have aN : ∀ k : Nat, 1 ≤ k → k < m → k ≤ 400 → w__law_asks_start [dI (srt (cf (at' ds 7 % p) p g k)), .int p, .int g, .int (at' ds 7 % p)] (· = .bool true) := fun k k1 k2 k3 => by
          have h := asks_start_ok (g := g) pp (xs := srt (cf (at' ds 7 % p) p g k)) (by rw [srt_len, cf_len]; exact k3)
          rw [start_of C k1 (by omega) s0 s1] at h
          exact h
        have cs0 : at' ds 7 % p = 0 → w_chain_scale [.int p, .int g, .int c] (· = dI (srt (cf (at' ds 7 % p) p g c))) := fun e => by rw [e]; exact cs
        clear cs fr0 a1
        generalize at' ds 7 % p = s at *
        generalize hK : srt (cf s p g c) = K at *
        generalize srt (cf ((s + b) % p) p g c) = M at *
        (walk_at "kw"; (((with_reducible apply And.intro); (· walk_at "ks"))); walk_at "kw"; (((with_reducible apply And.intro); (· walk_at "ks"))); walk_at "kw"; (refine call_eq shf ?_); walk_at "kw")
        refine lc_mapI (fun x => (x + b) % p) (K.map fun x => (x + b) % p) (by omega) (fun x hx acc K ha hK => ?_) rfl ?_
        · (walk_at "kw"; (((with_reducible apply And.intro); (· walk_at "ks"))); walk_at "kw"; (((with_reducible apply And.intro); (· walk_at "ks"))); walk_at "kw")
          exact hK
        walk_at "kw"
        refine ksrt (xs := K.map fun x => (x + b) % p) ?_
        rw [eM]
        walk_at "k"
        refine call_eq sm ?_
        (walk_at "kw")
        apply viaK
        intro KK
        refine selD (fun lt => ?_) (fun _ => KK)
        · have aM := aM lt
          walk_at "k"
          refine call_eq aM ?_
          walk_at "k"
          exact KK
        (walk_at "kw")
        apply viaK
        intro KK
        refine selE (fun e => ?_) (fun _ => KK)
        · have cs := cs0 e
          walk_at "k"
          refine call_eq cs ?_
          walk_at "k"
          refine call_eq sK ?_
          walk_at "k"
          exact KK
        (walk_at "kw")
        refine ifJs [11] (fun o : {o : Option Slot // ∀ t, o = some t → t.own = true} => [o.1]) (fun o => ?_) (fun N hN => ?_)
        · obtain ⟨o, ho⟩ := o
          dsimp only
          have j0 := Int.emod_nonneg (at' ds 9) (by omega : (c : Int) ≠ 0)
          have j1 := Int.emod_lt_of_pos (at' ds 9) (by omega : (0 : Int) < c)
          obtain ⟨j, ej⟩ := Int.eq_ofNat_of_zero_le j0
          have lK : (K.map PyData.int).length = c := by rw [List.length_map]; exact lc
          have ix : ixN (K.map PyData.int).length (at' ds 9 % (c : Int)) = some j := by rw [ej]; exact ixN_nat (by omega) (by omega)
          clear aM aN cs0 fr a1 sm sK eM shf
          (walk_at "kw"; (((with_reducible apply And.intro); (· walk_at "ks"))); walk_at "kw"; (refine ⟨_, atI_at (by first | decide | omega | (rw [List.length_map]; omega)) (by first | decide | omega | (rw [List.length_map]; omega)), ?_⟩); walk_at "kw"; (((with_reducible apply And.intro); (· walk_at "ks"))); walk_at "kw"; (refine ⟨_, atI_at (by first | decide | omega | (rw [List.length_map]; omega)) (by first | decide | omega | (rw [List.length_map]; omega)), ?_⟩); walk_at "kw"; (((with_reducible apply And.intro); (· walk_at "ks"))); walk_at "kw"; (refine ⟨_, ⟨rfl, rfl, ixN_nat (by first | decide | omega | (rw [List.length_map]; omega)) (by first | (rw [List.length_map]; omega) | (rw [List.length_set, List.length_map]; omega))⟩, ?_⟩); walk_at "kw"; (((with_reducible apply And.intro); (· walk_at "ks"))); walk_at "kw"; change ∃ Qd, w__law_unlike [PyData.list ((List.map PyData.int K).set (at' ds 9 % ↑c).toNat (PyData.int (at' ds 10 % p)))] Qd ∧ _)
          rw [← dI_set]
          refine call_ex (unlike_ok (K.set _ _) (by rw [List.length_set]; omega)) ?_
          rintro _ ⟨bt, rfl, rb, lb, _, _⟩
          rw [List.length_set] at lb
          have b11 := dd.at' 11
          (walk_at "kw"; (refine ⟨_, atI_at (by first | decide | omega | (rw [List.length_map]; omega)) (by first | decide | omega | (rw [List.length_map]; omega)), ?_⟩); walk_at "kw"; (((with_reducible apply And.intro); (· walk_at "ks"))); walk_at "kw"; (((with_reducible apply And.intro); (· walk_at "ks"))); walk_at "kw")
          refine lc_rgI (fun k : Nat => at' ds (12 + (k : Int)) % p) _ (by omega) (fun k hk acc P ha hP => ?_) rfl ?_
          · have hk : k < 12 := by omega
            rw [Int.zero_add]
            (walk_at "kw"; (refine ⟨_, atI_at (by first | decide | omega | (rw [List.length_map]; omega)) (by first | decide | omega | (rw [List.length_map]; omega)), ?_⟩); walk_at "kw"; (((with_reducible apply And.intro); (· walk_at "ks"))); walk_at "kw"; (((with_reducible apply And.intro); (· walk_at "ks"))); walk_at "kw")
            exact hP
          generalize hdr : (List.range _).map (fun k : Nat => at' ds (12 + (k : Int)) % p) = dr
          have ldr : dr.length ≤ 12 := by rw [← hdr, List.length_map, List.length_range]; omega
          clear hdr
          walk_at "k"
          refine call_ex (unlike_ok dr (by omega)) ?_
          rintro _ ⟨dn, rfl, rd, ld, _, _⟩
          clear hK lK
          have asks := fun (xs : List Int) (h : xs.length ≤ 400) (g : Int) => asks_start_ok (g := g) pp h
          have starts := fun (xs : List Int) (h : xs.length ≤ 400) (g : Int) => law_start_ok (g := g) pp h
          have one : ∀ z : Int, [z].Pairwise (· < ·) := fun z => List.pairwise_singleton ..
          have pairs := fun (xs ys : List Int) (b : Int) (h1 : xs.Pairwise (· < ·)) (h2 : ys.Pairwise (· < ·)) (l1 : xs.length ≤ 400) (l2 : ys.length ≤ 400) => asks_pair_ok (b := b) pp h1 h2 l1 l2
          walk_at "k"
          refine forV_same (enc := dI) (xs := [bt, dn, [at' ds 24 % p], M]) (fun q x q2 e R hR => ?_) ?_
          · have hx : x.Pairwise (· < ·) ∧ x.length ≤ 400 := by
              have hm : x ∈ [bt, dn, [at' ds 24 % p], M] := by rw [e]; simp
              simp only [List.mem_cons, List.not_mem_nil, or_false] at hm
              rcases hm with rfl | rfl | rfl | rfl
              · exact ⟨rb, by omega⟩
              · exact ⟨rd, by omega⟩
              · exact ⟨one _, by simp⟩
              · exact ⟨ascM, by omega⟩
            obtain ⟨hx, lx⟩ := hx
            have q1 := asks x lx g
            have q2 := asks x lx (1 - g)
            have q3 := starts x lx g
            have q4 := starts x lx (1 - g)
            have q5 := pairs x K b hx asc lx (by omega)
            have q6 := pairs K x (at' ds 25 % p) asc hx (by omega) lx
            clear asks starts pairs e
            walk_at "k"
            refine call_eq q3 ?_
            walk_at "k"
            refine call_eq q1 ?_
            walk_at "k"
            refine call_eq q4 ?_
            walk_at "k"
            refine call_eq q2 ?_
            walk_at "k"
            refine call_eq q5 ?_
            walk_at "k"
            refine call_eq q6 ?_
            walk_at "k"
            exact hR _ rfl
          · have q1 := pairs dn bt (-1) rd rb (by omega) (by omega)
            have q2 := pairs dn [at' ds 26 % p] 0 rd (one _) (by omega) (by simp)
            walk_at "kw"
            refine And.intro ⟨rfl, clean_of ?_⟩ ?_
            · walk_at "kw"
              simp [cleanL]
              show cleanL 12 10 [some ⟨dI M, false, true⟩, o, some ⟨dI bt, true, false⟩, some ⟨dI dn, false, true⟩, none, none, none] [some ⟨dI M, false, true⟩, o, some ⟨dI bt, false, true⟩, some ⟨dI dn, false, true⟩, none, none, none]
              cases o with
              | none => simp [cleanL]
              | some t => simp [cleanL, ho t rfl]
            walk_at "kw"
            refine And.intro ⟨rfl, clean_of ?_⟩ ?_
            · walk_at "kw"
              simp [cleanL]
              show cleanL 13 10 [some ⟨dI M, false, true⟩, o, some ⟨dI bt, true, false⟩, some ⟨dI dn, true, false⟩, none, none, none] [some ⟨dI M, false, true⟩, o, some ⟨dI bt, true, false⟩, some ⟨dI dn, false, true⟩, none, none, none]
              cases o with
              | none => simp [cleanL]
              | some t => simp [cleanL, ho t rfl]
            walk_at "kw"
            refine And.intro ⟨rfl, clean_of ?_⟩ ?_
            · walk_at "kw"
              simp [cleanL]
              show cleanL 10 10 [some ⟨dI M, true, false⟩, o, some ⟨dI bt, true, false⟩, some ⟨dI dn, true, false⟩, none, none, none] [some ⟨dI M, false, true⟩, o, some ⟨dI bt, true, false⟩, some ⟨dI dn, true, false⟩, none, none, none]
              cases o with
              | none => simp [cleanL]
              | some t => simp [cleanL, ho t rfl]
            walk_at "k"
            refine call_eq q1 ?_
            walk_at "k"
            refine call_eq q2 ?_
            walk_at "k"
        · (walk_at "kw")
          apply viaK
          intro KK
          refine selD (fun lt => ?_) (fun _ => KK)
          · (walk_at "kw"; (refine ⟨_, atI_at (by first | decide | omega | (rw [List.length_map]; omega)) (by first | decide | omega | (rw [List.length_map]; omega)), ?_⟩); walk_at "kw"; (((with_reducible apply And.intro); (· walk_at "ks"))); walk_at "kw")
            refine selE (fun e => ?_) (fun _ => KK)
            · have b28 := dd.at' 28
              (walk_at "kw"; (refine ⟨_, atI_at (by first | decide | omega | (rw [List.length_map]; omega)) (by first | decide | omega | (rw [List.length_map]; omega)), ?_⟩); walk_at "kw"; (((with_reducible apply And.intro); (· walk_at "ks"))); walk_at "kw"; (((with_reducible apply And.intro); (· walk_at "ks"))); walk_at "kw"; change ∃ Qd, w__law_from [PyData.int s, PyData.int p, PyData.int g, PyData.int (min (↑m - 1) (31 + at' ds 28 % 70))] Qd ∧ _)
              obtain ⟨k, ek⟩ := Int.eq_ofNat_of_zero_le (by omega : 0 ≤ min ((m : Int) - 1) (31 + at' ds 28 % 70))
              have f1 := fr s k (by omega)
              have f2 := aN k (by omega) (by omega) (by omega)
              rw [ek]
              refine call_eq f1 ?_
              walk_at "k"
              refine call_eq f2 ?_
              walk_at "k"
              exact hN ⟨some ⟨.int k, true, false⟩, fun t e => by cases e; rfl⟩
          exact hN ⟨none, fun t e => by cases e⟩
      · (walk_at "kw"; (refine ⟨_, atI_at (by first | decide | omega | (rw [List.length_map]; omega)) (by first | decide | omega | (rw [List.length_map]; omega)), ?_⟩); walk_at "kw"; (((with_reducible apply And.intro); (· walk_at "ks"))); walk_at "kw")
        refine selE (fun h => ?_) (fun h => ?_)
        · (walk_at "kw"; (refine ⟨_, atI_at (by first | decide | omega | (rw [List.length_map]; omega)) (by first | decide | omega | (rw [List.length_map]; omega)), ?_⟩); walk_at "kw"; (((with_reducible apply And.intro); (· walk_at "ks"))); walk_at "kw"; (((with_reducible apply And.intro); (· walk_at "ks"))); walk_at "kw")
          exact hN _
        · (walk_at "kw")
          exact hN _
    · (walk_at "kw")
      refine selE (fun h => ?_) (fun h => ?_)
      · obtain ⟨x, ys, e1, e2⟩ := start_full C h1 h (at' ds 7 % p)
        have g0 : atI ((srt (cf (at' ds 7 % p) p g c)).map PyData.int) 0 = some (.int x) := by rw [e1]; exact atI_nat (j := 0) rfl
        have ex : at' (srt (cf (at' ds 7 % p) p g c)) 0 = x := by rw [e1]; rfl
        rw [← ex] at e2
        clear g0
        (walk_at "kw"; (refine ⟨_, atI_at (by first | decide | omega | (rw [List.length_map]; omega)) (by first | decide | omega | (rw [List.length_map]; omega)), ?_⟩); walk_at "kw")
        exact hN ⟨_, e2⟩
      · (walk_at "kw")
        exact hN ⟨at' ds 7 % p, start_of C h1 (by omega) s0 s1⟩
  · (walk_at "kw")
    apply viaK
    intro KK
    refine selD (fun lt => ?_) (fun _ => KK)
    · (walk_at "kw"; (refine ⟨_, atI_at (by first | decide | omega | (rw [List.length_map]; omega)) (by first | decide | omega | (rw [List.length_map]; omega)), ?_⟩); walk_at "kw"; (((with_reducible apply And.intro); (· walk_at "ks"))); walk_at "kw")
      refine selE (fun e => ?_) (fun _ => KK)
      · (walk_at "kw")
        have lt : (m : Int) ≤ 30 := lt
        exact hN ⟨m, by omega, by omega, by omega⟩
    obtain ⟨k, ek⟩ := Int.eq_ofNat_of_zero_le (by omega : 0 ≤ min (c0 : Int) (1 + at' ds 5 % 30))
    have go := hN ⟨k, by omega, by omega, by omega⟩
    (walk_at "kw")
    rw [ek]
    exact go
/-! rotations -/
def rotL (xs : List Int) (b : Int) : List Int := (List.range xs.length).map fun k : Nat => at' xs ((b + (k : Int)) % (xs.length : Int))
theorem rot_len (xs : List Int) (b : Int) : (rotL xs b).length = xs.length := by simp [rotL]
theorem rot_at {xs : List Int} {b : Int} {k : Int} (h0 : 0 ≤ k) (h1 : k < xs.length) : at' (rotL xs b) k = at' xs ((b + k) % (xs.length : Int)) := by
  obtain ⟨j, rfl⟩ := Int.eq_ofNat_of_zero_le h0
  rw [at'_nat (by rw [rot_len]; omega)]
  simp [rotL]
theorem ext_at {xs ys : List Int} (h : xs.length = ys.length) (e : ∀ k : Nat, k < xs.length → at' xs (k : Int) = at' ys (k : Int)) : xs = ys :=
  List.ext_getElem h fun k h1 h2 => by
    have := e k h1
    rw [at'_nat h1, at'_nat h2] at this
    exact this
theorem rot_mod (xs : List Int) (b : Int) : rotL xs (b % (xs.length : Int)) = rotL xs b := by
  unfold rotL
  refine List.map_congr_left fun k _ => ?_
  rw [Int.emod_add_emod]
theorem rot_rot (xs : List Int) (a b : Int) : rotL (rotL xs a) b = rotL xs (a + b) := by
  refine ext_at (by simp [rot_len]) fun k hk => ?_
  rw [rot_len, rot_len] at hk
  have n0 : (xs.length : Int) ≠ 0 := by omega
  have m0 := Int.emod_nonneg (b + k) n0
  have m1 := Int.emod_lt_of_pos (b + k) (by omega : (0 : Int) < xs.length)
  rw [rot_at (by omega) (by rw [rot_len]; omega), rot_len, rot_at m0 m1, rot_at (by omega) (by omega), Int.add_emod_emod, Int.add_assoc]
theorem rot_zero (xs : List Int) : rotL xs 0 = xs := by
  refine ext_at (rot_len _ _) fun k hk => ?_
  rw [rot_len] at hk
  rw [rot_at (by omega) (by omega), Int.zero_add, Int.emod_eq_of_lt (by omega) (by omega)]
theorem rot_all (xs : List Int) : rotL xs (xs.length : Int) = xs := by
  rw [← rot_mod, Int.emod_self, rot_zero]
theorem rot_cut {xs : List Int} {a : Nat} (ha : a < xs.length) : xs.drop a ++ xs.take a = rotL xs (a : Int) := by
  refine ext_at (by rw [rot_len]; simp; omega) fun k hk => ?_
  have hk : k < xs.length := by simp at hk; omega
  rw [rot_at (by omega) (by omega), at'_nat (by simp; omega)]
  by_cases c : k < xs.length - a
  · rw [List.getElem_append_left (by simp; omega), List.getElem_drop, Int.emod_eq_of_lt (by omega) (by omega), show (a : Int) + (k : Int) = ((a + k : Nat) : Int) by omega, at'_nat (by omega)]
  · rw [List.getElem_append_right (by simp; omega), List.getElem_take]
    have e : ((a : Int) + k) % (xs.length : Int) = ((a + k - xs.length : Nat) : Int) := by
      rw [← Int.sub_emod_right, Int.emod_eq_of_lt (by omega) (by omega)]
      omega
    rw [e, at'_nat (by omega)]
    congr 1
    simp
    omega
structure IsPer (xs : List Int) (c : Nat) : Prop where
  pos : 0 < c
  le : c ≤ xs.length
  same : rotL xs c = xs
  least : ∀ i : Nat, 0 < i → i < c → rotL xs (i : Int) ≠ xs
theorem least_pos {P : Nat → Prop} : ∀ d, 0 < d → P d → ∃ p, 0 < p ∧ p ≤ d ∧ P p ∧ ∀ i, 0 < i → i < p → ¬ P i := by
  intro d
  induction d using Nat.strongRecOn with
  | _ d ih =>
    intro h0 hP
    by_cases q : ∃ i, 0 < i ∧ i < d ∧ P i
    · obtain ⟨i, h1, h2, h3⟩ := q
      obtain ⟨p, a, b, c, e⟩ := ih i h2 h1 h3
      exact ⟨p, a, by omega, c, e⟩
    · exact ⟨d, h0, Nat.le_refl d, hP, fun i h1 h2 h3 => q ⟨i, h1, h2, h3⟩⟩
theorem per_ex {xs : List Int} (h : xs ≠ []) : ∃ c, IsPer xs c := by
  obtain ⟨p, a, b, c, e⟩ := least_pos (P := fun d : Nat => rotL xs (d : Int) = xs) xs.length (List.length_pos_iff.mpr h) (rot_all xs)
  exact ⟨p, a, b, c, e⟩
theorem per_mul {xs : List Int} {c : Nat} (h : IsPer xs c) : ∀ q : Nat, rotL xs ((q : Int) * c) = xs
  | 0 => by rw [Int.ofNat_zero, Int.zero_mul, rot_zero]
  | q + 1 => by
    rw [show ((q + 1 : Nat) : Int) * c = (q : Int) * c + c by rw [Int.natCast_add, Int.add_mul]; omega, ← rot_rot, per_mul h q, h.same]
theorem per_mod {xs : List Int} {c : Nat} (h : IsPer xs c) (b : Nat) : rotL xs (b : Int) = rotL xs ((b % c : Nat) : Int) := by
  have e : (b : Int) = ((b / c : Nat) : Int) * c + ((b % c : Nat) : Int) := by
    have := Nat.div_add_mod b c
    rw [Nat.mul_comm] at this
    exact_mod_cast this.symm
  conv => lhs; rw [e, ← rot_rot, per_mul h]
theorem per_dvd {xs : List Int} {c : Nat} (h : IsPer xs c) : xs.length % c = 0 := by
  have a := per_mod h xs.length
  rw [rot_all] at a
  by_cases z : xs.length % c = 0
  · exact z
  · exact absurd a.symm (h.least _ (by omega) (Nat.mod_lt _ h.pos))
theorem per_unlike {xs : List Int} {c : Nat} (h : IsPer xs c) {i j : Nat} (hi : i < j) (hj : j < c) : rotL xs (i : Int) ≠ rotL xs (j : Int) := fun e => by
  have := congrArg (fun ys => rotL ys (-(i : Int))) e
  simp only [rot_rot] at this
  rw [show (i : Int) + -(i : Int) = 0 by omega, rot_zero, show (j : Int) + -(i : Int) = ((j - i : Nat) : Int) by omega] at this
  exact h.least (j - i) (by omega) (by omega) this.symm
/-! sums -/
def sumsL (xs : List Int) : List Int := (List.range xs.length).map fun k => (xs.take k).sum
theorem sums_len (xs : List Int) : (sumsL xs).length = xs.length := by simp [sumsL]
theorem sums_app (q : List Int) (x : Int) : sumsL (q ++ [x]) = sumsL q ++ [q.sum] := by
  unfold sumsL
  rw [List.length_append, List.length_singleton, List.range_succ, List.map_append]
  congr 1
  · refine List.map_congr_left fun k hk => ?_
    have := List.mem_range.mp hk
    rw [List.take_append_of_le_length (by omega)]
  · simp
theorem rotated_ok {xs : List Int} (ne : xs ≠ []) (hl : xs.length ≤ 1000) (b : Int) : w_rotated_gaps [dI xs, .int b] (· = dI (rotL xs b)) := by
  have line := line_big
  have lp : 0 < xs.length := List.length_pos_iff.mpr ne
  have lm : (xs.map PyData.int).length = xs.length := List.length_map ..
  have m0 := Int.emod_nonneg b (by omega : ((xs.map PyData.int).length : Int) ≠ 0)
  have m1 := Int.emod_lt_of_pos b (by omega : (0 : Int) < ((xs.map PyData.int).length : Int))
  obtain ⟨a, ea⟩ := Int.eq_ofNat_of_zero_le m0
  have ha : a < xs.length := by omega
  have c1 : KT.cutD (xs.map PyData.int) (some (a : Int)) none = (xs.drop a).map PyData.int := cutD_from PyData.int xs a
  have c2 : KT.cutD (xs.map PyData.int) none (some (a : Int)) = (xs.take a).map PyData.int := cutD_to PyData.int xs a
  have e := rot_cut ha
  rw [← ea, lm, rot_mod] at e
  rw [← ea] at c1 c2
  rw [← e]
  have i1 : immL ((xs.drop a).map PyData.int) = true := imm_ints _
  have i2 : immL ((xs.take a).map PyData.int) = true := imm_ints _
  have i3 : ((xs.drop a).map PyData.int).length + ((xs.take a).map PyData.int).length = xs.length := by simp; omega
  clear e
  (walk_at "kw"; (((with_reducible apply And.intro); (· walk_at "ks"))); walk_at "kw")
  rw [c1, c2]
  refine ⟨⟨i1, i2, by omega⟩, ?_⟩
  (walk_at "kw"; (((with_reducible apply And.intro); (· walk_at "ks"))); walk_at "kw")
  unfold dI
  rw [List.map_append]
theorem law_rotated_ok {xs : List Int} (ne : xs ≠ []) (hl : xs.length ≤ 1000) (b : Int) : w__law_rotated [dI xs, .int b] (· = dI (rotL xs b)) := by
  have line := line_big
  have lp : 0 < xs.length := List.length_pos_iff.mpr ne
  have lm : (xs.map PyData.int).length = xs.length := List.length_map ..
  (walk_at "kw"; (((with_reducible apply And.intro); (· walk_at "ks"))); walk_at "kw")
  rw [lm]
  refine lc_rgI (fun k : Nat => at' xs ((b + (k : Int)) % (xs.length : Int))) (rotL xs b) (by omega) (fun k hk acc K ha hK => ?_) (by rw [show ((xs.length : Int)).toNat = xs.length by omega]; rfl) ?_
  · have m0 := Int.emod_nonneg (b + (k : Int)) (by omega : (xs.length : Int) ≠ 0)
    have m1 := Int.emod_lt_of_pos (b + (k : Int)) (by omega : (0 : Int) < (xs.length : Int))
    have g : atI (xs.map PyData.int) ((b + (k : Int)) % ((xs.map PyData.int).length : Int)) = some (.int (at' xs ((b + (k : Int)) % (xs.length : Int)))) := by rw [lm]; exact atI_at m0 m1
    rw [Int.zero_add]
    (walk_at "kw"; (((with_reducible apply And.intro); (· walk_at "ks"))); walk_at "kw"; (refine ⟨_, atI_at (by first | decide | omega | (rw [List.length_map]; omega)) (by first | decide | omega | (rw [List.length_map]; omega)), ?_⟩); walk_at "kw"; (((with_reducible apply And.intro); (· walk_at "ks"))); walk_at "kw")
    rw [lm]
    exact hK
  (walk_at "kw"; (((with_reducible apply And.intro); (· walk_at "ks"))); walk_at "kw"; (rfl))
theorem notes_of_ok {xs : List Int} (hl : xs.length ≤ 1000) : w_notes_of [dI xs] (· = dI (sumsL xs)) := by
  have line := line_big
  (walk_at "kw"; (((with_reducible apply And.intro); (· walk_at "ks"))); walk_at "kw")
  rw [show ownN (xs.map PyData.int) false = false by unfold ownN; split <;> rfl]
  refine forN_st (enc := PyData.int) [1, 2] (fun q : List Int => [sL (sumsL q), sI q.sum]) (fun q a => a = q) [] rfl rfl rfl rfl rfl (fun q x q2 e a ha R hR => ?_) (fun a ha => ?_)
  · subst ha
    have go := fun δ' => hR (a ++ [x]) δ' rfl
    have lq : a.length ≤ 1000 := by rw [e] at hl; simp at hl; omega
    have ls : ((sumsL a).map PyData.int).length < sizeLine := by rw [List.length_map, sums_len]; omega
    rw [sums_app, List.sum_append] at go
    simp only [List.sum_cons, List.sum_nil, Int.add_zero] at go
    unfold sL at go
    rw [← dI_app] at go
    clear hR e
    (walk_at "kw"; (((with_reducible apply And.intro); (· walk_at "ks"))); walk_at "kw")
    exact go _ rfl
  · subst ha
    (walk_at "kw"; (((with_reducible apply And.intro); (· walk_at "ks"))); walk_at "kw"; (rfl))
theorem law_sums_ok {xs : List Int} (hl : xs.length ≤ 1000) : w__law_sums [dI xs] (· = dI (sumsL xs)) := by
  have line := line_big
  (walk_at "kw"; (((with_reducible apply And.intro); (· walk_at "ks"))); walk_at "kw")
  rw [show ownN (xs.map PyData.int) false = false by unfold ownN; split <;> rfl]
  refine forN_st (enc := PyData.int) [1, 2] (fun q : List Int => [sL (sumsL q), sI q.sum]) (fun q a => a = q) [] rfl rfl rfl rfl rfl (fun q x q2 e a ha R hR => ?_) (fun a ha => ?_)
  · subst ha
    have go := fun δ' => hR (a ++ [x]) δ' rfl
    have lq : a.length ≤ 1000 := by rw [e] at hl; simp at hl; omega
    have ls : ((sumsL a).map PyData.int).length < sizeLine := by rw [List.length_map, sums_len]; omega
    rw [sums_app, List.sum_append] at go
    simp only [List.sum_cons, List.sum_nil, Int.add_zero] at go
    unfold sL at go
    rw [← dI_app] at go
    clear hR e
    (walk_at "kw"; (((with_reducible apply And.intro); (· walk_at "ks"))); walk_at "kw")
    exact go _ rfl
  · subst ha
    (walk_at "kw"; (((with_reducible apply And.intro); (· walk_at "ks"))); walk_at "kw"; (rfl))
theorem mode_count_ok {xs : List Int} {c : Nat} (h : IsPer xs c) (hl : xs.length ≤ 1000) : w_mode_count [dI xs] (· = .int c) := by
  have line := line_big
  have ne : xs ≠ [] := fun e => by have a := h.pos; have b := h.le; rw [e] at b; simp at b; omega
  have cl := h.le
  (walk_at "kw")
  refine wh_st [1] (fun b : Nat => [sI b]) (fun n b => n = c - b ∧ 0 < b ∧ b ≤ c) (c - 1) 1 ⟨rfl, by decide, h.pos⟩ rfl (fun n b hb P hP => ?_)
  obtain ⟨e1, e2, e3⟩ := hb
  have ro := rotated_ok ne hl (b : Int)
  have go := fun (lt : b < c) δ' => hP (n - 1) (b + 1) δ' (by omega) ⟨by omega, by omega, by omega⟩
  clear hP
  walk_at "k"
  refine call_eq ro ?_
  walk_at "kw"
  refine neI (fun k => ?_) (fun k => ?_)
  · have lt : b < c := by
      rcases Nat.lt_or_ge b c with q | q
      · exact q
      · have : b = c := by omega
        subst this
        exact absurd h.same k
    (walk_at "kw")
    exact go lt _ rfl
  · have e : b = c := by
      rcases Nat.lt_or_ge b c with q | q
      · exact absurd k (h.least b e2 q)
      · omega
    subst e
    (walk_at "kw"; (((with_reducible apply And.intro); (· walk_at "ks"))); walk_at "kw"; (rfl))
theorem law_count_ok {xs : List Int} {c : Nat} (h : IsPer xs c) (hl : xs.length ≤ 1000) : w__law_count [dI xs] (· = .int c) := by
  have line := line_big
  have ne : xs ≠ [] := fun e => by have a := h.pos; have b := h.le; rw [e] at b; simp at b; omega
  have cl := h.le
  have lm : (xs.map PyData.int).length = xs.length := List.length_map ..
  (walk_at "kw"; (((with_reducible apply And.intro); (· walk_at "ks"))); walk_at "kw")
  rw [lm]
  refine forR_st [] (fun _ : Unit => []) (fun k _ => k + 1 ≤ c) () h.pos rfl (fun k hk _ hs R hR => ?_) (fun _ hs => ?_)
  · have hk : k + 1 < xs.length := by omega
    have ro := law_rotated_ok ne hl (1 + (k : Int))
    have go := fun (lt : k + 1 < c) δ' => hR () δ' lt
    clear hR
    walk_at "k"
    refine call_eq ro ?_
    walk_at "kw"
    refine eqI (fun e => ?_) (fun e => ?_)
    · have ec : k + 1 = c := by
        rcases Nat.lt_or_ge (k + 1) c with q | q
        · exact absurd (by rw [← e]; congr 1; omega) (h.least (k + 1) (by omega) q)
        · omega
      walk_at "k"
      show PyData.int (1 + (k : Int)) = PyData.int (c : Int)
      congr 1
      omega
    · have lt : k + 1 < c := by
        rcases Nat.lt_or_ge (k + 1) c with q | q
        · exact q
        · have : c = k + 1 := by omega
          have s := h.same
          rw [this] at s
          exact absurd (by rw [← s]; congr 1; omega) e
      walk_at "k"
      exact go lt _ rfl
  · have hs : ((xs.length : Int) - 1).toNat + 1 ≤ c := hs
    have e : c = xs.length := by have := h.pos; omega
    (walk_at "kw"; (((with_reducible apply And.intro); (· walk_at "ks"))); walk_at "kw")
    show PyData.int ((xs.map PyData.int).length : Int) = PyData.int (c : Int)
    rw [lm, e]
theorem modes_ok {xs : List Int} {c : Nat} (h : IsPer xs c) (hl : xs.length ≤ 1000) : w_modes [dI xs] (· = dL dI ((List.range c).map fun k : Nat => rotL xs (k : Int))) := by
  have line := line_big
  have ne : xs ≠ [] := fun e => by have a := h.pos; have b := h.le; rw [e] at b; simp at b; omega
  have cl := h.le
  have mc := mode_count_ok h hl
  (walk_at "kw"; (((with_reducible apply And.intro); (· walk_at "ks"))); walk_at "kw"; (refine call_eq mc ?_); walk_at "kw"; (((with_reducible apply And.intro); (· walk_at "ks"))); walk_at "kw")
  refine lc_rgL (enc2 := dI) (fun k : Nat => rotL xs (k : Int)) _ (by omega) (fun k hk acc K ha hK => ?_) rfl ?_
  · have ro := rotated_ok ne hl (k : Int)
    rw [Int.zero_add]
    (walk_at "kw"; (((with_reducible apply And.intro); (· walk_at "ks"))); walk_at "kw"; (refine call_eq ro ?_); walk_at "kw"; (((with_reducible apply And.intro); (· walk_at "ks"))); walk_at "kw")
    exact hK
  (walk_at "kw"; (((with_reducible apply And.intro); (· walk_at "ks"))); walk_at "kw"; (rfl))
theorem law_brighter_ok {a b : List Int} (e : a.length = b.length) (hl : a.length ≤ 1000) : w__law_brighter [dI a, dI b] (· = .bool (ltL b a)) := by
  have line := line_big
  have lm : (a.map PyData.int).length = a.length := List.length_map ..
  have lm2 : (b.map PyData.int).length = b.length := List.length_map ..
  (walk_at "kw"; (((with_reducible apply And.intro); (· walk_at "ks"))); walk_at "kw")
  rw [lm]
  refine forR_st [] (fun _ : Unit => []) (fun k _ => ltL b a = ltL (b.drop k) (a.drop k)) () rfl rfl (fun k hk _ hs R hR => ?_) (fun _ hs => ?_)
  · have hk : k < a.length := by omega
    have da : a.drop k = a[k] :: a.drop (k + 1) := List.drop_eq_getElem_cons hk
    have db : b.drop k = b[k] :: b.drop (k + 1) := List.drop_eq_getElem_cons (by omega)
    have ga : at' a (k : Int) = a[k] := at'_nat hk
    have gb : at' b (k : Int) = b[k] := at'_nat (by omega)
    rw [da, db] at hs
    have hs : ltL b a = if b[k] = a[k] then ltL (b.drop (k + 1)) (a.drop (k + 1)) else decide (b[k] < a[k]) := hs
    have go := fun (e : b[k] = a[k]) δ' => hR () δ' (by rw [hs, if_pos e])
    have no : b[k] ≠ a[k] → ltL b a = decide (b[k] < a[k]) := fun h => by rw [hs, if_neg h]
    clear hR da db hs
    rw [← ga, ← gb] at go no
    rw [Int.zero_add]
    (walk_at "kw"; (refine ⟨_, atI_at (by first | decide | omega | (rw [List.length_map]; omega)) (by first | decide | omega | (rw [List.length_map]; omega)), ?_⟩); walk_at "kw"; (refine ⟨_, atI_at (by first | decide | omega | (rw [List.length_map]; omega)) (by first | decide | omega | (rw [List.length_map]; omega)), ?_⟩); walk_at "kw")
    refine selN (fun h => ?_) (fun h => ?_)
    · rw [no (fun q => h q.symm)]
      (walk_at "kw"; (refine ⟨_, atI_at (by first | decide | omega | (rw [List.length_map]; omega)) (by first | decide | omega | (rw [List.length_map]; omega)), ?_⟩); walk_at "kw"; (refine ⟨_, atI_at (by first | decide | omega | (rw [List.length_map]; omega)) (by first | decide | omega | (rw [List.length_map]; omega)), ?_⟩); walk_at "kw"; (((with_reducible apply And.intro); (· walk_at "ks"))); walk_at "kw")
    · (walk_at "kw")
      exact go h.symm _ rfl
  · have hs : ltL b a = ltL (b.drop (a.length : Int).toNat) (a.drop (a.length : Int).toNat) := hs
    rw [hs, List.drop_of_length_le (by omega), List.drop_of_length_le (by omega)]
    (walk_at "kw"; (((with_reducible apply And.intro); (· walk_at "ks"))); walk_at "kw"; (rfl))
def brF (xs : List Int) : Nat → Nat
  | 0 => 0
  | k + 1 => if ltL (sumsL (rotL xs (brF xs k : Nat))) (sumsL (rotL xs (1 + (k : Int)))) = true then k + 1 else brF xs k
theorem brightest_ok {xs : List Int} (ne : xs ≠ []) (hl : xs.length ≤ 1000) : w_brightest [dI xs] (· = .int (brF xs (xs.length - 1) : Nat)) := by
  have line := line_big
  have lp : 0 < xs.length := List.length_pos_iff.mpr ne
  have lm : (xs.map PyData.int).length = xs.length := List.length_map ..
  (walk_at "kw"; (((with_reducible apply And.intro); (· walk_at "ks"))); walk_at "kw")
  rw [lm]
  refine forR_st [1] (fun b : Nat => [sI b]) (fun k b => b = brF xs k) 0 rfl rfl (fun k hk b hb R hR => ?_) (fun b hb => ?_)
  · subst hb
    have r1 := rotated_ok ne hl (1 + (k : Int))
    have r2 := rotated_ok ne hl ((brF xs k : Nat) : Int)
    have n1 := notes_of_ok (xs := rotL xs (1 + (k : Int))) (by rw [rot_len]; exact hl)
    have n2 := notes_of_ok (xs := rotL xs ((brF xs k : Nat) : Int)) (by rw [rot_len]; exact hl)
    have go := fun δ' => hR (brF xs (k + 1)) δ' rfl
    simp only [brF] at go
    clear hR
    generalize brF xs k = b at *
    walk_at "k"
    refine call_eq r1 ?_
    walk_at "k"
    refine call_eq n1 ?_
    walk_at "k"
    refine call_eq r2 ?_
    walk_at "k"
    refine call_eq n2 ?_
    walk_at "k"
    refine ⟨_, _, ⟨rfl, rfl⟩, ?_⟩
    cases hb : ltL (sumsL (rotL xs (b : Int))) (sumsL (rotL xs (1 + (k : Int)))) with
    | true =>
      rw [hb, if_pos rfl, show ((k + 1 : Nat) : Int) = 1 + (k : Int) by omega] at go
      walk_at "k"
      exact go _ rfl
    | false =>
      rw [hb, if_neg (by decide)] at go
      walk_at "k"
      exact go _ rfl
  · rw [hb, show ((xs.length : Int) - 1).toNat = xs.length - 1 by omega]
    (walk_at "kw"; (((with_reducible apply And.intro); (· walk_at "ks"))); walk_at "kw"; (rfl))
theorem law_brightest_ok {xs : List Int} (ne : xs ≠ []) (hl : xs.length ≤ 1000) : w__law_brightest [dI xs] (· = .int (brF xs (xs.length - 1) : Nat)) := by
  have line := line_big
  have lp : 0 < xs.length := List.length_pos_iff.mpr ne
  have lm : (xs.map PyData.int).length = xs.length := List.length_map ..
  (walk_at "kw"; (((with_reducible apply And.intro); (· walk_at "ks"))); walk_at "kw")
  rw [lm]
  refine forR_st [1] (fun b : Nat => [sI b]) (fun k b => b = brF xs k) 0 rfl rfl (fun k hk b hb R hR => ?_) (fun b hb => ?_)
  · subst hb
    have r1 := law_rotated_ok ne hl (1 + (k : Int))
    have r2 := law_rotated_ok ne hl ((brF xs k : Nat) : Int)
    have n1 := law_sums_ok (xs := rotL xs (1 + (k : Int))) (by rw [rot_len]; exact hl)
    have n2 := law_sums_ok (xs := rotL xs ((brF xs k : Nat) : Int)) (by rw [rot_len]; exact hl)
    have br := law_brighter_ok (a := sumsL (rotL xs (1 + (k : Int)))) (b := sumsL (rotL xs ((brF xs k : Nat) : Int))) (by rw [sums_len, sums_len, rot_len, rot_len]) (by rw [sums_len, rot_len]; exact hl)
    have go := fun δ' => hR (brF xs (k + 1)) δ' rfl
    simp only [brF] at go
    clear hR
    generalize brF xs k = b at *
    walk_at "k"
    refine call_eq r1 ?_
    walk_at "k"
    refine call_eq n1 ?_
    walk_at "k"
    refine call_eq r2 ?_
    walk_at "k"
    refine call_eq n2 ?_
    walk_at "k"
    refine call_eq br ?_
    cases hb : ltL (sumsL (rotL xs (b : Int))) (sumsL (rotL xs (1 + (k : Int)))) with
    | true =>
      rw [hb, if_pos rfl, show ((k + 1 : Nat) : Int) = 1 + (k : Int) by omega] at go
      walk_at "k"
      exact go _ rfl
    | false =>
      rw [hb, if_neg (by decide)] at go
      walk_at "k"
      exact go _ rfl
  · rw [hb, show ((xs.length : Int) - 1).toNat = xs.length - 1 by omega]
    (walk_at "kw"; (((with_reducible apply And.intro); (· walk_at "ks"))); walk_at "kw"; (rfl))
theorem asks_rotations_ok {xs : List Int} (ne : xs ≠ []) (hl : xs.length ≤ 1000) (ts : List Int) : w__law_asks_rotations [dI xs, dI ts] (· = .bool true) := by
  have line := line_big
  have lp : 0 < xs.length := List.length_pos_iff.mpr ne
  have i1 : immL (xs.map PyData.int) = true := imm_ints _
  have n1 := notes_of_ok hl
  have n2 := law_sums_ok hl
  have s1 := same_numbers_refl (sumsL xs) (by rw [sums_len]; omega)
  (walk_at "kw"; (((with_reducible apply And.intro); (· walk_at "ks"))); walk_at "kw")
  rw [show ownN (ts.map PyData.int) false = false by unfold ownN; split <;> rfl]
  refine forN_same (enc := PyData.int) rfl rfl (fun q x q2 e R hR => ?_) ?_
  · have r1 := rotated_ok ne hl x
    have r2 := law_rotated_ok ne hl x
    have lr := rot_len xs x
    have s2 := same_numbers_refl (rotL xs x) (by omega)
    have n3 := notes_of_ok (xs := rotL xs x) (by omega)
    have n4 := law_sums_ok (xs := rotL xs x) (by omega)
    have s3 := same_numbers_refl (sumsL (rotL xs x)) (by rw [sums_len]; omega)
    have ix : ixN ((rotL xs x).map PyData.int).length 0 = some 0 := ixN_nat (by omega) (by rw [List.length_map]; omega)
    clear e
    generalize rotL xs x = ro at *
    walk_at "k"
    refine call_eq r1 ?_
    walk_at "kw"
    refine ne_m (shp_dI xs) rfl ?_
    walk_at "k"
    refine call_eq r2 ?_
    walk_at "k"
    refine call_eq s2 ?_
    walk_at "k"
    refine call_eq n3 ?_
    walk_at "k"
    refine call_eq n4 ?_
    walk_at "k"
    refine call_eq s3 ?_
    walk_at "k"
    exact hR _ rfl
  · (walk_at "kw"; (((with_reducible apply And.intro); (· walk_at "ks"))); walk_at "kw"; (refine call_eq n1 ?_); walk_at "kw"; (((with_reducible apply And.intro); (· walk_at "ks"))); walk_at "kw"; (refine call_eq n2 ?_); walk_at "kw"; (((with_reducible apply And.intro); (· walk_at "ks"))); walk_at "kw"; (refine call_eq s1 ?_); walk_at "kw")
    refine ⟨⟨(shp_dI xs).sh, (shp_dI xs).sh⟩, rfl, ?_⟩
    show PyData.bool (ng false (PyData.eqv (dI xs) (dI xs))) = _
    rw [eqv_self (shp_dI xs)]
    rfl
theorem asks_modes_ok {xs : List Int} (ne : xs ≠ []) (hl : xs.length ≤ 1000) : w__law_asks_modes [dI xs] (· = .bool true) := by
  have line := line_big
  obtain ⟨c, h⟩ := per_ex ne
  have lp : 0 < xs.length := List.length_pos_iff.mpr ne
  have lm : (xs.map PyData.int).length = xs.length := List.length_map ..
  have i1 : immL (xs.map PyData.int) = true := imm_ints _
  have c1 := law_count_ok h hl
  have c2 := mode_count_ok h hl
  have md := modes_ok h hl
  have dv := per_dvd h
  have dz : ((xs.map PyData.int).length : Int) % (c : Int) = 0 := by rw [lm]; omega
  have cp := h.pos
  have lM : (((List.range c).map fun k : Nat => rotL xs (k : Int)).map dI).length = c := by simp
  (walk_at "kw"; (((with_reducible apply And.intro); (· walk_at "ks"))); walk_at "kw"; (refine call_eq c1 ?_); walk_at "kw"; (((with_reducible apply And.intro); (· walk_at "ks"))); walk_at "kw"; (((with_reducible apply And.intro); (· walk_at "ks"))); walk_at "kw"; (refine call_eq c2 ?_); walk_at "kw"; (((with_reducible apply And.intro); (· walk_at "ks"))); walk_at "kw"; change ∃ Qd, w__law_is_number [PyData.int ↑c] Qd ∧ _)
  refine call_eq (is_number_ok (.int (c : Int))) ?_
  walk_at "k"
  refine selN (fun q => absurd rfl q) (fun _ => ?_)
  walk_at "k"
  refine selN (fun q => absurd dz q) (fun _ => ?_)
  walk_at "k"
  refine call_eq md ?_
  walk_at "k"
  refine selN (fun q => absurd (by rw [lM]) q) (fun _ => ?_)
  have gM : ∀ k : Nat, k < c → atI (((List.range c).map fun k : Nat => rotL xs (k : Int)).map dI) (k : Int) = some (dI (rotL xs (k : Int))) := fun k hk => atI_nat (by rw [List.getElem?_map, List.getElem?_map, List.getElem?_range hk]; rfl)
  have inM : ∀ (k : Nat) (b : Int), k ≤ c → (((((List.range c).map fun k : Nat => rotL xs (k : Int)).take k).map dI).any fun z => PyData.eqv z (dI (rotL xs b))) = true → ∃ i : Nat, i < k ∧ rotL xs (i : Int) = rotL xs b := fun k b hk hb => by
    obtain ⟨z, hz, e⟩ := List.any_eq_true.mp hb
    obtain ⟨ys, hy, rfl⟩ := List.mem_map.mp hz
    obtain ⟨i, hi, rfl⟩ := List.getElem_of_mem hy
    rw [eqv_dI, decide_eq_true_eq, List.getElem_take, List.getElem_map, List.getElem_range] at e
    rw [List.length_take] at hi
    exact ⟨i, by omega, e⟩
  have allM : ∀ b : Nat, ((((List.range c).map fun k : Nat => rotL xs (k : Int)).map dI).any fun z => PyData.eqv z (dI (rotL xs (b : Int)))) = true := fun b => by
    refine List.any_eq_true.mpr ⟨dI (rotL xs ((b % c : Nat) : Int)), List.mem_map.mpr ⟨_, List.mem_map.mpr ⟨b % c, List.mem_range.mpr (Nat.mod_lt _ cp), rfl⟩, rfl⟩, ?_⟩
    rw [eqv_dI, decide_eq_true_eq]
    exact (per_mod h b).symm
  have shM : ∀ Y : List (List Int), shp 3 (dL dI Y) := fun Y => shp_dL shp_dI Y
  have cc : c = xs.length ∨ c < xs.length := by have := h.le; omega
  walk_at "k"
  rw [show ((c : Int)).toNat = c by omega]
  refine forR_same (fun k hk R hR => ?_) ?_
  · have r2 := law_rotated_ok ne hl (k : Int)
    have s2 := same_numbers_refl (rotL xs (k : Int)) (by rw [rot_len]; omega)
    have g := gM k hk
    have ct : KT.cutD (((List.range c).map fun k : Nat => rotL xs (k : Int)).map dI) none (some (k : Int)) = (((List.range c).map fun k : Nat => rotL xs (k : Int)).take k).map dI := cutD_to dI _ k
    have no : (((((List.range c).map fun k : Nat => rotL xs (k : Int)).take k).map dI).any fun z => PyData.eqv z (dI (rotL xs (k : Int)))) = false := by
      cases e : (((((List.range c).map fun k : Nat => rotL xs (k : Int)).take k).map dI).any fun z => PyData.eqv z (dI (rotL xs (k : Int)))) with
      | false => rfl
      | true =>
        obtain ⟨i, hi, e2⟩ := inM k k (by omega) e
        exact absurd e2 (per_unlike h hi hk)
    have sh1 := (shM (((List.range c).map fun k : Nat => rotL xs (k : Int)).take k)).sh
    have sh2 := (shp_dI (rotL xs (k : Int))).sh
    rw [Int.zero_add]
    walk_at "k"
    refine ⟨_, g, ?_⟩
    walk_at "k"
    refine call_eq r2 ?_
    walk_at "k"
    refine call_eq s2 ?_
    walk_at "k"
    refine ⟨_, g, ?_⟩
    walk_at "k"
    rw [ct]
    refine ⟨⟨sh2, sh1⟩, ?_⟩
    walk_at "kw"
    show (match (generalizing := false) ng false (((((List.range c).map fun k : Nat => rotL xs (k : Int)).take k).map dI).any fun z => PyData.eqv z (dI (rotL xs (k : Int)))) with | true => _ | false => _)
    rw [no]
    walk_at "k"
    exact hR _ rfl
  walk_at "k"
  rw [lm, show ((xs.length : Int)).toNat = xs.length by omega]
  refine forR_same (fun k hk R hR => ?_) ?_
  · have r2 := law_rotated_ok ne hl (k : Int)
    have sh1 := (shM ((List.range c).map fun k : Nat => rotL xs (k : Int))).sh
    have sh2 := (shp_dI (rotL xs (k : Int))).sh
    have al := allM k
    rw [Int.zero_add]
    walk_at "k"
    refine call_eq r2 ?_
    walk_at "k"
    refine ⟨⟨sh2, sh1⟩, ?_⟩
    walk_at "kw"
    show (match (generalizing := false) ng true ((((List.range c).map fun k : Nat => rotL xs (k : Int)).map dI).any fun z => PyData.eqv z (dI (rotL xs (k : Int)))) with | true => _ | false => _)
    rw [al]
    walk_at "k"
    exact hR _ rfl
  have g0 := gM 0 cp
  have b1 := brightest_ok ne hl
  have b2 := law_brightest_ok ne hl
  have s2 := same_numbers_refl xs (by omega)
  rw [Int.ofNat_zero, rot_zero] at g0
  walk_at "k"
  have ix : ixN (((List.range c).map fun k : Nat => rotL xs (k : Int)).map dI).length 0 = some 0 := ixN_nat (by omega) (by omega)
  have h0 : (((List.range c).map fun k : Nat => rotL xs (k : Int)).map dI)[0]? = some (.list (xs.map PyData.int)) := by
    rw [List.getElem?_map, List.getElem?_map, List.getElem?_range cp]
    show some (dI (rotL xs ((0 : Nat) : Int))) = _
    rw [Int.ofNat_zero, rot_zero]
    rfl
  refine ⟨0, _, ⟨ix, h0⟩, ?_⟩
  clear gM inM allM
  (walk_at "kw"; (((with_reducible apply And.intro); (· walk_at "ks"))); walk_at "kw"; (((with_reducible apply And.intro); (· walk_at "ks"))); walk_at "kw"; (refine call_eq b1 ?_); walk_at "kw"; (((with_reducible apply And.intro); (· walk_at "ks"))); walk_at "kw"; change ∃ Qd, w__law_is_number [PyData.int ↑(brF xs (xs.length - 1))] Qd ∧ _)
  refine call_eq (is_number_ok (.int ((brF xs (xs.length - 1) : Nat) : Int))) ?_
  walk_at "k"
  refine call_eq b2 ?_
  walk_at "k"
  refine selN (fun q => absurd rfl q) (fun _ => ?_)
  walk_at "k"
  refine call_eq md ?_
  walk_at "k"
  refine ⟨_, g0, ?_⟩
  walk_at "k"
  refine call_eq s2 ?_
  walk_at "k"
  refine ⟨⟨(shp_dI xs).sh, (shp_dI xs).sh⟩, rfl, ?_⟩
  show PyData.bool (ng false (PyData.eqv (dI xs) (dI xs))) = _
  rw [eqv_self (shp_dI xs)]
  rfl
/-! gaps of a scale -/
def gapsL (xs : List Int) (p : Int) : List Int := (List.range xs.length).map fun k : Nat => if k + 1 < xs.length then at' xs ((k : Int) + 1) - at' xs k else at' xs 0 + p - at' xs k
theorem gaps_len (xs : List Int) (p : Int) : (gapsL xs p).length = xs.length := by simp [gapsL]
theorem gaps_at {xs : List Int} {p : Int} {k : Nat} (hk : k < xs.length) : at' (gapsL xs p) (k : Int) = if k + 1 < xs.length then at' xs ((k : Int) + 1) - at' xs k else at' xs 0 + p - at' xs k := by
  rw [at'_nat (by rw [gaps_len]; exact hk)]
  simp [gapsL]
/-- the note k places behind a, over the octave p -/
def upF (xs : List Int) (p : Int) (a k : Nat) : Int := if a + k < xs.length then at' xs ((a : Int) + k) else at' xs ((a : Int) + k - xs.length) + p
theorem sums_at {xs : List Int} {k : Nat} (hk : k < xs.length) : at' (sumsL xs) (k : Int) = (xs.take k).sum := by
  rw [at'_nat (by rw [sums_len]; exact hk)]
  simp [sumsL]
theorem take_sum {xs : List Int} {k : Nat} (hk : k < xs.length) : (xs.take (k + 1)).sum = (xs.take k).sum + at' xs (k : Int) := by
  rw [List.take_succ_eq_append_getElem hk, List.sum_append, at'_nat hk]
  simp
theorem gap_sum {xs : List Int} {p : Int} {a : Nat} (ha : a < xs.length) : ∀ k : Nat, k < xs.length → ((rotL (gapsL xs p) (a : Int)).take k).sum = upF xs p a k - at' xs a
  | 0, _ => by
    unfold upF
    rw [List.take_zero, if_pos (by omega), show (a : Int) + ((0 : Nat) : Int) = a by omega]
    simp
  | k + 1, hk => by
    have lg : (rotL (gapsL xs p) (a : Int)).length = xs.length := by rw [rot_len, gaps_len]
    rw [take_sum (by omega), gap_sum ha k (by omega), rot_at (by omega) (by rw [gaps_len]; omega), gaps_len]
    unfold upF
    by_cases c : a + k + 1 < xs.length
    · rw [if_pos (by omega), if_pos (by omega), Int.emod_eq_of_lt (by omega) (by omega), show (a : Int) + (k : Int) = ((a + k : Nat) : Int) by omega, gaps_at (by omega), if_pos (by omega), show (a : Int) + ((k + 1 : Nat) : Int) = ((a + k : Nat) : Int) + 1 by omega]
      omega
    · by_cases d : a + k < xs.length
      · rw [if_pos d, if_neg (by omega), Int.emod_eq_of_lt (by omega) (by omega), show (a : Int) + (k : Int) = ((a + k : Nat) : Int) by omega, gaps_at (by omega), if_neg (by omega), show (a : Int) + ((k + 1 : Nat) : Int) - xs.length = 0 by omega]
        omega
      · have e : ((a : Int) + k) % (xs.length : Int) = ((a + k - xs.length : Nat) : Int) := by
          rw [← Int.sub_emod_right, Int.emod_eq_of_lt (by omega) (by omega)]
          omega
        rw [if_neg d, if_neg (by omega), e, gaps_at (by omega), if_pos (by omega), show (a : Int) + (k : Int) - xs.length = ((a + k - xs.length : Nat) : Int) by omega, show (a : Int) + ((k + 1 : Nat) : Int) - xs.length = ((a + k - xs.length : Nat) : Int) + 1 by omega]
        omega
theorem asc_at {xs : List Int} (h : xs.Pairwise (· < ·)) {i j : Nat} (hij : i < j) (hj : j < xs.length) : at' xs (i : Int) < at' xs (j : Int) := by
  rw [at'_nat (by omega), at'_nat hj]
  exact List.pairwise_iff_getElem.mp h i j (by omega) hj hij
theorem at_mem {xs : List Int} {i : Nat} (h : i < xs.length) : at' xs (i : Int) ∈ xs := by
  rw [at'_nat h]
  exact List.getElem_mem h
/-- the mode from a note is the notes of its gaps -/
theorem mode_sums {xs : List Int} {p : Int} (h : xs.Pairwise (· < ·)) (hb : ∀ x ∈ xs, 0 ≤ x ∧ x < p) {a : Nat} (ha : a < xs.length) : srt (xs.map fun x => (x + -(at' xs a)) % p) = sumsL (rotL (gapsL xs p) (a : Int)) := by
  have la := hb _ (at_mem ha)
  have up : ∀ k : Nat, k < xs.length → upF xs p a k - at' xs a = (at' xs (((a : Int) + k) % (xs.length : Int)) + -(at' xs a)) % p ∧ 0 ≤ upF xs p a k - at' xs a ∧ upF xs p a k - at' xs a < p := fun k hk => by
    unfold upF
    by_cases d : a + k < xs.length
    · have m := hb _ (at_mem d)
      have e : ((a : Int) + k) % (xs.length : Int) = ((a + k : Nat) : Int) := by
        rw [Int.emod_eq_of_lt (by omega) (by omega)]
        omega
      rw [if_pos d, e, show (a : Int) + (k : Int) = ((a + k : Nat) : Int) by omega]
      have le : at' xs (a : Int) ≤ at' xs ((a + k : Nat) : Int) := by
        by_cases z : k = 0
        · subst z; exact Int.le_refl _
        · exact Int.le_of_lt (asc_at h (by omega) d)
      rw [Int.emod_eq_of_lt (by omega) (by omega)]
      omega
    · have e : ((a : Int) + k) % (xs.length : Int) = ((a + k - xs.length : Nat) : Int) := by
        rw [← Int.sub_emod_right, Int.emod_eq_of_lt (by omega) (by omega)]
        omega
      have m := hb _ (at_mem (xs := xs) (i := a + k - xs.length) (by omega))
      have lt := asc_at h (show a + k - xs.length < a by omega) ha
      rw [if_neg d, e, show (a : Int) + (k : Int) - xs.length = ((a + k - xs.length : Nat) : Int) by omega]
      have : (at' xs ((a + k - xs.length : Nat) : Int) + -(at' xs a)) % p = at' xs ((a + k - xs.length : Nat) : Int) + -(at' xs a) + p := by
        rw [← Int.add_emod_right, Int.emod_eq_of_lt (by omega) (by omega)]
      omega
  have asc : ∀ i j : Nat, i < j → j < xs.length → upF xs p a i < upF xs p a j := fun i j hij hj => by
    unfold upF
    by_cases d : a + j < xs.length
    · rw [if_pos (by omega), if_pos d, show (a : Int) + (i : Int) = ((a + i : Nat) : Int) by omega, show (a : Int) + (j : Int) = ((a + j : Nat) : Int) by omega]
      exact asc_at h (by omega) d
    · have mj := hb _ (at_mem (xs := xs) (i := a + j - xs.length) (by omega))
      rw [if_neg d, show (a : Int) + (j : Int) - xs.length = ((a + j - xs.length : Nat) : Int) by omega]
      by_cases d2 : a + i < xs.length
      · have mi := hb _ (at_mem d2)
        rw [if_pos d2, show (a : Int) + (i : Int) = ((a + i : Nat) : Int) by omega]
        omega
      · rw [if_neg d2, show (a : Int) + (i : Int) - xs.length = ((a + i - xs.length : Nat) : Int) by omega]
        have := asc_at h (show a + i - xs.length < a + j - xs.length by omega) (by omega)
        omega
  have es : sumsL (rotL (gapsL xs p) (a : Int)) = (List.range xs.length).map fun k : Nat => upF xs p a k - at' xs a := by
    refine List.ext_getElem (by simp [sums_len, rot_len, gaps_len]) fun k h1 h2 => ?_
    have hk : k < xs.length := by simpa using h2
    rw [List.getElem_map, List.getElem_range, ← gap_sum ha k hk]
    simp [sumsL]
  have er : ((rotL xs (a : Int)).map fun x => (x + -(at' xs a)) % p) = (List.range xs.length).map fun k : Nat => upF xs p a k - at' xs a := by
    unfold rotL
    rw [List.map_map]
    refine List.map_congr_left fun k hk => ?_
    exact (up k (List.mem_range.mp hk)).1.symm
  rw [es]
  refine (srt_uniq ?_ ?_).symm
  · rw [← er, ← rot_cut ha]
    refine List.Perm.map _ ?_
    refine List.perm_append_comm.trans ?_
    rw [List.take_append_drop]
  · rw [List.pairwise_map]
    refine List.Pairwise.imp_of_mem ?_ (List.pairwise_lt_range (n := xs.length))
    intro i j hi hj hij
    have := asc i j hij (List.mem_range.mp hj)
    omega
theorem gaps_take {xs : List Int} {p : Int} {k : Nat} (hk : k < xs.length) : (gapsL xs p).take (k + 1) = (gapsL xs p).take k ++ [if k + 1 < xs.length then at' xs ((k : Int) + 1) - at' xs k else at' xs 0 + p - at' xs k] := by
  have hl : k < (gapsL xs p).length := by rw [gaps_len]; exact hk
  rw [List.take_succ_eq_append_getElem hl]
  congr 2
  simp [gapsL]
theorem law_gaps_ok {xs : List Int} {p : Int} (hl : xs.length ≤ 1000) : w__law_gaps [dI xs, .int p] (· = dI (gapsL xs p)) := by
  have line := line_big
  have lm : (xs.map PyData.int).length = xs.length := List.length_map ..
  (walk_at "kw"; (((with_reducible apply And.intro); (· walk_at "ks"))); walk_at "kw"; (((with_reducible apply And.intro); (· walk_at "ks"))); walk_at "kw")
  rw [lm, show ((xs.length : Int)).toNat = xs.length by omega]
  refine forR_st [2] (fun a : List Int => [sL a]) (fun k a => a = (gapsL xs p).take k) [] rfl rfl (fun k hk a ha R hR => ?_) (fun a ha => ?_)
  · have go := fun δ' => hR ((gapsL xs p).take (k + 1)) δ' rfl
    have la : a.length ≤ k := by rw [ha, List.length_take]; omega
    rw [gaps_take hk, ← ha] at go
    unfold sL at go
    have lb : (a.map PyData.int).length < sizeLine := by rw [List.length_map]; omega
    clear hR ha
    rw [Int.zero_add]
    (walk_at "kw")
    rw [lm]
    by_cases c : k + 1 < xs.length
    · rw [if_pos c, ← dI_app] at go
      refine selT (by omega) ?_
      (walk_at "kw"; (refine ⟨_, atI_at (by first | decide | omega | (rw [List.length_map]; omega)) (by first | decide | omega | (rw [List.length_map]; omega)), ?_⟩); walk_at "kw"; (refine ⟨_, atI_at (by first | decide | omega | (rw [List.length_map]; omega)) (by first | decide | omega | (rw [List.length_map]; omega)), ?_⟩); walk_at "kw"; (((with_reducible apply And.intro); (· walk_at "ks"))); walk_at "kw")
      exact go _ rfl
    · rw [if_neg c, ← dI_app] at go
      refine selF (by omega) ?_
      (walk_at "kw"; (refine ⟨_, atI_at (by first | decide | omega | (rw [List.length_map]; omega)) (by first | decide | omega | (rw [List.length_map]; omega)), ?_⟩); walk_at "kw"; (refine ⟨_, atI_at (by first | decide | omega | (rw [List.length_map]; omega)) (by first | decide | omega | (rw [List.length_map]; omega)), ?_⟩); walk_at "kw"; (((with_reducible apply And.intro); (· walk_at "ks"))); walk_at "kw")
      exact go _ rfl
  · rw [ha, List.take_of_length_le (by rw [gaps_len]; omega)]
    (walk_at "kw"; (((with_reducible apply And.intro); (· walk_at "ks"))); walk_at "kw"; (rfl))
theorem gaps_ok {xs : List Int} {p : Int} (ne : xs ≠ []) (hl : xs.length ≤ 1000) : w_gaps [dI xs, .int p] (· = dI (gapsL xs p)) := by
  have line := line_big
  have lp : 0 < xs.length := List.length_pos_iff.mpr ne
  have lm : (xs.map PyData.int).length = xs.length := List.length_map ..
  (walk_at "kw"; (((with_reducible apply And.intro); (· walk_at "ks"))); walk_at "kw"; (((with_reducible apply And.intro); (· walk_at "ks"))); walk_at "kw")
  rw [lm, show ((xs.length : Int) - 1).toNat = xs.length - 1 by omega]
  refine forR_st [2] (fun a : List Int => [sL a]) (fun k a => a = (gapsL xs p).take k) [] rfl rfl (fun k hk a ha R hR => ?_) (fun a ha => ?_)
  · have go := fun δ' => hR ((gapsL xs p).take (k + 1)) δ' rfl
    have la : a.length ≤ k := by rw [ha, List.length_take]; omega
    rw [gaps_take (by omega), ← ha, if_pos (by omega)] at go
    unfold sL at go
    rw [← dI_app] at go
    have lb : (a.map PyData.int).length < sizeLine := by rw [List.length_map]; omega
    clear hR ha
    rw [Int.zero_add]
    (walk_at "kw"; (refine ⟨_, atI_at (by first | decide | omega | (rw [List.length_map]; omega)) (by first | decide | omega | (rw [List.length_map]; omega)), ?_⟩); walk_at "kw"; (refine ⟨_, atI_at (by first | decide | omega | (rw [List.length_map]; omega)) (by first | decide | omega | (rw [List.length_map]; omega)), ?_⟩); walk_at "kw"; (((with_reducible apply And.intro); (· walk_at "ks"))); walk_at "kw")
    exact go _ rfl
  · have la : a.length ≤ xs.length - 1 := by rw [ha, List.length_take]; omega
    have lb : (a.map PyData.int).length < sizeLine := by rw [List.length_map]; omega
    have e := gaps_take (xs := xs) (p := p) (k := xs.length - 1) (by omega)
    rw [if_neg (by omega), ← ha, List.take_of_length_le (by rw [gaps_len]; omega)] at e
    rw [e, ← dI_app]
    have g1 := atI_end lp
    rw [show ((xs.length : Int) - 1) = ((xs.length - 1 : Nat) : Int) by omega] at g1
    (walk_at "kw"; (refine ⟨_, atI_at (by first | decide | omega | (rw [List.length_map]; omega)) (by first | decide | omega | (rw [List.length_map]; omega)), ?_⟩); walk_at "kw")
    refine ⟨_, g1, ?_⟩
    (walk_at "kw"; (((with_reducible apply And.intro); (· walk_at "ks"))); walk_at "kw"; (((with_reducible apply And.intro); (· walk_at "ks"))); walk_at "kw"; (rfl))
theorem mode_from_ok {p b : Int} (pp : 0 < p) {xs : List Int} (hl : xs.length ≤ 1000) : w_mode_from [dI xs, .int p, .int b] (· = dI (srt (xs.map fun x => (x + -b) % p))) := by
  have line := line_big
  have sh := shifted_ok (b := -b) pp hl
  (walk_at "kw"; (((with_reducible apply And.intro); (· walk_at "ks"))); walk_at "kw"; (refine call_eq sh ?_); walk_at "kw"; (((with_reducible apply And.intro); (· walk_at "ks"))); walk_at "kw")
theorem sums_gap0 {xs : List Int} {p : Int} (h0 : at' xs 0 = 0) : sumsL (gapsL xs p) = xs := by
  refine ext_at (by rw [sums_len, gaps_len]) fun k hk => ?_
  rw [sums_len, gaps_len] at hk
  have g := gap_sum (xs := xs) (p := p) (a := 0) (by omega) k hk
  rw [show ((0 : Nat) : Int) = 0 from rfl, rot_zero] at g
  rw [sums_at (by rw [gaps_len]; exact hk), g, h0]
  unfold upF
  rw [if_pos (by omega), show ((0 : Nat) : Int) + (k : Int) = k by omega]
  omega
theorem asks_scale_ok {xs : List Int} {p : Int} (pp : 0 < p) (ne : xs ≠ []) (h : xs.Pairwise (· < ·)) (hb : ∀ x ∈ xs, 0 ≤ x ∧ x < p) (hl : xs.length ≤ 400) : w__law_asks_scale [dI xs, .int p] (· = .bool true) := by
  have line := line_big
  have lp : 0 < xs.length := List.length_pos_iff.mpr ne
  have lm : (xs.map PyData.int).length = xs.length := List.length_map ..
  have i1 : immL (xs.map PyData.int) = true := imm_ints _
  have lg := gaps_len xs p
  have neg : gapsL xs p ≠ [] := fun e => by rw [e] at lg; simp at lg; omega
  have g1 := gaps_ok (p := p) ne (by omega : xs.length ≤ 1000)
  have g2 := law_gaps_ok (p := p) (by omega : xs.length ≤ 1000)
  have s1 := same_numbers_refl (gapsL xs p) (by omega)
  have n1 := notes_of_ok (xs := gapsL xs p) (by omega)
  have s2 := same_numbers_refl xs (by omega)
  have am := asks_modes_ok neg (by omega)
  have z0 : at' xs 0 = 0 → sumsL (gapsL xs p) = xs := sums_gap0
  have ms := fun (a : Nat) (ha : a < xs.length) => mode_sums h hb ha
  have rk := fun a : Nat => rotated_ok neg (by omega) (a : Int)
  have rl := fun a : Nat => law_rotated_ok neg (by omega) (a : Int)
  have lr := fun a : Nat => rot_len (gapsL xs p) (a : Int)
  (walk_at "kw"; (((with_reducible apply And.intro); (· walk_at "ks"))); walk_at "kw"; (((with_reducible apply And.intro); (· walk_at "ks"))); walk_at "kw"; (refine call_eq g2 ?_); walk_at "kw"; (((with_reducible apply And.intro); (· walk_at "ks"))); walk_at "kw"; (refine call_eq g1 ?_); walk_at "kw"; (((with_reducible apply And.intro); (· walk_at "ks"))); walk_at "kw"; (refine call_eq s1 ?_); walk_at "kw"; (refine ⟨_, atI_at (by first | decide | omega | (rw [List.length_map]; omega)) (by first | decide | omega | (rw [List.length_map]; omega)), ?_⟩); walk_at "kw")
  apply viaK
  intro KK
  refine selE (fun e => ?_) (fun _ => KK)
  · rw [z0 e] at n1
    walk_at "k"
    refine call_eq g1 ?_
    walk_at "k"
    refine call_eq n1 ?_
    walk_at "k"
    refine call_eq s2 ?_
    exact KK
  walk_at "k"
  rw [lm, show ((xs.length : Int)).toNat = xs.length by omega]
  refine forR_same (fun a ha R hR => ?_) ?_
  · have q1 := rk a
    have q2 := rl a
    have q3 := ms a ha
    have q4 := lr a
    have ga : atI (xs.map PyData.int) (a : Int) = some (.int (at' xs (a : Nat))) := atI_at (by omega) (by omega)
    have mf := mode_from_ok (b := at' xs (a : Nat)) pp (by omega : xs.length ≤ 1000)
    rw [q3] at mf
    have t1 := law_sums_ok (xs := rotL (gapsL xs p) (a : Int)) (by omega)
    have t2 := notes_of_ok (xs := rotL (gapsL xs p) (a : Int)) (by omega)
    have t3 := same_numbers_refl (sumsL (rotL (gapsL xs p) (a : Int))) (by rw [sums_len]; omega)
    clear rk rl ms lr q3 q4 am
    rw [Int.zero_add]
    walk_at "k"
    refine call_eq q2 ?_
    walk_at "k"
    refine call_eq t1 ?_
    walk_at "k"
    refine call_eq mf ?_
    walk_at "kw"
    refine ne_m (shp_dI xs) rfl ?_
    walk_at "k"
    refine call_eq t3 ?_
    walk_at "k"
    refine call_eq g1 ?_
    walk_at "k"
    refine call_eq q1 ?_
    walk_at "k"
    refine call_eq t2 ?_
    walk_at "k"
    refine call_eq t3 ?_
    walk_at "k"
    exact hR _ rfl
  · walk_at "k"
    refine call_eq am ?_
    walk_at "k"
theorem mkL_imm {xs : List D} {o : Bool} {r : List Nat} (h : immL xs = true) : mkL xs o r = ⟨.list xs, true, []⟩ := by
  unfold mkL
  rw [h]
theorem law_second_ok (ns : List Int) (hl : ns.length ≤ 63) : w__law_second [scr ns] (· = .bool true) := by
  have line := line_big
  (walk_at "kw"; (((with_reducible apply And.intro); (· walk_at "ks"))); walk_at "kw"; change ∃ Qd, w__law_draws [scr ns, PyData.int 60] Qd ∧ _)
  refine call_ex (draws_ok ns hl 60 (by decide)) ?_
  rintro _ ⟨ds, rfl, dl, dd⟩
  have b10 := dd.at' 10
  have b12 := dd.at' 12
  have b52 := dd.at' 52
  have b13 := dd.at' 13
  have b17 := dd.at' 17
  have b18 := dd.at' 18
  (walk_at "kw"; (refine ⟨_, atI_at (by first | decide | omega | (rw [List.length_map]; omega)) (by first | decide | omega | (rw [List.length_map]; omega)), ?_⟩); walk_at "kw"; (((with_reducible apply And.intro); (· walk_at "ks"))); walk_at "kw"; (((with_reducible apply And.intro); (· walk_at "ks"))); walk_at "kw")
  refine lc_rgI (fun k : Nat => 1 + at' ds (20 + (k : Int)) % 5) _ (by omega) (fun k hk acc P ha hP => ?_) rfl ?_
  · have hk : k < 12 := by omega
    rw [Int.zero_add]
    (walk_at "kw"; (refine ⟨_, atI_at (by first | decide | omega | (rw [List.length_map]; omega)) (by first | decide | omega | (rw [List.length_map]; omega)), ?_⟩); walk_at "kw"; (((with_reducible apply And.intro); (· walk_at "ks"))); walk_at "kw"; (((with_reducible apply And.intro); (· walk_at "ks"))); walk_at "kw")
    exact hP
  generalize hg : (List.range _).map (fun k : Nat => 1 + at' ds (20 + (k : Int)) % 5) = gl
  have lgl : 1 ≤ gl.length ∧ gl.length ≤ 12 := by rw [← hg, List.length_map, List.length_range]; omega
  clear hg
  (walk_at "kw")
  refine ifJs [2] (fun a : {g : List Int // 1 ≤ g.length ∧ g.length ≤ 400} => [sL a.1]) (fun a => ?_) (fun N hN => ?_)
  · obtain ⟨gl, lg1, lg2⟩ := a
    dsimp only
    (walk_at "kw")
    refine ifJs [2] (fun a : {g : List Int // 1 ≤ g.length ∧ g.length ≤ 400} => [sL a.1]) (fun a => ?_) (fun N hN => ?_)
    · obtain ⟨gl, lg1, lg2⟩ := a
      dsimp only
      have ne : gl ≠ [] := fun e => by rw [e] at lg1; exact absurd lg1 (by decide)
      have am := asks_modes_ok ne (by omega)
      have ar := fun ts => asks_rotations_ok ne (by omega) ts
      (walk_at "kw"; (refine ⟨_, atI_at (by first | decide | omega | (rw [List.length_map]; omega)) (by first | decide | omega | (rw [List.length_map]; omega)), ?_⟩); walk_at "kw"; (((with_reducible apply And.intro); (· walk_at "ks"))); walk_at "kw"; (refine ⟨_, atI_at (by first | decide | omega | (rw [List.length_map]; omega)) (by first | decide | omega | (rw [List.length_map]; omega)), ?_⟩); walk_at "kw"; (((with_reducible apply And.intro); (· walk_at "ks"))); walk_at "kw"; (((with_reducible apply And.intro); (· walk_at "ks"))); walk_at "kw"; (refine ⟨_, atI_at (by first | decide | omega | (rw [List.length_map]; omega)) (by first | decide | omega | (rw [List.length_map]; omega)), ?_⟩); walk_at "kw"; (((with_reducible apply And.intro); (· walk_at "ks"))); walk_at "kw"; (((with_reducible apply And.intro); (· walk_at "ks"))); walk_at "kw"; change ∃ Qd, w__law_asks_rotations [dI gl, PyData.list [PyData.int 0, PyData.int 1, PyData.int (-1), PyData.int (at' ds 14 % 61 - 30), PyData.int ↑(List.map PyData.int gl).length, PyData.int (at' ds 15 * 10 ^ Int.toNat 9 - at' ds 16)]] Qd ∧ _)
      refine call_eq (ar [0, 1, -1, at' ds 14 % 61 - 30, ((gl.map PyData.int).length : Int), at' ds 15 * 10 ^ Int.toNat 9 - at' ds 16]) ?_
      walk_at "k"
      refine call_eq am ?_
      clear am ar
      walk_at "k"
      refine ifJs [4] (fun o : Option Slot => [o]) (fun o => ?_) (fun N hN => ?_)
      · (walk_at "kw"; (((with_reducible apply And.intro); (· walk_at "ks"))); walk_at "kw"; change ∃ Qd, w__law_chain_world [dI ds] Qd ∧ _)
        refine call_ex (chain_world_ok ds (by omega) dd) ?_
        rintro _ ⟨p, g, n, c0, rfl, C, p1, p2, g1, g2, np, c1, cn, c4⟩
        have pp := C.pp
        obtain ⟨k, ek⟩ := Int.eq_ofNat_of_zero_le (by omega : 0 ≤ min (c0 : Int) (1 + at' ds 17 % 20))
        have lch := law_chain_ok C (c := k) (by omega) ⟨by omega, by omega⟩
        rw [md_cf, ← ek] at lch
        have lK : (srt (cf 0 p g k)).length = k := by rw [srt_len, cf_len]
        have as1 := asks_scale_ok (xs := srt (cf 0 p g k)) pp (fun e => by rw [e] at lK; simp at lK; omega) (asc_of (cf_nodup C _ (by omega))) (fun x hx => by
          obtain ⟨j, _, rfl⟩ := cf_mem.mp (mem_srt.mp hx)
          exact ⟨Int.emod_nonneg _ (by omega), Int.emod_lt_of_pos _ pp⟩) (by omega)
        (walk_at "kw"; (((with_reducible apply And.intro); (· walk_at "ks"))); walk_at "kw"; (refine ⟨_, atI_at (by first | decide | omega | (rw [List.length_map]; omega)) (by first | decide | omega | (rw [List.length_map]; omega)), ?_⟩); walk_at "kw"; (((with_reducible apply And.intro); (· walk_at "ks"))); walk_at "kw"; (((with_reducible apply And.intro); (· walk_at "ks"))); walk_at "kw"; (refine call_eq lch ?_); walk_at "kw"; (((with_reducible apply And.intro); (· walk_at "ks"))); walk_at "kw"; (refine call_eq as1 ?_); walk_at "kw"; (refine ⟨_, atI_at (by first | decide | omega | (rw [List.length_map]; omega)) (by first | decide | omega | (rw [List.length_map]; omega)), ?_⟩); walk_at "kw"; (((with_reducible apply And.intro); (· walk_at "ks"))); walk_at "kw"; (((with_reducible apply And.intro); (· walk_at "ks"))); walk_at "kw")
        refine lc_rgI (fun k : Nat => at' ds (33 + (k : Int)) % p) _ (by omega) (fun k hk acc P ha hP => ?_) rfl ?_
        · have hk : k < 12 := by omega
          rw [Int.zero_add]
          (walk_at "kw"; (refine ⟨_, atI_at (by first | decide | omega | (rw [List.length_map]; omega)) (by first | decide | omega | (rw [List.length_map]; omega)), ?_⟩); walk_at "kw"; (((with_reducible apply And.intro); (· walk_at "ks"))); walk_at "kw"; (((with_reducible apply And.intro); (· walk_at "ks"))); walk_at "kw")
          exact hP
        generalize hdr : (List.range _).map (fun k : Nat => at' ds (33 + (k : Int)) % p) = dr
        have ldr : 1 ≤ dr.length ∧ dr.length ≤ 12 := by rw [← hdr, List.length_map, List.length_range]; omega
        have bdr : ∀ x ∈ dr, 0 ≤ x ∧ x < p := fun x hx => by
          rw [← hdr] at hx
          obtain ⟨k, _, rfl⟩ := List.mem_map.mp hx
          exact ⟨Int.emod_nonneg _ (by omega), Int.emod_lt_of_pos _ pp⟩
        clear hdr as1 lch
        walk_at "k"
        refine call_ex (unlike_ok dr (by omega)) ?_
        rintro _ ⟨sc, rfl, rd, ld, md, nd⟩
        have as2 := asks_scale_ok pp (nd fun e => by rw [e] at ldr; exact absurd ldr.1 (by decide)) rd (fun x hx => bdr x (md x hx)) (by omega)
        walk_at "k"
        refine call_eq as2 ?_
        walk_at "k"
      · (walk_at "kw"; (refine ⟨_, atI_at (by first | decide | omega | (rw [List.length_map]; omega)) (by first | decide | omega | (rw [List.length_map]; omega)), ?_⟩); walk_at "kw"; (((with_reducible apply And.intro); (· walk_at "ks"))); walk_at "kw")
        refine selE (fun h => ?_) (fun h => ?_)
        · (walk_at "kw"; (refine ⟨_, atI_at (by first | decide | omega | (rw [List.length_map]; omega)) (by first | decide | omega | (rw [List.length_map]; omega)), ?_⟩); walk_at "kw"; (((with_reducible apply And.intro); (· walk_at "ks"))); walk_at "kw"; (((with_reducible apply And.intro); (· walk_at "ks"))); walk_at "kw")
          refine lc_rgI (fun k : Nat => 1 + at' ds (45 + (k : Int) % 6) / (1 + (k : Int)) % 3) _ (by omega) (fun k hk acc P ha hP => ?_) rfl ?_
          · have hk : k < 61 := by omega
            rw [Int.zero_add]
            (walk_at "kw"; (((with_reducible apply And.intro); (· walk_at "ks"))); walk_at "kw"; (refine ⟨_, atI_at (by first | decide | omega | (rw [List.length_map]; omega)) (by first | decide | omega | (rw [List.length_map]; omega)), ?_⟩); walk_at "kw"; (((with_reducible apply And.intro); (· walk_at "ks"))); walk_at "kw"; (((with_reducible apply And.intro); (· walk_at "ks"))); walk_at "kw"; (((with_reducible apply And.intro); (· walk_at "ks"))); walk_at "kw")
            exact hP
          generalize hw : (List.range _).map (fun k : Nat => 1 + at' ds (45 + (k : Int) % 6) / (1 + (k : Int)) % 3) = wd
          have lw : 21 ≤ wd.length ∧ wd.length ≤ 60 := by rw [← hw, List.length_map, List.length_range]; omega
          clear hw
          have ct : KT.cutD (wd.map PyData.int) none (some 30) = (wd.take 30).map PyData.int := cutD_to PyData.int wd 30
          have i1 : immL ((wd.take 30).map PyData.int) = true := imm_ints _
          have l1 : ((wd.take 30).map PyData.int).length ≤ 30 := by simp; omega
          walk_at "k"
          refine ifJs [4] (fun a : {g : List Int // 1 ≤ g.length ∧ g.length ≤ 400} => [sL a.1]) (fun a => ?_) (fun N2 hN2 => ?_)
          · obtain ⟨w2, w3, w4⟩ := a
            dsimp only
            have am := asks_modes_ok (xs := w2) (fun e => by rw [e] at w3; exact absurd w3 (by decide)) (by omega)
            clear ct i1 l1
            walk_at "k"
            refine call_eq am ?_
            walk_at "k"
            exact hN (some ⟨dI w2, true, false⟩)
          · (walk_at "kw"; (refine ⟨_, atI_at (by first | decide | omega | (rw [List.length_map]; omega)) (by first | decide | omega | (rw [List.length_map]; omega)), ?_⟩); walk_at "kw"; (((with_reducible apply And.intro); (· walk_at "ks"))); walk_at "kw")
            refine selE (fun h => ?_) (fun h => ?_)
            · (walk_at "kw")
              rw [ct]
              refine ⟨⟨i1, i1, by omega⟩, ?_⟩
              have go := hN2 ⟨wd.take 30 ++ wd.take 30, by rw [List.length_append, List.length_take]; omega, by rw [List.length_append, List.length_take]; omega⟩
              unfold sL at go
              dsimp only at go
              rw [show dI (wd.take 30 ++ wd.take 30) = .list ((wd.take 30).map PyData.int ++ (wd.take 30).map PyData.int) by unfold dI; rw [List.map_append]] at go
              (walk_at "kw")
              exact go
            · (walk_at "kw")
              exact hN2 ⟨wd, by omega, by omega⟩
        · (walk_at "kw")
          exact hN none
    · (walk_at "kw"; (refine ⟨_, atI_at (by first | decide | omega | (rw [List.length_map]; omega)) (by first | decide | omega | (rw [List.length_map]; omega)), ?_⟩); walk_at "kw"; (((with_reducible apply And.intro); (· walk_at "ks"))); walk_at "kw"; (((with_reducible apply And.intro); (· walk_at "ks"))); walk_at "kw")
      refine selE (fun h => ?_) (fun h => ?_)
      · (walk_at "kw")
        refine lc_mapI (fun x => x * (10 ^ Int.toNat 9 / 5 - at' ds 13 % 2)) (gl.map fun x => x * (10 ^ Int.toNat 9 / 5 - at' ds 13 % 2)) (by omega) (fun x hx acc P ha hP => ?_) rfl ?_
        · (walk_at "kw"; (((with_reducible apply And.intro); (· walk_at "ks"))); walk_at "kw"; (((with_reducible apply And.intro); (· walk_at "ks"))); walk_at "kw"; (refine ⟨_, atI_at (by first | decide | omega | (rw [List.length_map]; omega)) (by first | decide | omega | (rw [List.length_map]; omega)), ?_⟩); walk_at "kw"; (((with_reducible apply And.intro); (· walk_at "ks"))); walk_at "kw")
          refine ⟨mul_r (by rw [show (10 : Int) ^ Int.toNat 9 / 5 = 200000000 by decide]; omega), ?_⟩
          (walk_at "kw"; (((with_reducible apply And.intro); (· walk_at "ks"))); walk_at "kw")
          exact hP
        (walk_at "kw")
        exact hN ⟨gl.map fun x => x * (10 ^ Int.toNat 9 / 5 - at' ds 13 % 2), by simpa using lg1, by simpa using lg2⟩
      · (walk_at "kw")
        exact hN ⟨gl, lg1, lg2⟩
  · (walk_at "kw"; (refine ⟨_, atI_at (by first | decide | omega | (rw [List.length_map]; omega)) (by first | decide | omega | (rw [List.length_map]; omega)), ?_⟩); walk_at "kw"; (((with_reducible apply And.intro); (· walk_at "ks"))); walk_at "kw")
    refine selE (fun h => ?_) (fun h => ?_)
    · (walk_at "kw"; (refine ⟨_, atI_at (by first | decide | omega | (rw [List.length_map]; omega)) (by first | decide | omega | (rw [List.length_map]; omega)), ?_⟩); walk_at "kw"; (((with_reducible apply And.intro); (· walk_at "ks"))); walk_at "kw")
      obtain ⟨j, ej⟩ := Int.eq_ofNat_of_zero_le (by omega : 0 ≤ 1 + at' ds 10 % 3)
      have ct : ∀ g : List Int, KT.cutD (g.map PyData.int) none (some (1 + at' ds 10 % 3)) = (g.take j).map PyData.int := fun g => by rw [ej]; exact cutD_to PyData.int g j
      have it : ∀ g : List Int, immL ((g.take j).map PyData.int) = true := fun g => imm_ints _
      rw [ct, mkL_imm (it _)]
      (walk_at "kw"; (refine ⟨_, atI_at (by first | decide | omega | (rw [List.length_map]; omega)) (by first | decide | omega | (rw [List.length_map]; omega)), ?_⟩); walk_at "kw"; (((with_reducible apply And.intro); (· walk_at "ks"))); walk_at "kw"; (((with_reducible apply And.intro); (· walk_at "ks"))); walk_at "kw")
      refine forR_st [2] (fun g : List Int => [sL g]) (fun k g => 1 ≤ g.length ∧ g.length ≤ 3 + 3 * k) (gl.take j) ⟨by rw [List.length_take]; omega, by rw [List.length_take]; omega⟩ rfl (fun k hk g hg R hR => ?_) (fun g hg => ?_)
      · obtain ⟨g1, g2⟩ := hg
        have hk : k < 3 := by omega
        have go := fun δ' => hR (g ++ g.take j) δ' ⟨by rw [List.length_append]; omega, by rw [List.length_append, List.length_take]; omega⟩
        unfold sL at go
        rw [show dI (g ++ g.take j) = .list (g.map PyData.int ++ (g.take j).map PyData.int) by unfold dI; rw [List.map_append]] at go
        have i0 : immL (g.map PyData.int) = true := imm_ints _
        have i1 := it g
        have l1 : (g.map PyData.int).length ≤ 12 := by rw [List.length_map]; omega
        have l2 : ((g.take j).map PyData.int).length ≤ 12 := by rw [List.length_map, List.length_take]; omega
        clear hR
        (walk_at "kw"; (refine ⟨_, atI_at (by first | decide | omega | (rw [List.length_map]; omega)) (by first | decide | omega | (rw [List.length_map]; omega)), ?_⟩); walk_at "kw"; (((with_reducible apply And.intro); (· walk_at "ks"))); walk_at "kw")
        rw [ct]
        refine ⟨⟨i0, i1, by omega⟩, ?_⟩
        (walk_at "kw")
        exact go _ rfl
      · obtain ⟨g1, g2⟩ := hg
        (walk_at "kw")
        exact hN ⟨g, g1, by omega⟩
    · (walk_at "kw")
      exact hN ⟨gl, lgl.1, by omega⟩
theorem law_holds (ns : List Int) (hl : ns.length ≤ 63) (hb : ∀ z ∈ ns, Builtin.Int.intBits z ≤ 1048576) : w_law [scr ns] fun d => d = .bool true := by
  have f1 := law_first_ok ns hl
  have f2 := law_second_ok ns hl
  (walk_at "kw"; (((with_reducible apply And.intro); (· walk_at "ks"))); walk_at "kw"; (refine call_eq f1 ?_); walk_at "kw"; (((with_reducible apply And.intro); (· walk_at "ks"))); walk_at "kw"; (refine call_eq f2 ?_); walk_at "kw"; (((with_reducible apply And.intro); (· walk_at "ks"))); walk_at "kw")
end KM
namespace KM
open PySem PySem.Spec PyProof.Rows L2 KT
variable [WT]
def topS (i : Nat) : Stmt := PySem.Challenge.pw_keystuned_k69_shifted_and_shared.main.body.getD i (.Pass ⟨0, 0, 0, 0⟩)
abbrev s_chain_scale : Stmt := topS 4
theorem sc_chain_scale : FnScope ["period", "generator", "count", "notes", "seen", "at", "note"] ["period", "generator", "count"] (defScope s_chain_scale) := ⟨rfl, rfl, rfl, by decide +kernel, rfl, by decide +kernel, by decide +kernel⟩
abbrev s_gaps : Stmt := topS 5
theorem sc_gaps : FnScope ["scale", "period", "distances", "at"] ["scale", "period"] (defScope s_gaps) := ⟨rfl, rfl, rfl, by decide +kernel, rfl, by decide +kernel, by decide +kernel⟩
abbrev s_shifted : Stmt := topS 6
theorem sc_shifted : FnScope ["scale", "period", "by", "note"] ["scale", "period", "by"] (defScope s_shifted) := ⟨rfl, rfl, rfl, by decide +kernel, rfl, by decide +kernel, by decide +kernel⟩
abbrev s_shared : Stmt := topS 7
theorem sc_shared : FnScope ["first", "second", "note"] ["first", "second"] (defScope s_shared) := ⟨rfl, rfl, rfl, by decide +kernel, rfl, by decide +kernel, by decide +kernel⟩
abbrev s_chain_from : Stmt := topS 8
theorem sc_chain_from : FnScope ["note", "period", "generator", "count", "k"] ["note", "period", "generator", "count"] (defScope s_chain_from) := ⟨rfl, rfl, rfl, by decide +kernel, rfl, by decide +kernel, by decide +kernel⟩
abbrev s_chain_start : Stmt := topS 9
theorem sc_chain_start : FnScope ["scale", "period", "generator", "note"] ["scale", "period", "generator"] (defScope s_chain_start) := ⟨rfl, rfl, rfl, by decide +kernel, rfl, by decide +kernel, by decide +kernel⟩
abbrev s_rotated_gaps : Stmt := topS 11
theorem sc_rotated_gaps : FnScope ["gap_list", "by", "at"] ["gap_list", "by"] (defScope s_rotated_gaps) := ⟨rfl, rfl, rfl, by decide +kernel, rfl, by decide +kernel, by decide +kernel⟩
abbrev s_mode_count : Stmt := topS 12
theorem sc_mode_count : FnScope ["gap_list", "by"] ["gap_list"] (defScope s_mode_count) := ⟨rfl, rfl, rfl, by decide +kernel, rfl, by decide +kernel, by decide +kernel⟩
abbrev s_modes : Stmt := topS 13
theorem sc_modes : FnScope ["gap_list", "by"] ["gap_list"] (defScope s_modes) := ⟨rfl, rfl, rfl, by decide +kernel, rfl, by decide +kernel, by decide +kernel⟩
abbrev s_notes_of : Stmt := topS 14
theorem sc_notes_of : FnScope ["gap_list", "notes", "total", "gap"] ["gap_list"] (defScope s_notes_of) := ⟨rfl, rfl, rfl, by decide +kernel, rfl, by decide +kernel, by decide +kernel⟩
abbrev s_brightest : Stmt := topS 15
theorem sc_brightest : FnScope ["gap_list", "best", "by"] ["gap_list"] (defScope s_brightest) := ⟨rfl, rfl, rfl, by decide +kernel, rfl, by decide +kernel, by decide +kernel⟩
abbrev s_mode_from : Stmt := topS 16
theorem sc_mode_from : FnScope ["scale", "period", "note"] ["scale", "period", "note"] (defScope s_mode_from) := ⟨rfl, rfl, rfl, by decide +kernel, rfl, by decide +kernel, by decide +kernel⟩
abbrev s__law_draws : Stmt := topS 18
theorem sc__law_draws : FnScope ["script", "many", "found", "cell", "number", "k", "mixed", "base"] ["script", "many"] (defScope s__law_draws) := ⟨rfl, rfl, rfl, by decide +kernel, rfl, by decide +kernel, by decide +kernel⟩
abbrev s__law_is_number : Stmt := topS 19
theorem sc__law_is_number : FnScope ["value"] ["value"] (defScope s__law_is_number) := ⟨rfl, rfl, rfl, by decide +kernel, rfl, by decide +kernel, by decide +kernel⟩
abbrev s__law_is_numbers : Stmt := topS 20
theorem sc__law_is_numbers : FnScope ["value", "size", "item"] ["value", "size"] (defScope s__law_is_numbers) := ⟨rfl, rfl, rfl, by decide +kernel, rfl, by decide +kernel, by decide +kernel⟩
abbrev s__law_same_numbers : Stmt := topS 21
theorem sc__law_same_numbers : FnScope ["found", "due", "at"] ["found", "due"] (defScope s__law_same_numbers) := ⟨rfl, rfl, rfl, by decide +kernel, rfl, by decide +kernel, by decide +kernel⟩
abbrev s__law_gcd : Stmt := topS 22
theorem sc__law_gcd : FnScope ["first", "second", "step"] ["first", "second"] (defScope s__law_gcd) := ⟨rfl, rfl, rfl, by decide +kernel, rfl, by decide +kernel, by decide +kernel⟩
abbrev s__law_unlike : Stmt := topS 23
theorem sc__law_unlike : FnScope ["numbers", "result", "number"] ["numbers"] (defScope s__law_unlike) := ⟨rfl, rfl, rfl, by decide +kernel, rfl, by decide +kernel, by decide +kernel⟩
abbrev s__law_chain_world : Stmt := topS 24
theorem sc__law_chain_world : FnScope ["draws", "period", "generator", "order", "count"] ["draws"] (defScope s__law_chain_world) := ⟨rfl, rfl, rfl, by decide +kernel, rfl, by decide +kernel, by decide +kernel⟩
abbrev s__law_from : Stmt := topS 25
theorem sc__law_from : FnScope ["start", "period", "generator", "count", "k"] ["start", "period", "generator", "count"] (defScope s__law_from) := ⟨rfl, rfl, rfl, by decide +kernel, rfl, by decide +kernel, by decide +kernel⟩
abbrev s__law_start : Stmt := topS 26
theorem sc__law_start : FnScope ["scale", "period", "generator", "note"] ["scale", "period", "generator"] (defScope s__law_start) := ⟨rfl, rfl, rfl, by decide +kernel, rfl, by decide +kernel, by decide +kernel⟩
abbrev s__law_asks_start : Stmt := topS 27
theorem sc__law_asks_start : FnScope ["scale", "period", "generator", "due", "passed", "told"] ["scale", "period", "generator", "due"] (defScope s__law_asks_start) := ⟨rfl, rfl, rfl, by decide +kernel, rfl, by decide +kernel, by decide +kernel⟩
abbrev s__law_asks_pair : Stmt := topS 28
theorem sc__law_asks_pair : FnScope ["first", "second", "period", "by", "one", "two", "found", "due", "note"] ["first", "second", "period", "by"] (defScope s__law_asks_pair) := ⟨rfl, rfl, rfl, by decide +kernel, rfl, by decide +kernel, by decide +kernel⟩
abbrev s__law_first : Stmt := topS 29
theorem sc__law_first : FnScope ["script", "draws", "period", "generator", "order", "count", "start", "chain", "due", "by", "moved", "many", "bent", "drawn", "scale", "note", "k"] ["script"] (defScope s__law_first) := ⟨rfl, rfl, rfl, by decide +kernel, rfl, by decide +kernel, by decide +kernel⟩
abbrev s__law_sums : Stmt := topS 30
theorem sc__law_sums : FnScope ["shares", "sums", "total", "share"] ["shares"] (defScope s__law_sums) := ⟨rfl, rfl, rfl, by decide +kernel, rfl, by decide +kernel, by decide +kernel⟩
abbrev s__law_chain : Stmt := topS 31
theorem sc__law_chain : FnScope ["period", "generator", "count", "k"] ["period", "generator", "count"] (defScope s__law_chain) := ⟨rfl, rfl, rfl, by decide +kernel, rfl, by decide +kernel, by decide +kernel⟩
abbrev s__law_gaps : Stmt := topS 32
theorem sc__law_gaps : FnScope ["scale", "period", "result", "at"] ["scale", "period"] (defScope s__law_gaps) := ⟨rfl, rfl, rfl, by decide +kernel, rfl, by decide +kernel, by decide +kernel⟩
abbrev s__law_rotated : Stmt := topS 33
theorem sc__law_rotated : FnScope ["gap_list", "by", "k"] ["gap_list", "by"] (defScope s__law_rotated) := ⟨rfl, rfl, rfl, by decide +kernel, rfl, by decide +kernel, by decide +kernel⟩
abbrev s__law_count : Stmt := topS 34
theorem sc__law_count : FnScope ["gap_list", "by"] ["gap_list"] (defScope s__law_count) := ⟨rfl, rfl, rfl, by decide +kernel, rfl, by decide +kernel, by decide +kernel⟩
abbrev s__law_brighter : Stmt := topS 35
theorem sc__law_brighter : FnScope ["first", "second", "at"] ["first", "second"] (defScope s__law_brighter) := ⟨rfl, rfl, rfl, by decide +kernel, rfl, by decide +kernel, by decide +kernel⟩
abbrev s__law_brightest : Stmt := topS 36
theorem sc__law_brightest : FnScope ["gap_list", "best", "by"] ["gap_list"] (defScope s__law_brightest) := ⟨rfl, rfl, rfl, by decide +kernel, rfl, by decide +kernel, by decide +kernel⟩
abbrev s__law_asks_rotations : Stmt := topS 37
theorem sc__law_asks_rotations : FnScope ["gap_list", "turns", "passed", "by", "found"] ["gap_list", "turns"] (defScope s__law_asks_rotations) := ⟨rfl, rfl, rfl, by decide +kernel, rfl, by decide +kernel, by decide +kernel⟩
abbrev s__law_asks_modes : Stmt := topS 38
theorem sc__law_asks_modes : FnScope ["gap_list", "count", "passed", "told", "found", "by"] ["gap_list"] (defScope s__law_asks_modes) := ⟨rfl, rfl, rfl, by decide +kernel, rfl, by decide +kernel, by decide +kernel⟩
abbrev s__law_asks_scale : Stmt := topS 39
theorem sc__law_asks_scale : FnScope ["scale", "period", "passed", "distances", "at", "due", "found"] ["scale", "period"] (defScope s__law_asks_scale) := ⟨rfl, rfl, rfl, by decide +kernel, rfl, by decide +kernel, by decide +kernel⟩
abbrev s__law_second : Stmt := topS 40
theorem sc__law_second : FnScope ["script", "draws", "gap_list", "turn", "wide", "period", "generator", "order", "count", "scale", "k", "gap"] ["script"] (defScope s__law_second) := ⟨rfl, rfl, rfl, by decide +kernel, rfl, by decide +kernel, by decide +kernel⟩
abbrev s_law : Stmt := topS 41
theorem sc_law : FnScope ["script"] ["script"] (defScope s_law) := ⟨rfl, rfl, rfl, by decide +kernel, rfl, by decide +kernel, by decide +kernel⟩
section
variable {P : Program} {K : PySem.W.Frag} {mg : Str → Option Value} {base : Heap}
theorem c_chain_scale {f : Addr} {fd : FuncData} (F : L2.Fun K "chain_scale" "chain_scale" s_chain_scale f fd) (hm : mg "chain_scale" = some (.ref f)) (hb : Binds K fd ["period", "generator", "count"] []) (z_range : mg "range" = none) (z_set : mg "set" = none) (z_sorted : mg "sorted" = none)    :
    Cal P WT.w K mg base "chain_scale" 1 3 w_chain_scale :=
  cal_def F sc_chain_scale hm hb (m := m_chain_scale) fun cdv A outer s H E hr =>
  (svs_cons (sv_set 3 true sc_chain_scale.nd (ev_lst ea_nil) rfl (Or.inl rfl))
  (svs_cons (sv_set 4 true sc_chain_scale.nd (ev_set0 rfl (by rfl) z_set PyProof.Rows.boot_set) rfl (Or.inl rfl))
  (svs_cons (sv_forR1 [5, 6] PassesOwn.never rfl (by rfl) z_range (ea_cons (ev_var 2 rfl (Or.inl rfl)) ea_nil) (tg_nm 5 sc_chain_scale.nd rfl (Or.inl rfl) (.inl rfl))
  (svs_cons (sv_set 6 true sc_chain_scale.nd (ev_op op_mod ok_mod (ev_op op_mulG ok_mul (ev_var 5 rfl (Or.inl rfl)) (ev_var 1 rfl (Or.inl rfl))) (ev_var 0 rfl (Or.inl rfl))) rfl (Or.inl rfl))
  (svs_cons (sv_if (et_cmp or_sin ok_inS (ev_var 6 rfl (Or.inl rfl)) (ev_var 4 rfl (Or.inl rfl)) (by rfl))
  (svs_one sv_never)
  svs_nil)
  (svs_cons (sv_sadd rfl 4 (ev_var 6 rfl (Or.inl rfl)) rfl (Or.inl rfl))
  (svs_one (sv_app 3 (ev_var 6 rfl (Or.inl rfl)) rfl (Or.inl rfl)))))))
  (svs_one (sv_ret (ev_callB cr_sortedI ok_sorted (by rfl) z_sorted PyProof.Rows.boot_sorted (ea_cons (ev_var 3 rfl (Or.inl rfl)) ea_nil)))))))
theorem c_gaps {f : Addr} {fd : FuncData} (F : L2.Fun K "gaps" "gaps" s_gaps f fd) (hm : mg "gaps" = some (.ref f)) (hb : Binds K fd ["scale", "period"] []) (z_len : mg "len" = none) (z_range : mg "range" = none)    :
    Cal P WT.w K mg base "gaps" 1 2 w_gaps :=
  cal_def F sc_gaps hm hb (m := m_gaps) fun cdv A outer s H E hr =>
  (svs_cons (sv_set 2 true sc_gaps.nd (ev_lst ea_nil) rfl (Or.inl rfl))
  (svs_cons (sv_forR1 [3] PassesOwn.never rfl (by rfl) z_range (ea_cons (ev_op op_sub ok_sub (ev_callB call_lenG ok_len (by rfl) z_len PySem.boot_len (ea_cons (ev_var 0 rfl (Or.inl rfl)) ea_nil)) ev_int) ea_nil) (tg_nm 3 sc_gaps.nd rfl (Or.inl rfl) (.inl rfl))
  (svs_one (sv_app 2 (ev_op op_sub ok_sub (ev_sub (ev_var 0 rfl (Or.inl rfl)) (ev_op op_addG ok_add (ev_var 3 rfl (Or.inl rfl)) ev_int) (fun _ _ => rfl)) (ev_sub (ev_var 0 rfl (Or.inl rfl)) (ev_var 3 rfl (Or.inl rfl)) (fun _ _ => rfl))) rfl (Or.inl rfl))))
  (svs_cons (sv_app 2 (ev_op op_sub ok_sub (ev_op op_addG ok_add (ev_sub (ev_var 0 rfl (Or.inl rfl)) ev_int (fun _ _ => rfl)) (ev_var 1 rfl (Or.inl rfl))) (ev_sub (ev_var 0 rfl (Or.inl rfl)) (ev_un un_neg ok_neg ev_int) (fun _ _ => rfl))) rfl (Or.inl rfl))
  (svs_one (sv_ret (ev_var 2 rfl (Or.inl rfl)))))))
theorem c_shifted {f : Addr} {fd : FuncData} (F : L2.Fun K "shifted" "shifted" s_shifted f fd) (hm : mg "shifted" = some (.ref f)) (hb : Binds K fd ["scale", "period", "by"] []) (z_sorted : mg "sorted" = none)    :
    Cal P WT.w K mg base "shifted" 1 3 w_shifted :=
  cal_def F sc_shifted hm hb (m := m_shifted) fun cdv A outer s H E hr =>
  (svs_one (sv_ret (ev_callB cr_sortedI ok_sorted (by rfl) z_sorted PyProof.Rows.boot_sorted (ea_cons (ev_lc [("note", 3)] (tg := (.nm 3)) rfl sc_shifted.nd (blkOk_by (own := [("note", 3)]) (N := ["scale", "period", "by", "note"]) (sc := defScope s_shifted) (by decide +kernel)) (fun _ _ _ _ _ => (tg_nm 3 sc_shifted.nd rfl (Or.inl rfl) (.inr rfl))) (fun _ _ _ _ _ => ets_nil) (fun _ _ _ _ _ => (ev_op op_mod ok_mod (ev_op op_addG ok_add (ev_var 3 rfl (Or.inl rfl)) (ev_var 2 rfl (Or.inr (Or.inl rfl)))) (ev_var 1 rfl (Or.inr (Or.inl rfl))))) (fun ht he => es_V (ev_var 0 rfl (Or.inl rfl)) (ht := ht) (he := he))) ea_nil))))
theorem c_shared {f : Addr} {fd : FuncData} (F : L2.Fun K "shared" "shared" s_shared f fd) (hm : mg "shared" = some (.ref f)) (hb : Binds K fd ["first", "second"] [])     :
    Cal P WT.w K mg base "shared" 1 2 w_shared :=
  cal_def F sc_shared hm hb (m := m_shared) fun cdv A outer s H E hr =>
  (svs_one (sv_ret (ev_lc [("note", 2)] (tg := (.nm 2)) rfl sc_shared.nd (blkOk_by (own := [("note", 2)]) (N := ["first", "second", "note"]) (sc := defScope s_shared) (by decide +kernel)) (fun _ _ _ _ _ => (tg_nm 2 sc_shared.nd rfl (Or.inl rfl) (.inr rfl))) (fun _ _ _ _ _ => (ets_one (et_cmp op_in_seq (ok_inB false) (ev_var 2 rfl (Or.inl rfl)) (ev_var 1 rfl (Or.inr (Or.inl rfl))) (by rfl)))) (fun _ _ _ _ _ => (ev_var 2 rfl (Or.inl rfl))) (fun ht he => es_V (ev_var 0 rfl (Or.inl rfl)) (ht := ht) (he := he)))))
theorem c_chain_from {f : Addr} {fd : FuncData} (F : L2.Fun K "chain_from" "chain_from" s_chain_from f fd) (hm : mg "chain_from" = some (.ref f)) (hb : Binds K fd ["note", "period", "generator", "count"] []) (z_range : mg "range" = none) (z_sorted : mg "sorted" = none)    :
    Cal P WT.w K mg base "chain_from" 1 4 w_chain_from :=
  cal_def F sc_chain_from hm hb (m := m_chain_from) fun cdv A outer s H E hr =>
  (svs_one (sv_ret (ev_callB cr_sortedI ok_sorted (by rfl) z_sorted PyProof.Rows.boot_sorted (ea_cons (ev_lc [("k", 4)] (tg := (.nm 4)) rfl sc_chain_from.nd (blkOk_by (own := [("k", 4)]) (N := ["note", "period", "generator", "count", "k"]) (sc := defScope s_chain_from) (by decide +kernel)) (fun _ _ _ _ _ => (tg_nm 4 sc_chain_from.nd rfl (Or.inl rfl) (.inr rfl))) (fun _ _ _ _ _ => ets_nil) (fun _ _ _ _ _ => (ev_op op_mod ok_mod (ev_op op_addG ok_add (ev_var 0 rfl (Or.inr (Or.inl rfl))) (ev_op op_mulG ok_mul (ev_var 4 rfl (Or.inl rfl)) (ev_var 2 rfl (Or.inr (Or.inl rfl))))) (ev_var 1 rfl (Or.inr (Or.inl rfl))))) (fun ht he => es_R1 (by rfl) z_range (ea_cons (ev_var 3 rfl (Or.inl rfl)) ea_nil) (ht := ht) (he := he))) ea_nil))))
theorem c_chain_start {f : Addr} {fd : FuncData} (F : L2.Fun K "chain_start" "chain_start" s_chain_start f fd) (hm : mg "chain_start" = some (.ref f)) (hb : Binds K fd ["scale", "period", "generator"] []) (z_len : mg "len" = none)   (C_chain_from : Cal P WT.w K mg base "chain_from" 1 4 w_chain_from) :
    Cal P WT.w K mg base "chain_start" 2 3 w_chain_start :=
  cal_def F sc_chain_start hm hb (m := m_chain_start) fun cdv A outer s H E hr =>
  (svs_cons (sv_forN [3] 0 PassesOwn.never rfl (tg_nm 3 sc_chain_start.nd rfl (Or.inl rfl) (.inl rfl))
  (svs_one (sv_if (et_cmp (op_eqG hr.units) ok_eq (ev_callC C_chain_from (by rfl) hr (ea_cons (ev_var 3 rfl (Or.inl rfl)) (ea_cons (ev_var 1 rfl (Or.inl rfl)) (ea_cons (ev_var 2 rfl (Or.inl rfl)) (ea_cons (ev_callB call_lenG ok_len (by rfl) z_len PySem.boot_len (ea_cons (ev_var 0 rfl (Or.inl rfl)) ea_nil)) ea_nil))))) (ev_var 0 rfl (Or.inl rfl)) (nomark _))
  (svs_one (sv_ret (ev_var 3 rfl (Or.inl rfl))))
  svs_nil)) rfl (Or.inl rfl))
  (svs_one (sv_ret ev_non)))
theorem c_rotated_gaps {f : Addr} {fd : FuncData} (F : L2.Fun K "rotated_gaps" "rotated_gaps" s_rotated_gaps f fd) (hm : mg "rotated_gaps" = some (.ref f)) (hb : Binds K fd ["gap_list", "by"] []) (z_len : mg "len" = none)    :
    Cal P WT.w K mg base "rotated_gaps" 1 2 w_rotated_gaps :=
  cal_def F sc_rotated_gaps hm hb (m := m_rotated_gaps) fun cdv A outer s H E hr =>
  (svs_cons (sv_set 2 true sc_rotated_gaps.nd (ev_op op_mod ok_mod (ev_var 1 rfl (Or.inl rfl)) (ev_callB call_lenG ok_len (by rfl) z_len PySem.boot_len (ea_cons (ev_var 0 rfl (Or.inl rfl)) ea_nil))) rfl (Or.inl rfl))
  (svs_one (sv_ret (ev_op op_addG ok_add (ev_slice (ev_var 0 rfl (Or.inl rfl)) (eo_some (ev_var 2 rfl (Or.inl rfl))) eo_none) (ev_slice (ev_var 0 rfl (Or.inl rfl)) eo_none (eo_some (ev_var 2 rfl (Or.inl rfl))))))))
theorem c_mode_count {f : Addr} {fd : FuncData} (F : L2.Fun K "mode_count" "mode_count" s_mode_count f fd) (hm : mg "mode_count" = some (.ref f)) (hb : Binds K fd ["gap_list"] [])    (C_rotated_gaps : Cal P WT.w K mg base "rotated_gaps" 1 2 w_rotated_gaps) :
    Cal P WT.w K mg base "mode_count" 2 1 w_mode_count :=
  cal_def F sc_mode_count hm hb (m := m_mode_count) fun cdv A outer s H E hr =>
  (svs_cons (sv_set 1 true sc_mode_count.nd ev_int rfl (Or.inl rfl))
  (svs_cons (sv_while PassesOwn.never (et_cmp (op_neG hr.units) ok_ne (ev_callC C_rotated_gaps (by rfl) hr (ea_cons (ev_var 0 rfl (Or.inl rfl)) (ea_cons (ev_var 1 rfl (Or.inl rfl)) ea_nil))) (ev_var 0 rfl (Or.inl rfl)) (nomark _))
  (svs_one (sv_set 1 true sc_mode_count.nd (ev_op op_addG ok_add (ev_var 1 rfl (Or.inl rfl)) ev_int) rfl (Or.inl rfl))))
  (svs_one (sv_ret (ev_var 1 rfl (Or.inl rfl))))))
theorem c_modes {f : Addr} {fd : FuncData} (F : L2.Fun K "modes" "modes" s_modes f fd) (hm : mg "modes" = some (.ref f)) (hb : Binds K fd ["gap_list"] []) (z_range : mg "range" = none)   (C_rotated_gaps : Cal P WT.w K mg base "rotated_gaps" 1 2 w_rotated_gaps) (C_mode_count : Cal P WT.w K mg base "mode_count" 2 1 w_mode_count) :
    Cal P WT.w K mg base "modes" 3 1 w_modes :=
  cal_def F sc_modes hm hb (m := m_modes) fun cdv A outer s H E hr =>
  (svs_one (sv_ret (ev_lc [("by", 1)] (tg := (.nm 1)) rfl sc_modes.nd (blkOk_by (own := [("by", 1)]) (N := ["gap_list", "by"]) (sc := defScope s_modes) (by decide +kernel)) (fun _ _ _ _ _ => (tg_nm 1 sc_modes.nd rfl (Or.inl rfl) (.inr rfl))) (fun _ _ _ _ _ => ets_nil) (fun _ _ _ _ _ => (ev_callC C_rotated_gaps (by rfl) hr (ea_cons (ev_var 0 rfl (Or.inr (Or.inl rfl))) (ea_cons (ev_var 1 rfl (Or.inl rfl)) ea_nil)))) (fun ht he => es_R1 (by rfl) z_range (ea_cons (ev_callC C_mode_count (by rfl) hr (ea_cons (ev_var 0 rfl (Or.inr (Or.inl rfl))) ea_nil)) ea_nil) (ht := ht) (he := he)))))
theorem c_notes_of {f : Addr} {fd : FuncData} (F : L2.Fun K "notes_of" "notes_of" s_notes_of f fd) (hm : mg "notes_of" = some (.ref f)) (hb : Binds K fd ["gap_list"] [])     :
    Cal P WT.w K mg base "notes_of" 1 1 w_notes_of :=
  cal_def F sc_notes_of hm hb (m := m_notes_of) fun cdv A outer s H E hr =>
  (svs_cons (sv_set 1 true sc_notes_of.nd (ev_lst ea_nil) rfl (Or.inl rfl))
  (svs_cons (sv_set 2 true sc_notes_of.nd ev_int rfl (Or.inl rfl))
  (svs_cons (sv_forN [3] 0 PassesOwn.never rfl (tg_nm 3 sc_notes_of.nd rfl (Or.inl rfl) (.inl rfl))
  (svs_cons (sv_app 1 (ev_var 2 rfl (Or.inl rfl)) rfl (Or.inl rfl))
  (svs_one (sv_set 2 true sc_notes_of.nd (ev_op op_addG ok_add (ev_var 2 rfl (Or.inl rfl)) (ev_var 3 rfl (Or.inl rfl))) rfl (Or.inl rfl)))) rfl (Or.inl rfl))
  (svs_one (sv_ret (ev_var 1 rfl (Or.inl rfl)))))))
theorem c_brightest {f : Addr} {fd : FuncData} (F : L2.Fun K "brightest" "brightest" s_brightest f fd) (hm : mg "brightest" = some (.ref f)) (hb : Binds K fd ["gap_list"] []) (z_len : mg "len" = none) (z_range : mg "range" = none)   (C_notes_of : Cal P WT.w K mg base "notes_of" 1 1 w_notes_of) (C_rotated_gaps : Cal P WT.w K mg base "rotated_gaps" 1 2 w_rotated_gaps) :
    Cal P WT.w K mg base "brightest" 2 1 w_brightest :=
  cal_def F sc_brightest hm hb (m := m_brightest) fun cdv A outer s H E hr =>
  (svs_cons (sv_set 1 true sc_brightest.nd ev_int rfl (Or.inl rfl))
  (svs_cons (sv_forR2 [2] PassesOwn.never rfl (by rfl) z_range (ea_cons ev_int (ea_cons (ev_callB call_lenG ok_len (by rfl) z_len PySem.boot_len (ea_cons (ev_var 0 rfl (Or.inl rfl)) ea_nil)) ea_nil)) (tg_nm 2 sc_brightest.nd rfl (Or.inl rfl) (.inl rfl))
  (svs_one (sv_if (et_cmp (op_gtL (units65 hr)) ok_gtL (ev_callC C_notes_of (by rfl) hr (ea_cons (ev_callC C_rotated_gaps (by rfl) hr (ea_cons (ev_var 0 rfl (Or.inl rfl)) (ea_cons (ev_var 2 rfl (Or.inl rfl)) ea_nil))) ea_nil)) (ev_callC C_notes_of (by rfl) hr (ea_cons (ev_callC C_rotated_gaps (by rfl) hr (ea_cons (ev_var 0 rfl (Or.inl rfl)) (ea_cons (ev_var 1 rfl (Or.inl rfl)) ea_nil))) ea_nil)) (by rfl))
  (svs_one (sv_set 1 true sc_brightest.nd (ev_var 2 rfl (Or.inl rfl)) rfl (Or.inl rfl)))
  svs_nil)))
  (svs_one (sv_ret (ev_var 1 rfl (Or.inl rfl))))))
theorem c_mode_from {f : Addr} {fd : FuncData} (F : L2.Fun K "mode_from" "mode_from" s_mode_from f fd) (hm : mg "mode_from" = some (.ref f)) (hb : Binds K fd ["scale", "period", "note"] [])    (C_shifted : Cal P WT.w K mg base "shifted" 1 3 w_shifted) :
    Cal P WT.w K mg base "mode_from" 2 3 w_mode_from :=
  cal_def F sc_mode_from hm hb (m := m_mode_from) fun cdv A outer s H E hr =>
  (svs_one (sv_ret (ev_callC C_shifted (by rfl) hr (ea_cons (ev_var 0 rfl (Or.inl rfl)) (ea_cons (ev_var 1 rfl (Or.inl rfl)) (ea_cons (ev_un un_neg ok_neg (ev_var 2 rfl (Or.inl rfl))) ea_nil))))))
theorem c__law_draws {f : Addr} {fd : FuncData} (F : L2.Fun K "_law_draws" "_law_draws" s__law_draws f fd) (hm : mg "_law_draws" = some (.ref f)) (hb : Binds K fd ["script", "many"] []) (z_abs : mg "abs" = none) (z_int : mg "int" = none) (z_len : mg "len" = none) (z_range : mg "range" = none)    :
    Cal P WT.w K mg base "_law_draws" 1 2 w__law_draws :=
  cal_def F sc__law_draws hm hb (m := m__law_draws) fun cdv A outer s H E hr =>
  (svs_cons (sv_set 2 true sc__law_draws.nd (ev_lst ea_nil) rfl (Or.inl rfl))
  (svs_cons (sv_forV [3, 4, 5, 6] PassesOwn.never rfl (ev_slice (ev_var 0 rfl (Or.inl rfl)) eo_none (eo_some ev_int)) (tg_nm 3 sc__law_draws.nd rfl (Or.inl rfl) (.inl rfl))
  (svs_cons (sv_set 4 true sc__law_draws.nd (ev_callB call_abs ok_abs (by rfl) z_abs PyProof.Rows.boot_abs (ea_cons (ev_callTy call_int1 ok_int (by rfl) z_int PyProof.Rows.boot_int (ea_cons (ev_var 3 rfl (Or.inl rfl)) ea_nil)) ea_nil)) rfl (Or.inl rfl))
  (svs_one (sv_if (et_cmp op_ge ok_ge (ev_var 4 rfl (Or.inl rfl)) (ev_op op_pow ok_pow ev_int ev_int) (nomark _))
  (svs_one (sv_forR1 [5] PassesOwn.never rfl (by rfl) z_range (ea_cons ev_int ea_nil) (tg_nm 5 sc__law_draws.nd rfl (Or.inl rfl) (.inl rfl))
  (svs_one (sv_if (et_cmp op_gt ok_gt (ev_var 4 rfl (Or.inl rfl)) ev_int (nomark _))
  (svs_cons (sv_app 2 (ev_op op_mod ok_mod (ev_var 4 rfl (Or.inl rfl)) ev_int) rfl (Or.inl rfl))
  (svs_one (sv_set 4 true sc__law_draws.nd (ev_op op_fdivW ok_div (ev_var 4 rfl (Or.inl rfl)) ev_int) rfl (Or.inl rfl))))
  svs_nil))))
  (svs_cons (sv_set 6 true sc__law_draws.nd (ev_op op_mod ok_mod (ev_op op_addG ok_add (ev_op op_addG ok_add (ev_op op_mulG ok_mul (ev_var 4 rfl (Or.inl rfl)) ev_int) (ev_op op_mulG ok_mul ev_int (ev_callB call_lenG ok_len (by rfl) z_len PySem.boot_len (ea_cons (ev_var 2 rfl (Or.inl rfl)) ea_nil)))) ev_int) ev_int) rfl (Or.inl rfl))
  (svs_one (sv_forR1 [5] PassesOwn.never rfl (by rfl) z_range (ea_cons ev_int ea_nil) (tg_nm 5 sc__law_draws.nd rfl (Or.inl rfl) (.inl rfl))
  (svs_cons (sv_set 6 true sc__law_draws.nd (ev_op op_mod ok_mod (ev_op op_addG ok_add (ev_op op_addG ok_add (ev_op op_addG ok_add (ev_op op_mulG ok_mul (ev_var 6 rfl (Or.inl rfl)) ev_int) (ev_op op_fdivW ok_div (ev_var 6 rfl (Or.inl rfl)) ev_int)) (ev_op op_mulG ok_mul ev_int (ev_var 5 rfl (Or.inl rfl)))) ev_int) ev_int) rfl (Or.inl rfl))
  (svs_one (sv_app 2 (ev_op op_mod ok_mod (ev_op op_fdivW ok_div (ev_var 6 rfl (Or.inl rfl)) ev_int) ev_int) rfl (Or.inl rfl)))))))))))
  (svs_cons (sv_forR1 [5, 7] PassesOwn.never rfl (by rfl) z_range (ea_cons (ev_var 1 rfl (Or.inl rfl)) ea_nil) (tg_nm 5 sc__law_draws.nd rfl (Or.inl rfl) (.inl rfl))
  (svs_one (sv_if (et_cmp op_lt ok_lt (ev_callB call_lenG ok_len (by rfl) z_len PySem.boot_len (ea_cons (ev_var 2 rfl (Or.inl rfl)) ea_nil)) (ev_var 1 rfl (Or.inl rfl)) (nomark _))
  (svs_cons (sv_set 7 true sc__law_draws.nd ev_int rfl (Or.inl rfl))
  (svs_cons (sv_if (et_cmp op_gt ok_gt (ev_callB call_lenG ok_len (by rfl) z_len PySem.boot_len (ea_cons (ev_var 2 rfl (Or.inl rfl)) ea_nil)) ev_int (nomark _))
  (svs_one (sv_set 7 false sc__law_draws.nd (ev_sub (ev_var 2 rfl (Or.inl rfl)) (ev_op op_mod ok_mod (ev_var 5 rfl (Or.inl rfl)) (ev_callB call_lenG ok_len (by rfl) z_len PySem.boot_len (ea_cons (ev_var 2 rfl (Or.inl rfl)) ea_nil))) (fun _ _ => rfl)) rfl (Or.inl rfl)))
  svs_nil)
  (svs_one (sv_app 2 (ev_op op_mod ok_mod (ev_op op_addG ok_add (ev_op op_addG ok_add (ev_op op_mulG ok_mul (ev_var 7 rfl (Or.inl rfl)) ev_int) (ev_op op_mulG ok_mul ev_int (ev_callB call_lenG ok_len (by rfl) z_len PySem.boot_len (ea_cons (ev_var 2 rfl (Or.inl rfl)) ea_nil)))) ev_int) ev_int) rfl (Or.inl rfl)))))
  svs_nil)))
  (svs_one (sv_ret (ev_slice (ev_var 2 rfl (Or.inl rfl)) eo_none (eo_some (ev_var 1 rfl (Or.inl rfl)))))))))
theorem c__law_is_number {f : Addr} {fd : FuncData} (F : L2.Fun K "_law_is_number" "_law_is_number" s__law_is_number f fd) (hm : mg "_law_is_number" = some (.ref f)) (hb : Binds K fd ["value"] []) (z_bool : mg "bool" = none) (z_int : mg "int" = none) (z_isinstance : mg "isinstance" = none)    :
    Cal P WT.w K mg base "_law_is_number" 1 1 w__law_is_number :=
  cal_def F sc__law_is_number hm hb (m := m__law_is_number) fun cdv A outer s H E hr =>
  (svs_one (sv_ret (ev_and (ev_isi (T := "int") (by rfl) z_isinstance (by rfl) z_int PyProof.Rows.boot_int (ev_var 0 rfl (Or.inl rfl)) (by decide +kernel)) (ev_one (ev_not (ev_isi (T := "bool") (by rfl) z_isinstance (by rfl) z_bool PyProof.Rows.boot_bool (ev_var 0 rfl (Or.inl rfl)) (by decide +kernel)))))))
theorem c__law_is_numbers {f : Addr} {fd : FuncData} (F : L2.Fun K "_law_is_numbers" "_law_is_numbers" s__law_is_numbers f fd) (hm : mg "_law_is_numbers" = some (.ref f)) (hb : Binds K fd ["value", "size"] []) (z_isinstance : mg "isinstance" = none) (z_len : mg "len" = none) (z_list : mg "list" = none)   (C__law_is_number : Cal P WT.w K mg base "_law_is_number" 1 1 w__law_is_number) :
    Cal P WT.w K mg base "_law_is_numbers" 2 2 w__law_is_numbers :=
  cal_def F sc__law_is_numbers hm hb (m := m__law_is_numbers) fun cdv A outer s H E hr =>
  (svs_cons (sv_if ((ew_or (et_not (et_val (ev_isi (T := "list") (by rfl) z_isinstance (by rfl) z_list PyProof.Rows.boot_list (ev_var 0 rfl (Or.inl rfl)) (by decide +kernel)))) (ew_or1 (et_cmp (op_neG hr.units) ok_ne (ev_callB call_lenG ok_len (by rfl) z_len PySem.boot_len (ea_cons (ev_var 0 rfl (Or.inl rfl)) ea_nil)) (ev_var 1 rfl (Or.inl rfl)) (nomark _))))).et
  (svs_one (sv_ret ev_bl))
  svs_nil)
  (svs_cons (sv_forN [2] 0 PassesOwn.never rfl (tg_nm 2 sc__law_is_numbers.nd rfl (Or.inl rfl) (.inl rfl))
  (svs_one (sv_if (et_not (et_val (ev_callC C__law_is_number (by rfl) hr (ea_cons (ev_var 2 rfl (Or.inl rfl)) ea_nil))))
  (svs_one (sv_ret ev_bl))
  svs_nil)) rfl (Or.inl rfl))
  (svs_one (sv_ret ev_bl))))
theorem c__law_same_numbers {f : Addr} {fd : FuncData} (F : L2.Fun K "_law_same_numbers" "_law_same_numbers" s__law_same_numbers f fd) (hm : mg "_law_same_numbers" = some (.ref f)) (hb : Binds K fd ["found", "due"] []) (z_len : mg "len" = none) (z_range : mg "range" = none)   (C__law_is_numbers : Cal P WT.w K mg base "_law_is_numbers" 2 2 w__law_is_numbers) :
    Cal P WT.w K mg base "_law_same_numbers" 3 2 w__law_same_numbers :=
  cal_def F sc__law_same_numbers hm hb (m := m__law_same_numbers) fun cdv A outer s H E hr =>
  (svs_cons (sv_if (et_not (et_val (ev_callC C__law_is_numbers (by rfl) hr (ea_cons (ev_var 0 rfl (Or.inl rfl)) (ea_cons (ev_callB call_lenG ok_len (by rfl) z_len PySem.boot_len (ea_cons (ev_var 1 rfl (Or.inl rfl)) ea_nil)) ea_nil)))))
  (svs_one (sv_ret ev_bl))
  svs_nil)
  (svs_cons (sv_forR1 [2] PassesOwn.never rfl (by rfl) z_range (ea_cons (ev_callB call_lenG ok_len (by rfl) z_len PySem.boot_len (ea_cons (ev_var 1 rfl (Or.inl rfl)) ea_nil)) ea_nil) (tg_nm 2 sc__law_same_numbers.nd rfl (Or.inl rfl) (.inl rfl))
  (svs_one (sv_if (et_cmp (op_neG hr.units) ok_ne (ev_sub (ev_var 0 rfl (Or.inl rfl)) (ev_var 2 rfl (Or.inl rfl)) (fun _ _ => rfl)) (ev_sub (ev_var 1 rfl (Or.inl rfl)) (ev_var 2 rfl (Or.inl rfl)) (fun _ _ => rfl)) (nomark _))
  (svs_one (sv_ret ev_bl))
  svs_nil)))
  (svs_one (sv_ret ev_bl))))
theorem c__law_gcd {f : Addr} {fd : FuncData} (F : L2.Fun K "_law_gcd" "_law_gcd" s__law_gcd f fd) (hm : mg "_law_gcd" = some (.ref f)) (hb : Binds K fd ["first", "second"] []) (z_abs : mg "abs" = none) (z_range : mg "range" = none)    :
    Cal P WT.w K mg base "_law_gcd" 1 2 w__law_gcd :=
  cal_def F sc__law_gcd hm hb (m := m__law_gcd) fun cdv A outer s H E hr =>
  (svs_cons (sv_set 0 true sc__law_gcd.nd (ev_callB call_abs ok_abs (by rfl) z_abs PyProof.Rows.boot_abs (ea_cons (ev_var 0 rfl (Or.inl rfl)) ea_nil)) rfl (Or.inl rfl))
  (svs_cons (sv_set 1 true sc__law_gcd.nd (ev_callB call_abs ok_abs (by rfl) z_abs PyProof.Rows.boot_abs (ea_cons (ev_var 1 rfl (Or.inl rfl)) ea_nil)) rfl (Or.inl rfl))
  (svs_cons (sv_forR1 [2] PassesOwn.never rfl (by rfl) z_range (ea_cons ev_int ea_nil) (tg_nm 2 sc__law_gcd.nd rfl (Or.inl rfl) (.inl rfl))
  (svs_one (sv_if (et_cmp op_gt ok_gt (ev_var 1 rfl (Or.inl rfl)) ev_int (nomark _))
  (svs_one (sv_par 0 1 rfl sc__law_gcd.nd (ev_var 1 rfl (Or.inl rfl)) (ev_op op_mod ok_mod (ev_var 0 rfl (Or.inl rfl)) (ev_var 1 rfl (Or.inl rfl)))))
  svs_nil)))
  (svs_one (sv_ret (ev_var 0 rfl (Or.inl rfl)))))))
theorem c__law_unlike {f : Addr} {fd : FuncData} (F : L2.Fun K "_law_unlike" "_law_unlike" s__law_unlike f fd) (hm : mg "_law_unlike" = some (.ref f)) (hb : Binds K fd ["numbers"] []) (z_len : mg "len" = none) (z_sorted : mg "sorted" = none)    :
    Cal P WT.w K mg base "_law_unlike" 1 1 w__law_unlike :=
  cal_def F sc__law_unlike hm hb (m := m__law_unlike) fun cdv A outer s H E hr =>
  (svs_cons (sv_set 1 true sc__law_unlike.nd (ev_lst ea_nil) rfl (Or.inl rfl))
  (svs_cons (sv_forV [2] PassesOwn.never rfl (ev_callB cr_sortedI ok_sorted (by rfl) z_sorted PyProof.Rows.boot_sorted (ea_cons (ev_var 0 rfl (Or.inl rfl)) ea_nil)) (tg_nm 2 sc__law_unlike.nd rfl (Or.inl rfl) (.inl rfl))
  (svs_one (sv_if ((ew_or (et_cmp (op_eqG hr.units) ok_eq (ev_callB call_lenG ok_len (by rfl) z_len PySem.boot_len (ea_cons (ev_var 1 rfl (Or.inl rfl)) ea_nil)) ev_int (nomark _)) (ew_or1 (et_cmp (op_neG hr.units) ok_ne (ev_sub (ev_var 1 rfl (Or.inl rfl)) (ev_un un_neg ok_neg ev_int) (fun _ _ => rfl)) (ev_var 2 rfl (Or.inl rfl)) (nomark _))))).et
  (svs_one (sv_app 1 (ev_var 2 rfl (Or.inl rfl)) rfl (Or.inl rfl)))
  svs_nil)))
  (svs_one (sv_ret (ev_var 1 rfl (Or.inl rfl))))))
theorem c__law_chain_world {f : Addr} {fd : FuncData} (F : L2.Fun K "_law_chain_world" "_law_chain_world" s__law_chain_world f fd) (hm : mg "_law_chain_world" = some (.ref f)) (hb : Binds K fd ["draws"] []) (z_min : mg "min" = none)   (C__law_gcd : Cal P WT.w K mg base "_law_gcd" 1 2 w__law_gcd) :
    Cal P WT.w K mg base "_law_chain_world" 2 1 w__law_chain_world :=
  cal_def F sc__law_chain_world hm hb (m := m__law_chain_world) fun cdv A outer s H E hr =>
  (svs_cons (sv_set 1 true sc__law_chain_world.nd (ev_op op_addG ok_add ev_int (ev_op op_mod ok_mod (ev_sub (ev_var 0 rfl (Or.inl rfl)) ev_int (fun _ _ => rfl)) ev_int)) rfl (Or.inl rfl))
  (svs_cons (sv_set 2 true sc__law_chain_world.nd (ev_op op_sub ok_sub (ev_op op_mod ok_mod (ev_sub (ev_var 0 rfl (Or.inl rfl)) ev_int (fun _ _ => rfl)) ev_int) ev_int) rfl (Or.inl rfl))
  (svs_cons (sv_ifJ (sv_if (et_cmp (op_eqG hr.units) ok_eq (ev_op op_mod ok_mod (ev_sub (ev_var 0 rfl (Or.inl rfl)) ev_int (fun _ _ => rfl)) ev_int) ev_int (nomark _))
  (svs_cons (sv_set 1 true sc__law_chain_world.nd (ev_op op_addG ok_add ev_int (ev_op op_mod ok_mod (ev_sub (ev_var 0 rfl (Or.inl rfl)) ev_int (fun _ _ => rfl)) (ev_op op_pow ok_pow ev_int ev_int))) rfl (Or.inl rfl))
  (svs_one (sv_set 2 true sc__law_chain_world.nd (ev_op op_sub ok_sub (ev_op op_addG ok_add (ev_op op_mulG ok_mul (ev_sub (ev_var 0 rfl (Or.inl rfl)) ev_int (fun _ _ => rfl)) ev_int) (ev_sub (ev_var 0 rfl (Or.inl rfl)) ev_int (fun _ _ => rfl))) (ev_op op_pow ok_pow ev_int ev_int)) rfl (Or.inl rfl))))
  svs_nil))
  (svs_cons (sv_ifJ (sv_if (et_cmp (op_eqG hr.units) ok_eq (ev_op op_mod ok_mod (ev_sub (ev_var 0 rfl (Or.inl rfl)) ev_int (fun _ _ => rfl)) ev_int) ev_int (nomark _))
  (svs_one (sv_set 1 true sc__law_chain_world.nd (ev_op op_mulG ok_mul (ev_op op_mulG ok_mul (ev_op op_mulG ok_mul (ev_op op_mulG ok_mul ev_int ev_int) ev_int) ev_int) (ev_op op_addG ok_add ev_int (ev_op op_mod ok_mod (ev_sub (ev_var 0 rfl (Or.inl rfl)) ev_int (fun _ _ => rfl)) ev_int))) rfl (Or.inl rfl)))
  svs_nil))
  (svs_cons (sv_set 3 true sc__law_chain_world.nd (ev_op op_fdivW ok_div (ev_var 1 rfl (Or.inl rfl)) (ev_callC C__law_gcd (by rfl) hr (ea_cons (ev_var 1 rfl (Or.inl rfl)) (ea_cons (ev_var 2 rfl (Or.inl rfl)) ea_nil)))) rfl (Or.inl rfl))
  (svs_cons (sv_set 4 true sc__law_chain_world.nd (ev_op op_addG ok_add ev_int (ev_op op_mod ok_mod (ev_sub (ev_var 0 rfl (Or.inl rfl)) ev_int (fun _ _ => rfl)) (ev_callB (call_minG rfl) ok_min (by rfl) z_min PyProof.Rows.boot_min (ea_cons ev_int (ea_cons (ev_var 3 rfl (Or.inl rfl)) ea_nil))))) rfl (Or.inl rfl))
  (svs_cons (sv_ifJ (sv_if (et_cmp (op_eqG hr.units) ok_eq (ev_op op_mod ok_mod (ev_op op_fdivW ok_div (ev_sub (ev_var 0 rfl (Or.inl rfl)) ev_int (fun _ _ => rfl)) ev_int) ev_int) ev_int (nomark _))
  (svs_one (sv_set 4 true sc__law_chain_world.nd (ev_callB (call_minG rfl) ok_min (by rfl) z_min PyProof.Rows.boot_min (ea_cons ev_int (ea_cons (ev_var 3 rfl (Or.inl rfl)) ea_nil))) rfl (Or.inl rfl)))
  (svs_one (sv_if (et_cmp op_lt ok_lt (ev_op op_mod ok_mod (ev_op op_fdivW ok_div (ev_sub (ev_var 0 rfl (Or.inl rfl)) ev_int (fun _ _ => rfl)) ev_int) ev_int) ev_int (nomark _))
  (svs_one (sv_set 4 true sc__law_chain_world.nd (ev_callB (call_minG rfl) ok_min (by rfl) z_min PyProof.Rows.boot_min (ea_cons (ev_var 4 rfl (Or.inl rfl)) (ea_cons (ev_op op_addG ok_add ev_int (ev_op op_mod ok_mod (ev_sub (ev_var 0 rfl (Or.inl rfl)) ev_int (fun _ _ => rfl)) ev_int)) ea_nil))) rfl (Or.inl rfl)))
  svs_nil))))
  (svs_one (sv_ret (ev_tup (ea_cons (ev_var 1 rfl (Or.inl rfl)) (ea_cons (ev_var 2 rfl (Or.inl rfl)) (ea_cons (ev_var 3 rfl (Or.inl rfl)) (ea_cons (ev_var 4 rfl (Or.inl rfl)) ea_nil))))))))))))))
theorem c__law_from {f : Addr} {fd : FuncData} (F : L2.Fun K "_law_from" "_law_from" s__law_from f fd) (hm : mg "_law_from" = some (.ref f)) (hb : Binds K fd ["start", "period", "generator", "count"] []) (z_range : mg "range" = none) (z_sorted : mg "sorted" = none)    :
    Cal P WT.w K mg base "_law_from" 1 4 w__law_from :=
  cal_def F sc__law_from hm hb (m := m__law_from) fun cdv A outer s H E hr =>
  (svs_one (sv_ret (ev_callB cr_sortedI ok_sorted (by rfl) z_sorted PyProof.Rows.boot_sorted (ea_cons (ev_lc [("k", 4)] (tg := (.nm 4)) rfl sc__law_from.nd (blkOk_by (own := [("k", 4)]) (N := ["start", "period", "generator", "count", "k"]) (sc := defScope s__law_from) (by decide +kernel)) (fun _ _ _ _ _ => (tg_nm 4 sc__law_from.nd rfl (Or.inl rfl) (.inr rfl))) (fun _ _ _ _ _ => ets_nil) (fun _ _ _ _ _ => (ev_op op_mod ok_mod (ev_op op_addG ok_add (ev_var 0 rfl (Or.inr (Or.inl rfl))) (ev_op op_mulG ok_mul (ev_var 4 rfl (Or.inl rfl)) (ev_var 2 rfl (Or.inr (Or.inl rfl))))) (ev_var 1 rfl (Or.inr (Or.inl rfl))))) (fun ht he => es_R1 (by rfl) z_range (ea_cons (ev_var 3 rfl (Or.inl rfl)) ea_nil) (ht := ht) (he := he))) ea_nil))))
theorem c__law_start {f : Addr} {fd : FuncData} (F : L2.Fun K "_law_start" "_law_start" s__law_start f fd) (hm : mg "_law_start" = some (.ref f)) (hb : Binds K fd ["scale", "period", "generator"] []) (z_len : mg "len" = none)   (C__law_from : Cal P WT.w K mg base "_law_from" 1 4 w__law_from) :
    Cal P WT.w K mg base "_law_start" 2 3 w__law_start :=
  cal_def F sc__law_start hm hb (m := m__law_start) fun cdv A outer s H E hr =>
  (svs_cons (sv_forN [3] 0 PassesOwn.never rfl (tg_nm 3 sc__law_start.nd rfl (Or.inl rfl) (.inl rfl))
  (svs_one (sv_if (et_cmp (op_eqG hr.units) ok_eq (ev_callC C__law_from (by rfl) hr (ea_cons (ev_var 3 rfl (Or.inl rfl)) (ea_cons (ev_var 1 rfl (Or.inl rfl)) (ea_cons (ev_var 2 rfl (Or.inl rfl)) (ea_cons (ev_callB call_lenG ok_len (by rfl) z_len PySem.boot_len (ea_cons (ev_var 0 rfl (Or.inl rfl)) ea_nil)) ea_nil))))) (ev_var 0 rfl (Or.inl rfl)) (nomark _))
  (svs_one (sv_ret (ev_var 3 rfl (Or.inl rfl))))
  svs_nil)) rfl (Or.inl rfl))
  (svs_one (sv_ret ev_non)))
theorem c__law_asks_start {f : Addr} {fd : FuncData} (F : L2.Fun K "_law_asks_start" "_law_asks_start" s__law_asks_start f fd) (hm : mg "_law_asks_start" = some (.ref f)) (hb : Binds K fd ["scale", "period", "generator", "due"] []) (z_list : mg "list" = none)   (C_chain_start : Cal P WT.w K mg base "chain_start" 2 3 w_chain_start) (C__law_is_number : Cal P WT.w K mg base "_law_is_number" 1 1 w__law_is_number) :
    Cal P WT.w K mg base "_law_asks_start" 3 4 w__law_asks_start :=
  cal_def F sc__law_asks_start hm hb (m := m__law_asks_start) fun cdv A outer s H E hr =>
  (svs_cons (sv_set 4 true sc__law_asks_start.nd (ev_callTy call_list_of ok_list (by rfl) z_list PyProof.Rows.boot_list (ea_cons (ev_var 0 rfl (Or.inl rfl)) ea_nil)) rfl (Or.inl rfl))
  (svs_cons (sv_set 5 true sc__law_asks_start.nd (ev_callC C_chain_start (by rfl) hr (ea_cons (ev_var 4 rfl (Or.inl rfl)) (ea_cons (ev_var 1 rfl (Or.inl rfl)) (ea_cons (ev_var 2 rfl (Or.inl rfl)) ea_nil)))) rfl (Or.inl rfl))
  (svs_cons (sv_if (et_cmp (op_neG hr.units) ok_ne (ev_var 4 rfl (Or.inl rfl)) (ev_var 0 rfl (Or.inl rfl)) (nomark _))
  (svs_one (sv_ret ev_bl))
  svs_nil)
  (svs_cons (sv_if (et_isN (ev_var 3 rfl (Or.inl rfl)))
  (svs_one (sv_ret (ev_isN (ev_var 5 rfl (Or.inl rfl)))))
  svs_nil)
  (svs_one (sv_ret (ev_and (ev_callC C__law_is_number (by rfl) hr (ea_cons (ev_var 5 rfl (Or.inl rfl)) ea_nil)) (ev_one (ev_cmp (op_eqG hr.units) ok_eq (ev_var 5 rfl (Or.inl rfl)) (ev_var 3 rfl (Or.inl rfl)) (nomark _))))))))))
theorem c__law_asks_pair {f : Addr} {fd : FuncData} (F : L2.Fun K "_law_asks_pair" "_law_asks_pair" s__law_asks_pair f fd) (hm : mg "_law_asks_pair" = some (.ref f)) (hb : Binds K fd ["first", "second", "period", "by"] []) (z_list : mg "list" = none) (z_sorted : mg "sorted" = none)   (C_shared : Cal P WT.w K mg base "shared" 1 2 w_shared) (C__law_same_numbers : Cal P WT.w K mg base "_law_same_numbers" 3 2 w__law_same_numbers) (C_shifted : Cal P WT.w K mg base "shifted" 1 3 w_shifted) :
    Cal P WT.w K mg base "_law_asks_pair" 4 4 w__law_asks_pair :=
  cal_def F sc__law_asks_pair hm hb (m := m__law_asks_pair) fun cdv A outer s H E hr =>
  (svs_cons (sv_set 4 true sc__law_asks_pair.nd (ev_callTy call_list_of ok_list (by rfl) z_list PyProof.Rows.boot_list (ea_cons (ev_var 0 rfl (Or.inl rfl)) ea_nil)) rfl (Or.inl rfl))
  (svs_cons (sv_set 5 true sc__law_asks_pair.nd (ev_callTy call_list_of ok_list (by rfl) z_list PyProof.Rows.boot_list (ea_cons (ev_var 1 rfl (Or.inr (Or.inl rfl))) ea_nil)) rfl (Or.inl rfl))
  (svs_cons (sv_set 6 true sc__law_asks_pair.nd (ev_callC C_shared (by rfl) hr (ea_cons (ev_var 4 rfl (Or.inl rfl)) (ea_cons (ev_var 5 rfl (Or.inl rfl)) ea_nil))) rfl (Or.inl rfl))
  (svs_cons (sv_setLc 7 [("note", 8)] (tg := (.nm 8)) rfl sc__law_asks_pair.nd (blkOk_by (own := [("note", 8)]) (N := ["first", "second", "period", "by", "one", "two", "found", "due", "note"]) (sc := defScope s__law_asks_pair) (by decide +kernel)) (fun _ _ _ _ _ => (tg_nm 8 sc__law_asks_pair.nd rfl (Or.inl rfl) (.inr rfl))) (fun _ _ _ _ _ => (ets_one (et_cmp op_in_seq (ok_inB false) (ev_var 8 rfl (Or.inl rfl)) (ev_var 1 rfl (Or.inr (Or.inl rfl))) (by rfl)))) (fun _ _ _ _ _ => (ev_var 8 rfl (Or.inl rfl))) (fun ht he => es_V (ev_var 0 rfl (Or.inl rfl)) (ht := ht) (he := he)))
  (svs_cons (sv_if ((ew_or (et_cmp (op_neG hr.units) ok_ne (ev_var 4 rfl (Or.inl rfl)) (ev_var 0 rfl (Or.inl rfl)) (nomark _)) (ew_or (et_cmp (op_neG hr.units) ok_ne (ev_var 5 rfl (Or.inl rfl)) (ev_var 1 rfl (Or.inr (Or.inl rfl))) (nomark _)) (ew_or1 (et_not (et_val (ev_callC C__law_same_numbers (by rfl) hr (ea_cons (ev_var 6 rfl (Or.inl rfl)) (ea_cons (ev_var 7 rfl (Or.inl rfl)) ea_nil))))))))).et
  (svs_one (sv_ret ev_bl))
  svs_nil)
  (svs_cons (sv_if ((ew_or (et_not (et_val (ev_callC C__law_same_numbers (by rfl) hr (ea_cons (ev_callC C_shared (by rfl) hr (ea_cons (ev_var 5 rfl (Or.inl rfl)) (ea_cons (ev_var 4 rfl (Or.inl rfl)) ea_nil))) (ea_cons (ev_var 7 rfl (Or.inl rfl)) ea_nil))))) (ew_or1 (et_not (et_val (ev_callC C__law_same_numbers (by rfl) hr (ea_cons (ev_callC C_shared (by rfl) hr (ea_cons (ev_var 4 rfl (Or.inl rfl)) (ea_cons (ev_var 4 rfl (Or.inl rfl)) ea_nil))) (ea_cons (ev_var 0 rfl (Or.inl rfl)) ea_nil)))))))).et
  (svs_one (sv_ret ev_bl))
  svs_nil)
  (svs_cons (sv_set 6 true sc__law_asks_pair.nd (ev_callC C_shifted (by rfl) hr (ea_cons (ev_var 4 rfl (Or.inl rfl)) (ea_cons (ev_var 2 rfl (Or.inr (Or.inl rfl))) (ea_cons (ev_var 3 rfl (Or.inr (Or.inl rfl))) ea_nil)))) rfl (Or.inl rfl))
  (svs_cons (sv_set 7 true sc__law_asks_pair.nd (ev_callB cr_sortedI ok_sorted (by rfl) z_sorted PyProof.Rows.boot_sorted (ea_cons (ev_lc [("note", 8)] (tg := (.nm 8)) rfl sc__law_asks_pair.nd (blkOk_by (own := [("note", 8)]) (N := ["first", "second", "period", "by", "one", "two", "found", "due", "note"]) (sc := defScope s__law_asks_pair) (by decide +kernel)) (fun _ _ _ _ _ => (tg_nm 8 sc__law_asks_pair.nd rfl (Or.inl rfl) (.inr rfl))) (fun _ _ _ _ _ => ets_nil) (fun _ _ _ _ _ => (ev_op op_mod ok_mod (ev_op op_addG ok_add (ev_var 8 rfl (Or.inl rfl)) (ev_var 3 rfl (Or.inr (Or.inl rfl)))) (ev_var 2 rfl (Or.inr (Or.inl rfl))))) (fun ht he => es_V (ev_var 0 rfl (Or.inl rfl)) (ht := ht) (he := he))) ea_nil)) rfl (Or.inl rfl))
  (svs_cons (sv_if ((ew_or (et_cmp (op_neG hr.units) ok_ne (ev_var 4 rfl (Or.inl rfl)) (ev_var 0 rfl (Or.inl rfl)) (nomark _)) (ew_or1 (et_not (et_val (ev_callC C__law_same_numbers (by rfl) hr (ea_cons (ev_var 6 rfl (Or.inl rfl)) (ea_cons (ev_var 7 rfl (Or.inl rfl)) ea_nil)))))))).et
  (svs_one (sv_ret ev_bl))
  svs_nil)
  (svs_cons (sv_app 6 (ev_var 2 rfl (Or.inr (Or.inl rfl))) rfl (Or.inl rfl))
  (svs_one (sv_ret (ev_callC C__law_same_numbers (by rfl) hr (ea_cons (ev_callC C_shifted (by rfl) hr (ea_cons (ev_var 4 rfl (Or.inl rfl)) (ea_cons (ev_var 2 rfl (Or.inr (Or.inl rfl))) (ea_cons (ev_var 3 rfl (Or.inr (Or.inl rfl))) ea_nil)))) (ea_cons (ev_var 7 rfl (Or.inl rfl)) ea_nil)))))))))))))))
theorem c__law_first {f : Addr} {fd : FuncData} (F : L2.Fun K "_law_first" "_law_first" s__law_first f fd) (hm : mg "_law_first" = some (.ref f)) (hb : Binds K fd ["script"] []) (z_list : mg "list" = none) (z_min : mg "min" = none) (z_range : mg "range" = none) (z_sorted : mg "sorted" = none)   (C__law_draws : Cal P WT.w K mg base "_law_draws" 1 2 w__law_draws) (C__law_chain_world : Cal P WT.w K mg base "_law_chain_world" 2 1 w__law_chain_world) (C__law_from : Cal P WT.w K mg base "_law_from" 1 4 w__law_from) (C__law_asks_start : Cal P WT.w K mg base "_law_asks_start" 3 4 w__law_asks_start) (C_shifted : Cal P WT.w K mg base "shifted" 1 3 w_shifted) (C__law_same_numbers : Cal P WT.w K mg base "_law_same_numbers" 3 2 w__law_same_numbers) (C_chain_scale : Cal P WT.w K mg base "chain_scale" 1 3 w_chain_scale) (C__law_unlike : Cal P WT.w K mg base "_law_unlike" 1 1 w__law_unlike) (C__law_start : Cal P WT.w K mg base "_law_start" 2 3 w__law_start) (C__law_asks_pair : Cal P WT.w K mg base "_law_asks_pair" 4 4 w__law_asks_pair) :
    Cal P WT.w K mg base "_law_first" 5 1 w__law_first :=
  cal_def F sc__law_first hm hb (m := m__law_first) fun cdv A outer s H E hr =>
  (svs_cons (sv_set 1 true sc__law_first.nd (ev_callC C__law_draws (by rfl) hr (ea_cons (ev_var 0 rfl (Or.inl rfl)) (ea_cons ev_int ea_nil))) rfl (Or.inr rfl))
  (svs_cons (sv_asg true (ev_callC C__law_chain_world (by rfl) hr (ea_cons (ev_var 1 rfl (Or.inr (Or.inl rfl))) ea_nil)) (tg_tp rfl (pgs_cons (pg_name (i := 2) sc__law_first.nd rfl (Or.inr rfl) (.inl rfl)) (pgs_cons (pg_name (i := 3) sc__law_first.nd rfl (Or.inl rfl) (.inl rfl)) (pgs_cons (pg_name (i := 4) sc__law_first.nd rfl (Or.inl rfl) (.inl rfl)) (pgs_cons (pg_name (i := 5) sc__law_first.nd rfl (Or.inl rfl) (.inl rfl)) pgs_nil))))))
  (svs_cons (sv_set 5 true sc__law_first.nd (ev_callB (call_minG rfl) ok_min (by rfl) z_min PyProof.Rows.boot_min (ea_cons (ev_var 5 rfl (Or.inl rfl)) (ea_cons (ev_op op_addG ok_add ev_int (ev_op op_mod ok_mod (ev_sub (ev_var 1 rfl (Or.inr (Or.inl rfl))) ev_int (fun _ _ => rfl)) ev_int)) ea_nil))) rfl (Or.inl rfl))
  (svs_cons (sv_ifJ (sv_if ((ew_and (et_cmp op_le ok_le (ev_var 4 rfl (Or.inl rfl)) ev_int (nomark _)) (ew_and1 (et_cmp (op_eqG hr.units) ok_eq (ev_op op_mod ok_mod (ev_sub (ev_var 1 rfl (Or.inr (Or.inl rfl))) ev_int (fun _ _ => rfl)) ev_int) ev_int (nomark _))))).et
  (svs_one (sv_set 5 false sc__law_first.nd (ev_var 4 rfl (Or.inl rfl)) rfl (Or.inl rfl)))
  svs_nil))
  (svs_cons (sv_set 6 true sc__law_first.nd (ev_op op_mod ok_mod (ev_sub (ev_var 1 rfl (Or.inr (Or.inl rfl))) ev_int (fun _ _ => rfl)) (ev_var 2 rfl (Or.inr (Or.inl rfl)))) rfl (Or.inl rfl))
  (svs_cons (sv_set 7 true sc__law_first.nd (ev_callC C__law_from (by rfl) hr (ea_cons (ev_var 6 rfl (Or.inl rfl)) (ea_cons (ev_var 2 rfl (Or.inr (Or.inl rfl))) (ea_cons (ev_var 3 rfl (Or.inl rfl)) (ea_cons (ev_var 5 rfl (Or.inl rfl)) ea_nil))))) rfl (Or.inl rfl))
  (svs_cons (sv_set 8 false sc__law_first.nd (ev_var 6 rfl (Or.inl rfl)) rfl (Or.inl rfl))
  (svs_cons (sv_ifJ (sv_if (et_cmp (op_eqG hr.units) ok_eq (ev_var 5 rfl (Or.inl rfl)) (ev_var 4 rfl (Or.inl rfl)) (nomark _))
  (svs_one (sv_set 8 false sc__law_first.nd (ev_sub (ev_var 7 rfl (Or.inl rfl)) ev_int (fun _ _ => rfl)) rfl (Or.inl rfl)))
  svs_nil))
  (svs_cons (sv_if (et_not (et_val (ev_callC C__law_asks_start (by rfl) hr (ea_cons (ev_var 7 rfl (Or.inl rfl)) (ea_cons (ev_var 2 rfl (Or.inr (Or.inl rfl))) (ea_cons (ev_var 3 rfl (Or.inl rfl)) (ea_cons (ev_var 8 rfl (Or.inl rfl)) ea_nil)))))))
  (svs_one (sv_ret ev_bl))
  svs_nil)
  (svs_cons (sv_set 9 true sc__law_first.nd (ev_op op_sub ok_sub (ev_op op_mod ok_mod (ev_sub (ev_var 1 rfl (Or.inr (Or.inl rfl))) ev_int (fun _ _ => rfl)) ev_int) ev_int) rfl (Or.inr rfl))
  (svs_cons (sv_ifJ (sv_if (et_cmp (op_eqG hr.units) ok_eq (ev_op op_mod ok_mod (ev_sub (ev_var 1 rfl (Or.inr (Or.inl rfl))) ev_int (fun _ _ => rfl)) ev_int) ev_int (nomark _))
  (svs_one (sv_set 9 true sc__law_first.nd (ev_op op_mulG ok_mul (ev_op op_sub ok_sub (ev_sub (ev_var 1 rfl (Or.inr (Or.inl rfl))) ev_int (fun _ _ => rfl)) ev_int) (ev_op op_pow ok_pow ev_int ev_int)) rfl (Or.inr rfl)))
  svs_nil))
  (svs_cons (sv_set 10 true sc__law_first.nd (ev_callC C_shifted (by rfl) hr (ea_cons (ev_callTy call_list_of ok_list (by rfl) z_list PyProof.Rows.boot_list (ea_cons (ev_var 7 rfl (Or.inl rfl)) ea_nil)) (ea_cons (ev_var 2 rfl (Or.inr (Or.inl rfl))) (ea_cons (ev_var 9 rfl (Or.inr (Or.inl rfl))) ea_nil)))) rfl (Or.inl rfl))
  (svs_cons (sv_if (et_not (et_val (ev_callC C__law_same_numbers (by rfl) hr (ea_cons (ev_var 10 rfl (Or.inl rfl)) (ea_cons (ev_callB cr_sortedI ok_sorted (by rfl) z_sorted PyProof.Rows.boot_sorted (ea_cons (ev_lc [("note", 15)] (tg := (.nm 15)) rfl sc__law_first.nd (blkOk_by (own := [("note", 15)]) (N := ["script", "draws", "period", "generator", "order", "count", "start", "chain", "due", "by", "moved", "many", "bent", "drawn", "scale", "note", "k"]) (sc := defScope s__law_first) (by decide +kernel)) (fun _ _ _ _ _ => (tg_nm 15 sc__law_first.nd rfl (Or.inl rfl) (.inr rfl))) (fun _ _ _ _ _ => ets_nil) (fun _ _ _ _ _ => (ev_op op_mod ok_mod (ev_op op_addG ok_add (ev_var 15 rfl (Or.inl rfl)) (ev_var 9 rfl (Or.inr (Or.inl rfl)))) (ev_var 2 rfl (Or.inr (Or.inl rfl))))) (fun ht he => es_V (ev_var 7 rfl (Or.inl rfl)) (ht := ht) (he := he))) ea_nil)) ea_nil)))))
  (svs_one (sv_ret ev_bl))
  svs_nil)
  (svs_cons (sv_if ((ew_and (et_cmp op_lt ok_lt (ev_var 5 rfl (Or.inl rfl)) (ev_var 4 rfl (Or.inl rfl)) (nomark _)) (ew_and1 (et_not (et_val (ev_callC C__law_asks_start (by rfl) hr (ea_cons (ev_var 10 rfl (Or.inl rfl)) (ea_cons (ev_var 2 rfl (Or.inr (Or.inl rfl))) (ea_cons (ev_var 3 rfl (Or.inl rfl)) (ea_cons (ev_op op_mod ok_mod (ev_op op_addG ok_add (ev_var 6 rfl (Or.inl rfl)) (ev_var 9 rfl (Or.inr (Or.inl rfl)))) (ev_var 2 rfl (Or.inr (Or.inl rfl)))) ea_nil)))))))))).et
  (svs_one (sv_ret ev_bl))
  svs_nil)
  (svs_cons (sv_if ((ew_and (et_cmp (op_eqG hr.units) ok_eq (ev_var 6 rfl (Or.inl rfl)) ev_int (nomark _)) (ew_and1 (et_not (et_val (ev_callC C__law_same_numbers (by rfl) hr (ea_cons (ev_callC C_chain_scale (by rfl) hr (ea_cons (ev_var 2 rfl (Or.inr (Or.inl rfl))) (ea_cons (ev_var 3 rfl (Or.inl rfl)) (ea_cons (ev_var 5 rfl (Or.inl rfl)) ea_nil)))) (ea_cons (ev_var 7 rfl (Or.inl rfl)) ea_nil)))))))).et
  (svs_one (sv_ret ev_bl))
  svs_nil)
  (svs_cons (sv_ifJ (sv_if ((ew_and (et_cmp op_gt ok_gt (ev_var 4 rfl (Or.inl rfl)) ev_int (nomark _)) (ew_and1 (et_cmp (op_eqG hr.units) ok_eq (ev_op op_mod ok_mod (ev_sub (ev_var 1 rfl (Or.inr (Or.inl rfl))) ev_int (fun _ _ => rfl)) ev_int) ev_int (nomark _))))).et
  (svs_cons (sv_set 11 true sc__law_first.nd (ev_callB (call_minG rfl) ok_min (by rfl) z_min PyProof.Rows.boot_min (ea_cons (ev_op op_sub ok_sub (ev_var 4 rfl (Or.inl rfl)) ev_int) (ea_cons (ev_op op_addG ok_add ev_int (ev_op op_mod ok_mod (ev_sub (ev_var 1 rfl (Or.inr (Or.inl rfl))) ev_int (fun _ _ => rfl)) ev_int)) ea_nil))) rfl (Or.inl rfl))
  (svs_one (sv_if (et_not (et_val (ev_callC C__law_asks_start (by rfl) hr (ea_cons (ev_callC C__law_from (by rfl) hr (ea_cons (ev_var 6 rfl (Or.inl rfl)) (ea_cons (ev_var 2 rfl (Or.inr (Or.inl rfl))) (ea_cons (ev_var 3 rfl (Or.inl rfl)) (ea_cons (ev_var 11 rfl (Or.inl rfl)) ea_nil))))) (ea_cons (ev_var 2 rfl (Or.inr (Or.inl rfl))) (ea_cons (ev_var 3 rfl (Or.inl rfl)) (ea_cons (ev_var 6 rfl (Or.inl rfl)) ea_nil)))))))
  (svs_one (sv_ret ev_bl))
  svs_nil)))
  svs_nil))
  (svs_cons (sv_set 12 true sc__law_first.nd (ev_callTy call_list_of ok_list (by rfl) z_list PyProof.Rows.boot_list (ea_cons (ev_var 7 rfl (Or.inl rfl)) ea_nil)) rfl (Or.inl rfl))
  (svs_cons (sv_setI 12 (ev_op op_mod ok_mod (ev_sub (ev_var 1 rfl (Or.inr (Or.inl rfl))) ev_int (fun _ _ => rfl)) (ev_var 5 rfl (Or.inl rfl))) (ev_op op_mod ok_mod (ev_sub (ev_var 1 rfl (Or.inr (Or.inl rfl))) ev_int (fun _ _ => rfl)) (ev_var 2 rfl (Or.inr (Or.inl rfl)))) rfl (Or.inl rfl))
  (svs_cons (sv_set 12 true sc__law_first.nd (ev_callC C__law_unlike (by rfl) hr (ea_cons (ev_var 12 rfl (Or.inl rfl)) ea_nil)) rfl (Or.inl rfl))
  (svs_cons (sv_set 13 true sc__law_first.nd (ev_callC C__law_unlike (by rfl) hr (ea_cons (ev_lc [("k", 16)] (tg := (.nm 16)) rfl sc__law_first.nd (blkOk_by (own := [("k", 16)]) (N := ["script", "draws", "period", "generator", "order", "count", "start", "chain", "due", "by", "moved", "many", "bent", "drawn", "scale", "note", "k"]) (sc := defScope s__law_first) (by decide +kernel)) (fun _ _ _ _ _ => (tg_nm 16 sc__law_first.nd rfl (Or.inl rfl) (.inr rfl))) (fun _ _ _ _ _ => ets_nil) (fun _ _ _ _ _ => (ev_op op_mod ok_mod (ev_sub (ev_var 1 rfl (Or.inr (Or.inl rfl))) (ev_op op_addG ok_add ev_int (ev_var 16 rfl (Or.inl rfl))) (fun _ _ => rfl)) (ev_var 2 rfl (Or.inr (Or.inl rfl))))) (fun ht he => es_R1 (by rfl) z_range (ea_cons (ev_op op_addG ok_add ev_int (ev_op op_mod ok_mod (ev_sub (ev_var 1 rfl (Or.inr (Or.inl rfl))) ev_int (fun _ _ => rfl)) ev_int)) ea_nil) (ht := ht) (he := he))) ea_nil)) rfl (Or.inl rfl))
  (svs_cons (sv_lend 10 (sv_lend 13 (sv_lend 12 (sv_forV [14] PassesOwn.never rfl (ev_lst (ea_cons (ev_var 12 rfl (Or.inl rfl)) (ea_cons (ev_var 13 rfl (Or.inl rfl)) (ea_cons (ev_lst (ea_cons (ev_op op_mod ok_mod (ev_sub (ev_var 1 rfl (Or.inr (Or.inl rfl))) ev_int (fun _ _ => rfl)) (ev_var 2 rfl (Or.inr (Or.inl rfl)))) ea_nil)) (ea_cons (ev_var 10 rfl (Or.inl rfl)) ea_nil))))) (tg_nm 14 sc__law_first.nd rfl (Or.inl rfl) (.inl rfl))
  (svs_cons (sv_if (et_not (et_val (ev_callC C__law_asks_start (by rfl) hr (ea_cons (ev_var 14 rfl (Or.inl rfl)) (ea_cons (ev_var 2 rfl (Or.inr (Or.inl rfl))) (ea_cons (ev_var 3 rfl (Or.inl rfl)) (ea_cons (ev_callC C__law_start (by rfl) hr (ea_cons (ev_var 14 rfl (Or.inl rfl)) (ea_cons (ev_var 2 rfl (Or.inr (Or.inl rfl))) (ea_cons (ev_var 3 rfl (Or.inl rfl)) ea_nil)))) ea_nil)))))))
  (svs_one (sv_ret ev_bl))
  svs_nil)
  (svs_cons (sv_if (et_not (et_val (ev_callC C__law_asks_start (by rfl) hr (ea_cons (ev_var 14 rfl (Or.inl rfl)) (ea_cons (ev_var 2 rfl (Or.inr (Or.inl rfl))) (ea_cons (ev_op op_sub ok_sub ev_int (ev_var 3 rfl (Or.inl rfl))) (ea_cons (ev_callC C__law_start (by rfl) hr (ea_cons (ev_var 14 rfl (Or.inl rfl)) (ea_cons (ev_var 2 rfl (Or.inr (Or.inl rfl))) (ea_cons (ev_op op_sub ok_sub ev_int (ev_var 3 rfl (Or.inl rfl))) ea_nil)))) ea_nil)))))))
  (svs_one (sv_ret ev_bl))
  svs_nil)
  (svs_one (sv_if ((ew_or (et_not (et_val (ev_callC C__law_asks_pair (by rfl) hr (ea_cons (ev_var 14 rfl (Or.inl rfl)) (ea_cons (ev_var 7 rfl (Or.inl rfl)) (ea_cons (ev_var 2 rfl (Or.inr (Or.inl rfl))) (ea_cons (ev_var 9 rfl (Or.inr (Or.inl rfl))) ea_nil))))))) (ew_or1 (et_not (et_val (ev_callC C__law_asks_pair (by rfl) hr (ea_cons (ev_var 7 rfl (Or.inl rfl)) (ea_cons (ev_var 14 rfl (Or.inl rfl)) (ea_cons (ev_var 2 rfl (Or.inr (Or.inl rfl))) (ea_cons (ev_op op_mod ok_mod (ev_sub (ev_var 1 rfl (Or.inr (Or.inl rfl))) ev_int (fun _ _ => rfl)) (ev_var 2 rfl (Or.inr (Or.inl rfl)))) ea_nil)))))))))).et
  (svs_one (sv_ret ev_bl))
  svs_nil))))))))
  (svs_one (sv_ret (ev_and (ev_callC C__law_asks_pair (by rfl) hr (ea_cons (ev_var 13 rfl (Or.inl rfl)) (ea_cons (ev_var 12 rfl (Or.inl rfl)) (ea_cons (ev_var 2 rfl (Or.inr (Or.inl rfl))) (ea_cons (ev_un un_neg ok_neg ev_int) ea_nil))))) (ev_one (ev_callC C__law_asks_pair (by rfl) hr (ea_cons (ev_var 13 rfl (Or.inl rfl)) (ea_cons (ev_lst (ea_cons (ev_op op_mod ok_mod (ev_sub (ev_var 1 rfl (Or.inr (Or.inl rfl))) ev_int (fun _ _ => rfl)) (ev_var 2 rfl (Or.inr (Or.inl rfl)))) ea_nil)) (ea_cons (ev_var 2 rfl (Or.inr (Or.inl rfl))) (ea_cons ev_int ea_nil))))))))))))))))))))))))))))))
theorem c__law_sums {f : Addr} {fd : FuncData} (F : L2.Fun K "_law_sums" "_law_sums" s__law_sums f fd) (hm : mg "_law_sums" = some (.ref f)) (hb : Binds K fd ["shares"] [])     :
    Cal P WT.w K mg base "_law_sums" 1 1 w__law_sums :=
  cal_def F sc__law_sums hm hb (m := m__law_sums) fun cdv A outer s H E hr =>
  (svs_cons (sv_set 1 true sc__law_sums.nd (ev_lst ea_nil) rfl (Or.inl rfl))
  (svs_cons (sv_set 2 true sc__law_sums.nd ev_int rfl (Or.inl rfl))
  (svs_cons (sv_forN [3] 0 PassesOwn.never rfl (tg_nm 3 sc__law_sums.nd rfl (Or.inl rfl) (.inl rfl))
  (svs_cons (sv_app 1 (ev_var 2 rfl (Or.inl rfl)) rfl (Or.inl rfl))
  (svs_one (sv_set 2 true sc__law_sums.nd (ev_op op_addG ok_add (ev_var 2 rfl (Or.inl rfl)) (ev_var 3 rfl (Or.inl rfl))) rfl (Or.inl rfl)))) rfl (Or.inl rfl))
  (svs_one (sv_ret (ev_var 1 rfl (Or.inl rfl)))))))
theorem c__law_chain {f : Addr} {fd : FuncData} (F : L2.Fun K "_law_chain" "_law_chain" s__law_chain f fd) (hm : mg "_law_chain" = some (.ref f)) (hb : Binds K fd ["period", "generator", "count"] []) (z_range : mg "range" = none) (z_sorted : mg "sorted" = none)    :
    Cal P WT.w K mg base "_law_chain" 1 3 w__law_chain :=
  cal_def F sc__law_chain hm hb (m := m__law_chain) fun cdv A outer s H E hr =>
  (svs_one (sv_ret (ev_callB cr_sortedI ok_sorted (by rfl) z_sorted PyProof.Rows.boot_sorted (ea_cons (ev_lc [("k", 3)] (tg := (.nm 3)) rfl sc__law_chain.nd (blkOk_by (own := [("k", 3)]) (N := ["period", "generator", "count", "k"]) (sc := defScope s__law_chain) (by decide +kernel)) (fun _ _ _ _ _ => (tg_nm 3 sc__law_chain.nd rfl (Or.inl rfl) (.inr rfl))) (fun _ _ _ _ _ => ets_nil) (fun _ _ _ _ _ => (ev_op op_mod ok_mod (ev_op op_mulG ok_mul (ev_var 3 rfl (Or.inl rfl)) (ev_var 1 rfl (Or.inr (Or.inl rfl)))) (ev_var 0 rfl (Or.inr (Or.inl rfl))))) (fun ht he => es_R1 (by rfl) z_range (ea_cons (ev_var 2 rfl (Or.inl rfl)) ea_nil) (ht := ht) (he := he))) ea_nil))))
theorem c__law_gaps {f : Addr} {fd : FuncData} (F : L2.Fun K "_law_gaps" "_law_gaps" s__law_gaps f fd) (hm : mg "_law_gaps" = some (.ref f)) (hb : Binds K fd ["scale", "period"] []) (z_len : mg "len" = none) (z_range : mg "range" = none)    :
    Cal P WT.w K mg base "_law_gaps" 1 2 w__law_gaps :=
  cal_def F sc__law_gaps hm hb (m := m__law_gaps) fun cdv A outer s H E hr =>
  (svs_cons (sv_set 2 true sc__law_gaps.nd (ev_lst ea_nil) rfl (Or.inl rfl))
  (svs_cons (sv_forR1 [3] PassesOwn.never rfl (by rfl) z_range (ea_cons (ev_callB call_lenG ok_len (by rfl) z_len PySem.boot_len (ea_cons (ev_var 0 rfl (Or.inl rfl)) ea_nil)) ea_nil) (tg_nm 3 sc__law_gaps.nd rfl (Or.inl rfl) (.inl rfl))
  (svs_one (sv_if (et_cmp op_lt ok_lt (ev_op op_addG ok_add (ev_var 3 rfl (Or.inl rfl)) ev_int) (ev_callB call_lenG ok_len (by rfl) z_len PySem.boot_len (ea_cons (ev_var 0 rfl (Or.inl rfl)) ea_nil)) (nomark _))
  (svs_one (sv_app 2 (ev_op op_sub ok_sub (ev_sub (ev_var 0 rfl (Or.inl rfl)) (ev_op op_addG ok_add (ev_var 3 rfl (Or.inl rfl)) ev_int) (fun _ _ => rfl)) (ev_sub (ev_var 0 rfl (Or.inl rfl)) (ev_var 3 rfl (Or.inl rfl)) (fun _ _ => rfl))) rfl (Or.inl rfl)))
  (svs_one (sv_app 2 (ev_op op_sub ok_sub (ev_op op_addG ok_add (ev_sub (ev_var 0 rfl (Or.inl rfl)) ev_int (fun _ _ => rfl)) (ev_var 1 rfl (Or.inl rfl))) (ev_sub (ev_var 0 rfl (Or.inl rfl)) (ev_var 3 rfl (Or.inl rfl)) (fun _ _ => rfl))) rfl (Or.inl rfl))))))
  (svs_one (sv_ret (ev_var 2 rfl (Or.inl rfl))))))
theorem c__law_rotated {f : Addr} {fd : FuncData} (F : L2.Fun K "_law_rotated" "_law_rotated" s__law_rotated f fd) (hm : mg "_law_rotated" = some (.ref f)) (hb : Binds K fd ["gap_list", "by"] []) (z_len : mg "len" = none) (z_range : mg "range" = none)    :
    Cal P WT.w K mg base "_law_rotated" 1 2 w__law_rotated :=
  cal_def F sc__law_rotated hm hb (m := m__law_rotated) fun cdv A outer s H E hr =>
  (svs_one (sv_ret (ev_lc [("k", 2)] (tg := (.nm 2)) rfl sc__law_rotated.nd (blkOk_by (own := [("k", 2)]) (N := ["gap_list", "by", "k"]) (sc := defScope s__law_rotated) (by decide +kernel)) (fun _ _ _ _ _ => (tg_nm 2 sc__law_rotated.nd rfl (Or.inl rfl) (.inr rfl))) (fun _ _ _ _ _ => ets_nil) (fun _ _ _ _ _ => (ev_sub (ev_var 0 rfl (Or.inr (Or.inl rfl))) (ev_op op_mod ok_mod (ev_op op_addG ok_add (ev_var 1 rfl (Or.inr (Or.inl rfl))) (ev_var 2 rfl (Or.inl rfl))) (ev_callB call_lenG ok_len (by rfl) z_len PySem.boot_len (ea_cons (ev_var 0 rfl (Or.inr (Or.inl rfl))) ea_nil))) (fun _ _ => rfl))) (fun ht he => es_R1 (by rfl) z_range (ea_cons (ev_callB call_lenG ok_len (by rfl) z_len PySem.boot_len (ea_cons (ev_var 0 rfl (Or.inr (Or.inl rfl))) ea_nil)) ea_nil) (ht := ht) (he := he)))))
theorem c__law_count {f : Addr} {fd : FuncData} (F : L2.Fun K "_law_count" "_law_count" s__law_count f fd) (hm : mg "_law_count" = some (.ref f)) (hb : Binds K fd ["gap_list"] []) (z_len : mg "len" = none) (z_range : mg "range" = none)   (C__law_rotated : Cal P WT.w K mg base "_law_rotated" 1 2 w__law_rotated) :
    Cal P WT.w K mg base "_law_count" 2 1 w__law_count :=
  cal_def F sc__law_count hm hb (m := m__law_count) fun cdv A outer s H E hr =>
  (svs_cons (sv_forR2 [1] PassesOwn.never rfl (by rfl) z_range (ea_cons ev_int (ea_cons (ev_callB call_lenG ok_len (by rfl) z_len PySem.boot_len (ea_cons (ev_var 0 rfl (Or.inl rfl)) ea_nil)) ea_nil)) (tg_nm 1 sc__law_count.nd rfl (Or.inl rfl) (.inl rfl))
  (svs_one (sv_if (et_cmp (op_eqG hr.units) ok_eq (ev_callC C__law_rotated (by rfl) hr (ea_cons (ev_var 0 rfl (Or.inl rfl)) (ea_cons (ev_var 1 rfl (Or.inl rfl)) ea_nil))) (ev_var 0 rfl (Or.inl rfl)) (nomark _))
  (svs_one (sv_ret (ev_var 1 rfl (Or.inl rfl))))
  svs_nil)))
  (svs_one (sv_ret (ev_callB call_lenG ok_len (by rfl) z_len PySem.boot_len (ea_cons (ev_var 0 rfl (Or.inl rfl)) ea_nil)))))
theorem c__law_brighter {f : Addr} {fd : FuncData} (F : L2.Fun K "_law_brighter" "_law_brighter" s__law_brighter f fd) (hm : mg "_law_brighter" = some (.ref f)) (hb : Binds K fd ["first", "second"] []) (z_len : mg "len" = none) (z_range : mg "range" = none)    :
    Cal P WT.w K mg base "_law_brighter" 1 2 w__law_brighter :=
  cal_def F sc__law_brighter hm hb (m := m__law_brighter) fun cdv A outer s H E hr =>
  (svs_cons (sv_forR1 [2] PassesOwn.never rfl (by rfl) z_range (ea_cons (ev_callB call_lenG ok_len (by rfl) z_len PySem.boot_len (ea_cons (ev_var 0 rfl (Or.inl rfl)) ea_nil)) ea_nil) (tg_nm 2 sc__law_brighter.nd rfl (Or.inl rfl) (.inl rfl))
  (svs_one (sv_if (et_cmp (op_neG hr.units) ok_ne (ev_sub (ev_var 0 rfl (Or.inl rfl)) (ev_var 2 rfl (Or.inl rfl)) (fun _ _ => rfl)) (ev_sub (ev_var 1 rfl (Or.inl rfl)) (ev_var 2 rfl (Or.inl rfl)) (fun _ _ => rfl)) (nomark _))
  (svs_one (sv_ret (ev_cmp op_gt ok_gt (ev_sub (ev_var 0 rfl (Or.inl rfl)) (ev_var 2 rfl (Or.inl rfl)) (fun _ _ => rfl)) (ev_sub (ev_var 1 rfl (Or.inl rfl)) (ev_var 2 rfl (Or.inl rfl)) (fun _ _ => rfl)) (nomark _))))
  svs_nil)))
  (svs_one (sv_ret ev_bl)))
theorem c__law_brightest {f : Addr} {fd : FuncData} (F : L2.Fun K "_law_brightest" "_law_brightest" s__law_brightest f fd) (hm : mg "_law_brightest" = some (.ref f)) (hb : Binds K fd ["gap_list"] []) (z_len : mg "len" = none) (z_range : mg "range" = none)   (C__law_brighter : Cal P WT.w K mg base "_law_brighter" 1 2 w__law_brighter) (C__law_sums : Cal P WT.w K mg base "_law_sums" 1 1 w__law_sums) (C__law_rotated : Cal P WT.w K mg base "_law_rotated" 1 2 w__law_rotated) :
    Cal P WT.w K mg base "_law_brightest" 2 1 w__law_brightest :=
  cal_def F sc__law_brightest hm hb (m := m__law_brightest) fun cdv A outer s H E hr =>
  (svs_cons (sv_set 1 true sc__law_brightest.nd ev_int rfl (Or.inl rfl))
  (svs_cons (sv_forR2 [2] PassesOwn.never rfl (by rfl) z_range (ea_cons ev_int (ea_cons (ev_callB call_lenG ok_len (by rfl) z_len PySem.boot_len (ea_cons (ev_var 0 rfl (Or.inl rfl)) ea_nil)) ea_nil)) (tg_nm 2 sc__law_brightest.nd rfl (Or.inl rfl) (.inl rfl))
  (svs_one (sv_if (et_val (ev_callC C__law_brighter (by rfl) hr (ea_cons (ev_callC C__law_sums (by rfl) hr (ea_cons (ev_callC C__law_rotated (by rfl) hr (ea_cons (ev_var 0 rfl (Or.inl rfl)) (ea_cons (ev_var 2 rfl (Or.inl rfl)) ea_nil))) ea_nil)) (ea_cons (ev_callC C__law_sums (by rfl) hr (ea_cons (ev_callC C__law_rotated (by rfl) hr (ea_cons (ev_var 0 rfl (Or.inl rfl)) (ea_cons (ev_var 1 rfl (Or.inl rfl)) ea_nil))) ea_nil)) ea_nil))))
  (svs_one (sv_set 1 true sc__law_brightest.nd (ev_var 2 rfl (Or.inl rfl)) rfl (Or.inl rfl)))
  svs_nil)))
  (svs_one (sv_ret (ev_var 1 rfl (Or.inl rfl))))))
theorem c__law_asks_rotations {f : Addr} {fd : FuncData} (F : L2.Fun K "_law_asks_rotations" "_law_asks_rotations" s__law_asks_rotations f fd) (hm : mg "_law_asks_rotations" = some (.ref f)) (hb : Binds K fd ["gap_list", "turns"] []) (z_list : mg "list" = none)   (C_rotated_gaps : Cal P WT.w K mg base "rotated_gaps" 1 2 w_rotated_gaps) (C__law_same_numbers : Cal P WT.w K mg base "_law_same_numbers" 3 2 w__law_same_numbers) (C__law_rotated : Cal P WT.w K mg base "_law_rotated" 1 2 w__law_rotated) (C__law_sums : Cal P WT.w K mg base "_law_sums" 1 1 w__law_sums) (C_notes_of : Cal P WT.w K mg base "notes_of" 1 1 w_notes_of) :
    Cal P WT.w K mg base "_law_asks_rotations" 4 2 w__law_asks_rotations :=
  cal_def F sc__law_asks_rotations hm hb (m := m__law_asks_rotations) fun cdv A outer s H E hr =>
  (svs_cons (sv_set 2 true sc__law_asks_rotations.nd (ev_callTy call_list_of ok_list (by rfl) z_list PyProof.Rows.boot_list (ea_cons (ev_var 0 rfl (Or.inl rfl)) ea_nil)) rfl (Or.inl rfl))
  (svs_cons (sv_forN [3, 4] 1 PassesOwn.never rfl (tg_nm 3 sc__law_asks_rotations.nd rfl (Or.inl rfl) (.inl rfl))
  (svs_cons (sv_set 4 true sc__law_asks_rotations.nd (ev_callC C_rotated_gaps (by rfl) hr (ea_cons (ev_var 2 rfl (Or.inl rfl)) (ea_cons (ev_var 3 rfl (Or.inl rfl)) ea_nil))) rfl (Or.inl rfl))
  (svs_cons (sv_if ((ew_or (et_cmp (op_neG hr.units) ok_ne (ev_var 2 rfl (Or.inl rfl)) (ev_var 0 rfl (Or.inl rfl)) (nomark _)) (ew_or1 (et_not (et_val (ev_callC C__law_same_numbers (by rfl) hr (ea_cons (ev_var 4 rfl (Or.inl rfl)) (ea_cons (ev_callC C__law_rotated (by rfl) hr (ea_cons (ev_var 0 rfl (Or.inl rfl)) (ea_cons (ev_var 3 rfl (Or.inl rfl)) ea_nil))) ea_nil)))))))).et
  (svs_one (sv_ret ev_bl))
  svs_nil)
  (svs_cons (sv_if (et_not (et_val (ev_callC C__law_same_numbers (by rfl) hr (ea_cons (ev_callC C_notes_of (by rfl) hr (ea_cons (ev_var 4 rfl (Or.inl rfl)) ea_nil)) (ea_cons (ev_callC C__law_sums (by rfl) hr (ea_cons (ev_var 4 rfl (Or.inl rfl)) ea_nil)) ea_nil)))))
  (svs_one (sv_ret ev_bl))
  svs_nil)
  (svs_one (sv_setI 4 ev_int ev_int rfl (Or.inl rfl)))))) rfl (Or.inl rfl))
  (svs_one (sv_ret (ev_and (ev_callC C__law_same_numbers (by rfl) hr (ea_cons (ev_callC C_notes_of (by rfl) hr (ea_cons (ev_var 2 rfl (Or.inl rfl)) ea_nil)) (ea_cons (ev_callC C__law_sums (by rfl) hr (ea_cons (ev_var 0 rfl (Or.inl rfl)) ea_nil)) ea_nil))) (ev_one (ev_cmp (op_eqG hr.units) ok_eq (ev_var 2 rfl (Or.inl rfl)) (ev_var 0 rfl (Or.inl rfl)) (nomark _))))))))
theorem c__law_asks_modes {f : Addr} {fd : FuncData} (F : L2.Fun K "_law_asks_modes" "_law_asks_modes" s__law_asks_modes f fd) (hm : mg "_law_asks_modes" = some (.ref f)) (hb : Binds K fd ["gap_list"] []) (z_isinstance : mg "isinstance" = none) (z_len : mg "len" = none) (z_list : mg "list" = none) (z_range : mg "range" = none)   (C__law_count : Cal P WT.w K mg base "_law_count" 2 1 w__law_count) (C_mode_count : Cal P WT.w K mg base "mode_count" 2 1 w_mode_count) (C__law_is_number : Cal P WT.w K mg base "_law_is_number" 1 1 w__law_is_number) (C_modes : Cal P WT.w K mg base "modes" 3 1 w_modes) (C__law_same_numbers : Cal P WT.w K mg base "_law_same_numbers" 3 2 w__law_same_numbers) (C__law_rotated : Cal P WT.w K mg base "_law_rotated" 1 2 w__law_rotated) (C_brightest : Cal P WT.w K mg base "brightest" 2 1 w_brightest) (C__law_brightest : Cal P WT.w K mg base "_law_brightest" 2 1 w__law_brightest) :
    Cal P WT.w K mg base "_law_asks_modes" 4 1 w__law_asks_modes :=
  cal_def F sc__law_asks_modes hm hb (m := m__law_asks_modes) fun cdv A outer s H E hr =>
  (svs_cons (sv_set 1 true sc__law_asks_modes.nd (ev_callC C__law_count (by rfl) hr (ea_cons (ev_var 0 rfl (Or.inl rfl)) ea_nil)) rfl (Or.inl rfl))
  (svs_cons (sv_set 2 true sc__law_asks_modes.nd (ev_callTy call_list_of ok_list (by rfl) z_list PyProof.Rows.boot_list (ea_cons (ev_var 0 rfl (Or.inl rfl)) ea_nil)) rfl (Or.inl rfl))
  (svs_cons (sv_set 3 true sc__law_asks_modes.nd (ev_callC C_mode_count (by rfl) hr (ea_cons (ev_var 2 rfl (Or.inl rfl)) ea_nil)) rfl (Or.inl rfl))
  (svs_cons (sv_if ((ew_or (et_not (et_val (ev_callC C__law_is_number (by rfl) hr (ea_cons (ev_var 3 rfl (Or.inl rfl)) ea_nil)))) (ew_or (et_cmp (op_neG hr.units) ok_ne (ev_var 3 rfl (Or.inl rfl)) (ev_var 1 rfl (Or.inl rfl)) (nomark _)) (ew_or1 (et_cmp (op_neG hr.units) ok_ne (ev_op op_mod ok_mod (ev_callB call_lenG ok_len (by rfl) z_len PySem.boot_len (ea_cons (ev_var 0 rfl (Or.inl rfl)) ea_nil)) (ev_var 3 rfl (Or.inl rfl))) ev_int (nomark _)))))).et
  (svs_one (sv_ret ev_bl))
  svs_nil)
  (svs_cons (sv_set 4 true sc__law_asks_modes.nd (ev_callC C_modes (by rfl) hr (ea_cons (ev_var 2 rfl (Or.inl rfl)) ea_nil)) rfl (Or.inl rfl))
  (svs_cons (sv_if ((ew_or (et_not (et_val (ev_isi (T := "list") (by rfl) z_isinstance (by rfl) z_list PyProof.Rows.boot_list (ev_var 4 rfl (Or.inl rfl)) (by decide +kernel)))) (ew_or1 (et_cmp (op_neG hr.units) ok_ne (ev_callB call_lenG ok_len (by rfl) z_len PySem.boot_len (ea_cons (ev_var 4 rfl (Or.inl rfl)) ea_nil)) (ev_var 1 rfl (Or.inl rfl)) (nomark _))))).et
  (svs_one (sv_ret ev_bl))
  svs_nil)
  (svs_cons (sv_forR1 [5] PassesOwn.never rfl (by rfl) z_range (ea_cons (ev_var 1 rfl (Or.inl rfl)) ea_nil) (tg_nm 5 sc__law_asks_modes.nd rfl (Or.inl rfl) (.inl rfl))
  (svs_cons (sv_if (et_not (et_val (ev_callC C__law_same_numbers (by rfl) hr (ea_cons (ev_sub (ev_var 4 rfl (Or.inl rfl)) (ev_var 5 rfl (Or.inl rfl)) (fun _ _ => rfl)) (ea_cons (ev_callC C__law_rotated (by rfl) hr (ea_cons (ev_var 0 rfl (Or.inl rfl)) (ea_cons (ev_var 5 rfl (Or.inl rfl)) ea_nil))) ea_nil)))))
  (svs_one (sv_ret ev_bl))
  svs_nil)
  (svs_one (sv_if (et_cmp (op_inD (units65 hr)) ok_inD (ev_sub (ev_var 4 rfl (Or.inl rfl)) (ev_var 5 rfl (Or.inl rfl)) (fun _ _ => rfl)) (ev_slice (ev_var 4 rfl (Or.inl rfl)) eo_none (eo_some (ev_var 5 rfl (Or.inl rfl)))) (by rfl))
  (svs_one (sv_ret ev_bl))
  svs_nil))))
  (svs_cons (sv_forR1 [5] PassesOwn.never rfl (by rfl) z_range (ea_cons (ev_callB call_lenG ok_len (by rfl) z_len PySem.boot_len (ea_cons (ev_var 0 rfl (Or.inl rfl)) ea_nil)) ea_nil) (tg_nm 5 sc__law_asks_modes.nd rfl (Or.inl rfl) (.inl rfl))
  (svs_one (sv_if (et_cmp (op_notInD (units65 hr)) ok_notInD (ev_callC C__law_rotated (by rfl) hr (ea_cons (ev_var 0 rfl (Or.inl rfl)) (ea_cons (ev_var 5 rfl (Or.inl rfl)) ea_nil))) (ev_var 4 rfl (Or.inl rfl)) (by rfl))
  (svs_one (sv_ret ev_bl))
  svs_nil)))
  (svs_cons (sv_appI 4 ev_int (fun _ _ => rfl) ev_int rfl (Or.inl rfl))
  (svs_cons (sv_set 3 true sc__law_asks_modes.nd (ev_callC C_brightest (by rfl) hr (ea_cons (ev_var 2 rfl (Or.inl rfl)) ea_nil)) rfl (Or.inl rfl))
  (svs_cons (sv_if ((ew_or (et_not (et_val (ev_callC C__law_is_number (by rfl) hr (ea_cons (ev_var 3 rfl (Or.inl rfl)) ea_nil)))) (ew_or1 (et_cmp (op_neG hr.units) ok_ne (ev_var 3 rfl (Or.inl rfl)) (ev_callC C__law_brightest (by rfl) hr (ea_cons (ev_var 0 rfl (Or.inl rfl)) ea_nil)) (nomark _))))).et
  (svs_one (sv_ret ev_bl))
  svs_nil)
  (svs_one (sv_ret (ev_and (ev_callC C__law_same_numbers (by rfl) hr (ea_cons (ev_sub (ev_callC C_modes (by rfl) hr (ea_cons (ev_var 2 rfl (Or.inl rfl)) ea_nil)) ev_int (fun _ _ => rfl)) (ea_cons (ev_var 0 rfl (Or.inl rfl)) ea_nil))) (ev_one (ev_cmp (op_eqG hr.units) ok_eq (ev_var 2 rfl (Or.inl rfl)) (ev_var 0 rfl (Or.inl rfl)) (nomark _)))))))))))))))))
theorem c__law_asks_scale {f : Addr} {fd : FuncData} (F : L2.Fun K "_law_asks_scale" "_law_asks_scale" s__law_asks_scale f fd) (hm : mg "_law_asks_scale" = some (.ref f)) (hb : Binds K fd ["scale", "period"] []) (z_len : mg "len" = none) (z_list : mg "list" = none) (z_range : mg "range" = none)   (C__law_gaps : Cal P WT.w K mg base "_law_gaps" 1 2 w__law_gaps) (C__law_same_numbers : Cal P WT.w K mg base "_law_same_numbers" 3 2 w__law_same_numbers) (C_gaps : Cal P WT.w K mg base "gaps" 1 2 w_gaps) (C_notes_of : Cal P WT.w K mg base "notes_of" 1 1 w_notes_of) (C__law_sums : Cal P WT.w K mg base "_law_sums" 1 1 w__law_sums) (C__law_rotated : Cal P WT.w K mg base "_law_rotated" 1 2 w__law_rotated) (C_mode_from : Cal P WT.w K mg base "mode_from" 2 3 w_mode_from) (C_rotated_gaps : Cal P WT.w K mg base "rotated_gaps" 1 2 w_rotated_gaps) (C__law_asks_modes : Cal P WT.w K mg base "_law_asks_modes" 4 1 w__law_asks_modes) :
    Cal P WT.w K mg base "_law_asks_scale" 5 2 w__law_asks_scale :=
  cal_def F sc__law_asks_scale hm hb (m := m__law_asks_scale) fun cdv A outer s H E hr =>
  (svs_cons (sv_set 2 true sc__law_asks_scale.nd (ev_callTy call_list_of ok_list (by rfl) z_list PyProof.Rows.boot_list (ea_cons (ev_var 0 rfl (Or.inl rfl)) ea_nil)) rfl (Or.inl rfl))
  (svs_cons (sv_set 3 true sc__law_asks_scale.nd (ev_callC C__law_gaps (by rfl) hr (ea_cons (ev_var 0 rfl (Or.inl rfl)) (ea_cons (ev_var 1 rfl (Or.inl rfl)) ea_nil))) rfl (Or.inl rfl))
  (svs_cons (sv_if (et_not (et_val (ev_callC C__law_same_numbers (by rfl) hr (ea_cons (ev_callC C_gaps (by rfl) hr (ea_cons (ev_var 2 rfl (Or.inl rfl)) (ea_cons (ev_var 1 rfl (Or.inl rfl)) ea_nil))) (ea_cons (ev_var 3 rfl (Or.inl rfl)) ea_nil)))))
  (svs_one (sv_ret ev_bl))
  svs_nil)
  (svs_cons (sv_if ((ew_and (et_cmp (op_eqG hr.units) ok_eq (ev_sub (ev_var 0 rfl (Or.inl rfl)) ev_int (fun _ _ => rfl)) ev_int (nomark _)) (ew_and1 (et_not (et_val (ev_callC C__law_same_numbers (by rfl) hr (ea_cons (ev_callC C_notes_of (by rfl) hr (ea_cons (ev_callC C_gaps (by rfl) hr (ea_cons (ev_var 2 rfl (Or.inl rfl)) (ea_cons (ev_var 1 rfl (Or.inl rfl)) ea_nil))) ea_nil)) (ea_cons (ev_var 0 rfl (Or.inl rfl)) ea_nil)))))))).et
  (svs_one (sv_ret ev_bl))
  svs_nil)
  (svs_cons (sv_forR1 [4, 5, 6] PassesOwn.never rfl (by rfl) z_range (ea_cons (ev_callB call_lenG ok_len (by rfl) z_len PySem.boot_len (ea_cons (ev_var 0 rfl (Or.inl rfl)) ea_nil)) ea_nil) (tg_nm 4 sc__law_asks_scale.nd rfl (Or.inl rfl) (.inl rfl))
  (svs_cons (sv_set 5 true sc__law_asks_scale.nd (ev_callC C__law_sums (by rfl) hr (ea_cons (ev_callC C__law_rotated (by rfl) hr (ea_cons (ev_var 3 rfl (Or.inl rfl)) (ea_cons (ev_var 4 rfl (Or.inl rfl)) ea_nil))) ea_nil)) rfl (Or.inl rfl))
  (svs_cons (sv_set 6 true sc__law_asks_scale.nd (ev_callC C_mode_from (by rfl) hr (ea_cons (ev_var 2 rfl (Or.inl rfl)) (ea_cons (ev_var 1 rfl (Or.inl rfl)) (ea_cons (ev_sub (ev_var 0 rfl (Or.inl rfl)) (ev_var 4 rfl (Or.inl rfl)) (fun _ _ => rfl)) ea_nil)))) rfl (Or.inl rfl))
  (svs_cons (sv_if ((ew_or (et_cmp (op_neG hr.units) ok_ne (ev_var 2 rfl (Or.inl rfl)) (ev_var 0 rfl (Or.inl rfl)) (nomark _)) (ew_or1 (et_not (et_val (ev_callC C__law_same_numbers (by rfl) hr (ea_cons (ev_var 6 rfl (Or.inl rfl)) (ea_cons (ev_var 5 rfl (Or.inl rfl)) ea_nil)))))))).et
  (svs_one (sv_ret ev_bl))
  svs_nil)
  (svs_one (sv_if (et_not (et_val (ev_callC C__law_same_numbers (by rfl) hr (ea_cons (ev_callC C_notes_of (by rfl) hr (ea_cons (ev_callC C_rotated_gaps (by rfl) hr (ea_cons (ev_callC C_gaps (by rfl) hr (ea_cons (ev_var 2 rfl (Or.inl rfl)) (ea_cons (ev_var 1 rfl (Or.inl rfl)) ea_nil))) (ea_cons (ev_var 4 rfl (Or.inl rfl)) ea_nil))) ea_nil)) (ea_cons (ev_var 6 rfl (Or.inl rfl)) ea_nil)))))
  (svs_one (sv_ret ev_bl))
  svs_nil))))))
  (svs_one (sv_ret (ev_callC C__law_asks_modes (by rfl) hr (ea_cons (ev_var 3 rfl (Or.inl rfl)) ea_nil)))))))))
theorem c__law_second {f : Addr} {fd : FuncData} (F : L2.Fun K "_law_second" "_law_second" s__law_second f fd) (hm : mg "_law_second" = some (.ref f)) (hb : Binds K fd ["script"] []) (z_len : mg "len" = none) (z_min : mg "min" = none) (z_range : mg "range" = none)   (C__law_draws : Cal P WT.w K mg base "_law_draws" 1 2 w__law_draws) (C__law_asks_rotations : Cal P WT.w K mg base "_law_asks_rotations" 4 2 w__law_asks_rotations) (C__law_asks_modes : Cal P WT.w K mg base "_law_asks_modes" 4 1 w__law_asks_modes) (C__law_chain_world : Cal P WT.w K mg base "_law_chain_world" 2 1 w__law_chain_world) (C__law_asks_scale : Cal P WT.w K mg base "_law_asks_scale" 5 2 w__law_asks_scale) (C__law_chain : Cal P WT.w K mg base "_law_chain" 1 3 w__law_chain) (C__law_unlike : Cal P WT.w K mg base "_law_unlike" 1 1 w__law_unlike) :
    Cal P WT.w K mg base "_law_second" 6 1 w__law_second :=
  cal_def F sc__law_second hm hb (m := m__law_second) fun cdv A outer s H E hr =>
  (svs_cons (sv_set 1 true sc__law_second.nd (ev_callC C__law_draws (by rfl) hr (ea_cons (ev_var 0 rfl (Or.inl rfl)) (ea_cons ev_int ea_nil))) rfl (Or.inr rfl))
  (svs_cons (sv_setLc 2 [("k", 10)] (tg := (.nm 10)) rfl sc__law_second.nd (blkOk_by (own := [("k", 10)]) (N := ["script", "draws", "gap_list", "turn", "wide", "period", "generator", "order", "count", "scale", "k", "gap"]) (sc := defScope s__law_second) (by decide +kernel)) (fun _ _ _ _ _ => (tg_nm 10 sc__law_second.nd rfl (Or.inl rfl) (.inr rfl))) (fun _ _ _ _ _ => ets_nil) (fun _ _ _ _ _ => (ev_op op_addG ok_add ev_int (ev_op op_mod ok_mod (ev_sub (ev_var 1 rfl (Or.inr (Or.inl rfl))) (ev_op op_addG ok_add ev_int (ev_var 10 rfl (Or.inl rfl))) (fun _ _ => rfl)) ev_int))) (fun ht he => es_R1 (by rfl) z_range (ea_cons (ev_op op_addG ok_add ev_int (ev_op op_mod ok_mod (ev_sub (ev_var 1 rfl (Or.inr (Or.inl rfl))) ev_int (fun _ _ => rfl)) ev_int)) ea_nil) (ht := ht) (he := he)))
  (svs_cons (sv_ifJ (sv_if (et_cmp (op_eqG hr.units) ok_eq (ev_op op_mod ok_mod (ev_sub (ev_var 1 rfl (Or.inr (Or.inl rfl))) ev_int (fun _ _ => rfl)) ev_int) ev_int (nomark _))
  (svs_cons (sv_set 2 false sc__law_second.nd (ev_slice (ev_var 2 rfl (Or.inl rfl)) eo_none (eo_some (ev_op op_addG ok_add ev_int (ev_op op_mod ok_mod (ev_sub (ev_var 1 rfl (Or.inr (Or.inl rfl))) ev_int (fun _ _ => rfl)) ev_int)))) rfl (Or.inl rfl))
  (svs_one (sv_forR1 [3] PassesOwn.never rfl (by rfl) z_range (ea_cons (ev_op op_addG ok_add (ev_op op_mod ok_mod (ev_sub (ev_var 1 rfl (Or.inr (Or.inl rfl))) ev_int (fun _ _ => rfl)) ev_int) ev_int) ea_nil) (tg_nm 3 sc__law_second.nd rfl (Or.inl rfl) (.inl rfl))
  (svs_one (sv_set 2 true sc__law_second.nd (ev_op op_addG ok_add (ev_var 2 rfl (Or.inl rfl)) (ev_slice (ev_var 2 rfl (Or.inl rfl)) eo_none (eo_some (ev_op op_addG ok_add ev_int (ev_op op_mod ok_mod (ev_sub (ev_var 1 rfl (Or.inr (Or.inl rfl))) ev_int (fun _ _ => rfl)) ev_int))))) rfl (Or.inl rfl))))))
  svs_nil))
  (svs_cons (sv_ifJ (sv_if (et_cmp (op_eqG hr.units) ok_eq (ev_op op_mod ok_mod (ev_op op_fdivW ok_div (ev_sub (ev_var 1 rfl (Or.inr (Or.inl rfl))) ev_int (fun _ _ => rfl)) ev_int) ev_int) ev_int (nomark _))
  (svs_one (sv_setLc 2 [("gap", 11)] (tg := (.nm 11)) rfl sc__law_second.nd (blkOk_by (own := [("gap", 11)]) (N := ["script", "draws", "gap_list", "turn", "wide", "period", "generator", "order", "count", "scale", "k", "gap"]) (sc := defScope s__law_second) (by decide +kernel)) (fun _ _ _ _ _ => (tg_nm 11 sc__law_second.nd rfl (Or.inl rfl) (.inr rfl))) (fun _ _ _ _ _ => ets_nil) (fun _ _ _ _ _ => (ev_op op_mulG ok_mul (ev_var 11 rfl (Or.inl rfl)) (ev_op op_sub ok_sub (ev_op op_fdivW ok_div (ev_op op_pow ok_pow ev_int ev_int) ev_int) (ev_op op_mod ok_mod (ev_sub (ev_var 1 rfl (Or.inr (Or.inl rfl))) ev_int (fun _ _ => rfl)) ev_int)))) (fun ht he => es_V (ev_var 2 rfl (Or.inl rfl)) (ht := ht) (he := he))))
  svs_nil))
  (svs_cons (sv_if (et_not (et_val (ev_callC C__law_asks_rotations (by rfl) hr (ea_cons (ev_var 2 rfl (Or.inl rfl)) (ea_cons (ev_lst (ea_cons ev_int (ea_cons ev_int (ea_cons (ev_un un_neg ok_neg ev_int) (ea_cons (ev_op op_sub ok_sub (ev_op op_mod ok_mod (ev_sub (ev_var 1 rfl (Or.inr (Or.inl rfl))) ev_int (fun _ _ => rfl)) ev_int) ev_int) (ea_cons (ev_callB call_lenG ok_len (by rfl) z_len PySem.boot_len (ea_cons (ev_var 2 rfl (Or.inl rfl)) ea_nil)) (ea_cons (ev_op op_sub ok_sub (ev_op op_mulG ok_mul (ev_sub (ev_var 1 rfl (Or.inr (Or.inl rfl))) ev_int (fun _ _ => rfl)) (ev_op op_pow ok_pow ev_int ev_int)) (ev_sub (ev_var 1 rfl (Or.inr (Or.inl rfl))) ev_int (fun _ _ => rfl))) ea_nil))))))) ea_nil)))))
  (svs_one (sv_ret ev_bl))
  svs_nil)
  (svs_cons (sv_if (et_not (et_val (ev_callC C__law_asks_modes (by rfl) hr (ea_cons (ev_var 2 rfl (Or.inl rfl)) ea_nil))))
  (svs_one (sv_ret ev_bl))
  svs_nil)
  (svs_cons (sv_ifJ (sv_if (et_cmp (op_eqG hr.units) ok_eq (ev_op op_mod ok_mod (ev_sub (ev_var 1 rfl (Or.inr (Or.inl rfl))) ev_int (fun _ _ => rfl)) ev_int) ev_int (nomark _))
  (svs_cons (sv_setLc 4 [("k", 10)] (tg := (.nm 10)) rfl sc__law_second.nd (blkOk_by (own := [("k", 10)]) (N := ["script", "draws", "gap_list", "turn", "wide", "period", "generator", "order", "count", "scale", "k", "gap"]) (sc := defScope s__law_second) (by decide +kernel)) (fun _ _ _ _ _ => (tg_nm 10 sc__law_second.nd rfl (Or.inl rfl) (.inr rfl))) (fun _ _ _ _ _ => ets_nil) (fun _ _ _ _ _ => (ev_op op_addG ok_add ev_int (ev_op op_mod ok_mod (ev_op op_fdivW ok_div (ev_sub (ev_var 1 rfl (Or.inr (Or.inl rfl))) (ev_op op_addG ok_add ev_int (ev_op op_mod ok_mod (ev_var 10 rfl (Or.inl rfl)) ev_int)) (fun _ _ => rfl)) (ev_op op_addG ok_add ev_int (ev_var 10 rfl (Or.inl rfl)))) ev_int))) (fun ht he => es_R1 (by rfl) z_range (ea_cons (ev_op op_addG ok_add ev_int (ev_op op_mod ok_mod (ev_sub (ev_var 1 rfl (Or.inr (Or.inl rfl))) ev_int (fun _ _ => rfl)) ev_int)) ea_nil) (ht := ht) (he := he)))
  (svs_cons (sv_ifJ (sv_if (et_cmp (op_eqG hr.units) ok_eq (ev_op op_mod ok_mod (ev_sub (ev_var 1 rfl (Or.inr (Or.inl rfl))) ev_int (fun _ _ => rfl)) ev_int) ev_int (nomark _))
  (svs_one (sv_set 4 true sc__law_second.nd (ev_op op_addG ok_add (ev_slice (ev_var 4 rfl (Or.inl rfl)) eo_none (eo_some ev_int)) (ev_slice (ev_var 4 rfl (Or.inl rfl)) eo_none (eo_some ev_int))) rfl (Or.inl rfl)))
  svs_nil))
  (svs_one (sv_if (et_not (et_val (ev_callC C__law_asks_modes (by rfl) hr (ea_cons (ev_var 4 rfl (Or.inl rfl)) ea_nil))))
  (svs_one (sv_ret ev_bl))
  svs_nil))))
  svs_nil))
  (svs_cons (sv_asg true (ev_callC C__law_chain_world (by rfl) hr (ea_cons (ev_var 1 rfl (Or.inr (Or.inl rfl))) ea_nil)) (tg_tp rfl (pgs_cons (pg_name (i := 5) sc__law_second.nd rfl (Or.inr rfl) (.inl rfl)) (pgs_cons (pg_name (i := 6) sc__law_second.nd rfl (Or.inl rfl) (.inl rfl)) (pgs_cons (pg_name (i := 7) sc__law_second.nd rfl (Or.inl rfl) (.inl rfl)) (pgs_cons (pg_name (i := 8) sc__law_second.nd rfl (Or.inl rfl) (.inl rfl)) pgs_nil))))))
  (svs_cons (sv_if (et_not (et_val (ev_callC C__law_asks_scale (by rfl) hr (ea_cons (ev_callC C__law_chain (by rfl) hr (ea_cons (ev_var 5 rfl (Or.inr (Or.inl rfl))) (ea_cons (ev_var 6 rfl (Or.inl rfl)) (ea_cons (ev_callB (call_minG rfl) ok_min (by rfl) z_min PyProof.Rows.boot_min (ea_cons (ev_var 8 rfl (Or.inl rfl)) (ea_cons (ev_op op_addG ok_add ev_int (ev_op op_mod ok_mod (ev_sub (ev_var 1 rfl (Or.inr (Or.inl rfl))) ev_int (fun _ _ => rfl)) ev_int)) ea_nil))) ea_nil)))) (ea_cons (ev_var 5 rfl (Or.inr (Or.inl rfl))) ea_nil)))))
  (svs_one (sv_ret ev_bl))
  svs_nil)
  (svs_cons (sv_set 9 true sc__law_second.nd (ev_callC C__law_unlike (by rfl) hr (ea_cons (ev_lc [("k", 10)] (tg := (.nm 10)) rfl sc__law_second.nd (blkOk_by (own := [("k", 10)]) (N := ["script", "draws", "gap_list", "turn", "wide", "period", "generator", "order", "count", "scale", "k", "gap"]) (sc := defScope s__law_second) (by decide +kernel)) (fun _ _ _ _ _ => (tg_nm 10 sc__law_second.nd rfl (Or.inl rfl) (.inr rfl))) (fun _ _ _ _ _ => ets_nil) (fun _ _ _ _ _ => (ev_op op_mod ok_mod (ev_sub (ev_var 1 rfl (Or.inr (Or.inl rfl))) (ev_op op_addG ok_add ev_int (ev_var 10 rfl (Or.inl rfl))) (fun _ _ => rfl)) (ev_var 5 rfl (Or.inr (Or.inl rfl))))) (fun ht he => es_R1 (by rfl) z_range (ea_cons (ev_op op_addG ok_add ev_int (ev_op op_mod ok_mod (ev_sub (ev_var 1 rfl (Or.inr (Or.inl rfl))) ev_int (fun _ _ => rfl)) ev_int)) ea_nil) (ht := ht) (he := he))) ea_nil)) rfl (Or.inl rfl))
  (svs_one (sv_ret (ev_callC C__law_asks_scale (by rfl) hr (ea_cons (ev_var 9 rfl (Or.inl rfl)) (ea_cons (ev_var 5 rfl (Or.inr (Or.inl rfl))) ea_nil)))))))))))))))
theorem c_law {f : Addr} {fd : FuncData} (F : L2.Fun K "law" "law" s_law f fd) (hm : mg "law" = some (.ref f)) (hb : Binds K fd ["script"] [])    (C__law_first : Cal P WT.w K mg base "_law_first" 5 1 w__law_first) (C__law_second : Cal P WT.w K mg base "_law_second" 6 1 w__law_second) :
    Cal P WT.w K mg base "law" 7 1 w_law :=
  cal_def F sc_law hm hb (m := m_law) fun cdv A outer s H E hr =>
  (svs_one (sv_ret (ev_and (ev_callC C__law_first (by rfl) hr (ea_cons (ev_var 0 rfl (Or.inl rfl)) ea_nil)) (ev_one (ev_callC C__law_second (by rfl) hr (ea_cons (ev_var 0 rfl (Or.inl rfl)) ea_nil))))))
end
end KM
namespace KM
open PySem PySem.Spec PyProof.Rows L2 KT
variable [WT]
theorem ok_law {P : Program} {K : PySem.W.Frag} {mg : Str → Option Value} {base : Heap} {f : Addr} {fd : FuncData} (F : L2.Fun K "law" "law" s_law f fd)    (C__law_first : Cal P WT.w K mg base "_law_first" 5 1 w__law_first) (C__law_second : Cal P WT.w K mg base "_law_second" 6 1 w__law_second) :
    FnOk P WT.w K mg base L2.CX0 7 f fd ["script"] (spOf K 1 w_law) :=
  ok_def F sc_law (m := m_law) fun cdv A outer s H E hr =>
  (svs_one (sv_ret (ev_and (ev_callC C__law_first (by rfl) hr (ea_cons (ev_var 0 rfl (Or.inl rfl)) ea_nil)) (ev_one (ev_callC C__law_second (by rfl) hr (ea_cons (ev_var 0 rfl (Or.inl rfl)) ea_nil))))))
theorem all_mk {l : PySem.W.OpenLaw} {K : PySem.W.Frag} {h : Heap} {mg : Str → Option Value} {fa : Addr} (X : K.In h) (G : h.Ns mainGlobals mg) (hfa : mg "law" = some (.ref fa))
    {f0 : Addr} {od0 an0 : Option Addr} {sl0 : Array (Option Value)} {oc0 kV0 dc0 pm0 cd0 ct0 : Value}
    {f1 : Addr} {od1 an1 : Option Addr} {sl1 : Array (Option Value)} {oc1 kV1 dc1 pm1 cd1 ct1 : Value}
    {f2 : Addr} {od2 an2 : Option Addr} {sl2 : Array (Option Value)} {oc2 kV2 dc2 pm2 cd2 ct2 : Value}
    {f3 : Addr} {od3 an3 : Option Addr} {sl3 : Array (Option Value)} {oc3 kV3 dc3 pm3 cd3 ct3 : Value}
    {f4 : Addr} {od4 an4 : Option Addr} {sl4 : Array (Option Value)} {oc4 kV4 dc4 pm4 cd4 ct4 : Value}
    {f5 : Addr} {od5 an5 : Option Addr} {sl5 : Array (Option Value)} {oc5 kV5 dc5 pm5 cd5 ct5 : Value}
    {f6 : Addr} {od6 an6 : Option Addr} {sl6 : Array (Option Value)} {oc6 kV6 dc6 pm6 cd6 ct6 : Value}
    {f7 : Addr} {od7 an7 : Option Addr} {sl7 : Array (Option Value)} {oc7 kV7 dc7 pm7 cd7 ct7 : Value}
    {f8 : Addr} {od8 an8 : Option Addr} {sl8 : Array (Option Value)} {oc8 kV8 dc8 pm8 cd8 ct8 : Value}
    {f9 : Addr} {od9 an9 : Option Addr} {sl9 : Array (Option Value)} {oc9 kV9 dc9 pm9 cd9 ct9 : Value}
    {f10 : Addr} {od10 an10 : Option Addr} {sl10 : Array (Option Value)} {oc10 kV10 dc10 pm10 cd10 ct10 : Value}
    {f11 : Addr} {od11 an11 : Option Addr} {sl11 : Array (Option Value)} {oc11 kV11 dc11 pm11 cd11 ct11 : Value}
    {f12 : Addr} {od12 an12 : Option Addr} {sl12 : Array (Option Value)} {oc12 kV12 dc12 pm12 cd12 ct12 : Value}
    {f13 : Addr} {od13 an13 : Option Addr} {sl13 : Array (Option Value)} {oc13 kV13 dc13 pm13 cd13 ct13 : Value}
    {f14 : Addr} {od14 an14 : Option Addr} {sl14 : Array (Option Value)} {oc14 kV14 dc14 pm14 cd14 ct14 : Value}
    {f15 : Addr} {od15 an15 : Option Addr} {sl15 : Array (Option Value)} {oc15 kV15 dc15 pm15 cd15 ct15 : Value}
    {f16 : Addr} {od16 an16 : Option Addr} {sl16 : Array (Option Value)} {oc16 kV16 dc16 pm16 cd16 ct16 : Value}
    {f17 : Addr} {od17 an17 : Option Addr} {sl17 : Array (Option Value)} {oc17 kV17 dc17 pm17 cd17 ct17 : Value}
    {f18 : Addr} {od18 an18 : Option Addr} {sl18 : Array (Option Value)} {oc18 kV18 dc18 pm18 cd18 ct18 : Value}
    {f19 : Addr} {od19 an19 : Option Addr} {sl19 : Array (Option Value)} {oc19 kV19 dc19 pm19 cd19 ct19 : Value}
    {f20 : Addr} {od20 an20 : Option Addr} {sl20 : Array (Option Value)} {oc20 kV20 dc20 pm20 cd20 ct20 : Value}
    {f21 : Addr} {od21 an21 : Option Addr} {sl21 : Array (Option Value)} {oc21 kV21 dc21 pm21 cd21 ct21 : Value}
    {f22 : Addr} {od22 an22 : Option Addr} {sl22 : Array (Option Value)} {oc22 kV22 dc22 pm22 cd22 ct22 : Value}
    {f23 : Addr} {od23 an23 : Option Addr} {sl23 : Array (Option Value)} {oc23 kV23 dc23 pm23 cd23 ct23 : Value}
    {f24 : Addr} {od24 an24 : Option Addr} {sl24 : Array (Option Value)} {oc24 kV24 dc24 pm24 cd24 ct24 : Value}
    {f25 : Addr} {od25 an25 : Option Addr} {sl25 : Array (Option Value)} {oc25 kV25 dc25 pm25 cd25 ct25 : Value}
    {f26 : Addr} {od26 an26 : Option Addr} {sl26 : Array (Option Value)} {oc26 kV26 dc26 pm26 cd26 ct26 : Value}
    {f27 : Addr} {od27 an27 : Option Addr} {sl27 : Array (Option Value)} {oc27 kV27 dc27 pm27 cd27 ct27 : Value}
    {f28 : Addr} {od28 an28 : Option Addr} {sl28 : Array (Option Value)} {oc28 kV28 dc28 pm28 cd28 ct28 : Value}
    {f29 : Addr} {od29 an29 : Option Addr} {sl29 : Array (Option Value)} {oc29 kV29 dc29 pm29 cd29 ct29 : Value}
    {f30 : Addr} {od30 an30 : Option Addr} {sl30 : Array (Option Value)} {oc30 kV30 dc30 pm30 cd30 ct30 : Value}
    {f31 : Addr} {od31 an31 : Option Addr} {sl31 : Array (Option Value)} {oc31 kV31 dc31 pm31 cd31 ct31 : Value}
    {f32 : Addr} {od32 an32 : Option Addr} {sl32 : Array (Option Value)} {oc32 kV32 dc32 pm32 cd32 ct32 : Value}
    {f33 : Addr} {od33 an33 : Option Addr} {sl33 : Array (Option Value)} {oc33 kV33 dc33 pm33 cd33 ct33 : Value}
    {f34 : Addr} {od34 an34 : Option Addr} {sl34 : Array (Option Value)} {oc34 kV34 dc34 pm34 cd34 ct34 : Value}
    {f35 : Addr} {od35 an35 : Option Addr} {sl35 : Array (Option Value)} {oc35 kV35 dc35 pm35 cd35 ct35 : Value}
    (a0 : PySem.W.nsIn K mainGlobals "chain_scale" = some (some (.ref f0))) (l0 : K.lookup f0 = some ⟨oc0, od0, .func (PySem.W.fnOf "chain_scale" "chain_scale" (defArgs s_chain_scale) (defBody s_chain_scale) (defScope s_chain_scale) .none kV0 dc0 pm0 an0 cd0 ct0), sl0⟩) (c0 : PySem.W.codeIn K cd0 "chain_scale" = true) (k0 : PySem.W.keepIn K (.ref f0) = true)
    (a1 : PySem.W.nsIn K mainGlobals "gaps" = some (some (.ref f1))) (l1 : K.lookup f1 = some ⟨oc1, od1, .func (PySem.W.fnOf "gaps" "gaps" (defArgs s_gaps) (defBody s_gaps) (defScope s_gaps) .none kV1 dc1 pm1 an1 cd1 ct1), sl1⟩) (c1 : PySem.W.codeIn K cd1 "gaps" = true) (k1 : PySem.W.keepIn K (.ref f1) = true)
    (a2 : PySem.W.nsIn K mainGlobals "shifted" = some (some (.ref f2))) (l2 : K.lookup f2 = some ⟨oc2, od2, .func (PySem.W.fnOf "shifted" "shifted" (defArgs s_shifted) (defBody s_shifted) (defScope s_shifted) .none kV2 dc2 pm2 an2 cd2 ct2), sl2⟩) (c2 : PySem.W.codeIn K cd2 "shifted" = true) (k2 : PySem.W.keepIn K (.ref f2) = true)
    (a3 : PySem.W.nsIn K mainGlobals "shared" = some (some (.ref f3))) (l3 : K.lookup f3 = some ⟨oc3, od3, .func (PySem.W.fnOf "shared" "shared" (defArgs s_shared) (defBody s_shared) (defScope s_shared) .none kV3 dc3 pm3 an3 cd3 ct3), sl3⟩) (c3 : PySem.W.codeIn K cd3 "shared" = true) (k3 : PySem.W.keepIn K (.ref f3) = true)
    (a4 : PySem.W.nsIn K mainGlobals "chain_from" = some (some (.ref f4))) (l4 : K.lookup f4 = some ⟨oc4, od4, .func (PySem.W.fnOf "chain_from" "chain_from" (defArgs s_chain_from) (defBody s_chain_from) (defScope s_chain_from) .none kV4 dc4 pm4 an4 cd4 ct4), sl4⟩) (c4 : PySem.W.codeIn K cd4 "chain_from" = true) (k4 : PySem.W.keepIn K (.ref f4) = true)
    (a5 : PySem.W.nsIn K mainGlobals "chain_start" = some (some (.ref f5))) (l5 : K.lookup f5 = some ⟨oc5, od5, .func (PySem.W.fnOf "chain_start" "chain_start" (defArgs s_chain_start) (defBody s_chain_start) (defScope s_chain_start) .none kV5 dc5 pm5 an5 cd5 ct5), sl5⟩) (c5 : PySem.W.codeIn K cd5 "chain_start" = true) (k5 : PySem.W.keepIn K (.ref f5) = true)
    (a6 : PySem.W.nsIn K mainGlobals "rotated_gaps" = some (some (.ref f6))) (l6 : K.lookup f6 = some ⟨oc6, od6, .func (PySem.W.fnOf "rotated_gaps" "rotated_gaps" (defArgs s_rotated_gaps) (defBody s_rotated_gaps) (defScope s_rotated_gaps) .none kV6 dc6 pm6 an6 cd6 ct6), sl6⟩) (c6 : PySem.W.codeIn K cd6 "rotated_gaps" = true) (k6 : PySem.W.keepIn K (.ref f6) = true)
    (a7 : PySem.W.nsIn K mainGlobals "mode_count" = some (some (.ref f7))) (l7 : K.lookup f7 = some ⟨oc7, od7, .func (PySem.W.fnOf "mode_count" "mode_count" (defArgs s_mode_count) (defBody s_mode_count) (defScope s_mode_count) .none kV7 dc7 pm7 an7 cd7 ct7), sl7⟩) (c7 : PySem.W.codeIn K cd7 "mode_count" = true) (k7 : PySem.W.keepIn K (.ref f7) = true)
    (a8 : PySem.W.nsIn K mainGlobals "modes" = some (some (.ref f8))) (l8 : K.lookup f8 = some ⟨oc8, od8, .func (PySem.W.fnOf "modes" "modes" (defArgs s_modes) (defBody s_modes) (defScope s_modes) .none kV8 dc8 pm8 an8 cd8 ct8), sl8⟩) (c8 : PySem.W.codeIn K cd8 "modes" = true) (k8 : PySem.W.keepIn K (.ref f8) = true)
    (a9 : PySem.W.nsIn K mainGlobals "notes_of" = some (some (.ref f9))) (l9 : K.lookup f9 = some ⟨oc9, od9, .func (PySem.W.fnOf "notes_of" "notes_of" (defArgs s_notes_of) (defBody s_notes_of) (defScope s_notes_of) .none kV9 dc9 pm9 an9 cd9 ct9), sl9⟩) (c9 : PySem.W.codeIn K cd9 "notes_of" = true) (k9 : PySem.W.keepIn K (.ref f9) = true)
    (a10 : PySem.W.nsIn K mainGlobals "brightest" = some (some (.ref f10))) (l10 : K.lookup f10 = some ⟨oc10, od10, .func (PySem.W.fnOf "brightest" "brightest" (defArgs s_brightest) (defBody s_brightest) (defScope s_brightest) .none kV10 dc10 pm10 an10 cd10 ct10), sl10⟩) (c10 : PySem.W.codeIn K cd10 "brightest" = true) (k10 : PySem.W.keepIn K (.ref f10) = true)
    (a11 : PySem.W.nsIn K mainGlobals "mode_from" = some (some (.ref f11))) (l11 : K.lookup f11 = some ⟨oc11, od11, .func (PySem.W.fnOf "mode_from" "mode_from" (defArgs s_mode_from) (defBody s_mode_from) (defScope s_mode_from) .none kV11 dc11 pm11 an11 cd11 ct11), sl11⟩) (c11 : PySem.W.codeIn K cd11 "mode_from" = true) (k11 : PySem.W.keepIn K (.ref f11) = true)
    (a12 : PySem.W.nsIn K mainGlobals "_law_draws" = some (some (.ref f12))) (l12 : K.lookup f12 = some ⟨oc12, od12, .func (PySem.W.fnOf "_law_draws" "_law_draws" (defArgs s__law_draws) (defBody s__law_draws) (defScope s__law_draws) .none kV12 dc12 pm12 an12 cd12 ct12), sl12⟩) (c12 : PySem.W.codeIn K cd12 "_law_draws" = true) (k12 : PySem.W.keepIn K (.ref f12) = true)
    (a13 : PySem.W.nsIn K mainGlobals "_law_is_number" = some (some (.ref f13))) (l13 : K.lookup f13 = some ⟨oc13, od13, .func (PySem.W.fnOf "_law_is_number" "_law_is_number" (defArgs s__law_is_number) (defBody s__law_is_number) (defScope s__law_is_number) .none kV13 dc13 pm13 an13 cd13 ct13), sl13⟩) (c13 : PySem.W.codeIn K cd13 "_law_is_number" = true) (k13 : PySem.W.keepIn K (.ref f13) = true)
    (a14 : PySem.W.nsIn K mainGlobals "_law_is_numbers" = some (some (.ref f14))) (l14 : K.lookup f14 = some ⟨oc14, od14, .func (PySem.W.fnOf "_law_is_numbers" "_law_is_numbers" (defArgs s__law_is_numbers) (defBody s__law_is_numbers) (defScope s__law_is_numbers) .none kV14 dc14 pm14 an14 cd14 ct14), sl14⟩) (c14 : PySem.W.codeIn K cd14 "_law_is_numbers" = true) (k14 : PySem.W.keepIn K (.ref f14) = true)
    (a15 : PySem.W.nsIn K mainGlobals "_law_same_numbers" = some (some (.ref f15))) (l15 : K.lookup f15 = some ⟨oc15, od15, .func (PySem.W.fnOf "_law_same_numbers" "_law_same_numbers" (defArgs s__law_same_numbers) (defBody s__law_same_numbers) (defScope s__law_same_numbers) .none kV15 dc15 pm15 an15 cd15 ct15), sl15⟩) (c15 : PySem.W.codeIn K cd15 "_law_same_numbers" = true) (k15 : PySem.W.keepIn K (.ref f15) = true)
    (a16 : PySem.W.nsIn K mainGlobals "_law_gcd" = some (some (.ref f16))) (l16 : K.lookup f16 = some ⟨oc16, od16, .func (PySem.W.fnOf "_law_gcd" "_law_gcd" (defArgs s__law_gcd) (defBody s__law_gcd) (defScope s__law_gcd) .none kV16 dc16 pm16 an16 cd16 ct16), sl16⟩) (c16 : PySem.W.codeIn K cd16 "_law_gcd" = true) (k16 : PySem.W.keepIn K (.ref f16) = true)
    (a17 : PySem.W.nsIn K mainGlobals "_law_unlike" = some (some (.ref f17))) (l17 : K.lookup f17 = some ⟨oc17, od17, .func (PySem.W.fnOf "_law_unlike" "_law_unlike" (defArgs s__law_unlike) (defBody s__law_unlike) (defScope s__law_unlike) .none kV17 dc17 pm17 an17 cd17 ct17), sl17⟩) (c17 : PySem.W.codeIn K cd17 "_law_unlike" = true) (k17 : PySem.W.keepIn K (.ref f17) = true)
    (a18 : PySem.W.nsIn K mainGlobals "_law_chain_world" = some (some (.ref f18))) (l18 : K.lookup f18 = some ⟨oc18, od18, .func (PySem.W.fnOf "_law_chain_world" "_law_chain_world" (defArgs s__law_chain_world) (defBody s__law_chain_world) (defScope s__law_chain_world) .none kV18 dc18 pm18 an18 cd18 ct18), sl18⟩) (c18 : PySem.W.codeIn K cd18 "_law_chain_world" = true) (k18 : PySem.W.keepIn K (.ref f18) = true)
    (a19 : PySem.W.nsIn K mainGlobals "_law_from" = some (some (.ref f19))) (l19 : K.lookup f19 = some ⟨oc19, od19, .func (PySem.W.fnOf "_law_from" "_law_from" (defArgs s__law_from) (defBody s__law_from) (defScope s__law_from) .none kV19 dc19 pm19 an19 cd19 ct19), sl19⟩) (c19 : PySem.W.codeIn K cd19 "_law_from" = true) (k19 : PySem.W.keepIn K (.ref f19) = true)
    (a20 : PySem.W.nsIn K mainGlobals "_law_start" = some (some (.ref f20))) (l20 : K.lookup f20 = some ⟨oc20, od20, .func (PySem.W.fnOf "_law_start" "_law_start" (defArgs s__law_start) (defBody s__law_start) (defScope s__law_start) .none kV20 dc20 pm20 an20 cd20 ct20), sl20⟩) (c20 : PySem.W.codeIn K cd20 "_law_start" = true) (k20 : PySem.W.keepIn K (.ref f20) = true)
    (a21 : PySem.W.nsIn K mainGlobals "_law_asks_start" = some (some (.ref f21))) (l21 : K.lookup f21 = some ⟨oc21, od21, .func (PySem.W.fnOf "_law_asks_start" "_law_asks_start" (defArgs s__law_asks_start) (defBody s__law_asks_start) (defScope s__law_asks_start) .none kV21 dc21 pm21 an21 cd21 ct21), sl21⟩) (c21 : PySem.W.codeIn K cd21 "_law_asks_start" = true) (k21 : PySem.W.keepIn K (.ref f21) = true)
    (a22 : PySem.W.nsIn K mainGlobals "_law_asks_pair" = some (some (.ref f22))) (l22 : K.lookup f22 = some ⟨oc22, od22, .func (PySem.W.fnOf "_law_asks_pair" "_law_asks_pair" (defArgs s__law_asks_pair) (defBody s__law_asks_pair) (defScope s__law_asks_pair) .none kV22 dc22 pm22 an22 cd22 ct22), sl22⟩) (c22 : PySem.W.codeIn K cd22 "_law_asks_pair" = true) (k22 : PySem.W.keepIn K (.ref f22) = true)
    (a23 : PySem.W.nsIn K mainGlobals "_law_first" = some (some (.ref f23))) (l23 : K.lookup f23 = some ⟨oc23, od23, .func (PySem.W.fnOf "_law_first" "_law_first" (defArgs s__law_first) (defBody s__law_first) (defScope s__law_first) .none kV23 dc23 pm23 an23 cd23 ct23), sl23⟩) (c23 : PySem.W.codeIn K cd23 "_law_first" = true) (k23 : PySem.W.keepIn K (.ref f23) = true)
    (a24 : PySem.W.nsIn K mainGlobals "_law_sums" = some (some (.ref f24))) (l24 : K.lookup f24 = some ⟨oc24, od24, .func (PySem.W.fnOf "_law_sums" "_law_sums" (defArgs s__law_sums) (defBody s__law_sums) (defScope s__law_sums) .none kV24 dc24 pm24 an24 cd24 ct24), sl24⟩) (c24 : PySem.W.codeIn K cd24 "_law_sums" = true) (k24 : PySem.W.keepIn K (.ref f24) = true)
    (a25 : PySem.W.nsIn K mainGlobals "_law_chain" = some (some (.ref f25))) (l25 : K.lookup f25 = some ⟨oc25, od25, .func (PySem.W.fnOf "_law_chain" "_law_chain" (defArgs s__law_chain) (defBody s__law_chain) (defScope s__law_chain) .none kV25 dc25 pm25 an25 cd25 ct25), sl25⟩) (c25 : PySem.W.codeIn K cd25 "_law_chain" = true) (k25 : PySem.W.keepIn K (.ref f25) = true)
    (a26 : PySem.W.nsIn K mainGlobals "_law_gaps" = some (some (.ref f26))) (l26 : K.lookup f26 = some ⟨oc26, od26, .func (PySem.W.fnOf "_law_gaps" "_law_gaps" (defArgs s__law_gaps) (defBody s__law_gaps) (defScope s__law_gaps) .none kV26 dc26 pm26 an26 cd26 ct26), sl26⟩) (c26 : PySem.W.codeIn K cd26 "_law_gaps" = true) (k26 : PySem.W.keepIn K (.ref f26) = true)
    (a27 : PySem.W.nsIn K mainGlobals "_law_rotated" = some (some (.ref f27))) (l27 : K.lookup f27 = some ⟨oc27, od27, .func (PySem.W.fnOf "_law_rotated" "_law_rotated" (defArgs s__law_rotated) (defBody s__law_rotated) (defScope s__law_rotated) .none kV27 dc27 pm27 an27 cd27 ct27), sl27⟩) (c27 : PySem.W.codeIn K cd27 "_law_rotated" = true) (k27 : PySem.W.keepIn K (.ref f27) = true)
    (a28 : PySem.W.nsIn K mainGlobals "_law_count" = some (some (.ref f28))) (l28 : K.lookup f28 = some ⟨oc28, od28, .func (PySem.W.fnOf "_law_count" "_law_count" (defArgs s__law_count) (defBody s__law_count) (defScope s__law_count) .none kV28 dc28 pm28 an28 cd28 ct28), sl28⟩) (c28 : PySem.W.codeIn K cd28 "_law_count" = true) (k28 : PySem.W.keepIn K (.ref f28) = true)
    (a29 : PySem.W.nsIn K mainGlobals "_law_brighter" = some (some (.ref f29))) (l29 : K.lookup f29 = some ⟨oc29, od29, .func (PySem.W.fnOf "_law_brighter" "_law_brighter" (defArgs s__law_brighter) (defBody s__law_brighter) (defScope s__law_brighter) .none kV29 dc29 pm29 an29 cd29 ct29), sl29⟩) (c29 : PySem.W.codeIn K cd29 "_law_brighter" = true) (k29 : PySem.W.keepIn K (.ref f29) = true)
    (a30 : PySem.W.nsIn K mainGlobals "_law_brightest" = some (some (.ref f30))) (l30 : K.lookup f30 = some ⟨oc30, od30, .func (PySem.W.fnOf "_law_brightest" "_law_brightest" (defArgs s__law_brightest) (defBody s__law_brightest) (defScope s__law_brightest) .none kV30 dc30 pm30 an30 cd30 ct30), sl30⟩) (c30 : PySem.W.codeIn K cd30 "_law_brightest" = true) (k30 : PySem.W.keepIn K (.ref f30) = true)
    (a31 : PySem.W.nsIn K mainGlobals "_law_asks_rotations" = some (some (.ref f31))) (l31 : K.lookup f31 = some ⟨oc31, od31, .func (PySem.W.fnOf "_law_asks_rotations" "_law_asks_rotations" (defArgs s__law_asks_rotations) (defBody s__law_asks_rotations) (defScope s__law_asks_rotations) .none kV31 dc31 pm31 an31 cd31 ct31), sl31⟩) (c31 : PySem.W.codeIn K cd31 "_law_asks_rotations" = true) (k31 : PySem.W.keepIn K (.ref f31) = true)
    (a32 : PySem.W.nsIn K mainGlobals "_law_asks_modes" = some (some (.ref f32))) (l32 : K.lookup f32 = some ⟨oc32, od32, .func (PySem.W.fnOf "_law_asks_modes" "_law_asks_modes" (defArgs s__law_asks_modes) (defBody s__law_asks_modes) (defScope s__law_asks_modes) .none kV32 dc32 pm32 an32 cd32 ct32), sl32⟩) (c32 : PySem.W.codeIn K cd32 "_law_asks_modes" = true) (k32 : PySem.W.keepIn K (.ref f32) = true)
    (a33 : PySem.W.nsIn K mainGlobals "_law_asks_scale" = some (some (.ref f33))) (l33 : K.lookup f33 = some ⟨oc33, od33, .func (PySem.W.fnOf "_law_asks_scale" "_law_asks_scale" (defArgs s__law_asks_scale) (defBody s__law_asks_scale) (defScope s__law_asks_scale) .none kV33 dc33 pm33 an33 cd33 ct33), sl33⟩) (c33 : PySem.W.codeIn K cd33 "_law_asks_scale" = true) (k33 : PySem.W.keepIn K (.ref f33) = true)
    (a34 : PySem.W.nsIn K mainGlobals "_law_second" = some (some (.ref f34))) (l34 : K.lookup f34 = some ⟨oc34, od34, .func (PySem.W.fnOf "_law_second" "_law_second" (defArgs s__law_second) (defBody s__law_second) (defScope s__law_second) .none kV34 dc34 pm34 an34 cd34 ct34), sl34⟩) (c34 : PySem.W.codeIn K cd34 "_law_second" = true) (k34 : PySem.W.keepIn K (.ref f34) = true)
    (a35 : PySem.W.nsIn K mainGlobals "law" = some (some (.ref f35))) (l35 : K.lookup f35 = some ⟨oc35, od35, .func (PySem.W.fnOf "law" "law" (defArgs s_law) (defBody s_law) (defScope s_law) .none kV35 dc35 pm35 an35 cd35 ct35), sl35⟩) (c35 : PySem.W.codeIn K cd35 "law" = true) (k35 : PySem.W.keepIn K (.ref f35) = true)
    (z_abs : PySem.W.nsIn K mainGlobals "abs" = some none)
    (z_bool : PySem.W.nsIn K mainGlobals "bool" = some none)
    (z_int : PySem.W.nsIn K mainGlobals "int" = some none)
    (z_isinstance : PySem.W.nsIn K mainGlobals "isinstance" = some none)
    (z_len : PySem.W.nsIn K mainGlobals "len" = some none)
    (z_list : PySem.W.nsIn K mainGlobals "list" = some none)
    (z_min : PySem.W.nsIn K mainGlobals "min" = some none)
    (z_range : PySem.W.nsIn K mainGlobals "range" = some none)
    (z_set : PySem.W.nsIn K mainGlobals "set" = some none)
    (z_sorted : PySem.W.nsIn K mainGlobals "sorted" = some none) :
    ∃ fd : FuncData, (∀ (s : Shared) (v : Value), BindsTo s fd ⟨[v], []⟩ [("script", v)]) ∧ ∀ base : Heap, K.In base → base.Ns mainGlobals mg → FnOk l.prog WT.w K mg base L2.CX0 7 fa fd ["script"] (spOf K 1 w_law) := by
  have e := hfa.symm.trans (PySem.W.mg_of X G a35)
  cases e
  have F0 := fun_mk (st := s_chain_scale) l0 c0 k0
  have b0 := F0.binds (ps := ["period", "generator", "count"]) fun _ _ _ _ _ _ us hl => match us, hl with | [_, _, _], _ => rfl
  have m0 := PySem.W.mg_of X G a0
  have F1 := fun_mk (st := s_gaps) l1 c1 k1
  have b1 := F1.binds (ps := ["scale", "period"]) fun _ _ _ _ _ _ us hl => match us, hl with | [_, _], _ => rfl
  have m1 := PySem.W.mg_of X G a1
  have F2 := fun_mk (st := s_shifted) l2 c2 k2
  have b2 := F2.binds (ps := ["scale", "period", "by"]) fun _ _ _ _ _ _ us hl => match us, hl with | [_, _, _], _ => rfl
  have m2 := PySem.W.mg_of X G a2
  have F3 := fun_mk (st := s_shared) l3 c3 k3
  have b3 := F3.binds (ps := ["first", "second"]) fun _ _ _ _ _ _ us hl => match us, hl with | [_, _], _ => rfl
  have m3 := PySem.W.mg_of X G a3
  have F4 := fun_mk (st := s_chain_from) l4 c4 k4
  have b4 := F4.binds (ps := ["note", "period", "generator", "count"]) fun _ _ _ _ _ _ us hl => match us, hl with | [_, _, _, _], _ => rfl
  have m4 := PySem.W.mg_of X G a4
  have F5 := fun_mk (st := s_chain_start) l5 c5 k5
  have b5 := F5.binds (ps := ["scale", "period", "generator"]) fun _ _ _ _ _ _ us hl => match us, hl with | [_, _, _], _ => rfl
  have m5 := PySem.W.mg_of X G a5
  have F6 := fun_mk (st := s_rotated_gaps) l6 c6 k6
  have b6 := F6.binds (ps := ["gap_list", "by"]) fun _ _ _ _ _ _ us hl => match us, hl with | [_, _], _ => rfl
  have m6 := PySem.W.mg_of X G a6
  have F7 := fun_mk (st := s_mode_count) l7 c7 k7
  have b7 := F7.binds (ps := ["gap_list"]) fun _ _ _ _ _ _ us hl => match us, hl with | [_], _ => rfl
  have m7 := PySem.W.mg_of X G a7
  have F8 := fun_mk (st := s_modes) l8 c8 k8
  have b8 := F8.binds (ps := ["gap_list"]) fun _ _ _ _ _ _ us hl => match us, hl with | [_], _ => rfl
  have m8 := PySem.W.mg_of X G a8
  have F9 := fun_mk (st := s_notes_of) l9 c9 k9
  have b9 := F9.binds (ps := ["gap_list"]) fun _ _ _ _ _ _ us hl => match us, hl with | [_], _ => rfl
  have m9 := PySem.W.mg_of X G a9
  have F10 := fun_mk (st := s_brightest) l10 c10 k10
  have b10 := F10.binds (ps := ["gap_list"]) fun _ _ _ _ _ _ us hl => match us, hl with | [_], _ => rfl
  have m10 := PySem.W.mg_of X G a10
  have F11 := fun_mk (st := s_mode_from) l11 c11 k11
  have b11 := F11.binds (ps := ["scale", "period", "note"]) fun _ _ _ _ _ _ us hl => match us, hl with | [_, _, _], _ => rfl
  have m11 := PySem.W.mg_of X G a11
  have F12 := fun_mk (st := s__law_draws) l12 c12 k12
  have b12 := F12.binds (ps := ["script", "many"]) fun _ _ _ _ _ _ us hl => match us, hl with | [_, _], _ => rfl
  have m12 := PySem.W.mg_of X G a12
  have F13 := fun_mk (st := s__law_is_number) l13 c13 k13
  have b13 := F13.binds (ps := ["value"]) fun _ _ _ _ _ _ us hl => match us, hl with | [_], _ => rfl
  have m13 := PySem.W.mg_of X G a13
  have F14 := fun_mk (st := s__law_is_numbers) l14 c14 k14
  have b14 := F14.binds (ps := ["value", "size"]) fun _ _ _ _ _ _ us hl => match us, hl with | [_, _], _ => rfl
  have m14 := PySem.W.mg_of X G a14
  have F15 := fun_mk (st := s__law_same_numbers) l15 c15 k15
  have b15 := F15.binds (ps := ["found", "due"]) fun _ _ _ _ _ _ us hl => match us, hl with | [_, _], _ => rfl
  have m15 := PySem.W.mg_of X G a15
  have F16 := fun_mk (st := s__law_gcd) l16 c16 k16
  have b16 := F16.binds (ps := ["first", "second"]) fun _ _ _ _ _ _ us hl => match us, hl with | [_, _], _ => rfl
  have m16 := PySem.W.mg_of X G a16
  have F17 := fun_mk (st := s__law_unlike) l17 c17 k17
  have b17 := F17.binds (ps := ["numbers"]) fun _ _ _ _ _ _ us hl => match us, hl with | [_], _ => rfl
  have m17 := PySem.W.mg_of X G a17
  have F18 := fun_mk (st := s__law_chain_world) l18 c18 k18
  have b18 := F18.binds (ps := ["draws"]) fun _ _ _ _ _ _ us hl => match us, hl with | [_], _ => rfl
  have m18 := PySem.W.mg_of X G a18
  have F19 := fun_mk (st := s__law_from) l19 c19 k19
  have b19 := F19.binds (ps := ["start", "period", "generator", "count"]) fun _ _ _ _ _ _ us hl => match us, hl with | [_, _, _, _], _ => rfl
  have m19 := PySem.W.mg_of X G a19
  have F20 := fun_mk (st := s__law_start) l20 c20 k20
  have b20 := F20.binds (ps := ["scale", "period", "generator"]) fun _ _ _ _ _ _ us hl => match us, hl with | [_, _, _], _ => rfl
  have m20 := PySem.W.mg_of X G a20
  have F21 := fun_mk (st := s__law_asks_start) l21 c21 k21
  have b21 := F21.binds (ps := ["scale", "period", "generator", "due"]) fun _ _ _ _ _ _ us hl => match us, hl with | [_, _, _, _], _ => rfl
  have m21 := PySem.W.mg_of X G a21
  have F22 := fun_mk (st := s__law_asks_pair) l22 c22 k22
  have b22 := F22.binds (ps := ["first", "second", "period", "by"]) fun _ _ _ _ _ _ us hl => match us, hl with | [_, _, _, _], _ => rfl
  have m22 := PySem.W.mg_of X G a22
  have F23 := fun_mk (st := s__law_first) l23 c23 k23
  have b23 := F23.binds (ps := ["script"]) fun _ _ _ _ _ _ us hl => match us, hl with | [_], _ => rfl
  have m23 := PySem.W.mg_of X G a23
  have F24 := fun_mk (st := s__law_sums) l24 c24 k24
  have b24 := F24.binds (ps := ["shares"]) fun _ _ _ _ _ _ us hl => match us, hl with | [_], _ => rfl
  have m24 := PySem.W.mg_of X G a24
  have F25 := fun_mk (st := s__law_chain) l25 c25 k25
  have b25 := F25.binds (ps := ["period", "generator", "count"]) fun _ _ _ _ _ _ us hl => match us, hl with | [_, _, _], _ => rfl
  have m25 := PySem.W.mg_of X G a25
  have F26 := fun_mk (st := s__law_gaps) l26 c26 k26
  have b26 := F26.binds (ps := ["scale", "period"]) fun _ _ _ _ _ _ us hl => match us, hl with | [_, _], _ => rfl
  have m26 := PySem.W.mg_of X G a26
  have F27 := fun_mk (st := s__law_rotated) l27 c27 k27
  have b27 := F27.binds (ps := ["gap_list", "by"]) fun _ _ _ _ _ _ us hl => match us, hl with | [_, _], _ => rfl
  have m27 := PySem.W.mg_of X G a27
  have F28 := fun_mk (st := s__law_count) l28 c28 k28
  have b28 := F28.binds (ps := ["gap_list"]) fun _ _ _ _ _ _ us hl => match us, hl with | [_], _ => rfl
  have m28 := PySem.W.mg_of X G a28
  have F29 := fun_mk (st := s__law_brighter) l29 c29 k29
  have b29 := F29.binds (ps := ["first", "second"]) fun _ _ _ _ _ _ us hl => match us, hl with | [_, _], _ => rfl
  have m29 := PySem.W.mg_of X G a29
  have F30 := fun_mk (st := s__law_brightest) l30 c30 k30
  have b30 := F30.binds (ps := ["gap_list"]) fun _ _ _ _ _ _ us hl => match us, hl with | [_], _ => rfl
  have m30 := PySem.W.mg_of X G a30
  have F31 := fun_mk (st := s__law_asks_rotations) l31 c31 k31
  have b31 := F31.binds (ps := ["gap_list", "turns"]) fun _ _ _ _ _ _ us hl => match us, hl with | [_, _], _ => rfl
  have m31 := PySem.W.mg_of X G a31
  have F32 := fun_mk (st := s__law_asks_modes) l32 c32 k32
  have b32 := F32.binds (ps := ["gap_list"]) fun _ _ _ _ _ _ us hl => match us, hl with | [_], _ => rfl
  have m32 := PySem.W.mg_of X G a32
  have F33 := fun_mk (st := s__law_asks_scale) l33 c33 k33
  have b33 := F33.binds (ps := ["scale", "period"]) fun _ _ _ _ _ _ us hl => match us, hl with | [_, _], _ => rfl
  have m33 := PySem.W.mg_of X G a33
  have F34 := fun_mk (st := s__law_second) l34 c34 k34
  have b34 := F34.binds (ps := ["script"]) fun _ _ _ _ _ _ us hl => match us, hl with | [_], _ => rfl
  have m34 := PySem.W.mg_of X G a34
  have F35 := fun_mk (st := s_law) l35 c35 k35
  have b35 := F35.binds (ps := ["script"]) fun _ _ _ _ _ _ us hl => match us, hl with | [_], _ => rfl
  have m35 := PySem.W.mg_of X G a35
  have y_abs := PySem.W.mg_none_of X G z_abs
  have y_bool := PySem.W.mg_none_of X G z_bool
  have y_int := PySem.W.mg_none_of X G z_int
  have y_isinstance := PySem.W.mg_none_of X G z_isinstance
  have y_len := PySem.W.mg_none_of X G z_len
  have y_list := PySem.W.mg_none_of X G z_list
  have y_min := PySem.W.mg_none_of X G z_min
  have y_range := PySem.W.mg_none_of X G z_range
  have y_set := PySem.W.mg_none_of X G z_set
  have y_sorted := PySem.W.mg_none_of X G z_sorted
  refine ⟨PySem.W.fnOf "law" "law" (defArgs s_law) (defBody s_law) (defScope s_law) .none kV35 dc35 pm35 an35 cd35 ct35, fun s v => .of_eq rfl, fun base _ _ => ?_⟩
  have C12 := c__law_draws (P := l.prog) (mg := mg) (base := base) F12 m12 b12 y_abs y_int y_len y_range
  have C16 := c__law_gcd (P := l.prog) (mg := mg) (base := base) F16 m16 b16 y_abs y_range
  have C18 := c__law_chain_world (P := l.prog) (mg := mg) (base := base) F18 m18 b18 y_min C16
  have C19 := c__law_from (P := l.prog) (mg := mg) (base := base) F19 m19 b19 y_range y_sorted
  have C4 := c_chain_from (P := l.prog) (mg := mg) (base := base) F4 m4 b4 y_range y_sorted
  have C5 := c_chain_start (P := l.prog) (mg := mg) (base := base) F5 m5 b5 y_len C4
  have C13 := c__law_is_number (P := l.prog) (mg := mg) (base := base) F13 m13 b13 y_bool y_int y_isinstance
  have C21 := c__law_asks_start (P := l.prog) (mg := mg) (base := base) F21 m21 b21 y_list C5 C13
  have C2 := c_shifted (P := l.prog) (mg := mg) (base := base) F2 m2 b2 y_sorted
  have C14 := c__law_is_numbers (P := l.prog) (mg := mg) (base := base) F14 m14 b14 y_isinstance y_len y_list C13
  have C15 := c__law_same_numbers (P := l.prog) (mg := mg) (base := base) F15 m15 b15 y_len y_range C14
  have C0 := c_chain_scale (P := l.prog) (mg := mg) (base := base) F0 m0 b0 y_range y_set y_sorted
  have C17 := c__law_unlike (P := l.prog) (mg := mg) (base := base) F17 m17 b17 y_len y_sorted
  have C20 := c__law_start (P := l.prog) (mg := mg) (base := base) F20 m20 b20 y_len C19
  have C3 := c_shared (P := l.prog) (mg := mg) (base := base) F3 m3 b3
  have C22 := c__law_asks_pair (P := l.prog) (mg := mg) (base := base) F22 m22 b22 y_list y_sorted C3 C15 C2
  have C23 := c__law_first (P := l.prog) (mg := mg) (base := base) F23 m23 b23 y_list y_min y_range y_sorted C12 C18 C19 C21 C2 C15 C0 C17 C20 C22
  have C6 := c_rotated_gaps (P := l.prog) (mg := mg) (base := base) F6 m6 b6 y_len
  have C27 := c__law_rotated (P := l.prog) (mg := mg) (base := base) F27 m27 b27 y_len y_range
  have C24 := c__law_sums (P := l.prog) (mg := mg) (base := base) F24 m24 b24
  have C9 := c_notes_of (P := l.prog) (mg := mg) (base := base) F9 m9 b9
  have C31 := c__law_asks_rotations (P := l.prog) (mg := mg) (base := base) F31 m31 b31 y_list C6 C15 C27 C24 C9
  have C28 := c__law_count (P := l.prog) (mg := mg) (base := base) F28 m28 b28 y_len y_range C27
  have C7 := c_mode_count (P := l.prog) (mg := mg) (base := base) F7 m7 b7 C6
  have C8 := c_modes (P := l.prog) (mg := mg) (base := base) F8 m8 b8 y_range C6 C7
  have C10 := c_brightest (P := l.prog) (mg := mg) (base := base) F10 m10 b10 y_len y_range C9 C6
  have C29 := c__law_brighter (P := l.prog) (mg := mg) (base := base) F29 m29 b29 y_len y_range
  have C30 := c__law_brightest (P := l.prog) (mg := mg) (base := base) F30 m30 b30 y_len y_range C29 C24 C27
  have C32 := c__law_asks_modes (P := l.prog) (mg := mg) (base := base) F32 m32 b32 y_isinstance y_len y_list y_range C28 C7 C13 C8 C15 C27 C10 C30
  have C26 := c__law_gaps (P := l.prog) (mg := mg) (base := base) F26 m26 b26 y_len y_range
  have C1 := c_gaps (P := l.prog) (mg := mg) (base := base) F1 m1 b1 y_len y_range
  have C11 := c_mode_from (P := l.prog) (mg := mg) (base := base) F11 m11 b11 C2
  have C33 := c__law_asks_scale (P := l.prog) (mg := mg) (base := base) F33 m33 b33 y_len y_list y_range C26 C15 C1 C9 C24 C27 C11 C6 C32
  have C25 := c__law_chain (P := l.prog) (mg := mg) (base := base) F25 m25 b25 y_range y_sorted
  have C34 := c__law_second (P := l.prog) (mg := mg) (base := base) F34 m34 b34 y_len y_min y_range C12 C31 C32 C18 C33 C25 C17
  exact ok_law F35 C23 C34
end KM
open PySem PySem.W PyProof.Rows
set_option maxHeartbeats 0 in
theorem PySem.Challenge.cw_keystuned_k69_shifted_and_shared_holds : PySem.Challenge.rw_keystuned_k69_shifted_and_shared.Holds := by
  w_on; o_law; k_head; (case hw => w_witness2)
  k_fill
  refine L2.walk_ofB (l := PySem.Challenge.rw_keystuned_k69_shifted_and_shared) (n := 63) (k := 7) (x := "script") (CX := fun _ => L2.CX0) (sp := fun w => @KT.spOf ⟨w⟩ _ 1 KM.w_law) rfl (by decide) rfl ⟨rfl, by decide, by decide⟩ (fun w h Y => PySem.W.kIn_of Y) ?F (fun w H a ns hl hb hO hS => @KT.law_sp ⟨w⟩ _ _ (@KM.law_holds ⟨w⟩) H a ns hl hb hO hS) (fun _ _ _ _ _ h => h)
  case F =>
    intro w mg fa h KX G hmg
    letI : KT.WT := ⟨w⟩
    refine' KM.all_mk KX G hmg ?a0 ?l0 ?c0 ?k0 ?a1 ?l1 ?c1 ?k1 ?a2 ?l2 ?c2 ?k2 ?a3 ?l3 ?c3 ?k3 ?a4 ?l4 ?c4 ?k4 ?a5 ?l5 ?c5 ?k5 ?a6 ?l6 ?c6 ?k6 ?a7 ?l7 ?c7 ?k7 ?a8 ?l8 ?c8 ?k8 ?a9 ?l9 ?c9 ?k9 ?a10 ?l10 ?c10 ?k10 ?a11 ?l11 ?c11 ?k11 ?a12 ?l12 ?c12 ?k12 ?a13 ?l13 ?c13 ?k13 ?a14 ?l14 ?c14 ?k14 ?a15 ?l15 ?c15 ?k15 ?a16 ?l16 ?c16 ?k16 ?a17 ?l17 ?c17 ?k17 ?a18 ?l18 ?c18 ?k18 ?a19 ?l19 ?c19 ?k19 ?a20 ?l20 ?c20 ?k20 ?a21 ?l21 ?c21 ?k21 ?a22 ?l22 ?c22 ?k22 ?a23 ?l23 ?c23 ?k23 ?a24 ?l24 ?c24 ?k24 ?a25 ?l25 ?c25 ?k25 ?a26 ?l26 ?c26 ?k26 ?a27 ?l27 ?c27 ?k27 ?a28 ?l28 ?c28 ?k28 ?a29 ?l29 ?c29 ?k29 ?a30 ?l30 ?c30 ?k30 ?a31 ?l31 ?c31 ?k31 ?a32 ?l32 ?c32 ?k32 ?a33 ?l33 ?c33 ?k33 ?a34 ?l34 ?c34 ?k34 ?a35 ?l35 ?c35 ?k35 ?z_abs ?z_bool ?z_int ?z_isinstance ?z_len ?z_list ?z_min ?z_range ?z_set ?z_sorted
    (case a0 => k_is); (case l0 => k_is); (case c0 => k_is); (case k0 => k_is); (case a1 => k_is); (case l1 => k_is); (case c1 => k_is); (case k1 => k_is); (case a2 => k_is); (case l2 => k_is); (case c2 => k_is); (case k2 => k_is); (case a3 => k_is); (case l3 => k_is); (case c3 => k_is); (case k3 => k_is); (case a4 => k_is); (case l4 => k_is); (case c4 => k_is); (case k4 => k_is); (case a5 => k_is); (case l5 => k_is); (case c5 => k_is); (case k5 => k_is); (case a6 => k_is); (case l6 => k_is); (case c6 => k_is); (case k6 => k_is); (case a7 => k_is); (case l7 => k_is); (case c7 => k_is); (case k7 => k_is); (case a8 => k_is); (case l8 => k_is); (case c8 => k_is); (case k8 => k_is); (case a9 => k_is); (case l9 => k_is); (case c9 => k_is); (case k9 => k_is); (case a10 => k_is); (case l10 => k_is); (case c10 => k_is); (case k10 => k_is); (case a11 => k_is); (case l11 => k_is); (case c11 => k_is); (case k11 => k_is); (case a12 => k_is); (case l12 => k_is); (case c12 => k_is); (case k12 => k_is); (case a13 => k_is); (case l13 => k_is); (case c13 => k_is); (case k13 => k_is); (case a14 => k_is); (case l14 => k_is); (case c14 => k_is); (case k14 => k_is); (case a15 => k_is); (case l15 => k_is); (case c15 => k_is); (case k15 => k_is); (case a16 => k_is); (case l16 => k_is); (case c16 => k_is); (case k16 => k_is); (case a17 => k_is); (case l17 => k_is); (case c17 => k_is); (case k17 => k_is); (case a18 => k_is); (case l18 => k_is); (case c18 => k_is); (case k18 => k_is); (case a19 => k_is); (case l19 => k_is); (case c19 => k_is); (case k19 => k_is); (case a20 => k_is); (case l20 => k_is); (case c20 => k_is); (case k20 => k_is); (case a21 => k_is); (case l21 => k_is); (case c21 => k_is); (case k21 => k_is); (case a22 => k_is); (case l22 => k_is); (case c22 => k_is); (case k22 => k_is); (case a23 => k_is); (case l23 => k_is); (case c23 => k_is); (case k23 => k_is); (case a24 => k_is); (case l24 => k_is); (case c24 => k_is); (case k24 => k_is); (case a25 => k_is); (case l25 => k_is); (case c25 => k_is); (case k25 => k_is); (case a26 => k_is); (case l26 => k_is); (case c26 => k_is); (case k26 => k_is); (case a27 => k_is); (case l27 => k_is); (case c27 => k_is); (case k27 => k_is); (case a28 => k_is); (case l28 => k_is); (case c28 => k_is); (case k28 => k_is); (case a29 => k_is); (case l29 => k_is); (case c29 => k_is); (case k29 => k_is); (case a30 => k_is); (case l30 => k_is); (case c30 => k_is); (case k30 => k_is); (case a31 => k_is); (case l31 => k_is); (case c31 => k_is); (case k31 => k_is); (case a32 => k_is); (case l32 => k_is); (case c32 => k_is); (case k32 => k_is); (case a33 => k_is); (case l33 => k_is); (case c33 => k_is); (case k33 => k_is); (case a34 => k_is); (case l34 => k_is); (case c34 => k_is); (case k34 => k_is); (case a35 => k_is); (case l35 => k_is); (case c35 => k_is); (case k35 => k_is); (case z_abs => k_is); (case z_bool => k_is); (case z_int => k_is); (case z_isinstance => k_is); (case z_len => k_is); (case z_list => k_is); (case z_min => k_is); (case z_range => k_is); (case z_set => k_is); (case z_sorted => k_is)
