import PyProof.Rows.All
import Wide.All
import OpenK.AllK
import Wide.FinOn
import HandS.ForMost
import HandS.ForExc
import HandS.Sort
import HandS.SortInts
import HandS.WideBits
import HandS.IsInst
import HandS.Codes
import HandS.Style
import HandS.Flow
import HandS.TupAny
import KE.DataEq
import KE.DataIsa
import KE.DataAny
import KE.DataMinMax
import KE.SortData
import KE.SortKeyHeap
import KE.DataFind
import HandS.More
import HandS.Defaults
import HandS.Head0
import HandS.Head1
import HandS.Head2
import HandS.HeadEnd
import HandS.HeadHook1
import HandS.HeadHook2
import KE.IntBitsLaws
import HandS.Zip
import HandS.Iter
import HandS.Text
import KE.KDictPairs
import HandS.Conv
import KE.GoesMore
import PySem.Challenge.RW_tinrecall_k26_cases_beyond_counting
set_option Elab.async false
set_option linter.all false
set_option maxRecDepth 100000
set_option maxHeartbeats 2000000
namespace Mv
open PySem PySem.Spec PyProof.Rows L2

abbrev D := PyData
/-- an owned tree: frozen data, a list of one's own of frozen data, a dict, an instance -/
inductive O where
  | leaf (t : D)
  | ls (ts : List D)
  | dic (kvs : List (Key × O))
  | dct (kvs : List (List Key × O))
  | obj (C : Addr) (fs : List (Str × O))

def keyD : Key → D
  | .inl i => .int i
  | .inr x => .str x
def tupD (ks : List Key) : D := .tuple (ks.map keyD)

/-- a list to be read: tracked, locked, or of the written part, bare -/
def LsAt (K : PySem.W.Frag) (S : Hp) (a : Addr) (vs : List V) : Prop :=
  Rd S a (.lst vs) ∨ ∃ (its : List Value) (n : Nat), Vals vs its ∧ vs.length ≤ sizeLine ∧ K.lookup a = some { cls := .type "list", data := .seq its.toArray n }
theorem LsAt.sq {K : PySem.W.Frag} {S : Hp} {a : Addr} {vs : List V} (h : LsAt K S a vs) : SqL K S a vs := by
  rcases h with h | ⟨its, n, r, z, h⟩
  · exact .inl h
  · exact .inr ⟨_, its.toArray, n, h, rfl, rfl, rfl, by rw [List.size_toArray, ← r.length]; exact z, by simpa using r⟩
theorem LsAt.of {K : PySem.W.Frag} {S : Hp} {a : Addr} {vs : List V} (h : S a = some (.lst vs)) : LsAt K S a vs := .inl (.inl h)
abbrev TupAt (_K : PySem.W.Frag) (S : Hp) (a : Addr) (vs : List V) : Prop := S a = some (.tup vs)
section
variable (K : PySem.W.Frag) (S : Hp)
mutual
/-- v stands for the frozen data t -/
def Fz : D → V → Prop
  | .none, v => v = .non
  | .bool b, v => v = .bl b
  | .int i, v => v = .int i
  | .str x, v => v = .str x
  | .list ts, v => ∃ a vs, v = .ref a ∧ LsAt K S a vs ∧ FzL ts vs
  | .tuple ts, v => ∃ a vs, v = .ref a ∧ TupAt K S a vs ∧ FzL ts vs
  | .dict kvs, v => ∃ a, v = .ref a ∧ ((∃ vs, FzK kvs vs ∧ Rd S a (.dK vs)) ∨ (∃ vs, FzT kvs vs ∧ Rd S a (.dT vs)))
def FzL : List D → List V → Prop
  | [], vs => vs = []
  | t :: ts, vs => ∃ v r, vs = v :: r ∧ Fz t v ∧ FzL ts r
def FzK : List (D × D) → List (Key × V) → Prop
  | [], vs => vs = []
  | (k, t) :: ts, vs => ∃ k' v r, vs = (k', v) :: r ∧ k = keyD k' ∧ Fz t v ∧ FzK ts r
def FzT : List (D × D) → List (List Key × V) → Prop
  | [], vs => vs = []
  | (k, t) :: ts, vs => ∃ k' v r, vs = (k', v) :: r ∧ k = tupD k' ∧ Fz t v ∧ FzT ts r
end
end

section
variable {K : PySem.W.Frag} {S S' H H' : Hp}
theorem rd_same (e : Same S S') {a : Addr} {u : HO} (h : Rd S a u) : Rd S' a u := by
  rcases h with h | ⟨o, h⟩
  · exact .inl (e _ _ h)
  · exact .inr ⟨o, e _ _ h⟩
theorem ls_same (e : Same S S') {a : Addr} {vs : List V} (h : LsAt K S a vs) : LsAt K S' a vs := by
  rcases h with h | h
  · exact .inl (rd_same e h)
  · exact .inr h
theorem sqt_same (e : Same S S') {a : Addr} {vs : List V} (h : SqT K S a vs) : SqT K S' a vs := by
  rcases h with h | h
  · exact .inl (rd_same e h)
  · exact .inr h
mutual
theorem Fz.same (e : Same S S') : ∀ {t : D} {v : V}, Fz K S t v → Fz K S' t v
  | .none, _, h => h
  | .bool _, _, h => h
  | .int _, _, h => h
  | .str _, _, h => h
  | .list ts, v, h => by
    simp only [Fz] at h ⊢
    obtain ⟨a, vs, e1, h1, h2⟩ := h
    exact ⟨a, vs, e1, ls_same e h1, FzL.same e h2⟩
  | .tuple ts, v, h => by
    simp only [Fz] at h ⊢
    obtain ⟨a, vs, e1, h1, h2⟩ := h
    exact ⟨a, vs, e1, e _ _ h1, FzL.same e h2⟩
  | .dict kvs, v, h => by
    simp only [Fz] at h ⊢
    obtain ⟨a, e1, h2⟩ := h
    refine ⟨a, e1, ?_⟩
    rcases h2 with ⟨ks, h2, h3⟩ | ⟨ks, h2, h3⟩
    · exact .inl ⟨ks, FzK.same e h2, rd_same e h3⟩
    · exact .inr ⟨ks, FzT.same e h2, rd_same e h3⟩
theorem FzL.same (e : Same S S') : ∀ {ts : List D} {vs : List V}, FzL K S ts vs → FzL K S' ts vs
  | [], _, h => h
  | t :: ts, vs, h => by
    simp only [FzL] at h ⊢
    obtain ⟨v, r, e1, h1, h2⟩ := h
    exact ⟨v, r, e1, Fz.same e h1, FzL.same e h2⟩
theorem FzK.same (e : Same S S') : ∀ {ts : List (D × D)} {vs : List (Key × V)}, FzK K S ts vs → FzK K S' ts vs
  | [], _, h => h
  | (k, t) :: ts, vs, h => by
    simp only [FzK] at h ⊢
    obtain ⟨k', v, r, e1, e2, h1, h2⟩ := h
    exact ⟨k', v, r, e1, e2, Fz.same e h1, FzK.same e h2⟩
theorem FzT.same (e : Same S S') : ∀ {ts : List (D × D)} {vs : List (List Key × V)}, FzT K S ts vs → FzT K S' ts vs
  | [], _, h => h
  | (k, t) :: ts, vs, h => by
    simp only [FzT] at h ⊢
    obtain ⟨k', v, r, e1, e2, h1, h2⟩ := h
    exact ⟨k', v, r, e1, e2, Fz.same e h1, FzT.same e h2⟩
end
theorem FzL.len : ∀ {ts : List D} {vs : List V}, FzL K S ts vs → vs.length = ts.length
  | [], vs, h => by simp only [FzL] at h; subst h; rfl
  | t :: ts, vs, h => by
    simp only [FzL] at h
    obtain ⟨v, r, e1, h1, h2⟩ := h
    subst e1
    simp [FzL.len h2]
theorem FzL.get : ∀ {ts : List D} {vs : List V} {i : Nat} {t : D}, FzL K S ts vs → ts[i]? = some t → ∃ v, vs[i]? = some v ∧ Fz K S t v
  | [], _, _, _, _, h => by simp at h
  | t :: ts, vs, 0, t', h, e => by
    simp only [FzL] at h
    obtain ⟨v, r, e1, h1, h2⟩ := h
    subst e1
    simp at e
    subst e
    exact ⟨v, rfl, h1⟩
  | t :: ts, vs, i + 1, t', h, e => by
    simp only [FzL] at h
    obtain ⟨v, r, e1, h1, h2⟩ := h
    subst e1
    simp only [List.getElem?_cons_succ] at e ⊢
    exact FzL.get h2 e
theorem FzL.cons {t : D} {ts : List D} {v : V} {vs : List V} (h : Fz K S t v) (h2 : FzL K S ts vs) : FzL K S (t :: ts) (v :: vs) := by
  simp only [FzL]
  exact ⟨v, vs, rfl, h, h2⟩
theorem FzL.nil : FzL K S [] [] := by simp only [FzL]
theorem FzL.inv {t : D} {ts : List D} {vs : List V} (h : FzL K S (t :: ts) vs) : ∃ v r, vs = v :: r ∧ Fz K S t v ∧ FzL K S ts r := by
  simp only [FzL] at h
  exact h
theorem FzL.nilE {vs : List V} (h : FzL K S [] vs) : vs = [] := by
  simp only [FzL] at h
  exact h
theorem FzL.append : ∀ {ts us : List D} {vs ws : List V}, FzL K S ts vs → FzL K S us ws → FzL K S (ts ++ us) (vs ++ ws)
  | [], _, vs, _, h, g => by
    have e := h.nilE
    subst e
    exact g
  | t :: ts, us, vs, ws, h, g => by
    obtain ⟨v, r, rfl, h1, h2⟩ := h.inv
    exact FzL.cons h1 (FzL.append h2 g)
theorem FzL.take : ∀ {ts : List D} {vs : List V} (n : Nat), FzL K S ts vs → FzL K S (ts.take n) (vs.take n)
  | [], vs, n, h => by
    have e := h.nilE
    subst e
    rw [List.take_nil, List.take_nil]
    exact FzL.nil
  | t :: ts, vs, 0, h => by exact FzL.nil
  | t :: ts, vs, n + 1, h => by
    obtain ⟨v, r, rfl, h1, h2⟩ := h.inv
    exact FzL.cons h1 (FzL.take n h2)
theorem FzL.drop : ∀ {ts : List D} {vs : List V} (n : Nat), FzL K S ts vs → FzL K S (ts.drop n) (vs.drop n)
  | [], vs, n, h => by
    have e := h.nilE
    subst e
    rw [List.drop_nil, List.drop_nil]
    exact FzL.nil
  | t :: ts, vs, 0, h => by exact h
  | t :: ts, vs, n + 1, h => by
    obtain ⟨v, r, rfl, h1, h2⟩ := h.inv
    exact FzL.drop n h2
theorem FzL.set : ∀ {ts : List D} {vs : List V} (n : Nat) {t : D} {v : V}, FzL K S ts vs → Fz K S t v → FzL K S (ts.set n t) (vs.set n v)
  | [], vs, n, t, v, h, g => by
    have e := h.nilE
    subst e
    exact FzL.nil
  | x :: ts, vs, 0, t, v, h, g => by
    obtain ⟨w, r, rfl, h1, h2⟩ := h.inv
    exact FzL.cons g h2
  | x :: ts, vs, n + 1, t, v, h, g => by
    obtain ⟨w, r, rfl, h1, h2⟩ := h.inv
    exact FzL.cons h1 (FzL.set n h2 g)
theorem FzL.eraseIdx : ∀ {ts : List D} {vs : List V} (n : Nat), FzL K S ts vs → FzL K S (ts.eraseIdx n) (vs.eraseIdx n)
  | [], vs, n, h => by
    have e := h.nilE
    subst e
    exact FzL.nil
  | x :: ts, vs, 0, h => by
    obtain ⟨w, r, rfl, h1, h2⟩ := h.inv
    exact h2
  | x :: ts, vs, n + 1, h => by
    obtain ⟨w, r, rfl, h1, h2⟩ := h.inv
    exact FzL.cons h1 (FzL.eraseIdx n h2)
theorem FzL.reverse : ∀ {ts : List D} {vs : List V}, FzL K S ts vs → FzL K S ts.reverse vs.reverse
  | [], vs, h => by
    have e := h.nilE
    subst e
    exact FzL.nil
  | x :: ts, vs, h => by
    obtain ⟨w, r, rfl, h1, h2⟩ := h.inv
    rw [List.reverse_cons, List.reverse_cons]
    exact (FzL.reverse h2).append (FzL.cons h1 FzL.nil)
theorem FzL.of_get : ∀ {ts : List D} {vs : List V}, ts.length = vs.length → (∀ (i : Nat) t v, ts[i]? = some t → vs[i]? = some v → Fz K S t v) → FzL K S ts vs
  | [], [], _, _ => FzL.nil
  | [], _ :: _, e, _ => by simp at e
  | _ :: _, [], e, _ => by simp at e
  | t :: ts, v :: vs, e, h => FzL.cons (h 0 t v rfl rfl) (FzL.of_get (by simpa using e) fun i t' v' h1 h2 => h (i + 1) t' v' (by simpa using h1) (by simpa using h2))
theorem FzL.mem_back : ∀ {ts : List D} {vs : List V}, FzL K S ts vs → ∀ v ∈ vs, ∃ t ∈ ts, Fz K S t v
  | [], vs, h => by
    have e := h.nilE
    subst e
    intro v hv
    cases hv
  | x :: ts, vs, h => by
    obtain ⟨w, r, rfl, h1, h2⟩ := h.inv
    intro v hv
    rcases List.mem_cons.mp hv with rfl | hv
    · exact ⟨x, List.mem_cons_self, h1⟩
    · obtain ⟨t, m, q⟩ := FzL.mem_back h2 v hv
      exact ⟨t, List.mem_cons_of_mem _ m, q⟩
theorem fz_ints : ∀ {ns : List Int} {vs : List V}, FzL K S (ns.map .int) vs → vs = ns.map V.int
  | [], vs, h => h.nilE
  | n :: ns, vs, h => by
    obtain ⟨v, r, rfl, h1, h2⟩ := h.inv
    have e : v = .int n := by simpa only [Fz] using h1
    rw [e, fz_ints h2]
    rfl
theorem fz_ints' : ∀ {ns : List Int}, FzL K S (ns.map .int) (ns.map V.int)
  | [] => FzL.nil
  | n :: ns => FzL.cons (by simp only [Fz]) fz_ints'
theorem fz_bls : ∀ {ns : List Bool} {vs : List V}, FzL K S (ns.map .bool) vs → vs = ns.map V.bl
  | [], vs, h => h.nilE
  | n :: ns, vs, h => by
    obtain ⟨v, r, rfl, h1, h2⟩ := h.inv
    have e : v = .bl n := by simpa only [Fz] using h1
    rw [e, fz_bls h2]
    rfl
theorem fz_strs : ∀ {ns : List Str} {vs : List V}, FzL K S (ns.map .str) vs → vs = ns.map V.str
  | [], vs, h => h.nilE
  | n :: ns, vs, h => by
    obtain ⟨v, r, rfl, h1, h2⟩ := h.inv
    have e : v = .str n := by simpa only [Fz] using h1
    rw [e, fz_strs h2]
    rfl
theorem fz_strs' : ∀ {ns : List Str}, FzL K S (ns.map .str) (ns.map V.str)
  | [] => FzL.nil
  | n :: ns => FzL.cons (by simp only [Fz]) fz_strs'
end

section
variable (K : PySem.W.Frag) (S H : Hp)
mutual
/-- v stands for the owned tree o, whose own objects are those at fp -/
def Ow : O → V → List Addr → Prop
  | .leaf t, v, fp => fp = [] ∧ Fz K S t v
  | .ls ts, v, fp => ∃ a vs, v = .ref a ∧ H a = some (.lst vs) ∧ fp = [a] ∧ FzL K S ts vs
  | .dic kvs, v, fp => ∃ a vs fr, v = .ref a ∧ fp = a :: fr ∧ OwK kvs vs fr ∧ H a = some (.dK vs)
  | .dct kvs, v, fp => ∃ a vs fr, v = .ref a ∧ fp = a :: fr ∧ OwT kvs vs fr ∧ H a = some (.dT vs)
  | .obj C fs, v, fp => ∃ a dx vs fr, v = .ref a ∧ fp = a :: dx :: fr ∧ OwF fs vs fr ∧ H a = some (.ins C dx vs) ∧ H dx = some (.own a)
def OwK : List (Key × O) → List (Key × V) → List Addr → Prop
  | [], vs, fr => vs = [] ∧ fr = []
  | (k, o) :: r, vs, fr => ∃ v vr f1 f2, vs = (k, v) :: vr ∧ fr = f1 ++ f2 ∧ Ow o v f1 ∧ OwK r vr f2
def OwT : List (List Key × O) → List (List Key × V) → List Addr → Prop
  | [], vs, fr => vs = [] ∧ fr = []
  | (k, o) :: r, vs, fr => ∃ v vr f1 f2, vs = (k, v) :: vr ∧ fr = f1 ++ f2 ∧ Ow o v f1 ∧ OwT r vr f2
def OwF : List (Str × O) → List (Str × V) → List Addr → Prop
  | [], vs, fr => vs = [] ∧ fr = []
  | (k, o) :: r, vs, fr => ∃ v vr f1 f2, vs = (k, v) :: vr ∧ fr = f1 ++ f2 ∧ Ow o v f1 ∧ OwF r vr f2
end
end

section
variable {K : PySem.W.Frag} {S S' H H' : Hp}
mutual
/-- kept where its own objects stand and the frozen ones stay -/
theorem Ow.keep (es : Same S S') : ∀ {o : O} {v : V} {fp : List Addr}, (∀ a ∈ fp, H' a = H a) → Ow K S H o v fp → Ow K S' H' o v fp
  | .leaf t, v, fp, k, h => by
    simp only [Ow] at h ⊢
    exact ⟨h.1, h.2.same es⟩
  | .ls ts, v, fp, k, h => by
    simp only [Ow] at h ⊢
    obtain ⟨a, vs, e1, h1, e2, h2⟩ := h
    exact ⟨a, vs, e1, (k a (by rw [e2]; exact List.mem_cons_self)).trans h1, e2, h2.same es⟩
  | .dic kvs, v, fp, k, h => by
    simp only [Ow] at h ⊢
    obtain ⟨a, vs, fr, e1, e2, h1, h2⟩ := h
    exact ⟨a, vs, fr, e1, e2, OwK.keep es (fun b hb => k b (by rw [e2]; exact List.mem_cons_of_mem _ hb)) h1, (k a (by rw [e2]; exact List.mem_cons_self)).trans h2⟩
  | .dct kvs, v, fp, k, h => by
    simp only [Ow] at h ⊢
    obtain ⟨a, vs, fr, e1, e2, h1, h2⟩ := h
    exact ⟨a, vs, fr, e1, e2, OwT.keep es (fun b hb => k b (by rw [e2]; exact List.mem_cons_of_mem _ hb)) h1, (k a (by rw [e2]; exact List.mem_cons_self)).trans h2⟩
  | .obj C fs, v, fp, k, h => by
    simp only [Ow] at h ⊢
    obtain ⟨a, dx, vs, fr, e1, e2, h1, h2, h3⟩ := h
    exact ⟨a, dx, vs, fr, e1, e2, OwF.keep es (fun b hb => k b (by rw [e2]; exact List.mem_cons_of_mem _ (List.mem_cons_of_mem _ hb))) h1,
      (k a (by rw [e2]; exact List.mem_cons_self)).trans h2, (k dx (by rw [e2]; exact List.mem_cons_of_mem _ List.mem_cons_self)).trans h3⟩
theorem OwK.keep (es : Same S S') : ∀ {kvs : List (Key × O)} {vs : List (Key × V)} {fp : List Addr}, (∀ a ∈ fp, H' a = H a) → OwK K S H kvs vs fp → OwK K S' H' kvs vs fp
  | [], vs, fp, k, h => by
    simp only [OwK] at h ⊢
    exact h
  | (_, o) :: r, vs, fp, k, h => by
    simp only [OwK] at h ⊢
    obtain ⟨v, vr, f1, f2, e1, e2, h1, h2⟩ := h
    exact ⟨v, vr, f1, f2, e1, e2, Ow.keep es (fun a ha => k a (by rw [e2]; exact List.mem_append_left _ ha)) h1, OwK.keep es (fun a ha => k a (by rw [e2]; exact List.mem_append_right _ ha)) h2⟩
theorem OwT.keep (es : Same S S') : ∀ {kvs : List (List Key × O)} {vs : List (List Key × V)} {fp : List Addr}, (∀ a ∈ fp, H' a = H a) → OwT K S H kvs vs fp → OwT K S' H' kvs vs fp
  | [], vs, fp, k, h => by
    simp only [OwT] at h ⊢
    exact h
  | (_, o) :: r, vs, fp, k, h => by
    simp only [OwT] at h ⊢
    obtain ⟨v, vr, f1, f2, e1, e2, h1, h2⟩ := h
    exact ⟨v, vr, f1, f2, e1, e2, Ow.keep es (fun a ha => k a (by rw [e2]; exact List.mem_append_left _ ha)) h1, OwT.keep es (fun a ha => k a (by rw [e2]; exact List.mem_append_right _ ha)) h2⟩
theorem OwF.keep (es : Same S S') : ∀ {kvs : List (Str × O)} {vs : List (Str × V)} {fp : List Addr}, (∀ a ∈ fp, H' a = H a) → OwF K S H kvs vs fp → OwF K S' H' kvs vs fp
  | [], vs, fp, k, h => by
    simp only [OwF] at h ⊢
    exact h
  | (_, o) :: r, vs, fp, k, h => by
    simp only [OwF] at h ⊢
    obtain ⟨v, vr, f1, f2, e1, e2, h1, h2⟩ := h
    exact ⟨v, vr, f1, f2, e1, e2, Ow.keep es (fun a ha => k a (by rw [e2]; exact List.mem_append_left _ ha)) h1, OwF.keep es (fun a ha => k a (by rw [e2]; exact List.mem_append_right _ ha)) h2⟩
end
mutual
theorem Ow.some : ∀ {o : O} {v : V} {fp : List Addr}, Ow K S H o v fp → ∀ a ∈ fp, H a ≠ none
  | .leaf t, v, fp, h => by
    simp only [Ow] at h
    rw [h.1]
    intro a ha
    cases ha
  | .ls ts, v, fp, h => by
    simp only [Ow] at h
    obtain ⟨a, vs, e1, h1, e2, h2⟩ := h
    rw [e2]
    intro b hb
    rw [List.mem_singleton.mp hb, h1]
    exact fun z => nomatch z
  | .dic kvs, v, fp, h => by
    simp only [Ow] at h
    obtain ⟨a, vs, fr, e1, e2, h1, h2⟩ := h
    rw [e2]
    intro b hb
    rcases List.mem_cons.mp hb with rfl | hb
    · rw [h2]
      exact fun z => nomatch z
    · exact OwK.some h1 b hb
  | .dct kvs, v, fp, h => by
    simp only [Ow] at h
    obtain ⟨a, vs, fr, e1, e2, h1, h2⟩ := h
    rw [e2]
    intro b hb
    rcases List.mem_cons.mp hb with rfl | hb
    · rw [h2]
      exact fun z => nomatch z
    · exact OwT.some h1 b hb
  | .obj C fs, v, fp, h => by
    simp only [Ow] at h
    obtain ⟨a, dx, vs, fr, e1, e2, h1, h2, h3⟩ := h
    rw [e2]
    intro b hb
    rcases List.mem_cons.mp hb with rfl | hb
    · rw [h2]
      exact fun z => nomatch z
    · rcases List.mem_cons.mp hb with rfl | hb
      · rw [h3]
        exact fun z => nomatch z
      · exact OwF.some h1 b hb
theorem OwK.some : ∀ {kvs : List (Key × O)} {vs : List (Key × V)} {fp : List Addr}, OwK K S H kvs vs fp → ∀ a ∈ fp, H a ≠ none
  | [], vs, fp, h => by
    simp only [OwK] at h
    rw [h.2]
    intro a ha
    cases ha
  | (_, o) :: r, vs, fp, h => by
    simp only [OwK] at h
    obtain ⟨v, vr, f1, f2, e1, e2, h1, h2⟩ := h
    rw [e2]
    intro a ha
    rcases List.mem_append.mp ha with ha | ha
    · exact Ow.some h1 a ha
    · exact OwK.some h2 a ha
theorem OwT.some : ∀ {kvs : List (List Key × O)} {vs : List (List Key × V)} {fp : List Addr}, OwT K S H kvs vs fp → ∀ a ∈ fp, H a ≠ none
  | [], vs, fp, h => by
    simp only [OwT] at h
    rw [h.2]
    intro a ha
    cases ha
  | (_, o) :: r, vs, fp, h => by
    simp only [OwT] at h
    obtain ⟨v, vr, f1, f2, e1, e2, h1, h2⟩ := h
    rw [e2]
    intro a ha
    rcases List.mem_append.mp ha with ha | ha
    · exact Ow.some h1 a ha
    · exact OwT.some h2 a ha
theorem OwF.some : ∀ {kvs : List (Str × O)} {vs : List (Str × V)} {fp : List Addr}, OwF K S H kvs vs fp → ∀ a ∈ fp, H a ≠ none
  | [], vs, fp, h => by
    simp only [OwF] at h
    rw [h.2]
    intro a ha
    cases ha
  | (_, o) :: r, vs, fp, h => by
    simp only [OwF] at h
    obtain ⟨v, vr, f1, f2, e1, e2, h1, h2⟩ := h
    rw [e2]
    intro a ha
    rcases List.mem_append.mp ha with ha | ha
    · exact Ow.some h1 a ha
    · exact OwF.some h2 a ha
end
/-- .. where the heap only grows -/
theorem Ow.mono (es : Same S S') (eh : Same H H') {o : O} {v : V} {fp : List Addr} (h : Ow K S H o v fp) : Ow K S' H' o v fp :=
  h.keep es fun a ha => by
    cases q : H a with
    | none => exact absurd q (h.some a ha)
    | some o => exact eh a o q
theorem ow_leaf {t : D} {v : V} (h : Fz K S t v) : Ow K S H (.leaf t) v [] := by
  simp only [Ow]
  exact ⟨trivial, h⟩
theorem ow_leafE {t : D} {v : V} {fp : List Addr} (h : Ow K S H (.leaf t) v fp) : fp = [] ∧ Fz K S t v := by
  simp only [Ow] at h
  exact h
theorem ow_lsE {ts : List D} {v : V} {fp : List Addr} (h : Ow K S H (.ls ts) v fp) : ∃ a vs, v = .ref a ∧ H a = some (.lst vs) ∧ fp = [a] ∧ FzL K S ts vs := by
  simp only [Ow] at h
  exact h
theorem ow_ls {ts : List D} {a : Addr} {vs : List V} (h : H a = some (.lst vs)) (h2 : FzL K S ts vs) : Ow K S H (.ls ts) (.ref a) [a] := by
  simp only [Ow]
  exact ⟨a, vs, rfl, h, rfl, h2⟩
end

/-! ### the state: what the slots hold -/
abbrev Env := List (Option O)
structure Rel (K : PySem.W.Frag) (env : Env) (σ : L2.St) (S H : Hp) (fp : Nat → List Addr) : Prop where
  le : Same S H
  len : env.length = σ.length
  sl : ∀ (i : Nat) (o : O), env[i]? = some (some o) → ∃ v, σ[i]? = some (some v) ∧ Ow K S H o v (fp i)
  nd : ∀ i, (fp i).Nodup
  dj : ∀ i j a, a ∈ fp i → a ∈ fp j → i = j
  un : ∀ i a, a ∈ fp i → S a = none
  ins : ∀ i a, a ∈ fp i → H a ≠ none
/-- from one state to a later one -/
structure Evo (S H : Hp) (fp : Nat → List Addr) (S' H' : Hp) (fp' : Nat → List Addr) : Prop where
  sub : Same S S'
  keep : ∀ a, H a ≠ none → (∀ i, a ∉ fp i) → H' a = H a ∧ S' a = S a
  own : ∀ i a, a ∈ fp' i → H a = none ∨ ∃ j, a ∈ fp j
structure Fresh (S H : Hp) (fp : Nat → List Addr) (S' : Hp) (fp' : Nat → List Addr) (fr : List Addr) : Prop where
  nd : fr.Nodup
  src : ∀ a ∈ fr, H a = none ∨ ∃ j, a ∈ fp j
  off : ∀ a ∈ fr, ∀ i, a ∉ fp' i
  un : ∀ a ∈ fr, S' a = none
/-- heap and frozen part grow, what stands stays -/
structure Gr (S H S' H' : Hp) : Prop where
  sub : Same S S'
  grow : Same H H'
  le : Same S' H'
  un : ∀ a, H a ≠ none → S' a = S a
structure New (H S' : Hp) (fr : List Addr) : Prop where
  nd : fr.Nodup
  src : ∀ a ∈ fr, H a = none
  un : ∀ a ∈ fr, S' a = none

section
variable {K : PySem.W.Frag} {S S1 S2 S' H H1 H2 H' : Hp} {fp fp1 fp2 fp' : Nat → List Addr} {fr : List Addr} {env env' : Env} {σ : L2.St}
theorem Evo.refl (S H : Hp) (fp : Nat → List Addr) : Evo S H fp S H fp := ⟨Same.refl _, fun _ _ _ => ⟨rfl, rfl⟩, fun i _ h => .inr ⟨i, h⟩⟩
theorem Evo.back (e : Evo S H fp S1 H1 fp1) {a : Addr} (h : H1 a = none ∨ ∃ j, a ∈ fp1 j) : H a = none ∨ ∃ j, a ∈ fp j := by
  rcases h with h | ⟨j, h⟩
  · by_cases q : H a = none
    · exact .inl q
    · by_cases p : ∃ j, a ∈ fp j
      · exact .inr p
      · have := (e.keep a q fun i m => p ⟨i, m⟩).1
        rw [h] at this
        exact absurd this.symm q
  · exact e.own j a h
theorem Evo.trans (e : Evo S H fp S1 H1 fp1) (e2 : Evo S1 H1 fp1 S2 H2 fp2) : Evo S H fp S2 H2 fp2 := by
  refine ⟨e.sub.trans e2.sub, fun a ha hn => ?_, fun i a h => e.back (e2.own i a h)⟩
  obtain ⟨h1, h2⟩ := e.keep a ha hn
  have hn1 : ∀ i, a ∉ fp1 i := fun i m => by
    rcases e.own i a m with z | ⟨j, z⟩
    · exact ha z
    · exact hn j z
  obtain ⟨h3, h4⟩ := e2.keep a (by rw [h1]; exact ha) hn1
  exact ⟨h3.trans h1, h4.trans h2⟩
theorem Gr.refl (h : Same S H) : Gr S H S H := ⟨Same.refl _, Same.refl _, h, fun _ _ => rfl⟩
theorem same_ne (e : Same H H') {a : Addr} (h : H a ≠ none) : H' a = H a := by
  cases q : H a with
  | none => exact absurd q h
  | some o => exact e a o q
theorem Gr.trans (g : Gr S H S1 H1) (g2 : Gr S1 H1 S2 H2) : Gr S H S2 H2 :=
  ⟨g.sub.trans g2.sub, g.grow.trans g2.grow, g2.le, fun a h => (g2.un a (by rw [same_ne g.grow h]; exact h)).trans (g.un a h)⟩
theorem Gr.evo (g : Gr S H S' H') : Evo S H fp S' H' fp :=
  ⟨g.sub, fun a h _ => ⟨same_ne g.grow h, g.un a h⟩, fun i _ h => .inr ⟨i, h⟩⟩
theorem Rel.gr (r : Rel K env σ S H fp) (g : Gr S H S' H') : Rel K env σ S' H' fp :=
  ⟨g.le, r.len, fun i o h => by
    obtain ⟨v, e, w⟩ := r.sl i o h
    exact ⟨v, e, w.mono g.sub g.grow⟩, r.nd, r.dj, fun i a h => (g.un a (r.ins i a h)).trans (r.un i a h), fun i a h => by
    rw [same_ne g.grow (r.ins i a h)]
    exact r.ins i a h⟩
theorem New.fresh (n : New H S' fr) (r : ∀ i a, a ∈ fp i → H a ≠ none) : Fresh S H fp S' fp fr := ⟨n.nd, fun a h => .inl (n.src a h), fun a h i m => r i a m (n.src a h), n.un⟩
theorem Fresh.nil : Fresh S H fp S' fp' [] := ⟨List.nodup_nil, (by intro a h; cases h), (by intro a h; cases h), (by intro a h; cases h)⟩
theorem New.nil : New H S' [] := ⟨List.nodup_nil, (by intro a h; cases h), (by intro a h; cases h)⟩
/-- later: what was fresh ahead and lies apart is fresh behind -/
theorem Fresh.evo (f : Fresh S H fp S1 fp1 fr) (hin : ∀ a ∈ fr, H1 a ≠ none) (e2 : Evo S1 H1 fp1 S2 H2 fp2) : Fresh S H fp S2 fp2 fr :=
  ⟨f.nd, f.src, fun a h i m => by
    rcases e2.own i a m with z | ⟨j, z⟩
    · exact hin a h z
    · exact f.off a h j z, fun a h => ((e2.keep a (hin a h) (f.off a h)).2).trans (f.un a h)⟩
theorem Fresh.pre (e : Evo S H fp S1 H1 fp1) (f : Fresh S1 H1 fp1 S2 fp2 fr) : Fresh S H fp S2 fp2 fr := ⟨f.nd, fun a h => e.back (f.src a h), f.off, f.un⟩
theorem Ow.evo {o : O} {v : V} (h : Ow K S1 H1 o v fr) (off : ∀ a ∈ fr, ∀ i, a ∉ fp1 i) (e2 : Evo S1 H1 fp1 S2 H2 fp2) : Ow K S2 H2 o v fr :=
  h.keep e2.sub fun a ha => (e2.keep a (h.some a ha) (off a ha)).1
/-- a new object, frozen -/
theorem Gr.newS {p : Addr} {o : HO} (le : Same S H) (hp : H p = none) : Gr S H (upd S p o) (upd H p o) := by
  have sp : S p = none := le.free hp
  refine ⟨fun a u e => ?_, fun a u e => ?_, fun a u e => ?_, fun a h => ?_⟩
  · rw [upd_ne (ne_of_none e sp)]; exact e
  · rw [upd_ne (ne_of_none e hp)]; exact e
  · by_cases q : a = p
    · subst q
      rw [upd_same] at e ⊢
      exact e
    · rw [upd_ne q] at e ⊢
      exact le _ _ e
  · exact upd_ne fun z => h (by rw [z]; exact hp)
/-- a new object, one's own -/
theorem Gr.newH {p : Addr} {o : HO} (le : Same S H) (hp : H p = none) : Gr S H S (upd H p o) := by
  have sp : S p = none := le.free hp
  refine ⟨Same.refl _, fun a u e => ?_, fun a u e => ?_, fun a h => rfl⟩
  · rw [upd_ne (ne_of_none e hp)]; exact e
  · rw [upd_ne (ne_of_none (le _ _ e) hp)]
    exact le _ _ e
theorem New.one {p : Addr} (hp : H p = none) (sp : S' p = none) : New H S' [p] := ⟨by simp, fun a h => by rw [List.mem_singleton.mp h]; exact hp, fun a h => by rw [List.mem_singleton.mp h]; exact sp⟩
end
end Mv

set_option Elab.async false
set_option linter.all false
set_option maxRecDepth 100000
set_option maxHeartbeats 2000000
namespace Mv
open PySem PySem.Spec PyProof.Rows L2

abbrev ESem := Env → Option (O × Env)
abbrev TSem := Env → Option (Bool × Env)
abbrev ASem := Env → Option (List O × Env)
inductive Out where
  | nx | bk | ct | rt (o : O)
abbrev SSem := Env → Option (Out × Env)
def O.isLeaf : O → Bool
  | .leaf _ => true
  | _ => false

/-! ### expressions -/
def tE (K : PySem.W.Frag) (f : ESem) (q m : Bool) : TE := fun σ H Q => ∃ env S fp r env', Rel K env σ S H fp ∧ f env = some (r, env') ∧
  ∀ v S' H' fp' fr, Rel K env' σ S' H' fp' → Evo S H fp S' H' fp' → Ow K S' H' r v fr → (q = true → fp' = fp ∧ Same H H') → (m = true → Fresh S H fp S' fp' fr) → Q v H'
structure SE (X : Cx) (e : Expr) (f : ESem) (q m : Bool) : Prop where
  pe : PE X e (tE X.K f q m)
  qf : q = true → ∀ env r env', f env = some (r, env') → env' = env
def tT (K : PySem.W.Frag) (f : TSem) (q : Bool) : TT := fun σ H Q => ∃ env S fp b env', Rel K env σ S H fp ∧ f env = some (b, env') ∧
  ∀ S' H' fp', Rel K env' σ S' H' fp' → Evo S H fp S' H' fp' → (q = true → fp' = fp ∧ Same H H') → Q b H'
structure ST (X : Cx) (e : Expr) (f : TSem) (q : Bool) : Prop where
  pt : PT X e (tT X.K f q)
  qf : q = true → ∀ env r env', f env = some (r, env') → env' = env

theorem PE.imp {X : Cx} {e : Expr} {t t' : TE} (h : PE X e t) (i : ∀ σ H Q, t' σ H Q → t σ H Q) : PE X e t' := ⟨fun pins s σ H Q I hw => h.run pins s σ H Q I (i _ _ _ hw)⟩
theorem PT.imp {X : Cx} {e : Expr} {t t' : TT} (h : PT X e t) (i : ∀ σ H Q, t' σ H Q → t σ H Q) : PT X e t' := ⟨fun pins s σ H Q I hw => h.run pins s σ H Q I (i _ _ _ hw)⟩
theorem PW.imp {X : Cx} {e : Expr} {t t' : TT} (h : PW X e t) (i : ∀ σ H Q, t' σ H Q → t σ H Q) : PW X e t' := ⟨fun wh pins s σ H Q I hw => h.run wh pins s σ H Q I (i _ _ _ hw)⟩
theorem PA.imp {X : Cx} {e : List Expr} {t t' : TA} (h : PA X e t) (i : ∀ σ H Q, t' σ H Q → t σ H Q) : PA X e t' := ⟨fun pos pins s σ H Q I hw => h.run pos pins s σ H Q I (i _ _ _ hw)⟩
theorem PS.imp {X : Cx} {e : Stmt} {t t' : TS} (h : PS X e t) (i : ∀ D σ H, t' D σ H → t D σ H) : PS X e t' := ⟨fun pins s σ H D I hw => h.run pins s σ H D I (i _ _ _ hw)⟩
theorem PSs.imp {X : Cx} {e : List Stmt} {t t' : TS} (h : PSs X e t) (i : ∀ D σ H, t' D σ H → t D σ H) : PSs X e t' := ⟨fun pins s σ H D I hw => h.run pins s σ H D I (i _ _ _ hw)⟩
theorem PG.imp {X : Cx} {e : Expr} {t t' : TG} (h : PG X e t) (i : ∀ v σ H Q, t' v σ H Q → t v σ H Q) : PG X e t' := ⟨fun pins s σ H v u Q I r hw => h.run pins s σ H v u Q I r (i _ _ _ _ hw)⟩
theorem PGs.imp {X : Cx} {e : List Expr} {t t' : TGs} (h : PGs X e t) (i : ∀ v σ H Q, t' v σ H Q → t v σ H Q) : PGs X e t' := ⟨fun pins s σ H v u Q I r hw => h.run pins s σ H v u Q I r (i _ _ _ _ hw)⟩

def cstE (t : D) : ESem := fun env => some (.leaf t, env)
def varE (i : Nat) : ESem := fun env => match env[i]? with
  | some (some o) => some (o, env)
  | _ => none
def bin (ok : Bool) (f1 f2 : ESem) (g : O → O → Option O) : ESem := fun env => (f1 env).bind fun p => (f2 p.2).bind fun r =>
  if (ok || p.1.isLeaf) = true then (g p.1 r.1).map fun z => (z, r.2) else none
/-- the first one a name, looked at when the second is there -/
def binV (i : Nat) (f2 : ESem) (g : O → O → Option O) : ESem := fun env => match env[i]? with
  | some (some _) => (f2 env).bind fun r => match r.2[i]? with
    | some (some o) => (g o r.1).map fun z => (z, r.2)
    | _ => none
  | _ => none
def un (f : ESem) (g : O → Option O) : ESem := fun env => (f env).bind fun p => (g p.1).map fun z => (z, p.2)

section
variable {X : Cx} {e a b : Expr} {f f1 f2 : ESem} {q q1 q2 m m1 m2 ok : Bool} {pos : Pos}

theorem tE_val {K : PySem.W.Frag} {t : D} {v : V} {σ : L2.St} {H : Hp} {Q : VK} (h : ∀ S, Fz K S t v) (hw : tE K (cstE t) true true σ H Q) : tC v σ H Q := by
  obtain ⟨env, S, fp, r, env', R, he, k⟩ := hw
  cases he
  exact k v S H fp [] R (Evo.refl _ _ _) (ow_leaf (h S)) (fun _ => ⟨rfl, Same.refl _⟩) (fun _ => Fresh.nil)
theorem cst_qf {t : D} : true = true → ∀ env r env', cstE t env = some (r, env') → env' = env := by
  intro _ env r env' h
  cases h
  rfl
theorem se_int {i : Int} {j} : SE X (.Constant (.int i) j pos) (cstE (.int i)) true true := ⟨PE.imp pe_int fun _ _ _ h => tE_val (fun _ => by simp only [Fz]) h, cst_qf⟩
theorem se_bl {i : Bool} {j} : SE X (.Constant (.bool i) j pos) (cstE (.bool i)) true true := ⟨PE.imp pe_bl fun _ _ _ h => tE_val (fun _ => by simp only [Fz]) h, cst_qf⟩
theorem se_str {i : Str} {j} : SE X (.Constant (.str i) j pos) (cstE (.str i)) true true := ⟨PE.imp pe_str fun _ _ _ h => tE_val (fun _ => by simp only [Fz]) h, cst_qf⟩
theorem se_non {j} : SE X (.Constant .none j pos) (cstE .none) true true := ⟨PE.imp pe_non fun _ _ _ h => tE_val (fun _ => by simp only [Fz]) h, cst_qf⟩

theorem varE_some {i : Nat} {env env' : Env} {o : O} (h : varE i env = some (o, env')) : env[i]? = some (some o) ∧ env' = env := by
  unfold varE at h
  split at h
  · rename_i o' e
    cases h
    exact ⟨e, rfl⟩
  · cases h
theorem se_pv {i : Nat} (hp : PE X e (tVar i)) : SE X e (varE i) true false := by
  refine ⟨PE.imp hp fun σ H Q h => ?_, fun _ env r env' h => (varE_some h).2⟩
  obtain ⟨env, S, fp, r, env', R, he, k⟩ := h
  obtain ⟨e1, rfl⟩ := varE_some he
  obtain ⟨v, e2, w⟩ := R.sl i r e1
  exact ⟨v, e2, k v S H fp (fp i) R (Evo.refl _ _ _) w (fun _ => ⟨rfl, Same.refl _⟩) (fun z => nomatch z)⟩

/-! ### two operands -/
/-- a reading over two values kept by a function of trees -/
def RO2 (K : PySem.W.Frag) (r : R2) (g : O → O → Option O) : Prop := ∀ S H x y o1 o2 fr1 fr2 z Q, Same S H → Ow K S H o1 x fr1 → Ow K S H o2 y fr2 → g o1 o2 = some z →
  (∀ v S' H' fr, Gr S H S' H' → Ow K S' H' z v fr → New H S' fr → Q v H') → r x y H Q
def RO1 (K : PySem.W.Frag) (r : V → Hp → VK → Prop) (g : O → Option O) : Prop := ∀ S H x o fr1 z Q, Same S H → Ow K S H o x fr1 → g o = some z →
  (∀ v S' H' fr, Gr S H S' H' → Ow K S' H' z v fr → New H S' fr → Q v H') → r x H Q
theorem bin_some {g : O → O → Option O} {env env' : Env} {z : O} (h : bin ok f1 f2 g env = some (z, env')) : ∃ r1 e1 r2, f1 env = some (r1, e1) ∧ f2 e1 = some (r2, env') ∧ (ok = true ∨ r1.isLeaf = true) ∧ g r1 r2 = some z := by
  unfold bin at h
  simp only [Option.bind_eq_some_iff] at h
  obtain ⟨⟨r1, e1⟩, h1, ⟨r2, e2⟩, h2, h3⟩ := h
  simp only at h1 h2 h3
  split at h3
  · rename_i hc
    simp only [Option.map_eq_some_iff, Prod.mk.injEq] at h3
    obtain ⟨z', h3, rfl, rfl⟩ := h3
    simp only [Bool.or_eq_true] at hc
    exact ⟨r1, e1, r2, h1, h2, hc, h3⟩
  · cases h3
theorem isLeaf_fr {K : PySem.W.Frag} {S H : Hp} {o : O} {v : V} {fr : List Addr} (h : o.isLeaf = true) (w : Ow K S H o v fr) : fr = [] := by
  cases o with
  | leaf t => exact (ow_leafE w).1
  | _ => cases h
theorem imp2 {K : PySem.W.Frag} {r : R2} {g : O → O → Option O} (hr : RO2 K r g) (hok : ok = true → m1 = true ∨ q2 = true) {σ : L2.St} {H : Hp} {Q : VK} (hq1 : q1 = true → ∀ env r env', f1 env = some (r, env') → env' = env) (hq2 : q2 = true → ∀ env r env', f2 env = some (r, env') → env' = env)
    (h : tE K (bin ok f1 f2 g) (q1 && q2) true σ H Q) : tOp r (tE K f1 q1 m1) (tE K f2 q2 m2) σ H Q := by
  obtain ⟨env, S, fp, z, env2, R, he, k⟩ := h
  obtain ⟨r1, e1, r2, h1, h2, hl, hg⟩ := bin_some he
  refine ⟨env, S, fp, r1, e1, R, h1, fun x S1 H1 fp1 fr1 R1 E1 w1 g1 n1 => ⟨e1, S1, fp1, r2, env2, R1, h2, fun y S2 H2 fp2 fr2 R2 E2 w2 g2 n2 => ?_⟩⟩
  have w1' : Ow K S2 H2 r1 x fr1 := by
    by_cases hl1 : r1.isLeaf = true
    · have e := isLeaf_fr hl1 w1
      subst e
      exact w1.keep E2.sub (fun a ha => nomatch ha)
    · rcases hok (hl.resolve_right hl1) with e | e
      · exact w1.evo (n1 e).off E2
      · exact w1.mono E2.sub (g2 e).2
  refine hr S2 H2 x y r1 r2 fr1 fr2 z Q R2.le w1' w2 hg fun v S' H' fr gr w nw => ?_
  have EE := (E1.trans E2).trans (gr.evo (fp := fp2))
  refine k v S' H' fp2 fr (R2.gr gr) EE w (fun e => ?_) (fun _ => Fresh.pre (E1.trans E2) (nw.fresh R2.ins))
  rw [Bool.and_eq_true] at e
  exact ⟨(g2 e.2).1.trans (g1 e.1).1, ((g1 e.1).2.trans (g2 e.2).2).trans gr.grow⟩
theorem bin_qf {g : O → O → Option O} (h1 : q1 = true → ∀ env r env', f1 env = some (r, env') → env' = env) (h2 : q2 = true → ∀ env r env', f2 env = some (r, env') → env' = env) :
    (q1 && q2) = true → ∀ env r env', bin ok f1 f2 g env = some (r, env') → env' = env := by
  intro e env r env' h
  rw [Bool.and_eq_true] at e
  obtain ⟨r1, e1, r2, h3, h4, _, _⟩ := bin_some h
  rw [h2 e.2 _ _ _ h4, h1 e.1 _ _ _ h3]
theorem se_bin {op : Operator} {r : R2} {g : O → O → Option O} (ho : OpR X (binaryOp op) r) (hr : RO2 X.K r g) (h1 : SE X a f1 q1 m1) (h2 : SE X b f2 q2 m2) (hok : ok = true → m1 = true ∨ q2 = true) : SE X (.BinOp a op b pos) (bin ok f1 f2 g) (q1 && q2) true :=
  ⟨PE.imp (pe_op ho h1.pe h2.pe) fun _ _ _ h => imp2 hr hok h1.qf h2.qf h, bin_qf h1.qf h2.qf⟩
theorem se_cmp {op : CmpOp} {r : R2} {g : O → O → Option O} (ho : OpR X (compareOp op) r) (hr : RO2 X.K r g) (h1 : SE X a f1 q1 m1) (h2 : SE X b f2 q2 m2) (hok : ok = true → m1 = true ∨ q2 = true) (hm : behindInMarks op b = false) : SE X (.Compare a [op] [b] pos) (bin ok f1 f2 g) (q1 && q2) true :=
  ⟨PE.imp (pe_cmpR ho h1.pe h2.pe hm) fun _ _ _ h => imp2 hr hok h1.qf h2.qf h, bin_qf h1.qf h2.qf⟩
theorem se_ix {r : R2} {g : O → O → Option O} (ho : IxR X r) (hr : RO2 X.K r g) (h1 : SE X a f1 q1 m1) (h2 : SE X b f2 q2 m2) (hok : ok = true → m1 = true ∨ q2 = true) (hs : PlainIx b) : SE X (.Subscript a b pos) (bin ok f1 f2 g) (q1 && q2) true :=
  ⟨PE.imp (pe_ix ho h1.pe h2.pe hs) fun _ _ _ h => imp2 hr hok h1.qf h2.qf h, bin_qf h1.qf h2.qf⟩
/-- an ESem whose value is a bool -/
def asB (f : ESem) : TSem := fun env => (f env).bind fun p => match p.1 with
  | .leaf (.bool b) => some (b, p.2)
  | _ => none
theorem asB_some {env env' : Env} {b : Bool} (h : asB f env = some (b, env')) : f env = some (.leaf (.bool b), env') := by
  unfold asB at h
  simp only [Option.bind_eq_some_iff] at h
  obtain ⟨⟨r, e1⟩, h1, h2⟩ := h
  simp only at h2
  split at h2
  · cases h2
    exact h1
  · cases h2
theorem asB_qf (h1 : q = true → ∀ env r env', f env = some (r, env') → env' = env) : q = true → ∀ env r env', asB f env = some (r, env') → env' = env := fun e env r env' h => h1 e _ _ _ (asB_some h)
theorem tT_of {K : PySem.W.Frag} {σ : L2.St} {H : Hp} {Q : Bool → Hp → Prop} (h : tT K (asB f) q σ H Q) : tE K f q m σ H fun x H' => ∃ k, x = .bl k ∧ Q k H' := by
  obtain ⟨env, S, fp, b, env', R, he, k⟩ := h
  refine ⟨env, S, fp, _, env', R, asB_some he, fun v S' H' fp' fr R' E w g n => ?_⟩
  have e := (ow_leafE w).2
  simp only [Fz] at e
  exact ⟨b, e, k S' H' fp' R' E g⟩
theorem st_cmp {op : CmpOp} {r : R2} {g : O → O → Option O} (ho : OpR X (compareOp op) r) (hr : RO2 X.K r g) (h1 : SE X a f1 q1 m1) (h2 : SE X b f2 q2 m2) (hok : ok = true → m1 = true ∨ q2 = true) (hm : behindInMarks op b = false) : ST X (.Compare a [op] [b] pos) (asB (bin ok f1 f2 g)) (q1 && q2) :=
  ⟨PT.imp (pt_cmpR ho h1.pe h2.pe hm) fun σ H Q h => by
    have h' := tT_of (m := true) h
    exact imp2 hr hok h1.qf h2.qf h', asB_qf (bin_qf h1.qf h2.qf)⟩
/-- an expression that is a bool, as a test -/
theorem st_val (h : SE X e f q m) (he : ∀ whole, isTrue e X.env whole = (do let v ← whole; standAt e.pos; holding [v] (truthy v)) := by intro _; rfl) : ST X e (asB f) q :=
  ⟨PT.imp (pt_val h.pe he) fun σ H Q h => tT_of h, asB_qf h.qf⟩

theorem binV_some {i : Nat} {g : O → O → Option O} {env env' : Env} {z : O} (h : binV i f2 g env = some (z, env')) : ∃ o0 o r2, env[i]? = some (some o0) ∧ f2 env = some (r2, env') ∧ env'[i]? = some (some o) ∧ g o r2 = some z := by
  unfold binV at h
  split at h
  · rename_i o0 e0
    simp only [Option.bind_eq_some_iff] at h
    obtain ⟨⟨r2, e2⟩, h2, h3⟩ := h
    simp only at h2 h3
    split at h3
    · rename_i o e
      simp only [Option.map_eq_some_iff, Prod.mk.injEq] at h3
      obtain ⟨z', h3, rfl, rfl⟩ := h3
      exact ⟨o0, o, r2, e0, h2, e, h3⟩
    · cases h3
  · cases h
theorem imp2V {K : PySem.W.Frag} {r : R2} {i : Nat} {g : O → O → Option O} (hr : RO2 K r g) {σ : L2.St} {H : Hp} {Q : VK} (hq2 : q2 = true → ∀ env r env', f2 env = some (r, env') → env' = env)
    (h : tE K (binV i f2 g) q2 true σ H Q) : tOp r (tVar i) (tE K f2 q2 m2) σ H Q := by
  obtain ⟨env, S, fp, z, env2, R, he, k⟩ := h
  obtain ⟨o0, o, r2, hi0, h2, hi2, hg⟩ := binV_some he
  obtain ⟨x, hx, _⟩ := R.sl i o0 hi0
  refine ⟨x, hx, env, S, fp, r2, env2, R, h2, fun y S2 H2 fp2 fr2 R2 E2 w2 g2 n2 => ?_⟩
  obtain ⟨x', hx', w1⟩ := R2.sl i o hi2
  rw [hx] at hx'
  cases hx'
  refine hr S2 H2 x y o r2 (fp2 i) fr2 z Q R2.le w1 w2 hg fun v S' H' fr gr w nw => ?_
  refine k v S' H' fp2 fr (R2.gr gr) (E2.trans (gr.evo (fp := fp2))) w (fun e => ⟨(g2 e).1, (g2 e).2.trans gr.grow⟩) (fun _ => Fresh.pre E2 (nw.fresh R2.ins))
theorem binV_qf {i : Nat} {g : O → O → Option O} (h2 : q2 = true → ∀ env r env', f2 env = some (r, env') → env' = env) :
    q2 = true → ∀ env r env', binV i f2 g env = some (r, env') → env' = env := by
  intro e env r env' h
  obtain ⟨_, _, r2, _, h4, _, _⟩ := binV_some h
  exact h2 e _ _ _ h4
theorem se_binV {i : Nat} {op : Operator} {r : R2} {g : O → O → Option O} (ho : OpR X (binaryOp op) r) (hr : RO2 X.K r g) (h1 : PE X a (tVar i)) (h2 : SE X b f2 q2 m2) : SE X (.BinOp a op b pos) (binV i f2 g) q2 true :=
  ⟨PE.imp (pe_op ho h1 h2.pe) fun _ _ _ h => imp2V hr h2.qf h, binV_qf h2.qf⟩
theorem se_ixV {i : Nat} {r : R2} {g : O → O → Option O} (ho : IxR X r) (hr : RO2 X.K r g) (h1 : PE X a (tVar i)) (h2 : SE X b f2 q2 m2) (hs : PlainIx b) : SE X (.Subscript a b pos) (binV i f2 g) q2 true :=
  ⟨PE.imp (pe_ix ho h1 h2.pe hs) fun _ _ _ h => imp2V hr h2.qf h, binV_qf h2.qf⟩

/-! ### one operand -/
theorem un_some {g : O → Option O} {env env' : Env} {z : O} (h : un f g env = some (z, env')) : ∃ r1, f env = some (r1, env') ∧ g r1 = some z := by
  unfold un at h
  simp only [Option.bind_eq_some_iff, Option.map_eq_some_iff, Prod.mk.injEq] at h
  obtain ⟨⟨r1, e1⟩, h1, z', h2, rfl, rfl⟩ := h
  exact ⟨r1, h1, h2⟩
theorem un_qf {g : O → Option O} (h1 : q = true → ∀ env r env', f env = some (r, env') → env' = env) : q = true → ∀ env r env', un f g env = some (r, env') → env' = env := by
  intro e env r env' h
  obtain ⟨r1, h2, _⟩ := un_some h
  exact h1 e _ _ _ h2
theorem imp1 {K : PySem.W.Frag} {r : V → Hp → VK → Prop} {g : O → Option O} (hr : RO1 K r g) {σ : L2.St} {H : Hp} {Q : VK} (h : tE K (un f g) q true σ H Q) : tUn r (tE K f q m) σ H Q := by
  obtain ⟨env, S, fp, z, env2, R, he, k⟩ := h
  obtain ⟨r1, h1, hg⟩ := un_some he
  refine ⟨env, S, fp, r1, env2, R, h1, fun x S1 H1 fp1 fr1 R1 E1 w1 g1 n1 => ?_⟩
  refine hr S1 H1 x r1 fr1 z Q R1.le w1 hg fun v S' H' fr gr w nw => ?_
  exact k v S' H' fp1 fr (R1.gr gr) (E1.trans (gr.evo (fp := fp1))) w (fun e => ⟨(g1 e).1, (g1 e).2.trans gr.grow⟩) (fun _ => Fresh.pre E1 (nw.fresh R1.ins))
theorem se_un {op : UnaryOp} {r : V → Hp → VK → Prop} {g : O → Option O} (ho : UnR X (unaryOp op) r) (hr : RO1 X.K r g) (h1 : SE X a f q m) : SE X (.UnaryOp op a pos) (un f g) q true :=
  ⟨PE.imp (pe_un ho h1.pe) fun _ _ _ h => imp1 hr h, un_qf h1.qf⟩

/-! ### and, or, not, if-else -/
def andT (f1 f2 : TSem) : TSem := fun env => (f1 env).bind fun p => if p.1 = true then f2 p.2 else some (false, p.2)
def orT (f1 f2 : TSem) : TSem := fun env => (f1 env).bind fun p => if p.1 = true then some (true, p.2) else f2 p.2
def notT (f1 : TSem) : TSem := fun env => (f1 env).map fun p => (!p.1, p.2)
def ifE (c : TSem) (f1 f2 : ESem) : ESem := fun env => (c env).bind fun p => if p.1 = true then f1 p.2 else f2 p.2
/-- a test as a value -/
def ofT (c : TSem) : ESem := fun env => (c env).map fun p => (.leaf (.bool p.1), p.2)
variable {c1 c2 : TSem}
theorem tT_and {K : PySem.W.Frag} {σ : L2.St} {H : Hp} {Q : Bool → Hp → Prop} (h : tT K (andT c1 c2) (q1 && q2) σ H Q) : tAnd (tT K c1 q1) (tT K c2 q2) σ H Q := by
  obtain ⟨env, S, fp, b, env2, R, he, k⟩ := h
  unfold andT at he
  simp only [Option.bind_eq_some_iff] at he
  obtain ⟨⟨b1, e1⟩, h1, h2⟩ := he
  simp only at h1 h2
  refine ⟨env, S, fp, b1, e1, R, h1, fun S1 H1 fp1 R1 E1 g1 => ?_⟩
  cases b1 with
  | true =>
    rw [if_pos rfl] at h2 ⊢
    refine ⟨e1, S1, fp1, b, env2, R1, h2, fun S2 H2 fp2 R2 E2 g2 => k S2 H2 fp2 R2 (E1.trans E2) fun e => ?_⟩
    rw [Bool.and_eq_true] at e
    exact ⟨(g2 e.2).1.trans (g1 e.1).1, (g1 e.1).2.trans (g2 e.2).2⟩
  | false =>
    rw [if_neg Bool.false_ne_true] at h2 ⊢
    cases h2
    refine k S1 H1 fp1 R1 E1 fun e => ?_
    rw [Bool.and_eq_true] at e
    exact g1 e.1
theorem tT_or {K : PySem.W.Frag} {σ : L2.St} {H : Hp} {Q : Bool → Hp → Prop} (h : tT K (orT c1 c2) (q1 && q2) σ H Q) : tOr (tT K c1 q1) (tT K c2 q2) σ H Q := by
  obtain ⟨env, S, fp, b, env2, R, he, k⟩ := h
  unfold orT at he
  simp only [Option.bind_eq_some_iff] at he
  obtain ⟨⟨b1, e1⟩, h1, h2⟩ := he
  simp only at h1 h2
  refine ⟨env, S, fp, b1, e1, R, h1, fun S1 H1 fp1 R1 E1 g1 => ?_⟩
  cases b1 with
  | false =>
    rw [if_neg Bool.false_ne_true] at h2 ⊢
    refine ⟨e1, S1, fp1, b, env2, R1, h2, fun S2 H2 fp2 R2 E2 g2 => k S2 H2 fp2 R2 (E1.trans E2) fun e => ?_⟩
    rw [Bool.and_eq_true] at e
    exact ⟨(g2 e.2).1.trans (g1 e.1).1, (g1 e.1).2.trans (g2 e.2).2⟩
  | true =>
    rw [if_pos rfl] at h2 ⊢
    cases h2
    refine k S1 H1 fp1 R1 E1 fun e => ?_
    rw [Bool.and_eq_true] at e
    exact g1 e.1
theorem andT_qf (h1 : q1 = true → ∀ env r env', c1 env = some (r, env') → env' = env) (h2 : q2 = true → ∀ env r env', c2 env = some (r, env') → env' = env) : (q1 && q2) = true → ∀ env r env', andT c1 c2 env = some (r, env') → env' = env := by
  intro e env r env' h
  rw [Bool.and_eq_true] at e
  unfold andT at h
  simp only [Option.bind_eq_some_iff] at h
  obtain ⟨⟨b1, e1⟩, h3, h4⟩ := h
  simp only at h3 h4
  split at h4
  · rw [h2 e.2 _ _ _ h4, h1 e.1 _ _ _ h3]
  · cases h4
    exact h1 e.1 _ _ _ h3
theorem orT_qf (h1 : q1 = true → ∀ env r env', c1 env = some (r, env') → env' = env) (h2 : q2 = true → ∀ env r env', c2 env = some (r, env') → env' = env) : (q1 && q2) = true → ∀ env r env', orT c1 c2 env = some (r, env') → env' = env := by
  intro e env r env' h
  rw [Bool.and_eq_true] at e
  unfold orT at h
  simp only [Option.bind_eq_some_iff] at h
  obtain ⟨⟨b1, e1⟩, h3, h4⟩ := h
  simp only at h3 h4
  split at h4
  · cases h4
    exact h1 e.1 _ _ _ h3
  · rw [h2 e.2 _ _ _ h4, h1 e.1 _ _ _ h3]
theorem notT_qf (h1 : q = true → ∀ env r env', c1 env = some (r, env') → env' = env) : q = true → ∀ env r env', notT c1 env = some (r, env') → env' = env := by
  intro e env r env' h
  unfold notT at h
  simp only [Option.map_eq_some_iff, Prod.mk.injEq] at h
  obtain ⟨⟨b1, e1⟩, h3, rfl, rfl⟩ := h
  exact h1 e _ _ _ h3
/-- and, or of tests: whole tells nothing -/
structure SW (X : Cx) (e : Expr) (f : TSem) (q : Bool) : Prop where
  pw : PW X e (tT X.K f q)
  qf : q = true → ∀ env r env', f env = some (r, env') → env' = env
theorem SW.st (h : SW X e c1 q) : ST X e c1 q := ⟨h.pw.pt, h.qf⟩
variable {rest : List Expr}
theorem sw_and1 (h : ST X a c1 q) : SW X (.BoolOp .And [a] pos) c1 q := ⟨pw_and1 h.pt, h.qf⟩
theorem sw_or1 (h : ST X a c1 q) : SW X (.BoolOp .Or [a] pos) c1 q := ⟨pw_or1 h.pt, h.qf⟩
theorem sw_and (h1 : ST X a c1 q1) (h2 : SW X (.BoolOp .And (b :: rest) pos) c2 q2) : SW X (.BoolOp .And (a :: b :: rest) pos) (andT c1 c2) (q1 && q2) :=
  ⟨PW.imp (pw_and h1.pt h2.pw) fun _ _ _ h => tT_and h, andT_qf h1.qf h2.qf⟩
theorem sw_or (h1 : ST X a c1 q1) (h2 : SW X (.BoolOp .Or (b :: rest) pos) c2 q2) : SW X (.BoolOp .Or (a :: b :: rest) pos) (orT c1 c2) (q1 && q2) :=
  ⟨PW.imp (pw_or h1.pt h2.pw) fun _ _ _ h => tT_or h, orT_qf h1.qf h2.qf⟩
theorem st_not (h1 : ST X a c1 q) : ST X (.UnaryOp .Not a pos) (notT c1) q := by
  refine ⟨PT.imp (pt_not h1.pt) fun σ H Q h => ?_, notT_qf h1.qf⟩
  obtain ⟨env, S, fp, b, env2, R, he, k⟩ := h
  unfold notT at he
  simp only [Option.map_eq_some_iff, Prod.mk.injEq] at he
  obtain ⟨⟨b1, e1⟩, h3, rfl, rfl⟩ := he
  exact ⟨env, S, fp, b1, e1, R, h3, k⟩
theorem tE_if {K : PySem.W.Frag} {σ : L2.St} {H : Hp} {Q : VK} {qc : Bool} (h : tE K (ifE c1 f1 f2) (qc && (q1 && q2)) (m1 && m2) σ H Q) : tIf (tT K c1 qc) (tE K f1 q1 m1) (tE K f2 q2 m2) σ H Q := by
  obtain ⟨env, S, fp, z, env2, R, he, k⟩ := h
  unfold ifE at he
  simp only [Option.bind_eq_some_iff] at he
  obtain ⟨⟨b1, e1⟩, h1, h2⟩ := he
  simp only at h1 h2
  refine ⟨env, S, fp, b1, e1, R, h1, fun S1 H1 fp1 R1 E1 g1 => ?_⟩
  cases b1 with
  | true =>
    rw [if_pos rfl] at h2 ⊢
    refine ⟨e1, S1, fp1, z, env2, R1, h2, fun v S2 H2 fp2 fr R2 E2 w g2 n2 => k v S2 H2 fp2 fr R2 (E1.trans E2) w (fun e => ?_) (fun e => ?_)⟩
    · simp only [Bool.and_eq_true] at e
      exact ⟨(g2 e.2.1).1.trans (g1 e.1).1, (g1 e.1).2.trans (g2 e.2.1).2⟩
    · simp only [Bool.and_eq_true] at e
      exact Fresh.pre E1 (n2 e.1)
  | false =>
    rw [if_neg Bool.false_ne_true] at h2 ⊢
    refine ⟨e1, S1, fp1, z, env2, R1, h2, fun v S2 H2 fp2 fr R2 E2 w g2 n2 => k v S2 H2 fp2 fr R2 (E1.trans E2) w (fun e => ?_) (fun e => ?_)⟩
    · simp only [Bool.and_eq_true] at e
      exact ⟨(g2 e.2.2).1.trans (g1 e.1).1, (g1 e.1).2.trans (g2 e.2.2).2⟩
    · simp only [Bool.and_eq_true] at e
      exact Fresh.pre E1 (n2 e.2)
theorem se_if {c : Expr} {qc : Bool} (hc : ST X c c1 qc) (h1 : SE X a f1 q1 m1) (h2 : SE X b f2 q2 m2) : SE X (.IfExp c a b pos) (ifE c1 f1 f2) (qc && (q1 && q2)) (m1 && m2) := by
  refine ⟨PE.imp (pe_ifExp hc.pt h1.pe h2.pe) fun _ _ _ h => tE_if h, fun e env r env' h => ?_⟩
  simp only [Bool.and_eq_true] at e
  unfold ifE at h
  simp only [Option.bind_eq_some_iff] at h
  obtain ⟨⟨b1, e1⟩, h3, h4⟩ := h
  simp only at h3 h4
  split at h4
  · rw [h1.qf e.2.1 _ _ _ h4, hc.qf e.1 _ _ _ h3]
  · rw [h2.qf e.2.2 _ _ _ h4, hc.qf e.1 _ _ _ h3]
/-! and, or, not of bools as values -/
def andE (f1 f2 : ESem) : ESem := fun env => (f1 env).bind fun p => match p.1 with
  | .leaf (.bool true) => f2 p.2
  | .leaf (.bool false) => some (.leaf (.bool false), p.2)
  | _ => none
def orE (f1 f2 : ESem) : ESem := fun env => (f1 env).bind fun p => match p.1 with
  | .leaf (.bool false) => f2 p.2
  | .leaf (.bool true) => some (.leaf (.bool true), p.2)
  | _ => none
def notE (f1 : ESem) : ESem := fun env => (f1 env).bind fun p => match p.1 with
  | .leaf (.bool b) => some (.leaf (.bool (!b)), p.2)
  | _ => none
theorem leafB {K : PySem.W.Frag} {S H : Hp} {b : Bool} {v : V} {fr : List Addr} (w : Ow K S H (.leaf (.bool b)) v fr) : v = .bl b ∧ fr = [] := by
  have e := ow_leafE w
  simp only [Fz] at e
  exact ⟨e.2, e.1⟩
theorem se_and1 (h : SE X a f q m) {op} : SE X (.BoolOp op [a] pos) f q m := ⟨pe_one h.pe, h.qf⟩
theorem se_and (h1 : SE X a f1 q1 m1) (h2 : SE X (.BoolOp .And (b :: rest) pos) f2 q2 m2) : SE X (.BoolOp .And (a :: b :: rest) pos) (andE f1 f2) (q1 && q2) m2 := by
  refine ⟨PE.imp (pe_and h1.pe h2.pe) fun σ H Q h => ?_, fun e env r env' h => ?_⟩
  · obtain ⟨env, S, fp, z, env2, R, he, k⟩ := h
    unfold andE at he
    simp only [Option.bind_eq_some_iff] at he
    obtain ⟨⟨r1, e1⟩, h3, h4⟩ := he
    simp only at h3 h4
    refine ⟨env, S, fp, r1, e1, R, h3, fun x S1 H1 fp1 fr1 R1 E1 w1 g1 n1 => ?_⟩
    split at h4
    · obtain ⟨rfl, rfl⟩ := leafB w1
      refine ⟨true, rfl, ?_⟩
      rw [if_pos rfl]
      refine ⟨e1, S1, fp1, z, env2, R1, h4, fun v S2 H2 fp2 fr R2 E2 w g2 n2 => k v S2 H2 fp2 fr R2 (E1.trans E2) w (fun e => ?_) (fun e => Fresh.pre E1 (n2 e))⟩
      simp only [Bool.and_eq_true] at e
      exact ⟨(g2 e.2).1.trans (g1 e.1).1, (g1 e.1).2.trans (g2 e.2).2⟩
    · obtain ⟨rfl, rfl⟩ := leafB w1
      cases h4
      refine ⟨false, rfl, ?_⟩
      rw [if_neg Bool.false_ne_true]
      refine k _ S1 H1 fp1 [] R1 E1 w1 (fun e => ?_) (fun _ => Fresh.nil)
      simp only [Bool.and_eq_true] at e
      exact g1 e.1
    · cases h4
  · simp only [Bool.and_eq_true] at e
    unfold andE at h
    simp only [Option.bind_eq_some_iff] at h
    obtain ⟨⟨r1, e1⟩, h3, h4⟩ := h
    simp only at h3 h4
    split at h4
    · rw [h2.qf e.2 _ _ _ h4, h1.qf e.1 _ _ _ h3]
    · cases h4
      exact h1.qf e.1 _ _ _ h3
    · cases h4
theorem se_or (h1 : SE X a f1 q1 m1) (h2 : SE X (.BoolOp .Or (b :: rest) pos) f2 q2 m2) : SE X (.BoolOp .Or (a :: b :: rest) pos) (orE f1 f2) (q1 && q2) m2 := by
  refine ⟨PE.imp (pe_or h1.pe h2.pe) fun σ H Q h => ?_, fun e env r env' h => ?_⟩
  · obtain ⟨env, S, fp, z, env2, R, he, k⟩ := h
    unfold orE at he
    simp only [Option.bind_eq_some_iff] at he
    obtain ⟨⟨r1, e1⟩, h3, h4⟩ := he
    simp only at h3 h4
    refine ⟨env, S, fp, r1, e1, R, h3, fun x S1 H1 fp1 fr1 R1 E1 w1 g1 n1 => ?_⟩
    split at h4
    · obtain ⟨rfl, rfl⟩ := leafB w1
      refine ⟨false, rfl, ?_⟩
      rw [if_neg Bool.false_ne_true]
      refine ⟨e1, S1, fp1, z, env2, R1, h4, fun v S2 H2 fp2 fr R2 E2 w g2 n2 => k v S2 H2 fp2 fr R2 (E1.trans E2) w (fun e => ?_) (fun e => Fresh.pre E1 (n2 e))⟩
      simp only [Bool.and_eq_true] at e
      exact ⟨(g2 e.2).1.trans (g1 e.1).1, (g1 e.1).2.trans (g2 e.2).2⟩
    · obtain ⟨rfl, rfl⟩ := leafB w1
      cases h4
      refine ⟨true, rfl, ?_⟩
      rw [if_pos rfl]
      refine k _ S1 H1 fp1 [] R1 E1 w1 (fun e => ?_) (fun _ => Fresh.nil)
      simp only [Bool.and_eq_true] at e
      exact g1 e.1
    · cases h4
  · simp only [Bool.and_eq_true] at e
    unfold orE at h
    simp only [Option.bind_eq_some_iff] at h
    obtain ⟨⟨r1, e1⟩, h3, h4⟩ := h
    simp only at h3 h4
    split at h4
    · rw [h2.qf e.2 _ _ _ h4, h1.qf e.1 _ _ _ h3]
    · cases h4
      exact h1.qf e.1 _ _ _ h3
    · cases h4
theorem se_not (h1 : SE X a f q m) : SE X (.UnaryOp .Not a pos) (notE f) q true := by
  refine ⟨PE.imp (pe_not h1.pe) fun σ H Q h => ?_, fun e env r env' h => ?_⟩
  · obtain ⟨env, S, fp, z, env2, R, he, k⟩ := h
    unfold notE at he
    simp only [Option.bind_eq_some_iff] at he
    obtain ⟨⟨r1, e1⟩, h3, h4⟩ := he
    simp only at h3 h4
    refine ⟨env, S, fp, r1, e1, R, h3, fun x S1 H1 fp1 fr1 R1 E1 w1 g1 n1 => ?_⟩
    split at h4
    · rename_i b
      obtain ⟨rfl, rfl⟩ := leafB w1
      cases h4
      exact ⟨b, rfl, k _ S1 H1 fp1 [] R1 E1 (ow_leaf (by simp only [Fz])) g1 (fun _ => Fresh.nil)⟩
    · cases h4
  · unfold notE at h
    simp only [Option.bind_eq_some_iff] at h
    obtain ⟨⟨r1, e1⟩, h3, h4⟩ := h
    simp only at h3 h4
    split at h4
    · cases h4
      exact h1.qf e _ _ _ h3
    · cases h4
end

/-! ### argument lists -/
def OwA (K : PySem.W.Frag) (S H : Hp) : List O → List V → List Addr → Prop
  | [], vs, fr => vs = [] ∧ fr = []
  | o :: r, vs, fr => ∃ v vr f1 f2, vs = v :: vr ∧ fr = f1 ++ f2 ∧ Ow K S H o v f1 ∧ OwA K S H r vr f2
section
variable {K : PySem.W.Frag} {S S' H H' : Hp}
theorem OwA.keep (es : Same S S') : ∀ {os : List O} {vs : List V} {fp : List Addr}, (∀ a ∈ fp, H' a = H a) → OwA K S H os vs fp → OwA K S' H' os vs fp
  | [], vs, fp, k, h => h
  | o :: r, vs, fp, k, h => by
    obtain ⟨v, vr, f1, f2, e1, e2, h1, h2⟩ := h
    exact ⟨v, vr, f1, f2, e1, e2, h1.keep es (fun a ha => k a (by rw [e2]; exact List.mem_append_left _ ha)), OwA.keep es (fun a ha => k a (by rw [e2]; exact List.mem_append_right _ ha)) h2⟩
theorem OwA.some : ∀ {os : List O} {vs : List V} {fp : List Addr}, OwA K S H os vs fp → ∀ a ∈ fp, H a ≠ none
  | [], vs, fp, h => by
    rw [h.2]
    intro a ha
    cases ha
  | o :: r, vs, fp, h => by
    obtain ⟨v, vr, f1, f2, e1, e2, h1, h2⟩ := h
    rw [e2]
    intro a ha
    rcases List.mem_append.mp ha with ha | ha
    · exact h1.some a ha
    · exact OwA.some h2 a ha
theorem OwA.len : ∀ {os : List O} {vs : List V} {fp : List Addr}, OwA K S H os vs fp → vs.length = os.length
  | [], vs, fp, h => by rw [h.1]; rfl
  | o :: r, vs, fp, h => by
    obtain ⟨v, vr, f1, f2, e1, e2, h1, h2⟩ := h
    rw [e1, List.length_cons, List.length_cons, OwA.len h2]
/-- the frozen ones alone -/
theorem OwA.leaves : ∀ {ts : List D} {vs : List V} {fp : List Addr}, OwA K S H (ts.map .leaf) vs fp → FzL K S ts vs ∧ fp = []
  | [], vs, fp, h => by
    rw [h.1, h.2]
    exact ⟨FzL.nil, rfl⟩
  | t :: r, vs, fp, h => by
    obtain ⟨v, vr, f1, f2, rfl, rfl, h1, h2⟩ := h
    obtain ⟨h3, rfl⟩ := OwA.leaves h2
    obtain ⟨rfl, h4⟩ := ow_leafE h1
    exact ⟨FzL.cons h4 h3, rfl⟩
end
def tAr (K : PySem.W.Frag) (f : ASem) (q : Bool) : TA := fun σ H Q => ∃ env S fp rs env', Rel K env σ S H fp ∧ f env = some (rs, env') ∧
  ∀ vs S' H' fp' fr, Rel K env' σ S' H' fp' → Evo S H fp S' H' fp' → OwA K S' H' rs vs fr → (q = true → fp' = fp ∧ Same H H') → Fresh S H fp S' fp' fr → Q vs H'
structure SA (X : Cx) (es : List Expr) (f : ASem) (q : Bool) : Prop where
  pa : PA X es (tAr X.K f q)
  qf : q = true → ∀ env r env', f env = some (r, env') → env' = env
def nilA : ASem := fun env => some ([], env)
def consA (m : Bool) (f : ESem) (g : ASem) : ASem := fun env => (f env).bind fun p => if (m || p.1.isLeaf) = true then (g p.2).map fun r => (p.1 :: r.1, r.2) else none
theorem consA_some {m : Bool} {f : ESem} {g : ASem} {env env' : Env} {z : List O} (h : consA m f g env = some (z, env')) : ∃ o e1 os, f env = some (o, e1) ∧ (m = true ∨ o.isLeaf = true) ∧ g e1 = some (os, env') ∧ z = o :: os := by
  unfold consA at h
  simp only [Option.bind_eq_some_iff] at h
  obtain ⟨⟨o, e1⟩, h1, h2⟩ := h
  simp only at h1 h2
  split at h2
  · rename_i hc
    simp only [Option.map_eq_some_iff, Prod.mk.injEq] at h2
    obtain ⟨⟨os, e2⟩, h3, rfl, rfl⟩ := h2
    simp only [Bool.or_eq_true] at hc
    exact ⟨o, e1, os, h1, hc, h3, rfl⟩
  · cases h2
theorem Fresh.app {S S1 S2 H H1 : Hp} {fp fp1 fp2 : Nat → List Addr} {f1 f2 : List Addr} (h1 : Fresh S H fp S2 fp2 f1) (h2 : Fresh S H fp S2 fp2 f2) (d : ∀ a ∈ f1, a ∉ f2) : Fresh S H fp S2 fp2 (f1 ++ f2) := by
  refine ⟨List.nodup_append.mpr ⟨h1.nd, h2.nd, fun a ha b hb e => d a ha (by rw [e]; exact hb)⟩, fun a h => ?_, fun a h => ?_, fun a h => ?_⟩
  · exact (List.mem_append.mp h).elim (h1.src a) (h2.src a)
  · exact (List.mem_append.mp h).elim (h1.off a) (h2.off a)
  · exact (List.mem_append.mp h).elim (h1.un a) (h2.un a)
section
variable {X : Cx} {e : Expr} {es : List Expr} {f : ESem} {g : ASem} {q q1 q2 m : Bool} {pos : Pos}
theorem sa_nil : SA X [] nilA true := by
  refine ⟨PA.imp pa_nil fun σ H Q h => ?_, fun _ env r env' h => by cases h; rfl⟩
  obtain ⟨env, S, fp, rs, env', R, he, k⟩ := h
  cases he
  exact k [] S H fp [] R (Evo.refl _ _ _) ⟨rfl, rfl⟩ (fun _ => ⟨rfl, Same.refl _⟩) Fresh.nil
theorem sa_cons (h1 : SE X e f q1 m) (h2 : SA X es g q2) (hs : starEach (e :: es) X.env = (false, eval e X.env) :: starEach es X.env := by rfl) : SA X (e :: es) (consA m f g) (q1 && q2) := by
  refine ⟨PA.imp (pa_cons h1.pe h2.pa hs) fun σ H Q h => ?_, fun e env r env' h => ?_⟩
  · obtain ⟨env, S, fp, rs, env', R, he, k⟩ := h
    obtain ⟨o, e1, os, h3, hl, h4, rfl⟩ := consA_some he
    refine ⟨env, S, fp, o, e1, R, h3, fun x S1 H1 fp1 fr1 R1 E1 w1 g1 n1 => ⟨e1, S1, fp1, os, env', R1, h4, fun vs S2 H2 fp2 fr2 R2 E2 w2 g2 n2 => ?_⟩⟩
    have F1 : Fresh S H fp S1 fp1 fr1 := by
      rcases hl with hl | hl
      · exact n1 hl
      · rw [isLeaf_fr hl w1]
        exact Fresh.nil
    have i1 : ∀ a ∈ fr1, H1 a ≠ none := w1.some
    refine k (x :: vs) S2 H2 fp2 (fr1 ++ fr2) R2 (E1.trans E2) ⟨x, vs, fr1, fr2, rfl, rfl, w1.evo F1.off E2, w2⟩ (fun e => ?_) (Fresh.app (S1 := S) (H1 := H) (fp1 := fp) (F1.evo i1 E2) (Fresh.pre E1 n2) fun a h1 h2 => ?_)
    · simp only [Bool.and_eq_true] at e
      exact ⟨(g2 e.2).1.trans (g1 e.1).1, (g1 e.1).2.trans (g2 e.2).2⟩
    · rcases n2.src a h2 with z | ⟨j, z⟩
      · exact i1 a h1 z
      · exact F1.off a h1 j z
  · simp only [Bool.and_eq_true] at e
    obtain ⟨o, e1, os, h3, hl, h4, rfl⟩ := consA_some h
    rw [h2.qf e.2 _ _ _ h4, h1.qf e.1 _ _ _ h3]

end
end Mv

set_option Elab.async false
set_option linter.all false
set_option maxRecDepth 100000
set_option maxHeartbeats 2000000
namespace Mv
open PySem PySem.Spec PyProof.Rows L2

/-! ### what is one's own, frozen -/
def frzK : List (Key × O) → Option (List (D × D))
  | [] => some []
  | (k, .leaf t) :: r => (frzK r).map ((keyD k, t) :: ·)
  | _ => none
def frzT : List (List Key × O) → Option (List (D × D))
  | [] => some []
  | (k, .leaf t) :: r => (frzT r).map ((tupD k, t) :: ·)
  | _ => none
def O.frz : O → Option D
  | .leaf t => some t
  | .ls ts => some (.list ts)
  | .dic kvs => (frzK kvs).map .dict
  | .dct kvs => (frzT kvs).map .dict
  | .obj _ _ => none
/-- the frozen part with these objects, too -/
def withF (S H : Hp) (fr : List Addr) : Hp := fun a => if a ∈ fr then H a else S a
section
variable {K : PySem.W.Frag} {S S' H H' : Hp} {fp fp' : Nat → List Addr} {fr : List Addr} {env : Env} {σ : L2.St}
theorem withF_sub (un : ∀ a ∈ fr, S a = none) : Same S (withF S H fr) := fun a o e => by
  unfold withF
  rw [if_neg]
  · exact e
  · intro m
    rw [un a m] at e
    cases e
theorem withF_le (le : Same S H) : Same (withF S H fr) H := fun a o e => by
  unfold withF at e
  split at e
  · exact e
  · exact le _ _ e
theorem withF_at {a : Addr} (m : a ∈ fr) : withF S H fr a = H a := if_pos m
theorem withF_off {a : Addr} (m : a ∉ fr) : withF S H fr a = S a := if_neg m
theorem frzK_fz : ∀ {kvs : List (Key × O)} {us : List (D × D)} {vs : List (Key × V)} {fr : List Addr}, frzK kvs = some us → OwK K S H kvs vs fr → FzK K S us vs ∧ fr = []
  | [], us, vs, fr, e, h => by
    cases e
    simp only [OwK] at h
    rw [h.1]
    exact ⟨by simp only [FzK], h.2⟩
  | (k, .leaf t) :: r, us, vs, fr, e, h => by
    simp only [frzK, Option.map_eq_some_iff] at e
    obtain ⟨u, e, rfl⟩ := e
    simp only [OwK] at h
    obtain ⟨v, vr, f1, f2, rfl, rfl, h1, h2⟩ := h
    obtain ⟨h3, rfl⟩ := frzK_fz e h2
    obtain ⟨rfl, h5⟩ := ow_leafE h1
    refine ⟨?_, rfl⟩
    simp only [FzK]
    exact ⟨k, v, vr, rfl, rfl, h5, h3⟩
  | (k, .ls t) :: r, us, vs, fr, e, h => by simp [frzK] at e
  | (k, .dic t) :: r, us, vs, fr, e, h => by simp [frzK] at e
  | (k, .dct t) :: r, us, vs, fr, e, h => by simp [frzK] at e
  | (k, .obj _ t) :: r, us, vs, fr, e, h => by simp [frzK] at e
theorem frzT_fz : ∀ {kvs : List (List Key × O)} {us : List (D × D)} {vs : List (List Key × V)} {fr : List Addr}, frzT kvs = some us → OwT K S H kvs vs fr → FzT K S us vs ∧ fr = []
  | [], us, vs, fr, e, h => by
    cases e
    simp only [OwT] at h
    rw [h.1]
    exact ⟨by simp only [FzT], h.2⟩
  | (k, .leaf t) :: r, us, vs, fr, e, h => by
    simp only [frzT, Option.map_eq_some_iff] at e
    obtain ⟨u, e, rfl⟩ := e
    simp only [OwT] at h
    obtain ⟨v, vr, f1, f2, rfl, rfl, h1, h2⟩ := h
    obtain ⟨h3, rfl⟩ := frzT_fz e h2
    obtain ⟨rfl, h5⟩ := ow_leafE h1
    refine ⟨?_, rfl⟩
    simp only [FzT]
    exact ⟨k, v, vr, rfl, rfl, h5, h3⟩
  | (k, .ls t) :: r, us, vs, fr, e, h => by simp [frzT] at e
  | (k, .dic t) :: r, us, vs, fr, e, h => by simp [frzT] at e
  | (k, .dct t) :: r, us, vs, fr, e, h => by simp [frzT] at e
  | (k, .obj _ t) :: r, us, vs, fr, e, h => by simp [frzT] at e
theorem frz_fz {o : O} {t : D} {v : V} (le : Same S H) (un : ∀ a ∈ fr, S a = none) (w : Ow K S H o v fr) (e : o.frz = some t) : Fz K (withF S H fr) t v := by
  cases o with
  | leaf u =>
    cases e
    exact (ow_leafE w).2.same (withF_sub un)
  | ls ts =>
    cases e
    obtain ⟨a, vs, rfl, h1, rfl, h2⟩ := ow_lsE w
    simp only [Fz]
    exact ⟨a, vs, rfl, LsAt.of ((withF_at (List.mem_singleton.mpr rfl)).trans h1), h2.same (withF_sub un)⟩
  | dic kvs =>
    simp only [O.frz, Option.map_eq_some_iff] at e
    obtain ⟨us, e, rfl⟩ := e
    simp only [Ow] at w
    obtain ⟨a, vs, fr', rfl, rfl, h1, h2⟩ := w
    obtain ⟨h3, rfl⟩ := frzK_fz e h1
    simp only [Fz]
    exact ⟨a, rfl, .inl ⟨vs, h3.same (withF_sub un), .inl ((withF_at List.mem_cons_self).trans h2)⟩⟩
  | dct kvs =>
    simp only [O.frz, Option.map_eq_some_iff] at e
    obtain ⟨us, e, rfl⟩ := e
    simp only [Ow] at w
    obtain ⟨a, vs, fr', rfl, rfl, h1, h2⟩ := w
    obtain ⟨h3, rfl⟩ := frzT_fz e h1
    simp only [Fz]
    exact ⟨a, rfl, .inr ⟨vs, h3.same (withF_sub un), .inl ((withF_at List.mem_cons_self).trans h2)⟩⟩
  | obj _ _ => cases e
theorem rel_withF (R : Rel K env σ S H fp) (un : ∀ a ∈ fr, S a = none) (off : ∀ a ∈ fr, ∀ i, a ∉ fp i) : Rel K env σ (withF S H fr) H fp :=
  ⟨withF_le R.le, R.len, fun i o h => by
    obtain ⟨v, e, w⟩ := R.sl i o h
    exact ⟨v, e, w.mono (withF_sub un) (Same.refl _)⟩, R.nd, R.dj, fun i a h => by
    rw [withF_off fun m => off a m i h]
    exact R.un i a h, R.ins⟩
theorem evo_withF {S1 H1 : Hp} {fp1 : Nat → List Addr} (E : Evo S H fp S1 H1 fp1) (src : ∀ a ∈ fr, H a = none ∨ ∃ j, a ∈ fp j) (un : ∀ a ∈ fr, S1 a = none) : Evo S H fp (withF S1 H1 fr) H1 fp1 :=
  ⟨E.sub.trans (withF_sub un), fun a h n => ⟨(E.keep a h n).1, by
    rw [withF_off]
    · exact (E.keep a h n).2
    · intro m
      rcases src a m with z | ⟨j, z⟩
      · exact h z
      · exact n j z⟩, E.own⟩
end
def frzE (f : ESem) : ESem := fun env => (f env).bind fun p => p.1.frz.map fun t => (.leaf t, p.2)
section
variable {X : Cx} {e : Expr} {f : ESem} {q : Bool}
theorem frzE_some {env env' : Env} {z : O} (h : frzE f env = some (z, env')) : ∃ o t, f env = some (o, env') ∧ o.frz = some t ∧ z = .leaf t := by
  unfold frzE at h
  simp only [Option.bind_eq_some_iff, Option.map_eq_some_iff, Prod.mk.injEq] at h
  obtain ⟨⟨o, e1⟩, h1, t, h2, rfl, rfl⟩ := h
  exact ⟨o, t, h1, h2, rfl⟩
theorem tE_frz {K : PySem.W.Frag} {σ : L2.St} {H : Hp} {Q : VK} (h : tE K (frzE f) q true σ H Q) : tE K f q true σ H Q := by
  obtain ⟨env, S, fp, z, env', R, he, k⟩ := h
  obtain ⟨o, t, h1, h2, rfl⟩ := frzE_some he
  refine ⟨env, S, fp, o, env', R, h1, fun v S1 H1 fp1 fr R1 E1 w g n => ?_⟩
  have F := n rfl
  exact k v (withF S1 H1 fr) H1 fp1 [] (rel_withF R1 F.un F.off) (evo_withF E1 F.src F.un) (ow_leaf (frz_fz R1.le F.un w h2)) g (fun _ => Fresh.nil)
theorem se_frz (h : SE X e f q true) : SE X e (frzE f) q true :=
  ⟨PE.imp h.pe fun _ _ _ h => tE_frz h, fun e env r env' hh => by
    obtain ⟨o, t, h1, h2, rfl⟩ := frzE_some hh
    exact h.qf e _ _ _ h1⟩
end

/-! ### displays -/
def leavesL : List O → Option (List D)
  | [] => some []
  | .leaf t :: r => (leavesL r).map (t :: ·)
  | _ :: _ => none
theorem leavesL_some : ∀ {os : List O} {ts : List D}, leavesL os = some ts → os = ts.map .leaf
  | [], ts, h => by cases h; rfl
  | .leaf t :: r, ts, h => by
    simp only [leavesL, Option.map_eq_some_iff] at h
    obtain ⟨u, h, rfl⟩ := h
    rw [leavesL_some h]
    rfl
  | .ls _ :: r, ts, h => by cases h
  | .dic _ :: r, ts, h => by cases h
  | .dct _ :: r, ts, h => by cases h
  | .obj _ _ :: r, ts, h => by cases h
def tupE (f : ASem) : ESem := fun env => (f env).bind fun p => (leavesL p.1).bind fun ts => if ts.length ≤ 1000 then some (.leaf (.tuple ts), p.2) else none
def lstE (f : ASem) : ESem := fun env => (f env).bind fun p => (leavesL p.1).bind fun ts => if ts.length ≤ 1000 then some (.ls ts, p.2) else none
theorem tupE_some {f : ASem} {env env' : Env} {z : O} (h : tupE f env = some (z, env')) : ∃ ts, f env = some (ts.map .leaf, env') ∧ ts.length ≤ 1000 ∧ z = .leaf (.tuple ts) := by
  unfold tupE at h
  simp only [Option.bind_eq_some_iff] at h
  obtain ⟨⟨os, e1⟩, h1, ts, h2, h3⟩ := h
  split at h3
  · rename_i hl
    cases h3
    have e2 := leavesL_some h2
    simp only at e2
    subst e2
    exact ⟨ts, h1, hl, rfl⟩
  · cases h3
theorem lstE_some {f : ASem} {env env' : Env} {z : O} (h : lstE f env = some (z, env')) : ∃ ts, f env = some (ts.map .leaf, env') ∧ ts.length ≤ 1000 ∧ z = .ls ts := by
  unfold lstE at h
  simp only [Option.bind_eq_some_iff] at h
  obtain ⟨⟨os, e1⟩, h1, ts, h2, h3⟩ := h
  split at h3
  · rename_i hl
    cases h3
    have e2 := leavesL_some h2
    simp only at e2
    subst e2
    exact ⟨ts, h1, hl, rfl⟩
  · cases h3
section
variable {X : Cx} {es : List Expr} {f : ASem} {q : Bool} {pos : Pos}
theorem se_tup {x1} (h : SA X es f q) : SE X (.Tuple es x1 pos) (tupE f) q true := by
  refine ⟨PE.imp (pe_tup h.pa) fun σ H Q hw => ?_, fun e env r env' hh => ?_⟩
  · obtain ⟨env, S, fp, z, env', R, he, k⟩ := hw
    obtain ⟨ts, h1, hl, rfl⟩ := tupE_some he
    refine ⟨env, S, fp, _, env', R, h1, fun vs S1 H1 fp1 fr R1 E1 w g F => ?_⟩
    obtain ⟨hz, rfl⟩ := w.leaves
    refine ⟨by rw [hz.len]; exact Nat.le_trans hl (by decide), fun p hp => ?_⟩
    have G := Gr.newS (o := .tup vs) R1.le hp
    refine k _ _ _ fp1 [] (R1.gr G) (E1.trans G.evo) (ow_leaf ?_) (fun e => ⟨(g e).1, (g e).2.trans G.grow⟩) (fun _ => Fresh.nil)
    simp only [Fz]
    exact ⟨p, vs, rfl, upd_same, hz.same G.sub⟩
  · obtain ⟨ts, h1, hl, rfl⟩ := tupE_some hh
    exact h.qf e _ _ _ h1
theorem se_lst (h : SA X es f q) : SE X (.List es pos) (lstE f) q true := by
  refine ⟨PE.imp (pe_lst h.pa) fun σ H Q hw => ?_, fun e env r env' hh => ?_⟩
  · obtain ⟨env, S, fp, z, env', R, he, k⟩ := hw
    obtain ⟨ts, h1, hl, rfl⟩ := lstE_some he
    refine ⟨env, S, fp, _, env', R, h1, fun vs S1 H1 fp1 fr R1 E1 w g F => ?_⟩
    obtain ⟨hz, rfl⟩ := w.leaves
    refine ⟨by rw [hz.len]; exact Nat.le_trans hl (by decide), fun p hp => ?_⟩
    have G := Gr.newH (o := .lst vs) R1.le hp
    exact k _ _ _ fp1 [p] (R1.gr G) (E1.trans G.evo) (ow_ls upd_same (hz.same G.sub)) (fun e => ⟨(g e).1, (g e).2.trans G.grow⟩) (fun _ => Fresh.pre E1 ((New.one hp (R1.le.free hp)).fresh R1.ins))
  · obtain ⟨ts, h1, hl, rfl⟩ := lstE_some hh
    exact h.qf e _ _ _ h1
end

/-! ### calls of defs -/
abbrev Def := List O → Option (O × List (Option O))
def spOf (K : PySem.W.Frag) (g : Def) : Sp := fun vs H Q _ => ∃ os S fp r os', Rel K (os.map some) (vs.map some) S H fp ∧ (∀ k, os.length ≤ k → fp k = []) ∧ g os = some (r, os') ∧
  ∀ v S' H' fp' fr, Rel K os' (vs.map some) S' H' fp' → Evo S H fp S' H' fp' → Ow K S' H' r v fr → Fresh S H fp S' fp' fr → Q v H'
inductive Arg where
  | e (m : Bool) (f : ESem)
  | v (i : Nat)
abbrev Item := O ⊕ Nat
def evA : List Arg → Env → Option (List Item × Env)
  | [], env => some ([], env)
  | .e m f :: r, env => (f env).bind fun p => if (m || p.1.isLeaf) = true then (evA r p.2).map fun z => (.inl p.1 :: z.1, z.2) else none
  | .v i :: r, env => match env[i]? with
    | some (some _) => (evA r env).map fun z => (.inr i :: z.1, z.2)
    | _ => none
def collect (env : Env) : List Item → Option (List O)
  | [] => some []
  | .inl o :: r => (collect env r).map (o :: ·)
  | .inr i :: r => match env[i]? with
    | some (some o) => (collect env r).map (o :: ·)
    | _ => none
def ownAt (env : Env) (j : Nat) : Bool := match env[j]? with
  | some (some o) => !o.isLeaf
  | _ => false
def isV (j : Nat) : Item → Bool
  | .inr i => i == j
  | .inl _ => false
def ownIx (env : Env) : List Item → List Nat
  | [] => []
  | .inl _ :: r => ownIx env r
  | .inr i :: r => if ownAt env i = true then i :: ownIx env r else ownIx env r
def posA (items : List Item) (env : Env) (j : Nat) : Option Nat := if ownAt env j = true then items.findIdx? (isV j) else none
def wb (items : List Item) (os' : List (Option O)) (env : Env) : Env := env.mapIdx fun j o => match posA items env j with
  | some k => (os'[k]?).join
  | none => o
def callF (g : Def) (args : List Arg) : ESem := fun env => (evA args env).bind fun p => (collect p.2 p.1).bind fun os =>
  if (ownIx p.2 p.1).Nodup then (g os).bind fun r => some (r.1, wb p.1 r.2 p.2) else none

def ItA (K : PySem.W.Frag) (S H : Hp) (σ : L2.St) : List Item → List V → List Addr → Prop
  | [], vs, fr => vs = [] ∧ fr = []
  | .inl o :: r, vs, fr => ∃ v vr f1 f2, vs = v :: vr ∧ fr = f1 ++ f2 ∧ Ow K S H o v f1 ∧ ItA K S H σ r vr f2
  | .inr i :: r, vs, fr => ∃ v vr, vs = v :: vr ∧ σ[i]? = some (some v) ∧ ItA K S H σ r vr fr
section
variable {K : PySem.W.Frag} {S S' H H' : Hp} {σ : L2.St}
def tCA (K : PySem.W.Frag) (f : Env → Option (List Item × Env)) : TA := fun σ H Q => ∃ env S fp items env', Rel K env σ S H fp ∧ f env = some (items, env') ∧
  ∀ vs S' H' fp' fr, Rel K env' σ S' H' fp' → Evo S H fp S' H' fp' → ItA K S' H' σ items vs fr → Fresh S H fp S' fp' fr → Q vs H'
structure SC (X : Cx) (es : List Expr) (args : List Arg) : Prop where
  pa : PA X es (tCA X.K (evA args))
theorem ItA.evo {S1 H1 S2 H2 : Hp} {fp1 fp2 : Nat → List Addr} : ∀ {items : List Item} {vs : List V} {fr : List Addr}, ItA K S1 H1 σ items vs fr → (∀ a ∈ fr, ∀ i, a ∉ fp1 i) → Evo S1 H1 fp1 S2 H2 fp2 → ItA K S2 H2 σ items vs fr
  | [], vs, fr, h, _, _ => h
  | .inl o :: r, vs, fr, h, n, E => by
    obtain ⟨v, vr, f1, f2, e1, e2, h1, h2⟩ := h
    exact ⟨v, vr, f1, f2, e1, e2, h1.evo (fun a m => n a (by rw [e2]; exact List.mem_append_left _ m)) E, h2.evo (fun a m => n a (by rw [e2]; exact List.mem_append_right _ m)) E⟩
  | .inr i :: r, vs, fr, h, n, E => by
    obtain ⟨v, vr, e1, e2, h2⟩ := h
    exact ⟨v, vr, e1, e2, h2.evo n E⟩
end
section
variable {X : Cx} {e : Expr} {es : List Expr} {f : ESem} {q m : Bool} {args : List Arg} {pos : Pos}
theorem sc_nil : SC X [] [] := by
  refine ⟨PA.imp pa_nil fun σ H Q h => ?_⟩
  obtain ⟨env, S, fp, rs, env', R, he, k⟩ := h
  cases he
  exact k [] S H fp [] R (Evo.refl _ _ _) ⟨rfl, rfl⟩ Fresh.nil
theorem sc_e (h1 : SE X e f q m) (h2 : SC X es args) (hs : starEach (e :: es) X.env = (false, eval e X.env) :: starEach es X.env := by rfl) : SC X (e :: es) (.e m f :: args) := by
  refine ⟨PA.imp (pa_cons h1.pe h2.pa hs) fun σ H Q h => ?_⟩
  obtain ⟨env, S, fp, rs, env', R, he, k⟩ := h
  unfold evA at he
  simp only [Option.bind_eq_some_iff] at he
  obtain ⟨⟨o, e1⟩, h3, h4⟩ := he
  simp only at h3 h4
  split at h4
  · rename_i hl
    simp only [Option.map_eq_some_iff, Prod.mk.injEq] at h4
    obtain ⟨⟨os, e2⟩, h4, rfl, rfl⟩ := h4
    simp only [Bool.or_eq_true] at hl
    refine ⟨env, S, fp, o, e1, R, h3, fun x S1 H1 fp1 fr1 R1 E1 w1 g1 n1 => ⟨e1, S1, fp1, os, e2, R1, h4, fun vs S2 H2 fp2 fr2 R2 E2 w2 n2 => ?_⟩⟩
    have F1 : Fresh S H fp S1 fp1 fr1 := by
      rcases hl with hl | hl
      · exact n1 hl
      · rw [isLeaf_fr hl w1]
        exact Fresh.nil
    have i1 : ∀ a ∈ fr1, H1 a ≠ none := w1.some
    refine k (x :: vs) S2 H2 fp2 (fr1 ++ fr2) R2 (E1.trans E2) ⟨x, vs, fr1, fr2, rfl, rfl, w1.evo F1.off E2, w2⟩ (Fresh.app (S1 := S) (H1 := H) (fp1 := fp) (F1.evo i1 E2) (Fresh.pre E1 n2) fun a h1 h2 => ?_)
    rcases n2.src a h2 with z | ⟨j, z⟩
    · exact i1 a h1 z
    · exact F1.off a h1 j z
  · cases h4
theorem sc_v {i : Nat} (h1 : PE X e (tVar i)) (h2 : SC X es args) (hs : starEach (e :: es) X.env = (false, eval e X.env) :: starEach es X.env := by rfl) : SC X (e :: es) (.v i :: args) := by
  refine ⟨PA.imp (pa_cons h1 h2.pa hs) fun σ H Q h => ?_⟩
  obtain ⟨env, S, fp, rs, env', R, he, k⟩ := h
  unfold evA at he
  split at he
  · rename_i o0 e0
    simp only [Option.map_eq_some_iff, Prod.mk.injEq] at he
    obtain ⟨⟨os, e2⟩, h4, rfl, rfl⟩ := he
    obtain ⟨x, hx, _⟩ := R.sl i o0 e0
    exact ⟨x, hx, env, S, fp, os, e2, R, h4, fun vs S2 H2 fp2 fr2 R2 E2 w2 n2 => k (x :: vs) S2 H2 fp2 fr2 R2 E2 ⟨x, vs, rfl, hx, w2⟩ n2⟩
  · cases he
end

/-! the footprints of a call's arguments -/
def fpsA (env : Env) (fp : Nat → List Addr) : List Item → List (List Addr) → List (List Addr)
  | [], _ => []
  | .inl _ :: r, f :: fs => f :: fpsA env fp r fs
  | .inl _ :: r, [] => [] :: fpsA env fp r []
  | .inr i :: r, fs => (if ownAt env i = true then fp i else []) :: fpsA env fp r fs
theorem getD_flat {L : List (List Addr)} {i : Nat} {a : Addr} (h : a ∈ L.getD i []) : a ∈ L.flatten := by
  by_cases hi : i < L.length
  · rw [List.getD_eq_getElem?_getD, List.getElem?_eq_getElem hi] at h
    exact List.mem_flatten.mpr ⟨_, List.getElem_mem hi, h⟩
  · rw [List.getD_eq_getElem?_getD, List.getElem?_eq_none (by omega)] at h
    cases h
theorem flat_dj : ∀ {L : List (List Addr)} {i j : Nat} {a : Addr}, L.flatten.Nodup → a ∈ L.getD i [] → a ∈ L.getD j [] → i = j
  | [], i, j, a, _, h, _ => by simp at h
  | l :: L, 0, 0, a, _, _, _ => rfl
  | l :: L, 0, j + 1, a, n, h1, h2 => by
    rw [List.flatten_cons, List.nodup_append] at n
    exact absurd rfl (n.2.2 a (by simpa using h1) a (getD_flat (by simpa using h2)))
  | l :: L, i + 1, 0, a, n, h1, h2 => by
    rw [List.flatten_cons, List.nodup_append] at n
    exact absurd rfl (n.2.2 a (by simpa using h2) a (getD_flat (by simpa using h1)))
  | l :: L, i + 1, j + 1, a, n, h1, h2 => by
    rw [List.flatten_cons, List.nodup_append] at n
    exact congrArg (· + 1) (flat_dj (L := L) n.2.1 (by simpa using h1) (by simpa using h2))
theorem flat_nd {L : List (List Addr)} {i : Nat} (n : L.flatten.Nodup) : (L.getD i []).Nodup := by
  by_cases hi : i < L.length
  · rw [List.getD_eq_getElem?_getD, List.getElem?_eq_getElem hi]
    exact (List.pairwise_flatten.mp n).1 _ (List.getElem_mem hi)
  · rw [List.getD_eq_getElem?_getD, List.getElem?_eq_none (by omega)]
    exact List.nodup_nil

structure ArgsOk (K : PySem.W.Frag) (S H : Hp) (env : Env) (σ : L2.St) (fp : Nat → List Addr) (items : List Item) (os : List O) (vs : List V) (fr : List Addr) (L : List (List Addr)) : Prop where
  l1 : os.length = items.length
  l2 : vs.length = items.length
  l3 : L.length = items.length
  ow : ∀ (k : Nat) (o : O), os[k]? = some o → ∃ v, vs[k]? = some v ∧ Ow K S H o v (L.getD k [])
  nd : L.flatten.Nodup
  src : ∀ a ∈ L.flatten, a ∈ fr ∨ ∃ i ∈ ownIx env items, a ∈ fp i
  var : ∀ (k : Nat) (i : Nat), items[k]? = some (Sum.inr i : Item) → ∃ v, vs[k]? = some v ∧ σ[i]? = some (some v)
  fpv : ∀ (k : Nat) (i : Nat), items[k]? = some (Sum.inr i : Item) → ownAt env i = true → L.getD k [] = fp i
theorem args_ok {K : PySem.W.Frag} {S H : Hp} {env : Env} {σ : L2.St} {fp : Nat → List Addr} (R : Rel K env σ S H fp) : ∀ {items : List Item} {os : List O} {vs : List V} {fr : List Addr}, ItA K S H σ items vs fr → collect env items = some os → fr.Nodup → (∀ a ∈ fr, ∀ i, a ∉ fp i) → (ownIx env items).Nodup →
    ∃ L, ArgsOk K S H env σ fp items os vs fr L
  | [], os, vs, fr, h, c, n, off, od => by
    cases c
    obtain ⟨rfl, rfl⟩ := h
    exact ⟨[], rfl, rfl, rfl, by simp, by simp, by simp, by simp, by simp⟩
  | .inl o :: r, os, vs, fr, h, c, n, off, od => by
    simp only [collect, Option.map_eq_some_iff] at c
    obtain ⟨os, c, rfl⟩ := c
    obtain ⟨v, vr, f1, f2, rfl, rfl, h1, h2⟩ := h
    rw [List.nodup_append] at n
    obtain ⟨L, A⟩ := args_ok R h2 c n.2.1 (fun a m => off a (List.mem_append_right _ m)) od
    refine ⟨f1 :: L, by simp [A.l1], by simp [A.l2], by simp [A.l3], fun k o' e => ?_, ?_, fun a m => ?_, fun k i e => ?_, fun k i e => ?_⟩
    · cases k with
      | zero =>
        simp at e
        subst e
        exact ⟨v, rfl, by simpa using h1⟩
      | succ k => simpa using A.ow k o' (by simpa using e)
    · rw [List.flatten_cons, List.nodup_append]
      refine ⟨n.1, A.nd, fun a ha b hb e => ?_⟩
      subst e
      rcases A.src a hb with z | ⟨i, hi, z⟩
      · exact n.2.2 a ha a z rfl
      · exact off a (List.mem_append_left _ ha) i z
    · rw [List.flatten_cons, List.mem_append] at m
      rcases m with m | m
      · exact .inl (List.mem_append_left _ m)
      · rcases A.src a m with z | z
        · exact .inl (List.mem_append_right _ z)
        · exact .inr z
    · cases k with
      | zero => simp at e
      | succ k => simpa using A.var k i (by simpa using e)
    · cases k with
      | zero => simp at e
      | succ k => simpa using A.fpv k i (by simpa using e)
  | .inr i :: r, os, vs, fr, h, c, n, off, od => by
    unfold collect at c
    split at c
    · rename_i o e0
      simp only [Option.map_eq_some_iff] at c
      obtain ⟨os, c, rfl⟩ := c
      obtain ⟨v, vr, rfl, hv, h2⟩ := h
      obtain ⟨x, hx, w⟩ := R.sl i o e0
      rw [hv] at hx
      cases hx
      by_cases ho : ownAt env i = true
      · have eo : ownIx env (.inr i :: r) = i :: ownIx env r := by
          show (if ownAt env i = true then i :: ownIx env r else ownIx env r) = _
          rw [if_pos ho]
        rw [eo] at od
        obtain ⟨o1, o2⟩ := List.nodup_cons.mp od
        obtain ⟨L, A⟩ := args_ok R h2 c n off o2
        refine ⟨fp i :: L, by simp [A.l1], by simp [A.l2], by simp [A.l3], fun k o' e => ?_, ?_, fun a m => ?_, fun k j e => ?_, fun k j e hj => ?_⟩
        · cases k with
          | zero =>
            simp at e
            subst e
            exact ⟨v, rfl, by simpa using w⟩
          | succ k => simpa using A.ow k o' (by simpa using e)
        · rw [List.flatten_cons, List.nodup_append]
          refine ⟨R.nd i, A.nd, fun a ha b hb e => ?_⟩
          subst e
          rcases A.src a hb with z | ⟨j, hj, z⟩
          · exact off a z i ha
          · have := R.dj i j a ha z
            subst this
            exact o1 hj
        · rw [List.flatten_cons, List.mem_append] at m
          rw [eo]
          rcases m with m | m
          · exact .inr ⟨i, List.mem_cons_self, m⟩
          · rcases A.src a m with z | ⟨j, hj, z⟩
            · exact .inl z
            · exact .inr ⟨j, List.mem_cons_of_mem _ hj, z⟩
        · cases k with
          | zero =>
            simp at e
            subst e
            exact ⟨v, rfl, hv⟩
          | succ k => simpa using A.var k j (by simpa using e)
        · cases k with
          | zero =>
            simp at e
            subst e
            rfl
          | succ k => simpa using A.fpv k j (by simpa using e) hj
      · have eo : ownIx env (.inr i :: r) = ownIx env r := by
          show (if ownAt env i = true then i :: ownIx env r else ownIx env r) = _
          rw [if_neg ho]
        rw [eo] at od
        obtain ⟨L, A⟩ := args_ok R h2 c n off od
        have hl : o.isLeaf = true := by
          unfold ownAt at ho
          rw [e0] at ho
          simpa using ho
        have e1 := isLeaf_fr hl w
        rw [e1] at w
        refine ⟨[] :: L, by simp [A.l1], by simp [A.l2], by simp [A.l3], fun k o' e => ?_, by simpa using A.nd, fun a m => ?_, fun k j e => ?_, fun k j e hj => ?_⟩
        · cases k with
          | zero =>
            simp at e
            subst e
            exact ⟨v, rfl, by simpa using w⟩
          | succ k => simpa using A.ow k o' (by simpa using e)
        · rw [eo]
          exact A.src a (by simpa using m)
        · cases k with
          | zero =>
            simp at e
            subst e
            exact ⟨v, rfl, hv⟩
          | succ k => simpa using A.var k j (by simpa using e)
        · cases k with
          | zero =>
            simp at e
            subst e
            exact absurd hj ho
          | succ k => simpa using A.fpv k j (by simpa using e) hj
    · cases c
theorem posA_some {items : List Item} {env : Env} {j k : Nat} (h : posA items env j = some k) : ownAt env j = true ∧ items[k]? = some (Sum.inr j : Item) := by
  unfold posA at h
  split at h
  · rename_i ho
    refine ⟨ho, ?_⟩
    obtain ⟨hk, h1, _⟩ := List.findIdx?_eq_some_iff_getElem.mp h
    rw [List.getElem?_eq_getElem hk]
    cases q : items[k] with
    | inl o =>
      rw [q] at h1
      cases h1
    | inr i =>
      rw [q] at h1
      simp only [isV, beq_iff_eq] at h1
      rw [h1]
  · cases h
theorem posA_none {items : List Item} {env : Env} {j : Nat} (h : posA items env j = none) (ho : ownAt env j = true) : j ∉ ownIx env items := by
  unfold posA at h
  rw [if_pos ho] at h
  have h1 := List.findIdx?_eq_none_iff.mp h
  clear h
  induction items with
  | nil => simp [ownIx]
  | cons it r ih =>
    have h2 := ih fun x hx => h1 x (List.mem_cons_of_mem _ hx)
    cases it with
    | inl o => exact h2
    | inr i =>
      have h3 := h1 (.inr i) List.mem_cons_self
      simp only [isV, beq_eq_false_iff_ne] at h3
      unfold ownIx
      split
      · intro m
        rcases List.mem_cons.mp m with e | m
        · exact h3 e.symm
        · exact h2 m
      · exact h2
theorem ownIx_own {env : Env} : ∀ {items : List Item} {i : Nat}, i ∈ ownIx env items → ownAt env i = true ∧ ∃ k : Nat, items[k]? = some (Sum.inr i : Item)
  | [], i, h => by simp [ownIx] at h
  | .inl o :: r, i, h => by
    obtain ⟨h1, k, h2⟩ := ownIx_own (items := r) (i := i) h
    exact ⟨h1, k + 1, by simpa using h2⟩
  | .inr j :: r, i, h => by
    unfold ownIx at h
    split at h
    · rename_i ho
      rcases List.mem_cons.mp h with e | h
      · subst e
        exact ⟨ho, 0, rfl⟩
      · obtain ⟨h1, k, h2⟩ := ownIx_own (items := r) (i := i) h
        exact ⟨h1, k + 1, by simpa using h2⟩
    · obtain ⟨h1, k, h2⟩ := ownIx_own (items := r) (i := i) h
      exact ⟨h1, k + 1, by simpa using h2⟩
theorem join_some {α : Type} {x : Option (Option α)} {o : α} (h : x.join = some o) : x = some (some o) := by
  cases x with
  | none => cases h
  | some y => rw [show (some y).join = y from rfl] at h; rw [h]

/-- what a call of a def does to the state -/
theorem call_core {K : PySem.W.Frag} {g : Def} {args : List Arg} {σ : L2.St} {H : Hp} {Q : VK} {E : XK} (h : tE K (callF g args) false true σ H Q) : tCall (spOf K g) [] E (tCA K (evA args)) σ H Q := by
  obtain ⟨env, S, fp, z, env', R, he, k⟩ := h
  unfold callF at he
  simp only [Option.bind_eq_some_iff] at he
  obtain ⟨⟨items, e1⟩, h1, os, h2, h3⟩ := he
  simp only at h1 h2 h3
  split at h3
  · rename_i hod
    simp only [Option.bind_eq_some_iff, Option.some.injEq, Prod.mk.injEq] at h3
    obtain ⟨⟨r, os'⟩, h3, rfl, rfl⟩ := h3
    simp only at h3 k
    refine ⟨env, S, fp, items, e1, R, h1, fun vs S1 H1 fp1 fr R1 E1 I1 F1 => ?_⟩
    obtain ⟨L, A⟩ := args_ok R1 I1 h2 F1.nd F1.off hod
    have Lsome : ∀ a ∈ L.flatten, H1 a ≠ none := fun a m => by
      obtain ⟨l, hl, m2⟩ := List.mem_flatten.mp m
      obtain ⟨kk, hk⟩ := List.getElem?_of_mem hl
      have hlt : kk < L.length := (List.getElem?_eq_some_iff.mp hk).1
      have hlt2 : kk < os.length := by rw [A.l1, ← A.l3]; exact hlt
      obtain ⟨v, _, w⟩ := A.ow kk os[kk] (List.getElem?_eq_getElem hlt2)
      exact w.some a (by rw [List.getD_eq_getElem?_getD, hk]; exact m2)
    have Lun : ∀ a ∈ L.flatten, S1 a = none := fun a m => by
      rcases A.src a m with z | ⟨i, _, z⟩
      · exact F1.un a z
      · exact R1.un i a z
    rw [List.append_nil]
    refine ⟨os, S1, fun k => L.getD k [], r, os', ⟨R1.le, by simp [A.l1, A.l2], fun k o e => ?_, fun i => flat_nd A.nd, fun i j a m1 m2 => flat_dj A.nd m1 m2, fun i a m => Lun a (getD_flat m), fun i a m => Lsome a (getD_flat m)⟩, fun kk hk => ?_, h3, fun v S2 H2 fp2 fr2 R2 E2 w2 F2 => ?_⟩
    · rw [List.getElem?_map] at e
      cases q : os[k]? with
      | none => rw [q] at e; cases e
      | some o' =>
        rw [q] at e
        have e' : o' = o := Option.some.inj (Option.some.inj e)
        obtain ⟨v, hv, w⟩ := A.ow k o' q
        exact ⟨v, by rw [List.getElem?_map, hv] <;> rfl, by rw [← e']; exact w⟩
    · show L.getD kk [] = []
      rw [List.getD_eq_getElem?_getD, List.getElem?_eq_none (by rw [A.l3, ← A.l1]; exact hk)]
      rfl
    · -- the new footprints
      have hfpc : ∀ j, posA items e1 j = none → ∀ a ∈ fp1 j, a ∉ L.flatten := fun j hp a m1 m2 => by
        rcases A.src a m2 with z | ⟨i, hi, z⟩
        · exact F1.off a z j m1
        · have e := R1.dj i j a z m1
          subst e
          exact posA_none hp (ownIx_own hi).1 hi
      have off1 : ∀ j, posA items e1 j = none → ∀ a ∈ fp1 j, ∀ i, a ∉ L.getD i [] := fun j hp a m i z => hfpc j hp a m (getD_flat z)
      have own2 : ∀ kk, ∀ a ∈ fp2 kk, H1 a = none ∨ a ∈ L.flatten := fun kk a m => by
        rcases E2.own kk a m with z | ⟨j, z⟩
        · exact .inl z
        · exact .inr (getD_flat z)
      let fpN : Nat → List Addr := fun j => match posA items e1 j with
        | some kk => fp2 kk
        | none => fp1 j
      have fpS : ∀ {j kk}, posA items e1 j = some kk → fpN j = fp2 kk := fun {j kk} h => by
        show (match posA items e1 j with | some kk => fp2 kk | none => fp1 j) = _
        rw [h]
      have fpO : ∀ {j}, posA items e1 j = none → fpN j = fp1 j := fun {j} h => by
        show (match posA items e1 j with | some kk => fp2 kk | none => fp1 j) = _
        rw [h]
      have RN : Rel K (wb items os' e1) σ S2 H2 fpN := by
        refine ⟨R2.le, by unfold wb; rw [List.length_mapIdx]; exact R1.len, fun j o e => ?_, fun j => ?_, fun i j a m1 m2 => ?_, fun j a m => ?_, fun j a m => ?_⟩
        · unfold wb at e
          rw [List.getElem?_mapIdx] at e
          cases q0 : e1[j]? with
          | none => rw [q0] at e; cases e
          | some oo =>
            rw [q0] at e
            have e' := Option.some.inj e
            clear e
            cases hp : posA items e1 j with
            | some kk =>
              rw [hp] at e'
              have e3 := join_some e'
              obtain ⟨v', hv', w'⟩ := R2.sl kk o e3
              obtain ⟨_, hit⟩ := posA_some hp
              obtain ⟨v'', hv'', hs⟩ := A.var kk j hit
              rw [List.getElem?_map, hv''] at hv'
              have ev : v'' = v' := Option.some.inj (Option.some.inj hv')
              exact ⟨v'', hs, by rw [fpS hp, ev]; exact w'⟩
            | none =>
              rw [hp] at e'
              simp only at e'
              subst e'
              obtain ⟨v', hv', w'⟩ := R1.sl j o q0
              refine ⟨v', hv', ?_⟩
              rw [fpO hp]
              exact w'.evo (off1 j hp) E2
        · cases hp : posA items e1 j with
          | some kk => rw [fpS hp]; exact R2.nd kk
          | none => rw [fpO hp]; exact R1.nd j
        · cases hp : posA items e1 i with
          | some k1 =>
            rw [fpS hp] at m1
            cases hq : posA items e1 j with
            | some k2 =>
              rw [fpS hq] at m2
              have e := R2.dj k1 k2 a m1 m2
              subst e
              have h4 := (posA_some hp).2.symm.trans (posA_some hq).2
              cases h4
              rfl
            | none =>
              rw [fpO hq] at m2
              rcases own2 k1 a m1 with z | z
              · exact absurd z (R1.ins j a m2)
              · exact absurd z (hfpc j hq a m2)
          | none =>
            rw [fpO hp] at m1
            cases hq : posA items e1 j with
            | some k2 =>
              rw [fpS hq] at m2
              rcases own2 k2 a m2 with z | z
              · exact absurd z (R1.ins i a m1)
              · exact absurd z (hfpc i hp a m1)
            | none =>
              rw [fpO hq] at m2
              exact R1.dj i j a m1 m2
        · cases hp : posA items e1 j with
          | some kk => rw [fpS hp] at m; exact R2.un kk a m
          | none =>
            rw [fpO hp] at m
            exact ((E2.keep a (R1.ins j a m) (off1 j hp a m)).2).trans (R1.un j a m)
        · cases hp : posA items e1 j with
          | some kk => rw [fpS hp] at m; exact R2.ins kk a m
          | none =>
            rw [fpO hp] at m
            rw [(E2.keep a (R1.ins j a m) (off1 j hp a m)).1]
            exact R1.ins j a m
      have back : ∀ a, (H1 a = none ∨ a ∈ L.flatten) → H a = none ∨ ∃ j, a ∈ fp j := fun a m => by
        rcases m with z | z
        · exact E1.back (.inl z)
        · rcases A.src a z with y | ⟨i, _, y⟩
          · exact F1.src a y
          · exact E1.own i a y
      have EN : Evo S H fp S2 H2 fpN := by
        refine ⟨E1.sub.trans E2.sub, fun a ha hn => ?_, fun j a m => ?_⟩
        · obtain ⟨h4, h5⟩ := E1.keep a ha hn
          have hn2 : ∀ i, a ∉ L.getD i [] := fun i m => by
            rcases back a (.inr (getD_flat m)) with z | ⟨j, z⟩
            · exact ha z
            · exact hn j z
          obtain ⟨h6, h7⟩ := E2.keep a (by rw [h4]; exact ha) hn2
          exact ⟨h6.trans h4, h7.trans h5⟩
        · cases hp : posA items e1 j with
          | some kk => rw [fpS hp] at m; exact back a (own2 kk a m)
          | none => rw [fpO hp] at m; exact E1.own j a m
      refine k v S2 H2 fpN fr2 RN EN w2 (fun z => nomatch z) fun _ => ⟨F2.nd, fun a m => ?_, fun a m j z => ?_, F2.un⟩
      · rcases F2.src a m with z | ⟨j, z⟩
        · exact back a (.inl z)
        · exact back a (.inr (getD_flat z))
      · cases hp : posA items e1 j with
        | some kk => rw [fpS hp] at z; exact F2.off a m kk z
        | none =>
          rw [fpO hp] at z
          rcases F2.src a m with y | ⟨i, y⟩
          · exact R1.ins j a z y
          · exact hfpc j hp a z (getD_flat y)
  · cases h3
end Mv

set_option Elab.async false
set_option linter.all false
set_option maxRecDepth 100000
set_option maxHeartbeats 2000000
namespace Mv
open PySem PySem.Spec PyProof.Rows L2

theorem se_call {X : Cx} {k : Nat} {f : Addr} {fd : FuncData} {ps : List Str} {x : Str} {p pos : Pos} {e : Expr} {es : List Expr} {g : Def} {args : List Arg} (F : FnOk X.prog X.w X.K X.mg X.base CX0 k f fd ps (spOf X.K g)) (hr : Room k X.A) (hg : Gl X x) (hm : X.mg x = some (.ref f)) (hk : PySem.W.keepIn X.K (.ref f) = true) (hb : Binds X.K fd ps [])
    (ha : SC X (e :: es) args) (hdb : (x == ("__debug__" : Str)) = false := by decide) (he : starEach (e :: es) X.env = (false, eval e X.env) :: starEach es X.env := by rfl) (hpl : (backTo pos (starEach es X.env)).any (·.1) = false := by rfl) :
    SE X (.Call (.Name x p) (e :: es) [] pos) (callF g args) false true :=
  ⟨PE.imp (pe_call F hr hg hm hk hb .nil pass0 ha.pa hdb he hpl) fun _ _ _ h => call_core h, fun z => nomatch z⟩

/-! ### statements -/
def EndsOk (K : PySem.W.Frag) (out : Out) (env' : Env) (asg : List Nat) (D : Ends) (σ : L2.St) (S H : Hp) (fp : Nat → List Addr) : Prop :=
  match out with
  | .nx => ∀ σ' S' H' fp', Rel K env' σ' S' H' fp' → Evo S H fp S' H' fp' → (∀ k, k ∉ asg → σ'[k]? = σ[k]?) → D.nx σ' H'
  | .bk => ∀ σ' S' H' fp', Rel K env' σ' S' H' fp' → Evo S H fp S' H' fp' → (∀ k, k ∉ asg → σ'[k]? = σ[k]?) → D.bk σ' H'
  | .ct => ∀ σ' S' H' fp', Rel K env' σ' S' H' fp' → Evo S H fp S' H' fp' → (∀ k, k ∉ asg → σ'[k]? = σ[k]?) → D.ct σ' H'
  | .rt o => ∀ v σ' S' H' fp' fr, Rel K env' σ' S' H' fp' → Evo S H fp S' H' fp' → (∀ k, k ∉ asg → σ'[k]? = σ[k]?) → Ow K S' H' o v fr → Fresh S H fp S' fp' fr → D.rt v H'
def tSS (K : PySem.W.Frag) (g : SSem) (asg : List Nat) : TS := fun D σ H => ∃ env S fp out env', Rel K env σ S H fp ∧ g env = some (out, env') ∧ EndsOk K out env' asg D σ S H fp
structure SS (X : Cx) (st : Stmt) (g : SSem) (asg : List Nat) : Prop where
  ps : PS X st (tSS X.K g asg)
structure SSs (X : Cx) (sts : List Stmt) (g : SSem) (asg : List Nat) : Prop where
  ps : PSs X sts (tSS X.K g asg)
def skip : SSem := fun env => some (.nx, env)
def seq (g1 g2 : SSem) : SSem := fun env => (g1 env).bind fun p => match p.1 with
  | .nx => g2 p.2
  | o => some (o, p.2)
section
variable {K : PySem.W.Frag} {out : Out} {env' : Env} {asg asg' : List Nat} {D : Ends} {σ σ1 : L2.St} {S H S1 H1 : Hp} {fp fp1 : Nat → List Addr}
/-- from a later start -/
theorem EndsOk.later (h : EndsOk K out env' (asg ++ asg') D σ S H fp) (E : Evo S H fp S1 H1 fp1) (ha : ∀ k, k ∉ asg → σ1[k]? = σ[k]?) : EndsOk K out env' asg' D σ1 S1 H1 fp1 := by
  have hk : ∀ {σ' : L2.St}, (∀ k, k ∉ asg' → σ'[k]? = σ1[k]?) → ∀ k, k ∉ asg ++ asg' → σ'[k]? = σ[k]? := fun q k m => by
    rw [List.mem_append, not_or] at m
    exact (q k m.2).trans (ha k m.1)
  cases out with
  | nx => exact fun σ' S' H' fp' R' E' q => h σ' S' H' fp' R' (E.trans E') (hk q)
  | bk => exact fun σ' S' H' fp' R' E' q => h σ' S' H' fp' R' (E.trans E') (hk q)
  | ct => exact fun σ' S' H' fp' R' E' q => h σ' S' H' fp' R' (E.trans E') (hk q)
  | rt o => exact fun v σ' S' H' fp' fr R' E' q w F => h v σ' S' H' fp' fr R' (E.trans E') (hk q) w (Fresh.pre E F)
theorem EndsOk.wk (h : EndsOk K out env' asg' D σ S H fp) (i : ∀ k, k ∈ asg → k ∈ asg') : EndsOk K out env' asg D σ S H fp := by
  cases out with
  | nx => exact fun σ' S' H' fp' R' E' q => h σ' S' H' fp' R' E' fun k m => q k fun z => m (i k z)
  | bk => exact fun σ' S' H' fp' R' E' q => h σ' S' H' fp' R' E' fun k m => q k fun z => m (i k z)
  | ct => exact fun σ' S' H' fp' R' E' q => h σ' S' H' fp' R' E' fun k m => q k fun z => m (i k z)
  | rt o => exact fun v σ' S' H' fp' fr R' E' q w F => h v σ' S' H' fp' fr R' E' (fun k m => q k fun z => m (i k z)) w F
end
section
variable {X : Cx} {st : Stmt} {sts : List Stmt} {g g1 g2 : SSem} {a1 a2 asg : List Nat} {e : Expr} {f : ESem} {q m : Bool} {pos : Pos}
theorem ss_imp (h : SS X st g a1) (i : ∀ k, k ∈ a1 → k ∈ asg) : SS X st g asg := ⟨PS.imp h.ps fun D σ H ⟨env, S, fp, out, env', R, he, k⟩ => ⟨env, S, fp, out, env', R, he, EndsOk.wk k i⟩⟩
theorem sss_imp (h : SSs X sts g a1) (i : ∀ k, k ∈ a1 → k ∈ asg) : SSs X sts g asg := ⟨PSs.imp h.ps fun D σ H ⟨env, S, fp, out, env', R, he, k⟩ => ⟨env, S, fp, out, env', R, he, EndsOk.wk k i⟩⟩
theorem sss_nil : SSs X [] skip [] := by
  refine ⟨PSs.imp pss_nil fun D σ H h => ?_⟩
  obtain ⟨env, S, fp, out, env', R, he, k⟩ := h
  cases he
  exact k σ S H fp R (Evo.refl _ _ _) fun _ _ => rfl
theorem seq_core {K : PySem.W.Frag} {D : Ends} {σ : L2.St} {H : Hp} (h : tSS K (seq g1 g2) (a1 ++ a2) D σ H) : tSeq (tSS K g1 a1) (tSS K g2 a2) D σ H := by
  obtain ⟨env, S, fp, out, env', R, he, k⟩ := h
  unfold seq at he
  simp only [Option.bind_eq_some_iff] at he
  obtain ⟨⟨o, e1⟩, h1, h2⟩ := he
  simp only at h1 h2
  refine ⟨env, S, fp, o, e1, R, h1, ?_⟩
  cases o with
  | nx => exact fun σ' S' H' fp' R' E' hk => ⟨e1, S', fp', out, env', R', h2, EndsOk.later k E' hk⟩
  | bk =>
    cases h2
    exact fun σ' S' H' fp' R' E' hk => k σ' S' H' fp' R' E' fun k m => hk k fun z => m (List.mem_append_left _ z)
  | ct =>
    cases h2
    exact fun σ' S' H' fp' R' E' hk => k σ' S' H' fp' R' E' fun k m => hk k fun z => m (List.mem_append_left _ z)
  | rt o =>
    cases h2
    exact fun v σ' S' H' fp' fr R' E' hk w F => k v σ' S' H' fp' fr R' E' (fun k m => hk k fun z => m (List.mem_append_left _ z)) w F
theorem sss_cons (h1 : SS X st g1 a1) (h2 : SSs X sts g2 a2) : SSs X (st :: sts) (seq g1 g2) (a1 ++ a2) := ⟨PSs.imp (pss_cons h1.ps h2.ps) fun _ _ _ h => seq_core h⟩
theorem sss_one (h1 : SS X st g1 a1) : SSs X [st] g1 a1 := ⟨pss_one h1.ps⟩
/-- freeze a slot's own thing: no code -/
def fzS (i : Nat) (g : SSem) : SSem := fun env => match env[i]? with
  | some (some o) => o.frz.bind fun t => g (env.set i (some (.leaf t)))
  | _ => none
theorem Rel.fz {K : PySem.W.Frag} {env : Env} {σ : L2.St} {S H : Hp} {fp : Nat → List Addr} {i : Nat} {o : O} {t : D} (R : Rel K env σ S H fp) (e : env[i]? = some (some o)) (h : o.frz = some t) :
    Rel K (env.set i (some (.leaf t))) σ (withF S H (fp i)) H (fun j => if j = i then [] else fp j) ∧ Evo S H fp (withF S H (fp i)) H (fun j => if j = i then [] else fp j) := by
  have un : ∀ a ∈ fp i, S a = none := R.un i
  refine ⟨⟨withF_le R.le, by rw [List.length_set]; exact R.len, fun j o' e' => ?_, fun j => ?_, fun j k a m1 m2 => ?_, fun j a m => ?_, fun j a m => ?_⟩, ⟨withF_sub un, fun a ha hn => ⟨rfl, withF_off (hn i)⟩, fun j a m => ?_⟩⟩
  · by_cases hj : i = j
    · subst hj
      have hlt : i < env.length := (List.getElem?_eq_some_iff.mp e).1
      rw [List.getElem?_set_self hlt] at e'
      cases e'
      obtain ⟨v, e2, w⟩ := R.sl i o e
      rw [if_pos rfl]
      exact ⟨v, e2, ow_leaf (frz_fz R.le un w h)⟩
    · rw [List.getElem?_set_ne hj] at e'
      obtain ⟨v, e2, w⟩ := R.sl j o' e'
      rw [if_neg (fun z => hj z.symm)]
      exact ⟨v, e2, w.mono (withF_sub un) (Same.refl _)⟩
  · by_cases hj : j = i
    · rw [if_pos hj]; exact List.nodup_nil
    · rw [if_neg hj]; exact R.nd j
  · by_cases hj : j = i
    · rw [if_pos hj] at m1; cases m1
    · rw [if_neg hj] at m1
      by_cases hk : k = i
      · rw [if_pos hk] at m2; cases m2
      · rw [if_neg hk] at m2
        exact R.dj j k a m1 m2
  · by_cases hj : j = i
    · rw [if_pos hj] at m; cases m
    · rw [if_neg hj] at m
      rw [withF_off fun z => hj (R.dj j i a m z)]
      exact R.un j a m
  · by_cases hj : j = i
    · rw [if_pos hj] at m; cases m
    · rw [if_neg hj] at m
      exact R.ins j a m
  · by_cases hj : j = i
    · rw [if_pos hj] at m; cases m
    · rw [if_neg hj] at m
      exact .inr ⟨j, m⟩
theorem sss_fz (i : Nat) (h : SSs X sts g asg) : SSs X sts (fzS i g) asg := by
  refine ⟨PSs.imp h.ps fun D σ H h => ?_⟩
  obtain ⟨env, S, fp, out, env', R, he, k⟩ := h
  unfold fzS at he
  split at he
  · rename_i o e0
    simp only [Option.bind_eq_some_iff] at he
    obtain ⟨t, h1, h2⟩ := he
    obtain ⟨R1, E1⟩ := R.fz e0 h1
    exact ⟨_, _, _, out, env', R1, h2, EndsOk.later (asg := []) k E1 fun _ _ => rfl⟩
  · cases he

/-! ### stores -/
theorem Rel.set {K : PySem.W.Frag} {env : Env} {σ : L2.St} {S H : Hp} {fp : Nat → List Addr} {i : Nat} {o : O} {v : V} {fr : List Addr} (R : Rel K env σ S H fp) (w : Ow K S H o v fr) (nd : fr.Nodup) (off : ∀ a ∈ fr, ∀ j, a ∉ fp j) (un : ∀ a ∈ fr, S a = none) :
    Rel K (env.set i (some o)) (σ.set i (some v)) S H (fun j => if j = i then fr else fp j) := by
  refine ⟨R.le, by rw [List.length_set, List.length_set]; exact R.len, fun j o' e' => ?_, fun j => ?_, fun j k a m1 m2 => ?_, fun j a m => ?_, fun j a m => ?_⟩
  · by_cases hj : i = j
    · subst hj
      have hlt : i < env.length := by
        have := (List.getElem?_eq_some_iff.mp e').1
        rw [List.length_set] at this
        exact this
      rw [List.getElem?_set_self hlt] at e'
      cases e'
      rw [if_pos rfl]
      exact ⟨v, List.getElem?_set_self (by rw [← R.len]; exact hlt), w⟩
    · rw [List.getElem?_set_ne hj] at e'
      obtain ⟨v', e2, w'⟩ := R.sl j o' e'
      rw [if_neg (fun z => hj z.symm)]
      exact ⟨v', by rw [List.getElem?_set_ne hj]; exact e2, w'⟩
  · by_cases hj : j = i
    · rw [if_pos hj]; exact nd
    · rw [if_neg hj]; exact R.nd j
  · by_cases hj : j = i
    · rw [if_pos hj] at m1
      by_cases hk : k = i
      · rw [hj, hk]
      · rw [if_neg hk] at m2
        exact absurd m2 (off a m1 k)
    · rw [if_neg hj] at m1
      by_cases hk : k = i
      · rw [if_pos hk] at m2
        exact absurd m1 (off a m2 j)
      · rw [if_neg hk] at m2
        exact R.dj j k a m1 m2
  · by_cases hj : j = i
    · rw [if_pos hj] at m; exact un a m
    · rw [if_neg hj] at m
      exact R.un j a m
  · by_cases hj : j = i
    · rw [if_pos hj] at m; exact w.some a m
    · rw [if_neg hj] at m
      exact R.ins j a m
theorem Evo.set {S H S' H' : Hp} {fp fp' : Nat → List Addr} {i : Nat} {fr : List Addr} (E : Evo S H fp S' H' fp') (F : ∀ a ∈ fr, H a = none ∨ ∃ j, a ∈ fp j) : Evo S H fp S' H' (fun j => if j = i then fr else fp' j) :=
  ⟨E.sub, E.keep, fun j a m => by
    by_cases hj : j = i
    · rw [if_pos hj] at m
      exact F a m
    · rw [if_neg hj] at m
      exact E.own j a m⟩
def setS (i : Nat) (m : Bool) (f : ESem) : SSem := fun env => (f env).bind fun p => if (m || p.1.isLeaf) = true then some (.nx, p.2.set i (some p.1)) else none
theorem setS_some {i : Nat} {env env' : Env} {out : Out} (h : setS i m f env = some (out, env')) : ∃ o e1, f env = some (o, e1) ∧ (m = true ∨ o.isLeaf = true) ∧ out = .nx ∧ env' = e1.set i (some o) := by
  unfold setS at h
  simp only [Option.bind_eq_some_iff] at h
  obtain ⟨⟨o, e1⟩, h1, h2⟩ := h
  split at h2
  · rename_i hc
    simp only [Bool.or_eq_true] at hc
    cases h2
    exact ⟨o, e1, h1, hc, rfl, rfl⟩
  · cases h2
theorem fresh_of {K : PySem.W.Frag} {S H S1 H1 : Hp} {fp fp1 : Nat → List Addr} {o : O} {v : V} {fr : List Addr} (hl : m = true ∨ o.isLeaf = true) (w : Ow K S1 H1 o v fr) (n : m = true → Fresh S H fp S1 fp1 fr) : Fresh S H fp S1 fp1 fr := by
  rcases hl with hl | hl
  · exact n hl
  · rw [isLeaf_fr hl w]
    exact Fresh.nil
theorem set_core {K : PySem.W.Frag} {i : Nat} {D : Ends} {σ : L2.St} {H : Hp} (h : tSS K (setS i m f) [i] D σ H) : tAsg (tE K f q m) (gName i) D σ H := by
  obtain ⟨env, S, fp, out, env', R, he, k⟩ := h
  obtain ⟨o, e1, h1, hl, rfl, rfl⟩ := setS_some he
  refine ⟨env, S, fp, o, e1, R, h1, fun v S1 H1 fp1 fr R1 E1 w g n => ?_⟩
  have F := fresh_of hl w n
  refine k _ _ _ _ (R1.set (i := i) w F.nd F.off F.un) (E1.set F.src) fun j hj => ?_
  rw [List.getElem?_set_ne]
  intro z
  exact hj (List.mem_singleton.mpr z.symm)
theorem ss_set {i : Nat} {x : Str} {pos' : Pos} (hN : X.N.Nodup) (hi : X.N[i]? = some x) (hx : Loc X.env.scope x) (h : SE X e f q m) (hs : swapsWith e (some (.Name x pos')) pos.line X.env = pure false := by rfl) (hf : X.fn x = true ∨ X.env.scope.names.lookup x = some .local := by first | exact .inl rfl | exact .inr rfl | assumption) :
    SS X (.Assign [.Name x pos'] e pos) (setS i m f) [i] := ⟨PS.imp (ps_set hN hi hx h.pe hs hf) fun _ _ _ h => set_core h⟩
/-- e; -/
def dropS (f : ESem) : SSem := fun env => (f env).map fun p => (.nx, p.2)
theorem ss_expr (h : SE X e f q m) (hs : swapsWith e none pos.line X.env = pure false := by rfl) : SS X (.Expr e pos) (dropS f) [] := by
  refine ⟨PS.imp (ps_expr h.pe hs) fun D σ H h => ?_⟩
  obtain ⟨env, S, fp, out, env', R, he, k⟩ := h
  unfold dropS at he
  simp only [Option.map_eq_some_iff, Prod.mk.injEq] at he
  obtain ⟨⟨o, e1⟩, h1, rfl, rfl⟩ := he
  exact ⟨env, S, fp, o, e1, R, h1, fun v S1 H1 fp1 fr R1 E1 w g n => k σ S1 H1 fp1 R1 E1 fun _ _ => rfl⟩
/-- return e -/
def retS (m : Bool) (f : ESem) : SSem := fun env => (f env).bind fun p => if (m || p.1.isLeaf) = true then some (.rt p.1, p.2) else none
theorem ss_ret (h : SE X e f q m) : SS X (.Return (some e) pos) (retS m f) [] := by
  refine ⟨PS.imp (ps_ret h.pe) fun D σ H h => ?_⟩
  obtain ⟨env, S, fp, out, env', R, he, k⟩ := h
  unfold retS at he
  simp only [Option.bind_eq_some_iff] at he
  obtain ⟨⟨o, e1⟩, h1, h2⟩ := he
  split at h2
  · rename_i hc
    simp only [Bool.or_eq_true] at hc
    cases h2
    exact ⟨env, S, fp, o, e1, R, h1, fun v S1 H1 fp1 fr R1 E1 w g n => k v σ S1 H1 fp1 fr R1 E1 (fun _ _ => rfl) w (fresh_of hc w n)⟩
  · cases h2
/-- return x, x one's own: it goes -/
def retV (i : Nat) : SSem := fun env => match env[i]? with
  | some (some o) => some (.rt o, env.set i none)
  | _ => none
theorem Rel.drop {K : PySem.W.Frag} {env : Env} {σ : L2.St} {S H : Hp} {fp : Nat → List Addr} {i : Nat} (R : Rel K env σ S H fp) : Rel K (env.set i none) σ S H (fun j => if j = i then [] else fp j) := by
  refine ⟨R.le, by rw [List.length_set]; exact R.len, fun j o' e' => ?_, fun j => ?_, fun j k a m1 m2 => ?_, fun j a m => ?_, fun j a m => ?_⟩
  · by_cases hj : i = j
    · subst hj
      by_cases hlt : i < env.length
      · rw [List.getElem?_set_self hlt] at e'
        cases e'
      · rw [List.getElem?_eq_none (by rw [List.length_set]; omega)] at e'
        cases e'
    · rw [List.getElem?_set_ne hj] at e'
      rw [if_neg (fun z => hj z.symm)]
      exact R.sl j o' e'
  · by_cases hj : j = i
    · rw [if_pos hj]; exact List.nodup_nil
    · rw [if_neg hj]; exact R.nd j
  · by_cases hj : j = i
    · rw [if_pos hj] at m1; cases m1
    · rw [if_neg hj] at m1
      by_cases hk : k = i
      · rw [if_pos hk] at m2; cases m2
      · rw [if_neg hk] at m2
        exact R.dj j k a m1 m2
  · by_cases hj : j = i
    · rw [if_pos hj] at m; cases m
    · rw [if_neg hj] at m
      exact R.un j a m
  · by_cases hj : j = i
    · rw [if_pos hj] at m; cases m
    · rw [if_neg hj] at m
      exact R.ins j a m
theorem Evo.drop {S H : Hp} {fp : Nat → List Addr} {i : Nat} : Evo S H fp S H (fun j => if j = i then [] else fp j) :=
  ⟨Same.refl _, fun _ _ _ => ⟨rfl, rfl⟩, fun j a m => by
    by_cases hj : j = i
    · rw [if_pos hj] at m; cases m
    · rw [if_neg hj] at m
      exact .inr ⟨j, m⟩⟩
theorem ss_retV {i : Nat} (h : PE X e (tVar i)) : SS X (.Return (some e) pos) (retV i) [] := by
  refine ⟨PS.imp (ps_ret h) fun D σ H h => ?_⟩
  obtain ⟨env, S, fp, out, env', R, he, k⟩ := h
  unfold retV at he
  split at he
  · rename_i o e0
    cases he
    obtain ⟨v, e2, w⟩ := R.sl i o e0
    refine ⟨v, e2, k v σ S H _ (fp i) R.drop Evo.drop (fun _ _ => rfl) w ⟨R.nd i, fun a m => .inr ⟨i, m⟩, fun a m j z => ?_, R.un i⟩⟩
    by_cases hj : j = i
    · rw [if_pos hj] at z; cases z
    · rw [if_neg hj] at z
      exact hj (R.dj j i a z m)
  · cases he
def retN : SSem := fun env => some (.rt (.leaf .none), env)
theorem ss_retN : SS X (.Return none pos) retN [] := by
  refine ⟨PS.imp ps_retN fun D σ H h => ?_⟩
  obtain ⟨env, S, fp, out, env', R, he, k⟩ := h
  cases he
  exact k .non σ S H fp [] R (Evo.refl _ _ _) (fun _ _ => rfl) (ow_leaf (by simp only [Fz])) Fresh.nil
def brkS : SSem := fun env => some (.bk, env)
def contS : SSem := fun env => some (.ct, env)
theorem ss_brk : SS X (.Break pos) brkS [] := by
  refine ⟨PS.imp ps_break fun D σ H h => ?_⟩
  obtain ⟨env, S, fp, out, env', R, he, k⟩ := h
  cases he
  exact k σ S H fp R (Evo.refl _ _ _) (fun _ _ => rfl)
theorem ss_cont : SS X (.Continue pos) contS [] := by
  refine ⟨PS.imp ps_continue fun D σ H h => ?_⟩
  obtain ⟨env, S, fp, out, env', R, he, k⟩ := h
  cases he
  exact k σ S H fp R (Evo.refl _ _ _) (fun _ _ => rfl)
def failS : SSem := fun _ => none
theorem ss_fail : SS X st failS [] := ⟨PS.imp ps_never fun D σ H h => by
  obtain ⟨env, S, fp, out, env', R, he, k⟩ := h
  cases he⟩
theorem sss_fail : SSs X sts failS [] := ⟨PSs.imp pss_never fun D σ H h => by
  obtain ⟨env, S, fp, out, env', R, he, k⟩ := h
  cases he⟩
def ifS (c : TSem) (g1 g2 : SSem) : SSem := fun env => (c env).bind fun p => if p.1 = true then g1 p.2 else g2 p.2
theorem ss_if {c : Expr} {fc : TSem} {qc : Bool} {s1 s2 : List Stmt} (hc : ST X c fc qc) (h1 : SSs X s1 g1 a1) (h2 : SSs X s2 g2 a2) : SS X (.If c s1 s2 pos) (ifS fc g1 g2) (a1 ++ a2) := by
  refine ⟨PS.imp (ps_if hc.pt h1.ps h2.ps) fun D σ H h => ?_⟩
  obtain ⟨env, S, fp, out, env', R, he, k⟩ := h
  unfold ifS at he
  simp only [Option.bind_eq_some_iff] at he
  obtain ⟨⟨b, e1⟩, h3, h4⟩ := he
  simp only at h3 h4
  refine ⟨env, S, fp, b, e1, R, h3, fun S1 H1 fp1 R1 E1 g => ?_⟩
  have k1 : EndsOk X.K out env' (a1 ++ a2) D σ S1 H1 fp1 := EndsOk.later (asg := []) k E1 fun _ _ => rfl
  cases b with
  | true =>
    rw [if_pos rfl] at h4
    show tSS X.K g1 a1 D σ H1
    exact ⟨e1, S1, fp1, out, env', R1, h4, EndsOk.wk k1 fun _ m => List.mem_append_left _ m⟩
  | false =>
    rw [if_neg Bool.false_ne_true] at h4
    show tSS X.K g2 a2 D σ H1
    exact ⟨e1, S1, fp1, out, env', R1, h4, EndsOk.wk k1 fun _ m => List.mem_append_right _ m⟩

/-! ### targets -/
abbrev GSem := D → Env → Option Env
def tGt (K : PySem.W.Frag) (g : GSem) (asg : List Nat) : TG := fun v σ H Q => ∃ env S fp t env', Rel K env σ S H fp ∧ Fz K S t v ∧ g t env = some env' ∧
  ∀ σ' S' H' fp', Rel K env' σ' S' H' fp' → Evo S H fp S' H' fp' → (∀ k, k ∉ asg → σ'[k]? = σ[k]?) → σ'.length = σ.length → Q σ' H'
structure SG (X : Cx) (tg : Expr) (g : GSem) (asg : List Nat) : Prop where
  pg : PG X tg (tGt X.K g asg)
abbrev GsSem := List D → Env → Option Env
def tGts (K : PySem.W.Frag) (g : GsSem) (asg : List Nat) : TGs := fun vs σ H Q => ∃ env S fp ts env', Rel K env σ S H fp ∧ FzL K S ts vs ∧ g ts env = some env' ∧
  ∀ σ' S' H' fp', Rel K env' σ' S' H' fp' → Evo S H fp S' H' fp' → (∀ k, k ∉ asg → σ'[k]? = σ[k]?) → σ'.length = σ.length → Q σ' H'
structure SGs (X : Cx) (tgs : List Expr) (g : GsSem) (asg : List Nat) : Prop where
  pg : PGs X tgs (tGts X.K g asg)
def gN (i : Nat) : GSem := fun t env => some (env.set i (some (.leaf t)))
theorem sg_name {i : Nat} {x : Str} (hN : X.N.Nodup) (hi : X.N[i]? = some x) (hx : Loc X.env.scope x) (hf : X.fn x = true ∨ X.env.scope.names.lookup x = some .local := by first | exact .inl rfl | exact .inr rfl | assumption) : SG X (.Name x pos) (gN i) [i] := by
  refine ⟨PG.imp (pg_name hN hi hx hf) fun v σ H Q h => ?_⟩
  obtain ⟨env, S, fp, t, env', R, w, he, k⟩ := h
  cases he
  refine k _ _ _ _ (R.set (i := i) (ow_leaf w) List.nodup_nil (by intro a h; cases h) (by intro a h; cases h)) Evo.drop (fun j hj => ?_) List.length_set
  · rw [List.getElem?_set_ne]
    intro z
    exact hj (List.mem_singleton.mpr z.symm)
def gNl : GsSem := fun ts env => match ts with
  | [] => some env
  | _ => none
def gCn (g : GSem) (gs : GsSem) : GsSem := fun ts env => match ts with
  | t :: r => (g t env).bind fun e1 => gs r e1
  | [] => none
theorem sgs_nil : SGs X [] gNl [] := by
  refine ⟨PGs.imp pgs_nil fun v σ H Q h => ?_⟩
  obtain ⟨env, S, fp, ts, env', R, w, he, k⟩ := h
  cases ts with
  | nil =>
    cases he
    exact ⟨w.nilE, k σ S H fp R (Evo.refl _ _ _) (fun _ _ => rfl) rfl⟩
  | cons t r => cases he
theorem sgs_cons {es : List Expr} {g : GSem} {gs : GsSem} (h1 : SG X e g a1) (h2 : SGs X es gs a2) (hs : (assignEach (e :: es) X.env).map (·.2) = assign e X.env :: (assignEach es X.env).map (·.2) := by rfl) : SGs X (e :: es) (gCn g gs) (a1 ++ a2) := by
  refine ⟨PGs.imp (pgs_cons h1.pg h2.pg hs) fun v σ H Q h => ?_⟩
  obtain ⟨env, S, fp, ts, env', R, w, he, k⟩ := h
  cases ts with
  | nil => cases he
  | cons t r =>
    obtain ⟨x, xs, rfl, w1, w2⟩ := w.inv
    have he : (g t env).bind (fun e1 => gs r e1) = some env' := he
    simp only [Option.bind_eq_some_iff] at he
    obtain ⟨e1, h3, h4⟩ := he
    refine ⟨x, xs, rfl, env, S, fp, t, e1, R, w1, h3, fun σ1 S1 H1 fp1 R1 i1 k1 l1 => ⟨e1, S1, fp1, r, env', R1, w2.same i1.sub, h4, fun σ2 S2 H2 fp2 R2 i2 k2 l2 => k σ2 S2 H2 fp2 R2 (i1.trans i2) (fun j hj => ?_) (l2.trans l1)⟩⟩
    rw [List.mem_append, not_or] at hj
    exact (k2 j hj.2).trans (k1 j hj.1)
def gT (n : Nat) (gs : GsSem) : GSem := fun t env => match t with
  | .tuple ts => if ts.length = n then gs ts env else none
  | _ => none
theorem sg_tup {es : List Expr} {kk : Nat} {n : Nat} {gs : GsSem} (hc : X.calm = true) (h : SGs X es gs asg)
    (hn : (assignEach es X.env).length = n := by rfl) (hst : (assignEach es X.env).findIdx? (·.1) = none := by rfl) : SG X (.Tuple es kk pos) (gT n gs) asg := by
  refine ⟨PG.imp (pg_tup hc h.pg hn hst) fun v σ H Q h => ?_⟩
  obtain ⟨env, S, fp, t, env', R, w, he, k⟩ := h
  cases t with
  | tuple ts =>
    have he : (if ts.length = n then gs ts env else none) = some env' := he
    split at he
    · rename_i hl
      simp only [Fz] at w
      obtain ⟨a, vs, rfl, w1, w2⟩ := w
      exact ⟨a, vs, rfl, SqT.of (R.le _ _ w1), by rw [w2.len]; exact hl, env, S, fp, ts, env', R, w2, he, k⟩
    · cases he
  | _ => cases he
/-- target = e, e frozen -/
def asgS (g : GSem) (f : ESem) : SSem := fun env => (f env).bind fun p => match p.1 with
  | .leaf t => (g t p.2).map fun e2 => (.nx, e2)
  | _ => none
theorem ss_asg {tg : Expr} {g : GSem} (h : SE X e f q m) (hg : SG X tg g asg) (hs : swapsWithSole [tg] e pos.line X.env = pure false := by rfl) (hw : swappedStores [tg] e X.env = pure none := by rfl)
    (h1 : (assignEach [tg] X.env).map (·.2) = [assign tg X.env] := by rfl) : SS X (.Assign [tg] e pos) (asgS g f) asg := by
  refine ⟨PS.imp (ps_asg h.pe hg.pg hs hw h1) fun D σ H h => ?_⟩
  obtain ⟨env, S, fp, out, env', R, he, k⟩ := h
  unfold asgS at he
  simp only [Option.bind_eq_some_iff] at he
  obtain ⟨⟨o, e1⟩, h3, h4⟩ := he
  simp only at h3 h4
  split at h4
  · rename_i t
    simp only [Option.map_eq_some_iff, Prod.mk.injEq] at h4
    obtain ⟨e2, h4, rfl, rfl⟩ := h4
    refine ⟨env, S, fp, _, e1, R, h3, fun v S1 H1 fp1 fr R1 E1 w g n => ⟨e1, S1, fp1, t, e2, R1, (ow_leafE w).2, h4, fun σ2 S2 H2 fp2 R2 i2 k2 _ => k σ2 S2 H2 fp2 R2 (E1.trans i2) k2⟩⟩
  · cases h4
end

/-! ### what a loop walks -/
structure ItOk (K : PySem.W.Frag) (J : It) (A : List Addr) (S0 H0 : Hp) (ts : List D) : Prop where
  go : ∀ S H i, Same S0 S → Same S H → (∀ a ∈ A, H a = H0 a) → i < ts.length → J.go i H
  stop : ∀ S H i, Same S0 S → Same S H → (∀ a ∈ A, H a = H0 a) → ts.length ≤ i → J.stop i H
  yld : ∀ S H i t x H', Same S0 S → Same S H → (∀ a ∈ A, H a = H0 a) → ts[i]? = some t → J.yld i H x H' → ∃ S', Gr S H S' H' ∧ Fz K S' t x
abbrev ISem := Env → Option (List D × Env)
def tIt (K : PySem.W.Frag) (f : ISem) : TI := fun σ H R => ∃ env S fp ts env', Rel K env σ S H fp ∧ f env = some (ts, env') ∧
  ∀ J S' H' fp' A, Rel K env' σ S' H' fp' → Evo S H fp S' H' fp' → ItOk K J A S' H' ts → (∀ a ∈ A, H' a ≠ none ∧ ∀ i, a ∉ fp' i) → R J H'
structure SI (X : Cx) (tg iter : Expr) (f : ISem) : Prop where
  pi : PI X tg iter (tIt X.K f)
theorem PI.imp {X : Cx} {tg e : Expr} {t t' : TI} (h : PI X tg e t) (i : ∀ σ H R, t' σ H R → t σ H R) : PI X tg e t' := ⟨fun pins s σ H R I hw => h.run pins s σ H R I (i _ _ _ hw)⟩
theorem PI.or {X : Cx} {tg e : Expr} {t t' : TI} (h : PI X tg e t) (h' : PI X tg e t') : PI X tg e (fun σ H R => t σ H R ∨ t' σ H R) :=
  ⟨fun pins s σ H R I hw => hw.elim (h.run pins s σ H R I) (h'.run pins s σ H R I)⟩
def itemsO : O → Option (List D)
  | .leaf (.list ts) => some ts
  | .leaf (.tuple ts) => some ts
  | .ls ts => some ts
  | _ => none
def seqI (m : Bool) (f : ESem) : ISem := fun env => (f env).bind fun p => if (m || p.1.isLeaf) = true then (itemsO p.1).map fun ts => (ts, p.2) else none
section
variable {K : PySem.W.Frag} {S0 H0 : Hp} {a : Addr} {ts : List D} {vs : List V}
theorem itl_ok {A : List Addr} (h : ∀ S H, Same S0 S → Same S H → (∀ b ∈ A, H b = H0 b) → SqL K H a vs) (w : FzL K S0 ts vs) : ItOk K (Itl K a) A S0 H0 ts := by
  refine ⟨fun S H i e1 e2 e3 hi => ?_, fun S H i e1 e2 e3 hi => ⟨vs, h S H e1 e2 e3, by rw [w.len]; exact hi⟩, fun S H i t x H' e1 e2 e3 hi y => ?_⟩
  · obtain ⟨v, hv, _⟩ := w.get (List.getElem?_eq_getElem hi)
    exact ⟨vs, v, h S H e1 e2 e3, hv⟩
  · obtain ⟨rfl, y⟩ := y
    obtain ⟨v, hv, hz⟩ := w.get hi
    have := (y vs (h S _ e1 e2 e3)).symm.trans hv
    cases this
    exact ⟨S, Gr.refl e2, hz.same e1⟩
theorem itt_ok {A : List Addr} (h : ∀ S H, Same S0 S → Same S H → (∀ b ∈ A, H b = H0 b) → SqT K H a vs) (w : FzL K S0 ts vs) : ItOk K (Itt K a) A S0 H0 ts := by
  refine ⟨fun S H i e1 e2 e3 hi => ?_, fun S H i e1 e2 e3 hi => ⟨vs, h S H e1 e2 e3, by rw [w.len]; exact hi⟩, fun S H i t x H' e1 e2 e3 hi y => ?_⟩
  · obtain ⟨v, hv, _⟩ := w.get (List.getElem?_eq_getElem hi)
    exact ⟨vs, v, h S H e1 e2 e3, hv⟩
  · obtain ⟨rfl, y⟩ := y
    obtain ⟨v, hv, hz⟩ := w.get hi
    have := (y vs (h S _ e1 e2 e3)).symm.trans hv
    cases this
    exact ⟨S, Gr.refl e2, hz.same e1⟩
end
section
variable {X : Cx} {tg e : Expr} {f : ESem} {q m : Bool} {pos : Pos}
theorem si_seq (h : SE X e f q m) : SI X tg e (seqI m f) := by
  refine ⟨PI.imp (PI.or (pi_list h.pe) (pi_tup h.pe)) fun σ H R h => ?_⟩
  obtain ⟨env, S, fp, ts, env', RR, he, k⟩ := h
  unfold seqI at he
  simp only [Option.bind_eq_some_iff] at he
  obtain ⟨⟨o, e1⟩, h1, h2⟩ := he
  simp only at h1 h2
  split at h2
  · rename_i hl
    simp only [Bool.or_eq_true] at hl
    simp only [Option.map_eq_some_iff, Prod.mk.injEq] at h2
    obtain ⟨ts', h2, rfl, rfl⟩ := h2
    cases o with
    | leaf t =>
      cases t with
      | list us =>
        cases h2
        refine .inl ⟨env, S, fp, _, e1, RR, h1, fun v S1 H1 fp1 fr R1 E1 w g n => ?_⟩
        obtain ⟨rfl, w0⟩ := ow_leafE w
        simp only [Fz] at w0
        obtain ⟨a, vs, rfl, w1, w2⟩ := w0
        exact ⟨a, rfl, ⟨vs, (ls_same R1.le w1).sq⟩, k _ S1 H1 fp1 [] R1 E1 (itl_ok (fun S H e1 e2 _ => (ls_same e2 (ls_same e1 w1)).sq) w2) (by intro a h; cases h)⟩
      | tuple us =>
        cases h2
        refine .inr ⟨env, S, fp, _, e1, RR, h1, fun v S1 H1 fp1 fr R1 E1 w g n => ?_⟩
        obtain ⟨rfl, w0⟩ := ow_leafE w
        simp only [Fz] at w0
        obtain ⟨a, vs, rfl, w1, w2⟩ := w0
        exact ⟨a, rfl, ⟨vs, SqT.of (R1.le _ _ w1)⟩, k _ S1 H1 fp1 [] R1 E1 (itt_ok (fun S H e1 e2 _ => SqT.of (e2 _ _ (e1 _ _ w1))) w2) (by intro a h; cases h)⟩
      | _ => cases h2
    | ls us =>
      cases h2
      refine .inl ⟨env, S, fp, _, e1, RR, h1, fun v S1 H1 fp1 fr R1 E1 w g n => ?_⟩
      have F := fresh_of hl w n
      have ws := w.some
      obtain ⟨a, vs, rfl, w1, rfl, w2⟩ := ow_lsE w
      exact ⟨a, rfl, ⟨vs, SqL.of w1⟩, k _ S1 H1 fp1 [a] R1 E1 (itl_ok (fun S H e1 e2 e3 => SqL.of ((e3 a (List.mem_singleton.mpr rfl)).trans w1)) w2) fun b m => ⟨ws b m, F.off b m⟩⟩
    | dic _ => cases h2
    | dct _ => cases h2
    | obj _ _ => cases h2
  · cases h2
def rangeD (lo : Int) (n : Nat) : List D := (List.range n).map fun (i : Nat) => PyData.int (lo + (i : Int))
theorem itr_ok {K : PySem.W.Frag} {S0 H0 : Hp} {lo : Int} {n : Nat} : ItOk K (Itr lo n) [] S0 H0 (rangeD lo n) := by
  have hl : (rangeD lo n).length = n := by simp [rangeD]
  refine ⟨fun S H i e1 e2 e3 hi => by rw [hl] at hi; exact hi, fun S H i e1 e2 e3 hi => by rw [hl] at hi; exact hi, fun S H i t x H' e1 e2 e3 hi y => ?_⟩
  obtain ⟨rfl, rfl⟩ := y
  refine ⟨S, Gr.refl e2, ?_⟩
  unfold rangeD at hi
  rw [List.getElem?_map] at hi
  have hlt : i < n := by
    apply Classical.byContradiction
    intro z
    rw [List.getElem?_eq_none (by simpa using z)] at hi
    cases hi
  rw [List.getElem?_eq_getElem (by simpa using hlt)] at hi
  have e := Option.some.inj hi
  rw [← e]
  simp only [Fz, List.getElem_range]
def rng1 (f : ASem) : ISem := fun env => (f env).bind fun p => match p.1 with
  | [.leaf (.int j)] => if -(2 ^ 62) ≤ j ∧ j < 2 ^ 62 then some (rangeD 0 j.toNat, p.2) else none
  | _ => none
def rng2 (f : ASem) : ISem := fun env => (f env).bind fun p => match p.1 with
  | [.leaf (.int i), .leaf (.int j)] => if (-(2 ^ 62) ≤ i ∧ i < 2 ^ 62) ∧ -(2 ^ 62) ≤ j ∧ j < 2 ^ 62 then some (rangeD i (j - i).toNat, p.2) else none
  | _ => none
theorem leaves1 {K : PySem.W.Frag} {S H : Hp} {t : D} {vs : List V} {fr : List Addr} (w : OwA K S H [.leaf t] vs fr) : ∃ v, vs = [v] ∧ Fz K S t v ∧ fr = [] := by
  obtain ⟨h1, h2⟩ := OwA.leaves (ts := [t]) w
  obtain ⟨v, r, rfl, h3, h4⟩ := h1.inv
  rw [h4.nilE]
  exact ⟨v, rfl, h3, h2⟩
theorem leaves2 {K : PySem.W.Frag} {S H : Hp} {t u : D} {vs : List V} {fr : List Addr} (w : OwA K S H [.leaf t, .leaf u] vs fr) : ∃ v v', vs = [v, v'] ∧ Fz K S t v ∧ Fz K S u v' ∧ fr = [] := by
  obtain ⟨h1, h2⟩ := OwA.leaves (ts := [t, u]) w
  obtain ⟨v, r, rfl, h3, h4⟩ := h1.inv
  obtain ⟨v', r', rfl, h5, h6⟩ := h4.inv
  rw [h6.nilE]
  exact ⟨v, v', rfl, h3, h5, h2⟩
theorem si_range1 {a : Expr} {fa : ASem} {p : Pos} (hg : Gl X "range") (hm : X.mg "range" = none) (ha : SA X [a] fa q) (hs : starEach [a] X.env = [(false, eval a X.env)] := by rfl) : SI X tg (.Call (.Name "range" p) [a] [] pos) (rng1 fa) := by
  refine ⟨PI.imp (pi_range1 hg hm ha.pa hs) fun σ H R h => ?_⟩
  obtain ⟨env, S, fp, ts, env', RR, he, k⟩ := h
  unfold rng1 at he
  simp only [Option.bind_eq_some_iff] at he
  obtain ⟨⟨os, e1⟩, h1, h2⟩ := he
  simp only at h1 h2
  split at h2
  · rename_i j
    split at h2
    · rename_i hb
      have e2 := Option.some.inj h2
      obtain ⟨rfl, rfl⟩ := Prod.mk.inj e2
      refine ⟨env, S, fp, _, _, RR, h1, fun vs S1 H1 fp1 fr R1 E1 w g n => ?_⟩
      obtain ⟨v, rfl, hv, rfl⟩ := leaves1 w
      simp only [Fz] at hv
      subst hv
      exact ⟨j, rfl, hb.1, hb.2, k _ S1 H1 fp1 [] R1 E1 itr_ok (by intro a h; cases h)⟩
    · cases h2
  · cases h2
theorem si_range2 {a b : Expr} {fa : ASem} {p : Pos} (hg : Gl X "range") (hm : X.mg "range" = none) (ha : SA X [a, b] fa q) (hs : starEach [a, b] X.env = [(false, eval a X.env), (false, eval b X.env)] := by rfl) (hs2 : starEach [b] X.env = [(false, eval b X.env)] := by rfl) :
    SI X tg (.Call (.Name "range" p) [a, b] [] pos) (rng2 fa) := by
  refine ⟨PI.imp (pi_range2 hg hm ha.pa hs hs2) fun σ H R h => ?_⟩
  obtain ⟨env, S, fp, ts, env', RR, he, k⟩ := h
  unfold rng2 at he
  simp only [Option.bind_eq_some_iff] at he
  obtain ⟨⟨os, e1⟩, h1, h2⟩ := he
  simp only at h1 h2
  split at h2
  · rename_i i j
    split at h2
    · rename_i hb
      have e2 := Option.some.inj h2
      obtain ⟨rfl, rfl⟩ := Prod.mk.inj e2
      refine ⟨env, S, fp, _, _, RR, h1, fun vs S1 H1 fp1 fr R1 E1 w g n => ?_⟩
      obtain ⟨v, v', rfl, hv, hv', rfl⟩ := leaves2 w
      simp only [Fz] at hv hv'
      subst hv
      subst hv'
      exact ⟨i, j, rfl, ⟨hb.1.1, hb.1.2, hb.2.1, hb.2.2⟩, k _ S1 H1 fp1 [] R1 E1 itr_ok (by intro a h; cases h)⟩
    · cases h2
  · cases h2
end

/-! ### for -/
def forL (set : GSem) (body : SSem) : List D → Env → Option (Out × Env)
  | [], env => some (.nx, env)
  | t :: ts, env => (set t env).bind fun e1 => (body e1).bind fun p => match p.1 with
    | .nx => forL set body ts p.2
    | .ct => forL set body ts p.2
    | .bk => some (.nx, p.2)
    | .rt o => some (.rt o, p.2)
def forS (src : ISem) (set : GSem) (body : SSem) : SSem := fun env => (src env).bind fun p => forL set body p.1 p.2
theorem itA_keep {S1 H1 S H : Hp} {fp1 fp : Nat → List Addr} {A : List Addr} (hA : ∀ a ∈ A, H1 a ≠ none ∧ ∀ i, a ∉ fp1 i) (E : Evo S1 H1 fp1 S H fp) : ∀ a ∈ A, H a = H1 a := fun a m => (E.keep a (hA a m).1 (hA a m).2).1
theorem for_core {K : PySem.W.Frag} {J : It} {A : List Addr} {S1 H1 : Hp} {fp1 : Nat → List Addr} {ts : List D} {set : GSem} {body : SSem} {aT aB : List Nat} {e1 env' : Env} {out : Out} {D : Ends} {σ : L2.St} (R1 : Rel K e1 σ S1 H1 fp1) (hJ : ItOk K J A S1 H1 ts) (hA : ∀ a ∈ A, H1 a ≠ none ∧ ∀ i, a ∉ fp1 i)
    (he : forL set body ts e1 = some (out, env')) (k : EndsOk K out env' (aT ++ aB) D σ S1 H1 fp1) :
    ∃ W : Nat → Nat → L2.St → Hp → Prop, (∃ m, W 0 m σ H1) ∧ ∀ i m σ H, W i m σ H →
      (J.stop i H ∧ D.nx σ H) ∨ (J.go i H ∧ ∃ N : L2.St → Hp → Prop, (∀ σ' H', N σ' H' → ∃ m', m' < m ∧ W (i + 1) m' σ' H') ∧ ∀ x H', J.yld i H x H' → tGt K set aT x σ H' fun σ2 H2 => tSS K body aB { D with nx := N, ct := N, bk := D.nx } σ2 H2) := by
  refine ⟨fun i m σ' H => m = ts.length - i ∧ i ≤ ts.length ∧ ∃ env S fp, Rel K env σ' S H fp ∧ Evo S1 H1 fp1 S H fp ∧ (∀ k, k ∉ aT ++ aB → σ'[k]? = σ[k]?) ∧ forL set body (ts.drop i) env = some (out, env'), ⟨ts.length, rfl, Nat.zero_le _, e1, S1, fp1, R1, Evo.refl _ _ _, fun _ _ => rfl, he⟩, ?_⟩
  rintro i m σ' H ⟨rfl, hi, env, S, fp, R, E, hk, hf⟩
  have hA' := itA_keep hA E
  by_cases hlt : i < ts.length
  · refine .inr ⟨hJ.go S H i E.sub R.le hA' hlt, fun σ2 H2 => ∃ env S fp, Rel K env σ2 S H2 fp ∧ Evo S1 H1 fp1 S H2 fp ∧ (∀ k, k ∉ aT ++ aB → σ2[k]? = σ[k]?) ∧ forL set body (ts.drop (i + 1)) env = some (out, env'), ?_, fun x H' y => ?_⟩
    · rintro σ2 H2 h
      exact ⟨ts.length - (i + 1), by omega, rfl, hlt, h⟩
    · rw [List.drop_eq_getElem_cons hlt] at hf
      simp only [forL, Option.bind_eq_some_iff] at hf
      obtain ⟨e2, h2, ⟨o, e3⟩, h3, h4⟩ := hf
      simp only at h3 h4
      obtain ⟨S2, G, w⟩ := hJ.yld S H i _ x H' E.sub R.le hA' (List.getElem?_eq_getElem hlt) y
      have Eg := E.trans (G.evo (fp := fp))
      refine ⟨env, S2, fp, _, e2, R.gr G, w, h2, fun σ3 S3 H3 fp3 R3 i3 k3 _ => ⟨e2, S3, fp3, o, e3, R3, h3, ?_⟩⟩
      have E3 : Evo S1 H1 fp1 S3 H3 fp3 := Eg.trans i3
      have k4 : ∀ {σ4 : L2.St}, (∀ k, k ∉ aB → σ4[k]? = σ3[k]?) → ∀ k, k ∉ aT ++ aB → σ4[k]? = σ[k]? := fun z k hn => by
        have hn' := hn
        rw [List.mem_append, not_or] at hn'
        exact ((z k hn'.2).trans (k3 k hn'.1)).trans (hk k hn)
      cases o with
      | nx => exact fun σ4 S4 H4 fp4 R4 E4 z => ⟨e3, S4, fp4, R4, E3.trans E4, k4 z, h4⟩
      | ct => exact fun σ4 S4 H4 fp4 R4 E4 z => ⟨e3, S4, fp4, R4, E3.trans E4, k4 z, h4⟩
      | bk =>
        cases h4
        exact fun σ4 S4 H4 fp4 R4 E4 z => k σ4 S4 H4 fp4 R4 (E3.trans E4) (k4 z)
      | rt o =>
        cases h4
        exact fun v σ4 S4 H4 fp4 fr R4 E4 z w F => k v σ4 S4 H4 fp4 fr R4 (E3.trans E4) (k4 z) w (Fresh.pre E3 F)
  · have e : i = ts.length := by omega
    subst e
    rw [List.drop_length] at hf
    cases hf
    exact .inl ⟨hJ.stop S H _ E.sub R.le hA' (Nat.le_refl _), k σ' S H fp R E hk⟩
theorem ss_for {X : Cx} {tg iter : Expr} {body : List Stmt} {pos : Pos} {src : ISem} {set : GSem} {g : SSem} {aT aB : List Nat} (hp : PassesOwn (model X.prog X.w) X.A X.env X.xe) (hc : X.calm = true) (hi : SI X tg iter src) (hg : SG X tg set aT) (hb : SSs X body g aB)
    (hs : ∀ x, foldedSetIterable iter X.env x = pure x := by intro _; rfl) : SS X (.For tg iter body [] pos) (forS src set g) (aT ++ aB) := by
  refine ⟨PS.imp (ps_for hp hc hi.pi hg.pg hb.ps hs) fun D σ H h => ?_⟩
  obtain ⟨env, S, fp, out, env', R, he, k⟩ := h
  unfold forS at he
  simp only [Option.bind_eq_some_iff] at he
  obtain ⟨⟨ts, e1⟩, h1, h2⟩ := he
  exact ⟨env, S, fp, ts, e1, R, h1, fun J S1 H1 fp1 A R1 E1 hJ hA => for_core R1 hJ hA h2 (EndsOk.later (asg := []) k E1 fun _ _ => rfl)⟩

/-! ### while -/
def whileL (c : TSem) (body : SSem) : Nat → Env → Option (Out × Env)
  | 0, _ => none
  | n + 1, env => (c env).bind fun p => if p.1 = true then (body p.2).bind fun r => match r.1 with
      | .nx => whileL c body n r.2
      | .ct => whileL c body n r.2
      | .bk => some (.nx, r.2)
      | .rt o => some (.rt o, r.2)
    else some (.nx, p.2)
def whileS (n : Nat) (c : TSem) (body : SSem) : SSem := fun env => whileL c body n env
theorem ss_while {X : Cx} {c : Expr} {body : List Stmt} {pos : Pos} {fc : TSem} {g : SSem} {qc : Bool} {aB : List Nat} (n : Nat) (hp : PassesOwn (model X.prog X.w) X.A X.env X.xe) (hc : ST X c fc qc) (hb : SSs X body g aB) : SS X (.While c body [] pos) (whileS n fc g) aB := by
  refine ⟨PS.imp (ps_while hp hc.pt hb.ps) fun D σ H h => ?_⟩
  obtain ⟨env0, S0, fp0, out, env', R0, he0, k⟩ := h
  refine ⟨fun m σ' H' => ∃ env S fp, Rel X.K env σ' S H' fp ∧ Evo S0 H fp0 S H' fp ∧ (∀ k, k ∉ aB → σ'[k]? = σ[k]?) ∧ whileL fc g m env = some (out, env'), ⟨n, env0, S0, fp0, R0, Evo.refl _ _ _, fun _ _ => rfl, he0⟩, ?_⟩
  rintro m σ' H' ⟨env, S, fp, R, E, hk, hf⟩
  cases m with
  | zero => cases hf
  | succ m =>
    simp only [whileL, Option.bind_eq_some_iff] at hf
    obtain ⟨⟨b, e1⟩, h1, h2⟩ := hf
    simp only at h1 h2
    refine ⟨env, S, fp, b, e1, R, h1, fun S1 H1 fp1 R1 E1 g1 => ?_⟩
    cases b with
    | true =>
      rw [if_pos rfl] at h2
      rw [if_pos rfl]
      simp only [Option.bind_eq_some_iff] at h2
      obtain ⟨⟨o, e2⟩, h3, h4⟩ := h2
      simp only at h3 h4
      refine ⟨fun σ2 H2 => ∃ env S fp, Rel X.K env σ2 S H2 fp ∧ Evo S0 H fp0 S H2 fp ∧ (∀ k, k ∉ aB → σ2[k]? = σ[k]?) ∧ whileL fc g m env = some (out, env'), fun σ2 H2 h => ⟨m, by omega, h⟩, e1, S1, fp1, o, e2, R1, h3, ?_⟩
      have EE := E.trans E1
      have k4 : ∀ {σ4 : L2.St}, (∀ k, k ∉ aB → σ4[k]? = σ'[k]?) → ∀ k, k ∉ aB → σ4[k]? = σ[k]? := fun z k hn => (z k hn).trans (hk k hn)
      cases o with
      | nx => exact fun σ4 S4 H4 fp4 R4 E4 z => ⟨e2, S4, fp4, R4, EE.trans E4, k4 z, h4⟩
      | ct => exact fun σ4 S4 H4 fp4 R4 E4 z => ⟨e2, S4, fp4, R4, EE.trans E4, k4 z, h4⟩
      | bk =>
        cases h4
        exact fun σ4 S4 H4 fp4 R4 E4 z => k σ4 S4 H4 fp4 R4 (EE.trans E4) (k4 z)
      | rt o =>
        cases h4
        exact fun v σ4 S4 H4 fp4 fr R4 E4 z w F => k v σ4 S4 H4 fp4 fr R4 (EE.trans E4) (k4 z) w (Fresh.pre EE F)
    | false =>
      rw [if_neg Bool.false_ne_true] at h2
      rw [if_neg Bool.false_ne_true]
      cases h2
      exact k σ' S1 H1 fp1 R1 (E.trans E1) hk
end Mv

set_option Elab.async false
set_option linter.all false
set_option maxRecDepth 100000
set_option maxHeartbeats 2000000
namespace Mv
open PySem PySem.Spec PyProof.Rows L2

/-! ### list comprehensions -/
def wipeE (env : Env) : List Nat → Env
  | [] => env
  | v :: vs => (wipeE env vs).set v none
theorem wipeE_len (env : Env) : ∀ vs : List Nat, (wipeE env vs).length = env.length
  | [] => rfl
  | v :: vs => by unfold wipeE; rw [List.length_set, wipeE_len env vs]
theorem wipeE_some {env : Env} {i : Nat} {x : O} : ∀ {vs : List Nat}, (wipeE env vs)[i]? = some (some x) → env[i]? = some (some x) ∧ i ∉ vs
  | [], h => ⟨h, by simp⟩
  | v :: vs, h => by
    unfold wipeE at h
    by_cases hi : v = i
    · subst hi
      by_cases hv : v < (wipeE env vs).length
      · rw [List.getElem?_set_self hv] at h; cases h
      · rw [List.getElem?_eq_none (by simpa using hv)] at h; cases h
    · rw [List.getElem?_set_ne hi] at h
      obtain ⟨h1, h2⟩ := wipeE_some h
      exact ⟨h1, by simp only [List.mem_cons, not_or]; exact ⟨fun e => hi e.symm, h2⟩⟩
theorem wipe_at {σ : L2.St} {i : Nat} : ∀ {vs : List Nat}, i ∉ vs → (wipe σ vs)[i]? = σ[i]?
  | [], _ => rfl
  | v :: vs, h => by
    rw [List.mem_cons, not_or] at h
    unfold wipe
    rw [List.getElem?_set_ne (fun e => h.1 e.symm)]
    exact wipe_at h.2
theorem wipe_in {σ : L2.St} {i : Nat} : ∀ {vs : List Nat}, i ∈ vs → i < σ.length → (wipe σ vs)[i]? = some none
  | [], h, _ => by cases h
  | v :: vs, h, hl => by
    unfold wipe
    by_cases hv : v = i
    · subst hv
      rw [List.getElem?_set_self (by rw [wipe_length]; exact hl)]
    · rw [List.getElem?_set_ne hv]
      rcases List.mem_cons.mp h with e | h
      · exact absurd e.symm hv
      · exact wipe_in h hl
theorem wipe_eq {σ σ2 : L2.St} {vs : List Nat} (hl : σ2.length = σ.length) (h : ∀ k, k ∉ vs → σ2[k]? = (wipe σ vs)[k]?) : wipe σ2 vs = wipe σ vs := by
  apply List.ext_getElem?
  intro i
  by_cases hi : i ∈ vs
  · by_cases hlt : i < σ.length
    · rw [wipe_in hi hlt, wipe_in hi (by rw [hl]; exact hlt)]
    · rw [List.getElem?_eq_none (by rw [wipe_length, hl]; omega), List.getElem?_eq_none (by rw [wipe_length]; omega)]
  · rw [wipe_at hi, h i hi]
theorem Rel.wipe {K : PySem.W.Frag} {env : Env} {σ : L2.St} {S H : Hp} {fp : Nat → List Addr} (R : Rel K env σ S H fp) (vs : List Nat) : Rel K (wipeE env vs) (L2.wipe σ vs) S H fp :=
  ⟨R.le, by rw [wipeE_len, wipe_length]; exact R.len, fun i o e => by
    obtain ⟨e1, e2⟩ := wipeE_some e
    obtain ⟨v, e3, w⟩ := R.sl i o e1
    exact ⟨v, by rw [wipe_at e2]; exact e3, w⟩, R.nd, R.dj, R.un, R.ins⟩
theorem Rel.unwipe {K : PySem.W.Frag} {env : Env} {σ : L2.St} {S H : Hp} {fp : Nat → List Addr} {vs : List Nat} (R : Rel K env (L2.wipe σ vs) S H fp) : Rel K env σ S H fp :=
  ⟨R.le, by rw [R.len, wipe_length], fun i o e => by
    obtain ⟨v, e3, w⟩ := R.sl i o e
    exact ⟨v, (wipe_some e3).1, w⟩, R.nd, R.dj, R.un, R.ins⟩

def yesT : TSem := fun env => some (true, env)
/-- a comprehension's tests -/
structure SFs (X : Cx) (ifs : List Expr) (f : TSem) (q : Bool) : Prop where
  pts : PTs X ifs (tT X.K f q)
theorem sfs_nil {X : Cx} : SFs X [] yesT true := ⟨⟨fun pins s σ H Q I hw => by
  refine pts_nil.run pins s σ H Q I ?_
  obtain ⟨env, S, fp, b, env', R, he, k⟩ := hw
  cases he
  exact k S H fp R (Evo.refl _ _ _) fun _ => ⟨rfl, Same.refl _⟩⟩⟩
theorem sfs_one {X : Cx} {c : Expr} {f : TSem} {q : Bool} (h : ST X c f q) : SFs X [c] f q := ⟨pts_one h.pt⟩
def compL (set : GSem) (cnd : TSem) (elt : ESem) (vs : List Nat) : List D → Env → Option (List D × Env)
  | [], env => some ([], env)
  | t :: ts, env => (set t env).bind fun e1 => (cnd e1).bind fun p => if p.1 = true then (elt p.2).bind fun r => match r.1 with
      | .leaf d => (compL set cnd elt vs ts (wipeE r.2 vs)).map fun z => (d :: z.1, z.2)
      | _ => none
    else compL set cnd elt vs ts (wipeE p.2 vs)
def compE (src : ISem) (set : GSem) (cnd : TSem) (elt : ESem) (vs : List Nat) : ESem := fun env => (src env).bind fun p =>
  if p.1.length ≤ 16000000 then (compL set cnd elt vs p.1 (wipeE p.2 vs)).map fun z => (.ls z.1, z.2) else none
theorem compL_len {set : GSem} {cnd : TSem} {elt : ESem} {vs : List Nat} : ∀ {ts : List D} {env env' : Env} {ds : List D}, compL set cnd elt vs ts env = some (ds, env') → ds.length ≤ ts.length
  | [], env, env', ds, h => by
    cases h
    exact Nat.le_refl _
  | t :: ts, env, env', ds, h => by
    simp only [compL, Option.bind_eq_some_iff] at h
    obtain ⟨e1, h1, ⟨b, e2⟩, h2, h3⟩ := h
    simp only at h3
    split at h3
    · simp only [Option.bind_eq_some_iff] at h3
      obtain ⟨⟨o, e3⟩, h4, h5⟩ := h3
      simp only at h5
      split at h5
      · simp only [Option.map_eq_some_iff, Prod.mk.injEq] at h5
        obtain ⟨⟨z, e4⟩, h6, rfl, rfl⟩ := h5
        have := compL_len h6
        simp only [List.length_cons]
        omega
      · cases h5
    · have := compL_len h3
      simp only [List.length_cons]
      omega
theorem Rel.updN {K : PySem.W.Frag} {env : Env} {σ : L2.St} {S H : Hp} {fp : Nat → List Addr} {d : Addr} {o : HO} (R : Rel K env σ S H fp) (hS : S d = none) (hd : ∀ i, d ∉ fp i) : Rel K env σ S (upd H d o) fp :=
  ⟨fun a u e => by
    rw [upd_ne (ne_of_none e hS)]
    exact R.le a u e, R.len, fun i o' e => by
    obtain ⟨v, e1, w⟩ := R.sl i o' e
    exact ⟨v, e1, w.keep (Same.refl _) fun a m => upd_ne fun z => hd i (by rw [← z]; exact m)⟩, R.nd, R.dj, R.un, fun i a m => by
    rw [upd_ne fun z => hd i (by rw [← z]; exact m)]
    exact R.ins i a m⟩
theorem Evo.updN {S H S' H' : Hp} {fp fp' : Nat → List Addr} {d : Addr} {o : HO} (E : Evo S H fp S' H' fp') (hd : H d = none) : Evo S H fp S' (upd H' d o) fp' :=
  ⟨E.sub, fun a ha hn => ⟨(upd_ne (fun z => ha (by rw [z]; exact hd))).trans (E.keep a ha hn).1, (E.keep a ha hn).2⟩, E.own⟩
theorem comp_core {K : PySem.W.Frag} {src : ISem} {set : GSem} {cnd : TSem} {elt : ESem} {vs aT : List Nat} {q q1 m1 : Bool} (hv : ∀ k, k ∈ aT → k ∈ vs) {σ : L2.St} {H : Hp} {Q : VK} (h : tE K (compE src set cnd elt vs) false true σ H Q) : tLc (tIt K src) (tGt K set aT) (tT K cnd q) (tE K elt q1 m1) vs σ H Q := by
  obtain ⟨env, S, fp, z, env', R, he, k⟩ := h
  unfold compE at he
  simp only [Option.bind_eq_some_iff] at he
  obtain ⟨⟨ts, e1⟩, h1, h2⟩ := he
  simp only at h1 h2
  split at h2
  · rename_i hlen
    simp only [Option.map_eq_some_iff, Prod.mk.injEq] at h2
    obtain ⟨⟨ds, e2⟩, h2, rfl, rfl⟩ := h2
    simp only at k
    refine ⟨env, S, fp, ts, e1, R, h1, fun J S1 H1 fp1 A R1 E1 hJ hA => fun d hd => ?_⟩
    have hSd : S1 d = none := R1.le.free hd
    have hdn : ∀ i, d ∉ fp1 i := fun i m => R1.ins i d m hd
    -- the start, the new list within
    have RW := (R1.wipe vs).updN (o := .lst []) hSd hdn
    have EW : Evo S1 H1 fp1 S1 (upd H1 d (.lst [])) fp1 := ⟨Same.refl _, fun a ha _ => ⟨upd_ne fun z => ha (by rw [z]; exact hd), rfl⟩, fun i a m => .inr ⟨i, m⟩⟩
    refine ⟨fun i m H' => m = ts.length - i ∧ i ≤ ts.length ∧ ∃ en S' fp' acc vsA rest, Rel K en (L2.wipe σ vs) S' H' fp' ∧ Evo S1 H1 fp1 S' H' fp' ∧ H' d = some (.lst vsA) ∧ (∀ j, d ∉ fp' j) ∧ S' d = none ∧ FzL K S' acc vsA ∧ acc.length ≤ i ∧ compL set cnd elt vs (ts.drop i) en = some (rest, e2) ∧ ds = acc ++ rest,
      ⟨ts.length, rfl, Nat.zero_le _, _, S1, fp1, [], [], ds, RW, EW, upd_same, hdn, hSd, FzL.nil, Nat.le_refl _, h2, rfl⟩, ?_⟩
    rintro i m H' ⟨rfl, hi, en, S', fp', acc, vsA, rest, R', E', hD, hdn', hSd', wA, hAl, hc, hds⟩
    have hA' := itA_keep hA E'
    by_cases hlt : i < ts.length
    · refine .inr ⟨hJ.go S' H' i E'.sub R'.le hA' hlt, fun H2 => ∃ en S' fp' acc vsA rest, Rel K en (L2.wipe σ vs) S' H2 fp' ∧ Evo S1 H1 fp1 S' H2 fp' ∧ H2 d = some (.lst vsA) ∧ (∀ j, d ∉ fp' j) ∧ S' d = none ∧ FzL K S' acc vsA ∧ acc.length ≤ i + 1 ∧ compL set cnd elt vs (ts.drop (i + 1)) en = some (rest, e2) ∧ ds = acc ++ rest, ?_, fun x H2 y => ?_⟩
      · rintro H2 h
        exact ⟨ts.length - (i + 1), by omega, rfl, hlt, h⟩
      · rw [List.drop_eq_getElem_cons hlt] at hc
        simp only [compL, Option.bind_eq_some_iff] at hc
        obtain ⟨e3, h3, ⟨b, e4⟩, h4, h5⟩ := hc
        simp only at h3 h4 h5
        obtain ⟨S2, G, w⟩ := hJ.yld S' H' i _ x H2 E'.sub R'.le hA' (List.getElem?_eq_getElem hlt) y
        have Eg := E'.trans (G.evo (fp := fp'))
        have hd0 : H' d ≠ none := by rw [hD]; exact fun z => nomatch z
        have hD2 : H2 d = some (.lst vsA) := by rw [same_ne G.grow hd0]; exact hD
        have hS2 : S2 d = none := (G.un d hd0).trans hSd'
        refine ⟨en, S2, fp', _, e3, R'.gr G, w, h3, fun σ3 S3 H3 fp3 R3 i3 k3 l3 => ⟨wipe_eq (l3.trans (wipe_length σ vs)) fun j hj => k3 j fun z => hj (hv j z), ?_⟩⟩
        have hw3 : L2.wipe σ3 vs = L2.wipe σ vs := wipe_eq (l3.trans (wipe_length σ vs)) fun j hj => k3 j fun z => hj (hv j z)
        have E3 : Evo S1 H1 fp1 S3 H3 fp3 := Eg.trans i3
        have hdz : H2 d ≠ none := by rw [hD2]; exact fun z => nomatch z
        have hD3 : H3 d = some (.lst vsA) := by rw [(i3.keep d hdz hdn').1]; exact hD2
        have hS3 : S3 d = none := by rw [(i3.keep d hdz hdn').2]; exact hS2
        have hd3 : ∀ j, d ∉ fp3 j := fun j m => by
          rcases i3.own j d m with z | ⟨jj, z⟩
          · exact hdz z
          · exact hdn' jj z
        have wA2 : FzL K S3 acc vsA := wA.same (G.sub.trans i3.sub)
        refine ⟨e3, S3, fp3, b, e4, R3, h4, fun S4 H4 fp4 R4 E4 g4 => ?_⟩
        have hD4 : H4 d = some (.lst vsA) := by rw [(E4.keep d (by rw [hD3]; exact fun z => nomatch z) hd3).1]; exact hD3
        have hS4 : S4 d = none := by rw [(E4.keep d (by rw [hD3]; exact fun z => nomatch z) hd3).2]; exact hS3
        have hd4 : ∀ j, d ∉ fp4 j := fun j m => by
          rcases E4.own j d m with z | ⟨jj, z⟩
          · rw [hD3] at z; cases z
          · exact hd3 jj z
        cases b with
        | true =>
          rw [if_pos rfl] at h5
          dsimp only
          rw [if_pos rfl]
          simp only [Option.bind_eq_some_iff] at h5
          obtain ⟨⟨o, e5⟩, h6, h7⟩ := h5
          simp only at h6 h7
          split at h7
          · rename_i dd
            simp only [Option.map_eq_some_iff, Prod.mk.injEq] at h7
            obtain ⟨⟨rest', e6⟩, h8, rfl, rfl⟩ := h7
            refine ⟨e4, S4, fp4, _, e5, R4, h6, fun yv S5 H5 fp5 fr R5 E5 w5 g5 n5 => ?_⟩
            have hD5 : H5 d = some (.lst vsA) := by rw [(E5.keep d (by rw [hD4]; exact fun z => nomatch z) hd4).1]; exact hD4
            have hS5 : S5 d = none := by rw [(E5.keep d (by rw [hD4]; exact fun z => nomatch z) hd4).2]; exact hS4
            have hd5 : ∀ j, d ∉ fp5 j := fun j m => by
              rcases E5.own j d m with z | ⟨jj, z⟩
              · rw [hD4] at z; cases z
              · exact hd4 jj z
            have wA5 : FzL K S5 acc vsA := wA2.same (E4.sub.trans E5.sub)
            refine ⟨vsA, hD5, ?_, wipeE e5 vs, S5, fp5, acc ++ [dd], vsA ++ [yv], rest', ?_, ?_, upd_same, hd5, hS5, wA5.append (FzL.cons (ow_leafE w5).2 FzL.nil), by rw [List.length_append]; simp only [List.length_singleton]; omega, h8, by rw [hds, List.append_assoc]; rfl⟩
            · rw [wA5.len]
              exact Nat.lt_of_lt_of_le (by omega : acc.length < 16777216) (by decide)
            · rw [← hw3]
              exact (R5.wipe vs).updN hS5 hd5
            · exact (E3.trans (E4.trans E5)).updN hd
          · cases h7
        | false =>
          rw [if_neg Bool.false_ne_true] at h5
          dsimp only
          rw [if_neg Bool.false_ne_true]
          refine ⟨wipeE e4 vs, S4, fp4, acc, vsA, rest, ?_, E3.trans E4, hD4, hd4, hS4, wA2.same E4.sub, by omega, h5, hds⟩
          rw [← hw3]
          exact R4.wipe vs
    · have e : i = ts.length := by omega
      subst e
      rw [List.drop_length] at hc
      cases hc
      rw [List.append_nil] at hds
      subst hds
      exact .inl ⟨hJ.stop S' H' _ E'.sub R'.le hA' (Nat.le_refl _), k _ S' H' fp' [d] R'.unwipe (E1.trans E') (ow_ls hD wA) (fun z => nomatch z) fun _ => Fresh.pre E1 ⟨by simp, fun a m => .inl (by rw [List.mem_singleton.mp m]; exact hd), fun a m j => by rw [List.mem_singleton.mp m]; exact hdn' j, fun a m => by rw [List.mem_singleton.mp m]; exact hSd'⟩⟩
  · cases h2
section
variable {X : Cx} {tg iter elt : Expr} {ifs : List Expr} {src : ISem} {set : GSem} {cnd : TSem} {fe : ESem} {aT : List Nat} {q q1 m1 : Bool} {pos : Pos}
theorem se_lc {scope : Scope} {own : List (Str × Nat)} (hc : X.calm = true) (hN : X.N.Nodup) (hi : SI X tg iter src) (ok : BlkOk X.N X.env.scope scope own)
    (hg : ∀ (s : Shared) (H : Hp) (C : Addr) (cl : List (Str × Addr)) (fp : List Addr), SG (X.blk s H scope (compEnvC scope cl C X.env) fp) tg set aT)
    (ht : ∀ (s : Shared) (H : Hp) (C : Addr) (cl : List (Str × Addr)) (fp : List Addr), SFs (X.blk s H scope (compEnvC scope cl C X.env) fp) ifs cnd q)
    (he : ∀ (s : Shared) (H : Hp) (C : Addr) (cl : List (Str × Addr)) (fp : List Addr), SE (X.blk s H scope (compEnvC scope cl C X.env) fp) elt fe q1 m1)
    (hv : ∀ k, k ∈ aT → k ∈ own.map (·.2)) (hs : ∀ x, foldedSetIterable iter X.env x = pure x := by intro _; rfl) :
    SE X (.ListComp elt [⟨tg, iter, ifs, 0⟩] scope pos) (compE src set cnd fe (own.map (·.2))) false true :=
  ⟨PE.imp (pe_lc (te := tE X.K fe q1 m1) (tt := tT X.K cnd q) (g := tGt X.K set aT) hc hN hi.pi ok (fun s H C cl fp => (hg s H C cl fp).pg) (fun s H C cl fp => (ht s H C cl fp).pts) (fun s H C cl fp => (he s H C cl fp).pe) hs) fun _ _ _ h => comp_core hv h, fun z => nomatch z⟩
theorem ss_setLc {i : Nat} {y : Str} {py : Pos} {scope : Scope} {own : List (Str × Nat)} {spos : Pos} (hc : X.calm = true) (hN : X.N.Nodup) (hy : X.N[i]? = some y) (hyl : X.env.scope.names.lookup y = some .local)
    (hsw : swapsWith (.ListComp elt [⟨tg, iter, ifs, 0⟩] scope pos) (some (.Name y py)) spos.line X.env = pure true) (hi : SI X tg iter src) (ok : BlkOk X.N X.env.scope scope own)
    (hg : ∀ (s : Shared) (H : Hp) (C : Addr) (cl : List (Str × Addr)) (fp : List Addr), SG (X.blk s H scope (compEnvC scope cl C X.env) fp) tg set aT)
    (ht : ∀ (s : Shared) (H : Hp) (C : Addr) (cl : List (Str × Addr)) (fp : List Addr), SFs (X.blk s H scope (compEnvC scope cl C X.env) fp) ifs cnd q)
    (he : ∀ (s : Shared) (H : Hp) (C : Addr) (cl : List (Str × Addr)) (fp : List Addr), SE (X.blk s H scope (compEnvC scope cl C X.env) fp) elt fe q1 m1)
    (hv : ∀ k, k ∈ aT → k ∈ own.map (·.2)) (hs : ∀ x, foldedSetIterable iter X.env x = pure x := by intro _; rfl) :
    SS X (.Assign [.Name y py] (.ListComp elt [⟨tg, iter, ifs, 0⟩] scope pos) spos) (setS i true (compE src set cnd fe (own.map (·.2)))) [i] := by
  refine ⟨PS.imp (ps_setLc (te := tE X.K fe q1 m1) (tt := tT X.K cnd q) (g := tGt X.K set aT) hc hN hy hyl hsw hi.pi ok (fun s H C cl fp => (hg s H C cl fp).pg) (fun s H C cl fp => (ht s H C cl fp).pts) (fun s H C cl fp => (he s H C cl fp).pe) hs) fun D σ H h => ?_⟩
  obtain ⟨env, S, fp, out, env', R, he', k⟩ := set_core (q := false) h
  exact comp_core hv ⟨env, S, fp, out, env', R, he', k⟩
end

/-! ### a def -/
def finP (rb : List Nat) (os : List O) (env : Env) (n : Nat) : List (Option O) := (List.range n).map fun k => if rb.contains k then os[k]? else (env[k]?).join
def runDef (n size : Nat) (rb : List Nat) (body : SSem) : Def := fun os =>
  if os.length = n ∧ (rb.all fun k => match os[k]? with | some o => o.isLeaf | none => true) = true then
    (body (os.map some ++ List.replicate (size - n) none)).bind fun p => match p.1 with
      | .rt o => some (o, finP rb os p.2 n)
      | .nx => some (.leaf .none, finP rb os p.2 n)
      | _ => none
  else none
theorem fin_rel {K : PySem.W.Frag} {os : List O} {vs : List V} {S H S' H' : Hp} {fp fp' : Nat → List Addr} {env' : Env} {σ' : L2.St} {rb : List Nat} {n : Nat} (R : Rel K (os.map some) (vs.map some) S H fp) (hn : os.length = n) (hrb : ∀ k ∈ rb, ∀ o, os[k]? = some o → o.isLeaf = true)
    (R' : Rel K env' σ' S' H' fp') (E : Evo S H fp S' H' fp') (hk : ∀ k, k < n → k ∉ rb → σ'[k]? = (vs.map some)[k]?) :
    Rel K (finP rb os env' n) (vs.map some) S' H' (fun k => if k < n ∧ k ∉ rb then fp' k else []) ∧ Evo S H fp S' H' (fun k => if k < n ∧ k ∉ rb then fp' k else []) := by
  refine ⟨⟨R'.le, ?_, fun i o e => ?_, fun i => ?_, fun i j a m1 m2 => ?_, fun i a m => ?_, fun i a m => ?_⟩, ⟨E.sub, E.keep, fun i a m => ?_⟩⟩
  · have := R.len
    unfold finP
    rw [List.length_map, List.length_range, ← hn, ← this, List.length_map]
  · unfold finP at e
    rw [List.getElem?_map] at e
    have hlt : i < n := by
      apply Classical.byContradiction
      intro z
      rw [List.getElem?_eq_none (by simpa using z)] at e
      cases e
    rw [List.getElem?_eq_getElem (by simpa using hlt)] at e
    simp only [List.getElem_range, Option.map_some, Option.some.injEq] at e
    by_cases hr : i ∈ rb
    · rw [if_pos (by simpa using hr)] at e
      have e' : (os.map some)[i]? = some (some o) := by rw [List.getElem?_map, e] <;> rfl
      obtain ⟨v, hv, w⟩ := R.sl i o e'
      refine ⟨v, hv, ?_⟩
      rw [if_neg (fun z => z.2 hr)]
      have hl := hrb i hr o e
      rw [isLeaf_fr hl w] at w
      exact w.keep E.sub (by intro a h; cases h)
    · rw [if_neg (by simpa using hr)] at e
      obtain ⟨v, hv, w⟩ := R'.sl i o (join_some e)
      refine ⟨v, by rw [← hk i hlt hr]; exact hv, ?_⟩
      rw [if_pos ⟨hlt, hr⟩]
      exact w
  · by_cases hi : i < n ∧ i ∉ rb
    · rw [if_pos hi]; exact R'.nd i
    · rw [if_neg hi]; exact List.nodup_nil
  · by_cases hi : i < n ∧ i ∉ rb
    · rw [if_pos hi] at m1
      by_cases hj : j < n ∧ j ∉ rb
      · rw [if_pos hj] at m2; exact R'.dj i j a m1 m2
      · rw [if_neg hj] at m2; cases m2
    · rw [if_neg hi] at m1; cases m1
  · by_cases hi : i < n ∧ i ∉ rb
    · rw [if_pos hi] at m; exact R'.un i a m
    · rw [if_neg hi] at m; cases m
  · by_cases hi : i < n ∧ i ∉ rb
    · rw [if_pos hi] at m; exact R'.ins i a m
    · rw [if_neg hi] at m; cases m
  · by_cases hi : i < n ∧ i ∉ rb
    · rw [if_pos hi] at m; exact E.own i a m
    · rw [if_neg hi] at m; cases m
theorem Rel.start {K : PySem.W.Frag} {os : List O} {vs : List V} {S H : Hp} {fp : Nat → List Addr} {N : List Str} (R : Rel K (os.map some) (vs.map some) S H fp) : Rel K (os.map some ++ List.replicate (N.length - os.length) none) (L2.start N vs) S H fp := by
  have hl : os.length = vs.length := by simpa using R.len
  refine ⟨R.le, by unfold L2.start; simp [hl], fun i o e => ?_, R.nd, R.dj, R.un, R.ins⟩
  by_cases hi : i < (os.map some).length
  · rw [List.getElem?_append_left hi] at e
    obtain ⟨v, hv, w⟩ := R.sl i o e
    refine ⟨v, ?_, w⟩
    unfold L2.start
    rw [List.getElem?_append_left (by simpa [hl] using hi)]
    exact hv
  · rw [List.getElem?_append_right (by omega)] at e
    obtain ⟨h1, h2⟩ := List.getElem?_eq_some_iff.mp e
    rw [List.getElem_replicate] at h2
    cases h2
theorem def_ok {P : Program} {w : World} {K : PySem.W.Frag} {mg : Str → Option Value} {base : Heap} {x qual : Str} {st : Stmt} {f : Addr} {fd : FuncData} {N ps : List Str} {k n size : Nat} {rb asg : List Nat} {body : SSem} (F : Fun K x qual st f fd) (Sc : FnScope N ps (defScope st)) (hn : ps.length = n) (hN : N.length = size) (hrb : ∀ i ∈ asg, i < n → i ∈ rb)
    (hb : ∀ (cdv : Value) (A : Around) (outer : List PySem.Env) (s : Shared) (H : Hp) (E : XK), Room k (A.deeper (envOfC qual (defScope st) s.heap.objs.size f cdv)) → SSs (cxOf CX0 P w K mg base N qual (defScope st) f cdv A outer s H E).nox (defBody st) body asg) :
    FnOk P w K mg base CX0 (k + 1) f fd ps (spOf K (runDef n size rb body)) := by
  refine F.ok Sc (fun vs H Q E h => ?_) (fun cdv A outer s H vs Q E hr h => ?_)
  · obtain ⟨os, S, fp, r, os', R, _, he, _⟩ := h
    unfold runDef at he
    split at he
    · rename_i hc
      have := R.len
      rw [List.length_map, List.length_map] at this
      rw [hn, ← hc.1, this]
    · cases he
  · obtain ⟨os, S, fp, r, os', R, hz, he, q⟩ := h
    unfold runDef at he
    split at he
    · rename_i hc
      obtain ⟨hc1, hc2⟩ := hc
      simp only [Option.bind_eq_some_iff] at he
      obtain ⟨⟨out, env'⟩, h1, h2⟩ := he
      have hleaf : ∀ k ∈ rb, ∀ o, os[k]? = some o → o.isLeaf = true := fun k hk o e => by
        have := List.all_eq_true.mp hc2 k hk
        rw [e] at this
        exact this
      have hvl : vs.length = n := by
        have := R.len
        rw [List.length_map, List.length_map] at this
        rw [← this, hc1]
      have hst : ∀ {σ' : L2.St}, (∀ k, k ∉ asg → σ'[k]? = (L2.start N vs)[k]?) → ∀ k, k < n → k ∉ rb → σ'[k]? = (vs.map some)[k]? := fun h k hk hr => by
        rw [h k fun z => hr (hrb k z hk)]
        unfold L2.start
        rw [List.getElem?_append_left (by simpa [hvl] using hk)]
      refine ⟨_, (hb cdv A outer s H E hr).ps, os.map some ++ List.replicate (size - n) none, S, fp, out, env', ?_, h1, ?_⟩
      · rw [← hN, ← hc1]
        exact R.start
      · have offP : ∀ {fp' : Nat → List Addr} {fr : List Addr}, (∀ a ∈ fr, ∀ i, a ∉ fp' i) → ∀ a ∈ fr, ∀ i, a ∉ (if i < n ∧ i ∉ rb then fp' i else []) := fun h a m i z => by
          by_cases hi : i < n ∧ i ∉ rb
          · rw [if_pos hi] at z; exact h a m i z
          · rw [if_neg hi] at z; cases z
        cases out with
        | rt o =>
          cases h2
          intro v σ' S' H' fp' fr R' E' hk w F'
          obtain ⟨R2, E2⟩ := fin_rel R hc1 hleaf R' E' (hst hk)
          exact q v S' H' _ fr R2 E2 w ⟨F'.nd, F'.src, offP F'.off, F'.un⟩
        | nx =>
          cases h2
          intro σ' S' H' fp' R' E' hk
          obtain ⟨R2, E2⟩ := fin_rel R hc1 hleaf R' E' (hst hk)
          exact q .non S' H' _ [] R2 E2 (ow_leaf (by simp only [Fz])) Fresh.nil
        | bk => cases h2
        | ct => cases h2
    · cases he
end Mv

set_option Elab.async false
set_option linter.all false
set_option maxRecDepth 100000
set_option maxHeartbeats 2000000
namespace Mv
open PySem PySem.Spec PyProof.Rows L2

/-! ### frozen data, read off the machine's heap -/
/-- no dict within, at most so deep -/
def okd : Nat → D → Bool
  | _, .none => true
  | _, .bool _ => true
  | _, .int _ => true
  | _, .str _ => true
  | n + 1, .list ts => ts.all (okd n)
  | n + 1, .tuple ts => ts.all (okd n)
  | _, _ => false
theorem okd_all : ∀ {n : Nat} {ts : List D}, (∀ t ∈ ts, t.plain = true ∧ t.depth ≤ n) → PyData.plainAll ts = true ∧ PyData.depthAll ts ≤ n
  | n, [], _ => ⟨by simp [PyData.plainAll], by simp [PyData.depthAll]⟩
  | n, t :: ts, h => by
    have h1 := h t List.mem_cons_self
    have h2 := okd_all (n := n) fun u m => h u (List.mem_cons_of_mem _ m)
    refine ⟨by rw [PyData.plainAll, h1.1, h2.1]; rfl, ?_⟩
    rw [PyData.depthAll]
    exact Nat.max_le.mpr ⟨h1.2, h2.2⟩
theorem okd_spec : ∀ {n : Nat} {t : D}, okd n t = true → t.plain = true ∧ t.depth ≤ n
  | n, .none, _ => ⟨by simp [PyData.plain], by simp [PyData.depth]⟩
  | n, .bool _, _ => ⟨by simp [PyData.plain], by simp [PyData.depth]⟩
  | n, .int _, _ => ⟨by simp [PyData.plain], by simp [PyData.depth]⟩
  | n, .str _, _ => ⟨by simp [PyData.plain], by simp [PyData.depth]⟩
  | 0, .list ts, h => by simp [okd] at h
  | 0, .tuple ts, h => by simp [okd] at h
  | n + 1, .list ts, h => by
    rw [okd, List.all_eq_true] at h
    have h2 := okd_all (n := n) fun u m => okd_spec (h u m)
    rw [PyData.plain, PyData.depth]
    exact ⟨h2.1, Nat.succ_le_succ h2.2⟩
  | n + 1, .tuple ts, h => by
    rw [okd, List.all_eq_true] at h
    have h2 := okd_all (n := n) fun u m => okd_spec (h u m)
    rw [PyData.plain, PyData.depth]
    exact ⟨h2.1, Nat.succ_le_succ h2.2⟩
  | 0, .dict _, h => by simp [okd] at h
  | n + 1, .dict _, h => by simp [okd] at h
section
variable {X : Cx} {pins : List (Addr × Obj)} {σ : L2.St} {H : Hp} {s : Shared}
mutual
theorem fz_reads (I : Inv X pins σ H s) : ∀ {t : D} {v : V} {u : Value}, t.plain = true → Fz X.K H t v → RelV v u → ∃ as, Reads s.heap u t as
  | .none, v, u, _, h, r => by
    simp only [Fz] at h
    subst h
    cases r
    exact ⟨[], .none⟩
  | .bool b, v, u, _, h, r => by
    simp only [Fz] at h
    subst h
    cases r
    exact ⟨[], .bool b⟩
  | .int i, v, u, _, h, r => by
    simp only [Fz] at h
    subst h
    obtain ⟨t, rfl⟩ := r
    exact ⟨[], .int i t⟩
  | .str i, v, u, _, h, r => by
    simp only [Fz] at h
    subst h
    obtain ⟨t, rfl⟩ := r
    exact ⟨[], .str i t⟩
  | .list ts, v, u, hp, h, r => by
    simp only [Fz] at h
    obtain ⟨a, vs, rfl, h1, h2⟩ := h
    cases r
    obtain ⟨its, rv, ⟨o, n, e1, e2, e3, e4⟩, hz⟩ := I.list h1.sq
    obtain ⟨as, ra⟩ := fzL_reads I (by simpa [PyData.plain] using hp) h2 rv
    exact ⟨_, .list e1 e2 e4 ra⟩
  | .tuple ts, v, u, hp, h, r => by
    simp only [Fz] at h
    obtain ⟨a, vs, rfl, h1, h2⟩ := h
    cases r
    obtain ⟨its, rv, ⟨o, e1, e2, n, e4⟩, hz⟩ := I.tuple (SqT.of h1)
    obtain ⟨as, ra⟩ := fzL_reads I (by simpa [PyData.plain] using hp) h2 rv
    exact ⟨_, .tuple e1 e2 e4 ra⟩
  | .dict _, v, u, hp, h, r => by simp [PyData.plain] at hp
theorem fzL_reads (I : Inv X pins σ H s) : ∀ {ts : List D} {vs : List V} {us : List Value}, PyData.plainAll ts = true → FzL X.K H ts vs → Vals vs us → ∃ as, ReadsAll s.heap us ts as
  | [], vs, us, _, h, r => by
    have e := h.nilE
    subst e
    cases r
    exact ⟨[], .nil⟩
  | t :: ts, vs, us, hp, h, r => by
    obtain ⟨v, vr, rfl, h1, h2⟩ := h.inv
    rw [PyData.plainAll, Bool.and_eq_true] at hp
    cases r with
    | cons r1 r2 =>
      obtain ⟨as, ra⟩ := fz_reads I hp.1 h1 r1
      obtain ⟨bs, rb⟩ := fzL_reads I hp.2 h2 r2
      exact ⟨as ++ bs, .cons ra rb⟩
end
end
/-- an own tree seen as data, where the whole heap stands -/
theorem ow_view {K : PySem.W.Frag} {S H : Hp} {o : O} {t : D} {v : V} {fr : List Addr} (le : Same S H) (w : Ow K S H o v fr) (e : o.frz = some t) : Fz K H t v := by
  cases o with
  | leaf u =>
    cases e
    exact (ow_leafE w).2.same le
  | ls ts =>
    cases e
    obtain ⟨a, vs, rfl, h1, rfl, h2⟩ := ow_lsE w
    simp only [Fz]
    exact ⟨a, vs, rfl, LsAt.of h1, h2.same le⟩
  | dic kvs =>
    simp only [O.frz, Option.map_eq_some_iff] at e
    obtain ⟨us, e, rfl⟩ := e
    simp only [Ow] at w
    obtain ⟨a, vs, fr', rfl, rfl, h1, h2⟩ := w
    obtain ⟨h3, rfl⟩ := frzK_fz e h1
    simp only [Fz]
    exact ⟨a, rfl, .inl ⟨vs, h3.same le, .inl h2⟩⟩
  | dct kvs =>
    simp only [O.frz, Option.map_eq_some_iff] at e
    obtain ⟨us, e, rfl⟩ := e
    simp only [Ow] at w
    obtain ⟨a, vs, fr', rfl, rfl, h1, h2⟩ := w
    obtain ⟨h3, rfl⟩ := frzT_fz e h1
    simp only [Fz]
    exact ⟨a, rfl, .inr ⟨vs, h3.same le, .inl h2⟩⟩
  | obj _ _ => cases e

/-! ### functions of two, of one view, whose value is plain -/
def flatD : D → Bool
  | .none => true
  | .bool _ => true
  | .int _ => true
  | .str _ => true
  | _ => false
def vw2 (c : D → D → Option D) : O → O → Option O := fun a b => a.frz.bind fun t => b.frz.bind fun u => (c t u).bind fun z => if flatD z = true then some (.leaf z) else none
def vw1 (c : D → Option D) : O → Option O := fun a => a.frz.bind fun t => (c t).bind fun z => if flatD z = true then some (.leaf z) else none
def valD : D → V
  | .bool b => .bl b
  | .int i => .int i
  | .str x => .str x
  | _ => .non
theorem fz_flat {K : PySem.W.Frag} {S : Hp} {z : D} (h : flatD z = true) : Fz K S z (valD z) := by
  cases z <;> first | (cases h; done) | (simp only [Fz, valD])
section
variable {K : PySem.W.Frag}
theorem ro2_vw {r : R2} {c : D → D → Option D} (h : ∀ H x y t u z Q, Fz K H t x → Fz K H u y → c t u = some z → flatD z = true → Q (valD z) H → r x y H Q) : RO2 K r (vw2 c) := by
  intro S H x y o1 o2 fr1 fr2 z Q le w1 w2 hg k
  unfold vw2 at hg
  simp only [Option.bind_eq_some_iff] at hg
  obtain ⟨t, h1, u, h2, zz, h3, h4⟩ := hg
  split at h4
  · rename_i hf
    cases h4
    exact h H x y t u zz Q (ow_view le w1 h1) (ow_view le w2 h2) h3 hf (k _ S H [] (Gr.refl le) (ow_leaf (fz_flat hf)) New.nil)
  · cases h4
theorem ro1_vw {r : V → Hp → VK → Prop} {c : D → Option D} (h : ∀ H x t z Q, Fz K H t x → c t = some z → flatD z = true → Q (valD z) H → r x H Q) : RO1 K r (vw1 c) := by
  intro S H x o fr1 z Q le w1 hg k
  unfold vw1 at hg
  simp only [Option.bind_eq_some_iff] at hg
  obtain ⟨t, h1, zz, h3, h4⟩ := hg
  split at h4
  · rename_i hf
    cases h4
    exact h H x t zz Q (ow_view le w1 h1) h3 hf (k _ S H [] (Gr.refl le) (ow_leaf (fz_flat hf)) New.nil)
  · cases h4
theorem RO2.orL {r r' : R2} {g : O → O → Option O} (h : RO2 K r g) : RO2 K (fun x y H Q => r x y H Q ∨ r' x y H Q) g := fun S H x y o1 o2 fr1 fr2 z Q le w1 w2 e k => .inl (h S H x y o1 o2 fr1 fr2 z Q le w1 w2 e k)
theorem RO2.or {r r' : R2} {g g' : O → O → Option O} (h : RO2 K r g) (h' : RO2 K r' g') : RO2 K (fun x y H Q => r x y H Q ∨ r' x y H Q) (fun a b => (g a b).or (g' a b)) := by
  intro S H x y o1 o2 fr1 fr2 z Q le w1 w2 e k
  dsimp only at e
  cases q : g o1 o2 with
  | some z1 =>
    rw [q] at e
    have e' : z1 = z := Option.some.inj e
    subst e'
    exact .inl (h S H x y o1 o2 fr1 fr2 _ Q le w1 w2 q k)
  | none =>
    rw [q] at e
    exact .inr (h' S H x y o1 o2 fr1 fr2 z Q le w1 w2 e k)
theorem RO2.imp {r r' : R2} {g : O → O → Option O} (h : RO2 K r g) (i : ∀ x y H Q, r x y H Q → r' x y H Q) : RO2 K r' g := fun S H x y o1 o2 fr1 fr2 z Q le w1 w2 e k => i _ _ _ _ (h S H x y o1 o2 fr1 fr2 z Q le w1 w2 e k)
theorem RO2.eq {r : R2} {g g' : O → O → Option O} (h : RO2 K r g) (i : ∀ a b z, g' a b = some z → g a b = some z) : RO2 K r g' := fun S H x y o1 o2 fr1 fr2 z Q le w1 w2 e k => h S H x y o1 o2 fr1 fr2 z Q le w1 w2 (i _ _ _ e) k
/-- whole numbers -/
theorem ro_int {C : Int → Int → Prop} {g : Int → Int → D} {gv : Int → Int → V} (hg : ∀ i j, flatD (g i j) = true ∧ valD (g i j) = gv i j) {c : D → D → Option D} (hc : ∀ t u z, c t u = some z → ∃ i j, t = .int i ∧ u = .int j ∧ C i j ∧ z = g i j) : RO2 K (rI C gv) (vw2 c) :=
  ro2_vw fun H x y t u z Q w1 w2 e hf q => by
    obtain ⟨i, j, rfl, rfl, h1, rfl⟩ := hc t u z e
    simp only [Fz] at w1 w2
    exact ⟨i, j, w1, w2, h1, by rw [← (hg i j).2]; exact q⟩
theorem ro_int0 {g : Int → Int → D} {gv : Int → Int → V} (hg : ∀ i j, flatD (g i j) = true ∧ valD (g i j) = gv i j) {c : D → D → Option D} (hc : ∀ t u z, c t u = some z → ∃ i j, t = .int i ∧ u = .int j ∧ z = g i j) : RO2 K (rI0 gv) (vw2 c) :=
  ro2_vw fun H x y t u z Q w1 w2 e hf q => by
    obtain ⟨i, j, rfl, rfl, rfl⟩ := hc t u z e
    simp only [Fz] at w1 w2
    exact ⟨i, j, w1, w2, by rw [← (hg i j).2]; exact q⟩
end
/-! the operators -/
def addI : D → D → Option D
  | .int i, .int j => some (.int (i + j))
  | .str i, .str j => if i.length + j.length ≤ sizeLine then some (.str (i ++ j)) else none
  | _, _ => none
def subI : D → D → Option D
  | .int i, .int j => some (.int (i - j))
  | _, _ => none
def mulI : D → D → Option D
  | .int i, .int j => if (Builtin.Int.intBits i : Int) + (Builtin.Int.intBits j : Int) ≤ 134217728 then some (.int (i * j)) else none
  | _, _ => none
def divI : D → D → Option D
  | .int i, .int j => if 0 < j ∧ j.natAbs.log2 < 9000 then some (.int (i / j)) else none
  | _, _ => none
def modI : D → D → Option D
  | .int i, .int j => if 0 < j then some (.int (i % j)) else none
  | _, _ => none
def powI : D → D → Option D
  | .int i, .int j => if 0 ≤ j ∧ j ≤ 1000000 ∧ i.natAbs < 2 ^ 64 then some (.int (i ^ j.toNat)) else none
  | _, _ => none
def negI : D → Option D
  | .int i => some (.int (-i))
  | _ => none
theorem ro_sub {K : PySem.W.Frag} : RO2 K (rI0 fun i j => .int (i - j)) (vw2 subI) := ro_int0 (g := fun i j => .int (i - j)) (fun _ _ => ⟨rfl, rfl⟩) fun t u z e => by
  unfold subI at e
  split at e
  · cases e
    exact ⟨_, _, rfl, rfl, rfl⟩
  · cases e
theorem ro_mul {K : PySem.W.Frag} : RO2 K (rI CMulX fun i j => .int (i * j)) (vw2 mulI) := ro_int (g := fun i j => .int (i * j)) (fun _ _ => ⟨rfl, rfl⟩) fun t u z e => by
  unfold mulI at e
  split at e
  · split at e
    · rename_i h
      cases e
      exact ⟨_, _, rfl, rfl, h, rfl⟩
    · cases e
  · cases e
theorem ro_div {K : PySem.W.Frag} : RO2 K (rI CDivW fun i j => .int (i / j)) (vw2 divI) := ro_int (g := fun i j => .int (i / j)) (fun _ _ => ⟨rfl, rfl⟩) fun t u z e => by
  unfold divI at e
  split at e
  · split at e
    · rename_i h
      cases e
      exact ⟨_, _, rfl, rfl, h, rfl⟩
    · cases e
  · cases e
theorem ro_mod {K : PySem.W.Frag} : RO2 K (rI (fun _ j => 0 < j) fun i j => .int (i % j)) (vw2 modI) := ro_int (g := fun i j => .int (i % j)) (fun _ _ => ⟨rfl, rfl⟩) fun t u z e => by
  unfold modI at e
  split at e
  · split at e
    · rename_i h
      cases e
      exact ⟨_, _, rfl, rfl, h, rfl⟩
    · cases e
  · cases e
theorem ro_pow {K : PySem.W.Frag} : RO2 K (rI CPow fun i j => .int (i ^ j.toNat)) (vw2 powI) := ro_int (g := fun i j => .int (i ^ j.toNat)) (fun _ _ => ⟨rfl, rfl⟩) fun t u z e => by
  unfold powI at e
  split at e
  · split at e
    · rename_i h
      cases e
      exact ⟨_, _, rfl, rfl, h, rfl⟩
    · cases e
  · cases e
theorem ro_neg {K : PySem.W.Frag} : RO1 K (rU fun i => .int (-i)) (vw1 negI) := ro1_vw fun H x t z Q w e hf q => by
  unfold negI at e
  split at e
  · cases e
    simp only [Fz] at w
    exact ⟨_, w, q⟩
  · cases e

/-! + : numbers, texts, lists, tuples -/
section
variable {X : Cx}
theorem rdL {pins : List (Addr × Obj)} {σ : L2.St} {H : Hp} {s : Shared} {a : Addr} {xs : List V} (I : Inv X pins σ H s) (h : LsAt X.K H a xs) :
    ∃ (its : List Value) (n : Nat), Vals xs its ∧ s.heap.get? a = some { cls := .type "list", data := .seq its.toArray n } ∧ xs.length ≤ sizeLine := by
  rcases h with h | ⟨its, n, r, z, e⟩
  · obtain ⟨z, its, n, r, e⟩ := h.ok I.hok
    exact ⟨its, n, r, e, z⟩
  · exact ⟨its, n, r, I.kIn _ _ e, z⟩
def rCatL (K : PySem.W.Frag) : R2 := fun x y H Q => ∃ a b xs ys, x = .ref a ∧ y = .ref b ∧ LsAt K H a xs ∧ LsAt K H b ys ∧ xs.length + ys.length ≤ sizeLine ∧ ∀ p, H p = none → Q (.ref p) (upd H p (.lst (xs ++ ys)))
theorem op_catL : OpR X (binaryOp .Add) (rCatL X.K) := by
  intro pins s σ H x y v u Q I rx ry h
  obtain ⟨l, b, xs, zs, rfl, rfl, hH, hB, hz, q⟩ := h
  cases rx
  cases ry
  obtain ⟨its, n, r, e, z⟩ := rdL I hH
  obtain ⟨its2, n2, r2, e2, z2⟩ := rdL I hB
  have hl := r.length
  have hl2 := r2.length
  refine PySem.P.add_list e e2 ?_ (by rw [List.size_toArray, List.size_toArray]; omega)
  have ea : its.toArray ++ its2.toArray = (its ++ its2).toArray := by simp
  rw [ea]
  exact ⟨.ref _, _, I.lnew (t' := s.toks) (r.append r2) (by rw [List.length_append]; omega), rfl, q _ I.fresh⟩
/-- the list's items, if it is one -/
def lstO : O → Option (List D)
  | .leaf (.list ts) => some ts
  | .ls ts => some ts
  | _ => none
def tupO : O → Option (List D)
  | .leaf (.tuple ts) => some ts
  | _ => none
theorem lstO_at {K : PySem.W.Frag} {S H : Hp} {o : O} {ts : List D} {v : V} {fr : List Addr} (le : Same S H) (w : Ow K S H o v fr) (e : lstO o = some ts) : ∃ a vs, v = .ref a ∧ LsAt K H a vs ∧ FzL K S ts vs := by
  cases o with
  | leaf t =>
    cases t with
    | list us =>
      cases e
      have w2 := (ow_leafE w).2
      simp only [Fz] at w2
      obtain ⟨a, vs, rfl, h1, h2⟩ := w2
      exact ⟨a, vs, rfl, ls_same le h1, h2⟩
    | _ => cases e
  | ls us =>
    cases e
    obtain ⟨a, vs, rfl, h1, rfl, h2⟩ := ow_lsE w
    exact ⟨a, vs, rfl, LsAt.of h1, h2⟩
  | _ => cases e
theorem tupO_at {K : PySem.W.Frag} {S H : Hp} {o : O} {ts : List D} {v : V} {fr : List Addr} (le : Same S H) (w : Ow K S H o v fr) (e : tupO o = some ts) : ∃ a vs, v = .ref a ∧ SqT K H a vs ∧ FzL K S ts vs := by
  cases o with
  | leaf t =>
    cases t with
    | tuple us =>
      cases e
      have w2 := (ow_leafE w).2
      simp only [Fz] at w2
      obtain ⟨a, vs, rfl, h1, h2⟩ := w2
      exact ⟨a, vs, rfl, SqT.of (le _ _ h1), h2⟩
    | _ => cases e
  | _ => cases e
/-- a new list of one's own, at any new place -/
theorem newL {K : PySem.W.Frag} {S H : Hp} {ts : List D} {vs : List V} {z : O} {Q : VK} (le : Same S H) (w : FzL K S ts vs) (hz : z = .ls ts) (k : ∀ v S' H' fr, Gr S H S' H' → Ow K S' H' z v fr → New H S' fr → Q v H') : ∀ p, H p = none → Q (.ref p) (upd H p (.lst vs)) := fun p hp => by
  subst hz
  exact k _ S _ [p] (Gr.newH le hp) (ow_ls upd_same w) (New.one hp (le.free hp))
theorem newT {K : PySem.W.Frag} {S H : Hp} {ts : List D} {vs : List V} {z : O} {Q : VK} (le : Same S H) (w : FzL K S ts vs) (hz : z = .leaf (.tuple ts)) (k : ∀ v S' H' fr, Gr S H S' H' → Ow K S' H' z v fr → New H S' fr → Q v H') : ∀ p, H p = none → Q (.ref p) (upd H p (.tup vs)) := fun p hp => by
  subst hz
  have G := Gr.newS (o := .tup vs) le hp
  refine k _ _ _ [] G (ow_leaf ?_) New.nil
  simp only [Fz]
  exact ⟨p, vs, rfl, upd_same, w.same G.sub⟩
def catL (a b : O) : Option O := (lstO a).bind fun ts => (lstO b).bind fun us => if ts.length + us.length ≤ sizeLine then some (.ls (ts ++ us)) else none
theorem ro_catL {K : PySem.W.Frag} : RO2 K (rCatL K) catL := by
  intro S H x y o1 o2 fr1 fr2 z Q le w1 w2 e k
  unfold catL at e
  simp only [Option.bind_eq_some_iff] at e
  obtain ⟨ts, h1, us, h2, h3⟩ := e
  split at h3
  · rename_i hl
    cases h3
    obtain ⟨a, vs, rfl, ha, za⟩ := lstO_at le w1 h1
    obtain ⟨b, ws, rfl, hb, zb⟩ := lstO_at le w2 h2
    exact ⟨a, b, vs, ws, rfl, rfl, ha, hb, by rw [za.len, zb.len]; exact hl, newL le (za.append zb) rfl k⟩
  · cases h3
def catT (a b : O) : Option O := (tupO a).bind fun ts => (tupO b).bind fun us => if ts.length + us.length ≤ sizeLine then some (.leaf (.tuple (ts ++ us))) else none
theorem FzL.ne {K : PySem.W.Frag} {S : Hp} {ts : List D} {vs : List V} (w : FzL K S ts vs) (h : ts ≠ []) : vs ≠ [] := by
  intro e
  have := w.len
  rw [e] at this
  exact h (List.length_eq_zero_iff.mp this.symm)
theorem FzL.emp {K : PySem.W.Frag} {S : Hp} {ts : List D} {vs : List V} (w : FzL K S ts vs) (h : vs = []) : ts = [] := by
  have := w.len
  rw [h] at this
  exact List.length_eq_zero_iff.mp this.symm
theorem tupO_S {K : PySem.W.Frag} {S H : Hp} {o : O} {ts : List D} {v : V} {fr : List Addr} (w : Ow K S H o v fr) (e : tupO o = some ts) : o = .leaf (.tuple ts) ∧ fr = [] ∧ Fz K S (.tuple ts) v := by
  cases o with
  | leaf t =>
    cases t with
    | tuple us =>
      cases e
      have w2 := ow_leafE w
      exact ⟨rfl, w2.1, w2.2⟩
    | _ => cases e
  | _ => cases e
theorem ro_catT {K : PySem.W.Frag} : RO2 K (L2.rCatA K) catT := by
  intro S H x y o1 o2 fr1 fr2 z Q le w1 w2 e k
  unfold catT at e
  simp only [Option.bind_eq_some_iff] at e
  obtain ⟨ts, h1, us, h2, h3⟩ := e
  split at h3
  · rename_i hl
    cases h3
    obtain ⟨rfl, rfl, f1⟩ := tupO_S w1 h1
    obtain ⟨rfl, rfl, f2⟩ := tupO_S w2 h2
    obtain ⟨a, vs, rfl, ha, za⟩ := tupO_at le w1 h1
    obtain ⟨b, ws, rfl, hb, zb⟩ := tupO_at le w2 h2
    refine ⟨a, b, vs, ws, rfl, rfl, ha, hb, by rw [za.len, zb.len]; exact hl, fun e => ?_, fun _ e => ?_, fun _ _ => newT le (za.append zb) rfl k⟩
    · have := za.emp e
      subst this
      exact k _ S H [] (Gr.refl le) (ow_leaf f2) New.nil
    · have := zb.emp e
      subst this
      exact k _ S H [] (Gr.refl le) (ow_leaf (by rw [List.append_nil]; exact f1)) New.nil
  · cases h3
def rAddS : R2 := fun x y H Q => ∃ i j, x = .str i ∧ y = .str j ∧ i.length + j.length ≤ sizeLine ∧ Q (.str (i ++ j)) H
/-- + -/
def oAdd (a b : O) : Option O := (vw2 addI a b).or ((catL a b).or (catT a b))
theorem op_addA : OpR X (binaryOp .Add) (fun x y H Q => (rI0 (fun i j => .int (i + j)) x y H Q ∨ rAddS x y H Q) ∨ (rCatL X.K x y H Q ∨ L2.rCatA X.K x y H Q)) := (op_add.or op_add_str).or (op_catL.or L2.op_catA)
theorem ro_add {K : PySem.W.Frag} : RO2 K (fun x y H Q => (rI0 (fun i j => .int (i + j)) x y H Q ∨ rAddS x y H Q) ∨ (rCatL K x y H Q ∨ L2.rCatA K x y H Q)) oAdd := by
  refine RO2.or (ro2_vw fun H x y t u z Q w1 w2 e hf q => ?_) (RO2.or ro_catL ro_catT)
  unfold addI at e
  split at e
  · cases e
    simp only [Fz] at w1 w2
    exact .inl ⟨_, _, w1, w2, q⟩
  · split at e
    · rename_i hl
      cases e
      simp only [Fz] at w1 w2
      exact .inr ⟨_, _, w1, w2, hl, q⟩
    · cases e
  · cases e

/-! ### comparisons -/
def rEqD (K : PySem.W.Frag) (neg : Bool) : R2 := fun x y H Q => ∃ t u, Fz K H t x ∧ Fz K H u y ∧ okd 50 t = true ∧ okd 50 u = true ∧ Q (.bl (if neg then !PyData.eqv t u else PyData.eqv t u)) H
theorem min_le' {a b : Nat} (h : a ≤ 50) : min a b ≤ 50 := Nat.le_trans (Nat.min_le_left _ _) h
theorem op_eqD (hu : X.A.units + 100 < cLine) : OpR X (compareOp .Eq) (rEqD X.K false) := by
  intro pins s σ H x y v u Q I rx ry h
  obtain ⟨t, t', w1, w2, k1, k2, q⟩ := h
  obtain ⟨p1, d1⟩ := okd_spec k1
  obtain ⟨p2, d2⟩ := okd_spec k2
  obtain ⟨as, r1⟩ := fz_reads I p1 w1 rx
  obtain ⟨bs, r2⟩ := fz_reads I p2 w2 ry
  exact PySem.SeqAt.eq_plain r1 r2 p1 p2 (by have := min_le' (b := t'.depth) d1; omega) ⟨.bl _, H, I, rfl, q⟩
theorem op_neD (hu : X.A.units + 100 < cLine) : OpR X (compareOp .NotEq) (rEqD X.K true) := by
  intro pins s σ H x y v u Q I rx ry h
  obtain ⟨t, t', w1, w2, k1, k2, q⟩ := h
  obtain ⟨p1, d1⟩ := okd_spec k1
  obtain ⟨p2, d2⟩ := okd_spec k2
  obtain ⟨as, r1⟩ := fz_reads I p1 w1 rx
  obtain ⟨bs, r2⟩ := fz_reads I p2 w2 ry
  exact PySem.SeqAt.ne_plain r1 r2 p1 p2 (by have := min_le' (b := t'.depth) d1; omega) ⟨.bl _, H, I, rfl, q⟩
def eqI (neg : Bool) (t u : D) : Option D := if (okd 50 t && okd 50 u) = true then some (.bool (if neg then !PyData.eqv t u else PyData.eqv t u)) else none
theorem ro_eq {K : PySem.W.Frag} {neg : Bool} : RO2 K (rEqD K neg) (vw2 (eqI neg)) := ro2_vw fun H x y t u z Q w1 w2 e hf q => by
  unfold eqI at e
  split at e
  · rename_i hk
    cases e
    rw [Bool.and_eq_true] at hk
    exact ⟨t, u, w1, w2, hk.1, hk.2, q⟩
  · cases e
inductive Ord4 where
  | lt | gt | le | ge
def ordB : Ord4 → D → D → Bool
  | .lt, t, u => PySem.W.dataLt t u
  | .gt, t, u => PySem.W.dataLt u t
  | .le, t, u => !PySem.W.dataLt u t
  | .ge, t, u => !PySem.W.dataLt t u
def nonN : D → Bool
  | .none => false
  | _ => true
def ordI (o : Ord4) (t u : D) : Option D := if (okd 50 t && okd 50 u && PySem.W.alike t u && nonN t) = true then some (.bool (ordB o t u)) else none
def rOrd (K : PySem.W.Frag) (o : Ord4) : R2 := fun x y H Q => ∃ t u, Fz K H t x ∧ Fz K H u y ∧ okd 50 t = true ∧ okd 50 u = true ∧ PySem.W.alike t u = true ∧ t ≠ .none ∧ Q (.bl (ordB o t u)) H
theorem ro_ord {K : PySem.W.Frag} {o : Ord4} : RO2 K (rOrd K o) (vw2 (ordI o)) := ro2_vw fun H x y t u z Q w1 w2 e hf q => by
  unfold ordI at e
  split at e
  · rename_i hk
    cases e
    simp only [Bool.and_eq_true] at hk
    exact ⟨t, u, w1, w2, hk.1.1.1, hk.1.1.2, hk.1.2, (by intro z; subst z; cases hk.2), q⟩
  · cases e
def opOf : Ord4 → CmpOp
  | .lt => .Lt
  | .gt => .Gt
  | .le => .LtE
  | .ge => .GtE
theorem op_ord {o : Ord4} (hu : X.A.units + 100 < cLine) : OpR X (compareOp (opOf o)) (rOrd X.K o) := by
  intro pins s σ H x y v u Q I rx ry h
  obtain ⟨t, t', w1, w2, k1, k2, al, nn, q⟩ := h
  obtain ⟨p1, d1⟩ := okd_spec k1
  obtain ⟨p2, d2⟩ := okd_spec k2
  obtain ⟨as, r1⟩ := fz_reads I p1 w1 rx
  obtain ⟨bs, r2⟩ := fz_reads I p2 w2 ry
  have hd : X.A.units + min t.depth t'.depth < cLine := by have := min_le' (b := t'.depth) d1; omega
  cases o with
  | lt => exact PySem.W.lt_data r1 r2 al nn hd ⟨.bl _, H, I, rfl, q⟩
  | gt => exact PySem.W.gt_data r1 r2 al nn hd ⟨.bl _, H, I, rfl, q⟩
  | le => exact PySem.W.le_data r1 r2 al nn hd ⟨.bl _, H, I, rfl, q⟩
  | ge => exact PySem.W.ge_data r1 r2 al nn hd ⟨.bl _, H, I, rfl, q⟩
end
end Mv

set_option Elab.async false
set_option linter.all false
set_option maxRecDepth 100000
set_option maxHeartbeats 2000000
namespace Mv
open PySem PySem.Spec PyProof.Rows L2
section
variable {X : Cx}

/-! ### in, not in -/
def rInD (K : PySem.W.Frag) (neg : Bool) : R2 := fun x y H Q => ∃ t ts a vs, Fz K H t x ∧ y = .ref a ∧ (LsAt K H a vs ∨ H a = some (.tup vs)) ∧ FzL K H ts vs ∧ okd 50 t = true ∧ ts.all (okd 49) = true ∧ Q (.bl (if neg then !(ts.any fun u => PyData.eqv u t) else ts.any fun u => PyData.eqv u t)) H
theorem allok {n : Nat} {ts : List D} (h : ts.all (okd n) = true) : PyData.plainAll ts = true ∧ PyData.depthAll ts ≤ n := okd_all fun t m => okd_spec (List.all_eq_true.mp h t m)
theorem op_inD (hu : X.A.units + 100 < cLine) : OpR X (compareOp .In) (rInD X.K false) := by
  intro pins s σ H x y v u Q I rx ry h
  obtain ⟨t, ts, a, vs, w1, rfl, w2, w3, k1, k2, q⟩ := h
  cases ry
  obtain ⟨p1, d1⟩ := okd_spec k1
  obtain ⟨p2, d2⟩ := allok k2
  obtain ⟨as, r1⟩ := fz_reads I p1 w1 rx
  have hd : X.A.units + 1 + min (PyData.depthAll ts) t.depth < cLine := by have := Nat.min_le_left (PyData.depthAll ts) t.depth; omega
  rcases w2 with w2 | w2
  · have w2' : Fz X.K H (.list ts) (.ref a) := by simp only [Fz]; exact ⟨a, vs, rfl, w2, w3⟩
    obtain ⟨bs, r2⟩ := fz_reads I (by rw [PyData.plain]; exact p2) w2' (show RelV (.ref a) (Value.ref a) from rfl)
    exact PySem.SeqAt.in_list_data r2 r1 p2 p1 hd ⟨.bl _, H, I, rfl, q⟩
  · have w2' : Fz X.K H (.tuple ts) (.ref a) := by simp only [Fz]; exact ⟨a, vs, rfl, w2, w3⟩
    obtain ⟨bs, r2⟩ := fz_reads I (by rw [PyData.plain]; exact p2) w2' (show RelV (.ref a) (Value.ref a) from rfl)
    exact PySem.SeqAt.in_tuple_data r2 r1 p2 p1 hd ⟨.bl _, H, I, rfl, q⟩
theorem op_notInD (hu : X.A.units + 100 < cLine) : OpR X (compareOp .NotIn) (rInD X.K true) := by
  intro pins s σ H x y v u Q I rx ry h
  obtain ⟨t, ts, a, vs, w1, rfl, w2, w3, k1, k2, q⟩ := h
  cases ry
  obtain ⟨p1, d1⟩ := okd_spec k1
  obtain ⟨p2, d2⟩ := allok k2
  obtain ⟨as, r1⟩ := fz_reads I p1 w1 rx
  have hd : X.A.units + 1 + min (PyData.depthAll ts) t.depth < cLine := by have := Nat.min_le_left (PyData.depthAll ts) t.depth; omega
  rcases w2 with w2 | w2
  · have w2' : Fz X.K H (.list ts) (.ref a) := by simp only [Fz]; exact ⟨a, vs, rfl, w2, w3⟩
    obtain ⟨bs, r2⟩ := fz_reads I (by rw [PyData.plain]; exact p2) w2' (show RelV (.ref a) (Value.ref a) from rfl)
    exact PySem.SeqAt.notIn_list_data r2 r1 p2 p1 hd ⟨.bl _, H, I, rfl, q⟩
  · have w2' : Fz X.K H (.tuple ts) (.ref a) := by simp only [Fz]; exact ⟨a, vs, rfl, w2, w3⟩
    obtain ⟨bs, r2⟩ := fz_reads I (by rw [PyData.plain]; exact p2) w2' (show RelV (.ref a) (Value.ref a) from rfl)
    exact PySem.SeqAt.notIn_tuple_data r2 r1 p2 p1 hd ⟨.bl _, H, I, rfl, q⟩
/-- a text in a text -/
def rInS (neg : Bool) : R2 := fun x y H Q => ∃ i j, x = .str i ∧ y = .str j ∧ Q (.bl (if neg then !(!(Builtin.Str.occurrences j i 0 j.length 1).isEmpty) else !(Builtin.Str.occurrences j i 0 j.length 1).isEmpty)) H
def inI (neg : Bool) : D → D → Option D
  | t, .list ts => if (okd 50 t && ts.all (okd 49)) = true then some (.bool (if neg then !(ts.any fun u => PyData.eqv u t) else ts.any fun u => PyData.eqv u t)) else none
  | t, .tuple ts => if (okd 50 t && ts.all (okd 49)) = true then some (.bool (if neg then !(ts.any fun u => PyData.eqv u t) else ts.any fun u => PyData.eqv u t)) else none
  | .str i, .str j => some (.bool (if neg then !(!(Builtin.Str.occurrences j i 0 j.length 1).isEmpty) else !(Builtin.Str.occurrences j i 0 j.length 1).isEmpty))
  | _, _ => none
theorem ro_in {K : PySem.W.Frag} {neg : Bool} : RO2 K (fun x y H Q => rInD K neg x y H Q ∨ rInS neg x y H Q) (vw2 (inI neg)) := ro2_vw fun H x y t u z Q w1 w2 e hf q => by
  unfold inI at e
  split at e
  · split at e
    · rename_i hk
      cases e
      rw [Bool.and_eq_true] at hk
      simp only [Fz] at w2
      obtain ⟨a, vs, rfl, h1, h2⟩ := w2
      exact .inl ⟨t, _, a, vs, w1, rfl, .inl h1, h2, hk.1, hk.2, q⟩
    · cases e
  · split at e
    · rename_i hk
      cases e
      rw [Bool.and_eq_true] at hk
      simp only [Fz] at w2
      obtain ⟨a, vs, rfl, h1, h2⟩ := w2
      exact .inl ⟨t, _, a, vs, w1, rfl, .inr h1, h2, hk.1, hk.2, q⟩
    · cases e
  · cases e
    simp only [Fz] at w1 w2
    exact .inr ⟨_, _, w1, w2, q⟩
  · cases e
theorem op_inA (hu : X.A.units + 100 < cLine) : OpR X (compareOp .In) (fun x y H Q => rInD X.K false x y H Q ∨ rInS false x y H Q) := (op_inD hu).or op_in_str
theorem op_notInA (hu : X.A.units + 100 < cLine) : OpR X (compareOp .NotIn) (fun x y H Q => rInD X.K true x y H Q ∨ rInS true x y H Q) := (op_notInD hu).or op_notin_str

/-! ### is None -/
def isNI (neg : Bool) : D → D → Option D
  | .none, .none => some (.bool (if neg then false else true))
  | _, .none => some (.bool (if neg then true else false))
  | _, _ => none
def rIsN (neg : Bool) : R2 := fun x y H Q => y = .non ∧ Q (.bl (if neg then !decide (x = .non) else decide (x = .non))) H
theorem fz_non {K : PySem.W.Frag} {H : Hp} {t : D} {x : V} (h : t ≠ .none) (w : Fz K H t x) : x ≠ .non := by
  intro e
  subst e
  cases t <;> simp only [Fz] at w <;> first | exact h rfl | (cases w; done) | (obtain ⟨a, e, _⟩ := w; cases e; done) | (obtain ⟨a, vs, e, _⟩ := w; cases e)
theorem ro_isN {K : PySem.W.Frag} {neg : Bool} : RO2 K (rIsN neg) (vw2 (isNI neg)) := ro2_vw fun H x y t u z Q w1 w2 e hf q => by
  unfold isNI at e
  split at e
  · cases e
    simp only [Fz] at w1 w2
    subst w1
    refine ⟨w2, ?_⟩
    cases neg <;> exact q
  · rename_i hne
    cases e
    simp only [Fz] at w2
    have := fz_non (fun z => hne z) w1
    refine ⟨w2, ?_⟩
    rw [decide_eq_false this]
    cases neg <;> exact q
  · cases e
theorem op_isNA : OpR X (compareOp .Is) (rIsN false) := op_isN
theorem op_notNA : OpR X (compareOp .IsNot) (rIsN true) := op_notN

/-! ### x[i] -/
def ixL (ts : List D) (i : Int) : Option D := atI ts i
theorem atI_fz {K : PySem.W.Frag} {S : Hp} {ts : List D} {vs : List V} {i : Int} {t : D} (w : FzL K S ts vs) (h : atI ts i = some t) : ∃ v, atI vs i = some v ∧ Fz K S t v := by
  unfold atI at h ⊢
  rw [w.len]
  cases q : ixN ts.length i with
  | none => rw [q] at h; cases h
  | some j =>
    rw [q] at h
    obtain ⟨v, h1, h2⟩ := w.get (i := j) (t := t) h
    exact ⟨v, h1, h2⟩
/-- the items of a list or a tuple -/
def seqO (o : O) : Option (List D) := (lstO o).or (tupO o)
theorem seqO_S {K : PySem.W.Frag} {S H : Hp} {o : O} {ts : List D} {v : V} {fr : List Addr} (le : Same S H) (w : Ow K S H o v fr) (e : seqO o = some ts) : ∃ a vs, v = .ref a ∧ (LsAt K H a vs ∨ H a = some (.tup vs)) ∧ FzL K S ts vs := by
  cases o with
  | leaf t =>
    have w2 := (ow_leafE w).2
    cases t with
    | list us =>
      cases e
      simp only [Fz] at w2
      obtain ⟨a, vs, rfl, h1, h2⟩ := w2
      exact ⟨a, vs, rfl, .inl (ls_same le h1), h2⟩
    | tuple us =>
      cases e
      simp only [Fz] at w2
      obtain ⟨a, vs, rfl, h1, h2⟩ := w2
      exact ⟨a, vs, rfl, .inr (le _ _ h1), h2⟩
    | _ => cases e
  | ls us =>
    cases e
    obtain ⟨a, vs, rfl, h1, rfl, h2⟩ := ow_lsE w
    exact ⟨a, vs, rfl, .inl (LsAt.of h1), h2⟩
  | _ => cases e
def strIx (a : O) (i : Int) : Option O := match a with
  | .leaf (.str z) => if z.length ≤ sizeLine then (atI z.cps.toList i).map fun c => .leaf (.str ⟨#[c]⟩) else none
  | _ => none
def oIx (a b : O) : Option O := match b with
  | .leaf (.int i) => (((seqO a).bind fun ts => atI ts i).map .leaf).or (strIx a i)
  | _ => none
theorem ro_ix {K : PySem.W.Frag} : RO2 K (rIx K) oIx := by
  intro S H x y o1 o2 fr1 fr2 z Q le w1 w2 e k
  unfold oIx at e
  split at e
  · rename_i i
    have hy := (ow_leafE w2).2
    simp only [Fz] at hy
    cases q : ((seqO o1).bind fun ts => atI ts i).map O.leaf with
    | some zz =>
      rw [q] at e
      have e' : zz = z := Option.some.inj e
      subst e'
      simp only [Option.map_eq_some_iff, Option.bind_eq_some_iff] at q
      obtain ⟨t, ⟨ts, h1, h2⟩, rfl⟩ := q
      obtain ⟨a, vs, rfl, ha, za⟩ := seqO_S le w1 h1
      obtain ⟨v, hv, wv⟩ := atI_fz za h2
      have fin := k v S H [] (Gr.refl le) (ow_leaf wv) New.nil
      rcases ha with ha | ha
      · exact .inl ⟨a, vs, i, v, rfl, hy, ha.sq, hv, fin⟩
      · exact .inr (.inl ⟨a, vs, i, v, rfl, hy, SqT.of ha, hv, fin⟩)
    | none =>
      rw [q] at e
      have e' : strIx o1 i = some z := e
      unfold strIx at e'
      split at e'
      · split at e'
        · rename_i zz hl
          simp only [Option.map_eq_some_iff] at e'
          obtain ⟨c, hc, rfl⟩ := e'
          have hx := (ow_leafE w1).2
          simp only [Fz] at hx
          exact .inr (.inr ⟨zz, i, c, hx, hy, hl, hc, k _ S H [] (Gr.refl le) (ow_leaf (by simp only [Fz])) New.nil⟩)
        · cases e'
      · cases e'
  · cases e

/-! ### slices -/
structure SO (X : Cx) (o : Option Expr) (f : ESem) (q : Bool) : Prop where
  po : PO X o (fun σ H Q => tE X.K f q true σ H fun x H1 => (x = .non ∧ Q none H1) ∨ ∃ i, x = .int i ∧ Q (some i) H1)
  qf : q = true → ∀ env r env', f env = some (r, env') → env' = env
theorem so_none : SO X none (cstE .none) true := by
  refine ⟨⟨fun pins s σ H Q I h => ?_⟩, cst_qf⟩
  obtain ⟨env, S, fp, r, env', R, he, k⟩ := h
  cases he
  refine po_none.run pins s σ H Q I ?_
  rcases k .non S H fp [] R (Evo.refl _ _ _) (ow_leaf (by simp only [Fz])) (fun _ => ⟨rfl, Same.refl _⟩) (fun _ => Fresh.nil) with ⟨_, q⟩ | ⟨i, e, _⟩
  · exact q
  · cases e
def intE (f : ESem) : ESem := fun env => (f env).bind fun p => match p.1 with
  | .leaf (.int i) => some (.leaf (.int i), p.2)
  | _ => none
theorem intE_some {f : ESem} {env env' : Env} {z : O} (h : intE f env = some (z, env')) : ∃ i, f env = some (.leaf (.int i), env') ∧ z = .leaf (.int i) := by
  unfold intE at h
  simp only [Option.bind_eq_some_iff] at h
  obtain ⟨⟨o, e1⟩, h1, h2⟩ := h
  simp only at h2
  split at h2
  · cases h2
    exact ⟨_, h1, rfl⟩
  · cases h2
theorem so_some {e : Expr} {f : ESem} {q m : Bool} (h : SE X e f q m) : SO X (some e) (intE f) q := by
  refine ⟨⟨fun pins s σ H Q I hw => ?_⟩, fun e env r env' hh => by
    obtain ⟨i, h1, rfl⟩ := intE_some hh
    exact h.qf e _ _ _ h1⟩
  refine (po_some h.pe).run pins s σ H Q I ?_
  obtain ⟨env, S, fp, r, env', R, he, k⟩ := hw
  obtain ⟨i, h1, rfl⟩ := intE_some he
  refine ⟨env, S, fp, _, env', R, h1, fun v S1 H1 fp1 fr R1 E1 w g n => ?_⟩
  have hv := (ow_leafE w).2
  simp only [Fz] at hv
  rcases k v S1 H1 fp1 fr R1 E1 w g (fun _ => fresh_of (m := m) (.inr rfl) w n) with ⟨e, _⟩ | ⟨j, e, q⟩
  · rw [hv] at e
    cases e
  · rw [hv] at e
    cases e
    exact ⟨_, hv, q⟩
def optI : O → Option (Option Int)
  | .leaf .none => some none
  | .leaf (.int i) => some (some i)
  | _ => none
def cutD (ts : List D) (lo hi : Option Int) : List D := (ts.drop (HT.sIx ts.length 0 lo)).take (HT.sIx ts.length ts.length hi - HT.sIx ts.length 0 lo)
theorem FzL.cut {K : PySem.W.Frag} {S : Hp} {ts : List D} {vs : List V} (w : FzL K S ts vs) (lo hi : Option Int) : FzL K S (cutD ts lo hi) (cutV vs lo hi) := by
  unfold cutD cutV
  rw [w.len]
  exact (w.drop _).take _
def oSl (a : O) (lo hi : Option Int) : Option O := match a with
  | .leaf (.list ts) => some (.ls (cutD ts lo hi))
  | .ls ts => some (.ls (cutD ts lo hi))
  | .leaf (.str z) => if z.length ≤ sizeLine then some (.leaf (.str (cutS z lo hi))) else none
  | .leaf (.tuple ts) => some (.leaf (.tuple (cutD ts lo hi)))
  | _ => none
def rSlAll (K : PySem.W.Frag) : V → Option Int → Option Int → Hp → VK → Prop := fun x lo hi H Q => rSlL K x lo hi H Q ∨ (rSlS x lo hi H Q ∨ L2.rSlA K x lo hi H Q)
theorem sl_all : SlR X (rSlAll X.K) := sl_list.or (sl_str.or L2.sl_tupA)
theorem ro_sl {K : PySem.W.Frag} {S H : Hp} {x : V} {o z : O} {fr : List Addr} {lo hi : Option Int} {Q : VK} (le : Same S H) (w : Ow K S H o x fr) (e : oSl o lo hi = some z) (k : ∀ v S' H' fr, Gr S H S' H' → Ow K S' H' z v fr → New H S' fr → Q v H') : rSlAll K x lo hi H Q := by
  have lst : ∀ ts, lstO o = some ts → z = .ls (cutD ts lo hi) → rSlAll K x lo hi H Q := fun ts h1 hz => by
    have key : ∃ a vs, x = .ref a ∧ LsAt K H a vs ∧ FzL K S ts vs := lstO_at le w h1
    obtain ⟨a, vs, rfl, ha, za⟩ := key
    exact .inl ⟨a, vs, rfl, ha.sq, newL le (za.cut lo hi) hz k⟩
  unfold oSl at e
  split at e
  · cases e
    exact lst _ rfl rfl
  · cases e
    exact lst _ rfl rfl
  · split at e
    · rename_i hl
      cases e
      have hx := (ow_leafE w).2
      simp only [Fz] at hx
      exact .inr (.inl ⟨_, hx, hl, k _ S H [] (Gr.refl le) (ow_leaf (by simp only [Fz])) New.nil⟩)
    · cases e
  · rename_i ts
    cases e
    have hx := (ow_leafE w).2
    have hx' := hx
    simp only [Fz] at hx
    obtain ⟨a, vs, rfl, h1, h2⟩ := hx
    refine .inr (.inr ⟨a, vs, rfl, SqT.of (le _ _ h1), fun hw => ?_, fun _ => newT le (h2.cut lo hi) rfl k⟩)
    refine k _ S H [] (Gr.refl le) (ow_leaf ?_) New.nil
    have : cutD ts lo hi = ts := by
      unfold cutD
      rw [← h2.len, hw.1, hw.2, List.drop_zero, Nat.sub_zero, h2.len, List.take_length]
    rw [this]
    exact hx'
  · cases e
def sliceE (ok : Bool) (f fl fh : ESem) : ESem := fun env => (f env).bind fun p => (fl p.2).bind fun l => (fh l.2).bind fun h =>
  if (ok || p.1.isLeaf) = true then (optI l.1).bind fun lo => (optI h.1).bind fun hi => (oSl p.1 lo hi).map fun z => (z, h.2) else none
theorem sliceE_some {ok : Bool} {f fl fh : ESem} {env env' : Env} {z : O} (h : sliceE ok f fl fh env = some (z, env')) : ∃ o e1 l e2 hh lo hi, f env = some (o, e1) ∧ fl e1 = some (l, e2) ∧ fh e2 = some (hh, env') ∧ (ok = true ∨ o.isLeaf = true) ∧ optI l = some lo ∧ optI hh = some hi ∧ oSl o lo hi = some z := by
  unfold sliceE at h
  simp only [Option.bind_eq_some_iff] at h
  obtain ⟨⟨o, e1⟩, h1, ⟨l, e2⟩, h2, ⟨hh, e3⟩, h3, h4⟩ := h
  simp only at h1 h2 h3
  split at h4
  · rename_i hc
    simp only [Bool.or_eq_true] at hc
    simp only [Option.bind_eq_some_iff, Option.map_eq_some_iff, Prod.mk.injEq] at h4
    obtain ⟨lo, h5, hi, h6, zz, h7, rfl, rfl⟩ := h4
    exact ⟨o, e1, l, e2, hh, lo, hi, h1, h2, h3, hc, h5, h6, h7⟩
  · cases h4
theorem se_slice {e : Expr} {l h : Option Expr} {f fl fh : ESem} {q q1 q2 m ok : Bool} {pos p2 : Pos} (he : SE X e f q m) (hl : SO X l fl q1) (hh : SO X h fh q2) (hok : ok = true → m = true ∨ (q1 && q2) = true) :
    SE X (.Subscript e (.Slice l h none p2) pos) (sliceE ok f fl fh) (q && (q1 && q2)) true := by
  refine ⟨PE.imp (pe_slice sl_all he.pe hl.po hh.po) fun σ H Q hw => ?_, fun e env r env' hh' => ?_⟩
  · obtain ⟨env, S, fp, z, env', R, hf, k⟩ := hw
    obtain ⟨o, e1, l', e2, h', lo, hi, h1, h2, h3, hc, h5, h6, h7⟩ := sliceE_some hf
    refine ⟨env, S, fp, o, e1, R, h1, fun x S1 H1 fp1 fr1 R1 E1 w1 g1 n1 => ⟨e1, S1, fp1, l', e2, R1, h2, fun vl S2 H2 fp2 frl R2 E2 w2 g2 n2 => ?_⟩⟩
    have rest : ∀ (Q' : Option Int → Hp → Prop), (∀ H3, Q' hi H3 → Q' hi H3) → True := fun _ _ => trivial
    have second : tE X.K fh q2 true σ H2 fun y H3 => (y = .non ∧ rSlAll X.K x lo none H3 Q) ∨ ∃ i, y = .int i ∧ rSlAll X.K x lo (some i) H3 Q := by
      refine ⟨e2, S2, fp2, h', env', R2, h3, fun vh S3 H3 fp3 frh R3 E3 w3 g3 n3 => ?_⟩
      have w1' : Ow X.K S3 H3 o x fr1 := by
        by_cases hl1 : o.isLeaf = true
        · have e := isLeaf_fr hl1 w1
          subst e
          exact w1.keep (E2.sub.trans E3.sub) (fun a ha => nomatch ha)
        · rcases hok (hc.resolve_right hl1) with e | e
          · exact w1.evo (n1 e).off (E2.trans E3)
          · rw [Bool.and_eq_true] at e
            exact w1.mono (E2.sub.trans E3.sub) ((g2 e.1).2.trans (g3 e.2).2)
      have fin : rSlAll X.K x lo hi H3 Q := ro_sl R3.le w1' h7 fun v S' H' fr gr w nw => by
        refine k v S' H' fp3 fr (R3.gr gr) (((E1.trans E2).trans E3).trans gr.evo) w (fun e => ?_) (fun _ => Fresh.pre ((E1.trans E2).trans E3) (nw.fresh R3.ins))
        simp only [Bool.and_eq_true] at e
        exact ⟨((g3 e.2.2).1.trans (g2 e.2.1).1).trans (g1 e.1).1, (((g1 e.1).2.trans (g2 e.2.1).2).trans (g3 e.2.2).2).trans gr.grow⟩
      unfold optI at h6
      split at h6
      · cases h6
        have hv := (ow_leafE w3).2
        simp only [Fz] at hv
        exact .inl ⟨hv, fin⟩
      · cases h6
        have hv := (ow_leafE w3).2
        simp only [Fz] at hv
        exact .inr ⟨_, hv, fin⟩
      · cases h6
    unfold optI at h5
    split at h5
    · cases h5
      have hv := (ow_leafE w2).2
      simp only [Fz] at hv
      exact .inl ⟨hv, second⟩
    · cases h5
      have hv := (ow_leafE w2).2
      simp only [Fz] at hv
      exact .inr ⟨_, hv, second⟩
    · cases h5
  · simp only [Bool.and_eq_true] at e
    obtain ⟨o, e1, l', e2, h', lo, hi, h1, h2, h3, hc, h5, h6, h7⟩ := sliceE_some hh'
    rw [hh.qf e.2.2 _ _ _ h3, hl.qf e.2.1 _ _ _ h2, he.qf e.1 _ _ _ h1]
/-- xs[::-1] -/
def revO (a : O) : Option O := match a with
  | .leaf (.list ts) => some (.ls ts.reverse)
  | .ls ts => some (.ls ts.reverse)
  | _ => none
theorem ro_rev {K : PySem.W.Frag} : RO1 K (fun x H Q => ∃ a xs, x = .ref a ∧ SqL K H a xs ∧ ∀ p, H p = none → Q (.ref p) (upd H p (.lst xs.reverse))) revO := by
  intro S H x o fr1 z Q le w e k
  unfold revO at e
  split at e
  · cases e
    obtain ⟨a, vs, rfl, ha, za⟩ := lstO_at le w rfl
    exact ⟨a, vs, rfl, ha.sq, newL le za.reverse rfl k⟩
  · cases e
    obtain ⟨a, vs, rfl, ha, za⟩ := lstO_at le w rfl
    exact ⟨a, vs, rfl, ha.sq, newL le za.reverse rfl k⟩
  · cases e
theorem se_rev {e : Expr} {f : ESem} {q m : Bool} {k : Nat} {p1 p2 p3 pos : Pos} (h : SE X e f q m) : SE X (.Subscript e (.Slice none none (some (.UnaryOp .USub (.Constant (.int 1) k p1) p2)) p3) pos) (un f revO) q true :=
  ⟨PE.imp (pe_revL h.pe) fun σ H Q hw => imp1 ro_rev hw, un_qf h.qf⟩

/-! ### calls of built-ins with one argument, with two -/
theorem tCB1 {K : PySem.W.Frag} {r : List V → Hp → VK → Prop} {g : O → Option O} {f : ESem} {q m : Bool} (hr : RO1 K (fun x => r [x]) g) {σ : L2.St} {H : Hp} {Q : VK} (h : tE K (un f g) q true σ H Q) : tCB r (tCons (tE K f q m) tNil) σ H Q := imp1 (r := fun x => r [x]) hr h
theorem tCB2 {K : PySem.W.Frag} {r : List V → Hp → VK → Prop} {g : O → O → Option O} {f1 f2 : ESem} {q1 q2 m1 m2 ok : Bool} (hr : RO2 K (fun x y => r [x, y]) g) (hok : ok = true → m1 = true ∨ q2 = true) (hq1 : q1 = true → ∀ env r env', f1 env = some (r, env') → env' = env) (hq2 : q2 = true → ∀ env r env', f2 env = some (r, env') → env' = env)
    {σ : L2.St} {H : Hp} {Q : VK} (h : tE K (bin ok f1 f2 g) (q1 && q2) true σ H Q) : tCB r (tCons (tE K f1 q1 m1) (tCons (tE K f2 q2 m2) tNil)) σ H Q := imp2 (r := fun x y => r [x, y]) hr hok hq1 hq2 h
section
variable {e a b : Expr} {f f1 f2 : ESem} {q q1 q2 m m1 m2 ok : Bool} {pos p : Pos} {x : Str} {id T : String} {r : List V → Hp → VK → Prop}
theorem se_b1 {g : O → Option O} (hc : CallR X (.builtin id) r) (hr : RO1 X.K (fun x => r [x]) g) (hg : Gl X x) (hm : X.mg x = none) (hv : bootBuiltins x = some (.builtin id)) (h : SE X a f q m) (hn : x ≠ "__name__" := by decide) (hdb : (x == ("__debug__" : Str)) = false := by decide)
    (he : starEach [a] X.env = (false, eval a X.env) :: starEach [] X.env := by rfl) (hpl : (backTo pos (starEach [] X.env)).any (·.1) = false := by rfl) : SE X (.Call (.Name x p) [a] [] pos) (un f g) q true :=
  ⟨PE.imp (pe_callB hc hg hm hv (pa_cons h.pe pa_nil he) hn hdb he hpl) fun _ _ _ hw => tCB1 hr hw, un_qf h.qf⟩
theorem se_t1 {g : O → Option O} (hc : CallR X (.type T) r) (hr : RO1 X.K (fun x => r [x]) g) (hg : Gl X x) (hm : X.mg x = none) (hv : bootBuiltins x = some (.type T)) (h : SE X a f q m) (hn : x ≠ "__name__" := by decide) (hdb : (x == ("__debug__" : Str)) = false := by decide)
    (he : starEach [a] X.env = (false, eval a X.env) :: starEach [] X.env := by rfl) (hpl : (backTo pos (starEach [] X.env)).any (·.1) = false := by rfl) : SE X (.Call (.Name x p) [a] [] pos) (un f g) q true :=
  ⟨PE.imp (pe_callTy hc hg hm hv (pa_cons h.pe pa_nil he) hn hdb he hpl) fun _ _ _ hw => tCB1 hr hw, un_qf h.qf⟩
theorem se_b2 {g : O → O → Option O} (hc : CallR X (.builtin id) r) (hr : RO2 X.K (fun x y => r [x, y]) g) (hg : Gl X x) (hm : X.mg x = none) (hv : bootBuiltins x = some (.builtin id)) (h1 : SE X a f1 q1 m1) (h2 : SE X b f2 q2 m2) (hok : ok = true → m1 = true ∨ q2 = true) (hn : x ≠ "__name__" := by decide) (hdb : (x == ("__debug__" : Str)) = false := by decide)
    (he : starEach [a, b] X.env = (false, eval a X.env) :: starEach [b] X.env := by rfl) (he2 : starEach [b] X.env = (false, eval b X.env) :: starEach [] X.env := by rfl) (hpl : (backTo pos (starEach [b] X.env)).any (·.1) = false := by rfl) : SE X (.Call (.Name x p) [a, b] [] pos) (bin ok f1 f2 g) (q1 && q2) true :=
  ⟨PE.imp (pe_callB hc hg hm hv (pa_cons h1.pe (pa_cons h2.pe pa_nil he2) he) hn hdb he hpl) fun _ _ _ hw => tCB2 hr hok h1.qf h2.qf hw, bin_qf h1.qf h2.qf⟩
end
end
end Mv

set_option Elab.async false
set_option linter.all false
set_option maxRecDepth 100000
set_option maxHeartbeats 2000000
/-! sorted over a tuple: as the library's sorted over a list -/
namespace PyProof.Rows
open PySem
section
variable {prog : Program} {w : World} {A : Around} {E : Value → Shared → Prop} {s : Shared}
theorem mv_collect_tuple {l : Addr} {vs : List Value} {Q : List Value → Shared → Prop} (hl : s.heap.IsTuple l vs.toArray)
    (h : Q vs { s with heap := (s.heap.push (seqObj "list" #[] 0)).update s.heap.objs.size (Obj.mapSeq (· ++ vs.toArray)) }) (hsz : vs.length ≤ sizeLine) :
    wpAny (model prog w) A (collect (.ref l)) Q E s := by
  obtain ⟨o, ho, hc, n, hd⟩ := id hl
  unfold collect
  refine wpAny_bind (wpAny_runValue (codeAny_builtin entry_proto_collect' ?_))
  show wpAny _ _ (do again (.builtin "list.__iadd__" ⟨[← newList [], .ref l], []⟩)) _ _ s
  refine wpAny_bind (wpAny_newList (wpAny_pure ⟨Code.quiet_builtin _ (by decide +kernel), codeAny_builtin entry_list_iadd' ?_⟩))
  show wpAny _ _ (Builtin.List.listExtendWith (.ref s.heap.objs.size) (.ref l) (.ref s.heap.objs.size)) _ _ { s with heap := s.heap.push (seqObj "list" #[] 0) }
  unfold Builtin.List.listExtendWith
  have ho' : (s.heap.push (seqObj "list" #[] 0)).get? l = some o := Heap.get?_push_of_some _ ho
  refine wpAny_bind (wpAny_typeOf (T := "tuple") ⟨o, ho', hc⟩ ?_)
  have ht : (Value.type "tuple" == Value.type "tuple") = true := by rfl
  rw [if_pos (by rw [ht]; simp)]
  refine wpAny_bind (listItems_at ho' hd ?_)
  refine wpAny_bind (listItems_at (xs := #[]) (n := 0) (Heap.get?_push_size _ rfl) rfl ?_)
  rw [if_neg (by simp)]
  refine wpAny_bind (listUpdate_at (xs := #[]) (n := 0) (Heap.get?_push_size _ rfl) rfl ?_ (Nat.zero_le _) (by show (#[] ++ vs.toArray).size ≤ sizeLine + 1; simp only [Array.size_append, List.size_toArray, List.length_nil]; omega))
  refine wpAny_pure ?_
  show wpAny (model prog w) A (do
      let o ← load s.heap.objs.size
      match o.data with
      | .seq xs _ => pure xs.toList
      | _ => unsupported "internal:collect") Q E { s with heap := (s.heap.push (seqObj "list" #[] 0)).update s.heap.objs.size (Obj.mapSeq (· ++ vs.toArray)) }
  refine wpAny_bind (wpAny_load (get?_update_seq (Heap.get?_push_size _ rfl) _) ?_)
  show wpAny _ _ (pure ((#[] : Array Value) ++ vs.toArray).toList) Q E _
  rw [show ((#[] : Array Value) ++ vs.toArray).toList = vs by simp]
  exact wpAny_pure h
end
end PyProof.Rows
namespace PySem.W
open PySem PySem.Calls PyProof.Rows
section
variable {prog : Program} {w : World} {A : Around} {E : Value → Shared → Prop} {s : Shared} {κ : PyProof.Rows.KeyKind}
theorem mv_sorted_of_sortT {l : Addr} {vs : List Value} {kw : List (Str × Value)} {Q : Value → Shared → Prop} (hl : s.heap.IsTuple l vs.toArray) (hL : vs.length ≤ sizeLine) (ha1 : argsOk "sorted" ⟨[.ref l], kw⟩) (ha2 : ∀ x, argsOk "list.sort" ⟨[.ref x], kw⟩)
    (body : ∀ E' : Value → Shared → Prop, wpAny (model prog w) A.in1.in1 (Builtin.«list.sort» ⟨[.ref (s.heap.objs.size + 1)], kw⟩) (fun f s' => f = .done (.ret .none) ∧ Q (.ref (s.heap.objs.size + 1)) s') E' { s with heap := copyHeap s.heap vs }) :
    wpAny (model prog w) A (call (.builtin "sorted") [.ref l] kw) Q E s := by
  refine call_function_entry_kw kind_sorted plain_sorted entry_sorted ha1 ?_
  unfold Builtin.«sorted»
  refine wpAny_bind (m := checkCount "sorted" 1 1 _) (wpAny_pure ?_)
  refine wpAny_bind (mv_collect_tuple hl ?_ hL)
  refine wpAny_bind (wpAny_newList ?_ hL)
  have hsz : ((s.heap.push (seqObj "list" #[] 0)).update s.heap.objs.size (Obj.mapSeq (· ++ vs.toArray))).objs.size = s.heap.objs.size + 1 := by
    rw [Heap.size_update, size_push']
  show wpAny _ _ _ _ _ { s with heap := copyHeap s.heap vs }
  rw [hsz]
  refine wpAny_bind (wpAny_holding (wpAny_call_entry_kw slot_list_sort ⟨_, copyHeap_at s.heap vs, rfl⟩ entry_list_sort ?body (ha2 _)))
  case body =>
    show wpAny (model prog w) A.in1.in1 (Builtin.«list.sort» ⟨[.ref (s.heap.objs.size + 1)], kw⟩) _ _ _
    refine wpAny_mono (body _) (fun f s' hf => ?_) fun _ _ e => e
    obtain ⟨rfl, hq⟩ := hf
    exact ⟨_, rfl, wpAny_pure ⟨_, rfl, hq⟩⟩
theorem mv_sorted_valsT {l : Addr} {vs : List Value} {Q : Value → Shared → Prop} (hl : s.heap.IsTuple l vs.toArray) (S : SortsAt prog w A.in1.in1 { s with heap := sortingHeap (copyHeap s.heap vs) (s.heap.objs.size + 1) vs } κ vs) (hL : vs.length ≤ sizeLine)
    (h : Q (.ref (s.heap.objs.size + 1)) { s with heap := sortedAll s.heap vs (sortVals κ false vs vs).toArray }) : wpAny (model prog w) A (call (.builtin "sorted") [.ref l]) Q E s :=
  mv_sorted_of_sortT hl hL (args_sorted1 _) (fun _ => args_list_sort _) fun _ => list_sort_vals (s := { s with heap := copyHeap s.heap vs }) (copyHeap_at s.heap vs) S hL ⟨rfl, h⟩
theorem mv_sorted_any {β : Type} {vs : List Value} {bs : List β} {enc : β → PyData} {R : Value → β → Prop} {l : Addr} {Q : Value → Shared → Prop} (hl : s.heap.IsList l vs.toArray ∨ s.heap.IsTuple l vs.toArray) (e : EachIs R vs bs) (er : EachIs (fun v b => ∃ as, Reads s.heap v (enc b) as) vs bs) (hal : AllAlike (bs.map enc)) (hk : Sortable (bs.map enc)) (hL : bs.length ≤ sizeLine)
    (hu : ∀ b, b ∈ bs → A.units + 2 + (enc b).depth < cLine) (h : ∀ out, out.length = bs.length → EachIs R out (bs.mergeSort (dataLe false enc)) → Q (.ref (s.heap.objs.size + 1)) { s with heap := sortedAll s.heap vs (List.toArray out) }) :
    wpAny (model prog w) A (call (.builtin "sorted") [.ref l]) Q E s := by
  have er' : EachIs (fun v b => ∃ as, Reads (sortingHeap (copyHeap s.heap vs) (s.heap.objs.size + 1) vs) v (enc b) as) vs bs := er.mono fun _ _ ⟨as, r⟩ => ⟨as, PyProof.Rows.Reads.keeps (fun _ _ => sorting_copy_old) r⟩
  have S := SortsAt.data (prog := prog) (w := w) (A := A.in1.in1) (s := { s with heap := sortingHeap (copyHeap s.heap vs) (s.heap.objs.size + 1) vs }) (each_map (R := fun v d => ∃ as, Reads (sortingHeap (copyHeap s.heap vs) (s.heap.objs.size + 1) vs) v d as) enc er') hal hk (bound_map hu)
  have fin := h _ (by rw [sortVals_length false rfl]; exact e.length) (sortVals_data false e er' hal)
  rcases hl with hl | hl
  · exact sorted_vals hl S (by rw [e.length]; exact hL) fin
  · exact mv_sorted_valsT hl S (by rw [e.length]; exact hL) fin
end
end PySem.W
namespace Mv
open PySem PySem.Spec PyProof.Rows L2
section
variable {X : Cx}
/-! ### sorted -/
open PySem.W in
def sortOk (ts : List D) : Prop := AllAlike ts ∧ Sortable ts ∧ ts.all (okd 49) = true ∧ ts.length ≤ 1000000
def sortD (ts : List D) : List D := ts.mergeSort (PySem.W.dataLe false id)
def rSortA (K : PySem.W.Frag) : List V → Hp → VK → Prop := fun xs H Q => ∃ a vs ts, xs = [.ref a] ∧ (LsAt K H a vs ∨ H a = some (.tup vs)) ∧ FzL K H ts vs ∧ sortOk ts ∧
  ∀ p out, H p = none → (∃ z : List (V × D), z.map (·.2) = sortD ts ∧ z.map (·.1) = out ∧ z.Perm (vs.zip ts)) → Q (.ref p) (upd H p (.lst out))
theorem each_zip : ∀ {vs : List V} {us : List Value} {ts : List D}, Vals vs us → vs.length = ts.length → PySem.W.EachIs (fun u (p : V × D) => RelV p.1 u) us (vs.zip ts)
  | [], _, _, .nil, _ => .nil
  | v :: vs, u :: us, t :: ts, .cons r rr, h => .cons r (each_zip rr (by simpa using h))
  | v :: vs, u :: us, [], .cons r rr, h => by simp at h
theorem each_reads {h : Heap} {us : List Value} {ts : List D} {as : List Addr} (r : ReadsAll h us ts as) : ∀ {vs : List V}, vs.length = ts.length → PySem.W.EachIs (fun u (p : V × D) => ∃ as, Reads h u p.2 as) us (vs.zip ts) := by
  induction ts generalizing us as with
  | nil =>
    cases r
    intro vs h
    have : vs = [] := List.length_eq_zero_iff.mp h
    subst this
    exact .nil
  | cons t ts ih =>
    cases r with
    | cons r1 r2 =>
      intro vs h
      cases vs with
      | nil => simp at h
      | cons v vs => exact .cons ⟨_, r1⟩ (ih r2 (by simpa using h))
theorem each_vals : ∀ {out : List Value} {z : List (V × D)}, PySem.W.EachIs (fun u (p : V × D) => RelV p.1 u) out z → Vals (z.map (·.1)) out
  | _, _, .nil => .nil
  | _, _, .cons r t => .cons r (each_vals t)
theorem zip_snd {vs : List V} {ts : List D} (h : vs.length = ts.length) : (vs.zip ts).map (·.2) = ts := by
  rw [List.map_snd_zip]
  omega
theorem cr_sortA (hu : X.A.units + 100 < cLine) : CallR X (.builtin "sorted") (rSortA X.K) := by
  intro pins s σ H vs us Q I r h
  obtain ⟨a, xs, ts, rfl, hs, hz, ⟨h1, h2, h3, h4⟩, q⟩ := h
  obtain ⟨p1, d1⟩ := okd_all (n := 49) fun t m => okd_spec (List.all_eq_true.mp h3 t m)
  have hl := hz.len
  have hs' : ∃ its : List Value, Vals xs its ∧ (s.heap.IsList a its.toArray ∨ s.heap.IsTuple a its.toArray) := by
    rcases hs with hs | hs
    · obtain ⟨its, rv, hp, _⟩ := I.list hs.sq
      exact ⟨its, rv, .inl hp.isList⟩
    · obtain ⟨its, rv, hp, _⟩ := I.tuple (SqT.of hs)
      exact ⟨its, rv, .inr hp⟩
  obtain ⟨its, rv, hp⟩ := hs'
  rw [Vals.ref1 r]
  obtain ⟨as, ra⟩ := fzL_reads I p1 hz rv
  refine PySem.W.mv_sorted_any (bs := xs.zip ts) (enc := fun p => p.2) hp (each_zip rv hl) (each_reads ra hl) (by rw [zip_snd hl]; exact h1) (by rw [zip_snd hl]; exact h2) ?_ (fun b hb => ?_) fun out ho eo => ?_
  · rw [List.length_zip, hl, Nat.min_self]
    exact Nat.le_trans h4 (by decide)
  · have hb2 : b.2 ∈ ts := by
      have := List.mem_map_of_mem (f := (·.2)) hb
      rw [zip_snd hl] at this
      exact this
    have := (okd_spec (List.all_eq_true.mp h3 _ hb2)).2
    omega
  · obtain ⟨ep, he'⟩ := PyProof.Rows.sortedAll_at s.heap its out.toArray
    have hperm := List.mergeSort_perm (xs.zip ts) (PySem.W.dataLe false fun p => p.2)
    have hv := each_vals eo
    have hlen : ((List.mergeSort (xs.zip ts) (PySem.W.dataLe false fun p => p.2)).map (·.1)).length ≤ sizeLine := by
      rw [List.length_map, hperm.length_eq, List.length_zip, hl, Nat.min_self]
      exact Nat.le_trans h4 (by decide)
    refine ⟨.ref _, upd H (s.heap.objs.size + 1) (.lst ((List.mergeSort (xs.zip ts) (PySem.W.dataLe false fun p => p.2)).map (·.1))), I.laid (t' := s.toks) (fun _ _ => PyProof.Rows.sortedAll_old) (Nat.le_succ _) ⟨hlen, out, ep, hv, by simpa using he'⟩, rfl, q _ _ (I.hok.fresh (Nat.le_succ _)) ⟨_, ?_, rfl, hperm⟩⟩
    unfold sortD
    refine (PySem.W.sort_maps (r := PySem.W.dataLe false fun p : V × D => p.2) (s := PySem.W.dataLe false id) (fun p : V × D => p.2) (fun a _ b _ => rfl)).trans ?_
    rw [zip_snd hl]
open Classical in
noncomputable def oSort (a : O) : Option O := (seqO a).bind fun ts => if sortOk ts then some (.ls (sortD ts)) else none
theorem fz_perm {K : PySem.W.Frag} {S : Hp} : ∀ {z : List (V × D)}, (∀ p ∈ z, Fz K S p.2 p.1) → FzL K S (z.map (·.2)) (z.map (·.1))
  | [], _ => FzL.nil
  | p :: z, h => FzL.cons (h p List.mem_cons_self) (fz_perm fun q m => h q (List.mem_cons_of_mem _ m))
theorem fz_zip {K : PySem.W.Frag} {S : Hp} : ∀ {ts : List D} {vs : List V}, FzL K S ts vs → ∀ p ∈ vs.zip ts, Fz K S p.2 p.1
  | [], vs, h, p, m => by simp at m
  | t :: ts, vs, h, p, m => by
    obtain ⟨v, r, rfl, h1, h2⟩ := h.inv
    rw [List.zip_cons_cons] at m
    rcases List.mem_cons.mp m with rfl | m
    · exact h1
    · exact fz_zip h2 p m
theorem ro_sort {K : PySem.W.Frag} : RO1 K (fun x => rSortA K [x]) oSort := by
  intro S H x o fr1 z Q le w e k
  unfold oSort at e
  simp only [Option.bind_eq_some_iff] at e
  obtain ⟨ts, h1, h2⟩ := e
  split at h2
  · rename_i hok
    cases h2
    obtain ⟨a, vs, rfl, ha, za⟩ := seqO_S le w h1
    refine ⟨a, vs, ts, rfl, ha, za.same le, hok, fun p out hp ⟨zz, e1, e2, e3⟩ => ?_⟩
    have wz := fz_perm (K := K) (S := S) (z := zz) fun q m => fz_zip za q (e3.mem_iff.mp m)
    rw [e1, e2] at wz
    exact newL le wz rfl k p hp
  · cases h2

/-! ### len, list, tuple -/
def oLen (a : O) : Option O := ((seqO a).map fun ts => O.leaf (.int ts.length)).or (match a with
  | .leaf (.str z) => if z.length ≤ sizeLine then some (.leaf (.int z.length)) else none
  | _ => none)
def rLenA (K : PySem.W.Frag) : List V → Hp → VK → Prop := fun xs H Q => ∃ x n, xs = [x] ∧ LenV K x H n ∧ Q (.int n) H
theorem ro_len {K : PySem.W.Frag} : RO1 K (fun x => rLenA K [x]) oLen := by
  intro S H x o fr1 z Q le w e k
  unfold oLen at e
  cases q : seqO o with
  | some ts =>
    rw [q] at e
    have e' : O.leaf (.int ts.length) = z := Option.some.inj e
    subst e'
    obtain ⟨a, vs, rfl, ha, za⟩ := seqO_S le w q
    refine ⟨_, ts.length, rfl, ?_, k _ S H [] (Gr.refl le) (ow_leaf (by simp only [Fz])) New.nil⟩
    rw [← za.len]
    rcases ha with ha | ha
    · exact .inl ⟨vs, ha.sq, rfl⟩
    · exact .inr ⟨vs, SqT.of ha, rfl⟩
  | none =>
    rw [q] at e
    cases o with
    | leaf t =>
      cases t with
      | str zz =>
        have e' : (if zz.length ≤ sizeLine then some (O.leaf (.int zz.length)) else none) = some z := e
        split at e'
        · rename_i hl
          cases e'
          have hx := (ow_leafE w).2
          simp only [Fz] at hx
          subst hx
          exact ⟨_, zz.length, rfl, ⟨hl, rfl⟩, k _ S H [] (Gr.refl le) (ow_leaf (by simp only [Fz])) New.nil⟩
        · cases e'
      | _ => cases e
    | _ => cases e
def oList (a : O) : Option O := (seqO a).map .ls
theorem ro_list {K : PySem.W.Frag} : RO1 K (fun x => (fun xs H Q => ∃ p ys, xs = [.ref p] ∧ (SqL K H p ys ∨ SqT K H p ys) ∧ ∀ l, H l = none → Q (.ref l) (upd H l (.lst ys)) : List V → Hp → VK → Prop) [x]) oList := by
  intro S H x o fr1 z Q le w e k
  unfold oList at e
  simp only [Option.map_eq_some_iff] at e
  obtain ⟨ts, h1, rfl⟩ := e
  obtain ⟨a, vs, rfl, ha, za⟩ := seqO_S le w h1
  exact ⟨a, vs, rfl, ha.imp LsAt.sq SqT.of, newL le za rfl k⟩
def oTuple (a : O) : Option O := (seqO a).map fun ts => .leaf (.tuple ts)
theorem ro_tuple {K : PySem.W.Frag} : RO1 K (fun x => (fun xs H Q => ∃ p ys, xs = [.ref p] ∧ ((SqL K H p ys ∧ ∀ l, H l = none → Q (.ref l) (upd H l (.tup ys))) ∨ (SqT K H p ys ∧ Q (.ref p) H)) : List V → Hp → VK → Prop) [x]) oTuple := by
  intro S H x o fr1 z Q le w e k
  unfold oTuple at e
  simp only [Option.map_eq_some_iff] at e
  obtain ⟨ts, h1, rfl⟩ := e
  cases q : lstO o with
  | some us =>
    have : ts = us := by
      unfold seqO at h1
      rw [q] at h1
      exact (Option.some.inj h1).symm
    subst this
    obtain ⟨a, vs, rfl, ha, za⟩ := lstO_at le w q
    exact ⟨a, vs, rfl, .inl ⟨ha.sq, newT le za rfl k⟩⟩
  | none =>
    have : tupO o = some ts := by
      unfold seqO at h1
      rw [q] at h1
      exact h1
    obtain ⟨rfl, rfl, f1⟩ := tupO_S w this
    obtain ⟨a, vs, rfl, ha, za⟩ := tupO_at le w this
    exact ⟨a, vs, rfl, .inr ⟨ha, k _ S H [] (Gr.refl le) (ow_leaf f1) New.nil⟩⟩
end
end Mv

set_option Elab.async false
set_option linter.all false
set_option maxRecDepth 100000
set_option maxHeartbeats 2000000
namespace Mv
open PySem PySem.Spec PyProof.Rows L2

/-! ### a name's own thing goes; is frozen -/
def mvE (i : Nat) : ESem := fun env => match env[i]? with
  | some (some o) => some (o, env.set i none)
  | _ => none
def fzE (i : Nat) : ESem := fun env => match env[i]? with
  | some (some o) => o.frz.map fun t => (.leaf t, env.set i (some (.leaf t)))
  | _ => none
section
variable {X : Cx} {e : Expr} {i : Nat}
theorem se_mv (h : PE X e (tVar i)) : SE X e (mvE i) false true := by
  refine ⟨PE.imp h fun σ H Q hw => ?_, fun z => nomatch z⟩
  obtain ⟨env, S, fp, z, env', R, he, k⟩ := hw
  unfold mvE at he
  split at he
  · rename_i o e0
    cases he
    obtain ⟨v, e2, w⟩ := R.sl i z e0
    refine ⟨v, e2, k v S H _ (fp i) R.drop Evo.drop w (fun z => nomatch z) fun _ => ⟨R.nd i, fun a m => .inr ⟨i, m⟩, fun a m j z => ?_, R.un i⟩⟩
    by_cases hj : j = i
    · rw [if_pos hj] at z; cases z
    · rw [if_neg hj] at z
      exact hj (R.dj j i a z m)
  · cases he
theorem se_fz (h : PE X e (tVar i)) : SE X e (fzE i) false true := by
  refine ⟨PE.imp h fun σ H Q hw => ?_, fun z => nomatch z⟩
  obtain ⟨env, S, fp, z, env', R, he, k⟩ := hw
  unfold fzE at he
  split at he
  · rename_i o e0
    simp only [Option.map_eq_some_iff, Prod.mk.injEq] at he
    obtain ⟨t, ht, rfl, rfl⟩ := he
    obtain ⟨R1, E1⟩ := R.fz e0 ht
    obtain ⟨v, e2, w⟩ := R.sl i o e0
    exact ⟨v, e2, k v _ _ _ [] R1 E1 (ow_leaf (frz_fz R.le (R.un i) w ht)) (fun z => nomatch z) fun _ => Fresh.nil⟩
  · cases he
end

/-! ### places: a name, or what a name's dict has at a key -/
inductive Pth where
  | top
  | key (k : Key)
def lookO : List (Key × O) → Key → Option O
  | [], _ => none
  | (k', o) :: r, k => if k' = k then some o else lookO r k
def setK : List (Key × O) → Key → O → List (Key × O)
  | [], _, _ => []
  | (k', o) :: r, k, o' => if k' = k then (k', o') :: r else (k', o) :: setK r k o'
def getP (o : O) : Pth → Option O
  | .top => some o
  | .key k => match o with
    | .dic kvs => lookO kvs k
    | _ => none
def putP (o : O) (p : Pth) (o' : O) : O := match p with
  | .top => o'
  | .key k => match o with
    | .dic kvs => .dic (setK kvs k o')
    | x => x
def PAt (σ : L2.St) (H : Hp) (i : Nat) (p : Pth) (v : V) : Prop := match p with
  | .top => σ[i]? = some (some v)
  | .key k => ∃ a kvs, σ[i]? = some (some (.ref a)) ∧ H a = some (.dK kvs) ∧ valV kvs k = some v
section
variable {K : PySem.W.Frag} {S S' H H' : Hp}
theorem lookO_at : ∀ {kvs : List (Key × O)} {vs : List (Key × V)} {fr : List Addr} {k : Key} {o : O}, OwK K S H kvs vs fr → fr.Nodup → lookO kvs k = some o →
    ∃ v f1, valV vs k = some v ∧ Ow K S H o v f1 ∧ (∀ a ∈ f1, a ∈ fr) ∧ f1.Nodup ∧ ∀ o' H', Ow K S H' o' v f1 → (∀ a ∈ fr, a ∉ f1 → H' a = H a) → OwK K S H' (setK kvs k o') vs fr
  | [], vs, fr, k, o, h, n, e => by cases e
  | (k', o1) :: r, vs, fr, k, o, h, n, e => by
    simp only [OwK] at h
    obtain ⟨v, vr, f1, f2, rfl, rfl, h1, h2⟩ := h
    rw [List.nodup_append] at n
    unfold lookO at e
    by_cases hk : k' = k
    · rw [if_pos hk] at e
      cases e
      refine ⟨v, f1, valV_pos hk, h1, fun a m => List.mem_append_left _ m, n.1, fun o' H' w kp => ?_⟩
      unfold setK
      rw [if_pos hk]
      simp only [OwK]
      exact ⟨v, vr, f1, f2, rfl, rfl, w, h2.keep (Same.refl _) fun a m => kp a (List.mem_append_right _ m) fun z => n.2.2 a z a m rfl⟩
    · rw [if_neg hk] at e
      obtain ⟨v', f', e1, w, sub, nd, lens⟩ := lookO_at h2 n.2.1 e
      refine ⟨v', f', by rw [valV_neg hk]; exact e1, w, fun a m => List.mem_append_right _ (sub a m), nd, fun o' H' w' kp => ?_⟩
      unfold setK
      rw [if_neg hk]
      simp only [OwK]
      exact ⟨v, vr, f1, f2, rfl, rfl, h1.keep (Same.refl _) fun a m => kp a (List.mem_append_left _ m) fun z => n.2.2 a m a (sub a z) rfl, lens o' H' w' fun a m z => kp a (List.mem_append_right _ m) z⟩
/-- a place, looked at and changed -/
theorem place {σ : L2.St} {env : Env} {fp : Nat → List Addr} {i : Nat} {root o : O} {p : Pth} (R : Rel K env σ S H fp) (e0 : env[i]? = some (some root)) (e1 : getP root p = some o) :
    ∃ v f1, PAt σ H i p v ∧ Ow K S H o v f1 ∧ (∀ a ∈ f1, a ∈ fp i) ∧ f1.Nodup ∧ ∀ o' H', Ow K S H' o' v f1 → (∀ a, a ∉ f1 → H' a = H a) → (∀ a ∈ f1, H' a ≠ none) → Rel K (env.set i (some (putP root p o'))) σ S H' fp ∧ Evo S H fp S H' fp := by
  obtain ⟨v0, e2, w0⟩ := R.sl i root e0
  have fin : ∀ (f1 : List Addr) (root' : O) (H' : Hp), (∀ a ∈ f1, a ∈ fp i) → Ow K S H' root' v0 (fp i) → (∀ a, a ∉ f1 → H' a = H a) → (∀ a ∈ f1, H' a ≠ none) → Rel K (env.set i (some root')) σ S H' fp ∧ Evo S H fp S H' fp := fun f1 root' H' sub w kp ns => by
    have hlt : i < env.length := (List.getElem?_eq_some_iff.mp e0).1
    refine ⟨⟨fun a u ha => ?_, by rw [List.length_set]; exact R.len, fun j o' ej => ?_, R.nd, R.dj, R.un, fun j a m => ?_⟩, ⟨Same.refl _, fun a ha hn => ⟨kp a fun z => hn i (sub a z), rfl⟩, fun j a m => .inr ⟨j, m⟩⟩⟩
    · rw [kp a fun z => by rw [R.un i a (sub a z)] at ha; cases ha]
      exact R.le a u ha
    · by_cases hj : i = j
      · subst hj
        rw [List.getElem?_set_self hlt] at ej
        cases ej
        exact ⟨v0, e2, w⟩
      · rw [List.getElem?_set_ne hj] at ej
        obtain ⟨v', e3, w'⟩ := R.sl j o' ej
        exact ⟨v', e3, w'.keep (Same.refl _) fun a m => kp a fun z => hj (R.dj i j a (sub a z) m)⟩
    · by_cases q : a ∈ f1
      · exact ns a q
      · rw [kp a q]
        exact R.ins j a m
  cases p with
  | top =>
    cases e1
    exact ⟨v0, fp i, e2, w0, fun a m => m, R.nd i, fun o' H' w kp ns => fin (fp i) o' H' (fun a m => m) w kp ns⟩
  | key k =>
    cases root with
    | dic kvs =>
      simp only [Ow] at w0
      obtain ⟨a, vs, fr, rfl, ef, hk, hH⟩ := w0
      have nd := R.nd i
      rw [ef] at nd
      obtain ⟨n1, n2⟩ := List.nodup_cons.mp nd
      obtain ⟨v, f1, h1, h2, sub, nd1, lens⟩ := lookO_at hk n2 e1
      have sub' : ∀ b ∈ f1, b ∈ fp i := fun b m => by rw [ef]; exact List.mem_cons_of_mem _ (sub b m)
      refine ⟨v, f1, ⟨a, vs, e2, hH, h1⟩, h2, sub', nd1, fun o' H' w kp ns => fin f1 (.dic (setK kvs k o')) H' sub' ?_ kp ns⟩
      simp only [Ow]
      exact ⟨a, vs, fr, rfl, ef, lens o' H' w fun b m z => kp b z, by rw [kp a fun z => n1 (sub a z)]; exact hH⟩
    | _ => cases e1
theorem PAt.mono {σ : L2.St} {i : Nat} {p : Pth} {v : V} (h : PAt σ H i p v) (e : Same H H') : PAt σ H' i p v := by
  cases p with
  | top => exact h
  | key k =>
    obtain ⟨a, kvs, h1, h2, h3⟩ := h
    exact ⟨a, kvs, h1, e _ _ h2, h3⟩
theorem PAt.inj {σ : L2.St} {i : Nat} {p : Pth} {v v' : V} (h : PAt σ H i p v) (h' : PAt σ H i p v') : v = v' := by
  cases p with
  | top =>
    have := h.symm.trans h'
    exact Option.some.inj (Option.some.inj this)
  | key k =>
    obtain ⟨a, kvs, h1, h2, h3⟩ := h
    obtain ⟨a', kvs', h1', h2', h3'⟩ := h'
    rw [h1] at h1'
    cases h1'
    rw [h2] at h2'
    cases h2'
    rw [h3] at h3'
    exact Option.some.inj h3'
end
/-- a place as an expression -/
structure SP (X : Cx) (e : Expr) (i : Nat) (p : Pth) : Prop where
  pe : PE X e (fun σ H Q => ∃ v, PAt σ H i p v ∧ Q v H)
def plE (i : Nat) (p : Pth) : ESem := fun env => match env[i]? with
  | some (some root) => (getP root p).map fun o => (o, env)
  | _ => none
section
variable {X : Cx} {e o : Expr} {i : Nat} {p : Pth} {pos : Pos}
theorem sp_top (h : PE X e (tVar i)) : SP X e i .top := ⟨h⟩
theorem sp_key {y : Str} {j} {p1 : Pos} (hu : X.A.units + 1 < cLine) (h : PE X o (tVar i)) (hs : NoSl (.Constant (.str y) j p1)) : SP X (.Subscript o (.Constant (.str y) j p1) pos) i (.key (.inr y)) := by
  refine ⟨PE.imp (pe_dget hu h pe_str hs) fun σ H Q hw => ?_⟩
  obtain ⟨v, ⟨a, kvs, h1, h2, h3⟩, q⟩ := hw
  exact ⟨.ref a, h1, a, v, rfl, by rw [← h3]; exact DGet.k (k := Sum.inr y) h2, q⟩
/-- a place read -/
theorem se_pl (h : SP X e i p) : SE X e (plE i p) true false := by
  refine ⟨PE.imp h.pe fun σ H Q hw => ?_, fun _ env r env' hh => ?_⟩
  · obtain ⟨env, S, fp, z, env', R, he, k⟩ := hw
    unfold plE at he
    split at he
    · rename_i root e0
      simp only [Option.map_eq_some_iff, Prod.mk.injEq] at he
      obtain ⟨o1, e1, rfl, rfl⟩ := he
      obtain ⟨v, f1, h1, h2, sub, _⟩ := place R e0 e1
      exact ⟨v, h1, k v S H fp f1 R (Evo.refl _ _ _) h2 (fun _ => ⟨rfl, Same.refl _⟩) (fun z => nomatch z)⟩
    · cases he
  · unfold plE at hh
    split at hh
    · simp only [Option.map_eq_some_iff, Prod.mk.injEq] at hh
      obtain ⟨_, _, _, rfl⟩ := hh
      rfl
    · cases hh
end

/-! ### methods that change a place -/
/-- what a method does to a thing of one's own: the thing behind, what it gives -/
def RM (K : PySem.W.Frag) (T : String) (r : V → List V → Hp → VK → Prop) (g : O → List O → Option (O × D)) : Prop :=
  (∀ S H x o fr os z, Same S H → Ow K S H o x fr → g o os = some z → tyV K T x H) ∧
  ∀ S H x o fr os vs fa o' z Q, Same S H → (∀ a ∈ fr, S a = none) → fr.Nodup → Ow K S H o x fr → OwA K S H os vs fa → g o os = some (o', z) →
    (∀ v H', (∀ a, a ∉ fr → H' a = H a) → (∀ a ∈ fr, H' a ≠ none) → Ow K S H' o' x fr → Fz K S z v → Q v H') → r x vs H Q
def mutE (i : Nat) (p : Pth) (fa : ASem) (g : O → List O → Option (O × D)) : ESem := fun env => match env[i]? with
  | some (some root0) => match getP root0 p with
    | some o0 => (fa env).bind fun a => match a.2[i]? with
      | some (some root) => (getP root p).bind fun o => if (g o0 a.1).isSome = true then (g o a.1).map fun r => (.leaf r.2, a.2.set i (some (putP root p r.1))) else none
      | _ => none
    | none => none
  | _ => none
theorem mutE_some {i : Nat} {p : Pth} {fa : ASem} {g : O → List O → Option (O × D)} {env env' : Env} {z : O} (h : mutE i p fa g env = some (z, env')) :
    ∃ root0 o0 os e1 root o o' t zz, env[i]? = some (some root0) ∧ getP root0 p = some o0 ∧ fa env = some (os, e1) ∧ e1[i]? = some (some root) ∧ getP root p = some o ∧ g o0 os = some zz ∧ g o os = some (o', t) ∧ z = .leaf t ∧ env' = e1.set i (some (putP root p o')) := by
  unfold mutE at h
  split at h
  · rename_i root0 e0
    split at h
    · rename_i o0 e1
      simp only [Option.bind_eq_some_iff] at h
      obtain ⟨⟨os, e2⟩, h1, h2⟩ := h
      simp only at h2
      split at h2
      · rename_i root e3
        simp only [Option.bind_eq_some_iff] at h2
        obtain ⟨o, h3, h4⟩ := h2
        split at h4
        · rename_i hs
          simp only [Option.map_eq_some_iff, Prod.mk.injEq] at h4
          obtain ⟨⟨o', t⟩, h5, rfl, rfl⟩ := h4
          obtain ⟨zz, hz⟩ := Option.isSome_iff_exists.mp hs
          exact ⟨root0, o0, os, e2, root, o, o', t, zz, e0, e1, h1, e3, h3, hz, h5, rfl, rfl⟩
        · cases h4
      · cases h2
    · cases h
  · cases h
theorem mut_core {K : PySem.W.Frag} {T : String} {i : Nat} {p : Pth} {fa : ASem} {q : Bool} {g : O → List O → Option (O × D)} {r : V → List V → Hp → VK → Prop} (hr : RM K T r g) (hp : p = .top ∨ q = true) {σ : L2.St} {H : Hp} {Q : VK} (hqf : q = true → ∀ env r env', fa env = some (r, env') → env' = env)
    (h : tE K (mutE i p fa g) false true σ H Q) : tBM K T r (fun σ H Q => ∃ v, PAt σ H i p v ∧ Q v H) (tAr K fa q) σ H Q := by
  obtain ⟨env, S, fp, z, env', R, he, k⟩ := h
  obtain ⟨root0, o0, os, e1, root, o, o', t, zz, h0, h1, h2, h3, h4, hg0, hg, rfl, rfl⟩ := mutE_some he
  obtain ⟨v, f1, pa, w0, sub, _⟩ := place R h0 h1
  refine ⟨v, pa, hr.1 S H v o0 f1 os zz R.le w0 hg0, env, S, fp, os, e1, R, h2, fun vs S1 H1 fp1 fr R1 E1 wa g1 F1 => ?_⟩
  obtain ⟨v', f2, pa', w1, sub2, nd2, lens⟩ := place R1 h3 h4
  have ev : v' = v := by
    rcases hp with rfl | hq
    · exact PAt.inj (p := Pth.top) (H := H1) pa' pa
    · exact pa'.inj (pa.mono (g1 hq).2)
  subst ev
  refine hr.2 S1 H1 v' o f2 os vs fr o' t Q R1.le (fun a m => R1.un i a (sub2 a m)) nd2 w1 wa hg fun y H2 kp ns w2 wz => ?_
  obtain ⟨R2, E2⟩ := lens o' H2 w2 kp ns
  exact k y S1 H2 fp1 [] R2 (E1.trans E2) (ow_leaf wz) (fun z => nomatch z) fun _ => Fresh.nil
section
variable {X : Cx} {o e : Expr} {es : List Expr} {i : Nat} {p : Pth} {fa : ASem} {q : Bool} {name : Str} {apos cpos : Pos} {T id : String} {r : V → List V → Hp → VK → Prop} {g : O → List O → Option (O × D)}
theorem se_mut (pa : PlainAttrs T) (slot : Slot T name id) (hty : typeOf (.builtin id) = pure (.type "method_descriptor")) (hm : MtR X id r) (hr : RM X.K T r g) (ho : SP X o i p) (ha : SA X (e :: es) fa q) (hp : p = .top ∨ q = true)
    (hbase : attributeBase o name X.env (eval o X.env) = eval o X.env := by rfl)
    (hfew : ((backTo cpos (starEach (e :: es) X.env)).all (fun x => !x.1) && (backToKw cpos (keywordEach [] X.env)).all (fun x => x.1.isSome)
      && decide ((e :: es).length + ([] : List Keyword).length + (if ([] : List Keyword).isEmpty then 0 else 1) < 30)) = true := by rfl)
    (hline : (apos.endLine == cpos.line) = true := by rfl) (hs : starEach (e :: es) X.env = (false, eval e X.env) :: starEach es X.env := by rfl) (hplain : (backTo cpos (starEach es X.env)).any (·.1) = false := by rfl) :
    SE X (.Call (.Attribute o name apos) (e :: es) [] cpos) (mutE i p fa g) false true :=
  ⟨PE.imp (pe_bm pa slot hty hm ho.pe ha.pa hbase hfew hline hs hplain) fun _ _ _ h => mut_core hr hp ha.qf h, fun z => nomatch z⟩
theorem se_mut0 (pa : PlainAttrs T) (slot : Slot T name id) (hty : typeOf (.builtin id) = pure (.type "method_descriptor")) (hm : MtR X id r) (hr : RM X.K T r g) (ho : SP X o i p)
    (hbase : attributeBase o name X.env (eval o X.env) = eval o X.env := by rfl) (hline : (apos.endLine == cpos.line) = true := by rfl) :
    SE X (.Call (.Attribute o name apos) [] [] cpos) (mutE i p nilA g) false true := by
  refine ⟨PE.imp (pe_bm0 pa slot hty hm ho.pe hbase hline) fun σ H Q h => ?_, fun z => nomatch z⟩
  obtain ⟨v, hv, ty, env, S, fp, rs, env', R, hn, k⟩ := mut_core (q := true) hr (.inr rfl) (fun _ env r env' h => by cases h; rfl) h
  cases hn
  exact ⟨v, hv, ty, k [] S H fp [] R (Evo.refl _ _ _) ⟨rfl, rfl⟩ (fun _ => ⟨rfl, Same.refl _⟩) Fresh.nil⟩
end
section
variable {K : PySem.W.Frag}
theorem ls_ty {S H : Hp} {x : V} {ts : List D} {fr : List Addr} (w : Ow K S H (.ls ts) x fr) : tyV K "list" x H := by
  obtain ⟨a, vs, rfl, h1, rfl, h2⟩ := ow_lsE w
  exact .inl ⟨rfl, vs, .inl (.inl h1)⟩
/-- the list's own object gets other items -/
theorem ls_upd {S H : Hp} {a : Addr} {ts' : List D} {vs' : List V} {t : D} {v : V} {o' : O} {Q : VK} (hw : FzL K S ts' vs') (hz : Fz K S t v) (ho : o' = .ls ts') (k : ∀ v H', (∀ b, b ∉ [a] → H' b = H b) → (∀ b ∈ [a], H' b ≠ none) → Ow K S H' o' (.ref a) [a] → Fz K S t v → Q v H') : Q v (upd H a (.lst vs')) := by
  subst ho
  exact k v _ (fun b hb => upd_ne fun z => hb (by rw [z]; exact List.mem_singleton.mpr rfl)) (fun b hb => by rw [List.mem_singleton.mp hb, upd_same]; exact fun z => nomatch z) (ow_ls upd_same hw) hz
def gAppend (o : O) (os : List O) : Option (O × D) := match o, os with
  | .ls ts, [.leaf t] => if ts.length < 16000000 then some (.ls (ts ++ [t]), .none) else none
  | _, _ => none
theorem rm_append : RM K "list" rAppend gAppend := by
  refine ⟨fun S H x o fr os z le w e => ?_, fun S H x o fr os vs fa o' z Q le un nd w wa e k => ?_⟩
  · unfold gAppend at e
    split at e
    · exact ls_ty w
    · cases e
  · unfold gAppend at e
    split at e
    · split at e
      · rename_i hl
        cases e
        obtain ⟨a, xs, rfl, h1, rfl, h2⟩ := ow_lsE w
        obtain ⟨v, rfl, hv, _⟩ := leaves1 wa
        exact ⟨a, xs, v, rfl, rfl, h1, by rw [h2.len]; exact Nat.lt_trans hl (by decide), ls_upd (h2.append (FzL.cons hv FzL.nil)) (by simp only [Fz]) rfl k⟩
      · cases e
    · cases e
def gReverse (o : O) (os : List O) : Option (O × D) := match o, os with
  | .ls ts, [] => some (.ls ts.reverse, .none)
  | _, _ => none
theorem rm_reverse : RM K "list" rReverse gReverse := by
  refine ⟨fun S H x o fr os z le w e => ?_, fun S H x o fr os vs fa o' z Q le un nd w wa e k => ?_⟩
  · unfold gReverse at e
    split at e
    · exact ls_ty w
    · cases e
  · unfold gReverse at e
    split at e
    · cases e
      obtain ⟨a, xs, rfl, h1, rfl, h2⟩ := ow_lsE w
      exact ⟨a, xs, rfl, wa.1, h1, ls_upd h2.reverse (by simp only [Fz]) rfl k⟩
    · cases e
def gClear (o : O) (os : List O) : Option (O × D) := match o, os with
  | .ls ts, [] => some (.ls [], .none)
  | _, _ => none
theorem rm_clear : RM K "list" rClear gClear := by
  refine ⟨fun S H x o fr os z le w e => ?_, fun S H x o fr os vs fa o' z Q le un nd w wa e k => ?_⟩
  · unfold gClear at e
    split at e
    · exact ls_ty w
    · cases e
  · unfold gClear at e
    split at e
    · cases e
      obtain ⟨a, xs, rfl, h1, rfl, h2⟩ := ow_lsE w
      exact ⟨a, xs, rfl, wa.1, h1, ls_upd FzL.nil (by simp only [Fz]) rfl k⟩
    · cases e
/-- the place that an index of 64 bits names -/
def gPopAt (o : O) (os : List O) : Option (O × D) := match o, os with
  | .ls ts, [.leaf (.int i)] => if -(2 ^ 63) ≤ i ∧ i < 2 ^ 63 then (seqIndex? i ts.length).bind fun k => (ts[k]?).map fun t => (.ls (ts.eraseIdx k), t) else none
  | _, _ => none
theorem rm_popAt : RM K "list" rPopAt gPopAt := by
  refine ⟨fun S H x o fr os z le w e => ?_, fun S H x o fr os vs fa o' z Q le un nd w wa e k => ?_⟩
  · unfold gPopAt at e
    split at e
    · exact ls_ty w
    · cases e
  · unfold gPopAt at e
    split at e
    · split at e
      · rename_i hl
        simp only [Option.bind_eq_some_iff, Option.map_eq_some_iff, Prod.mk.injEq] at e
        obtain ⟨kk, h3, t, h4, rfl, rfl⟩ := e
        obtain ⟨a, xs, rfl, h1, rfl, h2⟩ := ow_lsE w
        obtain ⟨v, rfl, hv, _⟩ := leaves1 wa
        simp only [Fz] at hv
        subst hv
        obtain ⟨y, hy, wy⟩ := h2.get h4
        exact ⟨a, xs, _, kk, y, rfl, rfl, h1, hl.1, hl.2, by rw [h2.len]; exact h3, hy, ls_upd (h2.eraseIdx kk) wy rfl k⟩
      · cases e
    · cases e
def gPop (o : O) (os : List O) : Option (O × D) := match o, os with
  | .ls ts, [] => (ts[ts.length - 1]?).map fun t => (.ls ts.dropLast, t)
  | _, _ => none
theorem FzL.dropLast {S : Hp} {ts : List D} {vs : List V} (w : FzL K S ts vs) : FzL K S ts.dropLast vs.dropLast := by
  rw [List.dropLast_eq_take, List.dropLast_eq_take, w.len]
  exact w.take _
theorem rm_pop : RM K "list" rPop gPop := by
  refine ⟨fun S H x o fr os z le w e => ?_, fun S H x o fr os vs fa o' z Q le un nd w wa e k => ?_⟩
  · unfold gPop at e
    split at e
    · exact ls_ty w
    · cases e
  · unfold gPop at e
    split at e
    · simp only [Option.map_eq_some_iff, Prod.mk.injEq] at e
      obtain ⟨t, h4, rfl, rfl⟩ := e
      obtain ⟨a, xs, rfl, h1, rfl, h2⟩ := ow_lsE w
      obtain ⟨y, hy, wy⟩ := h2.get h4
      exact ⟨a, xs, y, rfl, wa.1, h1, by rw [h2.len]; exact hy, ls_upd h2.dropLast wy rfl k⟩
    · cases e
def gInsert (o : O) (os : List O) : Option (O × D) := match o, os with
  | .ls ts, [.leaf (.int i), .leaf t] => if ts.length < 16000000 ∧ 0 ≤ i ∧ i < 2 ^ 63 then some (.ls (ts.take i.toNat ++ [t] ++ ts.drop i.toNat), .none) else none
  | _, _ => none
theorem rm_insert : RM K "list" (fun x vs H Q => ∃ (l : Addr) (xs : List V) (i : Int) (y : V), x = .ref l ∧ vs = [.int i, y] ∧ H l = some (.lst xs) ∧ xs.length < sizeLine ∧ 0 ≤ i ∧ i < 2 ^ 63 ∧ Q .non (upd H l (.lst (xs.take i.toNat ++ [y] ++ xs.drop i.toNat)))) gInsert := by
  refine ⟨fun S H x o fr os z le w e => ?_, fun S H x o fr os vs fa o' z Q le un nd w wa e k => ?_⟩
  · unfold gInsert at e
    split at e
    · exact ls_ty w
    · cases e
  · unfold gInsert at e
    split at e
    · split at e
      · rename_i hl
        cases e
        obtain ⟨a, xs, rfl, h1, rfl, h2⟩ := ow_lsE w
        obtain ⟨v, v', rfl, hv, hv', _⟩ := leaves2 wa
        simp only [Fz] at hv
        subst hv
        exact ⟨a, xs, _, v', rfl, rfl, h1, by rw [h2.len]; exact Nat.lt_trans hl.1 (by decide), hl.2.1, hl.2.2, ls_upd (((h2.take _).append (FzL.cons hv' FzL.nil)).append (h2.drop _)) (by simp only [Fz]) rfl k⟩
      · cases e
    · cases e
end

/-! ### x[i] = v at a place -/
def RSet (K : PySem.W.Frag) (t : TSet) (g : O → O → D → Option O) : Prop :=
  ∀ S H x o fr y oi fi v d o' Q, Same S H → (∀ a ∈ fr, S a = none) → fr.Nodup → Ow K S H o x fr → Ow K S H oi y fi → Fz K S d v → g o oi d = some o' →
    (∀ H', (∀ a, a ∉ fr → H' a = H a) → (∀ a ∈ fr, H' a ≠ none) → Ow K S H' o' x fr → Q H') → t x y v H Q
theorem PSet.or {X : Cx} {t t' : TSet} (h : PSet X t) (h' : PSet X t') : PSet X (fun o i v H Q => t o i v H Q ∨ t' o i v H Q) := by
  intro pins s σ H o i v ov iv u Q I r1 r2 r3 q
  rcases q with q | q
  · exact h pins s σ H o i v ov iv u Q I r1 r2 r3 q
  · exact h' pins s σ H o i v ov iv u Q I r1 r2 r3 q
def rSetD : TSet := fun o i v H Q => ∃ a H4, o = .ref a ∧ DPut H a i v H4 ∧ Q H4
theorem set_dict {X : Cx} (hu : X.A.units + 1 < cLine) : PSet X rSetD := by
  intro pins s σ H o i v ov iv u Q I r1 r2 r3 q
  obtain ⟨a, H4, rfl, h1, h2⟩ := q
  cases r1
  exact d_setItem hu I h1 r2 r3 fun s' I' => ⟨H4, I', h2⟩
def putO {κ : Type} [DecidableEq κ] (kvs : List (κ × O)) (k : κ) (o : O) : List (κ × O) :=
  if (kvs.any fun kv => decide (kv.1 = k)) = true then kvs.map (fun kv => if kv.1 = k then (kv.1, o) else kv) else kvs ++ [(k, o)]
/-- what stands at the key, if anything, is frozen -/
def leafAt {κ : Type} [DecidableEq κ] (kvs : List (κ × O)) (k : κ) : Bool := kvs.all fun kv => if kv.1 = k then kv.2.isLeaf else true
def keyOf : O → Option Key
  | .leaf (.int i) => some (.inl i)
  | .leaf (.str x) => some (.inr x)
  | _ => none
def keysOf : List D → Option (List Key)
  | [] => some []
  | .int i :: r => (keysOf r).map (Sum.inl i :: ·)
  | .str x :: r => (keysOf r).map (Sum.inr x :: ·)
  | _ => none
def tupOf : O → Option (List Key)
  | .leaf (.tuple ts) => keysOf ts
  | _ => none
def gSet (o oi : O) (d : D) : Option O := match o with
  | .ls ts => match oi with
    | .leaf (.int k) => (ixN ts.length k).map fun j => .ls (ts.set j d)
    | _ => none
  | .dic kvs => (keyOf oi).bind fun k => if leafAt kvs k = true ∧ kvs.length < 16000000 then some (.dic (putO kvs k (.leaf d))) else none
  | .dct kvs => (tupOf oi).bind fun k => if leafAt kvs k = true ∧ kvs.length < 16000000 then some (.dct (putO kvs k (.leaf d))) else none
  | _ => none
section
variable {K : PySem.W.Frag} {S H : Hp}
theorem owK_keys : ∀ {kvs : List (Key × O)} {vs : List (Key × V)} {fr : List Addr}, OwK K S H kvs vs fr → vs.map (·.1) = kvs.map (·.1)
  | [], vs, fr, h => by simp only [OwK] at h; rw [h.1]; rfl
  | (k, o) :: r, vs, fr, h => by
    simp only [OwK] at h
    obtain ⟨v, vr, f1, f2, rfl, rfl, h1, h2⟩ := h
    simp [owK_keys h2]
theorem owT_keys : ∀ {kvs : List (List Key × O)} {vs : List (List Key × V)} {fr : List Addr}, OwT K S H kvs vs fr → vs.map (·.1) = kvs.map (·.1)
  | [], vs, fr, h => by simp only [OwT] at h; rw [h.1]; rfl
  | (k, o) :: r, vs, fr, h => by
    simp only [OwT] at h
    obtain ⟨v, vr, f1, f2, rfl, rfl, h1, h2⟩ := h
    simp [owT_keys h2]
theorem any_keys {κ α β : Type} [DecidableEq κ] {xs : List (κ × α)} {ys : List (κ × β)} {k : κ} (h : xs.map (·.1) = ys.map (·.1)) : (xs.any fun p => decide (p.1 = k)) = ys.any fun p => decide (p.1 = k) := by
  have e1 : (xs.any fun p => decide (p.1 = k)) = (xs.map (·.1)).any fun q => decide (q = k) := by rw [List.any_map]; rfl
  have e2 : (ys.any fun p => decide (p.1 = k)) = (ys.map (·.1)).any fun q => decide (q = k) := by rw [List.any_map]; rfl
  rw [e1, e2, h]
theorem owK_map {k : Key} {d : D} {v : V} (hd : Fz K S d v) : ∀ {kvs : List (Key × O)} {vs : List (Key × V)} {fr : List Addr}, OwK K S H kvs vs fr → leafAt kvs k = true →
    OwK K S H (kvs.map (fun kv => if kv.1 = k then (kv.1, .leaf d) else kv)) (vs.map (fun kv => if kv.1 = k then (kv.1, v) else kv)) fr
  | [], vs, fr, h, _ => by
    simp only [OwK] at h
    rw [h.1, h.2]
    simp only [List.map_nil, OwK]
    exact ⟨trivial, trivial⟩
  | (k', o) :: r, vs, fr, h, hl => by
    simp only [OwK] at h
    obtain ⟨v1, vr, f1, f2, rfl, rfl, h1, h2⟩ := h
    unfold leafAt at hl
    rw [List.all_cons, Bool.and_eq_true] at hl
    have ih := owK_map hd h2 hl.2
    simp only [List.map_cons]
    by_cases hk : k' = k
    · rw [if_pos hk, if_pos hk]
      have hl1 := hl.1
      simp only [hk, if_true] at hl1
      have e := isLeaf_fr hl1 h1
      subst e
      simp only [OwK]
      exact ⟨v, _, [], f2, rfl, rfl, ow_leaf hd, ih⟩
    · rw [if_neg hk, if_neg hk]
      simp only [OwK]
      exact ⟨v1, _, f1, f2, rfl, rfl, h1, ih⟩
theorem owT_map {k : List Key} {d : D} {v : V} (hd : Fz K S d v) : ∀ {kvs : List (List Key × O)} {vs : List (List Key × V)} {fr : List Addr}, OwT K S H kvs vs fr → leafAt kvs k = true →
    OwT K S H (kvs.map (fun kv => if kv.1 = k then (kv.1, .leaf d) else kv)) (vs.map (fun kv => if kv.1 = k then (kv.1, v) else kv)) fr
  | [], vs, fr, h, _ => by
    simp only [OwT] at h
    rw [h.1, h.2]
    simp only [List.map_nil, OwT]
    exact ⟨trivial, trivial⟩
  | (k', o) :: r, vs, fr, h, hl => by
    simp only [OwT] at h
    obtain ⟨v1, vr, f1, f2, rfl, rfl, h1, h2⟩ := h
    unfold leafAt at hl
    rw [List.all_cons, Bool.and_eq_true] at hl
    have ih := owT_map hd h2 hl.2
    simp only [List.map_cons]
    by_cases hk : k' = k
    · rw [if_pos hk, if_pos hk]
      have hl1 := hl.1
      simp only [hk, if_true] at hl1
      have e := isLeaf_fr hl1 h1
      subst e
      simp only [OwT]
      exact ⟨v, _, [], f2, rfl, rfl, ow_leaf hd, ih⟩
    · rw [if_neg hk, if_neg hk]
      simp only [OwT]
      exact ⟨v1, _, f1, f2, rfl, rfl, h1, ih⟩
theorem owK_snoc {k : Key} {d : D} {v : V} (hd : Fz K S d v) : ∀ {kvs : List (Key × O)} {vs : List (Key × V)} {fr : List Addr}, OwK K S H kvs vs fr → OwK K S H (kvs ++ [(k, .leaf d)]) (vs ++ [(k, v)]) fr
  | [], vs, fr, h => by
    simp only [OwK] at h
    rw [h.1, h.2]
    simp only [List.nil_append, OwK]
    exact ⟨v, [], [], [], rfl, rfl, ow_leaf hd, rfl, rfl⟩
  | (k', o) :: r, vs, fr, h => by
    simp only [OwK] at h
    obtain ⟨v1, vr, f1, f2, rfl, rfl, h1, h2⟩ := h
    simp only [List.cons_append, OwK]
    exact ⟨v1, _, f1, f2, rfl, rfl, h1, owK_snoc hd h2⟩
theorem owT_snoc {k : List Key} {d : D} {v : V} (hd : Fz K S d v) : ∀ {kvs : List (List Key × O)} {vs : List (List Key × V)} {fr : List Addr}, OwT K S H kvs vs fr → OwT K S H (kvs ++ [(k, .leaf d)]) (vs ++ [(k, v)]) fr
  | [], vs, fr, h => by
    simp only [OwT] at h
    rw [h.1, h.2]
    simp only [List.nil_append, OwT]
    exact ⟨v, [], [], [], rfl, rfl, ow_leaf hd, rfl, rfl⟩
  | (k', o) :: r, vs, fr, h => by
    simp only [OwT] at h
    obtain ⟨v1, vr, f1, f2, rfl, rfl, h1, h2⟩ := h
    simp only [List.cons_append, OwT]
    exact ⟨v1, _, f1, f2, rfl, rfl, h1, owT_snoc hd h2⟩
theorem owK_put {k : Key} {d : D} {v : V} {kvs : List (Key × O)} {vs : List (Key × V)} {fr : List Addr} (hd : Fz K S d v) (h : OwK K S H kvs vs fr) (hl : leafAt kvs k = true) : OwK K S H (putO kvs k (.leaf d)) (putK vs k v) fr := by
  unfold putO putK
  rw [any_keys (owK_keys h)]
  split
  · exact owK_map hd h hl
  · exact owK_snoc hd h
theorem owT_put {k : List Key} {d : D} {v : V} {kvs : List (List Key × O)} {vs : List (List Key × V)} {fr : List Addr} (hd : Fz K S d v) (h : OwT K S H kvs vs fr) (hl : leafAt kvs k = true) : OwT K S H (putO kvs k (.leaf d)) (putK vs k v) fr := by
  unfold putO putK
  rw [any_keys (owT_keys h)]
  split
  · exact owT_map hd h hl
  · exact owT_snoc hd h
theorem keysOf_fz : ∀ {ts : List D} {ks : List Key} {vs : List V}, keysOf ts = some ks → FzL K S ts vs → vs = ks.map kV
  | [], ks, vs, e, h => by
    cases e
    exact h.nilE
  | .int i :: r, ks, vs, e, h => by
    simp only [keysOf, Option.map_eq_some_iff] at e
    obtain ⟨kr, e, rfl⟩ := e
    obtain ⟨v, vr, rfl, h1, h2⟩ := h.inv
    simp only [Fz] at h1
    rw [h1, keysOf_fz e h2]
    rfl
  | .str i :: r, ks, vs, e, h => by
    simp only [keysOf, Option.map_eq_some_iff] at e
    obtain ⟨kr, e, rfl⟩ := e
    obtain ⟨v, vr, rfl, h1, h2⟩ := h.inv
    simp only [Fz] at h1
    rw [h1, keysOf_fz e h2]
    rfl
  | .none :: r, ks, vs, e, h => by cases e
  | .bool _ :: r, ks, vs, e, h => by cases e
  | .list _ :: r, ks, vs, e, h => by cases e
  | .tuple _ :: r, ks, vs, e, h => by cases e
  | .dict _ :: r, ks, vs, e, h => by cases e
theorem keyOf_V {o : O} {k : Key} {y : V} {fi : List Addr} (e : keyOf o = some k) (w : Ow K S H o y fi) : y = kV k := by
  unfold keyOf at e
  split at e
  · cases e
    have := (ow_leafE w).2
    simp only [Fz] at this
    exact this
  · cases e
    have := (ow_leafE w).2
    simp only [Fz] at this
    exact this
  · cases e
end
end Mv

set_option Elab.async false
set_option linter.all false
set_option maxRecDepth 100000
set_option maxHeartbeats 2000000
namespace Mv
open PySem PySem.Spec PyProof.Rows L2

theorem upd_keep {H : Hp} {a : Addr} {u : HO} {fr : List Addr} (ha : a ∈ fr) : ∀ b, b ∉ fr → upd H a u b = H b := fun b hb => upd_ne fun z => hb (by rw [z]; exact ha)
theorem upd_some {H : Hp} {a : Addr} {u : HO} {fr : List Addr} (hs : ∀ b ∈ fr, H b ≠ none) : ∀ b ∈ fr, upd H a u b ≠ none := fun b hb => by
  by_cases h : b = a
  · rw [h, upd_same]
    exact fun z => nomatch z
  · rw [upd_ne h]
    exact hs b hb
theorem keysOf_tup {K : PySem.W.Frag} {S H : Hp} {o : O} {ks : List Key} {y : V} {fi : List Addr} (le : Same S H) (e : tupOf o = some ks) (w : Ow K S H o y fi) : ∃ b, y = .ref b ∧ H b = some (.tup (ks.map kV)) := by
  unfold tupOf at e
  split at e
  · have h := (ow_leafE w).2
    simp only [Fz] at h
    obtain ⟨a, vs, rfl, h1, h2⟩ := h
    rw [keysOf_fz e h2] at h1
    exact ⟨a, rfl, le _ _ h1⟩
  · cases e
theorem rset {K : PySem.W.Frag} : RSet K (fun o i v H Q => rSetL o i v H Q ∨ rSetD o i v H Q) gSet := by
  intro S H x o fr y oi fi v d o' Q le un nd w wi hd e k
  unfold gSet at e
  split at e
  · rename_i ts
    split at e
    · rename_i kk
      simp only [Option.map_eq_some_iff] at e
      obtain ⟨j, h3, rfl⟩ := e
      obtain ⟨a, xs, rfl, h1, rfl, h2⟩ := ow_lsE w
      have hy := (ow_leafE wi).2
      simp only [Fz] at hy
      subst hy
      refine .inl ⟨a, xs, kk, j, rfl, rfl, h1, by rw [h2.len]; exact h3, k _ (upd_keep (List.mem_singleton.mpr rfl)) (upd_some w.some) (ow_ls upd_same (h2.set j hd))⟩
    · cases e
  · rename_i kvs
    simp only [Option.bind_eq_some_iff] at e
    obtain ⟨kk, h3, h4⟩ := e
    split at h4
    · rename_i hl
      cases h4
      have hs := w.some
      have wy := keyOf_V h3 wi
      subst wy
      simp only [Ow] at w
      obtain ⟨a, vs, f, rfl, rfl, hk, hH⟩ := w
      have hlen : vs.length = kvs.length := by
        have := congrArg List.length (owK_keys hk)
        simpa using this
      refine .inr ⟨a, _, rfl, DPut.k hH (by rw [hlen]; exact Nat.lt_trans hl.2 (by decide)), k _ (upd_keep List.mem_cons_self) (upd_some hs) ?_⟩
      simp only [Ow]
      exact ⟨a, _, f, rfl, rfl, (owK_put hd hk hl.1).keep (Same.refl _) fun b hb => upd_ne fun z => (List.nodup_cons.mp nd).1 (by rw [← z]; exact hb), upd_same⟩
    · cases h4
  · rename_i kvs
    simp only [Option.bind_eq_some_iff] at e
    obtain ⟨kk, h3, h4⟩ := e
    split at h4
    · rename_i hl
      cases h4
      have hs := w.some
      obtain ⟨b, rfl, hb⟩ := keysOf_tup le h3 wi
      simp only [Ow] at w
      obtain ⟨a, vs, f, rfl, rfl, hk, hH⟩ := w
      have hlen : vs.length = kvs.length := by
        have := congrArg List.length (owT_keys hk)
        simpa using this
      refine .inr ⟨a, _, rfl, DPut.t hH hb (by rw [hlen]; exact Nat.lt_trans hl.2 (by decide)), k _ (upd_keep List.mem_cons_self) (upd_some hs) ?_⟩
      simp only [Ow]
      exact ⟨a, _, f, rfl, rfl, (owT_put hd hk hl.1).keep (Same.refl _) fun b hb => upd_ne fun z => (List.nodup_cons.mp nd).1 (by rw [← z]; exact hb), upd_same⟩
    · cases h4
  · cases e
/-- the target x[i], x a place -/
def gSubP (i : Nat) (p : Pth) (fi : ESem) (g : O → O → D → Option O) : GSem := fun t env => match env[i]? with
  | some (some root) => (getP root p).bind fun o => (fi env).bind fun a => (g o a.1 t).map fun o' => env.set i (some (putP root p o'))
  | _ => none
section
variable {X : Cx} {o e : Expr} {i : Nat} {p : Pth} {fi : ESem} {m : Bool} {pos : Pos}
theorem sg_sub {t : TSet} {g : O → O → D → Option O} (hp : PSet X t) (hr : RSet X.K t g) (ho : SP X o i p) (hi : SE X e fi true m)
    (ha : ∀ v, assign (.Subscript o e pos) X.env v = (do
      let ov ← holding [v] (eval o X.env)
      let iv ← holding [v, ov] (eval e X.env)
      standAt pos
      holding [v, ov, iv] (setItem ov iv v)
      release [v, ov, iv] []) := by intro _; rfl) : SG X (.Subscript o e pos) (gSubP i p fi g) [] := by
  refine ⟨PG.imp (pg_sub ho.pe hi.pe hp ha) fun v σ H Q h => ?_⟩
  obtain ⟨env, S, fp, d, env', R, wd, he, k⟩ := h
  unfold gSubP at he
  split at he
  · rename_i root e0
    simp only [Option.bind_eq_some_iff, Option.map_eq_some_iff] at he
    obtain ⟨o1, h1, ⟨oi, e1⟩, h2, o', h3, rfl⟩ := he
    simp only at h3
    have ee := hi.qf rfl _ _ _ h2
    subst ee
    obtain ⟨x, f1, pa, w1, sub, nd, lens⟩ := place R e0 h1
    refine ⟨x, pa, e1, S, fp, oi, e1, R, h2, fun y S1 H1 fp1 fr R1 E1 wi g1 n1 => ?_⟩
    obtain ⟨hfp, hS⟩ := g1 rfl
    subst hfp
    obtain ⟨x', f2, pa', w2, sub2, nd2, lens2⟩ := place R1 e0 h1
    have ex := pa'.inj (pa.mono hS)
    subst ex
    refine hr S1 H1 x' o1 f2 y oi fr v d o' _ R1.le (fun a m => R1.un i a (sub2 a m)) nd2 w2 wi (wd.same E1.sub) h3 fun H2 kp ns w3 => ?_
    obtain ⟨R2, E2⟩ := lens2 o' H2 w3 kp ns
    exact k σ S1 H2 _ R2 (E1.trans E2) (fun _ _ => rfl) rfl
  · cases he
end

/-! ### {k: v, ..} with texts as keys -/
structure DItem where
  key : Key
  m : Bool
  f : ESem
def evD : List DItem → Env → Option (List (Key × O) × Env)
  | [], env => some ([], env)
  | d :: r, env => (d.f env).bind fun p => if (d.m || p.1.isLeaf) = true then (evD r p.2).map fun z => ((d.key, p.1) :: z.1, z.2) else none
def dispE (ds : List DItem) : ESem := fun env => if (ds.map (·.key)).Nodup ∧ ds.length ≤ 15 then (evD ds env).map fun p => (.dic p.1, p.2) else none
inductive SD (X : Cx) (pos : Pos) : List (Option Expr) → List Expr → List DItem → List (TE × TE) → Prop where
  | nil : SD X pos [] [] [] []
  | cons {y : Str} {j} {p1 : Pos} {v : Expr} {ks : List (Option Expr)} {vs : List Expr} {f : ESem} {q m : Bool} {ds : List DItem} {trs : List (TE × TE)} : SE X v f q m → SD X pos ks vs ds trs →
      SD X pos (some (.Constant (.str y) j p1) :: ks) (v :: vs) (⟨.inr y, m, f⟩ :: ds) ((tC (.str y), tE X.K f q m) :: trs)
  | consI {i : Int} {j} {p1 : Pos} {v : Expr} {ks : List (Option Expr)} {vs : List Expr} {f : ESem} {q m : Bool} {ds : List DItem} {trs : List (TE × TE)} : SE X v f q m → SD X pos ks vs ds trs →
      SD X pos (some (.Constant (.int i) j p1) :: ks) (v :: vs) (⟨.inl i, m, f⟩ :: ds) ((tC (.int i), tE X.K f q m) :: trs)
theorem SD.pps {X : Cx} {pos : Pos} : ∀ {ks : List (Option Expr)} {vs : List Expr} {ds : List DItem} {trs : List (TE × TE)}, SD X pos ks vs ds trs → PPs X pos ks vs trs ∧ ks.all (·.isSome) = true ∧ ks.length = vs.length ∧ ks.length = ds.length
  | _, _, _, _, .nil => ⟨pps_nil, rfl, rfl, rfl⟩
  | _, _, _, _, .cons h t => by
    obtain ⟨h1, h2, h3, h4⟩ := t.pps
    exact ⟨pps_cons pe_str h.pe h1, by simp [h2], by simp [h3], by simp [h4]⟩
  | _, _, _, _, .consI h t => by
    obtain ⟨h1, h2, h3, h4⟩ := t.pps
    exact ⟨pps_cons pe_int h.pe h1, by simp [h2], by simp [h3], by simp [h4]⟩
theorem evD_keys : ∀ {ds : List DItem} {env env' : Env} {kos : List (Key × O)}, evD ds env = some (kos, env') → kos.map (·.1) = ds.map (·.key)
  | [], env, env', kos, h => by cases h; rfl
  | d :: r, env, env', kos, h => by
    simp only [evD, Option.bind_eq_some_iff] at h
    obtain ⟨⟨o, e1⟩, h1, h2⟩ := h
    split at h2
    · simp only [Option.map_eq_some_iff, Prod.mk.injEq] at h2
      obtain ⟨⟨z, e2⟩, h3, rfl, rfl⟩ := h2
      simp [evD_keys h3]
    · cases h2
theorem mergeK_nodup : ∀ {kvs acc : List (Key × V)}, ((acc ++ kvs).map (·.1)).Nodup → mergeK acc kvs = acc ++ kvs
  | [], acc, _ => by simp [mergeK]
  | kv :: kvs, acc, h => by
    have hnew : valV acc kv.1 = none := by
      have : (acc.any fun p => decide (p.1 = kv.1)) = false := by
        rw [List.any_eq_false]
        intro p hp
        rw [List.map_append, List.map_cons, List.nodup_append] at h
        have := h.2.2 p.1 (List.mem_map_of_mem (f := (·.1)) hp) kv.1 List.mem_cons_self
        simpa using this
      rw [valV_any] at this
      simpa using this
    show mergeK (putK acc kv.1 kv.2) kvs = _
    rw [putK_new _ hnew, mergeK_nodup (by rw [List.append_assoc]; exact h), List.append_assoc]
    rfl
theorem disp_pairs {X : Cx} {pos : Pos} {σ : L2.St} : ∀ {ks : List (Option Expr)} {vs : List Expr} {ds : List DItem} {trs : List (TE × TE)} {env env' : Env} {S H : Hp} {fp : Nat → List Addr} {kos : List (Key × O)} {Q : List (V × V) → Hp → Prop}, SD X pos ks vs ds trs → Rel X.K env σ S H fp → evD ds env = some (kos, env') →
    (∀ kvs S' H' fp' fr, Rel X.K env' σ S' H' fp' → Evo S H fp S' H' fp' → OwK X.K S' H' kos kvs fr → Fresh S H fp S' fp' fr → Q (kvs.map fun kv => (kV kv.1, kv.2)) H') → tPairs trs σ H Q
  | _, _, _, _, env, env', S, H, fp, kos, Q, .nil, R, e, k => by
    cases e
    refine k [] S H fp [] R (Evo.refl _ _ _) ?_ Fresh.nil
    simp only [OwK]
    exact ⟨trivial, trivial⟩
  | _, _, _, _, env, env', S, H, fp, kos, Q, .cons (y := y) (m := m) h t, R, e, k => by
    simp only [evD, Option.bind_eq_some_iff] at e
    obtain ⟨⟨o, e1⟩, h1, h2⟩ := e
    split at h2
    · rename_i hl
      simp only [Bool.or_eq_true] at hl
      simp only [Option.map_eq_some_iff, Prod.mk.injEq] at h2
      obtain ⟨⟨z, e2⟩, h3, rfl, rfl⟩ := h2
      refine ⟨env, S, fp, o, e1, R, h1, fun v S1 H1 fp1 fr1 R1 E1 w1 g1 n1 => ?_⟩
      have F1 := fresh_of hl w1 n1
      have i1 : ∀ a ∈ fr1, H1 a ≠ none := w1.some
      refine disp_pairs t R1 h3 fun kvs S2 H2 fp2 fr2 R2 E2 w2 n2 => ?_
      refine k ((.inr y, v) :: kvs) S2 H2 fp2 (fr1 ++ fr2) R2 (E1.trans E2) ?_ (Fresh.app (S1 := S) (H1 := H) (fp1 := fp) (F1.evo i1 E2) (Fresh.pre E1 n2) fun a h1 h2 => ?_)
      · simp only [OwK]
        exact ⟨v, kvs, fr1, fr2, rfl, rfl, w1.evo F1.off E2, w2⟩
      · rcases n2.src a h2 with z | ⟨j, z⟩
        · exact i1 a h1 z
        · exact F1.off a h1 j z
    · cases h2
  | _, _, _, _, env, env', S, H, fp, kos, Q, .consI (i := y) (m := m) h t, R, e, k => by
    simp only [evD, Option.bind_eq_some_iff] at e
    obtain ⟨⟨o, e1⟩, h1, h2⟩ := e
    split at h2
    · rename_i hl
      simp only [Bool.or_eq_true] at hl
      simp only [Option.map_eq_some_iff, Prod.mk.injEq] at h2
      obtain ⟨⟨z, e2⟩, h3, rfl, rfl⟩ := h2
      refine ⟨env, S, fp, o, e1, R, h1, fun v S1 H1 fp1 fr1 R1 E1 w1 g1 n1 => ?_⟩
      have F1 := fresh_of hl w1 n1
      have i1 : ∀ a ∈ fr1, H1 a ≠ none := w1.some
      refine disp_pairs t R1 h3 fun kvs S2 H2 fp2 fr2 R2 E2 w2 n2 => ?_
      refine k ((.inl y, v) :: kvs) S2 H2 fp2 (fr1 ++ fr2) R2 (E1.trans E2) ?_ (Fresh.app (S1 := S) (H1 := H) (fp1 := fp) (F1.evo i1 E2) (Fresh.pre E1 n2) fun a h1 h2 => ?_)
      · simp only [OwK]
        exact ⟨v, kvs, fr1, fr2, rfl, rfl, w1.evo F1.off E2, w2⟩
      · rcases n2.src a h2 with z | ⟨j, z⟩
        · exact i1 a h1 z
        · exact F1.off a h1 j z
    · cases h2
theorem se_disp {X : Cx} {pos : Pos} {ks : List (Option Expr)} {vs : List Expr} {ds : List DItem} {trs : List (TE × TE)} (h : SD X pos ks vs ds trs) (h0 : ks ≠ []) : SE X (.Dict ks vs pos) (dispE ds) false true := by
  obtain ⟨h1, h2, h3, h4⟩ := h.pps
  refine ⟨⟨fun pins s σ H Q I hw => ?_⟩, fun z => nomatch z⟩
  obtain ⟨env, S, fp, z, env', R, he, k⟩ := hw
  unfold dispE at he
  split at he
  · rename_i hc
    simp only [Option.map_eq_some_iff, Prod.mk.injEq] at he
    obtain ⟨⟨kos, e1⟩, he, rfl, rfl⟩ := he
    refine (pe_disp h1 h2 h3 h0 (by rw [h4]; exact hc.2)).run pins s σ H Q I fun p hp => ?_
    have hS : S p = none := R.le.free hp
    have hn : ∀ i, p ∉ fp i := fun i m => R.ins i p m hp
    have R1 := R.updN (o := .dK []) hS hn
    have E1 : Evo S H fp S (upd H p (.dK [])) fp := (Evo.refl S H fp).updN hp
    have e0 : upd H p (.dK []) p = some (.dK []) := upd_same
    refine disp_pairs h R1 he fun kvs S2 H2 fp2 fr R2 E2 w2 F2 => ?_
    have hz : upd H p (.dK []) p ≠ none := by rw [e0]; exact fun z => nomatch z
    obtain ⟨h5, h6⟩ := E2.keep p hz hn
    have hp2 : ∀ i, p ∉ fp2 i := fun i m => by
      rcases E2.own i p m with z | ⟨j, z⟩
      · exact hz z
      · exact hn j z
    have hpf : p ∉ fr := fun m => by
      rcases F2.src p m with z | ⟨j, z⟩
      · exact hz z
      · exact hn j z
    refine ⟨h5.trans e0, kvs, rfl, ?_, ?_⟩
    · have e1 := congrArg List.length (owK_keys w2)
      have e2 := congrArg List.length (evD_keys he)
      simp only [List.length_map] at e1 e2
      rw [e1, e2]
      exact hc.2
    · have e3 : mergeK [] kvs = kvs := by
        rw [mergeK_nodup]
        · rfl
        · rw [List.nil_append, owK_keys w2, evD_keys he]
          exact hc.1
      rw [e3]
      have hS2 : S2 p = none := h6.trans hS
      refine k (.ref p) S2 _ fp2 (p :: fr) (R2.updN hS2 hp2) ((E1.trans E2).updN hp) ?_ (fun z => nomatch z) fun _ => ⟨List.nodup_cons.mpr ⟨hpf, F2.nd⟩, fun a m => ?_, fun a m i => ?_, fun a m => ?_⟩
      · simp only [Ow]
        exact ⟨p, kvs, fr, rfl, rfl, w2.keep (Same.refl _) fun b hb => upd_ne fun z => hpf (by rw [← z]; exact hb), upd_same⟩
      · rcases List.mem_cons.mp m with rfl | m
        · exact .inl hp
        · exact E1.back (F2.src a m)
      · rcases List.mem_cons.mp m with rfl | m
        · exact hp2 i
        · exact F2.off a m i
      · rcases List.mem_cons.mp m with rfl | m
        · exact hS2
        · exact F2.un a m
  · cases he
def emptyK : ESem := fun env => some (.dic [], env)
def emptyT : ESem := fun env => some (.dct [], env)
theorem se_emptyK {X : Cx} {pos : Pos} : SE X (.Dict [] [] pos) emptyK true true := by
  refine ⟨PE.imp pe_dnewK fun σ H Q h => ?_, fun _ env r env' h => by cases h; rfl⟩
  obtain ⟨env, S, fp, z, env', R, he, k⟩ := h
  cases he
  intro p hp
  have G := Gr.newH (o := .dK []) R.le hp
  refine k _ S _ fp [p] (R.gr G) G.evo ?_ (fun _ => ⟨rfl, G.grow⟩) (fun _ => (New.one hp (R.le.free hp)).fresh R.ins)
  simp only [Ow]
  exact ⟨p, [], [], rfl, rfl, by simp only [OwK]; exact ⟨trivial, trivial⟩, upd_same⟩
theorem se_emptyT {X : Cx} {pos : Pos} : SE X (.Dict [] [] pos) emptyT true true := by
  refine ⟨PE.imp pe_dnewT fun σ H Q h => ?_, fun _ env r env' h => by cases h; rfl⟩
  obtain ⟨env, S, fp, z, env', R, he, k⟩ := h
  cases he
  intro p hp
  have G := Gr.newH (o := .dT []) R.le hp
  refine k _ S _ fp [p] (R.gr G) G.evo ?_ (fun _ => ⟨rfl, G.grow⟩) (fun _ => (New.one hp (R.le.free hp)).fresh R.ins)
  simp only [Ow]
  exact ⟨p, [], [], rfl, rfl, by simp only [OwT]; exact ⟨trivial, trivial⟩, upd_same⟩

/-! ### more built-ins -/
section
variable {K : PySem.W.Frag}
def absI : D → Option D
  | .int i => some (.int (if i < 0 then -i else i))
  | _ => none
theorem ro_abs : RO1 K (fun x => (fun xs H Q => ∃ i, xs = [.int i] ∧ Q (.int (if i < 0 then -i else i)) H : List V → Hp → VK → Prop) [x]) (vw1 absI) := ro1_vw fun H x t z Q w e hf q => by
  unfold absI at e
  split at e
  · cases e
    simp only [Fz] at w
    exact ⟨_, by rw [w], q⟩
  · cases e
def intI : D → Option D
  | .int i => some (.int i)
  | .bool b => some (.int (if b then 1 else 0))
  | _ => none
theorem ro_intc : RO1 K (fun x => (fun xs H Q => (∃ i, xs = [.int i] ∧ Q (.int i) H) ∨ ∃ k, xs = [.bl k] ∧ Q (.int (if k then 1 else 0)) H : List V → Hp → VK → Prop) [x]) (vw1 intI) := ro1_vw fun H x t z Q w e hf q => by
  unfold intI at e
  split at e
  · cases e
    simp only [Fz] at w
    exact .inl ⟨_, by rw [w], q⟩
  · cases e
    simp only [Fz] at w
    exact .inr ⟨_, by rw [w], q⟩
  · cases e
def max2I : D → D → Option D
  | .int i, .int j => some (.int (if j > i then j else i))
  | _, _ => none
theorem ro_max2 : RO2 K (fun x y => (fun xs H Q => ∃ i j, xs = [.int i, .int j] ∧ Q (.int (if j > i then j else i)) H : List V → Hp → VK → Prop) [x, y]) (vw2 max2I) := ro2_vw fun H x y t u z Q w1 w2 e hf q => by
  unfold max2I at e
  split at e
  · cases e
    simp only [Fz] at w1 w2
    exact ⟨_, _, by rw [w1, w2], q⟩
  · cases e
def min2I : D → D → Option D
  | .int i, .int j => some (.int (if j < i then j else i))
  | _, _ => none
theorem ro_min2 : RO2 K (fun x y => (fun xs H Q => ∃ i j, xs = [.int i, .int j] ∧ Q (.int (if j < i then j else i)) H : List V → Hp → VK → Prop) [x, y]) (vw2 min2I) := ro2_vw fun H x y t u z Q w1 w2 e hf q => by
  unfold min2I at e
  split at e
  · cases e
    simp only [Fz] at w1 w2
    exact ⟨_, _, by rw [w1, w2], q⟩
  · cases e
/-! divmod -/
def oDivmod (a b : O) : Option O := match a, b with
  | .leaf (.int i), .leaf (.int j) => if 0 < j ∧ j.natAbs.log2 < 9000 then some (.leaf (.tuple [.int (i / j), .int (i % j)])) else none
  | _, _ => none
theorem ro_divmod : RO2 K (fun x y => (fun xs H Q => ∃ i j, xs = [.int i, .int j] ∧ CDivP i j ∧ ∀ p, H p = none → Q (.ref p) (upd H p (.tup [.int (i / j), .int (i % j)])) : List V → Hp → VK → Prop) [x, y]) oDivmod := by
  intro S H x y o1 o2 fr1 fr2 z Q le w1 w2 e k
  unfold oDivmod at e
  split at e
  · split at e
    · rename_i i j h
      cases e
      have h1 := (ow_leafE w1).2
      have h2 := (ow_leafE w2).2
      simp only [Fz] at h1 h2
      subst h1
      subst h2
      exact ⟨i, j, rfl, ⟨h.1, PyProof.noPylong_of_log2 h.2⟩, newT (ts := [.int (i / j), .int (i % j)]) le (FzL.cons (by simp only [Fz]) (FzL.cons (by simp only [Fz]) FzL.nil)) rfl k⟩
    · cases e
  · cases e
/-! sum, any, all: of lists of numbers, of bools -/
def intsD : List D → Option (List Int)
  | [] => some []
  | .int i :: r => (intsD r).map (i :: ·)
  | _ => none
theorem intsD_some : ∀ {ts : List D} {ns : List Int}, intsD ts = some ns → ts = ns.map .int
  | [], ns, h => by cases h; rfl
  | .int i :: r, ns, h => by
    simp only [intsD, Option.map_eq_some_iff] at h
    obtain ⟨m, h, rfl⟩ := h
    rw [intsD_some h]
    rfl
  | .none :: r, ns, h => by cases h
  | .bool _ :: r, ns, h => by cases h
  | .str _ :: r, ns, h => by cases h
  | .list _ :: r, ns, h => by cases h
  | .tuple _ :: r, ns, h => by cases h
  | .dict _ :: r, ns, h => by cases h
def boolsD : List D → Option (List Bool)
  | [] => some []
  | .bool i :: r => (boolsD r).map (i :: ·)
  | _ => none
theorem boolsD_some : ∀ {ts : List D} {ns : List Bool}, boolsD ts = some ns → ts = ns.map .bool
  | [], ns, h => by cases h; rfl
  | .bool i :: r, ns, h => by
    simp only [boolsD, Option.map_eq_some_iff] at h
    obtain ⟨m, h, rfl⟩ := h
    rw [boolsD_some h]
    rfl
  | .none :: r, ns, h => by cases h
  | .int _ :: r, ns, h => by cases h
  | .str _ :: r, ns, h => by cases h
  | .list _ :: r, ns, h => by cases h
  | .tuple _ :: r, ns, h => by cases h
  | .dict _ :: r, ns, h => by cases h
def oSum (a : O) : Option O := (lstO a).bind fun ts => (intsD ts).map fun ns => .leaf (.int ns.sum)
theorem ro_sum : RO1 K (fun x => rSum K [x]) oSum := by
  intro S H x o fr1 z Q le w e k
  unfold oSum at e
  simp only [Option.bind_eq_some_iff, Option.map_eq_some_iff] at e
  obtain ⟨ts, h1, ns, h2, rfl⟩ := e
  obtain ⟨a, vs, rfl, ha, za⟩ := lstO_at le w h1
  rw [intsD_some h2] at za
  rw [fz_ints za] at ha
  exact ⟨a, ns, rfl, ha.sq, k _ S H [] (Gr.refl le) (ow_leaf (by simp only [Fz])) New.nil⟩
def oAny (a : O) : Option O := (lstO a).bind fun ts => (boolsD ts).map fun ns => .leaf (.bool (ns.any id))
theorem ro_any : RO1 K (fun x => rAny K [x]) oAny := by
  intro S H x o fr1 z Q le w e k
  unfold oAny at e
  simp only [Option.bind_eq_some_iff, Option.map_eq_some_iff] at e
  obtain ⟨ts, h1, ns, h2, rfl⟩ := e
  obtain ⟨a, vs, rfl, ha, za⟩ := lstO_at le w h1
  rw [boolsD_some h2] at za
  rw [fz_bls za] at ha
  exact ⟨a, ns, rfl, ha.sq, k _ S H [] (Gr.refl le) (ow_leaf (by simp only [Fz])) New.nil⟩
def oAll (a : O) : Option O := (lstO a).bind fun ts => (boolsD ts).map fun ns => .leaf (.bool (ns.all id))
theorem ro_all : RO1 K (fun x => rAll K [x]) oAll := by
  intro S H x o fr1 z Q le w e k
  unfold oAll at e
  simp only [Option.bind_eq_some_iff, Option.map_eq_some_iff] at e
  obtain ⟨ts, h1, ns, h2, rfl⟩ := e
  obtain ⟨a, vs, rfl, ha, za⟩ := lstO_at le w h1
  rw [boolsD_some h2] at za
  rw [fz_bls za] at ha
  exact ⟨a, ns, rfl, ha.sq, k _ S H [] (Gr.refl le) (ow_leaf (by simp only [Fz])) New.nil⟩
end
/-! isinstance(x, T) -/
inductive Tyk where
  | int | bool | str | list | tuple
def Tyk.name : Tyk → String
  | .int => "int"
  | .bool => "bool"
  | .str => "str"
  | .list => "list"
  | .tuple => "tuple"
def Tyk.is : Tyk → D → Bool
  | .int, t => t.isInt
  | .bool, t => t.isBool
  | .str, t => t.isStr
  | .list, t => t.isList
  | .tuple, t => t.isTuple
def isaI (k : Tyk) (t : D) : Option D := if okd 50 t = true then some (.bool (k.is t)) else none
section
variable {X : Cx}
theorem cr_isa (k : Tyk) : CallR X (.builtin "isinstance") (fun xs H Q => ∃ x t, xs = [x, .ty k.name] ∧ Fz X.K H t x ∧ okd 50 t = true ∧ Q (.bl (k.is t)) H) := by
  intro pins s σ H xs us Q I r h
  obtain ⟨x, t, rfl, w, ok, q⟩ := h
  obtain ⟨u1, u2, rfl, r1, r2⟩ := vals2 r
  have e2 : u2 = Value.type k.name := r2
  subst e2
  obtain ⟨as, ra⟩ := fz_reads I (okd_spec ok).1 w r1
  cases k with
  | int => exact PySem.W.isinstance_int_data ra fun tk _ => ⟨.bl _, H, I.tok tk, rfl, q⟩
  | bool => exact PySem.W.isinstance_bool_data ra fun tk _ => ⟨.bl _, H, I.tok tk, rfl, q⟩
  | str => exact PySem.W.isinstance_str_data ra fun tk _ => ⟨.bl _, H, I.tok tk, rfl, q⟩
  | list => exact PySem.W.isinstance_list_data ra fun tk _ => ⟨.bl _, H, I.tok tk, rfl, q⟩
  | tuple => exact PySem.W.isinstance_tuple_data ra fun tk _ => ⟨.bl _, H, I.tok tk, rfl, q⟩
theorem se_isa (k : Tyk) {a : Expr} {f : ESem} {q m : Bool} {pos p p2 : Pos} {T : Str} (hg : Gl X "isinstance") (hm : X.mg "isinstance" = none) (hgT : Gl X T) (hmT : X.mg T = none) (hv : bootBuiltins T = some (.type k.name)) (h : SE X a f q m) (hvI : bootBuiltins "isinstance" = some (.builtin "isinstance") := by decide +kernel)
    (hn : T ≠ "__name__" := by decide) (hd : (T == ("__debug__" : Str)) = false := by decide)
    (he : starEach [a, .Name T p2] X.env = (false, eval a X.env) :: starEach [.Name T p2] X.env := by rfl) (he2 : starEach [.Name T p2] X.env = (false, eval (.Name T p2) X.env) :: starEach [] X.env := by rfl) (hpl : (backTo pos (starEach [.Name T p2] X.env)).any (·.1) = false := by rfl) :
    SE X (.Call (.Name "isinstance" p) [a, .Name T p2] [] pos) (un f (vw1 (isaI k))) q true := by
  refine ⟨PE.imp (pe_callB (cr_isa k) hg hm hvI (pa_cons h.pe (pa_cons (pe_bltn (v := .ty k.name) hgT hmT hv rfl hn hd) pa_nil he2) he) (by decide) (by decide) he hpl) fun σ H Q hw => ?_, un_qf h.qf⟩
  refine imp1 (r := fun x H Q => ∃ x' t, [x, V.ty k.name] = [x', .ty k.name] ∧ Fz X.K H t x' ∧ okd 50 t = true ∧ Q (.bl (k.is t)) H) (ro1_vw fun H x t z Q w e hf q => ?_) hw
  unfold isaI at e
  split at e
  · rename_i ok
    cases e
    exact ⟨x, t, rfl, w, ok, q⟩
  · cases e
end
end Mv

set_option Elab.async false
set_option linter.all false
set_option maxRecDepth 100000
set_option maxHeartbeats 2000000
namespace Mv
open PySem PySem.Spec PyProof.Rows L2
section
variable {X : Cx} {a b c e : Expr} {f1 f2 f3 f : ESem} {q1 q2 q3 q m1 m2 m3 m : Bool} {pos : Pos}
/-! ### a < b < c, all plain -/
def chainE (f1 f2 f3 : ESem) (g g' : O → O → Option O) : ESem := fun env => (f1 env).bind fun p => (f2 p.2).bind fun r =>
  if (p.1.isLeaf && r.1.isLeaf) = true then (g p.1 r.1).bind fun z => match z with
    | .leaf (.bool true) => (f3 r.2).bind fun t => (g' r.1 t.1).map fun w => (w, t.2)
    | .leaf (.bool false) => some (.leaf (.bool false), r.2)
    | _ => none
  else none
theorem chain_core {K : PySem.W.Frag} {r r' : R2} {g g' : O → O → Option O} (hr : RO2 K r g) (hr' : RO2 K r' g') {σ : L2.St} {H : Hp} {Q : VK} (h : tE K (chainE f1 f2 f3 g g') (q1 && (q2 && q3)) true σ H Q) : tChain r r' (tE K f1 q1 m1) (tE K f2 q2 m2) (tE K f3 q3 m3) σ H Q := by
  obtain ⟨env, S, fp, z, env', R, he, k⟩ := h
  unfold chainE at he
  simp only [Option.bind_eq_some_iff] at he
  obtain ⟨⟨o1, e1⟩, h1, ⟨o2, e2⟩, h2, h3⟩ := he
  simp only at h1 h2 h3
  split at h3
  · rename_i hl
    rw [Bool.and_eq_true] at hl
    simp only [Option.bind_eq_some_iff] at h3
    obtain ⟨zz, h4, h5⟩ := h3
    refine ⟨env, S, fp, o1, e1, R, h1, fun x S1 H1 fp1 fr1 R1 E1 w1 g1 n1 => ⟨e1, S1, fp1, o2, e2, R1, h2, fun y S2 H2 fp2 fr2 R2 E2 w2 g2 n2 => ?_⟩⟩
    have e0 := isLeaf_fr hl.1 w1
    subst e0
    have e0 := isLeaf_fr hl.2 w2
    subst e0
    have w1' : Ow K S2 H2 o1 x [] := w1.keep E2.sub (by intro a h; cases h)
    have EE := E1.trans E2
    refine hr S2 H2 x y o1 o2 [] [] zz _ R2.le w1' w2 h4 fun v S3 H3 fr gr w nw => ?_
    have R3 := R2.gr gr
    have E3 := EE.trans (gr.evo (fp := fp2))
    split at h5
    · obtain ⟨rfl, rfl⟩ := leafB w
      refine ⟨true, rfl, ?_⟩
      rw [if_pos rfl]
      simp only [Option.bind_eq_some_iff, Option.map_eq_some_iff, Prod.mk.injEq] at h5
      obtain ⟨⟨o3, e3⟩, h6, w', h7, rfl, rfl⟩ := h5
      refine ⟨e2, S3, fp2, o3, e3, R3, h6, fun t S4 H4 fp4 fr4 R4 E4 w4 g4 n4 => ?_⟩
      have w2' : Ow K S4 H4 o2 y [] := w2.keep (gr.sub.trans E4.sub) (by intro a h; cases h)
      refine hr' S4 H4 y t o2 o3 [] fr4 w' Q R4.le w2' w4 h7 fun v' S5 H5 fr5 gr5 w5 nw5 => ?_
      refine k v' S5 H5 fp4 fr5 (R4.gr gr5) ((E3.trans E4).trans gr5.evo) w5 (fun e => ?_) (fun _ => Fresh.pre (E3.trans E4) (nw5.fresh R4.ins))
      simp only [Bool.and_eq_true] at e
      exact ⟨((g4 e.2.2).1.trans (g2 e.2.1).1).trans (g1 e.1).1, (((((g1 e.1).2.trans (g2 e.2.1).2).trans gr.grow).trans (g4 e.2.2).2).trans gr5.grow)⟩
    · obtain ⟨rfl, rfl⟩ := leafB w
      refine ⟨false, rfl, ?_⟩
      rw [if_neg Bool.false_ne_true]
      cases h5
      refine k _ S3 H3 fp2 [] R3 E3 w (fun e => ?_) (fun _ => Fresh.nil)
      simp only [Bool.and_eq_true] at e
      exact ⟨(g2 e.2.1).1.trans (g1 e.1).1, ((g1 e.1).2.trans (g2 e.2.1).2).trans gr.grow⟩
    · cases h5
  · cases h3
theorem chain_qf {g g' : O → O → Option O} (h1 : q1 = true → ∀ env r env', f1 env = some (r, env') → env' = env) (h2 : q2 = true → ∀ env r env', f2 env = some (r, env') → env' = env) (h3 : q3 = true → ∀ env r env', f3 env = some (r, env') → env' = env) :
    (q1 && (q2 && q3)) = true → ∀ env r env', chainE f1 f2 f3 g g' env = some (r, env') → env' = env := by
  intro e env r env' he
  simp only [Bool.and_eq_true] at e
  unfold chainE at he
  simp only [Option.bind_eq_some_iff] at he
  obtain ⟨⟨o1, e1⟩, h4, ⟨o2, e2⟩, h5, h6⟩ := he
  simp only at h4 h5 h6
  split at h6
  · simp only [Option.bind_eq_some_iff] at h6
    obtain ⟨zz, _, h7⟩ := h6
    split at h7
    · simp only [Option.bind_eq_some_iff, Option.map_eq_some_iff, Prod.mk.injEq] at h7
      obtain ⟨⟨o3, e3⟩, h8, w', _, rfl, rfl⟩ := h7
      rw [h3 e.2.2 _ _ _ h8, h2 e.2.1 _ _ _ h5, h1 e.1 _ _ _ h4]
    · cases h7
      rw [h2 e.2.1 _ _ _ h5, h1 e.1 _ _ _ h4]
    · cases h7
  · cases h6
theorem se_chain {op op' : CmpOp} {r r' : R2} {g g' : O → O → Option O} (ho : OpR X (compareOp op) r) (hr : RO2 X.K r g) (ho' : OpR X (compareOp op') r') (hr' : RO2 X.K r' g') (h1 : SE X a f1 q1 m1) (h2 : SE X b f2 q2 m2) (h3 : SE X c f3 q3 m3)
    (hm : lastMarks [op, op'] [b, c] = false := by with_unfolding_all rfl) : SE X (.Compare a [op, op'] [b, c] pos) (chainE f1 f2 f3 g g') (q1 && (q2 && q3)) true :=
  ⟨PE.imp (pe_chain ho ho' h1.pe h2.pe h3.pe hm) fun _ _ _ h => chain_core hr hr' h, chain_qf h1.qf h2.qf h3.qf⟩
theorem st_chain {op op' : CmpOp} {r r' : R2} {g g' : O → O → Option O} (ho : OpR X (compareOp op) r) (hr : RO2 X.K r g) (ho' : OpR X (compareOp op') r') (hr' : RO2 X.K r' g') (h1 : SE X a f1 q1 m1) (h2 : SE X b f2 q2 m2) (h3 : SE X c f3 q3 m3)
    (hm : lastMarks [op, op'] [b, c] = false := by with_unfolding_all rfl) : ST X (.Compare a [op, op'] [b, c] pos) (asB (chainE f1 f2 f3 g g')) (q1 && (q2 && q3)) :=
  ⟨PT.imp (pt_chain ho ho' h1.pe h2.pe h3.pe hm) fun σ H Q h => by
    have h' := tT_of (m := true) h
    exact chain_core hr hr' h', asB_qf (chain_qf h1.qf h2.qf h3.qf)⟩

/-! ### a, b = x, y -/
def setAll : List Nat → List O → Env → Option Env
  | [], [], env => some env
  | i :: is, o :: os, env => setAll is os (env.set i (some o))
  | _, _, _ => none
def parS (is : List Nat) (f : ASem) : SSem := fun env => (f env).bind fun p => (setAll is p.1 p.2).map fun e => (.nx, e)
theorem setAll_rel {K : PySem.W.Frag} {S H : Hp} {S0 H0 : Hp} {fp0 : Nat → List Addr} : ∀ {is : List Nat} {os : List O} {vs : List V} {fr : List Addr} {env env' : Env} {σ : L2.St} {fp : Nat → List Addr}, Rel K env σ S H fp → Evo S0 H0 fp0 S H fp → OwA K S H os vs fr → fr.Nodup → (∀ a ∈ fr, ∀ j, a ∉ fp j) → (∀ a ∈ fr, S a = none) → (∀ a ∈ fr, H0 a = none ∨ ∃ j, a ∈ fp0 j) → setAll is os env = some env' →
    ∃ σ' fp', Rel K env' σ' S H fp' ∧ Evo S0 H0 fp0 S H fp' ∧ (∀ k, k ∉ is → σ'[k]? = σ[k]?) ∧ σ' = (is.zip vs).foldl (fun σ p => σ.set p.1 (some p.2)) σ
  | [], [], vs, fr, env, env', σ, fp, R, E, w, n, off, un, src, e => by
    cases e
    rw [w.1]
    exact ⟨σ, fp, R, E, fun _ _ => rfl, rfl⟩
  | [], _ :: _, vs, fr, env, env', σ, fp, R, E, w, n, off, un, src, e => by cases e
  | _ :: _, [], vs, fr, env, env', σ, fp, R, E, w, n, off, un, src, e => by cases e
  | i :: is, o :: os, vs, fr, env, env', σ, fp, R, E, w, n, off, un, src, e => by
    obtain ⟨v, vr, f1, f2, rfl, rfl, h1, h2⟩ := w
    rw [List.nodup_append] at n
    have R1 := R.set (i := i) h1 n.1 (fun a m j => off a (List.mem_append_left _ m) j) (fun a m => un a (List.mem_append_left _ m))
    have E1 : Evo S0 H0 fp0 S H (fun j => if j = i then f1 else fp j) := E.set (fun a m => src a (List.mem_append_left _ m))
    obtain ⟨σ', fp', h3, h4, h5, h6⟩ := setAll_rel R1 E1 h2 n.2.1 (fun a m j z => by
      by_cases hj : j = i
      · rw [if_pos hj] at z
        exact n.2.2 a z a m rfl
      · rw [if_neg hj] at z
        exact off a (List.mem_append_right _ m) j z) (fun a m => un a (List.mem_append_right _ m)) (fun a m => src a (List.mem_append_right _ m)) e
    refine ⟨σ', fp', h3, h4, fun k hk => ?_, by rw [h6]; rfl⟩
    rw [List.mem_cons, not_or] at hk
    rw [h5 k hk.2, List.getElem?_set_ne (fun z => hk.1 z.symm)]
theorem par_core {K : PySem.W.Frag} {is : List Nat} {f : ASem} {q : Bool} {D : Ends} {σ : L2.St} {H : Hp} (h : tSS K (parS is f) is D σ H) : tAr K f q σ H fun vs H1 => D.nx ((is.zip vs).foldl (fun σ p => σ.set p.1 (some p.2)) σ) H1 := by
  obtain ⟨env, S, fp, out, env', R, he, k⟩ := h
  unfold parS at he
  simp only [Option.bind_eq_some_iff, Option.map_eq_some_iff, Prod.mk.injEq] at he
  obtain ⟨⟨os, e1⟩, h1, e2, h2, rfl, rfl⟩ := he
  refine ⟨env, S, fp, os, e1, R, h1, fun vs S1 H1 fp1 fr R1 E1 w g F => ?_⟩
  obtain ⟨σ', fp', h3, h4, h5, h6⟩ := setAll_rel R1 E1 w F.nd F.off F.un F.src h2
  rw [← h6]
  exact k σ' S1 H1 fp' h3 h4 h5
theorem evA_len {is : List Nat} {os : List O} {env env' : Env} (h : setAll is os env = some env') : is.length = os.length := by
  induction is generalizing os env with
  | nil =>
    cases os with
    | nil => rfl
    | cons _ _ => cases h
  | cons i is ih =>
    cases os with
    | nil => cases h
    | cons o os => simp [ih (os := os) h]
theorem tAr_len {K : PySem.W.Frag} {is : List Nat} {f : ASem} {q : Bool} {D : Ends} {σ : L2.St} {H : Hp} (h : tSS K (parS is f) is D σ H) : tAr K f q σ H fun vs H1 => vs.length = is.length ∧ D.nx ((is.zip vs).foldl (fun σ p => σ.set p.1 (some p.2)) σ) H1 := by
  have h0 := h
  obtain ⟨env, S, fp, out, env', R, he, k⟩ := h
  unfold parS at he
  simp only [Option.bind_eq_some_iff, Option.map_eq_some_iff, Prod.mk.injEq] at he
  obtain ⟨⟨os, e1⟩, h1, e2, h2, rfl, rfl⟩ := he
  refine ⟨env, S, fp, os, e1, R, h1, fun vs S1 H1 fp1 fr R1 E1 w g F => ?_⟩
  obtain ⟨σ', fp', h3, h4, h5, h6⟩ := setAll_rel R1 E1 w F.nd F.off F.un F.src h2
  refine ⟨by rw [w.len, evA_len h2], ?_⟩
  rw [← h6]
  exact k σ' S1 H1 fp' h3 h4 h5
theorem len2 {vs : List V} (h : vs.length = 2) : ∃ v w, vs = [v, w] := by
  match vs, h with
  | [v, w], _ => exact ⟨v, w, rfl⟩
theorem len3 {vs : List V} (h : vs.length = 3) : ∃ u v w, vs = [u, v, w] := by
  match vs, h with
  | [u, v, w], _ => exact ⟨u, v, w, rfl⟩
theorem tAr_mono {K : PySem.W.Frag} {f : ASem} {q : Bool} {σ : L2.St} {H : Hp} {Q Q' : List V → Hp → Prop} (h : tAr K f q σ H Q) (i : ∀ vs H, Q vs H → Q' vs H) : tAr K f q σ H Q' := by
  obtain ⟨env, S, fp, os, e1, R, h1, k⟩ := h
  exact ⟨env, S, fp, os, e1, R, h1, fun vs S1 H1 fp1 fr R1 E1 w g F => i _ _ (k vs S1 H1 fp1 fr R1 E1 w g F)⟩
theorem ss_par {i j : Nat} {x y : Str} {fa : ASem} {px py pt : Pos} {kt k2 pt2} (hc : X.calm = true) (hN : X.N.Nodup) (hi : X.N[i]? = some x) (hj : X.N[j]? = some y) (hij : i ≠ j)
    (hx : X.env.scope.names.lookup x = some .local) (hy : X.env.scope.names.lookup y = some .local) (ha : SA X [a, b] fa q)
    (hw : swappedStores [.Tuple [.Name x px, .Name y py] kt pt] (.Tuple [a, b] k2 pt2) X.env = pure (some [x, y]))
    (hs : swapsWithSole [.Tuple [.Name x px, .Name y py] kt pt] (.Tuple [a, b] k2 pt2) pos.line X.env = pure false := by rfl) :
    SS X (.Assign [.Tuple [.Name x px, .Name y py] kt pt] (.Tuple [a, b] k2 pt2) pos) (parS [i, j] fa) [i, j] :=
  ⟨PS.imp (ps_par hc hN hi hj hij hx hy ha.pa hw hs) fun D σ H h => tAr_mono (tAr_len h) fun vs H1 ⟨hl, hn⟩ => by
    obtain ⟨v, w, rfl⟩ := len2 hl
    exact ⟨v, w, rfl, hn⟩⟩
theorem ss_par3 {i j l : Nat} {x y z : Str} {fa : ASem} {px py pz pt : Pos} {kt k2 pt2} (hc : X.calm = true) (hN : X.N.Nodup) (hi : X.N[i]? = some x) (hj : X.N[j]? = some y) (hl : X.N[l]? = some z) (hij : i ≠ j) (hil : i ≠ l) (hjl : j ≠ l)
    (hx : X.env.scope.names.lookup x = some .local) (hy : X.env.scope.names.lookup y = some .local) (hz : X.env.scope.names.lookup z = some .local) (ha : SA X [a, b, c] fa q)
    (hw : swappedStores [.Tuple [.Name x px, .Name y py, .Name z pz] kt pt] (.Tuple [a, b, c] k2 pt2) X.env = pure (some [x, y, z]))
    (hs : swapsWithSole [.Tuple [.Name x px, .Name y py, .Name z pz] kt pt] (.Tuple [a, b, c] k2 pt2) pos.line X.env = pure false := by rfl) :
    SS X (.Assign [.Tuple [.Name x px, .Name y py, .Name z pz] kt pt] (.Tuple [a, b, c] k2 pt2) pos) (parS [i, j, l] fa) [i, j, l] :=
  ⟨PS.imp (ps_par3 hc hN hi hj hl hij hil hjl hx hy hz ha.pa hw hs) fun D σ H h => tAr_mono (tAr_len h) fun vs H1 ⟨hl, hn⟩ => by
    obtain ⟨u, v, w, rfl⟩ := len3 hl
    exact ⟨u, v, w, rfl, hn⟩⟩
/-- the pair made, then unpacked (a name that an inner block sees) -/
def gNames : List Nat → TGs
  | [] => gNil
  | i :: r => gCons (gName i) (gNames r)
theorem gNames_fold : ∀ {is : List Nat} {vs : List V} {σ : L2.St} {H : Hp} {Q : L2.St → Hp → Prop}, vs.length = is.length → Q ((is.zip vs).foldl (fun σ p => σ.set p.1 (some p.2)) σ) H → gNames is vs σ H Q
  | [], vs, σ, H, Q, h, q => by
    have : vs = [] := List.length_eq_zero_iff.mp h
    subst this
    exact ⟨rfl, q⟩
  | i :: is, [], σ, H, Q, h, q => by simp at h
  | i :: is, v :: vs, σ, H, Q, h, q => ⟨v, vs, rfl, gNames_fold (by simpa using h) q⟩
theorem ss_parT {es : List Expr} {tgs : List Expr} {is : List Nat} {fa : ASem} {pt : Pos} {kt k2 pt2} (hc : X.calm = true) (hl : is.length ≤ 1000) (hg : PGs X tgs (gNames is)) (ha : SA X es fa q)
    (hs : swapsWithSole [.Tuple tgs kt pt] (.Tuple es k2 pt2) pos.line X.env = pure false := by rfl) (hw : swappedStores [.Tuple tgs kt pt] (.Tuple es k2 pt2) X.env = pure none := by rfl)
    (h1 : (assignEach [.Tuple tgs kt pt] X.env).map (·.2) = [assign (.Tuple tgs kt pt) X.env] := by rfl) (hn : (assignEach tgs X.env).length = is.length := by rfl) (hst : (assignEach tgs X.env).findIdx? (·.1) = none := by rfl) :
    SS X (.Assign [.Tuple tgs kt pt] (.Tuple es k2 pt2) pos) (parS is fa) is := by
  refine ⟨PS.imp (ps_asg (pe_tup ha.pa) (pg_tup hc hg hn hst) hs hw h1) fun D σ H h => ?_⟩
  have h' := h
  obtain ⟨env, S, fp, out, env', R, he, k⟩ := h
  unfold parS at he
  simp only [Option.bind_eq_some_iff, Option.map_eq_some_iff, Prod.mk.injEq] at he
  obtain ⟨⟨os, e1⟩, h1, e2, h2, rfl, rfl⟩ := he
  refine ⟨env, S, fp, os, e1, R, h1, fun vs S1 H1 fp1 fr R1 E1 w g F => ?_⟩
  have hlen : vs.length = is.length := by rw [w.len, evA_len h2]
  refine ⟨by rw [hlen]; exact Nat.le_trans hl (by decide), fun p hp => ⟨p, vs, rfl, SqT.of upd_same, hlen, gNames_fold hlen ?_⟩⟩
  have G := Gr.newH (o := .tup vs) R1.le hp
  have w' : OwA X.K S1 (upd H1 p (.tup vs)) os vs fr := w.keep (Same.refl _) fun a m => by
    rw [upd_ne]
    intro z
    rw [z] at m
    exact w.some p m hp
  have F' : Fresh S H fp S1 fp1 fr := F
  obtain ⟨σ', fp', h3, h4, h5, h6⟩ := setAll_rel (R1.gr G) (E1.trans G.evo) w' F.nd F.off F.un F.src h2
  rw [← h6]
  exact k σ' S1 _ fp' h3 h4 h5
/-- x op= e, numbers -/
def augS (i : Nat) (f : ESem) (g : O → O → Option O) : SSem := fun env => match env[i]? with
  | some (some o) => if o.isLeaf = true then (f env).bind fun p => (g o p.1).bind fun z => if z.isLeaf = true then some (.nx, p.2.set i (some z)) else none else none
  | _ => none
theorem ss_aug {i : Nat} {x : Str} {op : Operator} {ti : TIp} {g : O → O → Option O} {pos' : Pos} (hN : X.N.Nodup) (hi : X.N[i]? = some x) (hx : Loc X.env.scope x) (h : SE X e f q m) (ho : PIp X op ti) (hr : RO2 X.K ti g) (hf : X.fn x = true ∨ X.env.scope.names.lookup x = some .local := by first | exact .inl rfl | exact .inr rfl | assumption) :
    SS X (.AugAssign (.Name x pos') op e pos) (augS i f g) [i] := by
  refine ⟨PS.imp (ps_aug hN hi hx h.pe ho hf) fun D σ H hw => ?_⟩
  obtain ⟨env, S, fp, out, env', R, he, k⟩ := hw
  unfold augS at he
  split at he
  · rename_i o e0
    split at he
    · rename_i hl
      simp only [Option.bind_eq_some_iff] at he
      obtain ⟨⟨y, e1⟩, h1, z, h2, h3⟩ := he
      split at h3
      · rename_i hz
        cases h3
        obtain ⟨x0, hx0, w0⟩ := R.sl i o e0
        have ef := isLeaf_fr hl w0
        rw [ef] at w0
        refine ⟨x0, hx0, env, S, fp, y, e1, R, h1, fun v S1 H1 fp1 fr R1 E1 w g1 n => ?_⟩
        refine hr S1 H1 x0 v o y [] fr z _ R1.le (w0.keep E1.sub (by intro a h; cases h)) w h2 fun v2 S2 H2 fr2 gr w2 nw => ?_
        have ez := isLeaf_fr hz w2
        subst ez
        refine k _ _ _ _ ((R1.gr gr).set (i := i) w2 List.nodup_nil (by intro a h; cases h) (by intro a h; cases h)) ((E1.trans gr.evo).set (by intro a h; cases h)) fun j hj => ?_
        rw [List.getElem?_set_ne]
        intro z
        exact hj (List.mem_singleton.mpr z.symm)
      · cases h3
    · cases he
  · cases he
end
def addII : D → D → Option D
  | .int i, .int j => some (.int (i + j))
  | _, _ => none
theorem ro_ipadd {K : PySem.W.Frag} : RO2 K (ipI fun i j => i + j) (vw2 addII) := ro2_vw fun H x y t u z Q w1 w2 e hf q => by
  unfold addII at e
  split at e
  · cases e
    simp only [Fz] at w1 w2
    exact ⟨_, _, w1, w2, q⟩
  · cases e
theorem ro_ipsub {K : PySem.W.Frag} : RO2 K (ipI fun i j => i - j) (vw2 subI) := ro2_vw fun H x y t u z Q w1 w2 e hf q => by
  unfold subI at e
  split at e
  · cases e
    simp only [Fz] at w1 w2
    exact ⟨_, _, w1, w2, q⟩
  · cases e

/-! ### a def, by the head's facts -/
theorem defD_ok {P : Program} {w : World} {K : PySem.W.Frag} {mg : Str → Option Value} {base : Heap} {x qual : Str} {st : Stmt} {f : Addr} {fd : FuncData} {N ps : List Str} {k n size : Nat} {rb asg : List Nat} {body : SSem} (F : FunD K x qual (defArgs st) (defBody st) (defScope st) [] [] f fd) (Sc : FnScope N ps (defScope st)) (hn : ps.length = n) (hN : N.length = size) (hrb : (asg.all fun i => decide (n ≤ i) || rb.contains i) = true)
    (hb : ∀ (cdv : Value) (A : Around) (outer : List PySem.Env) (s : Shared) (H : Hp) (E : XK), Room k (A.deeper (envOfC qual (defScope st) s.heap.objs.size f cdv)) → SSs (cxOf CX0 P w K mg base N qual (defScope st) f cdv A outer s H E).nox (defBody st) body asg) :
    FnOk P w K mg base CX0 (k + 1) f fd ps (spOf K (runDef n size rb body)) := by
  obtain ⟨oc, od, dV, kV, doc, pm, an, cdv, ct, osl, rfl, lk, hcd, hD, hK⟩ := F.ex
  rcases hD with ⟨_, rfl⟩ | ⟨e, _⟩
  · exact def_ok ⟨⟨oc, od, kV, doc, pm, an, cdv, ct, osl, rfl, lk, hcd⟩, F.kp⟩ Sc hn hN (fun i hi hl => by
      have := List.all_eq_true.mp hrb i hi
      rw [Bool.or_eq_true, decide_eq_true_eq] at this
      rcases this with z | z
      · omega
      · simpa using z) hb
  · exact absurd rfl e

/-! ### the law's end -/
theorem law_sp {K : PySem.W.Frag} {g : Def} {H : Hp} {a : Addr} {ns : List Int} (hg : ∃ os', g [.leaf (.list (ns.map .int))] = some (.leaf (.bool true), os')) (h : LsAt K H a (ns.map V.int)) :
    spOf K g [.ref a] H (fun v _ => v = .bl true) fun _ _ _ => False := by
  obtain ⟨os', hg⟩ := hg
  refine ⟨[.leaf (.list (ns.map .int))], H, fun _ => [], _, os', ⟨Same.refl _, rfl, fun i o e => ?_, fun _ => List.nodup_nil, (by intro i j a h; cases h), (by intro i a h; cases h), (by intro i a h; cases h)⟩, fun _ _ => rfl, hg, fun v S' H' fp' fr R' E' w F => ?_⟩
  · cases i with
    | zero =>
      simp at e
      subst e
      refine ⟨.ref a, rfl, ow_leaf ?_⟩
      simp only [Fz]
      exact ⟨a, _, rfl, h, fz_ints'⟩
    | succ i => simp at e
  · exact (leafB w).1
theorem walk_law {l : PySem.W.OpenLaw} {k : Nat} {q : Program} {loose : List Str} {XP : (Str → Option Value) → Heap → Prop} {YP : World → Heap → Prop} {d : DefRec} {x : Str} {g : Def}
    (hn : l.most = some 63) (hdf : d.params.defaults = []) (hr : Room k callerA)
    (F : ∀ (w : World) (mg : Str → Option Value) (fa : Addr) (h : Heap), YP w h → h.Ns mainGlobals mg → mg d.name = some (.ref fa) →
      ∃ (K : PySem.W.Frag) (fd : FuncData), K.In h ∧ (∀ (s : Shared) (u : Value), BindsTo s fd ⟨[u], []⟩ [(x, u)]) ∧
        ∀ base : Heap, K.In base → base.Ns mainGlobals mg → FnOk l.prog w K mg base CX0 k fa fd [x] (spOf K g))
    (hg : ∀ ns : List Int, ns.length ≤ 63 → ∃ os', g [.leaf (.list (ns.map .int))] = some (.leaf (.bool true), os')) :
    PySem.W.WalkO q loose XP YP l.row.toRowW d [] (fun f vs => PySem.call f vs) := by
  refine Att.attach_call hn hdf fun w s₀ s₁ mg mb fa o pm cd doc a vs ns G Y ho hd hcd hmg hobj hints hlen hgn => ?_
  obtain ⟨K, fd, KX, hb, hF⟩ := F w mg fa _ Y G.T.g hmg
  refine law_call KX G.T.g G.T.b G.T.builtins G.T.nolimit hgn hobj hints (Nat.le_trans hlen (by decide)) hr hF hb (fun H hO hS => law_sp (hg ns hlen) ?_) fun H e s' z => z
  rcases hS with hS | ⟨ob, its, n, lk, hc, hdd, hdat, hz, rv⟩
  · exact .inl hS
  · have e := KX _ _ lk
    rw [hobj] at e
    cases e
    refine .inr ⟨vs, 0, vals_ints hints, ?_, lk⟩
    rw [List.length_map]
    exact Nat.le_trans hlen (by decide)
end Mv

set_option Elab.async false
set_option linter.all false
set_option maxRecDepth 100000
set_option maxHeartbeats 2000000
namespace Mv
open PySem PySem.Spec PyProof.Rows L2
/-! ### a def that keeps its promise, by name -/
structure Cal (P : Program) (w : World) (K : PySem.W.Frag) (mg : Str → Option Value) (base : Heap) (k : Nat) (x : Str) (ps : List Str) (g : Def) : Prop where
  ex : ∃ f fd, mg x = some (.ref f) ∧ PySem.W.keepIn K (.ref f) = true ∧ Binds K fd ps [] ∧ FnOk P w K mg base CX0 k f fd ps (spOf K g)
theorem se_cal {X : Cx} {k : Nat} {ps : List Str} {x : Str} {p pos : Pos} {e : Expr} {es : List Expr} {g : Def} {args : List Arg} (C : Cal X.prog X.w X.K X.mg X.base k x ps g) (hr : Room k X.A) (hg : Gl X x)
    (ha : SC X (e :: es) args) (hdb : (x == ("__debug__" : Str)) = false := by decide) (he : starEach (e :: es) X.env = (false, eval e X.env) :: starEach es X.env := by rfl) (hpl : (backTo pos (starEach es X.env)).any (·.1) = false := by rfl) :
    SE X (.Call (.Name x p) (e :: es) [] pos) (callF g args) false true := by
  obtain ⟨f, fd, hm, hk, hb, F⟩ := C.ex
  exact se_call F hr hg hm hk hb ha hdb he hpl
theorem cal_mk {P : Program} {w : World} {K : PySem.W.Frag} {mg : Str → Option Value} {base : Heap} {x qual : Str} {st : Stmt} {f : Addr} {fd : FuncData} {N ps : List Str} {k n size : Nat} {rb asg : List Nat} {body : SSem} (F : FunD K x qual (defArgs st) (defBody st) (defScope st) [] [] f fd) (hm : mg x = some (.ref f)) (hbd : Binds K fd ps []) (Sc : FnScope N ps (defScope st)) (hn : ps.length = n) (hN : N.length = size) (hrb : (asg.all fun i => decide (n ≤ i) || rb.contains i) = true)
    (hb : ∀ (cdv : Value) (A : Around) (outer : List PySem.Env) (s : Shared) (H : Hp) (E : XK), Room k (A.deeper (envOfC qual (defScope st) s.heap.objs.size f cdv)) → SSs (cxOf CX0 P w K mg base N qual (defScope st) f cdv A outer s H E).nox (defBody st) body asg) :
    Cal P w K mg base (k + 1) x ps (runDef n size rb body) := ⟨f, fd, hm, F.kp, hbd, defD_ok F Sc hn hN hrb hb⟩
end Mv

set_option Elab.async false
set_option linter.all false
set_option maxRecDepth 100000
set_option maxHeartbeats 2000000
namespace Mv
open PySem PySem.Spec PyProof.Rows L2
/-! ### the plain side: what a function of slots answers, with a promise behind it -/
universe u
/-- keeps simp out of what comes later -/
structure Hold {α : Sort u} (a : α) : Type where
/-- one way or the other: no way is gone before it is known -/
def Br (b : Bool) (A B : Prop) (_h : Hold A := ⟨⟩) (_h2 : Hold B := ⟨⟩) : Prop := if b = true then A else B
theorem br_t {A B : Prop} : Br true A B ↔ A := Iff.rfl
theorem br_f {A B : Prop} : Br false A B ↔ B := Iff.rfl
theorem br {p : Prop} [Decidable p] {A B : Prop} (h : p → A) (h2 : ¬p → B) : Br (decide p) A B := by
  by_cases hp : p
  · rw [decide_eq_true hp]
    exact h hp
  · rw [decide_eq_false hp]
    exact h2 hp
theorem brn {p : Prop} [Decidable p] {A B : Prop} (h : p → B) (h2 : ¬p → A) : Br (!decide p) A B := by
  by_cases hp : p
  · rw [decide_eq_true hp]
    exact h hp
  · rw [decide_eq_false hp]
    exact h2 hp
theorem brb {b : Bool} {A B : Prop} (h : b = true → A) (h2 : b = false → B) : Br b A B := by
  cases b
  · exact h2 rfl
  · exact h rfl
def O1 {α : Type} (x : Option α) (Q : α → Prop) : Prop := match x with
  | some a => Q a
  | none => False
def O2 {α β : Type} (x : Option (α × β)) (Q : α → β → Prop) : Prop := match x with
  | some p => Q p.1 p.2
  | none => False
theorem O1.ex {α : Type} {x : Option α} {Q : α → Prop} (h : O1 x Q) : ∃ a, x = some a ∧ Q a := by
  cases x with
  | none => exact h.elim
  | some a => exact ⟨a, rfl, h⟩
theorem O2.ex {α β : Type} {x : Option (α × β)} {Q : α → β → Prop} (h : O2 x Q) : ∃ a b, x = some (a, b) ∧ Q a b := by
  cases x with
  | none => exact h.elim
  | some p => exact ⟨p.1, p.2, rfl, h⟩
theorem O1.mono {α : Type} {x : Option α} {Q Q' : α → Prop} (h : O1 x Q) (i : ∀ a, Q a → Q' a) : O1 x Q' := by
  cases x with
  | none => exact h.elim
  | some a => exact i _ h
theorem O2.mono {α β : Type} {x : Option (α × β)} {Q Q' : α → β → Prop} (h : O2 x Q) (i : ∀ a b, Q a b → Q' a b) : O2 x Q' := by
  cases x with
  | none => exact h.elim
  | some p => exact i _ _ h
theorem o1_s {α : Type} {a : α} {Q : α → Prop} : O1 (some a) Q = Q a := rfl
theorem o1_n {α : Type} {Q : α → Prop} : O1 none Q = False := rfl
theorem o2_s {α β : Type} {p : α × β} {Q : α → β → Prop} : O2 (some p) Q = Q p.1 p.2 := rfl
theorem o2_n {α β : Type} {Q : α → β → Prop} : O2 none Q = False := rfl
def We (f : ESem) (env : Env) (Q : O → Env → Prop) (_h : Hold Q := ⟨⟩) : Prop := O2 (f env) Q
def Wt (f : TSem) (env : Env) (Q : Bool → Env → Prop) (_h : Hold Q := ⟨⟩) : Prop := O2 (f env) Q
def Wa (f : ASem) (env : Env) (Q : List O → Env → Prop) (_h : Hold Q := ⟨⟩) : Prop := O2 (f env) Q
def Ws (f : SSem) (env : Env) (Q : Out → Env → Prop) (_h : Hold Q := ⟨⟩) : Prop := O2 (f env) Q
def Wi (f : ISem) (env : Env) (Q : List D → Env → Prop) (_h : Hold Q := ⟨⟩) : Prop := O2 (f env) Q
def Wg (g : GSem) (t : D) (env : Env) (Q : Env → Prop) (_h : Hold Q := ⟨⟩) : Prop := O1 (g t env) Q
def Wgs (g : GsSem) (ts : List D) (env : Env) (Q : Env → Prop) (_h : Hold Q := ⟨⟩) : Prop := O1 (g ts env) Q
def Wd (g : Def) (os : List O) (Q : O → List (Option O) → Prop) (_h : Hold Q := ⟨⟩) : Prop := O2 (g os) Q
def Op1 (g : O → Option O) (a : O) (Q : O → Prop) (_h : Hold Q := ⟨⟩) : Prop := O1 (g a) Q
def Op2 (g : O → O → Option O) (a b : O) (Q : O → Prop) (_h : Hold Q := ⟨⟩) : Prop := O1 (g a b) Q
def OpM (g : O → List O → Option (O × D)) (a : O) (os : List O) (Q : O → D → Prop) (_h : Hold Q := ⟨⟩) : Prop := O2 (g a os) Q
def Sl (env : Env) (i : Nat) (Q : O → Prop) (_h : Hold Q := ⟨⟩) : Prop := O1 (env[i]?).join Q
def Fr (o : O) (Q : D → Prop) (_h : Hold Q := ⟨⟩) : Prop := O1 o.frz Q
def Ok (ok : Bool) (o : O) : Prop := (ok || o.isLeaf) = true
def Bl (o : O) (Q : Bool → Prop) (_h : Hold Q := ⟨⟩) : Prop := match o with
  | .leaf (.bool b) => Q b
  | _ => False
def Il (o : O) (Q : Int → Prop) (_h : Hold Q := ⟨⟩) : Prop := match o with
  | .leaf (.int b) => Q b
  | _ => False
def Le (o : O) (Q : D → Prop) (_h : Hold Q := ⟨⟩) : Prop := match o with
  | .leaf b => Q b
  | _ => False
def Lv (os : List O) (Q : List D → Prop) (_h : Hold Q := ⟨⟩) : Prop := O1 (leavesL os) fun ts => ts.length ≤ 1000 ∧ Q ts
def Gp (o : O) (p : Pth) (Q : O → Prop) (_h : Hold Q := ⟨⟩) : Prop := O1 (getP o p) Q
def Wc (args : List Arg) (env : Env) (Q : List Item → Env → Prop) (_h : Hold Q := ⟨⟩) : Prop := O2 (evA args env) Q
def Cl (env : Env) (is : List Item) (Q : List O → Prop) (_h : Hold Q := ⟨⟩) : Prop := O1 (collect env is) Q
def Sa (is : List Nat) (os : List O) (e : Env) (Q : Env → Prop) (_h : Hold Q := ⟨⟩) : Prop := O1 (setAll is os e) Q
def Itm (o : O) (Q : List D → Prop) (_h : Hold Q := ⟨⟩) : Prop := O1 (itemsO o) Q
def Rg1 (os : List O) (Q : List D → Prop) (_h : Hold Q := ⟨⟩) : Prop := match os with
  | [.leaf (.int n)] => (-(2 ^ 62) ≤ n ∧ n < 2 ^ 62) ∧ Q (rangeD 0 n.toNat)
  | _ => False
def Rg2 (os : List O) (Q : List D → Prop) (_h : Hold Q := ⟨⟩) : Prop := match os with
  | [.leaf (.int i), .leaf (.int j)] => ((-(2 ^ 62) ≤ i ∧ i < 2 ^ 62) ∧ -(2 ^ 62) ≤ j ∧ j < 2 ^ 62) ∧ Q (rangeD i (j - i).toNat)
  | _ => False
section
variable {env : Env} {i n : Nat} {f f1 f2 f3 : ESem} {c c1 c2 : TSem} {t d : D} {m ok : Bool}
theorem sl_0 {o : O} {r : Env} {Q : O → Prop} : Sl (some o :: r) 0 Q ↔ Q o := Iff.rfl
theorem sl_s {o : Option O} {r : Env} {Q : O → Prop} : Sl (o :: r) (n + 1) Q ↔ Sl r n Q := by simp [Sl]
theorem w_cst {Q : O → Env → Prop} : We (cstE t) env Q ↔ Q (.leaf t) env := Iff.rfl
theorem w_var {Q : O → Env → Prop} : We (varE i) env Q ↔ Sl env i fun o => Q o env := by
  unfold We varE Sl
  cases h : env[i]? with
  | none => rfl
  | some o => cases o <;> rfl
theorem w_mv {Q : O → Env → Prop} : We (mvE i) env Q ↔ Sl env i fun o => Q o (env.set i none) := by
  unfold We mvE Sl
  cases h : env[i]? with
  | none => rfl
  | some o => cases o <;> rfl
theorem fr_leaf {Q : D → Prop} : Fr (.leaf t) Q ↔ Q t := Iff.rfl
theorem fr_ls {ts : List D} {Q : D → Prop} : Fr (.ls ts) Q ↔ Q (.list ts) := Iff.rfl
theorem w_fz {Q : O → Env → Prop} : We (fzE i) env Q ↔ Sl env i fun o => Fr o fun t => Q (.leaf t) (env.set i (some (.leaf t))) := by
  unfold We fzE Sl Fr
  cases h : env[i]? with
  | none => rfl
  | some o =>
    cases o with
    | none => rfl
    | some o =>
      simp only [Option.join_some, o1_s]
      cases h2 : o.frz <;> rfl
theorem w_frz {Q : O → Env → Prop} : We (frzE f) env Q ↔ We f env fun o e => Fr o fun t => Q (.leaf t) e := by
  unfold We frzE Fr
  cases h : f env with
  | none => rfl
  | some p =>
    simp only [Option.bind_some, o2_s]
    cases h2 : p.1.frz <;> rfl
theorem ok_t {o : O} : Ok true o ↔ True := by simp [Ok]
theorem ok_l : Ok ok (.leaf t) ↔ True := by simp [Ok, O.isLeaf]
theorem w_bin {g : O → O → Option O} {Q : O → Env → Prop} : We (bin ok f1 f2 g) env Q ↔ We f1 env fun a e1 => We f2 e1 fun b e2 => Ok ok a ∧ Op2 g a b fun z => Q z e2 := by
  unfold We bin Op2 Ok
  cases h : f1 env with
  | none => rfl
  | some p =>
    simp only [Option.bind_some, o2_s]
    cases h2 : f2 p.2 with
    | none => rfl
    | some r =>
      simp only [Option.bind_some, o2_s]
      by_cases h3 : (ok || p.1.isLeaf) = true
      · simp only [h3, if_true, true_and]
        cases h4 : g p.1 r.1 <;> rfl
      · simp [h3, o1_n, o2_n]
theorem w_un {g : O → Option O} {Q : O → Env → Prop} : We (un f g) env Q ↔ We f env fun a e1 => Op1 g a fun z => Q z e1 := by
  unfold We un Op1
  cases h : f env with
  | none => rfl
  | some p =>
    simp only [Option.bind_some, o2_s]
    cases h4 : g p.1 <;> rfl
theorem w_binV {g : O → O → Option O} {Q : O → Env → Prop} : We (binV i f2 g) env Q ↔ Sl env i fun _ => We f2 env fun b e2 => Sl e2 i fun a => Op2 g a b fun z => Q z e2 := by
  unfold We binV Op2 Sl
  cases h0 : env[i]? with
  | none => rfl
  | some o =>
    cases o with
    | none => rfl
    | some o =>
      simp only [Option.join_some, o1_s]
      cases h2 : f2 env with
      | none => rfl
      | some p =>
        simp only [Option.bind_some, o2_s]
        cases h3 : p.2[i]? with
        | none => rfl
        | some o =>
          cases o with
          | none => rfl
          | some o =>
            simp only [Option.join_some, o1_s]
            cases h4 : g o p.1 <;> rfl
theorem w_if {Q : O → Env → Prop} : We (ifE c f1 f2) env Q ↔ Wt c env fun b e => Br b (We f1 e Q) (We f2 e Q) := by
  unfold We Wt ifE
  cases h : c env with
  | none => rfl
  | some p =>
    simp only [Option.bind_some, o2_s]
    cases p.1 <;> rfl
theorem bl_b {b : Bool} {Q : Bool → Prop} : Bl (.leaf (.bool b)) Q ↔ Q b := Iff.rfl
theorem il_b {b : Int} {Q : Int → Prop} : Il (.leaf (.int b)) Q ↔ Q b := Iff.rfl
theorem le_l {Q : D → Prop} : Le (.leaf t) Q ↔ Q t := Iff.rfl
theorem w_asB {Q : Bool → Env → Prop} : Wt (asB f) env Q ↔ We f env fun o e => Bl o fun b => Q b e := by
  unfold Wt asB We Bl
  cases h : f env with
  | none => rfl
  | some p =>
    simp only [Option.bind_some, o2_s]
    split <;> rename_i h2
    · first | exact Iff.rfl | (rw [h2]; exact Iff.rfl)
    · cases p with
      | mk o e =>
        cases o with
        | leaf t => cases t <;> first | rfl | exact absurd rfl (h2 _)
        | _ => rfl
theorem w_yes {Q : Bool → Env → Prop} : Wt yesT env Q ↔ Q true env := Iff.rfl
theorem w_not {Q : Bool → Env → Prop} : Wt (notT c) env Q ↔ Wt c env fun b e => Q (!b) e := by
  unfold Wt notT
  cases h : c env <;> rfl
theorem w_and {Q : Bool → Env → Prop} : Wt (andT c1 c2) env Q ↔ Wt c1 env fun b e => Br b (Wt c2 e Q) (Q false e) := by
  unfold Wt andT
  cases h : c1 env with
  | none => rfl
  | some p =>
    simp only [Option.bind_some, o2_s]
    cases p.1 <;> rfl
theorem w_or {Q : Bool → Env → Prop} : Wt (orT c1 c2) env Q ↔ Wt c1 env fun b e => Br b (Q true e) (Wt c2 e Q) := by
  unfold Wt orT
  cases h : c1 env with
  | none => rfl
  | some p =>
    simp only [Option.bind_some, o2_s]
    cases p.1 <;> rfl
theorem w_andE {Q : O → Env → Prop} : We (andE f1 f2) env Q ↔ We f1 env fun o e => Bl o fun b => Br b (We f2 e Q) (Q (.leaf (.bool false)) e) := by
  unfold We andE Bl
  cases h : f1 env with
  | none => rfl
  | some p =>
    obtain ⟨o, e⟩ := p
    simp only [Option.bind_some, o2_s]
    cases o with
    | leaf t =>
      cases t with
      | bool b => cases b <;> rfl
      | _ => rfl
    | _ => rfl
theorem w_orE {Q : O → Env → Prop} : We (orE f1 f2) env Q ↔ We f1 env fun o e => Bl o fun b => Br b (Q (.leaf (.bool true)) e) (We f2 e Q) := by
  unfold We orE Bl
  cases h : f1 env with
  | none => rfl
  | some p =>
    obtain ⟨o, e⟩ := p
    simp only [Option.bind_some, o2_s]
    cases o with
    | leaf t =>
      cases t with
      | bool b => cases b <;> rfl
      | _ => rfl
    | _ => rfl
theorem w_notE {Q : O → Env → Prop} : We (notE f) env Q ↔ We f env fun o e => Bl o fun b => Q (.leaf (.bool !b)) e := by
  unfold We notE Bl
  cases h : f env with
  | none => rfl
  | some p =>
    obtain ⟨o, e⟩ := p
    simp only [Option.bind_some, o2_s]
    cases o with
    | leaf t =>
      cases t with
      | bool b => cases b <;> rfl
      | _ => rfl
    | _ => rfl
theorem w_chain {g g' : O → O → Option O} {Q : O → Env → Prop} : We (chainE f1 f2 f3 g g') env Q ↔ We f1 env fun a e1 => We f2 e1 fun b e2 => (Ok false a ∧ Ok false b) ∧ Op2 g a b fun z => Bl z fun k => Br k (We f3 e2 fun t e3 => Op2 g' b t fun w => Q w e3) (Q (.leaf (.bool false)) e2) := by
  unfold We chainE Op2 Bl Ok Br
  cases h : f1 env with
  | none => rfl
  | some p =>
    simp only [Option.bind_some, o2_s]
    cases h2 : f2 p.2 with
    | none => rfl
    | some r =>
      simp only [Option.bind_some, o2_s, Bool.false_or]
      by_cases h3 : (p.1.isLeaf && r.1.isLeaf) = true
      · have h3' : p.1.isLeaf = true ∧ r.1.isLeaf = true := by simpa using h3
        simp only [h3, h3'.1, h3'.2, if_true, true_and, and_self]
        cases h4 : g p.1 r.1 with
        | none => rfl
        | some z =>
          simp only [Option.bind_some, o1_s]
          cases z with
          | leaf t =>
            cases t with
            | bool b =>
              cases b
              · rfl
              · simp only [if_true]
                cases h5 : f3 r.2 with
                | none => rfl
                | some q =>
                  simp only [Option.bind_some, o2_s]
                  cases h6 : g' r.1 q.1 <;> rfl
            | _ => rfl
          | _ => rfl
      · have h3' : ¬(p.1.isLeaf = true ∧ r.1.isLeaf = true) := by simpa using h3
        simp [h3, h3', o1_n, o2_n]
/-! lists of expressions -/
theorem w_nil {Q : List O → Env → Prop} : Wa nilA env Q ↔ Q [] env := Iff.rfl
theorem w_cons {g : ASem} {Q : List O → Env → Prop} : Wa (consA m f g) env Q ↔ We f env fun o e => Ok m o ∧ Wa g e fun os e2 => Q (o :: os) e2 := by
  unfold Wa We consA Ok
  cases h : f env with
  | none => rfl
  | some p =>
    simp only [Option.bind_some, o2_s]
    by_cases h3 : (m || p.1.isLeaf) = true
    · simp only [h3, if_true, true_and]
      cases h4 : g p.2 <;> rfl
    · simp [h3, o1_n, o2_n]
theorem w_tup {g : ASem} {Q : O → Env → Prop} : We (tupE g) env Q ↔ Wa g env fun os e => Lv os fun ts => Q (.leaf (.tuple ts)) e := by
  unfold Wa We tupE Lv
  cases h : g env with
  | none => rfl
  | some p =>
    simp only [Option.bind_some, o2_s]
    cases h4 : leavesL p.1 with
    | none => rfl
    | some ts => by_cases h5 : ts.length ≤ 1000 <;> simp [h5, o1_s, o2_s, o2_n]
theorem w_lst {g : ASem} {Q : O → Env → Prop} : We (lstE g) env Q ↔ Wa g env fun os e => Lv os fun ts => Q (.ls ts) e := by
  unfold Wa We lstE Lv
  cases h : g env with
  | none => rfl
  | some p =>
    simp only [Option.bind_some, o2_s]
    cases h4 : leavesL p.1 with
    | none => rfl
    | some ts => by_cases h5 : ts.length ≤ 1000 <;> simp [h5, o1_s, o2_s, o2_n]
theorem lv_0 {Q : List D → Prop} : Lv [] Q ↔ Q [] := by simp [Lv, leavesL, O1]
theorem lv_s {os : List O} {Q : List D → Prop} (h : os.length < 1000) : Lv (.leaf t :: os) Q ↔ Lv os fun ts => Q (t :: ts) := by
  unfold Lv
  simp only [leavesL]
  cases h2 : leavesL os with
  | none => exact Iff.rfl
  | some ts =>
    have : ∀ {os : List O} {ts : List D}, leavesL os = some ts → ts.length = os.length := by
      intro os
      induction os with
      | nil => intro ts h; cases h; rfl
      | cons o r ih =>
        intro ts h
        cases o with
        | leaf t =>
          simp only [leavesL, Option.map_eq_some_iff] at h
          obtain ⟨z, h, rfl⟩ := h
          simp [ih h]
        | _ => simp [leavesL] at h
    have hl := this h2
    simp only [Option.map_some, o1_s, List.length_cons]
    have e1 : (ts.length + 1 ≤ 1000) ↔ True := iff_true_intro (by omega)
    have e2 : (ts.length ≤ 1000) ↔ True := iff_true_intro (by omega)
    rw [e1, e2]
/-! places -/
theorem gp_top {o : O} {Q : O → Prop} : Gp o .top Q ↔ Q o := Iff.rfl
theorem w_pl {p : Pth} {Q : O → Env → Prop} : We (plE i p) env Q ↔ Sl env i fun o => Gp o p fun z => Q z env := by
  unfold We plE Sl Gp
  cases h : env[i]? with
  | none => rfl
  | some o =>
    cases o with
    | none => rfl
    | some o =>
      simp only [Option.join_some, o1_s]
      cases h2 : getP o p <;> rfl
theorem w_mut {p : Pth} {fa : ASem} {g : O → List O → Option (O × D)} {Q : O → Env → Prop} : We (mutE i p fa g) env Q ↔ Sl env i fun r0 => Gp r0 p fun o0 => Wa fa env fun os e => Sl e i fun r => Gp r p fun o => (g o0 os).isSome = true ∧ OpM g o os fun z d => Q (.leaf d) (e.set i (some (putP r p z))) := by
  unfold We mutE Sl Gp Wa OpM
  cases h : env[i]? with
  | none => rfl
  | some o =>
    cases o with
    | none => rfl
    | some o =>
      simp only [Option.join_some, o1_s]
      cases h2 : getP o p with
      | none => rfl
      | some o0 =>
        simp only [o1_s]
        cases h3 : fa env with
        | none => rfl
        | some a =>
          simp only [Option.bind_some, o2_s]
          cases h4 : a.2[i]? with
          | none => rfl
          | some r =>
            cases r with
            | none => rfl
            | some r =>
              simp only [Option.join_some, o1_s]
              cases h5 : getP r p with
              | none => rfl
              | some o1 =>
                simp only [Option.bind_some, o1_s]
                by_cases h6 : (g o0 a.1).isSome = true
                · simp only [h6, if_true, true_and]
                  cases h7 : g o1 a.1 <;> rfl
                · simp [h6, o1_n, o2_n]
/-! calls -/
theorem w_c0 {Q : List Item → Env → Prop} : Wc [] env Q ↔ Q [] env := Iff.rfl
theorem w_ce {r : List Arg} {Q : List Item → Env → Prop} : Wc (.e m f :: r) env Q ↔ We f env fun o e => Ok m o ∧ Wc r e fun is e2 => Q (.inl o :: is) e2 := by
  unfold Wc We Ok
  simp only [evA]
  cases h : f env with
  | none => rfl
  | some p =>
    simp only [Option.bind_some, o2_s]
    by_cases h3 : (m || p.1.isLeaf) = true
    · simp only [h3, if_true, true_and]
      cases h4 : evA r p.2 <;> rfl
    · simp [h3, o1_n, o2_n]
theorem w_cv {r : List Arg} {Q : List Item → Env → Prop} : Wc (.v i :: r) env Q ↔ Sl env i fun _ => Wc r env fun is e2 => Q (.inr i :: is) e2 := by
  unfold Wc Sl
  simp only [evA]
  cases h : env[i]? with
  | none => rfl
  | some o =>
    cases o with
    | none => rfl
    | some o =>
      simp only [Option.join_some, o1_s]
      cases h4 : evA r env <;> rfl
theorem cl_0 {Q : List O → Prop} : Cl env [] Q ↔ Q [] := Iff.rfl
theorem cl_e {o : O} {is : List Item} {Q : List O → Prop} : Cl env (.inl o :: is) Q ↔ Cl env is fun os => Q (o :: os) := by
  unfold Cl
  simp only [collect]
  cases h : collect env is <;> rfl
theorem cl_v {is : List Item} {Q : List O → Prop} : Cl env (.inr i :: is) Q ↔ Sl env i fun o => Cl env is fun os => Q (o :: os) := by
  unfold Cl Sl
  simp only [collect]
  cases h : env[i]? with
  | none => rfl
  | some o =>
    cases o with
    | none => rfl
    | some o =>
      simp only [Option.join_some, o1_s]
      cases h4 : collect env is <;> rfl
theorem w_call {g : Def} {args : List Arg} {Q : O → Env → Prop} : We (callF g args) env Q ↔ Wc args env fun is e => Cl e is fun os => (ownIx e is).Nodup ∧ Wd g os fun r os' => Q r (wb is os' e) := by
  unfold We callF Wc Cl Wd
  cases h : evA args env with
  | none => rfl
  | some p =>
    simp only [Option.bind_some, o2_s]
    cases h2 : collect p.2 p.1 with
    | none => rfl
    | some os =>
      simp only [Option.bind_some, o1_s]
      by_cases h3 : (ownIx p.2 p.1).Nodup
      · simp only [h3, if_true, true_and]
        cases h4 : g os <;> rfl
      · simp [h3, o1_n, o2_n]
/-! statements -/
def nxt (g2 : SSem) (Q : Out → Env → Prop) (o : Out) (e : Env) : Prop := match o with
  | .nx => Ws g2 e Q
  | o => Q o e
theorem nxt_nx {g2 : SSem} {Q : Out → Env → Prop} : nxt g2 Q .nx env ↔ Ws g2 env Q := Iff.rfl
theorem nxt_rt {g2 : SSem} {Q : Out → Env → Prop} {o : O} : nxt g2 Q (.rt o) env ↔ Q (.rt o) env := Iff.rfl
theorem nxt_bk {g2 : SSem} {Q : Out → Env → Prop} : nxt g2 Q .bk env ↔ Q .bk env := Iff.rfl
theorem nxt_ct {g2 : SSem} {Q : Out → Env → Prop} : nxt g2 Q .ct env ↔ Q .ct env := Iff.rfl
theorem w_seq {g1 g2 : SSem} {Q : Out → Env → Prop} : Ws (seq g1 g2) env Q ↔ Ws g1 env (nxt g2 Q) := by
  unfold Ws seq nxt
  cases h : g1 env with
  | none => rfl
  | some p =>
    obtain ⟨o, e⟩ := p
    cases o <;> rfl
theorem w_skip {Q : Out → Env → Prop} : Ws skip env Q ↔ Q .nx env := Iff.rfl
theorem w_brk {Q : Out → Env → Prop} : Ws brkS env Q ↔ Q .bk env := Iff.rfl
theorem w_cont {Q : Out → Env → Prop} : Ws contS env Q ↔ Q .ct env := Iff.rfl
theorem w_retN {Q : Out → Env → Prop} : Ws retN env Q ↔ Q (.rt (.leaf .none)) env := Iff.rfl
theorem w_set {Q : Out → Env → Prop} : Ws (setS i m f) env Q ↔ We f env fun o e => Ok m o ∧ Q .nx (e.set i (some o)) := by
  unfold Ws We setS Ok
  cases h : f env with
  | none => rfl
  | some p =>
    simp only [Option.bind_some, o2_s]
    by_cases h3 : (m || p.1.isLeaf) = true <;> simp [h3, o2_s, o2_n]
theorem w_drop {Q : Out → Env → Prop} : Ws (dropS f) env Q ↔ We f env fun o e => Q .nx e := by
  unfold Ws We dropS
  cases h : f env <;> rfl
theorem w_ret {Q : Out → Env → Prop} : Ws (retS m f) env Q ↔ We f env fun o e => Ok m o ∧ Q (.rt o) e := by
  unfold Ws We retS Ok
  cases h : f env with
  | none => rfl
  | some p =>
    simp only [Option.bind_some, o2_s]
    by_cases h3 : (m || p.1.isLeaf) = true <;> simp [h3, o2_s, o2_n]
theorem w_retV {Q : Out → Env → Prop} : Ws (retV i) env Q ↔ Sl env i fun o => Q (.rt o) (env.set i none) := by
  unfold Ws retV Sl
  cases h : env[i]? with
  | none => rfl
  | some o => cases o <;> rfl
theorem w_ifS {g1 g2 : SSem} {Q : Out → Env → Prop} : Ws (ifS c g1 g2) env Q ↔ Wt c env fun b e => Br b (Ws g1 e Q) (Ws g2 e Q) := by
  unfold Ws Wt ifS
  cases h : c env with
  | none => rfl
  | some p =>
    simp only [Option.bind_some, o2_s]
    cases p.1 <;> rfl
theorem w_fzS {g : SSem} {Q : Out → Env → Prop} : Ws (fzS i g) env Q ↔ Sl env i fun o => Fr o fun t => Ws g (env.set i (some (.leaf t))) Q := by
  unfold Ws fzS Sl Fr
  cases h : env[i]? with
  | none => rfl
  | some o =>
    cases o with
    | none => rfl
    | some o =>
      simp only [Option.join_some, o1_s]
      cases h2 : o.frz <;> rfl
theorem w_asg {g : GSem} {Q : Out → Env → Prop} : Ws (asgS g f) env Q ↔ We f env fun o e => Le o fun t => Wg g t e fun e2 => Q .nx e2 := by
  unfold Ws We asgS Wg Le
  cases h : f env with
  | none => rfl
  | some p =>
    obtain ⟨o, e⟩ := p
    simp only [Option.bind_some, o2_s]
    cases o with
    | leaf t =>
      dsimp only
      cases h2 : g t e <;> rfl
    | _ => rfl
theorem w_gN {Q : Env → Prop} : Wg (gN i) t env Q ↔ Q (env.set i (some (.leaf t))) := Iff.rfl
theorem w_gT {gs : GsSem} {ts : List D} {Q : Env → Prop} : Wg (gT n gs) (.tuple ts) env Q ↔ ts.length = n ∧ Wgs gs ts env Q := by
  unfold Wg gT Wgs
  by_cases h : ts.length = n <;> simp [h, o1_n]
theorem w_gNl {Q : Env → Prop} : Wgs gNl [] env Q ↔ Q env := Iff.rfl
theorem w_gCn {g : GSem} {gs : GsSem} {ts : List D} {Q : Env → Prop} : Wgs (gCn g gs) (t :: ts) env Q ↔ Wg g t env fun e => Wgs gs ts e Q := by
  unfold Wgs Wg gCn
  dsimp only
  cases h : g t env <;> rfl
def Op3 (g : O → O → D → Option O) (o a : O) (t : D) (Q : O → Prop) (_h : Hold Q := ⟨⟩) : Prop := O1 (g o a t) Q
theorem w_gSub {p : Pth} {fi : ESem} {g : O → O → D → Option O} {Q : Env → Prop} : Wg (gSubP i p fi g) t env Q ↔ Sl env i fun r => Gp r p fun o => We fi env fun a _ => Op3 g o a t fun o' => Q (env.set i (some (putP r p o'))) := by
  unfold Wg gSubP Sl Gp We Op3
  cases h : env[i]? with
  | none => rfl
  | some o =>
    cases o with
    | none => rfl
    | some o =>
      simp only [Option.join_some, o1_s]
      cases h2 : getP o p with
      | none => rfl
      | some z =>
        simp only [Option.bind_some, o1_s]
        cases h3 : fi env with
        | none => rfl
        | some a =>
          simp only [Option.bind_some, o2_s]
          cases h4 : g z a.1 t <;> rfl
theorem w_par {is : List Nat} {g : ASem} {Q : Out → Env → Prop} : Ws (parS is g) env Q ↔ Wa g env fun os e => Sa is os e fun e2 => Q .nx e2 := by
  unfold Ws Wa parS Sa
  cases h : g env with
  | none => rfl
  | some p =>
    simp only [Option.bind_some, o2_s]
    cases h2 : setAll is p.1 p.2 <;> rfl
theorem sa_0 {Q : Env → Prop} : Sa [] [] env Q ↔ Q env := Iff.rfl
theorem sa_s {is : List Nat} {o : O} {os : List O} {Q : Env → Prop} : Sa (i :: is) (o :: os) env Q ↔ Sa is os (env.set i (some o)) Q := Iff.rfl
theorem w_aug {g : O → O → Option O} {Q : Out → Env → Prop} : Ws (augS i f g) env Q ↔ Sl env i fun o => Ok false o ∧ We f env fun a e => Op2 g o a fun z => Ok false z ∧ Q .nx (e.set i (some z)) := by
  unfold Ws augS Sl We Op2 Ok
  cases h : env[i]? with
  | none => rfl
  | some o =>
    cases o with
    | none => rfl
    | some o =>
      simp only [Option.join_some, o1_s, Bool.false_or]
      by_cases h1 : o.isLeaf = true
      · simp only [h1, if_true, true_and]
        cases h2 : f env with
        | none => rfl
        | some a =>
          simp only [Option.bind_some, o2_s]
          cases h3 : g o a.1 with
          | none => rfl
          | some z => by_cases h4 : z.isLeaf = true <;> simp [h4, o1_s, o2_s, o2_n]
      · simp [h1, o1_n, o2_n]
/-! slices -/
theorem w_int {Q : O → Env → Prop} : We (intE f) env Q ↔ We f env fun o e => Il o fun i => Q (.leaf (.int i)) e := by
  unfold We intE Il
  cases h : f env with
  | none => rfl
  | some p =>
    obtain ⟨o, e⟩ := p
    simp only [Option.bind_some, o2_s]
    cases o with
    | leaf t => cases t <;> rfl
    | _ => rfl
def Slc (o l h : O) (Q : O → Prop) (_h : Hold Q := ⟨⟩) : Prop := O1 (optI l) fun lo => O1 (optI h) fun hi => O1 (oSl o lo hi) Q
theorem w_slice {fl fh : ESem} {Q : O → Env → Prop} : We (sliceE ok f fl fh) env Q ↔ We f env fun o e => We fl e fun l e2 => We fh e2 fun h e3 => Ok ok o ∧ Slc o l h fun z => Q z e3 := by
  unfold We sliceE Ok Slc
  cases h : f env with
  | none => rfl
  | some p =>
    simp only [Option.bind_some, o2_s]
    cases h2 : fl p.2 with
    | none => rfl
    | some l =>
      simp only [Option.bind_some, o2_s]
      cases h3 : fh l.2 with
      | none => rfl
      | some hh =>
        simp only [Option.bind_some, o2_s]
        by_cases h4 : (ok || p.1.isLeaf) = true
        · simp only [h4, if_true, true_and]
          cases h5 : optI l.1 with
          | none => rfl
          | some lo =>
            cases h6 : optI hh.1 with
            | none => rfl
            | some hi =>
              simp only [Option.bind_some, o1_s]
              cases h7 : oSl p.1 lo hi <;> rfl
        · simp [h4, o1_n, o2_n]
/-! sources -/
theorem rg1_i {n : Int} {Q : List D → Prop} : Rg1 [.leaf (.int n)] Q ↔ (-(2 ^ 62) ≤ n ∧ n < 2 ^ 62) ∧ Q (rangeD 0 n.toNat) := Iff.rfl
theorem rg2_i {i j : Int} {Q : List D → Prop} : Rg2 [.leaf (.int i), .leaf (.int j)] Q ↔ ((-(2 ^ 62) ≤ i ∧ i < 2 ^ 62) ∧ -(2 ^ 62) ≤ j ∧ j < 2 ^ 62) ∧ Q (rangeD i (j - i).toNat) := Iff.rfl
theorem w_rng1 {g : ASem} {Q : List D → Env → Prop} : Wi (rng1 g) env Q ↔ Wa g env fun os e => Rg1 os fun ts => Q ts e := by
  unfold Wi Wa rng1 Rg1
  cases h : g env with
  | none => rfl
  | some p =>
    obtain ⟨os, e⟩ := p
    simp only [Option.bind_some, o2_s]
    split
    · rename_i n
      by_cases hb : -(2 ^ 62) ≤ n ∧ n < 2 ^ 62
      · simp only [hb, and_self, if_true, true_and]
        rfl
      · rw [if_neg hb]
        exact ⟨fun z => z.elim, fun z => absurd z.1 hb⟩
    · rename_i hz
      first
        | exact Iff.rfl
        | (split
           · rename_i n
             exact absurd rfl (hz n)
           · rfl)
theorem w_rng2 {g : ASem} {Q : List D → Env → Prop} : Wi (rng2 g) env Q ↔ Wa g env fun os e => Rg2 os fun ts => Q ts e := by
  unfold Wi Wa rng2 Rg2
  cases h : g env with
  | none => rfl
  | some p =>
    obtain ⟨os, e⟩ := p
    simp only [Option.bind_some, o2_s]
    split
    · rename_i i j
      by_cases hb : (-(2 ^ 62) ≤ i ∧ i < 2 ^ 62) ∧ -(2 ^ 62) ≤ j ∧ j < 2 ^ 62
      · simp only [hb, and_self, if_true, true_and]
        rfl
      · rw [if_neg hb]
        exact ⟨fun z => z.elim, fun z => absurd z.1 hb⟩
    · rename_i hz
      first
        | exact Iff.rfl
        | (split
           · rename_i i j
             exact absurd rfl (hz i j)
           · rfl)
theorem itm_l {ts : List D} {Q : List D → Prop} : Itm (.leaf (.list ts)) Q ↔ Q ts := Iff.rfl
theorem itm_t {ts : List D} {Q : List D → Prop} : Itm (.leaf (.tuple ts)) Q ↔ Q ts := Iff.rfl
theorem itm_o {ts : List D} {Q : List D → Prop} : Itm (.ls ts) Q ↔ Q ts := Iff.rfl
theorem w_seqI {Q : List D → Env → Prop} : Wi (seqI m f) env Q ↔ We f env fun o e => Ok m o ∧ Itm o fun ts => Q ts e := by
  unfold Wi We seqI Ok Itm
  cases h : f env with
  | none => rfl
  | some p =>
    simp only [Option.bind_some, o2_s]
    by_cases h3 : (m || p.1.isLeaf) = true
    · simp only [h3, if_true, true_and]
      cases h4 : itemsO p.1 <;> rfl
    · simp [h3, o1_n, o2_n]
/-! defs -/
def finR : List Nat → Nat → List O → Env → Nat → List (Option O)
  | _, _, _, _, 0 => []
  | rb, k, os, env, n + 1 => (if rb.contains k then os.head? else env.head?.join) :: finR rb (k + 1) os.tail env.tail n
theorem finR_eq : ∀ {n k : Nat} {rb : List Nat} {os : List O} {env : Env}, finR rb k os env n = (List.range n).map fun j => if rb.contains (k + j) then os[j]? else (env[j]?).join
  | 0, _, _, _, _ => rfl
  | n + 1, k, rb, os, env => by
    rw [finR, finR_eq, List.range_succ_eq_map, List.map_cons, List.map_map]
    congr 1
    · cases os <;> cases env <;> simp
    · apply List.map_congr_left
      intro j _
      simp only [Function.comp_apply, Nat.add_assoc, Nat.add_comm 1 j, List.getElem?_tail]
theorem finP_eq {rb : List Nat} {os : List O} {env : Env} {n : Nat} : finP rb os env n = finR rb 0 os env n := by
  rw [finR_eq]
  unfold finP
  simp
def fin (n : Nat) (rb : List Nat) (os : List O) (Q : O → List (Option O) → Prop) (o : Out) (e : Env) : Prop := match o with
  | .rt r => Q r (finR rb 0 os e n)
  | .nx => Q (.leaf .none) (finR rb 0 os e n)
  | _ => False
theorem fin_rt {rb : List Nat} {os : List O} {Q : O → List (Option O) → Prop} {r : O} : fin n rb os Q (.rt r) env ↔ Q r (finR rb 0 os env n) := Iff.rfl
theorem fin_nx {rb : List Nat} {os : List O} {Q : O → List (Option O) → Prop} : fin n rb os Q .nx env ↔ Q (.leaf .none) (finR rb 0 os env n) := Iff.rfl
theorem w_def {size : Nat} {rb : List Nat} {body : SSem} {os : List O} {Q : O → List (Option O) → Prop} : Wd (runDef n size rb body) os Q ↔ (os.length = n ∧ (rb.all fun k => match os[k]? with | some o => o.isLeaf | none => true) = true) ∧ Ws body (os.map some ++ List.replicate (size - n) none) (fin n rb os Q) := by
  unfold Wd runDef
  split
  · rename_i h
    refine Iff.trans ?_ (and_iff_right h).symm
    unfold Ws fin
    cases h2 : body (os.map some ++ List.replicate (size - n) none) with
    | none => exact Iff.rfl
    | some p =>
      obtain ⟨o, e⟩ := p
      cases o <;> simp only [finP_eq, o2_s, o2_n, Option.bind_some]
  · rename_i h
    exact ⟨fun z => z.elim, fun z => absurd z.1 h⟩
end
end Mv

set_option Elab.async false
set_option linter.all false
set_option maxRecDepth 100000
set_option maxHeartbeats 2000000
namespace Mv
open PySem PySem.Spec PyProof.Rows L2
/-! ### the operators on numbers -/
def MulOk (i j : Int) : Prop := (Builtin.Int.intBits i : Int) + (Builtin.Int.intBits j : Int) ≤ 134217728
def DivOk (j : Int) : Prop := 0 < j ∧ j.natAbs.log2 < 9000
theorem bits_of {i : Int} {n : Nat} (h : i.natAbs < 2 ^ n) : Builtin.Int.intBits i ≤ n := PySem.intBits_le_iff.mpr h
theorem lb_bits {i : Int} (h : -1000000000000000000000000000000000000000000000000000000000000 < i) (h2 : i < 1000000000000000000000000000000000000000000000000000000000000) : Builtin.Int.intBits i ≤ 240 := bits_of (by
  have e : (2 : Nat) ^ 240 = 1766847064778384329583297500742918515827483896875618958121606201292619776 := by decide
  rw [e]
  omega)
theorem mulOk {i j : Int} (h : -1000000000000000000000000000000000000000000000000000000000000 < i) (h2 : i < 1000000000000000000000000000000000000000000000000000000000000) (h3 : -1000000000000000000000000000000000000000000000000000000000000 < j) (h4 : j < 1000000000000000000000000000000000000000000000000000000000000) : MulOk i j := by
  have := lb_bits h h2
  have := lb_bits h3 h4
  unfold MulOk
  omega
theorem divOk {j : Int} (h : 0 < j) (h2 : j < 1000000000000000000000000000000000000000000000000000000000000) : DivOk j := by
  refine ⟨h, ?_⟩
  have := lb_bits (Int.lt_trans (by decide) h) h2
  unfold Builtin.Int.intBits at this
  rw [if_neg (by simp; omega)] at this
  omega
section
variable {i j : Int} {Q : O → Prop}
theorem p_sub : Op2 (vw2 subI) (.leaf (.int i)) (.leaf (.int j)) Q ↔ Q (.leaf (.int (i - j))) := Iff.rfl
theorem p_add : Op2 oAdd (.leaf (.int i)) (.leaf (.int j)) Q ↔ Q (.leaf (.int (i + j))) := Iff.rfl
theorem p_ipadd : Op2 (vw2 addII) (.leaf (.int i)) (.leaf (.int j)) Q ↔ Q (.leaf (.int (i + j))) := Iff.rfl
theorem o1_if {α : Type} {p : Prop} [Decidable p] {a : α} {Q : α → Prop} : O1 (if p then some a else none) Q ↔ p ∧ Q a := by
  by_cases h : p
  · rw [if_pos h]
    exact (and_iff_right h).symm
  · rw [if_neg h]
    exact ⟨fun z => z.elim, fun z => absurd z.1 h⟩
theorem o1_ifF {p : Prop} [Decidable p] {a : D} {Q : O → Prop} (hf : flatD a = true) : O1 ((if p then some a else none).bind fun z => if flatD z = true then some (O.leaf z) else none) Q ↔ p ∧ Q (.leaf a) := by
  by_cases h : p
  · rw [if_pos h, Option.bind_some, if_pos hf]
    exact (and_iff_right h).symm
  · rw [if_neg h]
    exact ⟨fun z => z.elim, fun z => absurd z.1 h⟩
theorem p_mul : Op2 (vw2 mulI) (.leaf (.int i)) (.leaf (.int j)) Q ↔ MulOk i j ∧ Q (.leaf (.int (i * j))) := o1_ifF (a := .int (i * j)) rfl
theorem p_div : Op2 (vw2 divI) (.leaf (.int i)) (.leaf (.int j)) Q ↔ DivOk j ∧ Q (.leaf (.int (i / j))) := o1_ifF (a := .int (i / j)) rfl
theorem p_mod : Op2 (vw2 modI) (.leaf (.int i)) (.leaf (.int j)) Q ↔ 0 < j ∧ Q (.leaf (.int (i % j))) := o1_ifF (a := .int (i % j)) rfl
theorem p_pow : Op2 (vw2 powI) (.leaf (.int i)) (.leaf (.int j)) Q ↔ (0 ≤ j ∧ j ≤ 1000000 ∧ i.natAbs < 2 ^ 64) ∧ Q (.leaf (.int (i ^ j.toNat))) := o1_ifF (a := .int (i ^ j.toNat)) rfl
theorem p_neg : Op1 (vw1 negI) (.leaf (.int i)) Q ↔ Q (.leaf (.int (-i))) := Iff.rfl
theorem p_eq : Op2 (vw2 (eqI false)) (.leaf (.int i)) (.leaf (.int j)) Q ↔ Q (.leaf (.bool (decide (i = j)))) := by
  show Q (.leaf (.bool (PyData.eqv (.int i) (.int j)))) ↔ _
  have : PyData.eqv (.int i) (.int j) = decide (i = j) := by
    show (i == j) = _
    by_cases h : i = j
    · subst h; simp
    · simp [h]
  rw [this]
theorem p_ne : Op2 (vw2 (eqI true)) (.leaf (.int i)) (.leaf (.int j)) Q ↔ Q (.leaf (.bool (!decide (i = j)))) := by
  show Q (.leaf (.bool (!PyData.eqv (.int i) (.int j)))) ↔ _
  have : PyData.eqv (.int i) (.int j) = decide (i = j) := by
    show (i == j) = _
    by_cases h : i = j
    · subst h; simp
    · simp [h]
  rw [this]
theorem p_lt : Op2 (vw2 (ordI .lt)) (.leaf (.int i)) (.leaf (.int j)) Q ↔ Q (.leaf (.bool (decide (i < j)))) := by
  show Q (.leaf (.bool (PySem.W.dataLt (.int i) (.int j)))) ↔ _
  rw [PySem.W.dataLt_int]
theorem p_gt : Op2 (vw2 (ordI .gt)) (.leaf (.int i)) (.leaf (.int j)) Q ↔ Q (.leaf (.bool (decide (j < i)))) := by
  show Q (.leaf (.bool (PySem.W.dataLt (.int j) (.int i)))) ↔ _
  rw [PySem.W.dataLt_int]
theorem p_le : Op2 (vw2 (ordI .le)) (.leaf (.int i)) (.leaf (.int j)) Q ↔ Q (.leaf (.bool (decide (i ≤ j)))) := by
  show Q (.leaf (.bool (!PySem.W.dataLt (.int j) (.int i)))) ↔ _
  rw [PySem.W.dataLt_int]
  have : (!decide (j < i)) = decide (i ≤ j) := by
    by_cases h : i ≤ j
    · rw [decide_eq_true h, decide_eq_false (by omega)]; rfl
    · rw [decide_eq_false h, decide_eq_true (by omega)]; rfl
  rw [this]
theorem p_ge : Op2 (vw2 (ordI .ge)) (.leaf (.int i)) (.leaf (.int j)) Q ↔ Q (.leaf (.bool (decide (j ≤ i)))) := by
  show Q (.leaf (.bool (!PySem.W.dataLt (.int i) (.int j)))) ↔ _
  rw [PySem.W.dataLt_int]
  have : (!decide (i < j)) = decide (j ≤ i) := by
    by_cases h : j ≤ i
    · rw [decide_eq_true h, decide_eq_false (by omega)]; rfl
    · rw [decide_eq_false h, decide_eq_true (by omega)]; rfl
  rw [this]
theorem p_max : Op2 (vw2 max2I) (.leaf (.int i)) (.leaf (.int j)) Q ↔ Q (.leaf (.int (max i j))) := by
  show Q (.leaf (.int (if j > i then j else i))) ↔ _
  have : (if j > i then j else i) = max i j := by split <;> omega
  rw [this]
theorem p_min : Op2 (vw2 min2I) (.leaf (.int i)) (.leaf (.int j)) Q ↔ Q (.leaf (.int (min i j))) := by
  show Q (.leaf (.int (if j < i then j else i))) ↔ _
  have : (if j < i then j else i) = min i j := by split <;> omega
  rw [this]
theorem p_abs : Op1 (vw1 absI) (.leaf (.int i)) Q ↔ Q (.leaf (.int (if i < 0 then -i else i))) := Iff.rfl
theorem p_intI : Op1 (vw1 intI) (.leaf (.int i)) Q ↔ Q (.leaf (.int i)) := Iff.rfl
theorem p_intB {b : Bool} : Op1 (vw1 intI) (.leaf (.bool b)) Q ↔ Q (.leaf (.int (if b then 1 else 0))) := Iff.rfl
theorem p_isaI : Op1 (vw1 (isaI .int)) (.leaf (.int i)) Q ↔ Q (.leaf (.bool true)) := Iff.rfl
theorem p_isaB : Op1 (vw1 (isaI .bool)) (.leaf (.int i)) Q ↔ Q (.leaf (.bool false)) := Iff.rfl
theorem p_isaNI : Op1 (vw1 (isaI .int)) (.leaf .none) Q ↔ Q (.leaf (.bool false)) := Iff.rfl
theorem p_isNI {neg : Bool} : Op2 (vw2 (isNI neg)) (.leaf (.int i)) (.leaf .none) Q ↔ Q (.leaf (.bool neg)) := by
  cases neg <;> exact Iff.rfl
theorem p_isNN {neg : Bool} : Op2 (vw2 (isNI neg)) (.leaf .none) (.leaf .none) Q ↔ Q (.leaf (.bool !neg)) := by
  cases neg <;> exact Iff.rfl
theorem p_divmod : Op2 oDivmod (.leaf (.int i)) (.leaf (.int j)) Q ↔ DivOk j ∧ Q (.leaf (.tuple [.int (i / j), .int (i % j)])) := o1_if
/-! lists -/
variable {ts us : List D}
theorem p_catL : Op2 oAdd (.ls ts) (.ls us) Q ↔ ts.length + us.length ≤ sizeLine ∧ Q (.ls (ts ++ us)) := by
  by_cases h : ts.length + us.length ≤ sizeLine <;> simp [Op2, oAdd, vw2, O.frz, addI, catL, catT, lstO, tupO, h, O1]
theorem p_catLl : Op2 oAdd (.leaf (.list ts)) (.ls us) Q ↔ ts.length + us.length ≤ sizeLine ∧ Q (.ls (ts ++ us)) := by
  by_cases h : ts.length + us.length ≤ sizeLine <;> simp [Op2, oAdd, vw2, O.frz, addI, catL, catT, lstO, tupO, h, O1]
theorem p_catlL : Op2 oAdd (.ls ts) (.leaf (.list us)) Q ↔ ts.length + us.length ≤ sizeLine ∧ Q (.ls (ts ++ us)) := by
  by_cases h : ts.length + us.length ≤ sizeLine <;> simp [Op2, oAdd, vw2, O.frz, addI, catL, catT, lstO, tupO, h, O1]
theorem p_catll : Op2 oAdd (.leaf (.list ts)) (.leaf (.list us)) Q ↔ ts.length + us.length ≤ sizeLine ∧ Q (.ls (ts ++ us)) := by
  by_cases h : ts.length + us.length ≤ sizeLine <;> simp [Op2, oAdd, vw2, O.frz, addI, catL, catT, lstO, tupO, h, O1]
theorem p_len : Op1 oLen (.ls ts) Q ↔ Q (.leaf (.int ts.length)) := Iff.rfl
theorem p_lenl : Op1 oLen (.leaf (.list ts)) Q ↔ Q (.leaf (.int ts.length)) := Iff.rfl
theorem p_lent : Op1 oLen (.leaf (.tuple ts)) Q ↔ Q (.leaf (.int ts.length)) := Iff.rfl
theorem p_list : Op1 oList (.ls ts) Q ↔ Q (.ls ts) := Iff.rfl
theorem p_listl : Op1 oList (.leaf (.list ts)) Q ↔ Q (.ls ts) := Iff.rfl
theorem p_listt : Op1 oList (.leaf (.tuple ts)) Q ↔ Q (.ls ts) := Iff.rfl
theorem p_tuple : Op1 oTuple (.ls ts) Q ↔ Q (.leaf (.tuple ts)) := Iff.rfl
theorem p_tuplel : Op1 oTuple (.leaf (.list ts)) Q ↔ Q (.leaf (.tuple ts)) := Iff.rfl
theorem p_tuplet : Op1 oTuple (.leaf (.tuple ts)) Q ↔ Q (.leaf (.tuple ts)) := Iff.rfl
theorem p_rev : Op1 revO (.ls ts) Q ↔ Q (.ls ts.reverse) := Iff.rfl
theorem p_revl : Op1 revO (.leaf (.list ts)) Q ↔ Q (.ls ts.reverse) := Iff.rfl
def At (ts : List D) (i : Int) (Q : D → Prop) (_h : Hold Q := ⟨⟩) : Prop := O1 (atI ts i) Q
theorem p_ix : Op2 oIx (.ls ts) (.leaf (.int i)) Q ↔ At ts i fun d => Q (.leaf d) := by
  unfold Op2 oIx At
  simp only [seqO, lstO, tupO, Option.or_none, Option.bind_some, strIx]
  cases atI ts i <;> simp [O1]
theorem p_ixl : Op2 oIx (.leaf (.list ts)) (.leaf (.int i)) Q ↔ At ts i fun d => Q (.leaf d) := by
  unfold Op2 oIx At
  simp only [seqO, lstO, tupO, Option.or_none, Option.bind_some, strIx]
  cases atI ts i <;> simp [O1]
theorem p_ixt : Op2 oIx (.leaf (.tuple ts)) (.leaf (.int i)) Q ↔ At ts i fun d => Q (.leaf d) := by
  unfold Op2 oIx At
  simp only [seqO, lstO, tupO, Option.none_or, Option.bind_some, strIx]
  cases atI ts i <;> simp [O1]
theorem at_nat {i : Nat} {P : D → Prop} : At ts (i : Int) P ↔ O1 ts[i]? P := by
  unfold At atI
  by_cases h : i < ts.length
  · have : ixN ts.length (i : Int) = some i := by
      unfold ixN
      split <;> simp_all <;> omega
    rw [this]
    rfl
  · rw [List.getElem?_eq_none (by omega)]
    have : ixN ts.length (i : Int) = none := by
      unfold ixN
      split <;> simp_all <;> omega
    rw [this]
    rfl
theorem at_int {P : D → Prop} (h : 0 ≤ i) : At ts i P ↔ O1 ts[i.toNat]? P := by
  obtain ⟨n, rfl⟩ := Int.eq_ofNat_of_zero_le h
  exact at_nat
theorem p_append {t : D} {P : O → D → Prop} : OpM gAppend (.ls ts) [.leaf t] P ↔ ts.length < 16000000 ∧ P (.ls (ts ++ [t])) .none := by
  by_cases h : ts.length < 16000000 <;> simp [OpM, gAppend, h, O2]
theorem p_reverse {P : O → D → Prop} : OpM gReverse (.ls ts) [] P ↔ P (.ls ts.reverse) .none := Iff.rfl
end
/-! ### comprehensions and loops -/
def Wcl (set : GSem) (cnd : TSem) (elt : ESem) (vs : List Nat) (ts : List D) (e : Env) (Q : List D → Env → Prop) (_h : Hold Q := ⟨⟩) : Prop := O2 (compL set cnd elt vs ts e) Q
def Wf (set : GSem) (body : SSem) (ts : List D) (e : Env) (Q : Out → Env → Prop) (_h : Hold Q := ⟨⟩) : Prop := O2 (forL set body ts e) Q
section
variable {set : GSem} {cnd : TSem} {elt : ESem} {vs : List Nat} {src : ISem} {body : SSem} {env : Env}
theorem w_comp {Q : O → Env → Prop} : We (compE src set cnd elt vs) env Q ↔ Wi src env fun ts e => ts.length ≤ 16000000 ∧ Wcl set cnd elt vs ts (wipeE e vs) fun ds e => Q (.ls ds) e := by
  unfold We compE Wi Wcl
  cases h : src env with
  | none => exact Iff.rfl
  | some p =>
    simp only [Option.bind_some, o2_s]
    by_cases h2 : p.1.length ≤ 16000000
    · rw [if_pos h2]
      refine Iff.trans ?_ (and_iff_right h2).symm
      cases h3 : compL set cnd elt vs p.1 (wipeE p.2 vs) <;> exact Iff.rfl
    · rw [if_neg h2]
      exact ⟨fun z => z.elim, fun z => absurd z.1 h2⟩
theorem wcl_nil {Q : List D → Env → Prop} : Wcl set cnd elt vs [] env Q ↔ Q [] env := Iff.rfl
theorem wcl_cons {t : D} {ts : List D} {Q : List D → Env → Prop} : Wcl set cnd elt vs (t :: ts) env Q ↔ Wg set t env fun e1 => Wt cnd e1 fun b e2 => Br b (We elt e2 fun r e3 => Le r fun d => Wcl set cnd elt vs ts (wipeE e3 vs) (fun ds e => Q (d :: ds) e)) (Wcl set cnd elt vs ts (wipeE e2 vs) Q) := by
  unfold Br
  unfold Wcl Wg Wt We Le
  rw [compL]
  cases h1 : set t env with
  | none => exact Iff.rfl
  | some e1 =>
    simp only [Option.bind_some, o1_s]
    cases h2 : cnd e1 with
    | none => exact Iff.rfl
    | some p =>
      simp only [Option.bind_some, o2_s]
      by_cases h3 : p.1 = true
      · rw [if_pos h3, if_pos h3]
        cases h4 : elt p.2 with
        | none => exact Iff.rfl
        | some r =>
          simp only [Option.bind_some, o2_s]
          cases r.1 with
          | leaf d =>
            simp only
            cases h5 : compL set cnd elt vs ts (wipeE r.2 vs) <;> exact Iff.rfl
          | _ => exact Iff.rfl
      · rw [if_neg h3, if_neg h3]
/-- with a promise kept turn by turn -/
theorem wcl_inv {I : Nat → List D → Env → Prop} {Q : List D → Env → Prop} : ∀ {ts : List D} {k : Nat} {acc : List D} {env : Env},
    (∀ j t acc e, ts[j]? = some t → I (k + j) acc e → Wg set t e fun e1 => Wt cnd e1 fun b e2 => if b = true then We elt e2 fun r e3 => Le r fun d => I (k + j + 1) (acc ++ [d]) (wipeE e3 vs) else I (k + j + 1) acc (wipeE e2 vs)) →
    I k acc env → (∀ ds e, I (k + ts.length) (acc ++ ds) e → Q ds e) → Wcl set cnd elt vs ts env Q
  | [], k, acc, env, hs, h0, hq => hq [] env (by simpa using h0)
  | t :: ts, k, acc, env, hs, h0, hq => by
    rw [wcl_cons]
    unfold Br
    refine O1.mono (hs 0 t acc env rfl h0) fun e1 h1 => O2.mono h1 fun b e2 h2 => ?_
    have rest : ∀ acc' e', I (k + 1) acc' e' → ∀ Q' : List D → Env → Prop, (∀ ds e, I (k + 1 + ts.length) (acc' ++ ds) e → Q' ds e) → Wcl set cnd elt vs ts e' Q' := fun acc' e' h Q' hq' =>
      wcl_inv (I := I) (k := k + 1) (acc := acc') (fun j t acc e ht hi => by
        have e1 : k + 1 + j = k + (j + 1) := by omega
        rw [e1] at hi ⊢
        exact hs (j + 1) t acc e (by simpa using ht) hi) h hq'
    cases b
    · simp only [Bool.false_eq_true, if_false] at h2 ⊢
      exact rest _ _ h2 Q fun ds e h => hq ds e (by simpa [Nat.add_assoc, Nat.add_comm 1] using h)
    · simp only [if_true] at h2 ⊢
      refine O2.mono h2 fun r e3 h3 => ?_
      cases r with
      | leaf d => exact rest _ _ h3 _ fun ds e h => hq (d :: ds) e (by simpa [Nat.add_assoc, Nat.add_comm 1] using h)
      | _ => exact h3.elim
/-- nothing but its own names changes -/
theorem wcl_map {α : Type} {h : α → D} {p : α → Bool} {g : α → D} {e0 : Env} {Q : List D → Env → Prop} : ∀ {as : List α},
    (∀ a ∈ as, Wg set (h a) e0 fun e1 => Wt cnd e1 fun b e2 => b = p a ∧ if p a = true then We elt e2 fun r e3 => r = .leaf (g a) ∧ wipeE e3 vs = e0 else wipeE e2 vs = e0) →
    Q ((as.filter p).map g) e0 → Wcl set cnd elt vs (as.map h) e0 Q
  | [], _, hq => hq
  | a :: as, hs, hq => by
    rw [List.map_cons, wcl_cons]
    unfold Br
    refine O1.mono (hs a List.mem_cons_self) fun e1 h1 => O2.mono h1 fun b e2 ⟨h2, h3⟩ => ?_
    subst h2
    rw [List.filter_cons] at hq
    split
    · rename_i hp
      rw [if_pos hp] at h3 hq
      refine O2.mono h3 fun r e3 ⟨h4, h5⟩ => ?_
      subst h4
      rw [h5]
      exact wcl_map (fun a m => hs a (List.mem_cons_of_mem _ m)) hq
    · rename_i hp
      rw [if_neg hp] at h3 hq
      rw [h3]
      exact wcl_map (fun a m => hs a (List.mem_cons_of_mem _ m)) hq
theorem w_for {Q : Out → Env → Prop} : Ws (forS src set body) env Q ↔ Wi src env fun ts e => Wf set body ts e Q := by
  unfold Ws forS Wi Wf
  cases h : src env <;> exact Iff.rfl
def lpk (N : Env → Prop) (Q : Out → Env → Prop) (o : Out) (e : Env) : Prop := match o with
  | .nx => N e
  | .ct => N e
  | .bk => Q .nx e
  | .rt r => Q (.rt r) e
section
variable {N : Env → Prop} {Q : Out → Env → Prop}
theorem lpk_nx : lpk N Q .nx env ↔ N env := Iff.rfl
theorem lpk_ct : lpk N Q .ct env ↔ N env := Iff.rfl
theorem lpk_bk : lpk N Q .bk env ↔ Q .nx env := Iff.rfl
theorem lpk_rt {r : O} : lpk N Q (.rt r) env ↔ Q (.rt r) env := Iff.rfl
end
theorem wf_nil {Q : Out → Env → Prop} : Wf set body [] env Q ↔ Q .nx env := Iff.rfl
theorem wf_cons {t : D} {ts : List D} {Q : Out → Env → Prop} : Wf set body (t :: ts) env Q ↔ Wg set t env fun e1 => Ws body e1 (lpk (fun e => Wf set body ts e Q) Q) := by
  unfold Wf Wg Ws
  rw [forL]
  cases h1 : set t env with
  | none => exact Iff.rfl
  | some e1 =>
    simp only [Option.bind_some, o1_s]
    cases h2 : body e1 with
    | none => exact Iff.rfl
    | some p =>
      obtain ⟨o, e2⟩ := p
      cases o <;> exact Iff.rfl
theorem wf_inv {I : Nat → Env → Prop} {Q : Out → Env → Prop} : ∀ {ts : List D} {k : Nat} {env : Env},
    (∀ j t e, ts[j]? = some t → I (k + j) e → Wg set t e fun e1 => Ws body e1 (lpk (I (k + j + 1)) Q)) →
    I k env → (∀ e, I (k + ts.length) e → Q .nx e) → Wf set body ts env Q
  | [], k, env, hs, h0, hq => hq env (by simpa using h0)
  | t :: ts, k, env, hs, h0, hq => by
    rw [wf_cons]
    refine O1.mono (hs 0 t env rfl h0) fun e1 h1 => O2.mono h1 fun o e2 h2 => ?_
    have rest : ∀ e', I (k + 1) e' → Wf set body ts e' Q := fun e' h =>
      wf_inv (I := I) (k := k + 1) (fun j t e ht hi => by
        have e1 : k + 1 + j = k + (j + 1) := by omega
        rw [e1] at hi ⊢
        exact hs (j + 1) t e (by simpa using ht) hi) h fun e h => hq e (by simpa [Nat.add_assoc, Nat.add_comm 1] using h)
    cases o with
    | nx => exact rest _ h2
    | ct => exact rest _ h2
    | bk => exact h2
    | rt r => exact h2
end
/-! ### the state of the draws -/
def stO (s : List Int × Int) : O := .dic [(.inr "cells", .ls (s.1.map .int)), (.inr "turn", .leaf (.int s.2))]
/-- a state after at most n draws -/
def St (s : List Int × Int) (n : Int) : Prop := s.1 ≠ [] ∧ s.1.length ≤ 63 ∧ 0 ≤ s.2 ∧ s.2 ≤ n
theorem St.le {s : List Int × Int} {n m : Int} (h : St s n) (l : n ≤ m) : St s m := ⟨h.1, h.2.1, h.2.2.1, Int.le_trans h.2.2.2 l⟩
theorem isl_st {s : List Int × Int} : (stO s).isLeaf = false := rfl
theorem isl_leaf {t : D} : (O.leaf t).isLeaf = true := rfl
theorem isl_ls {ts : List D} : (O.ls ts).isLeaf = false := rfl
theorem key_ne : ¬((Sum.inr ("cells" : Str) : Key) = Sum.inr ("turn" : Str)) := by
  decide +kernel
section
variable {s : List Int × Int}
theorem gp_cells {Q : O → Prop} : Gp (stO s) (.key (.inr "cells")) Q ↔ Q (.ls (s.1.map .int)) := by
  unfold Gp stO getP
  simp only [lookO, if_true]
  exact Iff.rfl
theorem gp_turn {Q : O → Prop} : Gp (stO s) (.key (.inr "turn")) Q ↔ Q (.leaf (.int s.2)) := by
  unfold Gp stO getP
  simp only [lookO, if_true, if_neg key_ne]
  exact Iff.rfl
theorem put_turn {i : Int} {Q : O → Prop} : Op3 gSet (stO s) (.leaf (.str "turn")) (.int i) Q ↔ Q (stO (s.1, i)) := by
  obtain ⟨cs, k⟩ := s
  unfold Op3 gSet stO
  simp only [keyOf, Option.bind_some]
  have h1 : leafAt [((.inr "cells" : Key), O.ls (cs.map PyData.int)), (.inr "turn", .leaf (.int k))] (.inr "turn") = true := by
    simp only [leafAt, List.all_cons, List.all_nil, if_neg key_ne, if_true, O.isLeaf]
    rfl
  rw [h1]
  have h2 : putO [((.inr "cells" : Key), O.ls (cs.map PyData.int)), (.inr "turn", .leaf (.int k))] (.inr "turn") (.leaf (.int i)) = [((.inr "cells" : Key), O.ls (cs.map PyData.int)), (.inr "turn", .leaf (.int i))] := by
    unfold putO
    simp only [List.any_cons, List.any_nil, decide_eq_false key_ne, decide_true, Bool.or_false, Bool.or_true, if_true, List.map_cons, List.map_nil, if_neg key_ne]
  rw [h2]
  simp [O1]
theorem put_cells {ds : List Int} : putP (stO s) (.key (.inr "cells")) (.ls (ds.map .int)) = stO (ds, s.2) := by
  unfold putP stO
  simp only [setK, if_true]
end
theorem putP_top {o o' : O} : putP o .top o' = o' := rfl
theorem at_ints {ns : List Int} {i : Int} {P : D → Prop} (h : 0 ≤ i) (h2 : i < ns.length) (k : ∀ x, ns[i.toNat]? = some x → P (.int x)) : At (ns.map .int) i P := by
  rw [at_int h, List.getElem?_map]
  have : i.toNat < ns.length := by omega
  rw [List.getElem?_eq_getElem this]
  exact k _ (List.getElem?_eq_getElem this)
theorem put_ints {ns : List Int} {i d : Int} {P : O → Prop} (h : 0 ≤ i) (h2 : i < ns.length) (k : P (.ls ((ns.set i.toNat d).map .int))) : Op3 gSet (.ls (ns.map .int)) (.leaf (.int i)) (.int d) P := by
  unfold Op3 gSet
  have : ixN (ns.map PyData.int).length i = some i.toNat := by
    unfold ixN
    rw [List.length_map]
    split <;> simp_all <;> omega
  simp only [this, Option.map_some]
  rw [List.map_set] at k
  exact k
/-! ### what a call leaves in the caller's slots -/
def WbR : List Item → List (Option O) → Env → Env → (Env → Prop) → Prop
  | [], _, _, acc, Q => Q acc
  | .inl _ :: r, os', orig, acc, Q => WbR r os'.tail orig acc Q
  | .inr i :: r, os', orig, acc, Q => WbR r os'.tail orig (if ownAt orig i = true then acc.set i os'.head?.join else acc) Q
def Wb (is : List Item) (os' : List (Option O)) (orig acc : Env) (Q : Env → Prop) (_h : Hold Q := ⟨⟩) : Prop := WbR is os' orig acc Q
theorem wb_0 {os' : List (Option O)} {e acc : Env} {Q : Env → Prop} : Wb [] os' e acc Q ↔ Q acc := Iff.rfl
theorem wb_e {o : O} {x : Option O} {r : List Item} {os' : List (Option O)} {e acc : Env} {Q : Env → Prop} : Wb (.inl o :: r) (x :: os') e acc Q ↔ Wb r os' e acc Q := Iff.rfl
theorem wb_e' {o : O} {r : List Item} {os' : List (Option O)} {e acc : Env} {Q : Env → Prop} : Wb (.inl o :: r) os' e acc Q ↔ Wb r os'.tail e acc Q := Iff.rfl
/-- one's own or frozen -/
def Wo (e : Env) (i : Nat) (A B : Prop) (_h : Hold A := ⟨⟩) (_h2 : Hold B := ⟨⟩) : Prop := if ownAt e i = true then A else B
section
variable {r : Env} {A B : Prop}
theorem wo_leaf {t : D} : Wo (some (.leaf t) :: r) 0 A B ↔ B := Iff.rfl
theorem wo_ls {ts : List D} : Wo (some (.ls ts) :: r) 0 A B ↔ A := Iff.rfl
theorem wo_dic {ts : List (Key × O)} : Wo (some (.dic ts) :: r) 0 A B ↔ A := Iff.rfl
theorem wo_dct {ts : List (List Key × O)} : Wo (some (.dct ts) :: r) 0 A B ↔ A := Iff.rfl
theorem wo_st {s : List Int × Int} : Wo (some (stO s) :: r) 0 A B ↔ A := Iff.rfl
theorem wo_s {o : Option O} {n : Nat} : Wo (o :: r) (n + 1) A B ↔ Wo r n A B := by
  unfold Wo ownAt
  rw [List.getElem?_cons_succ]
end
theorem wb_v {i : Nat} {x : Option O} {r : List Item} {os' : List (Option O)} {e acc : Env} {Q : Env → Prop} : Wb (.inr i :: r) (x :: os') e acc Q ↔ Wo e i (Wb r os' e (acc.set i x) Q) (Wb r os' e acc Q) := by
  unfold Wo Wb
  rw [WbR]
  split <;> cases x <;> exact Iff.rfl
theorem own_0 {o : O} {r : Env} : ownAt (some o :: r) 0 = !o.isLeaf := rfl
theorem own_s {o : Option O} {r : Env} {n : Nat} : ownAt (o :: r) (n + 1) = ownAt r n := by
  unfold ownAt
  rw [List.getElem?_cons_succ]
theorem oi_0 {e : Env} : ownIx e [] = [] := rfl
theorem oi_e {e : Env} {o : O} {r : List Item} : ownIx e (.inl o :: r) = ownIx e r := rfl
theorem oi_v {e : Env} {i : Nat} {r : List Item} : ownIx e (.inr i :: r) = if ownAt e i = true then i :: ownIx e r else ownIx e r := rfl
/-- the pure fold behind Wb -/
def wbF : List Item → List (Option O) → Env → Env → Env
  | [], _, _, acc => acc
  | .inl _ :: r, os', orig, acc => wbF r os'.tail orig acc
  | .inr i :: r, os', orig, acc => wbF r os'.tail orig (if ownAt orig i = true then acc.set i os'.head?.join else acc)
theorem wb_wbF : ∀ {is : List Item} {os' : List (Option O)} {e acc : Env} {Q : Env → Prop}, WbR is os' e acc Q ↔ Q (wbF is os' e acc)
  | [], _, _, _, _ => Iff.rfl
  | .inl _ :: r, os', e, acc, Q => by rw [WbR, wbF]; exact wb_wbF
  | .inr i :: r, os', e, acc, Q => by rw [WbR, wbF]; exact wb_wbF
theorem wbF_len : ∀ {is : List Item} {os' : List (Option O)} {e acc : Env}, (wbF is os' e acc).length = acc.length
  | [], _, _, _ => rfl
  | .inl _ :: r, os', e, acc => by rw [wbF]; exact wbF_len
  | .inr i :: r, os', e, acc => by
    rw [wbF, wbF_len]
    split <;> simp
theorem wbF_off : ∀ {is : List Item} {os' : List (Option O)} {e acc : Env} {j : Nat}, j ∉ ownIx e is → (wbF is os' e acc)[j]? = acc[j]?
  | [], _, _, _, _, _ => rfl
  | .inl _ :: r, os', e, acc, j, h => by rw [wbF]; exact wbF_off h
  | .inr i :: r, os', e, acc, j, h => by
    rw [wbF]
    rw [oi_v] at h
    split
    · rename_i ho
      rw [if_pos ho, List.mem_cons, not_or] at h
      rw [wbF_off h.2, List.getElem?_set_ne (fun z => h.1 z.symm)]
    · rename_i ho
      rw [if_neg ho] at h
      exact wbF_off h
theorem wbF_on : ∀ {is : List Item} {os' : List (Option O)} {e acc : Env} {j k : Nat}, (ownIx e is).Nodup → ownAt e j = true → j < acc.length → is.findIdx? (isV j) = some k → (wbF is os' e acc)[j]? = some (os'[k]?).join
  | [], _, _, _, _, _, _, _, _, h => by simp at h
  | .inl o :: r, os', e, acc, j, k, n, ho, hl, h => by
    rw [wbF]
    rw [List.findIdx?_cons] at h
    simp only [isV, Bool.false_eq_true, if_false, Option.map_eq_some_iff] at h
    obtain ⟨k', h1, rfl⟩ := h
    rw [wbF_on (is := r) n ho hl h1]
    cases os' <;> simp
  | .inr i :: r, os', e, acc, j, k, n, ho, hl, h => by
    rw [wbF]
    rw [oi_v] at n
    rw [List.findIdx?_cons] at h
    by_cases hij : i = j
    · subst hij
      simp only [isV, beq_self_eq_true, if_true, Option.some.injEq] at h
      subst h
      rw [if_pos ho] at n ⊢
      rw [wbF_off (List.nodup_cons.mp n).1, List.getElem?_set_self hl]
      cases os' <;> rfl
    · have hb : (i == j) = false := by simpa using hij
      simp only [isV, hb, Bool.false_eq_true, if_false, Option.map_eq_some_iff] at h
      obtain ⟨k', h1, rfl⟩ := h
      have n' : (ownIx e r).Nodup := by
        split at n
        · exact (List.nodup_cons.mp n).2
        · exact n
      rw [wbF_on n' ho (by split <;> simpa using hl) h1]
      cases os' <;> simp
theorem ownIx_mem : ∀ {is : List Item} {e : Env} {j : Nat}, j ∈ ownIx e is → ownAt e j = true ∧ ∃ k, is.findIdx? (isV j) = some k
  | [], _, _, h => by simp [ownIx] at h
  | .inl o :: r, e, j, h => by
    obtain ⟨h1, k, h2⟩ := ownIx_mem (is := r) h
    exact ⟨h1, k + 1, by rw [List.findIdx?_cons]; simp [isV, h2]⟩
  | .inr i :: r, e, j, h => by
    rw [oi_v] at h
    by_cases hij : i = j
    · subst hij
      refine ⟨?_, 0, by rw [List.findIdx?_cons]; simp [isV]⟩
      split at h
      · assumption
      · exact (ownIx_mem h).1
    · have h' : j ∈ ownIx e r := by
        split at h
        · rcases List.mem_cons.mp h with z | z
          · exact absurd z.symm hij
          · exact z
        · exact h
      obtain ⟨h1, k, h2⟩ := ownIx_mem h'
      exact ⟨h1, k + 1, by rw [List.findIdx?_cons]; simp [isV, h2, hij]⟩
theorem wb_eq {is : List Item} {os' : List (Option O)} {e : Env} (n : (ownIx e is).Nodup) : wb is os' e = wbF is os' e e := by
  apply List.ext_getElem?
  intro j
  unfold wb
  rw [List.getElem?_mapIdx]
  by_cases hj : j ∈ ownIx e is
  · obtain ⟨ho, k, hk⟩ := ownIx_mem hj
    have hl : j < e.length := by
      apply Classical.byContradiction
      intro z
      unfold ownAt at ho
      rw [List.getElem?_eq_none (by omega)] at ho
      cases ho
    rw [wbF_on n ho hl hk, List.getElem?_eq_getElem hl]
    simp only [Option.map_some, posA, ho, if_true, hk]
  · rw [wbF_off hj]
    cases he : e[j]? with
    | none => rfl
    | some o =>
      have : posA is e j = none := by
        cases h : posA is e j with
        | none => rfl
        | some k =>
          obtain ⟨h1, h2⟩ := posA_some h
          exfalso
          apply hj
          have : ∀ {is : List Item} {k : Nat}, is[k]? = some (Sum.inr j : Item) → j ∈ ownIx e is := by
            intro is
            induction is with
            | nil => intro k h; simp at h
            | cons a r ih =>
              intro k h
              cases k with
              | zero =>
                simp only [List.getElem?_cons_zero, Option.some.injEq] at h
                subst h
                rw [oi_v, if_pos h1]
                exact List.mem_cons_self
              | succ k =>
                have := ih (k := k) (by simpa using h)
                cases a with
                | inl o => exact this
                | inr i =>
                  rw [oi_v]
                  split
                  · exact List.mem_cons_of_mem _ this
                  · exact this
          exact this h2
      simp only [Option.map_some, this]
theorem w_call' {g : Def} {args : List Arg} {env : Env} {Q : O → Env → Prop} : We (callF g args) env Q ↔ Wc args env fun is e => Cl e is fun os => (ownIx e is).Nodup ∧ Wd g os fun r os' => Wb is os' e e fun e2 => Q r e2 := by
  rw [w_call]
  refine ⟨fun h => O2.mono h fun is e h => O1.mono h fun os ⟨n, h⟩ => ⟨n, O2.mono h fun r os' h => ?_⟩, fun h => O2.mono h fun is e h => O1.mono h fun os ⟨n, h⟩ => ⟨n, O2.mono h fun r os' h => ?_⟩⟩
  · unfold Wb
    rw [wb_wbF, ← wb_eq n]
    exact h
  · unfold Wb at h
    rw [wb_wbF, ← wb_eq n] at h
    exact h
end Mv

set_option Elab.async false
set_option linter.all false
set_option maxRecDepth 100000
set_option maxHeartbeats 2000000
namespace Mv
open PySem PySem.Spec PyProof.Rows L2
local macro_rules | `(tactic| walk_at "mv") => `(tactic| try simp only [↓w_cst, ↓w_var, ↓w_mv, ↓w_fz, ↓w_frz, ↓w_bin, ↓w_un, ↓w_binV, ↓w_if, ↓w_asB, ↓w_yes, ↓w_not, ↓w_and, ↓w_or, ↓w_andE, ↓w_orE, ↓w_notE, ↓w_chain, ↓w_nil, ↓w_cons, ↓w_tup, ↓w_lst, ↓w_pl, ↓w_mut, ↓w_c0, ↓w_ce, ↓w_cv, ↓w_call', ↓wb_0, ↓wb_e, ↓wb_v, wb_e', ↓wo_leaf, ↓wo_ls, ↓wo_dic, ↓wo_dct, ↓wo_st, ↓wo_s, own_0, own_s, oi_0, oi_e, oi_v, isl_st, isl_leaf, isl_ls, Bool.not_false, Bool.not_true, List.nodup_cons, List.nodup_nil, List.not_mem_nil, not_false_eq_true, ↓w_seq, ↓w_skip, ↓w_brk, ↓w_cont, ↓w_retN, ↓w_set, ↓w_drop, ↓w_ret, ↓w_retV, ↓w_ifS, ↓w_fzS, ↓w_asg, ↓w_gN, ↓w_gT, ↓w_gNl, ↓w_gCn, ↓w_gSub, ↓w_par, ↓w_aug, ↓w_int, ↓w_slice, ↓w_rng1, ↓w_rng2, ↓w_seqI, ↓w_comp, ↓w_for,
  ↓sl_0, ↓sl_s, ↓fr_leaf, ↓fr_ls, ↓ok_t, ↓ok_l, ↓br_t, ↓br_f, decide_true, decide_false, Int.reduceEq, ↓bl_b, ↓il_b, ↓le_l, ↓gp_top, ↓cl_0, ↓cl_e, ↓cl_v, ↓nxt_nx, ↓nxt_rt, ↓nxt_bk, ↓nxt_ct, ↓sa_0, ↓sa_s, ↓rg1_i, ↓rg2_i, ↓itm_l, ↓itm_t, ↓itm_o, ↓fin_rt, ↓fin_nx, ↓lpk_nx, ↓lpk_ct, ↓lpk_bk, ↓lpk_rt, ↓wcl_nil, ↓wf_nil,
  ↓p_sub, ↓p_add, ↓p_ipadd, ↓p_mul, ↓p_div, ↓p_mod, ↓p_pow, ↓p_neg, ↓p_eq, ↓p_ne, ↓p_lt, ↓p_gt, ↓p_le, ↓p_ge, ↓p_max, ↓p_min, ↓p_abs, ↓p_intI, ↓p_intB, ↓p_isaI, ↓p_isaB, ↓p_isaNI, ↓p_isNI, ↓p_isNN, ↓p_divmod, ↓p_catL, ↓p_catLl, ↓p_catlL, ↓p_catll, ↓p_len, ↓p_lenl, ↓p_lent, ↓p_list, ↓p_listl, ↓p_listt, ↓p_tuple, ↓p_tuplel, ↓p_tuplet, ↓p_rev, ↓p_revl, ↓p_ix, ↓p_ixl, ↓p_ixt, ↓p_append, ↓p_reverse,
  ↓gp_cells, ↓gp_turn, ↓put_turn, ↓put_cells, ↓putP_top, wipeE, lv_0, lv_s,
  List.set_cons_zero, List.set_cons_succ, List.length_cons, List.length_nil, List.map_cons, List.map_nil, finR, List.replicate, List.replicate_succ, List.replicate_zero, List.cons_append, List.nil_append, true_and, and_true, List.tail_cons, List.head?_cons, Option.join_some, List.contains_nil, Bool.false_eq_true, if_false, if_true, List.all_nil, and_self, Int.reduceToNat, Int.reducePow, Nat.reduceSub, Nat.reduceAdd, Int.reduceAdd, Int.reduceMul, Int.reduceSub, Int.reduceNeg, Int.reduceLT, Int.reduceLE, Int.natAbs, Nat.reduceLT, Nat.reduceLeDiff, Nat.reducePow])
local macro_rules | `(tactic| walk_at "mv1") => `(tactic| try simp only [↓ok_t, ↓ok_l, ↓nxt_nx, ↓nxt_rt, ↓w_seq, ↓fin_rt, ↓fin_nx, ↓lpk_nx, ↓lpk_ct, ↓lpk_bk, ↓lpk_rt, wipeE, List.set_cons_zero, List.set_cons_succ, true_and, and_true])
def takeB (c : Int) : SSem := (seq (setS 2 true (bin true (plE 0 (.key (.inr "turn"))) (cstE (.int 1)) oAdd))
  (seq (asgS (gSubP 0 .top (cstE (.str "turn")) gSet) (varE 2))
  (seq (setS 3 true (bin true (varE 2) (un (plE 0 (.key (.inr "cells"))) oLen) (vw2 modI)))
  (seq (setS 4 true (bin true (plE 0 (.key (.inr "cells"))) (varE 3) oIx))
  (seq (ifS (asB (bin true (varE 4) (bin true (cstE (.int 10)) (cstE (.int 18)) (vw2 powI)) (vw2 (ordI .ge)))) (seq (asgS (gT 2 (gCn (gSubP 0 (.key (.inr "cells")) (varE 3) gSet) (gCn (gN 5) gNl))) (bin true (varE 4) (varE 1) oDivmod))
  (retS false (varE 5))) skip)
  (seq (setS 6 true (bin true (bin true (bin true (bin true (bin true (varE 4) (cstE (.int 2147483629)) (vw2 modI)) (bin true (bin true (varE 2) (varE 2) (vw2 mulI)) (cstE (.int 7919)) (vw2 mulI)) oAdd) (cstE (.int 11)) oAdd) (cstE (.int 48271)) (vw2 mulI)) (cstE (.int 2147483647)) (vw2 modI)))
  (seq (setS 6 true (bin true (bin true (varE 6) (varE 6) (vw2 mulI)) (cstE (.int 2147483587)) (vw2 modI)))
  (retS true (bin true (bin true (bin true (bin true (bin true (varE 6) (bin true (varE 2) (cstE (.int 104729)) (vw2 mulI)) oAdd) (cstE (.int c)) (vw2 mulI)) (cstE (.int 2147483629)) (vw2 modI)) (cstE (.int 64)) (vw2 divI)) (varE 1) (vw2 modI))))))))))
theorem take_ok {c : Int} (hc : 0 ≤ c ∧ c < 1000000) {st : List Int × Int} {n m : Int} (h : St st n) (hn : n ≤ 1000000000000000000) (hm : 0 < m) (hm2 : m < 1000000000000000000000000000000000000000000000000000000000000) {Q : O → List (Option O) → Prop}
    (k : ∀ d st', 0 ≤ d → d < m → St st' (n + 1) → Q (.leaf (.int d)) [some (stO st'), some (.leaf (.int m))]) : Wd (runDef 2 7 [] (takeB c)) [stO st, .leaf (.int m)] Q := by
  obtain ⟨cs, t⟩ := st
  obtain ⟨h1, h2, h3, h4⟩ := h
  simp only at h1 h2 h3 h4
  rw [w_def]
  unfold takeB
  walk_at "mv"
  have hl : 0 < cs.length := List.length_pos_iff.mpr h1
  rw [List.length_map]
  refine ⟨by omega, at_ints (Int.emod_nonneg _ (by omega)) (Int.emod_lt_of_pos _ (by omega)) fun x hx => ?_⟩
  have hj : 0 ≤ (t + 1) % (cs.length : Int) := Int.emod_nonneg _ (by omega)
  have hj2 : (t + 1) % (cs.length : Int) < cs.length := Int.emod_lt_of_pos _ (by omega)
  walk_at "mv"
  refine br (fun _ => ?_) fun _ => ?_
  · walk_at "mv"
    refine ⟨divOk hm hm2, ?_⟩
    refine put_ints hj hj2 ?_
    walk_at "mv"
    refine k _ _ (Int.emod_nonneg _ (by omega)) (Int.emod_lt_of_pos _ hm) ⟨?_, ?_, by simp only; omega, by simp only; omega⟩
    · intro z
      simp only at z
      have := congrArg List.length z
      rw [List.length_set, List.length_nil] at this
      omega
    · simp only [List.length_set]
      exact h2
  · walk_at "mv"
    have e1 : 0 ≤ (t + 1) * (t + 1) := Int.mul_nonneg (by omega) (by omega)
    have e2 : (t + 1) * (t + 1) ≤ 1000000000000000001 * 1000000000000000001 := Int.mul_le_mul (by omega) (by omega) (by omega) (by omega)
    have e3 : 0 ≤ x % 2147483629 := Int.emod_nonneg _ (by decide)
    have e4 : x % 2147483629 < 2147483629 := Int.emod_lt_of_pos _ (by decide)
    have e5 : 0 ≤ (x % 2147483629 + (t + 1) * (t + 1) * 7919 + 11) * 48271 % 2147483647 := Int.emod_nonneg _ (by decide)
    have e6 : (x % 2147483629 + (t + 1) * (t + 1) * 7919 + 11) * 48271 % 2147483647 < 2147483647 := Int.emod_lt_of_pos _ (by decide)
    generalize hy : (x % 2147483629 + (t + 1) * (t + 1) * 7919 + 11) * 48271 % 2147483647 = y at e5 e6
    have e7 : 0 ≤ y * y % 2147483587 := Int.emod_nonneg _ (by decide)
    have e8 : y * y % 2147483587 < 2147483587 := Int.emod_lt_of_pos _ (by decide)
    refine ⟨mulOk (by omega) (by omega) (by omega) (by omega), mulOk (by omega) (by omega) (by decide) (by decide), mulOk (by omega) (by omega) (by decide) (by decide), mulOk (by omega) (by omega) (by omega) (by omega), mulOk (by omega) (by omega) (by decide) (by decide), mulOk (by omega) (by omega) (by omega) (by omega), divOk (by decide) (by decide), hm, ?_⟩
    exact k _ _ (Int.emod_nonneg _ (by omega)) (Int.emod_lt_of_pos _ hm) ⟨h1, h2, by simp only; omega, by simp only; omega⟩
end Mv

set_option Elab.async false
set_option linter.all false
set_option maxRecDepth 100000
set_option maxHeartbeats 2000000
namespace Mv
open PySem PySem.Spec PyProof.Rows L2
/-! ### lists of numbers -/
def isort (ns : List Int) : List Int := ns.mergeSort fun a b => decide (a ≤ b)
theorem isort_perm (ns : List Int) : (isort ns).Perm ns := List.mergeSort_perm _ _
theorem isort_len (ns : List Int) : (isort ns).length = ns.length := (isort_perm ns).length_eq
theorem isort_mem {ns : List Int} {x : Int} : x ∈ isort ns ↔ x ∈ ns := (isort_perm ns).mem_iff
theorem isort_sorted (ns : List Int) : (isort ns).Pairwise (· ≤ ·) := by
  have := List.pairwise_mergeSort (le := fun (a b : Int) => decide (a ≤ b)) (fun a b c h1 h2 => by simp at *; omega) (fun a b => by simp; omega) ns
  exact this.imp fun h => by simpa using h
theorem sortD_ints (ns : List Int) : sortD (ns.map .int) = (isort ns).map .int := by
  unfold sortD isort
  have h := PySem.W.dataLe_int (β := Int) id
  symm
  apply List.map_mergeSort
  intro a _ b _
  have h2 := congrFun (congrFun h a) b
  exact h2.symm
theorem sortOk_ints {ns : List Int} (h : ns.length ≤ 1000000) : sortOk (ns.map .int) := by
  refine ⟨?_, .inr ?_, ?_, by simpa using h⟩
  · intro d hd d' hd'
    obtain ⟨i, _, rfl⟩ := List.mem_map.mp hd
    obtain ⟨j, _, rfl⟩ := List.mem_map.mp hd'
    rfl
  · intro d hd
    obtain ⟨i, _, rfl⟩ := List.mem_map.mp hd
    exact ⟨(by intro z; cases z), (by intro xs z; cases z)⟩
  · rw [List.all_eq_true]
    intro d hd
    obtain ⟨i, _, rfl⟩ := List.mem_map.mp hd
    rfl
section
variable {ns ms : List Int} {Q : O → Prop}
open Classical in
theorem sort_core {o : O} (h : ns.length ≤ 1000000) (e : seqO o = some (ns.map .int)) : oSort o = some (O.ls ((isort ns).map .int)) := by
  unfold oSort
  rw [e, Option.bind_some, if_pos (sortOk_ints h), sortD_ints]
theorem p_sort (h : ns.length ≤ 1000000) : Op1 oSort (.ls (ns.map .int)) Q ↔ Q (.ls ((isort ns).map .int)) := by
  unfold Op1
  rw [sort_core h rfl]
  exact Iff.rfl
theorem p_sortl (h : ns.length ≤ 1000000) : Op1 oSort (.leaf (.list (ns.map .int))) Q ↔ Q (.ls ((isort ns).map .int)) := by
  unfold Op1
  rw [sort_core h rfl]
  exact Iff.rfl
theorem p_sortt (h : ns.length ≤ 1000000) : Op1 oSort (.leaf (.tuple (ns.map .int))) Q ↔ Q (.ls ((isort ns).map .int)) := by
  unfold Op1
  rw [sort_core h rfl]
  exact Iff.rfl
theorem intsD_map : intsD (ns.map .int) = some ns := by
  induction ns with
  | nil => rfl
  | cons a r ih => simp [intsD, ih]
theorem boolsD_map {bs : List Bool} : boolsD (bs.map .bool) = some bs := by
  induction bs with
  | nil => rfl
  | cons a r ih => simp [boolsD, ih]
theorem p_sum : Op1 oSum (.ls (ns.map .int)) Q ↔ Q (.leaf (.int ns.sum)) := by
  simp [Op1, oSum, lstO, intsD_map, O1]
theorem p_suml : Op1 oSum (.leaf (.list (ns.map .int))) Q ↔ Q (.leaf (.int ns.sum)) := by
  simp [Op1, oSum, lstO, intsD_map, O1]
theorem p_any {bs : List Bool} : Op1 oAny (.ls (bs.map .bool)) Q ↔ Q (.leaf (.bool (bs.any id))) := by
  simp [Op1, oAny, lstO, boolsD_map, O1]
theorem p_all {bs : List Bool} : Op1 oAll (.ls (bs.map .bool)) Q ↔ Q (.leaf (.bool (bs.all id))) := by
  simp [Op1, oAll, lstO, boolsD_map, O1]
theorem eqv_ints : ∀ {ns ms : List Int}, PyData.eqvAll (ns.map .int) (ms.map .int) = decide (ns = ms)
  | [], [] => rfl
  | [], b :: ms => rfl
  | a :: ns, [] => rfl
  | a :: ns, b :: ms => by
    show (a == b && PyData.eqvAll (ns.map .int) (ms.map .int)) = _
    rw [eqv_ints]
    by_cases h1 : a = b <;> by_cases h2 : ns = ms <;> simp [h1, h2]
theorem okd_ints {n : Nat} : okd (n + 1) (.list (ns.map .int)) = true := by
  show (ns.map PyData.int).all (okd n) = true
  rw [List.all_eq_true]
  intro d hd
  obtain ⟨i, _, rfl⟩ := List.mem_map.mp hd
  cases n <;> rfl
theorem okd_intst {n : Nat} : okd (n + 1) (.tuple (ns.map .int)) = true := by
  show (ns.map PyData.int).all (okd n) = true
  rw [List.all_eq_true]
  intro d hd
  obtain ⟨i, _, rfl⟩ := List.mem_map.mp hd
  cases n <;> rfl
theorem eqI_ints : eqI false (.list (ns.map .int)) (.list (ms.map .int)) = some (.bool (decide (ns = ms))) := by
  unfold eqI
  rw [okd_ints, okd_ints]
  show some (PyData.bool (PyData.eqvAll (ns.map .int) (ms.map .int))) = _
  rw [eqv_ints]
theorem neI_ints : eqI true (.list (ns.map .int)) (.list (ms.map .int)) = some (.bool (!decide (ns = ms))) := by
  unfold eqI
  rw [okd_ints, okd_ints]
  show some (PyData.bool (!PyData.eqvAll (ns.map .int) (ms.map .int))) = _
  rw [eqv_ints]
theorem vw2_of {c : D → D → Option D} {a b : O} {t u z : D} (ha : a.frz = some t) (hb : b.frz = some u) (h : c t u = some z) (hz : flatD z = true) : Op2 (vw2 c) a b Q ↔ Q (.leaf z) := by
  unfold Op2 vw2
  simp [ha, hb, h, hz, O1]
theorem p_eqLL : Op2 (vw2 (eqI false)) (.ls (ns.map .int)) (.ls (ms.map .int)) Q ↔ Q (.leaf (.bool (decide (ns = ms)))) := vw2_of rfl rfl eqI_ints rfl
theorem p_eqLl : Op2 (vw2 (eqI false)) (.ls (ns.map .int)) (.leaf (.list (ms.map .int))) Q ↔ Q (.leaf (.bool (decide (ns = ms)))) := vw2_of rfl rfl eqI_ints rfl
theorem p_eqlL : Op2 (vw2 (eqI false)) (.leaf (.list (ns.map .int))) (.ls (ms.map .int)) Q ↔ Q (.leaf (.bool (decide (ns = ms)))) := vw2_of rfl rfl eqI_ints rfl
theorem p_eqll : Op2 (vw2 (eqI false)) (.leaf (.list (ns.map .int))) (.leaf (.list (ms.map .int))) Q ↔ Q (.leaf (.bool (decide (ns = ms)))) := vw2_of rfl rfl eqI_ints rfl
theorem p_eqL0 : Op2 (vw2 (eqI false)) (.ls (ns.map .int)) (.ls []) Q ↔ Q (.leaf (.bool (decide (ns = [])))) := p_eqLL (ms := [])
theorem p_eql0 : Op2 (vw2 (eqI false)) (.leaf (.list (ns.map .int))) (.ls []) Q ↔ Q (.leaf (.bool (decide (ns = [])))) := p_eqlL (ms := [])
theorem p_neLL : Op2 (vw2 (eqI true)) (.ls (ns.map .int)) (.ls (ms.map .int)) Q ↔ Q (.leaf (.bool (!decide (ns = ms)))) := vw2_of rfl rfl neI_ints rfl
theorem p_neLl : Op2 (vw2 (eqI true)) (.ls (ns.map .int)) (.leaf (.list (ms.map .int))) Q ↔ Q (.leaf (.bool (!decide (ns = ms)))) := vw2_of rfl rfl neI_ints rfl
theorem p_nelL : Op2 (vw2 (eqI true)) (.leaf (.list (ns.map .int))) (.ls (ms.map .int)) Q ↔ Q (.leaf (.bool (!decide (ns = ms)))) := vw2_of rfl rfl neI_ints rfl
theorem p_nell : Op2 (vw2 (eqI true)) (.leaf (.list (ns.map .int))) (.leaf (.list (ms.map .int))) Q ↔ Q (.leaf (.bool (!decide (ns = ms)))) := vw2_of rfl rfl neI_ints rfl
theorem p_neL0 : Op2 (vw2 (eqI true)) (.ls (ns.map .int)) (.ls []) Q ↔ Q (.leaf (.bool (!decide (ns = [])))) := p_neLL (ms := [])
theorem p_nel0 : Op2 (vw2 (eqI true)) (.leaf (.list (ns.map .int))) (.ls []) Q ↔ Q (.leaf (.bool (!decide (ns = [])))) := p_nelL (ms := [])
theorem p_popAt {i : Int} {P : O → D → Prop} (h : 0 ≤ i) (h2 : i < ns.length) (h3 : ns.length ≤ 1000000) (k : ∀ x, ns[i.toNat]? = some x → P (.ls ((ns.eraseIdx i.toNat).map .int)) (.int x)) : OpM gPopAt (.ls (ns.map .int)) [.leaf (.int i)] P := by
  unfold OpM gPopAt
  have hl : i.toNat < ns.length := by omega
  have e : seqIndex? i (ns.map PyData.int).length = some i.toNat := by
    have : ixN (ns.map PyData.int).length i = some i.toNat := by
      unfold ixN
      rw [List.length_map]
      split <;> simp_all <;> omega
    exact (ixN_seq this).1
  have hb : -(2 ^ 63) ≤ i ∧ i < 2 ^ 63 := by omega
  simp only [if_pos hb, e, Option.bind_some, List.getElem?_map, List.getElem?_eq_getElem hl, Option.map_some]
  have := k _ (List.getElem?_eq_getElem hl)
  have em : ∀ (l : List Int) (j : Nat), (l.map PyData.int).eraseIdx j = (l.eraseIdx j).map PyData.int := fun l => by
    induction l with
    | nil => intro j; rfl
    | cons a r ih =>
      intro j
      cases j with
      | zero => rfl
      | succ j => simp only [List.map_cons, List.eraseIdx_cons_succ, ih j]
  rw [em]
  exact this
end
/-! ### a number or None -/
def optD : Option Int → D
  | none => .none
  | some i => .int i
section
variable {a b : Option Int} {Q : O → Prop}
theorem optD_some {i : Int} : PyData.int i = optD (some i) := rfl
theorem optD_none : PyData.none = optD none := rfl
theorem p_isNo {neg : Bool} : Op2 (vw2 (isNI neg)) (.leaf (optD a)) (.leaf .none) Q ↔ Q (.leaf (.bool (if neg then a.isSome else a.isNone))) := by
  cases a <;> cases neg <;> exact Iff.rfl
theorem p_eqo : Op2 (vw2 (eqI false)) (.leaf (optD a)) (.leaf (optD b)) Q ↔ Q (.leaf (.bool (decide (a = b)))) := by
  refine vw2_of rfl rfl ?_ rfl
  cases a <;> cases b
  · rfl
  · rfl
  · rfl
  · rename_i i j
    show some (PyData.bool (i == j)) = _
    by_cases h : i = j <;> simp [h]
theorem p_neo : Op2 (vw2 (eqI true)) (.leaf (optD a)) (.leaf (optD b)) Q ↔ Q (.leaf (.bool (!decide (a = b)))) := by
  refine vw2_of rfl rfl ?_ rfl
  cases a <;> cases b
  · rfl
  · rfl
  · rfl
  · rename_i i j
    show some (PyData.bool (!(i == j))) = _
    by_cases h : i = j <;> simp [h]
end
theorem range_ints {lo : Int} {n : Nat} : rangeD lo n = ((List.range n).map fun (i : Nat) => lo + (i : Int)).map .int := by
  unfold rangeD
  rw [List.map_map]
  rfl
end Mv

set_option Elab.async false
set_option linter.all false
set_option maxRecDepth 100000
set_option maxHeartbeats 4000000
namespace Mv
open PySem PySem.Spec PyProof.Rows L2
local macro_rules | `(tactic| walk_at "mv") => `(tactic| try simp only [↓w_cst, ↓w_var, ↓w_mv, ↓w_fz, ↓w_frz, ↓w_bin, ↓w_un, ↓w_binV, ↓w_if, ↓w_asB, ↓w_yes, ↓w_not, ↓w_and, ↓w_or, ↓w_andE, ↓w_orE, ↓w_notE, ↓w_chain, ↓w_nil, ↓w_cons, ↓w_tup, ↓w_lst, ↓w_pl, ↓w_mut, ↓w_c0, ↓w_ce, ↓w_cv, ↓w_call', ↓wb_0, ↓wb_e, ↓wb_v, wb_e', ↓wo_leaf, ↓wo_ls, ↓wo_dic, ↓wo_dct, ↓wo_st, ↓wo_s, own_0, own_s, oi_0, oi_e, oi_v, isl_st, isl_leaf, isl_ls, Bool.not_false, Bool.not_true, List.nodup_cons, List.nodup_nil, List.not_mem_nil, not_false_eq_true, ↓w_seq, ↓w_skip, ↓w_brk, ↓w_cont, ↓w_retN, ↓w_set, ↓w_drop, ↓w_ret, ↓w_retV, ↓w_ifS, ↓w_fzS, ↓w_asg, ↓w_gN, ↓w_gT, ↓w_gNl, ↓w_gCn, ↓w_gSub, ↓w_par, ↓w_aug, ↓w_int, ↓w_slice, ↓w_rng1, ↓w_rng2, ↓w_seqI, ↓w_comp, ↓w_for,
  ↓sl_0, ↓sl_s, ↓fr_leaf, ↓fr_ls, ↓ok_t, ↓ok_l, ↓br_t, ↓br_f, decide_true, decide_false, Int.reduceEq, ↓bl_b, ↓il_b, ↓le_l, ↓gp_top, ↓cl_0, ↓cl_e, ↓cl_v, ↓nxt_nx, ↓nxt_rt, ↓nxt_bk, ↓nxt_ct, ↓sa_0, ↓sa_s, ↓rg1_i, ↓rg2_i, ↓itm_l, ↓itm_t, ↓itm_o, ↓fin_rt, ↓fin_nx, ↓lpk_nx, ↓lpk_ct, ↓lpk_bk, ↓lpk_rt, ↓wcl_nil, ↓wf_nil,
  ↓p_sub, ↓p_add, ↓p_ipadd, ↓p_mul, ↓p_div, ↓p_mod, ↓p_pow, ↓p_neg, ↓p_eq, ↓p_ne, ↓p_lt, ↓p_gt, ↓p_le, ↓p_ge, ↓p_max, ↓p_min, ↓p_abs, ↓p_intI, ↓p_intB, ↓p_isaI, ↓p_isaB, ↓p_isaNI, ↓p_isNI, ↓p_isNN, ↓p_isNo, ↓p_eqo, ↓p_neo, ↓p_divmod, ↓p_catL, ↓p_catLl, ↓p_catlL, ↓p_catll, ↓p_len, ↓p_lenl, ↓p_lent, ↓p_list, ↓p_listl, ↓p_listt, ↓p_tuple, ↓p_tuplel, ↓p_tuplet, ↓p_rev, ↓p_revl, ↓p_ix, ↓p_ixl, ↓p_ixt, ↓p_append, ↓p_reverse, ↓p_sum, ↓p_suml, ↓p_any, ↓p_all, ↓p_eqLL, ↓p_eqLl, ↓p_eqlL, ↓p_eqll, ↓p_eqL0, ↓p_eql0, ↓p_neLL, ↓p_neLl, ↓p_nelL, ↓p_nell, ↓p_neL0, ↓p_nel0,
  ↓gp_cells, ↓gp_turn, ↓put_turn, ↓put_cells, ↓putP_top, wipeE, lv_0, lv_s,
  List.set_cons_zero, List.set_cons_succ, List.length_cons, List.length_nil, List.map_cons, List.map_nil, finR, List.replicate, List.replicate_succ, List.replicate_zero, List.cons_append, List.nil_append, true_and, and_true, List.tail_cons, List.head?_cons, Option.join_some, List.contains_nil, Bool.false_eq_true, if_false, if_true, List.all_nil, and_self, Int.reduceToNat, Int.reducePow, Nat.reduceSub, Nat.reduceAdd, Int.reduceAdd, Int.reduceMul, Int.reduceSub, Int.reduceNeg, Int.reduceLT, Int.reduceLE, Int.natAbs, Nat.reduceLT, Nat.reduceLeDiff, Nat.reducePow])
local macro_rules | `(tactic| walk_at "mv1") => `(tactic| try simp only [↓ok_t, ↓ok_l, ↓nxt_nx, ↓nxt_rt, ↓w_seq, ↓fin_rt, ↓fin_nx, ↓lpk_nx, ↓lpk_ct, ↓lpk_bk, ↓lpk_rt, wipeE, List.set_cons_zero, List.set_cons_succ, true_and, and_true])
/-! ### the draws that many laws share -/
def TakeSpec (g : Def) : Prop := ∀ {st : List Int × Int} {n m : Int} {Q : O → List (Option O) → Prop}, St st n → n ≤ 1000000000000000000 → 0 < m → m < 1000000000000000000000000000000000000000000000000000000000000 →
    (∀ d st', 0 ≤ d → d < m → St st' (n + 1) → Q (.leaf (.int d)) [some (stO st'), some (.leaf (.int m))]) → Wd g [stO st, .leaf (.int m)] Q
theorem takeSpec {c : Int} (hc : 0 ≤ c ∧ c < 1000000) : TakeSpec (runDef 2 7 [] (takeB c)) := fun h hn hm hm2 k => take_ok hc h hn hm hm2 k
def beginB (c : Int) : SSem := (seq (setS 1 true (un (sliceE true (varE 0) (cstE .none) (intE (cstE (.int 63)))) oList))
  (seq (ifS (asB (bin true (varE 1) (lstE nilA) (vw2 (eqI false)))) (setS 1 true (lstE (consA true (cstE (.int c)) nilA))) skip)
  (retS true (dispE (⟨.inr "cells", true, (mvE 1)⟩ :: (⟨.inr "turn", true, (cstE (.int 0))⟩ :: []))))))
theorem w_disp2 {x : O} {cs : List Int} {Q : O → Env → Prop} : We (dispE [⟨.inr "cells", true, (mvE 1)⟩, ⟨.inr "turn", true, (cstE (.int 0))⟩]) [some x, some (.ls (cs.map .int))] Q ↔ Q (stO (cs, 0)) [some x, none] := by
  unfold We dispE
  have h : ([⟨.inr "cells", true, (mvE 1)⟩, ⟨.inr "turn", true, (cstE (.int 0))⟩].map DItem.key).Nodup ∧ [(⟨.inr "cells", true, (mvE 1)⟩ : DItem), ⟨.inr "turn", true, (cstE (.int 0))⟩].length ≤ 15 := by
    refine ⟨?_, by decide⟩
    simp only [List.map_cons, List.map_nil, List.nodup_cons, List.mem_singleton, List.not_mem_nil, not_false_eq_true, List.nodup_nil, and_true]
    exact key_ne
  rw [if_pos h]
  exact Iff.rfl
theorem cut_lo {ns : List Int} {n : Nat} {P : O → Prop} (h : P (.ls ((ns.take n).map .int))) : Slc (.leaf (.list (ns.map .int))) (.leaf .none) (.leaf (.int n)) P := by
  have e : cutD (ns.map PyData.int) none (some (n : Int)) = (ns.take n).map .int := by
    unfold cutD
    rw [List.length_map]
    have h1 : HT.sIx ns.length 0 none = 0 := rfl
    have h2 : HT.sIx ns.length ns.length (some (n : Int)) = min n ns.length := by
      unfold HT.sIx
      simp
      try omega
    rw [h1, h2]
    simp only [List.drop_zero, Nat.sub_zero, ← List.map_take]
    congr 1
    rw [List.take_eq_take_iff]
    omega
  show O1 (some (O.ls (cutD (ns.map PyData.int) none (some (n : Int))))) P
  rw [e]
  exact h
theorem begin_ok {c : Int} {ns : List Int} (hl : ns.length ≤ 63) {Q : O → List (Option O) → Prop} (k : ∀ st os, St st 0 → Q (stO st) os) : Wd (runDef 1 2 [] (beginB c)) [.leaf (.list (ns.map .int))] Q := by
  rw [w_def]
  unfold beginB
  walk_at "mv"
  refine cut_lo (n := 63) ?_
  walk_at "mv"
  refine br (fun _ => ?_) fun h => ?_
  · walk_at "mv"
    refine (w_disp2 (cs := [c])).mpr ?_
    walk_at "mv"
    exact k _ _ ⟨by simp, by simp, by simp, by simp⟩
  · walk_at "mv"
    refine w_disp2.mpr ?_
    walk_at "mv"
    exact k _ _ ⟨h, by simp only [List.length_take]; omega, by simp, by simp⟩
def greatB (g : Def) : SSem := (seq (setS 1 true (compE (rng1 (consA true (cstE (.int 3)) nilA)) (gN 2) yesT (callF g (.v 0 :: (.e true (bin true (cstE (.int 10)) (cstE (.int 10)) (vw2 powI)) :: []))) [2]))
  (fzS 1 (retS true (bin true (bin true (bin true (bin true (varE 1) (cstE (.int 0)) oIx) (bin true (cstE (.int 10)) (cstE (.int 20)) (vw2 powI)) (vw2 mulI)) (bin true (bin true (varE 1) (cstE (.int 1)) oIx) (bin true (cstE (.int 10)) (cstE (.int 10)) (vw2 powI)) (vw2 mulI)) oAdd) (bin true (varE 1) (cstE (.int 2)) oIx) oAdd))))
theorem great_ok {g : Def} (tk : TakeSpec g) {st : List Int × Int} {n : Int} (h : St st n) (hn : n ≤ 100000000000000000) {Q : O → List (Option O) → Prop}
    (k : ∀ d st', 0 ≤ d → d < 1000000000000000000000000000000 → St st' (n + 3) → Q (.leaf (.int d)) [some (stO st')]) : Wd (runDef 1 3 [] (greatB g)) [stO st] Q := by
  rw [w_def]
  unfold greatB
  walk_at "mv"
  refine ⟨by decide, ?_⟩
  have e : rangeD 0 3 = [.int 0, .int 1, .int 2] := rfl
  rw [e, wcl_cons]
  walk_at "mv"
  refine tk h (by omega) (by decide) (by decide) fun a s1 a1 a2 h1 => ?_
  walk_at "mv"
  rw [wcl_cons]
  walk_at "mv"
  refine tk h1 (by omega) (by decide) (by decide) fun b s2 b1 b2 h2 => ?_
  walk_at "mv"
  rw [wcl_cons]
  walk_at "mv"
  refine tk h2 (by omega) (by decide) (by decide) fun c s3 c1 c2 h3 => ?_
  walk_at "mv"
  have e0 : ∀ {P : D → Prop}, At [.int a, .int b, .int c] 0 P ↔ P (.int a) := Iff.rfl
  have e1 : ∀ {P : D → Prop}, At [.int a, .int b, .int c] 1 P ↔ P (.int b) := Iff.rfl
  have e2 : ∀ {P : D → Prop}, At [.int a, .int b, .int c] 2 P ↔ P (.int c) := Iff.rfl
  rw [e0]
  walk_at "mv"
  refine ⟨mulOk (by omega) (by omega) (by decide) (by decide), ?_⟩
  rw [e1]
  walk_at "mv"
  refine ⟨mulOk (by omega) (by omega) (by decide) (by decide), ?_⟩
  rw [e2]
  walk_at "mv"
  exact k _ _ (by omega) (by omega) (h3.le (by omega))
theorem wcl_int {set : GSem} {cnd : TSem} {elt : ESem} {vs : List Nat} {G : Int → Int} {e0 : Env} {Q : List D → Env → Prop} {as : List Int}
    (hs : ∀ a ∈ as, Wg set (.int a) e0 fun e1 => Wt cnd e1 fun b e2 => b = true ∧ We elt e2 fun r e3 => r = .leaf (.int (G a)) ∧ wipeE e3 vs = e0) (hq : Q ((as.map G).map .int) e0) : Wcl set cnd elt vs (as.map .int) e0 Q := by
  refine wcl_map (p := fun _ => true) (g := fun a => .int (G a)) (fun a m => O1.mono (hs a m) fun e1 h => O2.mono h fun b e2 ⟨h1, h2⟩ => ⟨h1, by rw [if_pos rfl]; exact h2⟩) ?_
  rw [List.filter_eq_self.mpr fun _ _ => rfl]
  rw [List.map_map] at hq
  exact hq
theorem wcl_draw {set : GSem} {cnd : TSem} {elt : ESem} {vs : List Nat} {ts : List D} {env : Env} {Q : List D → Env → Prop} (P : Int → Prop) (I : Nat → Env → Prop)
    (hs : ∀ j t e, ts[j]? = some t → I j e → Wg set t e fun e1 => Wt cnd e1 fun b e2 => b = true ∧ We elt e2 fun r e3 => ∃ x, r = .leaf (.int x) ∧ P x ∧ I (j + 1) (wipeE e3 vs)) (h0 : I 0 env)
    (hq : ∀ (xs : List Int) e, xs.length = ts.length → (∀ x ∈ xs, P x) → I ts.length e → Q (xs.map .int) e) : Wcl set cnd elt vs ts env Q := by
  refine wcl_inv (k := 0) (acc := []) (I := fun k acc e => ∃ xs : List Int, acc = xs.map .int ∧ xs.length = k ∧ (∀ x ∈ xs, P x) ∧ I k e) (fun j t acc e ht hi => ?_) ⟨[], rfl, rfl, (by intro x h; cases h), h0⟩ fun ds e ⟨xs, h1, h2, h3, h4⟩ => ?_
  · obtain ⟨xs, rfl, hl, hp, hi⟩ := hi
    rw [Nat.zero_add] at hi hl ⊢
    refine O1.mono (hs j t e ht hi) fun e1 h => O2.mono h fun b e2 ⟨h1, h2⟩ => ?_
    subst h1
    rw [if_pos rfl]
    refine O2.mono h2 fun r e3 ⟨x, h3, h4, h5⟩ => ?_
    subst h3
    refine ⟨xs ++ [x], by simp, by simp [hl], fun y hy => ?_, h5⟩
    rcases List.mem_append.mp hy with z | z
    · exact hp y z
    · rw [List.mem_singleton.mp z]
      exact h4
  · rw [Nat.zero_add] at h2 h4
    rw [List.nil_append] at h1
    rw [h1]
    exact hq xs e h2 h3 h4
theorem chk {c : TSem} {g : SSem} {env e1 : Env} {Q : Out → Env → Prop} (h : Wt c env fun b e => b = false ∧ e = e1) (k : Q .nx e1) : Ws (ifS c g skip) env Q := by
  rw [w_ifS]
  refine O2.mono h fun b e ⟨h1, h2⟩ => ?_
  subst h1 h2
  exact k
theorem sIx_lo {n : Nat} {i : Int} (h : 0 ≤ i) : HT.sIx n n (some i) = min i.toNat n := by
  unfold HT.sIx
  simp
  try omega
theorem sIx_lo0 {n : Nat} {i : Int} (h : 0 ≤ i) : HT.sIx n 0 (some i) = min i.toNat n := by
  unfold HT.sIx
  simp
  try omega
theorem cutD_to {ns : List Int} {i : Int} (h : 0 ≤ i) : cutD (ns.map PyData.int) none (some i) = (ns.take i.toNat).map .int := by
  unfold cutD
  rw [List.length_map]
  have h1 : HT.sIx ns.length 0 none = 0 := rfl
  rw [h1, sIx_lo h]
  simp only [List.drop_zero, Nat.sub_zero, ← List.map_take]
  congr 1
  rw [List.take_eq_take_iff]
  omega
theorem cutD_from {ns : List Int} {i : Int} (h : 0 ≤ i) : cutD (ns.map PyData.int) (some i) none = (ns.drop i.toNat).map .int := by
  unfold cutD
  rw [List.length_map]
  have h1 : HT.sIx ns.length ns.length none = ns.length := rfl
  rw [h1, sIx_lo0 h]
  rw [← List.map_drop, ← List.map_take]
  congr 1
  by_cases hh : i.toNat ≤ ns.length
  · rw [Nat.min_eq_left hh, List.take_of_length_le (by simp)]
  · rw [Nat.min_eq_right (by omega), List.drop_eq_nil_of_le (Nat.le_refl _), List.drop_eq_nil_of_le (by omega), List.take_nil]
theorem slc_to {ns : List Int} {i : Int} {P : O → Prop} (h : 0 ≤ i) (k : P (.ls ((ns.take i.toNat).map .int))) : Slc (.leaf (.list (ns.map .int))) (.leaf .none) (.leaf (.int i)) P := by
  show O1 (some (O.ls (cutD (ns.map PyData.int) none (some i)))) P
  rw [cutD_to h]
  exact k
theorem slc_from {ns : List Int} {i : Int} {P : O → Prop} (h : 0 ≤ i) (k : P (.ls ((ns.drop i.toNat).map .int))) : Slc (.leaf (.list (ns.map .int))) (.leaf (.int i)) (.leaf .none) P := by
  show O1 (some (O.ls (cutD (ns.map PyData.int) (some i) none))) P
  rw [cutD_from h]
  exact k

end Mv

set_option Elab.async false
set_option linter.all false
set_option maxRecDepth 100000
set_option maxHeartbeats 2000000
namespace Mv
open PySem PySem.Spec PyProof.Rows L2 RZ
/-! ### enumerate, zip -/
def enumD (ts : List D) : List D := ts.zipIdx.map fun p => .tuple [.int (p.2 : Nat), p.1]
def zipD (ts us : List D) : List D := (ts.zip us).map fun p => .tuple [p.1, p.2]
def enumI (g : ASem) : ISem := fun env => (g env).bind fun p => match p.1 with
  | [o] => (lstO o).map fun ts => (enumD ts, p.2)
  | _ => none
def zipO (a b : O) : Option (List D) := ((lstO a).bind fun ts => (lstO b).map fun us => zipD ts us).or ((tupO a).bind fun ts => (tupO b).map fun us => zipD ts us)
def zipI (g : ASem) : ISem := fun env => (g env).bind fun p => match p.1 with
  | [a, b] => (zipO a b).map fun ts => (ts, p.2)
  | _ => none
section
variable {K : PySem.W.Frag} {S0 H0 : Hp} {a b : Addr} {ts us : List D} {vs ws : List V}
/-- a list that stays, one's own or frozen -/
def Keeps (K : PySem.W.Frag) (S0 H0 : Hp) (A : List Addr) (a : Addr) (vs : List V) : Prop := ∀ S H, Same S0 S → Same S H → (∀ b ∈ A, H b = H0 b) → SqL K H a vs
theorem lstO_keeps {o : O} {v : V} {fr A : List Addr} (le : Same S0 H0) (w : Ow K S0 H0 o v fr) (e : lstO o = some ts) (hA : ∀ b ∈ fr, b ∈ A) : ∃ a vs, v = .ref a ∧ FzL K S0 ts vs ∧ Keeps K S0 H0 A a vs := by
  cases o with
  | leaf t =>
    cases t with
    | list us =>
      cases e
      obtain ⟨rfl, w0⟩ := ow_leafE w
      simp only [Fz] at w0
      obtain ⟨a, vs, rfl, w1, w2⟩ := w0
      exact ⟨a, vs, rfl, w2, fun S H e1 e2 _ => (ls_same e2 (ls_same e1 w1)).sq⟩
    | _ => cases e
  | ls us =>
    cases e
    obtain ⟨a, vs, rfl, w1, rfl, w2⟩ := ow_lsE w
    exact ⟨a, vs, rfl, w2, fun S H e1 e2 e3 => SqL.of ((e3 a (hA a (List.mem_singleton.mpr rfl))).trans w1)⟩
  | dic _ => cases e
  | dct _ => cases e
  | obj _ _ => cases e
theorem fz_pair {S H : Hp} {T : Addr} {x y : V} {t u : D} (le : Same S H) (hT : H T = none) (hx : Fz K S t x) (hy : Fz K S u y) : Gr S H (upd S T (.tup [x, y])) (upd H T (.tup [x, y])) ∧ Fz K (upd S T (.tup [x, y])) (.tuple [t, u]) (.ref T) := by
  have G := Gr.newS (o := .tup [x, y]) le hT
  refine ⟨G, ?_⟩
  simp only [Fz]
  exact ⟨T, [x, y], rfl, upd_same, FzL.cons (hx.same G.sub) (FzL.cons (hy.same G.sub) FzL.nil)⟩
theorem ite_ok {A : List Addr} (h : Keeps K S0 H0 A a vs) (w : FzL K S0 ts vs) : ItOk K (Ite K a) A S0 H0 (enumD ts) := by
  have hl : (enumD ts).length = ts.length := by simp [enumD]
  refine ⟨fun S H i e1 e2 e3 hi => ?_, fun S H i e1 e2 e3 hi => ⟨vs, h S H e1 e2 e3, by rw [w.len, ← hl]; exact hi⟩, fun S H i t x H' e1 e2 e3 hi y => ?_⟩
  · rw [hl] at hi
    obtain ⟨v, hv, _⟩ := w.get (List.getElem?_eq_getElem hi)
    exact ⟨vs, v, h S H e1 e2 e3, hv⟩
  · obtain ⟨T, x', rfl, hT, rfl, y⟩ := y
    unfold enumD at hi
    rw [List.getElem?_map, List.getElem?_zipIdx] at hi
    simp only [Option.map_map, Option.map_eq_some_iff] at hi
    obtain ⟨t0, hi, rfl⟩ := hi
    obtain ⟨v, hv, hz⟩ := w.get hi
    have := (y vs (h S _ e1 e2 e3)).symm.trans hv
    cases this
    have := fz_pair (K := K) (t := .int (i : Nat)) (x := .int (i : Nat)) e2 hT (by simp only [Fz]) (hz.same e1)
    simp only [Function.comp_apply, Nat.zero_add]
    exact ⟨_, this.1, this.2⟩
theorem zipD_len : (zipD ts us).length = min ts.length us.length := by simp [zipD]
theorem zipD_get {i : Nat} {t : D} (h : (zipD ts us)[i]? = some t) : ∃ x y, ts[i]? = some x ∧ us[i]? = some y ∧ t = .tuple [x, y] := by
  unfold zipD at h
  rw [List.getElem?_map] at h
  simp only [Option.map_eq_some_iff] at h
  obtain ⟨⟨x, y⟩, h, rfl⟩ := h
  rw [List.getElem?_zip_eq_some] at h
  exact ⟨x, y, h.1, h.2, rfl⟩
theorem itz_ok {A : List Addr} (h : Keeps K S0 H0 A a vs) (w : FzL K S0 ts vs) (h2 : Keeps K S0 H0 A b ws) (w2 : FzL K S0 us ws) : ItOk K (Itz K a b) A S0 H0 (zipD ts us) := by
  refine ⟨fun S H i e1 e2 e3 hi => ?_, fun S H i e1 e2 e3 hi => ⟨vs, ws, h S H e1 e2 e3, h2 S H e1 e2 e3, ?_⟩, fun S H i t x H' e1 e2 e3 hi y => ?_⟩
  · rw [zipD_len] at hi
    obtain ⟨v, hv, _⟩ := w.get (List.getElem?_eq_getElem (by omega : i < ts.length))
    obtain ⟨v2, hv2, _⟩ := w2.get (List.getElem?_eq_getElem (by omega : i < us.length))
    exact ⟨vs, ws, v, v2, h S H e1 e2 e3, h2 S H e1 e2 e3, hv, hv2⟩
  · rw [zipD_len] at hi
    rw [w.len, w2.len]
    omega
  · obtain ⟨T, x', y', rfl, hT, rfl, y1, y2⟩ := y
    obtain ⟨t0, u0, hi1, hi2, rfl⟩ := zipD_get hi
    obtain ⟨v, hv, hz⟩ := w.get hi1
    obtain ⟨v2, hv2, hz2⟩ := w2.get hi2
    have := (y1 vs (h S _ e1 e2 e3)).symm.trans hv
    cases this
    have := (y2 ws (h2 S _ e1 e2 e3)).symm.trans hv2
    cases this
    have := fz_pair (K := K) e2 hT (hz.same e1) (hz2.same e1)
    exact ⟨_, this.1, this.2⟩
theorem itzt_ok {A : List Addr} (h : ∀ S H, Same S0 S → Same S H → SqT K H a vs) (w : FzL K S0 ts vs) (h2 : ∀ S H, Same S0 S → Same S H → SqT K H b ws) (w2 : FzL K S0 us ws) : ItOk K (ItzT K a b) A S0 H0 (zipD ts us) := by
  refine ⟨fun S H i e1 e2 e3 hi => ?_, fun S H i e1 e2 e3 hi => ⟨vs, ws, h S H e1 e2, h2 S H e1 e2, ?_⟩, fun S H i t x H' e1 e2 e3 hi y => ?_⟩
  · rw [zipD_len] at hi
    obtain ⟨v, hv, _⟩ := w.get (List.getElem?_eq_getElem (by omega : i < ts.length))
    obtain ⟨v2, hv2, _⟩ := w2.get (List.getElem?_eq_getElem (by omega : i < us.length))
    exact ⟨vs, ws, v, v2, h S H e1 e2, h2 S H e1 e2, hv, hv2⟩
  · rw [zipD_len] at hi
    rw [w.len, w2.len]
    omega
  · obtain ⟨T, x', y', rfl, hT, rfl, y1, y2⟩ := y
    obtain ⟨t0, u0, hi1, hi2, rfl⟩ := zipD_get hi
    obtain ⟨v, hv, hz⟩ := w.get hi1
    obtain ⟨v2, hv2, hz2⟩ := w2.get hi2
    have := (y1 vs (h S _ e1 e2)).symm.trans hv
    cases this
    have := (y2 ws (h2 S _ e1 e2)).symm.trans hv2
    cases this
    have := fz_pair (K := K) e2 hT (hz.same e1) (hz2.same e1)
    exact ⟨_, this.1, this.2⟩
end
section
variable {X : Cx} {e e2 : Expr} {g : ASem} {q : Bool} {pos p tpos : Pos} {elts : List Expr} {kk : Nat}
theorem si_enum (hg : Gl X "enumerate") (hm : X.mg "enumerate" = none) (h : SA X [e] g q) (hs : starEach [e] X.env = [(false, eval e X.env)] := by rfl) : SI X (.Tuple elts kk tpos) (.Call (.Name "enumerate" p) [e] [] pos) (enumI g) := by
  refine ⟨PI.imp (pi_enum hg hm h.pa hs) fun σ H R hh => ?_⟩
  obtain ⟨env, S, fp, ts, env', RR, he, k⟩ := hh
  unfold enumI at he
  simp only [Option.bind_eq_some_iff] at he
  obtain ⟨⟨os, e1⟩, h1, h2⟩ := he
  simp only at h1 h2
  split at h2
  · rename_i o
    simp only [Option.map_eq_some_iff, Prod.mk.injEq] at h2
    obtain ⟨ts', h2, rfl, rfl⟩ := h2
    refine ⟨env, S, fp, [o], e1, RR, h1, fun vs S1 H1 fp1 fr R1 E1 w g n => ?_⟩
    obtain ⟨v, vr, f1, f2, rfl, rfl, w1, w2⟩ := w
    obtain ⟨rfl, rfl⟩ := w2
    obtain ⟨a, xs, rfl, w3, kp⟩ := lstO_keeps (A := f1) R1.le w1 h2 fun _ m => m
    exact ⟨a, xs, rfl, kp S1 H1 (Same.refl _) R1.le fun _ _ => rfl, k _ S1 H1 fp1 f1 R1 E1 (ite_ok kp w3) fun b m => ⟨w1.some b m, n.off b (List.mem_append_left _ m)⟩⟩
  · cases h2
theorem si_zip (hg : Gl X "zip") (hm : X.mg "zip" = none) (h : SA X [e, e2] g q) (hs : starEach [e, e2] X.env = (false, eval e X.env) :: starEach [e2] X.env := by rfl) (hpl : (backTo pos (starEach [e2] X.env)).any (·.1) = false := by rfl) :
    SI X (.Tuple elts kk tpos) (.Call (.Name "zip" p) [e, e2] [] pos) (zipI g) := by
  refine ⟨PI.imp (pi_zipA hg hm h.pa hs hpl) fun σ H R hh => ?_⟩
  obtain ⟨env, S, fp, ts, env', RR, he, k⟩ := hh
  unfold zipI at he
  simp only [Option.bind_eq_some_iff] at he
  obtain ⟨⟨os, e1⟩, h1, h2⟩ := he
  simp only at h1 h2
  split at h2
  · rename_i o o2
    simp only [Option.map_eq_some_iff, Prod.mk.injEq] at h2
    obtain ⟨ts', h2, rfl, rfl⟩ := h2
    refine ⟨env, S, fp, [o, o2], e1, RR, h1, fun vs S1 H1 fp1 fr R1 E1 w g n => ?_⟩
    obtain ⟨v, vr, f1, f2, rfl, rfl, w1, w2⟩ := w
    obtain ⟨v2, vr2, f3, f4, rfl, rfl, w3, w4⟩ := w2
    obtain ⟨rfl, rfl⟩ := w4
    rw [List.append_nil] at n
    unfold zipO at h2
    cases hz : ((lstO o).bind fun ts => (lstO o2).map fun us => zipD ts us) with
    | some z =>
      rw [hz] at h2
      simp only [Option.some_or, Option.some.injEq] at h2
      subst h2
      simp only [Option.bind_eq_some_iff, Option.map_eq_some_iff] at hz
      obtain ⟨t1, q1, t2, q2, rfl⟩ := hz
      obtain ⟨a, xs, rfl, w5, kp⟩ := lstO_keeps (A := f1 ++ f3) R1.le w1 q1 fun _ m => List.mem_append_left _ m
      obtain ⟨b, ys, rfl, w6, kp2⟩ := lstO_keeps (A := f1 ++ f3) R1.le w3 q2 fun _ m => List.mem_append_right _ m
      refine ⟨a, b, xs, ys, rfl, .inl ⟨kp S1 H1 (Same.refl _) R1.le fun _ _ => rfl, kp2 S1 H1 (Same.refl _) R1.le fun _ _ => rfl, k _ S1 H1 fp1 (f1 ++ f3) R1 E1 (itz_ok kp w5 kp2 w6) fun b m => ⟨?_, n.off b m⟩⟩⟩
      rcases List.mem_append.mp m with z | z
      · exact w1.some b z
      · exact w3.some b z
    | none =>
      rw [hz] at h2
      simp only [Option.none_or, Option.bind_eq_some_iff, Option.map_eq_some_iff] at h2
      obtain ⟨t1, q1, t2, q2, rfl⟩ := h2
      obtain ⟨rfl, rfl, w5⟩ := tupO_S w1 q1
      obtain ⟨rfl, rfl, w6⟩ := tupO_S w3 q2
      simp only [Fz] at w5 w6
      obtain ⟨a, xs, rfl, w5, w7⟩ := w5
      obtain ⟨b, ys, rfl, w6, w8⟩ := w6
      exact ⟨a, b, xs, ys, rfl, .inr ⟨SqT.of (R1.le _ _ w5), SqT.of (R1.le _ _ w6), k _ S1 H1 fp1 [] R1 E1 (itzt_ok (fun S H e1 e2 => SqT.of (e2 _ _ (e1 _ _ w5))) w7 (fun S H e1 e2 => SqT.of (e2 _ _ (e1 _ _ w6))) w8) (by intro b m; cases m)⟩⟩
  · cases h2
end
/-! the plain side -/
def Enm (os : List O) (Q : List D → Prop) (_h : Hold Q := ⟨⟩) : Prop := match os with
  | [o] => O1 (lstO o) fun ts => Q (enumD ts)
  | _ => False
def Zp (os : List O) (Q : List D → Prop) (_h : Hold Q := ⟨⟩) : Prop := match os with
  | [a, b] => O1 (zipO a b) Q
  | _ => False
section
variable {env : Env} {g : ASem} {ts us : List D}
theorem w_enum {Q : List D → Env → Prop} : Wi (enumI g) env Q ↔ Wa g env fun os e => Enm os fun ts => Q ts e := by
  unfold Wi Wa enumI Enm
  cases h : g env with
  | none => exact Iff.rfl
  | some p =>
    obtain ⟨os, e⟩ := p
    simp only [Option.bind_some, o2_s]
    match os with
    | [] => exact Iff.rfl
    | [o] =>
      simp only
      cases lstO o <;> exact Iff.rfl
    | _ :: _ :: _ => exact Iff.rfl
theorem w_zip {Q : List D → Env → Prop} : Wi (zipI g) env Q ↔ Wa g env fun os e => Zp os fun ts => Q ts e := by
  unfold Wi Wa zipI Zp
  cases h : g env with
  | none => exact Iff.rfl
  | some p =>
    obtain ⟨os, e⟩ := p
    simp only [Option.bind_some, o2_s]
    match os with
    | [] => exact Iff.rfl
    | [o] => exact Iff.rfl
    | [a, b] =>
      simp only
      cases zipO a b <;> exact Iff.rfl
    | _ :: _ :: _ :: _ => exact Iff.rfl
theorem enm_l {Q : List D → Prop} : Enm [.leaf (.list ts)] Q ↔ Q (enumD ts) := Iff.rfl
theorem enm_o {Q : List D → Prop} : Enm [.ls ts] Q ↔ Q (enumD ts) := Iff.rfl
theorem zp_ll {Q : List D → Prop} : Zp [.leaf (.list ts), .leaf (.list us)] Q ↔ Q (zipD ts us) := Iff.rfl
theorem zp_lo {Q : List D → Prop} : Zp [.leaf (.list ts), .ls us] Q ↔ Q (zipD ts us) := Iff.rfl
theorem zp_ol {Q : List D → Prop} : Zp [.ls ts, .leaf (.list us)] Q ↔ Q (zipD ts us) := Iff.rfl
theorem zp_oo {Q : List D → Prop} : Zp [.ls ts, .ls us] Q ↔ Q (zipD ts us) := Iff.rfl
theorem zp_tt {Q : List D → Prop} : Zp [.leaf (.tuple ts), .leaf (.tuple us)] Q ↔ Q (zipD ts us) := Iff.rfl
end
end Mv

set_option Elab.async false
set_option linter.all false
set_option maxRecDepth 100000
set_option maxHeartbeats 2000000
namespace Mv
open PySem PySem.Spec PyProof.Rows L2
theorem se_andI {X : Cx} {op : BoolOp} {a : Expr} {f : ESem} {q m : Bool} {pos : Pos} (h : SE X a f q m) : SE X (.BoolOp op [a] pos) f q m := se_and1 h
/-! ### isinstance(x, (list, tuple)) -/
def seqD : D → Bool
  | .list _ => true
  | .tuple _ => true
  | _ => false
def isaLT (t : D) : Option D := if okd 50 t = true then some (.bool (seqD t)) else none
section
variable {X : Cx}
theorem kit_lt {K : PySem.W.Frag} (T : String) (h1 : PySem.W.kitOne K (.type T) (.type "list") = some (T == "list")) (h2 : PySem.W.kitOne K (.type T) (.type "tuple") = some (T == "tuple")) : PySem.W.kitAny K (.type T) [.type "list", .type "tuple"] = some (T == "list" || T == "tuple") := by
  unfold PySem.W.kitAny
  rw [h1]
  cases T == "list"
  · simp only [PySem.W.kitAny, h2]
    cases T == "tuple" <;> rfl
  · rfl
theorem cr_isaLT : CallR X (.builtin "isinstance") (fun xs H Q => ∃ x t tp, xs = [x, .ref tp] ∧ H tp = some (.tup [.ty "list", .ty "tuple"]) ∧ Fz X.K H t x ∧ okd 50 t = true ∧ Q (.bl (seqD t)) H) := by
  intro pins s σ H xs us Q I r h
  obtain ⟨x, t, tp, rfl, hT, w, ok, q⟩ := h
  obtain ⟨u1, u2, rfl, r1, r2⟩ := vals2 r
  cases (show u2 = Value.ref tp from r2)
  obtain ⟨as, ra⟩ := fz_reads I (okd_spec ok).1 w r1
  obtain ⟨_, its, rv, o, h1, h2, n, h3⟩ := (show ObjOk X.prog X.w H s.heap tp (.tup [.ty "list", .ty "tuple"]) from I.hok tp _ hT)
  have e3 := ClsV.all (.cons (.ty "list") (.cons (.ty "tuple") .nil)) rv
  subst e3
  obtain ⟨oc, od, dt, sl⟩ := o
  simp only at h2 h3
  subst h2 h3
  have fin : ∀ {P : Heap → Prop} {T : String} {b : Bool}, PySem.W.KitX X.K u1 (.type T) P → P s.heap → u1 ≠ .builtin "__main__.__loader__#opaque" → PySem.W.kitAny X.K (.type T) [.type "list", .type "tuple"] = some b → b = seqD t → wpAny (model X.prog X.w) X.A (call (.builtin "isinstance") [u1, .ref tp]) (fun v s' => ∃ y H', Inv X pins σ H' s' ∧ RelV y v ∧ Q y H') X.xe s := fun Z p hx e eb => by
    refine PySem.W.kia_tup Z I.kIn p h1 e hx fun tk => ⟨.bl _, H, I.tok tk, rfl, ?_⟩
    rw [eb]
    exact q
  cases ra with
  | none => exact fin PySem.W.kitx_none True.intro (fun z => nomatch z) (kit_lt "NoneType" rfl rfl) rfl
  | bool b => exact fin PySem.W.kitx_bool True.intro (fun z => nomatch z) (kit_lt "bool" rfl rfl) rfl
  | int n t => exact fin PySem.W.kitx_int True.intro (fun z => nomatch z) (kit_lt "int" rfl rfl) rfl
  | str x t => exact fin PySem.W.kitx_str True.intro (fun z => nomatch z) (kit_lt "str" rfl rfl) rfl
  | list g1 g2 g3 g4 => exact fin PySem.W.kitx_list ⟨_, g1, g2⟩ (fun z => nomatch z) (kit_lt "list" rfl rfl) rfl
  | tuple g1 g2 g3 g4 => exact fin PySem.W.kitx_tuple ⟨_, g1, g2⟩ (fun z => nomatch z) (kit_lt "tuple" rfl rfl) rfl
  | dict g1 g2 g3 g4 g5 => cases ok
theorem se_isaLT {a : Expr} {f : ESem} {q m : Bool} {pos p p1 p2 p3 : Pos} {kk} (hg : Gl X "isinstance") (hm : X.mg "isinstance" = none) (hgL : Gl X "list") (hmL : X.mg "list" = none) (hgT : Gl X "tuple") (hmT : X.mg "tuple" = none) (h : SE X a f q m) (hvI : bootBuiltins "isinstance" = some (.builtin "isinstance") := by decide +kernel)
    (hvL : bootBuiltins "list" = some (.type "list") := by decide +kernel) (hvT : bootBuiltins "tuple" = some (.type "tuple") := by decide +kernel)
    (he : starEach [a, .Tuple [.Name "list" p1, .Name "tuple" p2] kk p3] X.env = (false, eval a X.env) :: starEach [.Tuple [.Name "list" p1, .Name "tuple" p2] kk p3] X.env := by rfl) (he2 : starEach [.Tuple [.Name "list" p1, .Name "tuple" p2] kk p3] X.env = (false, eval (.Tuple [.Name "list" p1, .Name "tuple" p2] kk p3) X.env) :: starEach [] X.env := by rfl) (hpl : (backTo pos (starEach [.Tuple [.Name "list" p1, .Name "tuple" p2] kk p3] X.env)).any (·.1) = false := by rfl)
    (he3 : starEach [.Name "list" p1, .Name "tuple" p2] X.env = (false, eval (.Name "list" p1) X.env) :: starEach [.Name "tuple" p2] X.env := by rfl) (he4 : starEach [.Name "tuple" p2] X.env = (false, eval (.Name "tuple" p2) X.env) :: starEach [] X.env := by rfl) :
    SE X (.Call (.Name "isinstance" p) [a, .Tuple [.Name "list" p1, .Name "tuple" p2] kk p3] [] pos) (un f (vw1 isaLT)) q true := by
  refine ⟨PE.imp (pe_callB cr_isaLT hg hm hvI (pa_cons h.pe (pa_cons (pe_tup (pa_cons (pe_bltn (v := .ty "list") hgL hmL hvL rfl (by decide) (by decide)) (pa_cons (pe_bltn (v := .ty "tuple") hgT hmT hvT rfl (by decide) (by decide)) pa_nil he4) he3)) pa_nil he2) he) (by decide) (by decide) he hpl) fun σ H Q hw => ?_, un_qf h.qf⟩
  refine imp1 (r := fun x H Q => 2 ≤ sizeLine ∧ ∀ tp, H tp = none → ∃ x' t tp', [x, V.ref tp] = [x', .ref tp'] ∧ upd H tp (.tup [.ty "list", .ty "tuple"]) tp' = some (.tup [.ty "list", .ty "tuple"]) ∧ Fz X.K (upd H tp (.tup [.ty "list", .ty "tuple"])) t x' ∧ okd 50 t = true ∧ Q (.bl (seqD t)) (upd H tp (.tup [.ty "list", .ty "tuple"]))) ?_ hw
  intro S H x o fr1 z Q le w e k
  unfold vw1 at e
  simp only [Option.bind_eq_some_iff] at e
  obtain ⟨t, e1, u, e2, e3⟩ := e
  unfold isaLT at e2
  split at e2
  · rename_i ok
    cases e2
    cases e3
    have wv := ow_view le w e1
    refine ⟨by decide, fun tp htp => ⟨x, t, tp, rfl, upd_same, ?_, ok, ?_⟩⟩
    · exact wv.same (Gr.newH le htp).grow
    · exact k _ S _ [] (Gr.newH le htp) (ow_leaf (by simp only [Fz])) New.nil
  · cases e2
end
/-! ### extend by a list of one's own -/
def gExtend (o : O) (os : List O) : Option (O × D) := match o, os with
  | .ls ts, [.ls us] => if ts.length + us.length ≤ 16000000 then some (.ls (ts ++ us), .none) else none
  | _, _ => none
theorem rm_extend {K : PySem.W.Frag} : RM K "list" rExtend gExtend := by
  refine ⟨fun S H x o fr os z le w e => ?_, fun S H x o fr os vs fa o' z Q le un nd w wa e k => ?_⟩
  · unfold gExtend at e
    split at e
    · exact ls_ty w
    · cases e
  · unfold gExtend at e
    split at e
    · split at e
      · rename_i hl
        cases e
        obtain ⟨a, xs, rfl, h1, rfl, h2⟩ := ow_lsE w
        obtain ⟨v, vr, f1, f2, rfl, rfl, w1, w2⟩ := wa
        obtain ⟨rfl, rfl⟩ := w2
        obtain ⟨b, ys, rfl, h3, rfl, h4⟩ := ow_lsE w1
        exact ⟨a, b, xs, ys, rfl, rfl, h1, h3, by rw [h2.len, h4.len]; exact Nat.le_trans hl (by decide), ls_upd (h2.append h4) (by simp only [Fz]) rfl k⟩
      · cases e
    · cases e
/-! ### a def that calls itself: as deep as asked -/
def fuel (F : Def → Def) : Nat → Def
  | 0 => fun _ => none
  | n + 1 => F (fuel F n)
theorem cal_none {P : Program} {w : World} {K : PySem.W.Frag} {mg : Str → Option Value} {base : Heap} {x : Str} {ps : List Str} {f : Addr} {fd : FuncData} {k : Nat} (hm : mg x = some (.ref f)) (hk : PySem.W.keepIn K (.ref f) = true) (hb : Binds K fd ps []) : Cal P w K mg base k x ps (fun _ => none) :=
  ⟨f, fd, hm, hk, hb, ⟨fun vs H Q E h => (by obtain ⟨_, _, _, _, _, _, _, e, _⟩ := h; cases e), fun _ _ _ _ _ _ _ _ _ _ _ _ _ h => (by obtain ⟨_, _, _, _, _, _, _, e, _⟩ := h; cases e)⟩⟩
theorem cal_rec {P : Program} {w : World} {K : PySem.W.Frag} {mg : Str → Option Value} {base : Heap} {x : Str} {ps : List Str} {k0 : Nat} {F : Def → Def} (h0 : Cal P w K mg base k0 x ps (fun _ => none)) (hs : ∀ k g, k0 ≤ k → Cal P w K mg base k x ps g → Cal P w K mg base (k + 1) x ps (F g)) : ∀ n, Cal P w K mg base (k0 + n) x ps (fuel F n)
  | 0 => h0
  | n + 1 => hs (k0 + n) _ (Nat.le_add_right _ _) (cal_rec h0 hs n)
/-! the plain side -/
section
variable {Q : O → Prop} {i : Int} {ts us : List D} {a : Option Int}
theorem p_isLTi : Op1 (vw1 isaLT) (.leaf (.int i)) Q ↔ Q (.leaf (.bool false)) := Iff.rfl
theorem p_isLTn : Op1 (vw1 isaLT) (.leaf .none) Q ↔ Q (.leaf (.bool false)) := Iff.rfl
theorem p_isSi : Op1 (vw1 (isaI .str)) (.leaf (.int i)) Q ↔ Q (.leaf (.bool false)) := Iff.rfl
theorem p_isBn : Op1 (vw1 (isaI .bool)) (.leaf .none) Q ↔ Q (.leaf (.bool false)) := Iff.rfl
theorem p_extend {P : O → D → Prop} : OpM gExtend (.ls ts) [.ls us] P ↔ ts.length + us.length ≤ 16000000 ∧ P (.ls (ts ++ us)) .none := by
  by_cases h : ts.length + us.length ≤ 16000000 <;> simp [OpM, gExtend, h, O2]
theorem p_extendS : (gExtend (.ls ts) [.ls us]).isSome = true ↔ ts.length + us.length ≤ 16000000 := by
  by_cases h : ts.length + us.length ≤ 16000000 <;> simp [gExtend, h]
theorem p_appendS {t : D} : (gAppend (.ls ts) [.leaf t]).isSome = true ↔ ts.length < 16000000 := by
  by_cases h : ts.length < 16000000 <;> simp [gAppend, h]
end
/-- a pair of numbers -/
def pD (p : Int × Int) : D := .tuple [.int p.1, .int p.2]
end Mv

set_option Elab.async false
set_option linter.all false
set_option maxRecDepth 100000
set_option maxHeartbeats 2000000
namespace Mv
open PySem PySem.Spec PyProof.Rows L2
/-! ### a text's method of one argument -/
def strM (f1 f2 : ESem) (g : Str → O → Option D) : ESem := fun env => (f1 env).bind fun p => match p.1 with
  | .leaf (.str a) => (f2 p.2).bind fun r => (g a r.1).bind fun z => if flatD z = true then some (.leaf z, r.2) else none
  | _ => none
def RMS (K : PySem.W.Frag) (r : V → List V → Hp → VK → Prop) (g : Str → O → Option D) : Prop :=
  ∀ S H a y o fr z Q, Same S H → Ow K S H o y fr → g a o = some z → flatD z = true → Q (valD z) H → r (.str a) [y] H Q
theorem strM_some {f1 f2 : ESem} {g : Str → O → Option D} {env env' : Env} {z : O} (h : strM f1 f2 g env = some (z, env')) : ∃ a e1 r d, f1 env = some (.leaf (.str a), e1) ∧ f2 e1 = some (r, env') ∧ g a r = some d ∧ flatD d = true ∧ z = .leaf d := by
  unfold strM at h
  simp only [Option.bind_eq_some_iff] at h
  obtain ⟨⟨o, e1⟩, h1, h2⟩ := h
  simp only at h1 h2
  split at h2
  · rename_i a
    simp only [Option.bind_eq_some_iff] at h2
    obtain ⟨⟨r, e2⟩, h3, d, h4, h5⟩ := h2
    split at h5
    · rename_i hf
      cases h5
      exact ⟨a, e1, r, d, h1, h3, h4, hf, rfl⟩
    · cases h5
  · cases h2
theorem strM_core {K : PySem.W.Frag} {r : V → List V → Hp → VK → Prop} {g : Str → O → Option D} {f1 f2 : ESem} {q1 q2 m1 m2 : Bool} (hr : RMS K r g) {σ : L2.St} {H : Hp} {Q : VK}
    (h : tE K (strM f1 f2 g) (q1 && q2) true σ H Q) : tM1 r (tE K f1 q1 m1) (tE K f2 q2 m2) σ H Q := by
  obtain ⟨env, S, fp, z, env2, R, he, k⟩ := h
  obtain ⟨a, e1, r2, d, h1, h2, hg, hf, rfl⟩ := strM_some he
  refine ⟨env, S, fp, _, e1, R, h1, fun x S1 H1 fp1 fr1 R1 E1 w1 g1 n1 => ?_⟩
  have hx : x = .str a := by
    have := (ow_leafE w1).2
    simpa only [Fz] using this
  subst hx
  refine ⟨⟨a, rfl⟩, e1, S1, fp1, r2, env2, R1, h2, fun y S2 H2 fp2 fr2 R2 E2 w2 g2 n2 => ?_⟩
  refine hr S2 H2 a y r2 fr2 d Q R2.le w2 hg hf ?_
  refine k (valD d) S2 H2 fp2 [] R2 (E1.trans E2) (ow_leaf (fz_flat hf)) (fun e => ?_) fun _ => Fresh.nil
  rw [Bool.and_eq_true] at e
  exact ⟨(g2 e.2).1.trans (g1 e.1).1, (g1 e.1).2.trans (g2 e.2).2⟩
theorem strM_qf {f1 f2 : ESem} {g : Str → O → Option D} {q1 q2 : Bool} (h1 : q1 = true → ∀ env r env', f1 env = some (r, env') → env' = env) (h2 : q2 = true → ∀ env r env', f2 env = some (r, env') → env' = env) :
    (q1 && q2) = true → ∀ env r env', strM f1 f2 g env = some (r, env') → env' = env := by
  intro e env r env' h
  rw [Bool.and_eq_true] at e
  obtain ⟨a, e1, r2, d, h3, h4, _⟩ := strM_some h
  rw [h2 e.2 _ _ _ h4, h1 e.1 _ _ _ h3]
def strsD : List D → Option (List Str)
  | [] => some []
  | .str i :: r => (strsD r).map (i :: ·)
  | _ => none
theorem strsD_some : ∀ {ts : List D} {ns : List Str}, strsD ts = some ns → ts = ns.map .str
  | [], ns, h => by cases h; rfl
  | .str i :: r, ns, h => by
    simp only [strsD, Option.map_eq_some_iff] at h
    obtain ⟨z, h, rfl⟩ := h
    rw [strsD_some h]
    rfl
def gJoin (a : Str) (o : O) : Option D := (seqO o).bind fun ts => (strsD ts).bind fun ys => if (ys.map (·.length)).sum + ys.length * a.length ≤ 16777216 then some (.str (Txt.join a ys)) else none
theorem rms_join {K : PySem.W.Frag} : RMS K (fun x xs H Q => ∃ a p, ∃ ys : List Str, x = .str a ∧ xs = [.ref p] ∧ (SqL K H p (ys.map V.str) ∨ SqT K H p (ys.map V.str)) ∧ (ys.map (·.length)).sum + ys.length * a.length ≤ 16777216 ∧ Q (.str (Txt.join a ys)) H) gJoin := by
  intro S H a y o fr z Q le w e hf q
  unfold gJoin at e
  simp only [Option.bind_eq_some_iff] at e
  obtain ⟨ts, h1, ys, h2, h3⟩ := e
  split at h3
  · rename_i hl
    cases h3
    have := strsD_some h2
    subst this
    obtain ⟨p, vs, rfl, h4, h5⟩ := seqO_S le w h1
    have e2 := fz_strs h5
    subst e2
    refine ⟨a, p, ys, rfl, rfl, ?_, hl, q⟩
    rcases h4 with h4 | h4
    · exact .inl h4.sq
    · exact .inr (SqT.of h4)
  · cases h3
section
variable {X : Cx} {o e : Expr} {f1 f2 : ESem} {q1 q2 m1 m2 : Bool}
theorem se_join {apos pos : Pos} (ho : SE X o f1 q1 m1) (he : SE X e f2 q2 m2) (hs : starEach [e] X.env = [(false, eval e X.env)] := by rfl) (hbase : attributeBase o "join" X.env (eval o X.env) = eval o X.env := by rfl) (hline : (apos.endLine == pos.line) = true := by rfl) :
    SE X (.Call (.Attribute o "join" apos) [e] [] pos) (strM f1 f2 gJoin) (q1 && q2) true :=
  ⟨PE.imp (pe_join ho.pe he.pe hs hbase hline) fun _ _ _ h => strM_core rms_join h, strM_qf ho.qf he.qf⟩
end
end Mv

set_option Elab.async false
set_option linter.all false
set_option maxRecDepth 100000
set_option maxHeartbeats 2000000
namespace Mv
open PySem PySem.Spec PyProof.Rows L2
/-! ### a list times a number -/
def repN : O → Option Int
  | .leaf (.int k) => some k
  | _ => none
def repL (a b : O) : Option O := match a with
  | .ls ts => (repN b).bind fun k => if -(2 ^ 63) ≤ k ∧ k < 2 ^ 63 ∧ ts.length * k.toNat ≤ sizeLine then some (.ls (List.replicate k.toNat ts).flatten) else none
  | _ => none
theorem FzL.flat {K : PySem.W.Frag} {S : Hp} {ts : List D} {vs : List V} (w : FzL K S ts vs) : ∀ n : Nat, FzL K S (List.replicate n ts).flatten (List.replicate n vs).flatten
  | 0 => FzL.nil
  | n + 1 => by
    rw [List.replicate_succ, List.replicate_succ, List.flatten_cons, List.flatten_cons]
    exact w.append (FzL.flat w n)
theorem ro_rep {K : PySem.W.Frag} : RO2 K rRep repL := by
  intro S H x y o1 o2 fr1 fr2 z Q le w1 w2 e k
  unfold repL at e
  split at e
  · simp only [Option.bind_eq_some_iff] at e
    obtain ⟨j, h1, h3⟩ := e
    split at h3
    · rename_i hl
      cases h3
      obtain ⟨a, vs, rfl, ha, rfl, za⟩ := ow_lsE w1
      have hy : y = .int j := by
        unfold repN at h1
        split at h1
        · cases h1
          have := (ow_leafE w2).2
          simpa only [Fz] using this
        · cases h1
      exact ⟨a, j, vs, rfl, hy, ha, hl.1, hl.2.1, by rw [za.len]; exact hl.2.2, newL le (za.flat _) rfl k⟩
    · cases h3
  · cases e
def oMul (a b : O) : Option O := (vw2 mulI a b).or (repL a b)
theorem op_mulA {X : Cx} : OpR X (binaryOp .Mult) (fun x y H Q => rI CMulX (fun i j => .int (i * j)) x y H Q ∨ rRep x y H Q) := op_mulX.or op_rep
theorem ro_mulA {K : PySem.W.Frag} : RO2 K (fun x y H Q => rI CMulX (fun i j => .int (i * j)) x y H Q ∨ rRep x y H Q) oMul := RO2.or ro_mul ro_rep
section
variable {i j : Int} {ts us : List D} {t : D} {Q : O → Prop}
theorem p_mulO : Op2 oMul (.leaf (.int i)) (.leaf (.int j)) Q ↔ MulOk i j ∧ Q (.leaf (.int (i * j))) := by
  have : oMul (.leaf (.int i)) (.leaf (.int j)) = vw2 mulI (.leaf (.int i)) (.leaf (.int j)) := by
    unfold oMul
    cases vw2 mulI (.leaf (.int i)) (.leaf (.int j)) <;> rfl
  unfold Op2
  rw [this]
  exact p_mul
theorem p_rep : Op2 oMul (.ls ts) (.leaf (.int j)) Q ↔ (-(2 ^ 63) ≤ j ∧ j < 2 ^ 63 ∧ ts.length * j.toNat ≤ sizeLine) ∧ Q (.ls (List.replicate j.toNat ts).flatten) := by
  unfold Op2
  exact o1_if (p := -(2 ^ 63) ≤ j ∧ j < 2 ^ 63 ∧ ts.length * j.toNat ≤ sizeLine)
theorem p_rep0 : Op2 oMul (.ls ts) (.leaf (.int 0)) Q ↔ Q (.ls []) := by
  rw [p_rep]
  simp
theorem p_rep1 : Op2 oMul (.ls ts) (.leaf (.int 1)) Q ↔ ts.length ≤ sizeLine ∧ Q (.ls ts) := by
  rw [p_rep]
  simp
theorem p_repB {b : Bool} : Op2 oMul (.ls ts) (.leaf (.int (if b then 1 else 0))) Q ↔ (b = true → ts.length ≤ sizeLine) ∧ Q (.ls (if b then ts else [])) := by
  rw [p_rep]
  cases b <;> simp
end
/-! ### while -/
def Ww (n : Nat) (c : TSem) (b : SSem) (env : Env) (Q : Out → Env → Prop) (_h : Hold Q := ⟨⟩) : Prop := O2 (whileL c b n env) Q
section
variable {n : Nat} {c : TSem} {b : SSem} {env : Env} {Q : Out → Env → Prop}
theorem w_while : Ws (whileS n c b) env Q ↔ Ww n c b env Q := Iff.rfl
theorem ww_succ : Ww (n + 1) c b env Q ↔ Wt c env fun t e => Br t (Ws b e (lpk (fun e => Ww n c b e Q) Q)) (Q .nx e) := by
  unfold Ww Wt Ws
  rw [whileL]
  cases h1 : c env with
  | none => exact Iff.rfl
  | some p =>
    obtain ⟨t, e1⟩ := p
    simp only [Option.bind_some, o2_s]
    cases t
    · exact Iff.rfl
    · simp only [if_true, br_t]
      cases h2 : b e1 with
      | none => exact Iff.rfl
      | some r =>
        obtain ⟨o, e2⟩ := r
        cases o <;> exact Iff.rfl
theorem ww_inv {I : Nat → Env → Prop} (hs : ∀ m e, I m e → Wt c e fun t e1 => Br t (Ws b e1 (lpk (fun e2 => ∃ m', m' < m ∧ I m' e2) Q)) (Q .nx e1)) : ∀ {n m : Nat} {env : Env}, m < n → I m env → Ww n c b env Q
  | 0, _, _, h, _ => absurd h (Nat.not_lt_zero _)
  | n + 1, m, env, h, h0 => by
    rw [ww_succ]
    refine O2.mono (hs m env h0) fun t e1 h1 => ?_
    cases t
    · exact h1
    · refine O2.mono (show O2 (b e1) _ from h1) fun o e2 h2 => ?_
      have rest : (∃ m', m' < m ∧ I m' e2) → Ww n c b e2 Q := fun ⟨m', h3, h4⟩ => ww_inv hs (by omega) h4
      cases o with
      | nx => exact rest h2
      | ct => exact rest h2
      | bk => exact h2
      | rt r => exact h2
end
/-! ### more operators -/
theorem okd_le : ∀ {n m : Nat} {t : D}, n ≤ m → okd n t = true → okd m t = true
  | n, m, .none, _, _ => by cases m <;> rfl
  | n, m, .bool _, _, _ => by cases m <;> rfl
  | n, m, .int _, _, _ => by cases m <;> rfl
  | n, m, .str _, _, _ => by cases m <;> rfl
  | 0, m, .list ts, _, h => by simp [okd] at h
  | 0, m, .tuple ts, _, h => by simp [okd] at h
  | n + 1, 0, .list ts, l, h => absurd l (by omega)
  | n + 1, 0, .tuple ts, l, h => absurd l (by omega)
  | n + 1, m + 1, .list ts, l, h => by
    rw [okd, List.all_eq_true] at h ⊢
    exact fun t ht => okd_le (by omega) (h t ht)
  | n + 1, m + 1, .tuple ts, l, h => by
    rw [okd, List.all_eq_true] at h ⊢
    exact fun t ht => okd_le (by omega) (h t ht)
  | 0, m, .dict _, _, h => by simp [okd] at h
  | n + 1, m, .dict _, _, h => by simp [okd] at h
/-- plain data of lists and tuples that are not too long -/
def okz : Nat → D → Bool
  | _, .none => true
  | _, .bool _ => true
  | _, .int _ => true
  | _, .str _ => true
  | n + 1, .list ts => decide (ts.length ≤ 1000000) && ts.all (okz n)
  | n + 1, .tuple ts => decide (ts.length ≤ 1000000) && ts.all (okz n)
  | _, _ => false
theorem okz_okd : ∀ {n : Nat} {t : D}, okz n t = true → okd n t = true
  | n, .none, _ => by cases n <;> rfl
  | n, .bool _, _ => by cases n <;> rfl
  | n, .int _, _ => by cases n <;> rfl
  | n, .str _, _ => by cases n <;> rfl
  | 0, .list ts, h => by simp [okz] at h
  | 0, .tuple ts, h => by simp [okz] at h
  | n + 1, .list ts, h => by
    rw [okz, Bool.and_eq_true, List.all_eq_true] at h
    rw [okd, List.all_eq_true]
    exact fun t ht => okz_okd (h.2 t ht)
  | n + 1, .tuple ts, h => by
    rw [okz, Bool.and_eq_true, List.all_eq_true] at h
    rw [okd, List.all_eq_true]
    exact fun t ht => okz_okd (h.2 t ht)
  | 0, .dict _, h => by simp [okz] at h
  | n + 1, .dict _, h => by simp [okz] at h
theorem okz_le : ∀ {n m : Nat} {t : D}, n ≤ m → okz n t = true → okz m t = true
  | n, m, .none, _, _ => by cases m <;> rfl
  | n, m, .bool _, _, _ => by cases m <;> rfl
  | n, m, .int _, _, _ => by cases m <;> rfl
  | n, m, .str _, _, _ => by cases m <;> rfl
  | 0, m, .list ts, _, h => by simp [okz] at h
  | 0, m, .tuple ts, _, h => by simp [okz] at h
  | n + 1, 0, .list ts, l, h => absurd l (by omega)
  | n + 1, 0, .tuple ts, l, h => absurd l (by omega)
  | n + 1, m + 1, .list ts, l, h => by
    rw [okz, Bool.and_eq_true, List.all_eq_true] at h ⊢
    exact ⟨h.1, fun t ht => okz_le (by omega) (h.2 t ht)⟩
  | n + 1, m + 1, .tuple ts, l, h => by
    rw [okz, Bool.and_eq_true, List.all_eq_true] at h ⊢
    exact ⟨h.1, fun t ht => okz_le (by omega) (h.2 t ht)⟩
  | 0, m, .dict _, _, h => by simp [okz] at h
  | n + 1, m, .dict _, _, h => by simp [okz] at h
theorem okz_list {n : Nat} {ts : List D} : okz (n + 1) (.list ts) = true ↔ ts.length ≤ 1000000 ∧ ∀ t ∈ ts, okz n t = true := by
  rw [okz, Bool.and_eq_true, decide_eq_true_iff, List.all_eq_true]
theorem okz_tuple {n : Nat} {ts : List D} : okz (n + 1) (.tuple ts) = true ↔ ts.length ≤ 1000000 ∧ ∀ t ∈ ts, okz n t = true := by
  rw [okz, Bool.and_eq_true, decide_eq_true_iff, List.all_eq_true]
theorem okz_int {n : Nat} {i : Int} : okz n (.int i) = true := by cases n <;> rfl
theorem okz_bool {n : Nat} {i : Bool} : okz n (.bool i) = true := by cases n <;> rfl
theorem okz_none {n : Nat} : okz n .none = true := by cases n <;> rfl
theorem okz_str {n : Nat} {i : Str} : okz n (.str i) = true := by cases n <;> rfl
theorem okz_opt {n : Nat} {a : Option Int} : okz n (optD a) = true := by cases a <;> first | exact okz_none | exact okz_int
theorem okz_pair {n : Nat} {p : Int × Int} : okz (n + 1) (pD p) = true := by
  rw [pD, okz_tuple]
  refine ⟨by simp, fun t ht => ?_⟩
  rcases List.mem_cons.mp ht with rfl | ht
  · exact okz_int
  · rw [List.mem_singleton.mp ht]
    exact okz_int
theorem okz_ints {n : Nat} {ns : List Int} (h : ns.length ≤ 1000000) : okz (n + 1) (.list (ns.map .int)) = true := by
  rw [okz_list]
  refine ⟨by simpa using h, fun t ht => ?_⟩
  obtain ⟨i, _, rfl⟩ := List.mem_map.mp ht
  exact okz_int
theorem okz_pairs {n : Nat} {ps : List (Int × Int)} (h : ps.length ≤ 1000000) : okz (n + 2) (.list (ps.map pD)) = true := by
  rw [okz_list]
  refine ⟨by simpa using h, fun t ht => ?_⟩
  obtain ⟨i, _, rfl⟩ := List.mem_map.mp ht
  exact okz_pair
mutual
theorem eqv_refl : ∀ {n : Nat} {t : D}, okd n t = true → PyData.eqv t t = true
  | n, .none, _ => rfl
  | n, .bool b, _ => by simp [PyData.eqv]
  | n, .int b, _ => by simp [PyData.eqv]
  | n, .str b, _ => by simp [PyData.eqv]
  | 0, .list ts, h => by simp [okd] at h
  | 0, .tuple ts, h => by simp [okd] at h
  | n + 1, .list ts, h => by
    rw [okd, List.all_eq_true] at h
    rw [PyData.eqv]
    exact eqv_reflA h
  | n + 1, .tuple ts, h => by
    rw [okd, List.all_eq_true] at h
    rw [PyData.eqv]
    exact eqv_reflA h
  | 0, .dict _, h => by simp [okd] at h
  | n + 1, .dict _, h => by simp [okd] at h
theorem eqv_reflA : ∀ {n : Nat} {ts : List D}, (∀ t ∈ ts, okd n t = true) → PyData.eqvAll ts ts = true
  | n, [], _ => rfl
  | n, t :: ts, h => by
    rw [PyData.eqvAll, eqv_refl (h t List.mem_cons_self), eqv_reflA fun u hu => h u (List.mem_cons_of_mem _ hu)]
    rfl
end
section
variable {i j : Int} {ts us : List D} {t : D} {Q : O → Prop}
theorem eqI_self {n : Nat} {neg : Bool} (hn : n ≤ 50) (h : okz n t = true) : eqI neg t t = some (.bool !neg) := by
  have h2 := okd_le hn (okz_okd h)
  unfold eqI
  rw [h2]
  simp only [Bool.and_self, if_true]
  rw [eqv_refl h2]
  cases neg <;> rfl
theorem frz_eqE {a b : O} (ha : a.frz = some t) (hb : b.frz = some t) {n : Nat} {neg : Bool} (hn : n ≤ 50) (h : okz n t = true) (k : Q (.leaf (.bool !neg))) : Op2 (vw2 (eqI neg)) a b Q :=
  (vw2_of ha hb (eqI_self hn h) rfl).mpr k
theorem p_isa {k : Tyk} {n : Nat} (hn : n ≤ 50) (h : okz n t = true) : Op1 (vw1 (isaI k)) (.leaf t) Q ↔ Q (.leaf (.bool (k.is t))) := by
  unfold Op1 vw1 isaI
  have h2 := okd_le hn (okz_okd h)
  simp [O.frz, h2, flatD, O1]
theorem p_isLT {n : Nat} (hn : n ≤ 50) (h : okz n t = true) : Op1 (vw1 isaLT) (.leaf t) Q ↔ Q (.leaf (.bool (seqD t))) := by
  unfold Op1 vw1 isaLT
  have h2 := okd_le hn (okz_okd h)
  simp [O.frz, h2, flatD, O1]
theorem p_insert {P : O → D → Prop} : OpM gInsert (.ls ts) [.leaf (.int i), .leaf t] P ↔ (ts.length < 16000000 ∧ 0 ≤ i ∧ i < 2 ^ 63) ∧ P (.ls (ts.take i.toNat ++ [t] ++ ts.drop i.toNat)) .none := by
  by_cases h : ts.length < 16000000 ∧ 0 ≤ i ∧ i < 2 ^ 63 <;> simp only [OpM, gInsert, h, O2, if_true, if_false, true_and, false_and]
theorem p_insertS : (gInsert (.ls ts) [.leaf (.int i), .leaf t]).isSome = true ↔ (ts.length < 16000000 ∧ 0 ≤ i ∧ i < 2 ^ 63) := by
  by_cases h : ts.length < 16000000 ∧ 0 ≤ i ∧ i < 2 ^ 63 <;> simp [gInsert, h]
theorem at_last {P : D → Prop} : At (ts ++ [t]) (-1) P ↔ P t := by
  unfold At atI
  have : ixN (ts ++ [t]).length (-1) = some ts.length := by
    unfold ixN
    rw [List.length_append, List.length_singleton]
    split <;> simp_all <;> omega
  rw [this]
  simp [O1]
theorem put_last {P : O → Prop} {d : D} : Op3 gSet (.ls (ts ++ [t])) (.leaf (.int (-1))) d P ↔ P (.ls (ts ++ [d])) := by
  unfold Op3 gSet
  have : ixN (ts ++ [t]).length (-1) = some ts.length := by
    unfold ixN
    rw [List.length_append, List.length_singleton]
    split <;> simp_all <;> omega
  simp only [this, Option.map_some, List.set_append_right _ _ (Nat.le_refl _), Nat.sub_self, List.set_cons_zero]
  exact Iff.rfl
theorem any_eqv {ns : List Int} : ((ns.map PyData.int).any fun u => PyData.eqv u (.int i)) = decide (i ∈ ns) := by
  induction ns with
  | nil => rfl
  | cons a r ih =>
    rw [List.map_cons, List.any_cons, ih]
    have : PyData.eqv (.int a) (.int i) = decide (a = i) := by
      show (a == i) = _
      by_cases h : a = i <;> simp [h]
    rw [this]
    by_cases h : a = i
    · simp [h]
    · have h' : ¬ i = a := fun z => h z.symm
      simp [h, h']
theorem inI_ints {neg : Bool} {ns : List Int} : inI neg (.int i) (.list (ns.map .int)) = some (.bool (if neg then !decide (i ∈ ns) else decide (i ∈ ns))) := by
  unfold inI
  have h : (ns.map PyData.int).all (okd 49) = true := by
    have := okd_ints (ns := ns) (n := 49)
    rwa [okd] at this
  show (if (okd 50 (.int i) && (ns.map PyData.int).all (okd 49)) = true then some (PyData.bool (if neg = true then !((ns.map PyData.int).any fun u => PyData.eqv u (.int i)) else (ns.map PyData.int).any fun u => PyData.eqv u (.int i))) else none) = _
  rw [h, any_eqv]
  rfl
theorem p_inl {ns : List Int} : Op2 (vw2 (inI false)) (.leaf (.int i)) (.leaf (.list (ns.map .int))) Q ↔ Q (.leaf (.bool (decide (i ∈ ns)))) := vw2_of rfl rfl inI_ints rfl
theorem p_inL {ns : List Int} : Op2 (vw2 (inI false)) (.leaf (.int i)) (.ls (ns.map .int)) Q ↔ Q (.leaf (.bool (decide (i ∈ ns)))) := vw2_of rfl rfl inI_ints rfl
theorem p_ninl {ns : List Int} : Op2 (vw2 (inI true)) (.leaf (.int i)) (.leaf (.list (ns.map .int))) Q ↔ Q (.leaf (.bool (!decide (i ∈ ns)))) := vw2_of rfl rfl inI_ints rfl
theorem p_ninL {ns : List Int} : Op2 (vw2 (inI true)) (.leaf (.int i)) (.ls (ns.map .int)) Q ↔ Q (.leaf (.bool (!decide (i ∈ ns)))) := vw2_of rfl rfl inI_ints rfl
/-- a list beside the empty one -/
theorem eqI_nil {neg : Bool} (h : ts.all (okd 49) = true) : eqI neg (.list ts) (.list []) = some (.bool (if neg then !ts.isEmpty else ts.isEmpty)) := by
  unfold eqI
  have h1 : okd 50 (.list ts) = true := by rw [okd]; exact h
  have h2 : okd 50 (.list []) = true := rfl
  rw [h1, h2]
  simp only [Bool.and_self, if_true]
  have : PyData.eqv (.list ts) (.list []) = ts.isEmpty := by
    cases ts <;> simp [PyData.eqv, PyData.eqvAll]
  rw [this]
theorem okd_pairs {ps : List (Int × Int)} : (ps.map pD).all (okd 49) = true := by
  rw [List.all_eq_true]
  intro d hd
  obtain ⟨i, _, rfl⟩ := List.mem_map.mp hd
  rfl
theorem p_eqP0 {ps : List (Int × Int)} : Op2 (vw2 (eqI false)) (.ls (ps.map pD)) (.ls []) Q ↔ Q (.leaf (.bool ps.isEmpty)) := by
  rw [vw2_of rfl rfl (eqI_nil okd_pairs) rfl]
  simp
theorem p_neP0 {ps : List (Int × Int)} : Op2 (vw2 (eqI true)) (.ls (ps.map pD)) (.ls []) Q ↔ Q (.leaf (.bool (!ps.isEmpty))) := by
  rw [vw2_of rfl rfl (eqI_nil okd_pairs) rfl]
  simp
end
/-! ### pairs in order -/
def lexle (p q : Int × Int) : Bool := decide (p.1 < q.1 ∨ (p.1 = q.1 ∧ p.2 ≤ q.2))
def psort (ps : List (Int × Int)) : List (Int × Int) := ps.mergeSort lexle
theorem psort_perm (ps : List (Int × Int)) : (psort ps).Perm ps := List.mergeSort_perm _ _
theorem psort_len (ps : List (Int × Int)) : (psort ps).length = ps.length := (psort_perm ps).length_eq
theorem psort_mem {ps : List (Int × Int)} {x : Int × Int} : x ∈ psort ps ↔ x ∈ ps := (psort_perm ps).mem_iff
theorem psort_sorted (ps : List (Int × Int)) : (psort ps).Pairwise (fun p q => p.1 < q.1 ∨ (p.1 = q.1 ∧ p.2 ≤ q.2)) := by
  have := List.pairwise_mergeSort (le := lexle) (fun a b c h1 h2 => by simp only [lexle, decide_eq_true_eq] at *; omega) (fun a b => by simp only [lexle, Bool.or_eq_true, decide_eq_true_eq]; omega) ps
  exact this.imp fun h => by simpa [lexle] using h
theorem sortD_pairs (ps : List (Int × Int)) : sortD (ps.map pD) = (psort ps).map pD := by
  unfold sortD psort
  have h := PySem.W.dataLe_ii (β := Int × Int) (fun p => p.1) (fun p => p.2)
  symm
  apply List.map_mergeSort
  intro a _ b _
  have h2 := congrFun (congrFun h a) b
  exact h2.symm
theorem sortOk_pairs {ps : List (Int × Int)} (h : ps.length ≤ 1000000) : sortOk (ps.map pD) := by
  refine ⟨?_, .inl ?_, okd_pairs, by simpa using h⟩
  · intro d hd d' hd'
    obtain ⟨i, _, rfl⟩ := List.mem_map.mp hd
    obtain ⟨j, _, rfl⟩ := List.mem_map.mp hd'
    rfl
  · intro d hd
    obtain ⟨i, _, rfl⟩ := List.mem_map.mp hd
    exact ⟨_, _, rfl⟩
open Classical in
theorem sortP_core {ps : List (Int × Int)} {o : O} (h : ps.length ≤ 1000000) (e : seqO o = some (ps.map pD)) : oSort o = some (O.ls ((psort ps).map pD)) := by
  unfold oSort
  rw [e, Option.bind_some, if_pos (sortOk_pairs h), sortD_pairs]
/-- a list or a tuple of pairs -/
def SqP (o : D) (ps : List (Int × Int)) : Prop := o = .list (ps.map pD) ∨ o = .tuple (ps.map pD)
theorem SqP.items {o : D} {ps : List (Int × Int)} (h : SqP o ps) : itemsO (.leaf o) = some (ps.map pD) := by
  rcases h with rfl | rfl <;> rfl
theorem SqP.seq {o : D} {ps : List (Int × Int)} (h : SqP o ps) : seqO (.leaf o) = some (ps.map pD) := by
  rcases h with rfl | rfl <;> rfl
theorem SqP.itm {o : D} {ps : List (Int × Int)} (h : SqP o ps) {P : List D → Prop} : Itm (.leaf o) P ↔ P (ps.map pD) := by
  unfold Itm
  rw [h.items]
  exact Iff.rfl
theorem SqP.sort {o : D} {ps : List (Int × Int)} (h : SqP o ps) (hl : ps.length ≤ 1000000) {Q : O → Prop} : Op1 oSort (.leaf o) Q ↔ Q (.ls ((psort ps).map pD)) := by
  unfold Op1
  rw [sortP_core hl h.seq]
  exact Iff.rfl
theorem SqP.list {o : D} {ps : List (Int × Int)} (h : SqP o ps) {Q : O → Prop} : Op1 oList (.leaf o) Q ↔ Q (.ls (ps.map pD)) := by
  rcases h with rfl | rfl
  · exact p_listl
  · exact p_listt
theorem SqP.len {o : D} {ps : List (Int × Int)} (h : SqP o ps) {Q : O → Prop} : Op1 oLen (.leaf o) Q ↔ Q (.leaf (.int ps.length)) := by
  rcases h with rfl | rfl
  · rw [p_lenl, List.length_map]
  · rw [p_lent, List.length_map]
theorem SqP.ix {o : D} {ps : List (Int × Int)} (h : SqP o ps) {i : Int} {Q : O → Prop} : Op2 oIx (.leaf o) (.leaf (.int i)) Q ↔ At (ps.map pD) i fun d => Q (.leaf d) := by
  rcases h with rfl | rfl
  · exact p_ixl
  · exact p_ixt
section
variable {α : Type} {set : GSem} {body : SSem} {h : α → D} {cnd : TSem} {elt : ESem} {vs : List Nat}
/-- a loop by what is left -/
theorem wf_fold {I : List α → Env → Prop} {Q : Out → Env → Prop} (hs : ∀ a r e, I (a :: r) e → Wg set (h a) e fun e1 => Ws body e1 (lpk (I r) Q)) (hq : ∀ e, I [] e → Q .nx e) : ∀ {as : List α} {env : Env}, I as env → Wf set body (as.map h) env Q
  | [], env, h0 => hq env h0
  | a :: as, env, h0 => by
    rw [List.map_cons, wf_cons]
    refine O1.mono (hs a as env h0) fun e1 h1 => O2.mono h1 fun o e2 h2 => ?_
    cases o with
    | nx => exact wf_fold hs hq h2
    | ct => exact wf_fold hs hq h2
    | bk => exact h2
    | rt r => exact h2
theorem wcl_fold {I : List α → List D → Env → Prop} (hs : ∀ a r acc e, I (a :: r) acc e → Wg set (h a) e fun e1 => Wt cnd e1 fun b e2 => Br b (We elt e2 fun x e3 => Le x fun d => I r (acc ++ [d]) (wipeE e3 vs)) (I r acc (wipeE e2 vs))) :
    ∀ {as : List α} {acc : List D} {env : Env} {Q : List D → Env → Prop}, (∀ ds e, I [] (acc ++ ds) e → Q ds e) → I as acc env → Wcl set cnd elt vs (as.map h) env Q
  | [], acc, env, Q, hq, h0 => hq [] env (by rwa [List.append_nil])
  | a :: as, acc, env, Q, hq, h0 => by
    rw [List.map_cons, wcl_cons]
    refine O1.mono (hs a as acc env h0) fun e1 h1 => O2.mono h1 fun b e2 h2 => ?_
    cases b
    · exact wcl_fold hs hq h2
    · refine br_t.mpr (O2.mono (show O2 (elt e2) _ from br_t.mp h2) fun r e3 h3 => ?_)
      cases r with
      | leaf d => exact wcl_fold hs (fun ds e h4 => hq (d :: ds) e (by rw [List.append_assoc] at h4; exact h4)) h3
      | _ => exact h3.elim
end
section
variable {ts us : List D} {Q : O → Prop} {b : Bool} {x : Str} {p : Int × Int} {ps : List (Int × Int)}
theorem p_isLTb : Op1 (vw1 isaLT) (.leaf (.bool b)) Q ↔ Q (.leaf (.bool false)) := Iff.rfl
theorem p_isLTs : Op1 (vw1 isaLT) (.leaf (.str x)) Q ↔ Q (.leaf (.bool false)) := Iff.rfl
theorem p_isIb : Op1 (vw1 (isaI .int)) (.leaf (.bool b)) Q ↔ Q (.leaf (.bool true)) := Iff.rfl
theorem p_isBb : Op1 (vw1 (isaI .bool)) (.leaf (.bool b)) Q ↔ Q (.leaf (.bool true)) := Iff.rfl
theorem p_isSb : Op1 (vw1 (isaI .str)) (.leaf (.bool b)) Q ↔ Q (.leaf (.bool false)) := Iff.rfl
theorem p_isLb : Op1 (vw1 (isaI .list)) (.leaf (.bool b)) Q ↔ Q (.leaf (.bool false)) := Iff.rfl
theorem p_isTb : Op1 (vw1 (isaI .tuple)) (.leaf (.bool b)) Q ↔ Q (.leaf (.bool false)) := Iff.rfl
theorem p_isIs : Op1 (vw1 (isaI .int)) (.leaf (.str x)) Q ↔ Q (.leaf (.bool false)) := Iff.rfl
theorem p_isBs : Op1 (vw1 (isaI .bool)) (.leaf (.str x)) Q ↔ Q (.leaf (.bool false)) := Iff.rfl
theorem p_isSs : Op1 (vw1 (isaI .str)) (.leaf (.str x)) Q ↔ Q (.leaf (.bool true)) := Iff.rfl
theorem p_isLs : Op1 (vw1 (isaI .list)) (.leaf (.str x)) Q ↔ Q (.leaf (.bool false)) := Iff.rfl
theorem p_isTs : Op1 (vw1 (isaI .tuple)) (.leaf (.str x)) Q ↔ Q (.leaf (.bool false)) := Iff.rfl
theorem p_isLi {i : Int} : Op1 (vw1 (isaI .list)) (.leaf (.int i)) Q ↔ Q (.leaf (.bool false)) := Iff.rfl
theorem p_isTi {i : Int} : Op1 (vw1 (isaI .tuple)) (.leaf (.int i)) Q ↔ Q (.leaf (.bool false)) := Iff.rfl
theorem p_isLn : Op1 (vw1 (isaI .list)) (.leaf .none) Q ↔ Q (.leaf (.bool false)) := Iff.rfl
theorem p_isTn : Op1 (vw1 (isaI .tuple)) (.leaf .none) Q ↔ Q (.leaf (.bool false)) := Iff.rfl
theorem p_isSn : Op1 (vw1 (isaI .str)) (.leaf .none) Q ↔ Q (.leaf (.bool false)) := Iff.rfl
theorem p_isNb {neg : Bool} : Op2 (vw2 (isNI neg)) (.leaf (.bool b)) (.leaf .none) Q ↔ Q (.leaf (.bool neg)) := by cases neg <;> exact Iff.rfl
theorem p_isNs {neg : Bool} : Op2 (vw2 (isNI neg)) (.leaf (.str x)) (.leaf .none) Q ↔ Q (.leaf (.bool neg)) := by cases neg <;> exact Iff.rfl
theorem p_isNt {neg : Bool} : Op2 (vw2 (isNI neg)) (.leaf (.tuple ts)) (.leaf .none) Q ↔ Q (.leaf (.bool neg)) := by cases neg <;> exact Iff.rfl
theorem p_isNl {neg : Bool} : Op2 (vw2 (isNI neg)) (.leaf (.list ts)) (.leaf .none) Q ↔ Q (.leaf (.bool neg)) := by cases neg <;> exact Iff.rfl
theorem p_isNp {neg : Bool} : Op2 (vw2 (isNI neg)) (.leaf (pD p)) (.leaf .none) Q ↔ Q (.leaf (.bool neg)) := by cases neg <;> exact Iff.rfl
theorem p_eqTT : Op2 (vw2 (eqI false)) (.leaf (.bool true)) (.leaf (.bool true)) Q ↔ Q (.leaf (.bool true)) := Iff.rfl
theorem p_eqTF : Op2 (vw2 (eqI false)) (.leaf (.bool true)) (.leaf (.bool false)) Q ↔ Q (.leaf (.bool false)) := Iff.rfl
theorem p_eqFT : Op2 (vw2 (eqI false)) (.leaf (.bool false)) (.leaf (.bool true)) Q ↔ Q (.leaf (.bool false)) := Iff.rfl
theorem p_eqFF : Op2 (vw2 (eqI false)) (.leaf (.bool false)) (.leaf (.bool false)) Q ↔ Q (.leaf (.bool true)) := Iff.rfl
theorem p_neTT : Op2 (vw2 (eqI true)) (.leaf (.bool true)) (.leaf (.bool true)) Q ↔ Q (.leaf (.bool false)) := Iff.rfl
theorem p_neTF : Op2 (vw2 (eqI true)) (.leaf (.bool true)) (.leaf (.bool false)) Q ↔ Q (.leaf (.bool true)) := Iff.rfl
theorem p_neFT : Op2 (vw2 (eqI true)) (.leaf (.bool false)) (.leaf (.bool true)) Q ↔ Q (.leaf (.bool true)) := Iff.rfl
theorem p_neFF : Op2 (vw2 (eqI true)) (.leaf (.bool false)) (.leaf (.bool false)) Q ↔ Q (.leaf (.bool false)) := Iff.rfl
theorem p_eqBs : Op2 (vw2 (eqI false)) (.leaf (.bool b)) (.leaf (.bool b)) Q ↔ Q (.leaf (.bool true)) := by cases b <;> exact Iff.rfl
theorem p_eqSs : Op2 (vw2 (eqI false)) (.leaf (.str x)) (.leaf (.str x)) Q ↔ Q (.leaf (.bool true)) := vw2_of rfl rfl (eqI_self (n := 0) (by decide) rfl) rfl
theorem p_eqIs {i : Int} : Op2 (vw2 (eqI false)) (.leaf (.int i)) (.leaf (.int i)) Q ↔ Q (.leaf (.bool true)) := vw2_of rfl rfl (eqI_self (n := 0) (by decide) rfl) rfl
theorem p_eq00 : Op2 (vw2 (eqI false)) (.ls []) (.ls []) Q ↔ Q (.leaf (.bool true)) := Iff.rfl
theorem p_ne00 : Op2 (vw2 (eqI true)) (.ls []) (.ls []) Q ↔ Q (.leaf (.bool false)) := Iff.rfl
theorem okd_pairsA : (ps.map pD ++ [pD p]).all (okd 49) = true := by
  rw [List.all_append, okd_pairs]
  rfl
theorem p_neA : Op2 (vw2 (eqI true)) (.ls (ps.map pD ++ [pD p])) (.ls []) Q ↔ Q (.leaf (.bool true)) := by
  rw [vw2_of rfl rfl (eqI_nil okd_pairsA) rfl]
  have : (ps.map pD ++ [pD p]).isEmpty = false := by cases ps <;> rfl
  rw [this]
  exact Iff.rfl
theorem p_ixp0 : Op2 oIx (.leaf (pD p)) (.leaf (.int 0)) Q ↔ Q (.leaf (.int p.1)) := Iff.rfl
theorem p_ixp1 : Op2 oIx (.leaf (pD p)) (.leaf (.int 1)) Q ↔ Q (.leaf (.int p.2)) := Iff.rfl
theorem w_gTp {n : Nat} {gs : GsSem} {env : Env} {Q : Env → Prop} : Wg (gT n gs) (pD p) env Q ↔ Wg (gT n gs) (.tuple [.int p.1, .int p.2]) env Q := Iff.rfl
theorem map_snoc {i j : Int} : ps.map pD ++ [PyData.tuple [.int i, .int j]] = (ps ++ [(i, j)]).map pD := by
  rw [List.map_append]
  rfl
theorem pD_eq {i j : Int} : PyData.tuple [.int i, .int j] = pD (i, j) := rfl
theorem at_ps {i : Int} {P : D → Prop} (h : 0 ≤ i) (h2 : i < ps.length) (k : ∀ p, ps[i.toNat]? = some p → P (pD p)) : At (ps.map pD) i P := by
  rw [at_int h, List.getElem?_map]
  have : i.toNat < ps.length := by omega
  rw [List.getElem?_eq_getElem this]
  exact k _ (List.getElem?_eq_getElem this)
theorem at_psE {i : Nat} {P : D → Prop} (h : ps[i]? = some p) : At (ps.map pD) (i : Int) P ↔ P (pD p) := by
  rw [at_nat, List.getElem?_map, h]
  exact Iff.rfl
theorem at_0 {t : D} {P : D → Prop} : At (t :: ts) 0 P ↔ P t := (at_nat (i := 0)).trans Iff.rfl
theorem at_1 {t u : D} {P : D → Prop} : At (t :: u :: ts) 1 P ↔ P u := (at_nat (i := 1)).trans Iff.rfl
theorem at_2 {t u v : D} {P : D → Prop} : At (t :: u :: v :: ts) 2 P ↔ P v := (at_nat (i := 2)).trans Iff.rfl
theorem at_3 {t u v w : D} {P : D → Prop} : At (t :: u :: v :: w :: ts) 3 P ↔ P w := (at_nat (i := 3)).trans Iff.rfl
theorem at_4 {t u v w x : D} {P : D → Prop} : At (t :: u :: v :: w :: x :: ts) 4 P ↔ P x := (at_nat (i := 4)).trans Iff.rfl
theorem zip_cc {t u : D} : zipD (t :: ts) (u :: us) = .tuple [t, u] :: zipD ts us := by
  unfold zipD
  rw [List.zip_cons_cons, List.map_cons]
theorem zip_nn : zipD [] us = [] := rfl
theorem zip_self : zipD ts ts = ts.map fun t => PyData.tuple [t, t] := by
  unfold zipD
  induction ts with
  | nil => rfl
  | cons t r ih => rw [List.zip_cons_cons, List.map_cons, List.map_cons, ih]
end
end Mv

set_option Elab.async false
set_option linter.all false
set_option maxRecDepth 100000
set_option maxHeartbeats 2000000
namespace Mv
/-! ### sets of numbers as pairs: plain mathematics -/
abbrev Rg := Int × Int
/-- a stretch has the number -/
def Has (l : List Rg) (x : Int) : Prop := ∃ p ∈ l, p.1 ≤ x ∧ x ≤ p.2
/-- in order, none empty, none touching -/
def Cn : List Rg → Prop
  | [] => True
  | p :: r => p.1 ≤ p.2 ∧ (∀ q ∈ r, p.2 + 1 < q.1) ∧ Cn r
theorem has_nil {x : Int} : Has [] x ↔ False := by simp [Has]
theorem has_cons {p : Rg} {r : List Rg} {x : Int} : Has (p :: r) x ↔ (p.1 ≤ x ∧ x ≤ p.2) ∨ Has r x := by simp [Has]
theorem has_app {l m : List Rg} {x : Int} : Has (l ++ m) x ↔ Has l x ∨ Has m x := by
  simp only [Has, List.mem_append]
  constructor
  · rintro ⟨p, h | h, k⟩
    · exact .inl ⟨p, h, k⟩
    · exact .inr ⟨p, h, k⟩
  · rintro (⟨p, h, k⟩ | ⟨p, h, k⟩)
    · exact ⟨p, .inl h, k⟩
    · exact ⟨p, .inr h, k⟩
theorem has_perm {l m : List Rg} (h : l.Perm m) {x : Int} : Has l x ↔ Has m x := by
  simp only [Has, h.mem_iff]
theorem cn_le {l : List Rg} (h : Cn l) : ∀ p ∈ l, p.1 ≤ p.2 := by
  induction l with
  | nil => intro p hp; cases hp
  | cons q r ih =>
    intro p hp
    rcases List.mem_cons.mp hp with rfl | hp
    · exact h.1
    · exact ih h.2.2 p hp
theorem cn_ext : ∀ {l m : List Rg}, Cn l → Cn m → (∀ x, Has l x ↔ Has m x) → l = m
  | [], [], _, _, _ => rfl
  | [], q :: m, _, hm, h => by
    have := (h q.1).mpr (has_cons.mpr (.inl ⟨Int.le_refl _, hm.1⟩))
    exact (has_nil.mp this).elim
  | p :: l, [], hl, _, h => by
    have := (h p.1).mp (has_cons.mpr (.inl ⟨Int.le_refl _, hl.1⟩))
    exact (has_nil.mp this).elim
  | p :: l, q :: m, hl, hm, h => by
    have e1 : p.1 = q.1 := by
      have a := (h p.1).mp (has_cons.mpr (.inl ⟨Int.le_refl _, hl.1⟩))
      have b := (h q.1).mpr (has_cons.mpr (.inl ⟨Int.le_refl _, hm.1⟩))
      have a' : q.1 ≤ p.1 := by
        rcases has_cons.mp a with z | ⟨t, ht, z⟩
        · exact z.1
        · have := hm.2.1 t ht
          have := hm.1
          omega
      have b' : p.1 ≤ q.1 := by
        rcases has_cons.mp b with z | ⟨t, ht, z⟩
        · exact z.1
        · have := hl.2.1 t ht
          have := hl.1
          omega
      omega
    have e2 : p.2 = q.2 := by
      rcases Int.lt_trichotomy p.2 q.2 with z | z | z
      · have a := (h (p.2 + 1)).mpr (has_cons.mpr (.inl ⟨by have := hl.1; omega, by omega⟩))
        rcases has_cons.mp a with y | ⟨t, ht, y⟩
        · omega
        · have := hl.2.1 t ht
          omega
      · exact z
      · have a := (h (q.2 + 1)).mp (has_cons.mpr (.inl ⟨by have := hm.1; omega, by omega⟩))
        rcases has_cons.mp a with y | ⟨t, ht, y⟩
        · omega
        · have := hm.2.1 t ht
          omega
    have e3 : l = m := by
      refine cn_ext hl.2.2 hm.2.2 fun x => ⟨fun a => ?_, fun a => ?_⟩
      · obtain ⟨t, ht, y⟩ := a
        have g := hl.2.1 t ht
        have := (h x).mp (has_cons.mpr (.inr ⟨t, ht, y⟩))
        rcases has_cons.mp this with w | w
        · omega
        · exact w
      · obtain ⟨t, ht, y⟩ := a
        have g := hm.2.1 t ht
        have := (h x).mpr (has_cons.mpr (.inr ⟨t, ht, y⟩))
        rcases has_cons.mp this with w | w
        · omega
        · exact w
    rw [e3]
    congr 1
    exact Prod.ext e1 e2
theorem cn_app : ∀ {l m : List Rg}, Cn l → Cn m → (∀ p ∈ l, ∀ q ∈ m, p.2 + 1 < q.1) → Cn (l ++ m)
  | [], _, _, hm, _ => hm
  | p :: l, m, hl, hm, h => by
    refine ⟨hl.1, fun q hq => ?_, cn_app hl.2.2 hm fun a ha b hb => h a (List.mem_cons_of_mem _ ha) b hb⟩
    rcases List.mem_append.mp hq with z | z
    · exact hl.2.1 q z
    · exact h p List.mem_cons_self q z
/-- backwards -/
def Cr : List Rg → Prop
  | [] => True
  | p :: r => p.1 ≤ p.2 ∧ (∀ q ∈ r, q.2 + 1 < p.1) ∧ Cr r
theorem cr_rev : ∀ {l : List Rg}, Cr l → Cn l.reverse
  | [], _ => trivial
  | p :: l, h => by
    rw [List.reverse_cons]
    refine cn_app (cr_rev h.2.2) ⟨h.1, (by intro q hq; cases hq), trivial⟩ fun a ha b hb => ?_
    rw [List.mem_singleton.mp hb]
    exact h.2.1 a (List.mem_reverse.mp ha)
/-! set_of -/
def soR : List Rg → List Rg → List Rg
  | [], acc => acc
  | p :: r, acc => if p.2 < p.1 then soR r acc else match acc with
    | [] => soR r [p]
    | q :: a => if p.1 ≤ q.2 + 1 then soR r ((q.1, max p.2 q.2) :: a) else soR r (p :: q :: a)
theorem soR_nil {acc : List Rg} : soR [] acc = acc := by rw [soR.eq_def]
theorem soR_c0 {p : Rg} {r : List Rg} : soR (p :: r) [] = if p.2 < p.1 then soR r [] else soR r [p] := by rw [soR.eq_def]
theorem soR_c1 {p q : Rg} {r a : List Rg} : soR (p :: r) (q :: a) = if p.2 < p.1 then soR r (q :: a) else if p.1 ≤ q.2 + 1 then soR r ((q.1, max p.2 q.2) :: a) else soR r (p :: q :: a) := by rw [soR.eq_def]
theorem soR_cE {p : Rg} {r acc : List Rg} : soR (p :: r) acc = if p.2 < p.1 then soR r acc else match acc with
    | [] => soR r [p]
    | q :: a => if p.1 ≤ q.2 + 1 then soR r ((q.1, max p.2 q.2) :: a) else soR r (p :: q :: a) := by rw [soR.eq_def]
theorem soR_ok : ∀ {l acc : List Rg}, Cr acc → l.Pairwise (fun p q => p.1 ≤ q.1) → (∀ p ∈ l, ∀ q ∈ acc, q.1 ≤ p.1) → Cr (soR l acc) ∧ ∀ x, Has (soR l acc) x ↔ Has l x ∨ Has acc x
  | [], acc, h, _, _ => ⟨h, fun x => by simp [soR, has_nil]⟩
  | p :: r, acc, h, hs, hb => by
    obtain ⟨s1, s2⟩ := List.pairwise_cons.mp hs
    rw [soR_cE]
    by_cases hp : p.2 < p.1
    · rw [if_pos hp]
      obtain ⟨a, b⟩ := soR_ok h s2 fun a ha => hb a (List.mem_cons_of_mem _ ha)
      refine ⟨a, fun x => ?_⟩
      rw [b, has_cons]
      constructor
      · rintro (z | z)
        · exact .inl (.inr z)
        · exact .inr z
      · rintro ((z | z) | z)
        · omega
        · exact .inl z
        · exact .inr z
    · rw [if_neg hp]
      cases acc with
      | nil =>
        simp only
        obtain ⟨a, b⟩ := soR_ok (l := r) (acc := [p]) ⟨by omega, by simp, trivial⟩ s2 fun a ha q hq => by
          rw [List.mem_singleton.mp hq]
          exact s1 a ha
        refine ⟨a, fun x => ?_⟩
        rw [b, has_cons, has_cons, has_nil]
        constructor
        · rintro (z | z | z)
          · exact .inl (.inr z)
          · exact .inl (.inl z)
          · exact .inr z
        · rintro ((z | z) | z)
          · exact .inr (.inl z)
          · exact .inl z
          · exact .inr (.inr z)
      | cons q a =>
        simp only
        have hq := hb p List.mem_cons_self q List.mem_cons_self
        have h1 := h.1
        by_cases hc : p.1 ≤ q.2 + 1
        · rw [if_pos hc]
          obtain ⟨c, b⟩ := soR_ok (l := r) (acc := (q.1, max p.2 q.2) :: a) ⟨by simp only; omega, h.2.1, h.2.2⟩ s2 fun t ht u hu => by
            rcases List.mem_cons.mp hu with rfl | hu
            · exact hb t (List.mem_cons_of_mem _ ht) q List.mem_cons_self
            · exact hb t (List.mem_cons_of_mem _ ht) u (List.mem_cons_of_mem _ hu)
          refine ⟨c, fun x => ?_⟩
          rw [b, has_cons, has_cons, has_cons]
          simp only
          constructor
          · rintro (z | z | z)
            · exact .inl (.inr z)
            · by_cases y : x ≤ q.2
              · exact .inr (.inl ⟨z.1, y⟩)
              · exact .inl (.inl (by omega))
            · exact .inr (.inr z)
          · rintro ((z | z) | z | z)
            · exact .inr (.inl (by omega))
            · exact .inl z
            · exact .inr (.inl (by omega))
            · exact .inr (.inr z)
        · rw [if_neg hc]
          obtain ⟨c, b⟩ := soR_ok (l := r) (acc := p :: q :: a) ⟨by omega, (by
            intro t ht
            rcases List.mem_cons.mp ht with rfl | ht
            · omega
            · have := h.2.1 t ht
              omega), h⟩ s2 fun t ht u hu => by
            rcases List.mem_cons.mp hu with rfl | hu
            · exact s1 t ht
            · exact hb t (List.mem_cons_of_mem _ ht) u hu
          refine ⟨c, fun x => ?_⟩
          rw [b, has_cons (p := p), has_cons (p := p)]
          constructor
          · rintro (z | z | z)
            · exact .inl (.inr z)
            · exact .inl (.inl z)
            · exact .inr z
          · rintro ((z | z) | z)
            · exact .inr (.inl z)
            · exact .inl z
            · exact .inr (.inr z)
theorem soR_len : ∀ {l acc : List Rg}, (soR l acc).length ≤ l.length + acc.length
  | [], acc => by simp [soR]
  | p :: r, acc => by
    rw [soR_cE]
    by_cases hp : p.2 < p.1
    · rw [if_pos hp]
      have := soR_len (l := r) (acc := acc)
      simp only [List.length_cons]
      omega
    · rw [if_neg hp]
      cases acc with
      | nil =>
        simp only
        have := soR_len (l := r) (acc := [p])
        simp only [List.length_cons, List.length_nil] at *
        omega
      | cons q a =>
        simp only
        by_cases hc : p.1 ≤ q.2 + 1
        · rw [if_pos hc]
          have := soR_len (l := r) (acc := (q.1, max p.2 q.2) :: a)
          simp only [List.length_cons] at *
          omega
        · rw [if_neg hc]
          have := soR_len (l := r) (acc := p :: q :: a)
          simp only [List.length_cons] at *
          omega
def setOf (l : List Rg) : List Rg := (soR (psort l) []).reverse
theorem setOf_ok (l : List Rg) : Cn (setOf l) ∧ (∀ x, Has (setOf l) x ↔ Has l x) ∧ (setOf l).length ≤ l.length := by
  obtain ⟨a, b⟩ := soR_ok (l := psort l) (acc := []) trivial ((psort_sorted l).imp fun h => by omega) fun p _ q hq => by cases hq
  refine ⟨cr_rev a, fun x => ?_, ?_⟩
  · rw [setOf, has_perm (List.reverse_perm _), b, has_perm (psort_perm l), has_nil]
    simp
  · have := soR_len (l := psort l) (acc := [])
    rw [psort_len] at this
    rw [setOf, List.length_reverse]
    simpa using this
theorem setOf_self {l : List Rg} (h : Cn l) : setOf l = l := cn_ext (setOf_ok l).1 h (setOf_ok l).2.1
/-! both_of -/
def bo : List Rg → List Rg → List Rg
  | p :: a, q :: b => (if max p.1 q.1 ≤ min p.2 q.2 then [(max p.1 q.1, min p.2 q.2)] else []) ++ if p.2 < q.2 then bo a (q :: b) else bo (p :: a) b
  | [], _ => []
  | _ :: _, [] => []
termination_by l m => l.length + m.length
theorem bo_ok : ∀ {l m : List Rg}, Cn l → Cn m → Cn (bo l m) ∧ (∀ x, Has (bo l m) x ↔ Has l x ∧ Has m x) ∧ (bo l m).length ≤ l.length + m.length
  | [], m, _, _ => by
    rw [bo]
    exact ⟨trivial, fun x => by simp [has_nil], by simp⟩
  | p :: a, [], _, _ => by
    rw [bo]
    exact ⟨trivial, fun x => by simp [has_nil], by simp⟩
  | p :: a, q :: b, hl, hm => by
    rw [bo]
    by_cases hc : p.2 < q.2
    · simp only [if_pos hc]
      obtain ⟨h1, h2, h3⟩ := bo_ok (l := a) (m := q :: b) hl.2.2 hm
      refine ⟨?_, fun x => ?_, ?_⟩
      · split
        · rename_i ho
          refine ⟨ho, fun t ht => ?_, h1⟩
          have hle := cn_le h1 t ht
          obtain ⟨u, hu, z⟩ := ((h2 t.1).mp ⟨t, ht, Int.le_refl _, hle⟩).1
          have := hl.2.1 u hu
          simp only
          omega
        · exact h1
      · rw [has_app, h2, has_cons (p := p), has_cons (p := q)]
        have e1 : Has (if max p.1 q.1 ≤ min p.2 q.2 then [(max p.1 q.1, min p.2 q.2)] else []) x ↔ (p.1 ≤ x ∧ x ≤ p.2) ∧ (q.1 ≤ x ∧ x ≤ q.2) := by
          split
          · rw [has_cons, has_nil]
            simp only
            constructor
            · rintro (z | z)
              · omega
              · exact z.elim
            · intro z
              exact .inl (by omega)
          · rw [has_nil]
            constructor
            · intro z
              exact z.elim
            · intro z
              omega
        rw [e1]
        constructor
        · rintro (z | z)
          · exact ⟨.inl z.1, .inl z.2⟩
          · exact ⟨.inr z.1, z.2⟩
        · rintro ⟨z | z, y | y⟩
          · exact .inl ⟨z, y⟩
          · obtain ⟨u, hu, w⟩ := y
            have := hm.2.1 u hu
            omega
          · exact .inr ⟨z, .inl y⟩
          · exact .inr ⟨z, .inr y⟩
      · rw [List.length_append]
        simp only [List.length_cons] at h3 ⊢
        split <;> simp only [List.length_cons, List.length_nil] <;> omega
    · simp only [if_neg hc]
      obtain ⟨h1, h2, h3⟩ := bo_ok (l := p :: a) (m := b) hl hm.2.2
      refine ⟨?_, fun x => ?_, ?_⟩
      · split
        · rename_i ho
          refine ⟨ho, fun t ht => ?_, h1⟩
          have hle := cn_le h1 t ht
          obtain ⟨u, hu, z⟩ := ((h2 t.1).mp ⟨t, ht, Int.le_refl _, hle⟩).2
          have := hm.2.1 u hu
          simp only
          omega
        · exact h1
      · rw [has_app, h2, has_cons (p := p), has_cons (p := q)]
        have e1 : Has (if max p.1 q.1 ≤ min p.2 q.2 then [(max p.1 q.1, min p.2 q.2)] else []) x ↔ (p.1 ≤ x ∧ x ≤ p.2) ∧ (q.1 ≤ x ∧ x ≤ q.2) := by
          split
          · rw [has_cons, has_nil]
            simp only
            constructor
            · rintro (z | z)
              · omega
              · exact z.elim
            · intro z
              exact .inl (by omega)
          · rw [has_nil]
            constructor
            · intro z
              exact z.elim
            · intro z
              omega
        rw [e1]
        constructor
        · rintro (z | z)
          · exact ⟨.inl z.1, .inl z.2⟩
          · exact ⟨z.1, .inr z.2⟩
        · rintro ⟨z | z, y | y⟩
          · exact .inl ⟨z, y⟩
          · exact .inr ⟨.inl z, y⟩
          · obtain ⟨u, hu, w⟩ := z
            have := hl.2.1 u hu
            omega
          · exact .inr ⟨.inr z, y⟩
      · rw [List.length_append]
        simp only [List.length_cons] at h3 ⊢
        split <;> simp only [List.length_cons, List.length_nil] <;> omega
termination_by l m => l.length + m.length
/-! without -/
def wi (l : Int) : Int → List Rg → List Rg
  | f, [] => if f ≤ l then [(f, l)] else []
  | f, q :: m => if q.1 ≤ l ∧ f ≤ q.2 then (if f < q.1 then [(f, q.1 - 1)] else []) ++ wi l (q.2 + 1) m else wi l f m
theorem wi_ok {l : Int} : ∀ {m : List Rg} {f : Int}, Cn m → Cn (wi l f m) ∧ (∀ x, Has (wi l f m) x ↔ (f ≤ x ∧ x ≤ l) ∧ ¬Has m x) ∧ (wi l f m).length ≤ m.length + 1
  | [], f, _ => by
    rw [wi]
    split
    · rename_i h
      refine ⟨⟨h, by simp, trivial⟩, fun x => ?_, by simp⟩
      rw [has_cons, has_nil]
      simp [has_nil]
    · rename_i h
      refine ⟨trivial, fun x => ?_, by simp⟩
      simp only [has_nil]
      constructor
      · intro z
        exact z.elim
      · intro z
        omega
  | q :: m, f, hm => by
    rw [wi]
    split
    · rename_i hc
      obtain ⟨h1, h2, h3⟩ := wi_ok (l := l) (m := m) (f := q.2 + 1) hm.2.2
      have hq := hm.1
      refine ⟨?_, fun x => ?_, ?_⟩
      · split
        · rename_i ho
          refine ⟨by simp only; omega, fun t ht => ?_, h1⟩
          have hle := cn_le h1 t ht
          have := ((h2 t.1).mp ⟨t, ht, Int.le_refl _, hle⟩).1
          simp only
          omega
        · exact h1
      · rw [has_app, h2, has_cons]
        have e1 : Has (if f < q.1 then [(f, q.1 - 1)] else []) x ↔ f ≤ x ∧ x < q.1 := by
          split
          · rw [has_cons, has_nil]
            simp only
            constructor
            · rintro (z | z)
              · omega
              · exact z.elim
            · intro z
              exact .inl (by omega)
          · rw [has_nil]
            constructor
            · intro z
              exact z.elim
            · intro z
              omega
        rw [e1]
        constructor
        · rintro (z | ⟨z, y⟩)
          · refine ⟨by omega, ?_⟩
            rintro (w | ⟨u, hu, w⟩)
            · omega
            · have := hm.2.1 u hu
              omega
          · refine ⟨by omega, ?_⟩
            rintro (w | w)
            · omega
            · exact y w
        · rintro ⟨z, y⟩
          by_cases w : x < q.1
          · exact .inl ⟨z.1, w⟩
          · by_cases v : x ≤ q.2
            · exact absurd (.inl ⟨by omega, v⟩) y
            · exact .inr ⟨by omega, fun u => y (.inr u)⟩
      · rw [List.length_append]
        simp only [List.length_cons]
        split <;> simp only [List.length_cons, List.length_nil] <;> omega
    · rename_i hc
      obtain ⟨h1, h2, h3⟩ := wi_ok (l := l) (m := m) (f := f) hm.2.2
      refine ⟨h1, fun x => ?_, by simp only [List.length_cons]; omega⟩
      rw [h2, has_cons]
      constructor
      · rintro ⟨z, y⟩
        refine ⟨z, ?_⟩
        rintro (w | w)
        · omega
        · exact y w
      · rintro ⟨z, y⟩
        exact ⟨z, fun u => y (.inr u)⟩
def wo (l m : List Rg) : List Rg := l.flatMap fun p => wi p.2 p.1 m
theorem wo_ok {m : List Rg} (hm : Cn m) : ∀ {l : List Rg}, Cn l → Cn (wo l m) ∧ (∀ x, Has (wo l m) x ↔ Has l x ∧ ¬Has m x) ∧ (wo l m).length ≤ l.length * (m.length + 1)
  | [], _ => ⟨trivial, fun x => by simp [wo, has_nil], by simp [wo]⟩
  | p :: l, hl => by
    obtain ⟨h1, h2, h3⟩ := wo_ok hm hl.2.2
    obtain ⟨k1, k2, k3⟩ := wi_ok (l := p.2) (m := m) (f := p.1) hm
    have e : wo (p :: l) m = wi p.2 p.1 m ++ wo l m := by rw [wo, List.flatMap_cons]; rfl
    rw [e]
    refine ⟨cn_app k1 h1 fun a ha b hb => ?_, fun x => ?_, ?_⟩
    · have a1 := cn_le k1 a ha
      have b1 := cn_le h1 b hb
      have a2 := ((k2 a.2).mp ⟨a, ha, a1, Int.le_refl _⟩).1
      obtain ⟨t, ht, b2⟩ := ((h2 b.1).mp ⟨b, hb, Int.le_refl _, b1⟩).1
      have := hl.2.1 t ht
      omega
    · rw [has_app, k2, h2, has_cons]
      constructor
      · rintro (z | z)
        · exact ⟨.inl z.1, z.2⟩
        · exact ⟨.inr z.1, z.2⟩
      · rintro ⟨z | z, y⟩
        · exact .inl ⟨z, y⟩
        · exact .inr ⟨z, y⟩
    · rw [List.length_append, List.length_cons, Nat.succ_mul]
      omega
/-! all its numbers -/
def run (p : Rg) : List Int := (List.range (p.2 - p.1 + 1).toNat).map fun (i : Nat) => p.1 + (i : Int)
theorem mem_run {p : Rg} {x : Int} : x ∈ run p ↔ p.1 ≤ x ∧ x ≤ p.2 := by
  unfold run
  rw [List.mem_map]
  constructor
  · rintro ⟨i, hi, rfl⟩
    have := List.mem_range.mp hi
    omega
  · intro h
    exact ⟨(x - p.1).toNat, List.mem_range.mpr (by omega), by omega⟩
theorem run_len {p : Rg} : (run p).length = (p.2 - p.1 + 1).toNat := by simp [run]
theorem run_sorted {p : Rg} : (run p).Pairwise (· < ·) := by
  unfold run
  rw [List.pairwise_map]
  exact List.pairwise_lt_range.imp fun h => by omega
def fl (l : List Rg) : List Int := l.flatMap run
theorem fl_cons {p : Rg} {l : List Rg} : fl (p :: l) = run p ++ fl l := by rw [fl, List.flatMap_cons]; rfl
theorem mem_fl {l : List Rg} {x : Int} : x ∈ fl l ↔ Has l x := by
  unfold fl Has
  rw [List.mem_flatMap]
  simp only [mem_run]
theorem fl_sorted : ∀ {l : List Rg}, Cn l → (fl l).Pairwise (· < ·)
  | [], _ => List.Pairwise.nil
  | p :: l, h => by
    rw [fl_cons, List.pairwise_append]
    refine ⟨run_sorted, fl_sorted h.2.2, fun a ha b hb => ?_⟩
    have a1 := mem_run.mp ha
    obtain ⟨t, ht, b1⟩ := mem_fl.mp hb
    have := h.2.1 t ht
    omega
theorem sorted_ext : ∀ {l m : List Int}, l.Pairwise (· < ·) → m.Pairwise (· < ·) → (∀ x, x ∈ l ↔ x ∈ m) → l = m
  | [], [], _, _, _ => rfl
  | [], b :: m, _, _, h => by simpa using (h b).mpr List.mem_cons_self
  | a :: l, [], _, _, h => by simpa using (h a).mp List.mem_cons_self
  | a :: l, b :: m, h1, h2, h => by
    obtain ⟨p1, p2⟩ := List.pairwise_cons.mp h1
    obtain ⟨q1, q2⟩ := List.pairwise_cons.mp h2
    have e : a = b := by
      have x := (h a).mp List.mem_cons_self
      have y := (h b).mpr List.mem_cons_self
      rcases List.mem_cons.mp x with z | z
      · exact z
      · rcases List.mem_cons.mp y with w | w
        · exact w.symm
        · have := q1 a z
          have := p1 b w
          omega
    subst e
    congr 1
    refine sorted_ext p2 q2 fun x => ⟨fun hx => ?_, fun hx => ?_⟩
    · rcases List.mem_cons.mp ((h x).mp (List.mem_cons_of_mem _ hx)) with z | z
      · have := p1 x hx
        omega
      · exact z
    · rcases List.mem_cons.mp ((h x).mpr (List.mem_cons_of_mem _ hx)) with z | z
      · have := q1 x hx
        omega
      · exact z
/-! counts and places -/
def cnt : List Rg → Int
  | [] => 0
  | p :: r => (p.2 - p.1 + 1) + cnt r
theorem cnt_fl : ∀ {l : List Rg}, (∀ p ∈ l, p.1 ≤ p.2) → cnt l = (fl l).length
  | [], _ => rfl
  | p :: l, h => by
    rw [cnt, fl_cons, List.length_append, run_len, cnt_fl fun q hq => h q (List.mem_cons_of_mem _ hq)]
    have := h p List.mem_cons_self
    omega
def nf : List Rg → Int → Option Int
  | [], _ => none
  | p :: r, l => if l ≤ p.2 - p.1 then some (p.1 + l) else nf r (l - (p.2 - p.1 + 1))
theorem nf_fl : ∀ {l : List Rg} {n : Int}, (∀ p ∈ l, p.1 ≤ p.2) → 0 ≤ n → nf l n = (fl l)[n.toNat]?
  | [], n, _, _ => by simp [nf, fl]
  | p :: l, n, h, hn => by
    have hp := h p List.mem_cons_self
    rw [nf, fl_cons]
    split
    · rename_i hc
      rw [List.getElem?_append_left (by rw [run_len]; omega)]
      unfold run
      rw [List.getElem?_map, List.getElem?_range (by omega)]
      simp only [Option.map_some, Option.some.injEq]
      omega
    · rename_i hc
      rw [List.getElem?_append_right (by rw [run_len]; omega), run_len, nf_fl (fun q hq => h q (List.mem_cons_of_mem _ hq)) (by omega)]
      congr 1
      omega
def lss (n : Int) : List Rg → Int
  | [] => 0
  | p :: r => max 0 (min (p.2 + 1) n - p.1) + lss n r
theorem run_less {p : Rg} {n : Int} (h : p.1 ≤ p.2) : (((run p).filter fun x => decide (x < n)).length : Int) = max 0 (min (p.2 + 1) n - p.1) := by
  have key : ∀ (k : Nat) (a : Int), ((((List.range k).map fun i : Nat => a + (i : Int)).filter fun x => decide (x < n)).length : Int) = max 0 (min (a + k) n - a) := by
    intro k a
    induction k with
    | zero => simp; omega
    | succ k ih =>
      rw [List.range_succ, List.map_append, List.filter_append, List.length_append, Int.natCast_add, ih]
      simp only [List.map_cons, List.map_nil, List.filter_cons, List.filter_nil]
      by_cases hc : a + (k : Int) < n
      · simp only [decide_eq_true hc, if_true, List.length_cons, List.length_nil]
        omega
      · simp only [decide_eq_false hc, Bool.false_eq_true, if_false, List.length_nil]
        omega
  unfold run
  rw [key]
  have : p.1 + ((p.2 - p.1 + 1).toNat : Int) = p.2 + 1 := by omega
  rw [this]
theorem lss_fl {n : Int} : ∀ {l : List Rg}, (∀ p ∈ l, p.1 ≤ p.2) → lss n l = (((fl l).filter fun x => decide (x < n)).length : Int)
  | [], _ => rfl
  | p :: l, h => by
    rw [lss, fl_cons, List.filter_append, List.length_append, Int.natCast_add, run_less (h p List.mem_cons_self), lss_fl fun q hq => h q (List.mem_cons_of_mem _ hq)]
def hasB (l : List Rg) (x : Int) : Bool := l.any fun p => decide (p.1 ≤ x ∧ x ≤ p.2)
theorem hasB_iff {l : List Rg} {x : Int} : hasB l x = true ↔ Has l x := by
  unfold hasB Has
  rw [List.any_eq_true]
  simp only [decide_eq_true_eq]
end Mv

set_option Elab.async false
set_option linter.all false
set_option maxRecDepth 100000
set_option maxHeartbeats 2000000
namespace Mv
open PySem PySem.Spec PyProof.Rows L2
/-! ### d.update(a list of pairs) -/
/-- the pairs of a list, as values that stand on the heap -/
theorem pairs_val {X : Cx} {pins : List (Addr × Obj)} {σ : L2.St} {H : Hp} {s : Shared} (I : Inv X pins σ H s) : ∀ {ps : List Addr} {kvs : List (Key × V)}, Paired (fun p kv => SqT X.K H p [kV kv.1, kv.2]) ps kvs →
    ∃ (prs : List (Key × Value)) (us : List (Value × Value)), KV kvs prs ∧ prs.length = ps.length ∧ us.length = ps.length ∧ ∀ (j : Nat) (k v : Value), us[j]? = some (k, v) → ∃ (b : Addr) (q : Key), ps[j]? = some b ∧ s.heap.IsTuple b #[k, v] ∧ prs[j]? = some (q, v) ∧ keyIs q k = true
  | _, _, .nil => ⟨[], [], .nil, rfl, rfl, fun j k v e => by simp at e⟩
  | _, _, .cons (a := p) (b := kv) h t => by
    obtain ⟨prs, us, r, hl, hl2, hp⟩ := pairs_val I t
    obtain ⟨its, rv, ht, _⟩ := I.tuple h
    obtain ⟨u, y, ei, ru, ry⟩ := vals2 rv
    subst ei
    refine ⟨(kv.1, y) :: prs, (u, y) :: us, .cons ⟨rfl, ry⟩ r, by rw [List.length_cons, List.length_cons, hl], by rw [List.length_cons, List.length_cons, hl2], fun j k v e => ?_⟩
    cases j with
    | zero =>
      have e' : (u, y) = (k, v) := Option.some.inj e
      cases e'
      exact ⟨p, kv.1, rfl, ht, rfl, kV_is (P := X.prog) (w := X.w) ru⟩
    | succ j =>
      obtain ⟨b, q, h1, h2, h3, h4⟩ := hp j k v (by simpa using e)
      exact ⟨b, q, by simpa using h1, h2, by simpa using h3, h4⟩
def rUpd (K : PySem.W.Frag) : V → List V → Hp → VK → Prop := fun x xs H Q => ∃ (d a : Addr) (kvs : List (Key × V)) (ps : List Addr) (more : List (Key × V)), x = .ref d ∧ xs = [.ref a] ∧ H d = some (.dK kvs) ∧ SqL K H a (ps.map V.ref) ∧ Paired (fun p kv => SqT K H p [kV kv.1, kv.2]) ps more ∧
  kvs.length + more.length ≤ sizeLine ∧ Q .non (upd H d (.dK (mergeK kvs more)))
theorem mtd_update {X : Cx} (hcalm : X.calm = true) : MtR X "dict.update" (rUpd X.K) := by
  intro pins s σ H x xs v us Q I rx rv h
  obtain ⟨d, a, kvs, ps, more, ex, ev, hd, hq, hp, hsz, q⟩ := h
  subst ex ev
  obtain rfl : v = Value.ref d := rx
  obtain ⟨u, eu, ru⟩ := vals1 rv
  subst eu
  cases ru
  obtain ⟨its, rvs, pl, hz⟩ := I.list hq
  have ei := refs_at rvs
  subst ei
  rw [List.length_map] at hz
  obtain ⟨prs, vus, rel, hl, hl2, hpr⟩ := pairs_val I hp
  obtain ⟨z, hdm, vs, relv, dd⟩ := dk_of I.hok hd
  have hcls : ∃ o, s.heap.get? d = some o ∧ o.cls = .type "dict" := by
    obtain ⟨o, ho, hc⟩ := dd.typeIs (s := s)
    exact ⟨o, ho, hc⟩
  obtain ⟨od, hod, hcd⟩ := hcls
  have hTs : ∃ Ts : Nat → Addr, ∀ (j : Nat) (k v : Value), vus[j]? = some (k, v) → ps[j]? = some (Ts j) ∧ s.heap.IsTuple (Ts j) #[k, v] := by
    refine ⟨fun j => (ps[j]?).getD 0, fun j k v e => ?_⟩
    obtain ⟨b, q, h1, h2, _⟩ := hpr j k v e
    simp only [h1, Option.getD_some]
    exact ⟨trivial, h2⟩
  obtain ⟨Ts, hTs⟩ := hTs
  have P := PySem.PairArg.list (prog := X.prog) (w := X.w) a (ps.map Value.ref).toArray Ts vus
  have hmore : more.length = prs.length := rel.length
  refine PySem.call_update_pairs (knd := mixKind X.prog X.w) (acc := vs) (kvs := prs) P (I.ok.hd hcalm) ⟨pl, ?_, fun j k v e => ?_⟩ ?_ ⟨by rw [hl, hl2], fun i key v e => ?_⟩ dd (by rw [← relv.length, hl2, ← hl, ← hmore]; exact hsz) fun h' tk dd' hk => ?_
  · simp [hl2]
  · obtain ⟨h1, h2⟩ := hTs j k v e
    exact ⟨by simp [h1], .inl h2⟩
  · intro hm
    rcases List.mem_cons.mp hm with rfl | hm
    · obtain ⟨o, n, ho, hc, _⟩ := pl
      rw [hod] at ho
      cases ho
      rw [hcd] at hc
      injection hc with hc
      exact absurd hc (by decide)
    · obtain ⟨j, hj, rfl⟩ := List.mem_map.mp hm
      have hj' : j < vus.length := List.mem_range.mp hj
      obtain ⟨⟨k, v⟩, e⟩ : ∃ p, vus[j]? = some p := ⟨vus[j], List.getElem?_eq_getElem hj'⟩
      obtain ⟨o, ho, hc, _⟩ := (hTs j k v e).2
      rw [hod] at ho
      cases ho
      rw [hcd] at hc
      injection hc with hc
      exact absurd hc (by decide)
  · obtain ⟨b, q, h1, h2, h3, h4⟩ := hpr i key v e
    exact ⟨q, h3, h4⟩
  · have hlen : (mergeK kvs more).length ≤ sizeLine := Nat.le_trans (length_mergeK more kvs) hsz
    have he : ∃ q, h'.get? d = some q := let ⟨q, _, _, hq, _⟩ := dd'; ⟨q, hq⟩
    refine ⟨.non, _, I.write (t' := tk) (x := d) (e := d) (by rw [hd]; exact True.intro) (.inl rfl) (fun b o hb e => hk b o hb (fun z => nomatch z) e) he (dk_new hlen hdm (KV.merge rel relv) dd'), rfl, q⟩
/-- the pairs of a list's rows -/
def rowsK : List D → Option (List (Key × D))
  | [] => some []
  | .tuple [.int i, d] :: r => (rowsK r).map ((Sum.inl i, d) :: ·)
  | .tuple [.str i, d] :: r => (rowsK r).map ((Sum.inr i, d) :: ·)
  | _ => none
def updO : List (Key × O) → List (Key × D) → Option (List (Key × O))
  | kvs, [] => some kvs
  | kvs, (k, d) :: r => if leafAt kvs k = true then updO (putO kvs k (.leaf d)) r else none
def gUpdate (o : O) (os : List O) : Option (O × D) := match o, os with
  | .dic kvs, [.ls ts] => (rowsK ts).bind fun more => if kvs.length + more.length ≤ sizeLine then (updO kvs more).map fun kvs' => (.dic kvs', .none) else none
  | _, _ => none
section
variable {K : PySem.W.Frag} {S H : Hp}
theorem rowsK_fz (le : Same S H) : ∀ {ts : List D} {more : List (Key × D)} {vs : List V}, rowsK ts = some more → FzL K S ts vs → ∃ (ps : List Addr) (mv : List (Key × V)), vs = ps.map V.ref ∧ Paired (fun p kv => SqT K H p [kV kv.1, kv.2]) ps mv ∧ Paired (fun a b => a.1 = b.1 ∧ Fz K S a.2 b.2) more mv
  | [], more, vs, e, h => by
    cases e
    have := h.nilE
    subst this
    exact ⟨[], [], rfl, .nil, .nil⟩
  | .tuple [.int i, d] :: r, more, vs, e, h => by
    simp only [rowsK, Option.map_eq_some_iff] at e
    obtain ⟨m, e, rfl⟩ := e
    obtain ⟨v, vr, rfl, h1, h2⟩ := h.inv
    obtain ⟨ps, mv, rfl, h3, h4⟩ := rowsK_fz le e h2
    simp only [Fz] at h1
    obtain ⟨a, ws, rfl, h5, h6⟩ := h1
    obtain ⟨x, wr, rfl, h7, h8⟩ := h6.inv
    obtain ⟨y, wr2, rfl, h9, h10⟩ := h8.inv
    have := h10.nilE
    subst this
    simp only [Fz] at h7
    subst h7
    exact ⟨a :: ps, (Sum.inl i, y) :: mv, rfl, .cons (SqT.of (le _ _ h5)) h3, .cons ⟨rfl, h9⟩ h4⟩
  | .tuple [.str i, d] :: r, more, vs, e, h => by
    simp only [rowsK, Option.map_eq_some_iff] at e
    obtain ⟨m, e, rfl⟩ := e
    obtain ⟨v, vr, rfl, h1, h2⟩ := h.inv
    obtain ⟨ps, mv, rfl, h3, h4⟩ := rowsK_fz le e h2
    simp only [Fz] at h1
    obtain ⟨a, ws, rfl, h5, h6⟩ := h1
    obtain ⟨x, wr, rfl, h7, h8⟩ := h6.inv
    obtain ⟨y, wr2, rfl, h9, h10⟩ := h8.inv
    have := h10.nilE
    subst this
    simp only [Fz] at h7
    subst h7
    exact ⟨a :: ps, (Sum.inr i, y) :: mv, rfl, .cons (SqT.of (le _ _ h5)) h3, .cons ⟨rfl, h9⟩ h4⟩
theorem updO_ow : ∀ {more : List (Key × D)} {mv : List (Key × V)} {kvs kvs' : List (Key × O)} {vs : List (Key × V)} {fr : List Addr}, Paired (fun a b => a.1 = b.1 ∧ Fz K S a.2 b.2) more mv → OwK K S H kvs vs fr → updO kvs more = some kvs' → OwK K S H kvs' (mergeK vs mv) fr
  | [], _, kvs, kvs', vs, fr, .nil, h, e => by
    cases e
    exact h
  | (k, d) :: r, _, kvs, kvs', vs, fr, .cons (b := b) h1 h2, h, e => by
    rw [updO] at e
    split at e
    · rename_i hl
      obtain ⟨e1, e2⟩ := h1
      simp only at e1 e2
      subst e1
      show OwK K S H kvs' (mergeK (putK vs b.1 b.2) _) fr
      exact updO_ow h2 (owK_put e2 h hl) e
    · cases e
theorem rm_update : RM K "dict" (rUpd K) gUpdate := by
  refine ⟨fun S H x o fr os z le w e => ?_, fun S H x o fr os vs fa o' z Q le un nd w wa e k => ?_⟩
  · unfold gUpdate at e
    split at e
    · simp only [Ow] at w
      obtain ⟨a, vs, fr', rfl, rfl, h1, h2⟩ := w
      exact .inr (.inr (.inl ⟨rfl, .inl ⟨vs, h2⟩⟩))
    · cases e
  · unfold gUpdate at e
    split at e
    · simp only [Option.bind_eq_some_iff] at e
      obtain ⟨more, h3, h4⟩ := e
      split at h4
      · rename_i hsz
        simp only [Option.map_eq_some_iff, Prod.mk.injEq] at h4
        obtain ⟨kvs', h5, rfl, rfl⟩ := h4
        simp only [Ow] at w
        obtain ⟨a, kv, fr', rfl, rfl, h1, h2⟩ := w
        obtain ⟨y, yr, f1, f2, rfl, rfl, w1, w2⟩ := wa
        obtain ⟨rfl, rfl⟩ := w2
        obtain ⟨b, ws, rfl, h6, rfl, h7⟩ := ow_lsE w1
        obtain ⟨ps, mv, rfl, h8, h9⟩ := rowsK_fz le h3 h7
        have hlen : mv.length = more.length := h9.length.symm
        have hna : a ∉ fr' := (List.nodup_cons.mp nd).1
        refine ⟨a, b, kv, ps, mv, rfl, rfl, h2, SqL.of h6, h8, ?_, ?_⟩
        · have e1 := congrArg List.length (owK_keys h1)
          rw [List.length_map, List.length_map] at e1
          rw [e1, hlen]
          exact hsz
        · refine k _ _ (fun c hc => upd_ne fun z => hc (by rw [z]; exact List.mem_cons_self)) (fun c hc => ?_) ?_ (by simp only [Fz])
          · by_cases hca : c = a
            · subst hca
              rw [upd_same]
              exact fun z => nomatch z
            · rw [upd_ne hca]
              rcases List.mem_cons.mp hc with z | z
              · exact absurd z hca
              · exact h1.some c z
          · simp only [Ow]
            exact ⟨a, _, fr', rfl, rfl, (updO_ow h9 h1 h5).keep (Same.refl _) (fun c hc => upd_ne fun z => hna (by rw [← z]; exact hc)), upd_same⟩
      · cases h4
    · cases e
end
/-! ### the keys of a dict as a list -/
def keyT : Key → D
  | .inl i => .int i
  | .inr x => .str x
def oListK : O → Option O
  | .dic kvs => some (.ls (kvs.map fun kv => keyT kv.1))
  | _ => none
theorem keys_fz {K : PySem.W.Frag} {S H : Hp} : ∀ {kvs : List (Key × O)} {vs : List (Key × V)} {fr : List Addr}, OwK K S H kvs vs fr → FzL K S (kvs.map fun kv => keyT kv.1) (vs.map fun kv => kV kv.1)
  | [], vs, fr, h => by
    simp only [OwK] at h
    rw [h.1]
    exact FzL.nil
  | (k, o) :: r, vs, fr, h => by
    simp only [OwK] at h
    obtain ⟨v, vr, f1, f2, rfl, rfl, h1, h2⟩ := h
    refine FzL.cons ?_ (keys_fz h2)
    cases k <;> simp only [keyT, kV, Fz]
theorem ro_listK {K : PySem.W.Frag} : RO1 K (fun x => rListD [x]) oListK := by
  intro S H x o fr z Q le w e k
  unfold oListK at e
  split at e
  · cases e
    simp only [Ow] at w
    obtain ⟨a, vs, fr', rfl, rfl, h1, h2⟩ := w
    exact ⟨a, vs, rfl, h2, newL le (keys_fz h1) rfl k⟩
  · cases e
section
variable {kvs : List (Key × O)} {Q : O → Prop}
theorem p_listK : Op1 oListK (.dic kvs) Q ↔ Q (.ls (kvs.map fun kv => keyT kv.1)) := Iff.rfl
end
/-! a dict of numbers that are there -/
def dicO (ns : List Int) : O := .dic (ns.map fun i => ((Sum.inl i : Key), O.leaf (.bool true)))
theorem putO_dic {ns : List Int} {i : Int} : putO (ns.map fun i => ((Sum.inl i : Key), O.leaf (.bool true))) (.inl i) (.leaf (.bool true)) = (if i ∈ ns then ns else ns ++ [i]).map fun i => ((Sum.inl i : Key), O.leaf (.bool true)) := by
  unfold putO
  have e : ((ns.map fun i => ((Sum.inl i : Key), O.leaf (.bool true))).any fun kv => decide (kv.1 = (Sum.inl i : Key))) = decide (i ∈ ns) := by
    rw [List.any_map]
    induction ns with
    | nil => rfl
    | cons a r ih =>
      rw [List.any_cons, ih]
      by_cases h : a = i
      · simp [h]
      · have h' : ¬ i = a := fun z => h z.symm
        simp [h, h']
  rw [e]
  by_cases h : i ∈ ns
  · simp only [h, decide_true, if_true]
    rw [List.map_map]
    apply List.map_congr_left
    intro a ha
    simp only [Function.comp_apply]
    split
    · rfl
    · rfl
  · simp only [h, decide_false, Bool.false_eq_true, if_false]
    rw [List.map_append]
    rfl
def addN (ns : List Int) (i : Int) : List Int := if i ∈ ns then ns else ns ++ [i]
theorem addN_mem {ns : List Int} {i x : Int} : x ∈ addN ns i ↔ x ∈ ns ∨ x = i := by
  unfold addN
  split
  · rename_i h
    constructor
    · exact .inl
    · rintro (z | rfl)
      · exact z
      · exact h
  · rw [List.mem_append, List.mem_singleton]
theorem addN_len {ns : List Int} {i : Int} : (addN ns i).length ≤ ns.length + 1 := by
  unfold addN
  split
  · omega
  · rw [List.length_append]
    exact Nat.le_refl _
theorem leafAt_dic {ns : List Int} {k : Key} : leafAt (ns.map fun i => ((Sum.inl i : Key), O.leaf (.bool true))) k = true := by
  unfold leafAt
  rw [List.all_eq_true]
  intro kv hkv
  obtain ⟨i, _, rfl⟩ := List.mem_map.mp hkv
  split <;> rfl
theorem updO_dic : ∀ {is : List Int} {ns : List Int}, updO (ns.map fun i => ((Sum.inl i : Key), O.leaf (.bool true))) (is.map fun i => ((Sum.inl i : Key), PyData.bool true)) = some ((is.foldl addN ns).map fun i => ((Sum.inl i : Key), O.leaf (.bool true)))
  | [], ns => rfl
  | i :: r, ns => by
    rw [List.map_cons, updO, if_pos leafAt_dic, putO_dic, List.foldl_cons]
    exact updO_dic
theorem rowsK_dic : ∀ {is : List Int}, rowsK (is.map fun i => PyData.tuple [.int i, .bool true]) = some (is.map fun i => ((Sum.inl i : Key), PyData.bool true))
  | [] => rfl
  | i :: r => by
    rw [List.map_cons, rowsK, rowsK_dic]
    rfl
theorem foldl_addN_mem : ∀ {is ns : List Int} {x : Int}, x ∈ is.foldl addN ns ↔ x ∈ ns ∨ x ∈ is
  | [], ns, x => by simp
  | i :: r, ns, x => by
    rw [List.foldl_cons, foldl_addN_mem, addN_mem, List.mem_cons]
    constructor
    · rintro ((z | z) | z)
      · exact .inl z
      · exact .inr (.inl z)
      · exact .inr (.inr z)
    · rintro (z | z | z)
      · exact .inl (.inl z)
      · exact .inl (.inr z)
      · exact .inr z
theorem foldl_addN_len : ∀ {is ns : List Int}, (is.foldl addN ns).length ≤ ns.length + is.length
  | [], ns => by simp
  | i :: r, ns => by
    have h1 := foldl_addN_len (is := r) (ns := addN ns i)
    have h2 := addN_len (ns := ns) (i := i)
    rw [List.foldl_cons, List.length_cons]
    omega
theorem upd_core {is ns : List Int} (h : ns.length + is.length ≤ 1000000) : gUpdate (dicO ns) [.ls (is.map fun i => PyData.tuple [.int i, .bool true])] = some (dicO (is.foldl addN ns), .none) := by
  unfold gUpdate dicO
  simp only [rowsK_dic, Option.bind_some, List.length_map, updO_dic, Option.map_some]
  rw [if_pos (Nat.le_trans h (by decide))]
theorem p_update {is ns : List Int} {P : O → D → Prop} (h : ns.length + is.length ≤ 1000000) (k : P (dicO (is.foldl addN ns)) .none) : OpM gUpdate (dicO ns) [.ls (is.map fun i => PyData.tuple [.int i, .bool true])] P := by
  unfold OpM
  rw [upd_core h]
  exact k
theorem p_updateS {is ns : List Int} (h : ns.length + is.length ≤ 1000000) : (gUpdate (dicO ns) [.ls (is.map fun i => PyData.tuple [.int i, .bool true])]).isSome = true := by
  rw [upd_core h]
  rfl
theorem dicO_list {ns : List Int} {Q : O → Prop} : Op1 oListK (dicO ns) Q ↔ Q (.ls (ns.map .int)) := by
  unfold dicO
  rw [p_listK, List.map_map]
  exact Iff.rfl
theorem w_dicO {i : Int} {env : Mv.Env} {Q : O → Mv.Env → Prop} : We (dispE [⟨.inl i, true, (cstE (.bool true))⟩]) env Q ↔ Q (dicO [i]) env := by
  unfold We dispE
  rw [if_pos (by simp)]
  exact Iff.rfl
end Mv

set_option Elab.async false
set_option linter.all false
set_option maxRecDepth 100000
set_option maxHeartbeats 2000000
namespace Mv
open PySem PySem.Spec PyProof.Rows L2
theorem cutG_to {ts : List D} {i : Int} (h : 0 ≤ i) : Mv.cutD ts none (some i) = ts.take i.toNat := by
  unfold Mv.cutD
  have h1 : HT.sIx ts.length 0 none = 0 := rfl
  rw [h1, sIx_lo h]
  simp only [List.drop_zero, Nat.sub_zero]
  rw [List.take_eq_take_iff]
  omega
theorem cutG_from {ts : List D} {i : Int} (h : 0 ≤ i) : Mv.cutD ts (some i) none = ts.drop i.toNat := by
  unfold Mv.cutD
  have h1 : HT.sIx ts.length ts.length none = ts.length := rfl
  rw [h1, sIx_lo0 h]
  by_cases hn : i.toNat ≤ ts.length
  · rw [Nat.min_eq_left hn]
    rw [List.take_of_length_le (by rw [List.length_drop]; omega)]
  · rw [Nat.min_eq_right (by omega), Nat.sub_self, List.take_zero, List.drop_eq_nil_of_le (by omega)]
theorem slc_toG {ts : List D} {i : Int} {P : O → Prop} (h : 0 ≤ i) (k : P (.ls (ts.take i.toNat))) : Slc (.leaf (.list ts)) (.leaf .none) (.leaf (.int i)) P := by
  show O1 (some (O.ls (Mv.cutD ts none (some i)))) P
  rw [cutG_to h]
  exact k
theorem slc_fromG {ts : List D} {i : Int} {P : O → Prop} (h : 0 ≤ i) (k : P (.ls (ts.drop i.toNat))) : Slc (.leaf (.list ts)) (.leaf (.int i)) (.leaf .none) P := by
  show O1 (some (O.ls (Mv.cutD ts (some i) none))) P
  rw [cutG_from h]
  exact k
theorem at_mem {ts : List D} {i : Int} {P : D → Prop} (h : 0 ≤ i) (h2 : i < ts.length) (k : ∀ t ∈ ts, P t) : At ts i P := by
  rw [at_int h]
  have : i.toNat < ts.length := by omega
  rw [List.getElem?_eq_getElem this]
  exact k _ (List.getElem_mem this)
theorem at_get {ts : List D} {i : Int} {P : D → Prop} (h : 0 ≤ i) (h2 : i < ts.length) (k : ∀ t, ts[i.toNat]? = some t → P t) : At ts i P := by
  rw [at_int h]
  have : i.toNat < ts.length := by omega
  rw [List.getElem?_eq_getElem this]
  exact k _ (List.getElem?_eq_getElem this)
theorem at2 {i : Int} {a b : D} {P : D → Prop} (h : 0 ≤ i) (h2 : i < 2) (k : ∀ d, d = a ∨ d = b → P d) : At [a, b] i P := by
  have : i = 0 ∨ i = 1 := by omega
  rcases this with rfl | rfl
  · exact k a (.inl rfl)
  · exact k b (.inr rfl)
section
variable {p : Int × Int} {Q : O → Prop} {a b : Str}
theorem p_isTp : Op1 (vw1 (isaI .tuple)) (.leaf (pD p)) Q ↔ Q (.leaf (.bool true)) := p_isa (n := 1) (by decide) okz_pair
theorem p_lenp : Op1 oLen (.leaf (pD p)) Q ↔ Q (.leaf (.int 2)) := Iff.rfl
theorem itm_p {P : List D → Prop} : Itm (.leaf (pD p)) P ↔ P ([p.1, p.2].map .int) := Iff.rfl
theorem p_neBs {b : Bool} : Op2 (vw2 (eqI true)) (.leaf (.bool b)) (.leaf (.bool b)) Q ↔ Q (.leaf (.bool false)) := by cases b <;> exact Iff.rfl
/-- lists of pairs that are the same -/
theorem eqP {neg : Bool} {a b : O} {l m : List Rg} (ha : a.frz = some (.list (l.map pD))) (hb : b.frz = some (.list (m.map pD))) (e : l = m) (hl : l.length ≤ 1000000) (k : Q (.leaf (.bool !neg))) : Op2 (vw2 (eqI neg)) a b Q := by
  subst e
  exact frz_eqE ha hb (n := 2) (by decide) (okz_pairs hl) k
theorem sz {n : Nat} (h : n ≤ 100000) : n ≤ sizeLine := Nat.le_trans h (by decide)
theorem eqv_str : PyData.eqv (.str a) (.str b) = decide (a = b) := by
  show (a == b) = _
  rw [Bool.eq_iff_iff, decide_eq_true_iff]
  exact beq_iff_eq
theorem p_eqS : Op2 (vw2 (eqI false)) (.leaf (.str a)) (.leaf (.str b)) Q ↔ Q (.leaf (.bool (decide (a = b)))) := by
  refine vw2_of rfl rfl ?_ rfl
  unfold eqI
  rw [show (okd 50 (.str a) && okd 50 (.str b)) = true from rfl, if_pos rfl, eqv_str]
  rfl
theorem p_neS : Op2 (vw2 (eqI true)) (.leaf (.str a)) (.leaf (.str b)) Q ↔ Q (.leaf (.bool (!decide (a = b)))) := by
  refine vw2_of rfl rfl ?_ rfl
  unfold eqI
  rw [show (okd 50 (.str a) && okd 50 (.str b)) = true from rfl, if_pos rfl, eqv_str]
  rfl
theorem line_racks : decide (("line" : Str) = ("racks" : Str)) = false := by decide +kernel
theorem racks_line : decide (("racks" : Str) = ("line" : Str)) = false := by decide +kernel
/-- a sign of a text -/
theorem p_ixs {z : Str} {i : Int} {n : Nat} (hz : z.cps.toList.length = n) (hn : n ≤ 1000000) (h : 0 ≤ i) (h2 : i < n) (k : ∀ c : Nat, Q (.leaf (.str ⟨#[c]⟩))) : Op2 oIx (.leaf (.str z)) (.leaf (.int i)) Q := by
  unfold Op2 oIx
  have e1 : seqO (.leaf (.str z)) = none := rfl
  have e2 : z.length ≤ sizeLine := by
    have : z.length = z.cps.toList.length := by
      show z.cps.size = _
      rw [Array.length_toList]
    rw [this, hz]
    exact Nat.le_trans hn (by decide)
  have e3 : ∃ c, atI z.cps.toList i = some c := by
    unfold atI
    have : ixN z.cps.toList.length i = some i.toNat := by
      unfold ixN
      rw [hz]
      split <;> simp_all <;> omega
    rw [this]
    have hlt : i.toNat < z.cps.toList.length := by omega
    exact ⟨_, List.getElem?_eq_getElem hlt⟩
  obtain ⟨c, e3⟩ := e3
  simp only [e1, Option.bind_none, Option.map_none, Option.none_or, strIx, if_pos e2, e3, Option.map_some]
  exact k c
end
/-! ''.join -/
def Jn (g : Str → O → Option D) (a : Str) (r : O) (Q : D → Prop) (_h : Hold Q := ⟨⟩) : Prop := O1 (g a r) fun z => flatD z = true ∧ Q z
def Sv (o : O) (Q : Str → Prop) (_h : Hold Q := ⟨⟩) : Prop := match o with
  | .leaf (.str a) => Q a
  | _ => False
theorem sv_s {a : Str} {Q : Str → Prop} : Sv (.leaf (.str a)) Q ↔ Q a := Iff.rfl
theorem w_strM {f1 f2 : ESem} {g : Str → O → Option D} {env : Mv.Env} {Q : O → Mv.Env → Prop} : We (strM f1 f2 g) env Q ↔ We f1 env fun o e => Sv o fun a => We f2 e fun r e2 => Jn g a r fun z => Q (.leaf z) e2 := by
  unfold We strM Sv Jn
  cases h : f1 env with
  | none => exact Iff.rfl
  | some p =>
    obtain ⟨o, e⟩ := p
    simp only [Option.bind_some, o2_s]
    cases o with
    | leaf t =>
      cases t with
      | str a =>
        simp only
        cases h2 : f2 e with
        | none => exact Iff.rfl
        | some r =>
          simp only [Option.bind_some, o2_s]
          cases h3 : g a r.1 with
          | none => exact Iff.rfl
          | some z =>
            simp only [Option.bind_some, o1_s]
            by_cases h4 : flatD z = true
            · rw [if_pos h4]
              simp only [h4, true_and]
              exact Iff.rfl
            · rw [if_neg h4, o2_n]
              exact ⟨fun z => z.elim, fun z => h4 z.1⟩
      | _ => exact Iff.rfl
    | _ => exact Iff.rfl
theorem strsD_map {ws : List Str} : strsD (ws.map .str) = some ws := by
  induction ws with
  | nil => rfl
  | cons a r ih => rw [List.map_cons, strsD, ih]; rfl
theorem jn_ls {a : Str} {ws : List Str} {Q : D → Prop} (h : (ws.map (·.length)).sum + ws.length * a.length ≤ 16777216) (k : ∀ s : Str, Q (.str s)) : Jn gJoin a (.ls (ws.map .str)) Q := by
  unfold Jn gJoin
  have e1 : seqO (.ls (ws.map .str)) = some (ws.map PyData.str) := rfl
  rw [e1, Option.bind_some, strsD_map, Option.bind_some, if_pos h]
  exact ⟨rfl, k _⟩
/-- single signs joined -/
theorem jn_signs {a : Str} {ws : List Str} {Q : D → Prop} (h : ws.length ≤ 1000) (ha : a.length ≤ 10) (hw : ∀ s ∈ ws, s.length = 1) (k : ∀ s : Str, Q (.str s)) : Jn gJoin a (.ls (ws.map .str)) Q := by
  refine jn_ls ?_ k
  have : (ws.map (·.length)).sum = ws.length := by
    clear k h
    induction ws with
    | nil => rfl
    | cons a r ih =>
      rw [List.map_cons, List.sum_cons, ih fun s hs => hw s (List.mem_cons_of_mem _ hs), hw a List.mem_cons_self, List.length_cons]
      omega
  rw [this]
  have := Nat.mul_le_mul h ha
  omega
theorem put_at {ts : List D} {i : Int} {d : D} {P : O → Prop} (h : 0 ≤ i) (h2 : i < ts.length) (k : P (.ls (ts.set i.toNat d))) : Op3 gSet (.ls ts) (.leaf (.int i)) d P := by
  unfold Op3 gSet
  have : ixN ts.length i = some i.toNat := by
    unfold ixN
    split <;> simp_all <;> omega
  simp only [this, Option.map_some]
  exact k
end Mv

set_option Elab.async false
set_option linter.all false
set_option maxRecDepth 100000
set_option maxHeartbeats 2000000
namespace Mv
open PySem PySem.Spec PyProof.Rows L2
/-! ### batches: plain data -/
theorem range_get {n j : Nat} {t : D} (h : (rangeD 0 n)[j]? = some t) : t = .int (j : Int) ∧ j < n := by
  have hj := (List.getElem?_eq_some_iff.mp h).1
  rw [range_ints, List.length_map, List.length_map, List.length_range] at hj
  refine ⟨?_, hj⟩
  rw [range_ints, List.getElem?_map, List.getElem?_map, List.getElem?_range hj] at h
  simpa using h.symm
inductive Ps where
  | ln (pl : Str) (st lg dv : Int)
  | rk (pl : Str) (per : Int) (ss : List Rg)
def Ps.pl : Ps → Str
  | .ln p _ _ _ => p
  | .rk p _ _ => p
def Ps.kd : Ps → Str
  | .ln _ _ _ _ => "line"
  | .rk _ _ _ => "racks"
def encP : Ps → D
  | .ln p s l d => .tuple [.str "line", .str p, .int s, .int l, .int d]
  | .rk p per ss => .tuple [.str "racks", .str p, .int per, .list (ss.map pD)]
/-- a pass as it is handed in: its stays a list or a tuple -/
def HandP (t : D) : Ps → Prop
  | .ln p s l d => t = .tuple [.str "line", .str p, .int s, .int l, .int d]
  | .rk p per ss => t = .tuple [.str "racks", .str p, .int per, .list (ss.map pD)] ∨ t = .tuple [.str "racks", .str p, .int per, .tuple (ss.map pD)]
theorem handP_enc {p : Ps} : HandP (encP p) p := by
  cases p
  · exact rfl
  · exact .inl rfl
theorem handP_two {t : D} {p : Ps} (h : HandP t p) : ∃ r, t = .tuple (.str p.kd :: .str p.pl :: r) := by
  cases p with
  | ln a b c d => exact ⟨_, h⟩
  | rk a b c =>
    rcases h with h | h
    · exact ⟨_, h⟩
    · exact ⟨_, h⟩
def GoodP (tins : Int) : Ps → Prop
  | .ln _ s l d => 0 ≤ s ∧ s < 1000000000000000000000000000000 ∧ 0 ≤ l ∧ l < 1000000000000000000000000000000 ∧ 0 < d ∧ d ≤ 1000000000000000000000000000000
  | .rk _ per ss => 0 < per ∧ per ≤ 10000000000000000000000000000000 ∧ (ss.length : Int) = (tins + per - 1) / per ∧ ss.length ≤ 12 ∧ ∀ p ∈ ss, 0 ≤ p.1 ∧ p.1 ≤ p.2 ∧ p.2 < 2000000000000000000000000000000000000000
def fnd (pl : Str) (ps : List Ps) : Option Ps := ps.find? fun p => decide (p.pl = pl)
theorem fnd_cons {pl : Str} {p : Ps} {r : List Ps} : fnd pl (p :: r) = if p.pl = pl then some p else fnd pl r := by
  unfold fnd
  rw [List.find?_cons]
  by_cases h : p.pl = pl <;> simp [h]
theorem fnd_mem {pl : Str} {ps : List Ps} {p : Ps} (h : fnd pl ps = some p) : p ∈ ps ∧ p.pl = pl := by
  unfold fnd at h
  exact ⟨List.mem_of_find?_eq_some h, by simpa using List.find?_some h⟩
/-- the minutes of a tin at a pass -/
def winP (tin : Int) : Ps → Option Rg
  | .ln _ s l d => some (s + tin * l / d, s + tin * l / d)
  | .rk _ per ss => ss[(tin / per).toNat]?
def win (pl : Str) (ps : List Ps) (tin : Int) : Option Rg := (fnd pl ps).bind (winP tin)
def ogD : Option Rg → D
  | none => .none
  | some p => pD p
theorem okz_og {n : Nat} {a : Option Rg} : okz (n + 1) (ogD a) = true := by
  cases a
  · exact okz_none
  · exact okz_pair
/-- the rack of a tin is there -/
theorem rack_ok {tins per tin : Int} {n : Nat} (hp : 0 < per) (hn : (n : Int) = (tins + per - 1) / per) (h0 : 0 ≤ tin) (h1 : tin < tins) : 0 ≤ tin / per ∧ tin / per < n := by
  refine ⟨Int.ediv_nonneg h0 (by omega), ?_⟩
  rw [hn]
  have e : (tins + per - 1) / per = (tins - 1) / per + 1 := by
    have : tins + per - 1 = (tins - 1) + per * 1 := by omega
    rw [this, Int.add_mul_ediv_left _ _ (by omega)]
  rw [e]
  have := Int.ediv_le_ediv hp (by omega : tin ≤ tins - 1)
  omega
/-- as many racks as were drawn, or fewer -/
theorem racks_few {tins racks per : Int} (h1 : 0 < tins) (h2 : 0 < racks) (hper : per = (tins + racks - 1) / racks) : 0 < per ∧ per ≤ tins + racks ∧ 0 < (tins + per - 1) / per ∧ (tins + per - 1) / per ≤ racks := by
  have p1 : 0 < per := by
    rw [hper]
    exact Int.lt_of_lt_of_le (by decide : (0 : Int) < 1) ((Int.le_ediv_iff_mul_le h2).mpr (by omega))
  have p2 : tins ≤ racks * per := by
    have h := Int.lt_mul_ediv_self_add (x := tins + racks - 1) h2
    rw [← hper] at h
    omega
  refine ⟨p1, ?_, ?_, ?_⟩
  · rw [hper]
    exact Int.le_trans (Int.ediv_le_self _ (by omega)) (by omega)
  · exact Int.lt_of_lt_of_le (by decide : (0 : Int) < 1) ((Int.le_ediv_iff_mul_le p1).mpr (by omega))
  · have : (tins + per - 1) / per < racks + 1 := by
      rw [Int.ediv_lt_iff_lt_mul p1, Int.add_mul]
      omega
    omega
theorem okz_encP {n : Nat} {p : Ps} {tins : Int} (g : GoodP tins p) : okz (n + 3) (encP p) = true := by
  cases p with
  | ln a b c d =>
    rw [encP, okz_tuple]
    refine ⟨by simp, fun t ht => ?_⟩
    simp only [List.mem_cons, List.not_mem_nil, or_false] at ht
    rcases ht with rfl | rfl | rfl | rfl | rfl <;> rfl
  | rk a b c =>
    obtain ⟨_, _, _, g4, _⟩ := g
    rw [encP, okz_tuple]
    refine ⟨by simp, fun t ht => ?_⟩
    simp only [List.mem_cons, List.not_mem_nil, or_false] at ht
    rcases ht with rfl | rfl | rfl | rfl
    · rfl
    · rfl
    · rfl
    · exact okz_pairs (by omega)
/-! lists for tuples, throughout -/
mutual
def lsD : D → D
  | .list ts => .list (lsDA ts)
  | .tuple ts => .list (lsDA ts)
  | t => t
def lsDA : List D → List D
  | [] => []
  | t :: r => lsD t :: lsDA r
end
theorem lsDA_map : ∀ {ts : List D}, lsDA ts = ts.map lsD
  | [] => by rw [lsDA, List.map_nil]
  | t :: r => by rw [lsDA, lsDA_map, List.map_cons]
theorem ls_list {ts : List D} : lsD (.list ts) = .list (ts.map lsD) := by rw [lsD, lsDA_map]
theorem ls_tuple {ts : List D} : lsD (.tuple ts) = .list (ts.map lsD) := by rw [lsD, lsDA_map]
theorem ls_hand {t : D} {p : Ps} (h : HandP t p) : lsD t = lsD (encP p) := by
  cases p with
  | ln a b c d => rw [show t = encP (.ln a b c d) from h]
  | rk a b c =>
    rcases h with h | h
    · rw [h]
      rfl
    · rw [h, encP, ls_tuple, ls_tuple]
      simp only [List.map_cons, List.map_nil]
      rw [ls_list, ls_tuple]
end Mv

set_option Elab.async false
set_option linter.all false
set_option maxRecDepth 100000
set_option maxHeartbeats 2000000
namespace Mv
open PySem PySem.Spec PyProof.Rows L2 RZ
open Sem (wp)
open AutoSeq1 (wpAny_loadPart')
/-! ### enumerate over a tuple -/
theorem meets_enum_one {v : Value} {o : Obj} {H : Heap → Prop} (B : Begins v o H) :
    Meets (Builtin.«enumerate.__new__» ⟨[.type "enumerate", v], []⟩) (fun _ R s => H s.heap ∧
      R (.ok (.ret (.ref (s.heap.push o).objs.size))) { s with heap := (s.heap.push o).push { cls := .type "enumerate", data := .fields #[.none, .bool false, .ref s.heap.objs.size, rawInt 0, .none, .none] } }) :=
  .of_wp fun prog w A R s h => by
    obtain ⟨hp, g, d, tk, os⟩ := s; obtain ⟨h1, h⟩ := h
    have hsub := sub_enumerate
    have q1 : ∀ {A' : Around} {E : Value → Shared → Prop} {Q : Value → Shared → Prop}, Q (.ref hp.objs.size) ⟨hp.push o, g, d, tk, os⟩ → wpAny (model prog w) A' (pyIter v) Q E ⟨hp, g, d, tk, os⟩ :=
      fun q => B.iter prog w _ _ ⟨hp, g, d, tk, os⟩ _ h1 q
    wp_walk using q1
    refine wpAny_stack_any fun st => wpAny_pure ?_
    split
    · rename_i c _ _ _ _ _
      cases (c == Value.type "enumerate")
      · wp_walk using q1
        exact ⟨_, rfl, h⟩
      · wp_walk using q1
        exact ⟨_, rfl, h⟩
    · wp_walk using q1
      exact ⟨_, rfl, h⟩
theorem call_enum_tuple {prog : Program} {w : World} {A : Around} {E : Value → Shared → Prop} {s : Shared} {l : Addr} {items : Array Value} {Q : Value → Shared → Prop} (hL : s.heap.IsTuple l items)
    (h : ∀ h', IsEnum h' (s.heap.objs.size + 1) s.heap.objs.size 0 .none → h'.IsTupleIter s.heap.objs.size l 0 → h'.objs.size = s.heap.objs.size + 2 →
      (∀ b o, s.heap.get? b = some o → h'.get? b = some o) → Q (.ref (s.heap.objs.size + 1)) { s with heap := h' }) :
    wpAny (model prog w) A (call (.type "enumerate") [.ref l]) Q E s := by
  refine callType_new F.called_enumerate (by decide) (F.typeCall_enumerate_1 _) (F.newCall_enumerate_1 _) (fun obj => F.args_object_init_2 obj _) F.entry_enumerate_new
    (meets_enum_one (begins_tuple l items)) ⟨hL, ?_⟩
  have hz : (s.heap.push { cls := .type "tuple_iterator", data := .fields #[.ref l, .int 0 0] }).objs.size = s.heap.objs.size + 1 := Heap.size_push ..
  show _ ∧ _
  rw [hz]
  have he : IsEnum ((s.heap.push { cls := .type "tuple_iterator", data := .fields #[.ref l, .int 0 0] }).push
      { cls := .type "enumerate", data := .fields #[.none, .bool false, .ref s.heap.objs.size, rawInt 0, .none, .none] }) (s.heap.objs.size + 1) s.heap.objs.size 0 .none := by
    have := Heap.get?_push_size (s.heap.push { cls := .type "tuple_iterator", data := .fields #[.ref l, .int 0 0] })
      (o := { cls := .type "enumerate", data := .fields #[.none, .bool false, .ref s.heap.objs.size, rawInt 0, .none, .none] }) rfl
    rw [hz] at this; exact this
  refine ⟨⟨_, he, rfl⟩, h _ he ⟨_, Heap.get?_push_of_some _ (Heap.get?_push_size _ rfl), rfl, rfl⟩ (by rw [Heap.size_push, hz]) fun b o x => Heap.get?_push_of_some _ (Heap.get?_push_of_some _ x)⟩
theorem enum_end_tuple {prog : Program} {w : World} {A : Around} {E : Value → Shared → Prop} {s : Shared} {e it l : Addr} {i : Nat} {items : Array Value} {old : Value} {Q : Option Value → Shared → Prop} (hh : A.handled = none)
    (he : IsEnum s.heap e it i old) (hit : s.heap.IsTupleIter it l i) (hl : s.heap.IsTuple l items) (hx : items[i]? = none)
    (hQ : ∀ h', Heap.ExtBut it s.heap h' → Q none { s with heap := h' }) : wpAny (model prog w) A (pyNext (.ref e)) Q E s := by
  have hT : s.TypeIs (.ref e) "enumerate" := ⟨_, he, rfl⟩
  unfold pyNext
  refine wpAny_bind (wpAny_attempt (wpAny_callSpecial?_slot (name := Str.ofString "__next__") hT F.slot_enumerate_next
    (wpAny_call_entry F.slot_enumerate_next hT F.entry_enumerate_next ?_ (F.args_enumerate_next_1 _))))
  show wpAny _ _ (field (.ref e) 2 >>= _) _ _ _
  refine wpAny_bind (wpAny_field he rfl (x := .ref it) rfl ?_)
  refine wpAny_bind (wpAny_nextOf_tuple_end hh hit hl hx fun h' x he' hx' => ?_)
  obtain ⟨o, ho, hc⟩ := hx'
  refine wpAny_bind (wpAny_isInstance (T := "StopIteration") (b := true) ⟨o, ho, hc⟩ isSubtype_stop ?_)
  exact wpAny_pure (hQ _ he')
/-- the tuple at a, each item in a new pair -/
def IteT (K : PySem.W.Frag) (a : Addr) : It :=
  ⟨fun i H => ∃ (xs : List V) (x : V), SqT K H a xs ∧ xs[i]? = some x, fun i H v H' => ∃ T x, v = .ref T ∧ H T = none ∧ H' = upd H T (.tup [.int (i : Nat), x]) ∧ ∀ xs, SqT K H a xs → xs[i]? = some x, fun i H => ∃ xs : List V, SqT K H a xs ∧ xs.length ≤ i⟩
theorem turn_enumT {P : Program} {w : World} {K : PySem.W.Frag} {elts : List Expr} {kk : Nat} {tpos : Pos} (a e it : Addr) (hai : a ≠ it) (hea : e ≠ a) :
    Turn P w K (.Tuple elts kk tpos) (IteT K a) [e, it] e (fun i h => (∃ old, IsEnum h e it ((i : Nat) : Int) old) ∧ h.IsTupleIter it a i ∧ e ≠ it) where
  mem := by simp
  obj := fun i h st b hb => by
    obtain ⟨⟨old, he⟩, ⟨o, ho, hc, hd⟩, _⟩ := st
    have e' : b = e ∨ b = it := by simpa using hb
    rcases e' with z | z
    · rw [z]; exact ⟨_, he, fun v q => nomatch q⟩
    · rw [z]; exact ⟨o, ho, fun v q => by rw [hd] at q; cases q⟩
  keep := fun i h h' st k => let ⟨⟨old, he⟩, hi, hne⟩ := st; ⟨⟨old, k e (by simp) _ he⟩, hi.at fun o q => k it (by simp) o q, hne⟩
  item := by
    intro X hP hw hK hc i pins s σ H E I hf st hg
    subst hP hw hK
    obtain ⟨⟨old, he⟩, hit, hne⟩ := st
    obtain ⟨xs, x, hq, hx⟩ := hg
    obtain ⟨its, rv, p, hz⟩ := I.tuple hq
    obtain ⟨u, hu, ru⟩ := rv.get hx
    have hel : e < s.heap.objs.size := Heap.lt_size he
    have hil : it < s.heap.objs.size := by obtain ⟨_, q, _⟩ := hit; exact Heap.lt_size q
    have D := Draws.tuple (prog := X.prog) (w := X.w) (A := X.A.in1) (I.ok.hd hc) it a hai its.toArray
    have hlt : i < its.toArray.size := by
      rw [List.size_toArray]
      exact (List.getElem?_eq_some_iff.mp hu).1
    refine wpAny_pyNext_enum_itemD D he ⟨hit, p⟩ hlt hne (by simp [hne, hea]) fun x' h' tk hx' ho hit' hT hsz hk => ?_
    have ex : x' = u := by
      have : its.toArray[i]? = some u := by simpa using hu
      rw [this] at hx'
      exact (Option.some.inj hx').symm
    subst ex
    refine ⟨_, rfl, wpAny_letOwnedTupleGo_enum (s := { s with heap := h', toks := tk + 1 }) ho fun h'' he' sb => ?_⟩
    have hT2 : h''.get? s.heap.objs.size = some { cls := .type "tuple", data := .seq #[.int i tk, x'] } := (sb.2 _ (Nat.ne_of_gt hel)).trans hT
    have new : ObjOk X.prog X.w (upd H s.heap.objs.size (.tup [.int (i : Nat), x])) h'' s.heap.objs.size (.tup [.int (i : Nat), x]) :=
      ⟨by show 2 ≤ sizeLine; decide, [.int i tk, x'], .cons ⟨_, rfl⟩ (.cons ru .nil), ⟨_, hT2, rfl, _, rfl⟩⟩
    have I1 : Inv X pins σ (upd H s.heap.objs.size (.tup [.int (i : Nat), x])) { s with heap := h'', toks := tk + 1 } :=
      I.turnedNew (ch := [e, it]) (fun b ob hb q => (sb.2 b (fun z => hb (by simp [z]))).trans (hk b ob (fun z => hb (by simp [z])) (fun z => hb (by simp [z])) q)) hf (Nat.le_refl _) new
    refine ⟨.ref s.heap.objs.size, _, I1, rfl, ⟨_, x, rfl, I.hok.fresh (Nat.le_refl _), rfl, fun ys hy => by rw [I.tuple_inj hy hq]; exact hx⟩, ⟨⟨x', ?_⟩, hit'.1.at fun o q => (sb.2 it (Ne.symm hne)).trans q, hne⟩, fun b hb => ?_⟩
    · have e1 : ((i + 1 : Nat) : Int) = (i : Int) + 1 := by omega
      rw [e1]; exact he'
    · have hb' : b < s.heap.objs.size := by
        have e' : b = e ∨ b = it := by simpa using hb
        rcases e' with z | z
        · rw [z]; exact hel
        · rw [z]; exact hil
      rw [upd_ne (Nat.ne_of_lt hb')]
      exact (hf b hb).1
  done := by
    intro X hP hw hK hc i pins s σ H E I hf st hg
    subst hP hw hK
    obtain ⟨⟨old, he⟩, hit, hne⟩ := st
    obtain ⟨xs, hq, hx⟩ := hg
    obtain ⟨its, rv, p, hz⟩ := I.tuple hq
    obtain ⟨f0, f1, f2, f3, f4, f5⟩ := hf it (by simp)
    have hl := rv.length
    exact enum_end_tuple (I.ok.hd hc) he hit p (by simp; omega) fun h' eb => ⟨rfl, I.turned (t' := s.toks) (fun b o hb q => eb b o hb q) f0 f1 f3 f4 f5⟩
  self := fun A i s Q E st h => let ⟨⟨_, he⟩, _⟩ := st; wpAny_pyIter_enum he h
def iEnumA (K : PySem.W.Frag) (ta : TA) : TI := fun σ H R => ta σ H fun vs H1 => ∃ a xs, vs = [.ref a] ∧ ((SqL K H1 a xs ∧ R (Ite K a) H1) ∨ (SqT K H1 a xs ∧ R (IteT K a) H1))
theorem pi_enumA {X : Cx} {e : Expr} {ta : TA} {p pos tpos : Pos} {elts : List Expr} {kk : Nat} (hg : Gl X "enumerate") (hm : X.mg "enumerate" = none) (ha : PA X [e] ta) (hs : starEach [e] X.env = [(false, eval e X.env)] := by rfl) :
    PI X (.Tuple elts kk tpos) (.Call (.Name "enumerate" p) [e] [] pos) (iEnumA X.K ta) := by
  refine ⟨fun pins s σ H R I h => ?_⟩
  refine Call_ (ld_blt I hg hm boot_enumerate (PyProof.Rows.callWith_type1 (thn (ha.run pos pins s σ H _ I h) fun us s1 ⟨vs, H1, I1, r1, q1⟩ => ?_) hs rfl))
  obtain ⟨a, xs, ex, q1⟩ := q1
  subst ex
  cases r1 with
  | cons r rr =>
    cases rr
    cases r
    rcases q1 with ⟨hq, q⟩ | ⟨hq, q⟩
    · obtain ⟨its, rv, p', hz⟩ := I1.list hq
      refine call_enumerate_list p'.isList fun h' he hit hsz hk => wpAny_pyIter_enum he ?_
      have I2 : Inv X pins σ H1 { s1 with heap := h' } := I1.kept (t' := s1.toks) hk
      refine ⟨s1.heap.objs.size + 1, [s1.heap.objs.size + 1, s1.heap.objs.size], _, _, H1, rfl, I2, turn_enum a (s1.heap.objs.size + 1) s1.heap.objs.size, ⟨⟨.none, he⟩, hit, Nat.succ_ne_self _⟩, fun b hb => ?_, q⟩
      have e' : b = s1.heap.objs.size + 1 ∨ b = s1.heap.objs.size := by simpa using hb
      have hle : s1.heap.objs.size ≤ b := by
        rcases e' with z | z
        · rw [z]; exact Nat.le_add_right _ _
        · rw [z]; exact Nat.le_refl _
      exact I1.fpOk hle (I1.hok.fresh hle)
    · obtain ⟨its, rv, p', hz⟩ := I1.tuple hq
      have hal : a < s1.heap.objs.size := by
        obtain ⟨o, ho, _⟩ := p'
        exact Heap.lt_size ho
      refine call_enum_tuple p' fun h' he hit hsz hk => wpAny_pyIter_enum he ?_
      have I2 : Inv X pins σ H1 { s1 with heap := h' } := I1.kept (t' := s1.toks) hk
      refine ⟨s1.heap.objs.size + 1, [s1.heap.objs.size + 1, s1.heap.objs.size], _, _, H1, rfl, I2, turn_enumT a (s1.heap.objs.size + 1) s1.heap.objs.size (Nat.ne_of_lt hal) (Nat.ne_of_gt (Nat.lt_succ_of_lt hal)), ⟨⟨.none, he⟩, hit, Nat.succ_ne_self _⟩, fun b hb => ?_, q⟩
      have e' : b = s1.heap.objs.size + 1 ∨ b = s1.heap.objs.size := by simpa using hb
      have hle : s1.heap.objs.size ≤ b := by
        rcases e' with z | z
        · rw [z]; exact Nat.le_add_right _ _
        · rw [z]; exact Nat.le_refl _
      exact I1.fpOk hle (I1.hok.fresh hle)
def enumA (g : ASem) : ISem := fun env => (g env).bind fun p => match p.1 with
  | [o] => (seqO o).map fun ts => (enumD ts, p.2)
  | _ => none
section
variable {K : PySem.W.Frag} {S0 H0 : Hp} {a : Addr} {ts : List D} {vs : List V}
theorem itet_ok {A : List Addr} (h : ∀ S H, Same S0 S → Same S H → SqT K H a vs) (w : FzL K S0 ts vs) : ItOk K (IteT K a) A S0 H0 (enumD ts) := by
  have hl : (enumD ts).length = ts.length := by simp [enumD]
  refine ⟨fun S H i e1 e2 e3 hi => ?_, fun S H i e1 e2 e3 hi => ⟨vs, h S H e1 e2, by rw [w.len, ← hl]; exact hi⟩, fun S H i t x H' e1 e2 e3 hi y => ?_⟩
  · rw [hl] at hi
    obtain ⟨v, hv, _⟩ := w.get (List.getElem?_eq_getElem hi)
    exact ⟨vs, v, h S H e1 e2, hv⟩
  · obtain ⟨T, x', rfl, hT, rfl, y⟩ := y
    unfold enumD at hi
    rw [List.getElem?_map, List.getElem?_zipIdx] at hi
    simp only [Option.map_map, Option.map_eq_some_iff] at hi
    obtain ⟨t0, hi, rfl⟩ := hi
    obtain ⟨v, hv, hz⟩ := w.get hi
    have := (y vs (h S _ e1 e2)).symm.trans hv
    cases this
    have := fz_pair (K := K) (t := .int (i : Nat)) (x := .int (i : Nat)) e2 hT (by simp only [Fz]) (hz.same e1)
    simp only [Function.comp_apply, Nat.zero_add]
    exact ⟨_, this.1, this.2⟩
end
section
variable {X : Cx} {e : Expr} {g : ASem} {q : Bool} {pos p tpos : Pos} {elts : List Expr} {kk : Nat}
theorem si_enumA (hg : Gl X "enumerate") (hm : X.mg "enumerate" = none) (h : SA X [e] g q) (hs : starEach [e] X.env = [(false, eval e X.env)] := by rfl) : SI X (.Tuple elts kk tpos) (.Call (.Name "enumerate" p) [e] [] pos) (enumA g) := by
  refine ⟨PI.imp (pi_enumA hg hm h.pa hs) fun σ H R hh => ?_⟩
  obtain ⟨env, S, fp, ts, env', RR, he, k⟩ := hh
  unfold enumA at he
  simp only [Option.bind_eq_some_iff] at he
  obtain ⟨⟨os, e1⟩, h1, h2⟩ := he
  simp only at h1 h2
  split at h2
  · rename_i o
    simp only [Option.map_eq_some_iff, Prod.mk.injEq] at h2
    obtain ⟨ts', h2, rfl, rfl⟩ := h2
    refine ⟨env, S, fp, [o], e1, RR, h1, fun vs S1 H1 fp1 fr R1 E1 w g n => ?_⟩
    obtain ⟨v, vr, f1, f2, rfl, rfl, w1, w2⟩ := w
    obtain ⟨rfl, rfl⟩ := w2
    unfold seqO at h2
    cases hz : lstO o with
    | some z =>
      rw [hz, Option.some_or] at h2
      cases h2
      obtain ⟨a, xs, rfl, w3, kp⟩ := lstO_keeps (A := f1) R1.le w1 hz fun _ m => m
      exact ⟨a, xs, rfl, .inl ⟨kp S1 H1 (Same.refl _) R1.le fun _ _ => rfl, k _ S1 H1 fp1 f1 R1 E1 (ite_ok kp w3) fun b m => ⟨w1.some b m, n.off b (List.mem_append_left _ m)⟩⟩⟩
    | none =>
      rw [hz, Option.none_or] at h2
      obtain ⟨rfl, rfl, w5⟩ := tupO_S w1 h2
      simp only [Fz] at w5
      obtain ⟨a, xs, rfl, w5, w7⟩ := w5
      exact ⟨a, xs, rfl, .inr ⟨SqT.of (R1.le _ _ w5), k _ S1 H1 fp1 [] R1 E1 (itet_ok (fun S H e1 e2 => SqT.of (e2 _ _ (e1 _ _ w5))) w7) (by intro b m; cases m)⟩⟩
  · cases h2
end
/-! the plain side -/
def EnmA (os : List O) (Q : List D → Prop) (_h : Hold Q := ⟨⟩) : Prop := match os with
  | [o] => O1 (seqO o) fun ts => Q (enumD ts)
  | _ => False
theorem w_enumA {g : ASem} {env : Mv.Env} {Q : List D → Mv.Env → Prop} : Wi (enumA g) env Q ↔ Wa g env fun os e => EnmA os fun ts => Q ts e := by
  unfold Wi Wa enumA EnmA
  cases h : g env with
  | none => exact Iff.rfl
  | some p =>
    obtain ⟨os, e⟩ := p
    simp only [Option.bind_some, o2_s]
    cases os with
    | nil => exact Iff.rfl
    | cons o r =>
      cases r with
      | nil =>
        simp only
        cases h2 : seqO o <;> exact Iff.rfl
      | cons _ _ => exact Iff.rfl
theorem enma_l {ts : List D} {Q : List D → Prop} : EnmA [.leaf (.list ts)] Q ↔ Q (enumD ts) := Iff.rfl
theorem enma_t {ts : List D} {Q : List D → Prop} : EnmA [.leaf (.tuple ts)] Q ↔ Q (enumD ts) := Iff.rfl
theorem enma_o {ts : List D} {Q : List D → Prop} : EnmA [.ls ts] Q ↔ Q (enumD ts) := Iff.rfl
end Mv

set_option Elab.async false
set_option linter.all false
set_option maxRecDepth 100000
set_option maxHeartbeats 2000000
namespace Mv
open PySem PySem.Spec PyProof.Rows L2
/-! ### calls whose arguments are frozen change nothing; a thing of one's own that is lent -/
def tCQ (K : PySem.W.Frag) (f : Mv.Env → Option (List Item × Mv.Env)) : TA := fun σ H Q => ∃ env S fp items env', Rel K env σ S H fp ∧ f env = some (items, env') ∧
  ∀ vs S' H', Rel K env σ S' H' fp → Evo S H fp S' H' fp → Same H H' → ItA K S' H' σ items vs [] → Q vs H'
structure SCQ (X : Cx) (es : List Expr) (args : List Arg) : Prop where
  pa : PA X es (tCQ X.K (evA args))
  qf : ∀ env items env', evA args env = some (items, env') → env' = env ∧ ∀ it ∈ items, ∃ t, it = .inl (.leaf t)
section
variable {X : Cx} {e : Expr} {es : List Expr} {f : ESem} {m : Bool} {args : List Arg} {pos : Pos}
theorem scq_nil : SCQ X [] [] := by
  refine ⟨PA.imp pa_nil fun σ H Q h => ?_, fun env items env' h => ?_⟩
  · obtain ⟨env, S, fp, rs, env', R, he, k⟩ := h
    cases he
    exact k [] S H R (Evo.refl _ _ _) (Same.refl _) ⟨rfl, rfl⟩
  · cases h
    exact ⟨rfl, by simp⟩
theorem scq_e (h1 : SE X e f true m) (h2 : SCQ X es args) (hs : starEach (e :: es) X.env = (false, eval e X.env) :: starEach es X.env := by rfl) : SCQ X (e :: es) (.e false f :: args) := by
  refine ⟨PA.imp (pa_cons h1.pe h2.pa hs) fun σ H Q h => ?_, fun env items env' h => ?_⟩
  · obtain ⟨env, S, fp, rs, env', R, he, k⟩ := h
    unfold evA at he
    simp only [Option.bind_eq_some_iff] at he
    obtain ⟨⟨o, e1⟩, h3, h4⟩ := he
    have ee := h1.qf rfl _ _ _ h3
    simp only at h3 h4 ee
    subst ee
    split at h4
    · rename_i hl
      simp only [Option.map_eq_some_iff, Prod.mk.injEq] at h4
      obtain ⟨⟨os, e2⟩, h4, rfl, rfl⟩ := h4
      simp only [Bool.false_or] at hl
      refine ⟨e1, S, fp, o, e1, R, h3, fun x S1 H1 fp1 fr1 R1 E1 w1 g1 n1 => ?_⟩
      obtain ⟨rfl, sm⟩ := g1 rfl
      have hfr := isLeaf_fr hl w1
      subst hfr
      refine ⟨e1, S1, fp1, os, e2, R1, h4, fun vs S2 H2 R2 E2 s2 w2 => ?_⟩
      refine k (x :: vs) S2 H2 R2 (E1.trans E2) (sm.trans s2) ⟨x, vs, [], [], rfl, rfl, w1.evo (by intro a ha; cases ha) E2, w2⟩
    · cases h4
  · unfold evA at h
    simp only [Option.bind_eq_some_iff] at h
    obtain ⟨⟨o, e1⟩, h3, h4⟩ := h
    have ee := h1.qf rfl _ _ _ h3
    simp only at h3 h4 ee
    subst ee
    split at h4
    · rename_i hl
      simp only [Option.map_eq_some_iff, Prod.mk.injEq] at h4
      obtain ⟨⟨os, e2⟩, h4, rfl, rfl⟩ := h4
      obtain ⟨e3, h5⟩ := h2.qf _ _ _ h4
      refine ⟨e3, fun it hit => ?_⟩
      rcases List.mem_cons.mp hit with rfl | hit
      · simp only [Bool.false_or] at hl
        cases o with
        | leaf t => exact ⟨t, rfl⟩
        | ls _ => cases hl
        | dic _ => cases hl
        | dct _ => cases hl
        | obj _ _ => cases hl
      · exact h5 it hit
    · cases h4
end
theorem ita_leaf {K : PySem.W.Frag} {S H : Hp} {σ : L2.St} : ∀ {items : List Item} {vs : List V} {env : Mv.Env}, (∀ it ∈ items, ∃ t, it = .inl (.leaf t)) → ItA K S H σ items vs [] →
    ∃ ts : List D, items = ts.map (fun t => .inl (.leaf t)) ∧ FzL K S ts vs
  | [], vs, env, _, h => by
    obtain ⟨rfl, _⟩ := h
    exact ⟨[], rfl, FzL.nil⟩
  | it :: r, vs, env, hl, h => by
    obtain ⟨t, rfl⟩ := hl it List.mem_cons_self
    obtain ⟨v, vr, f1, f2, rfl, e, h1, h2⟩ := h
    obtain ⟨rfl, rfl⟩ : f1 = [] ∧ f2 = [] := by simpa using e.symm
    obtain ⟨ts, rfl, h3⟩ := ita_leaf (env := env) (fun it hit => hl it (List.mem_cons_of_mem _ hit)) h2
    exact ⟨t :: ts, rfl, FzL.cons (ow_leafE h1).2 h3⟩
theorem collect_leaf {env : Mv.Env} : ∀ {ts : List D}, collect env (ts.map fun t => (.inl (.leaf t) : Item)) = some (ts.map .leaf)
  | [] => rfl
  | t :: r => by
    rw [List.map_cons, collect, collect_leaf]
    rfl
theorem ownIx_leaf {env : Mv.Env} : ∀ {ts : List D}, ownIx env (ts.map fun t => (.inl (.leaf t) : Item)) = []
  | [] => rfl
  | t :: r => by
    rw [List.map_cons, ownIx]
    exact ownIx_leaf
theorem wb_leaf {env : Mv.Env} {ts : List D} {os' : List (Option O)} : wb (ts.map fun t => (.inl (.leaf t) : Item)) os' env = env := by
  unfold wb
  apply List.ext_getElem?
  intro j
  rw [List.getElem?_mapIdx]
  have : posA (ts.map fun t => (.inl (.leaf t) : Item)) env j = none := by
    cases h : posA (ts.map fun t => (.inl (.leaf t) : Item)) env j with
    | none => rfl
    | some k =>
      have := (posA_some h).2
      rw [List.getElem?_map] at this
      cases q : ts[k]? with
      | none => rw [q] at this; cases this
      | some t => rw [q] at this; cases this
  cases q : env[j]? with
  | none => rfl
  | some o => simp only [Option.map_some, this]
theorem callQ_core {K : PySem.W.Frag} {g : Def} {args : List Arg} {σ : L2.St} {H : Hp} {Q : VK} {E : XK} (hq : ∀ env items env', evA args env = some (items, env') → env' = env ∧ ∀ it ∈ items, ∃ t, it = .inl (.leaf t))
    (h : tE K (callF g args) true true σ H Q) : tCall (spOf K g) [] E (tCQ K (evA args)) σ H Q := by
  obtain ⟨env, S, fp, z, env', R, he, k⟩ := h
  unfold callF at he
  simp only [Option.bind_eq_some_iff] at he
  obtain ⟨⟨items, e1⟩, h1, os, h2, h3⟩ := he
  obtain ⟨ee, hl⟩ := hq _ _ _ h1
  simp only at h1 h2 h3 ee hl
  subst ee
  split at h3
  · rename_i hod
    simp only [Option.bind_eq_some_iff, Option.some.injEq, Prod.mk.injEq] at h3
    obtain ⟨⟨r, os'⟩, h3, rfl, rfl⟩ := h3
    simp only at h3 k
    refine ⟨e1, S, fp, items, e1, R, h1, fun vs S1 H1 R1 E1 sm I1 => ?_⟩
    obtain ⟨ts, rfl, hz⟩ := ita_leaf (env := e1) hl I1
    rw [collect_leaf] at h2
    cases h2
    rw [wb_leaf] at k
    rw [List.append_nil]
    refine ⟨ts.map .leaf, S1, fun _ => [], r, os', ⟨R1.le, by simp [hz.len], fun j o e => ?_, fun i => List.nodup_nil, fun i j a m1 m2 => (by cases m1), fun i a m => (by cases m), fun i a m => (by cases m)⟩, fun kk hk => rfl, h3, fun v S2 H2 fp2 fr2 R2 E2 w2 F2 => ?_⟩
    · rw [List.getElem?_map, List.getElem?_map] at e
      cases q : ts[j]? with
      | none => rw [q] at e; cases e
      | some t =>
        rw [q] at e
        have e' : O.leaf t = o := Option.some.inj (Option.some.inj e)
        subst e'
        obtain ⟨v, hv, w⟩ := hz.get q
        exact ⟨v, by rw [List.getElem?_map, hv] <;> rfl, ow_leaf w⟩
    · have kp : ∀ a, H1 a ≠ none → H2 a = H1 a ∧ S2 a = S1 a := fun a ha => E2.keep a ha fun i m => by cases m
      have s2 : Same H1 H2 := fun a o e => by
        rw [(kp a (by rw [e]; exact fun z => nomatch z)).1]
        exact e
      have R3 : Rel K e1 σ S2 H2 fp := ⟨R2.le, R1.len, fun j o e => by
          obtain ⟨v', hv', w'⟩ := R1.sl j o e
          exact ⟨v', hv', w'.keep E2.sub fun a ha => (kp a (R1.ins j a ha)).1⟩, R1.nd, R1.dj, fun i a m => (kp a (R1.ins i a m)).2.trans (R1.un i a m), fun i a m => by rw [(kp a (R1.ins i a m)).1]; exact R1.ins i a m⟩
      have E3 : Evo S1 H1 fp S2 H2 fp := ⟨E2.sub, fun a ha _ => kp a ha, fun i a m => .inr ⟨i, m⟩⟩
      refine k v S2 H2 fp fr2 R3 (E1.trans E3) w2 (fun _ => ⟨rfl, sm.trans s2⟩) fun _ => ⟨F2.nd, fun a m => ?_, fun a m j z => ?_, F2.un⟩
      · rcases F2.src a m with z | ⟨j, z⟩
        · exact E1.back (.inl z)
        · cases z
      · rcases F2.src a m with y | ⟨i, y⟩
        · exact R1.ins j a z y
        · cases y
  · cases h3
theorem items_leaf : ∀ {items : List Item}, (∀ it ∈ items, ∃ t, it = .inl (.leaf t)) → ∃ ts : List D, items = ts.map (fun t => .inl (.leaf t))
  | [], _ => ⟨[], rfl⟩
  | it :: rr, hl => by
    obtain ⟨t, rfl⟩ := hl it List.mem_cons_self
    obtain ⟨ts, rfl⟩ := items_leaf (fun it hit => hl it (List.mem_cons_of_mem _ hit))
    exact ⟨t :: ts, rfl⟩
theorem callQ_qf {g : Def} {args : List Arg} (hq : ∀ env items env', evA args env = some (items, env') → env' = env ∧ ∀ it ∈ items, ∃ t, it = .inl (.leaf t)) : ∀ env r env', callF g args env = some (r, env') → env' = env := by
  intro env r env' he
  unfold callF at he
  simp only [Option.bind_eq_some_iff] at he
  obtain ⟨⟨items, e1⟩, h1, os, h2, h3⟩ := he
  obtain ⟨ee, hl⟩ := hq _ _ _ h1
  simp only at h1 h2 h3 ee hl
  subst ee
  split at h3
  · simp only [Option.bind_eq_some_iff, Option.some.injEq, Prod.mk.injEq] at h3
    obtain ⟨⟨r', os'⟩, h3, rfl, rfl⟩ := h3
    obtain ⟨ts, rfl⟩ := items_leaf hl
    exact wb_leaf
  · cases h3
theorem se_calQ {X : Cx} {k : Nat} {ps : List Str} {x : Str} {p pos : Pos} {e : Expr} {es : List Expr} {g : Def} {args : List Arg} (C : Cal X.prog X.w X.K X.mg X.base k x ps g) (hr : Room k X.A) (hg : Gl X x)
    (ha : SCQ X (e :: es) args) (hdb : (x == ("__debug__" : Str)) = false := by decide) (he : starEach (e :: es) X.env = (false, eval e X.env) :: starEach es X.env := by rfl) (hpl : (backTo pos (starEach es X.env)).any (·.1) = false := by rfl) :
    SE X (.Call (.Name x p) (e :: es) [] pos) (callF g args) true true := by
  obtain ⟨f, fd, hm, hk, hb, F⟩ := C.ex
  exact ⟨PE.imp (pe_call F hr hg hm hk hb .nil pass0 ha.pa hdb he hpl) fun _ _ _ h => callQ_core ha.qf h, fun _ => callQ_qf ha.qf⟩
/-! a thing of one's own, lent to what changes nothing -/
def flatO : O → Bool
  | .leaf t => flatD t
  | _ => false
def borE (i : Nat) (f : ESem) : ESem := fun env => match env[i]? with
  | some (some o) => o.frz.bind fun t => (f (env.set i (some (.leaf t)))).bind fun p => if flatO p.1 = true then some (p.1, env) else none
  | _ => none
theorem borE_some {i : Nat} {f : ESem} {env env' : Mv.Env} {z : O} (h : borE i f env = some (z, env')) : ∃ o t e2, env[i]? = some (some o) ∧ o.frz = some t ∧ f (env.set i (some (.leaf t))) = some (z, e2) ∧ flatO z = true ∧ env' = env := by
  unfold borE at h
  split at h
  · rename_i o ho
    simp only [Option.bind_eq_some_iff] at h
    obtain ⟨t, h1, ⟨r, e2⟩, h2, h3⟩ := h
    split at h3
    · rename_i hf
      cases h3
      exact ⟨o, t, e2, ho, h1, h2, hf, rfl⟩
    · cases h3
  · cases h
theorem se_bor {X : Cx} {e : Expr} {f : ESem} {m : Bool} (i : Nat) (h : SE X e f true m) : SE X e (borE i f) true true := by
  refine ⟨PE.imp h.pe fun σ H Q hw => ?_, fun _ env r env' hh => ?_⟩
  · obtain ⟨env, S, fp, z, env', R, he, k⟩ := hw
    obtain ⟨o, t, e2, ho, ht, hf, hfl, rfl⟩ := borE_some he
    obtain ⟨R1, E1⟩ := R.fz ho ht
    have ee := h.qf rfl _ _ _ hf
    subst ee
    refine ⟨_, _, _, z, _, R1, hf, fun v S' H' fp' fr R' E' w g n => ?_⟩
    obtain ⟨rfl, sm⟩ := g rfl
    have kp : ∀ a, H a ≠ none → H' a = H a := fun a ha => by
      cases q : H a with
      | none => exact absurd q ha
      | some x => exact sm a x q
    have R3 : Rel X.K env' σ S H' fp := ⟨fun a x e => sm a x (R.le a x e), R.len, fun j o' e' => by
        obtain ⟨v', hv', w'⟩ := R.sl j o' e'
        exact ⟨v', hv', w'.keep (Same.refl _) fun a ha => kp a (R.ins j a ha)⟩, R.nd, R.dj, R.un, fun j a mm => by rw [kp a (R.ins j a mm)]; exact R.ins j a mm⟩
    have E3 : Evo S H fp S H' fp := ⟨Same.refl _, fun a ha _ => ⟨kp a ha, rfl⟩, fun j a mm => .inr ⟨j, mm⟩⟩
    have hz : ∃ d, z = .leaf d ∧ flatD d = true := by
      cases z with
      | leaf d => exact ⟨d, rfl, hfl⟩
      | _ => cases hfl
    obtain ⟨d, rfl, hd⟩ := hz
    have hv : v = valD d := by
      have := (ow_leafE w).2
      cases d <;> first | (cases hd; done) | (simp only [Fz] at this; exact this)
    subst hv
    exact k _ S H' fp [] R3 E3 (ow_leaf (fz_flat hd)) (fun _ => ⟨rfl, sm⟩) fun _ => Fresh.nil
  · obtain ⟨o, t, e2, ho, ht, hf, hfl, e⟩ := borE_some hh
    exact e
theorem w_bor {i : Nat} {f : ESem} {env : Mv.Env} {Q : O → Mv.Env → Prop} : We (borE i f) env Q ↔ Sl env i fun o => Mv.Fr o fun t => We f (env.set i (some (.leaf t))) fun r _ => flatO r = true ∧ Q r env := by
  unfold We borE Sl
  cases q : env[i]? with
  | none => exact Iff.rfl
  | some oo =>
    cases oo with
    | none => exact Iff.rfl
    | some o =>
      simp only [Option.join_some, o1_s]
      unfold Mv.Fr
      cases q2 : o.frz with
      | none => exact Iff.rfl
      | some t =>
        simp only [Option.bind_some, o1_s]
        cases q3 : f (env.set i (some (.leaf t))) with
        | none => exact Iff.rfl
        | some p =>
          simp only [Option.bind_some, o2_s]
          by_cases h : flatO p.1 = true
          · rw [if_pos h]
            exact ⟨fun z => ⟨h, z⟩, fun z => z.2⟩
          · rw [if_neg h]
            exact ⟨fun z => z.elim, fun z => h z.1⟩
theorem fl_b {b : Bool} : flatO (.leaf (.bool b)) = true ↔ True := by simp [flatO, flatD]
theorem fl_i {b : Int} : flatO (.leaf (.int b)) = true ↔ True := by simp [flatO, flatD]
theorem fl_n : flatO (.leaf .none) = true ↔ True := by simp [flatO, flatD]
theorem fl_s {b : Str} : flatO (.leaf (.str b)) = true ↔ True := by simp [flatO, flatD]
end Mv

set_option Elab.async false
set_option linter.all false
set_option maxRecDepth 100000
set_option maxHeartbeats 2000000
namespace Mv
open PySem PySem.Spec PyProof.Rows L2
/-! ### the tins that are there within minutes: plain mathematics -/
/-- the window meets the minutes -/
def mtW (w : Option Rg) (first : Int) (last : Option Int) : Bool := match w with
  | none => false
  | some w => (match last with | none => true | some l => decide (first ≤ l) && decide (w.1 ≤ l)) && decide (first ≤ w.2)
/-- the first tin that is there at a minute or behind it -/
def fta (tins s l d m : Int) : Int := if m ≤ s then 0 else if l = 0 then tins else ((m - s) * d + l - 1) / l
theorem fta_iff {tins s l d m x : Int} (hl : 0 ≤ l) (hd : 0 < d) (h0 : 0 ≤ x) (h1 : x < tins) : fta tins s l d m ≤ x ↔ m ≤ s + x * l / d := by
  have hx : 0 ≤ x * l / d := Int.ediv_nonneg (Int.mul_nonneg h0 hl) (by omega)
  unfold fta
  by_cases h : m ≤ s
  · rw [if_pos h]
    constructor
    · intro _
      omega
    · intro _
      exact h0
  · rw [if_neg h]
    by_cases e : l = 0
    · rw [if_pos e]
      subst e
      rw [Int.mul_zero, Int.zero_ediv]
      constructor
      · intro z
        omega
      · intro z
        omega
    · rw [if_neg e]
      have hl' : 0 < l := by omega
      have e1 : ((m - s) * d + l - 1) / l ≤ x ↔ (m - s) * d ≤ x * l := by
        rw [← Int.lt_add_one_iff, Int.ediv_lt_iff_lt_mul hl', Int.add_mul]
        omega
      have e2 : m - s ≤ x * l / d ↔ (m - s) * d ≤ x * l := Int.le_ediv_iff_mul_le hd
      rw [e1, ← e2]
      omega
theorem fta_nn {tins s l d m : Int} (hl : 0 ≤ l) (hd : 0 < d) (ht : 0 ≤ tins) : 0 ≤ fta tins s l d m := by
  unfold fta
  by_cases h : m ≤ s
  · rw [if_pos h]
    omega
  · rw [if_neg h]
    by_cases e : l = 0
    · rw [if_pos e]
      exact ht
    · rw [if_neg e]
      have : 0 ≤ (m - s) * d := Int.mul_nonneg (by omega) (by omega)
      exact Int.ediv_nonneg (by omega) hl
def behind (tins s l d : Int) : Option Int → Int
  | none => tins
  | some m => min tins (fta tins s l d (m + 1))
/-- on a line: one stretch -/
theorem line_has {tins s l d first x : Int} {last : Option Int} (hl : 0 ≤ l) (hd : 0 < d) (ht : 0 ≤ tins) (hfl : ∀ m, last = some m → first ≤ m) :
    Has (setOf [(fta tins s l d first, behind tins s l d last - 1)]) x ↔ (0 ≤ x ∧ x < tins) ∧ mtW (some (s + x * l / d, s + x * l / d)) first last = true := by
  rw [(setOf_ok _).2.1, has_cons, has_nil, or_false]
  have f0 := fta_nn (s := s) (m := first) hl hd ht
  cases last with
  | none =>
    simp only [behind, mtW, Bool.true_and, decide_eq_true_eq]
    constructor
    · rintro ⟨a, b⟩
      have h0 : 0 ≤ x ∧ x < tins := by omega
      exact ⟨h0, (fta_iff hl hd h0.1 h0.2).mp a⟩
    · rintro ⟨h0, a⟩
      exact ⟨(fta_iff hl hd h0.1 h0.2).mpr a, by omega⟩
  | some m =>
    have hm := hfl m rfl
    simp only [behind, mtW, Bool.and_eq_true, decide_eq_true_eq]
    constructor
    · rintro ⟨a, b⟩
      have h0 : 0 ≤ x ∧ x < tins := by omega
      have h1 : ¬fta tins s l d (m + 1) ≤ x := by omega
      rw [fta_iff hl hd h0.1 h0.2] at h1
      exact ⟨h0, ⟨hm, by omega⟩, (fta_iff hl hd h0.1 h0.2).mp a⟩
    · rintro ⟨h0, ⟨_, h1⟩, a⟩
      refine ⟨(fta_iff hl hd h0.1 h0.2).mpr a, ?_⟩
      have h2 : ¬fta tins s l d (m + 1) ≤ x := by
        rw [fta_iff hl hd h0.1 h0.2]
        omega
      omega
/-- the tins of the racks that meet the minutes -/
def rkL (tins per first : Int) (last : Option Int) : Nat → List Rg → List Rg
  | _, [] => []
  | k, p :: r => if mtW (some p) first last = true then ((k : Int) * per, min tins ((k : Int) * per + per) - 1) :: rkL tins per first last (k + 1) r else rkL tins per first last (k + 1) r
theorem rkL_has {tins per first x : Int} {last : Option Int} : ∀ {ss : List Rg} {k : Nat}, Has (rkL tins per first last k ss) x ↔ ∃ j p, ss[j]? = some p ∧ mtW (some p) first last = true ∧ ((k + j : Nat) : Int) * per ≤ x ∧ x ≤ min tins (((k + j : Nat) : Int) * per + per) - 1
  | [], k => by simp [rkL, has_nil]
  | p :: r, k => by
    rw [rkL]
    have ih := rkL_has (tins := tins) (per := per) (first := first) (x := x) (last := last) (ss := r) (k := k + 1)
    have e : (∃ j q, (p :: r)[j]? = some q ∧ mtW (some q) first last = true ∧ ((k + j : Nat) : Int) * per ≤ x ∧ x ≤ min tins (((k + j : Nat) : Int) * per + per) - 1) ↔ (mtW (some p) first last = true ∧ (k : Int) * per ≤ x ∧ x ≤ min tins ((k : Int) * per + per) - 1) ∨ Has (rkL tins per first last (k + 1) r) x := by
      rw [ih]
      constructor
      · rintro ⟨j, q, h1, h2⟩
        cases j with
        | zero =>
          simp only [List.getElem?_cons_zero, Option.some.injEq] at h1
          subst h1
          exact .inl h2
        | succ j =>
          refine .inr ⟨j, q, by simpa using h1, ?_⟩
          have : k + 1 + j = k + (j + 1) := by omega
          rw [this]
          exact h2
      · rintro (h | ⟨j, q, h1, h2⟩)
        · exact ⟨0, p, rfl, h⟩
        · refine ⟨j + 1, q, by simpa using h1, ?_⟩
          have : k + 1 + j = k + (j + 1) := by omega
          rw [this] at h2
          exact h2
    rw [e]
    split
    · rename_i h
      rw [has_cons]
      constructor
      · rintro (z | z)
        · exact .inl ⟨h, z⟩
        · exact .inr z
      · rintro (z | z)
        · exact .inl z.2
        · exact .inr z
    · rename_i h
      constructor
      · exact .inr
      · rintro (z | z)
        · exact absurd z.1 h
        · exact z
theorem rkL_len {tins per first : Int} {last : Option Int} : ∀ {ss : List Rg} {k : Nat}, (rkL tins per first last k ss).length ≤ ss.length
  | [], k => by simp [rkL]
  | p :: r, k => by
    rw [rkL]
    have := rkL_len (tins := tins) (per := per) (first := first) (last := last) (ss := r) (k := k + 1)
    split <;> simp only [List.length_cons] <;> omega
theorem mul_ediv_iff {per x : Int} {j : Nat} (hp : 0 < per) : ((j : Int) * per ≤ x ∧ x < (j : Int) * per + per) ↔ 0 ≤ x ∧ (x / per).toNat = j := by
  constructor
  · rintro ⟨a, b⟩
    have h0 : 0 ≤ (j : Int) * per := Int.mul_nonneg (by omega) (by omega)
    have e : x / per = j := by
      apply Int.le_antisymm
      · have : x / per < (j : Int) + 1 := (Int.ediv_lt_iff_lt_mul hp).mpr (by rw [Int.add_mul]; omega)
        omega
      · exact (Int.le_ediv_iff_mul_le hp).mpr a
    rw [e]
    exact ⟨by omega, by simp⟩
  · rintro ⟨h0, e⟩
    have hn : 0 ≤ x / per := Int.ediv_nonneg h0 (by omega)
    have e2 : x / per = j := by omega
    have h1 : (j : Int) * per ≤ x := (Int.le_ediv_iff_mul_le hp).mp (by omega)
    have h2 : x / per < (j : Int) + 1 := by omega
    rw [Int.ediv_lt_iff_lt_mul hp, Int.add_mul] at h2
    omega
theorem racks_has {tins per first x : Int} {last : Option Int} {ss : List Rg} (hp : 0 < per) : Has (setOf (rkL tins per first last 0 ss)) x ↔ (0 ≤ x ∧ x < tins) ∧ mtW (ss[(x / per).toNat]?) first last = true := by
  rw [(setOf_ok _).2.1, rkL_has]
  constructor
  · rintro ⟨j, p, h1, h2, h3, h4⟩
    rw [Nat.zero_add] at h3 h4
    obtain ⟨h5, h6⟩ := (mul_ediv_iff hp).mp ⟨h3, by omega⟩
    rw [h6, h1]
    exact ⟨⟨h5, by omega⟩, h2⟩
  · rintro ⟨⟨h0, h1⟩, h2⟩
    cases e : ss[(x / per).toNat]? with
    | none => rw [e] at h2; cases h2
    | some p =>
      rw [e] at h2
      obtain ⟨h3, h4⟩ := (mul_ediv_iff (per := per) (x := x) (j := (x / per).toNat) hp).mpr ⟨h0, rfl⟩
      exact ⟨(x / per).toNat, p, e, h2, by rw [Nat.zero_add]; exact h3, by rw [Nat.zero_add]; omega⟩
/-- a set of the tins that meet -/
def Ta (S : List Rg) (tins : Int) (pl : Str) (ps : List Ps) (first : Int) (last : Option Int) : Prop := Cn S ∧ (∀ x, Has S x ↔ (0 ≤ x ∧ x < tins) ∧ mtW (win pl ps x) first last = true) ∧ S.length ≤ 100
theorem Ta.eq {S T : List Rg} {tins : Int} {pl : Str} {ps : List Ps} {first : Int} {last : Option Int} (h : Ta S tins pl ps first last) (h2 : Ta T tins pl ps first last) : S = T := cn_ext h.1 h2.1 fun x => by rw [h.2.1, h2.2.1]
theorem ta_none {tins : Int} {pl : Str} {ps : List Ps} {first : Int} {last : Option Int} (h : fnd pl ps = none ∨ ∃ l, last = some l ∧ l < first) : Ta [] tins pl ps first last := by
  refine ⟨trivial, fun x => ?_, by simp⟩
  rw [has_nil]
  constructor
  · exact fun z => z.elim
  · rintro ⟨_, h2⟩
    rcases h with h | ⟨l, rfl, hl⟩
    · rw [win, h] at h2
      cases h2
    · cases e : win pl ps x with
      | none => rw [e] at h2; cases h2
      | some w =>
        rw [e] at h2
        simp only [mtW, Bool.and_eq_true, decide_eq_true_eq] at h2
        omega
theorem ta_line {tins s l d first : Int} {last : Option Int} {pl a : Str} {ps : List Ps} (hf : fnd pl ps = some (.ln a s l d)) (hl : 0 ≤ l) (hd : 0 < d) (ht : 0 ≤ tins) (hfl : ∀ m, last = some m → first ≤ m) : Ta (setOf [(fta tins s l d first, behind tins s l d last - 1)]) tins pl ps first last := by
  refine ⟨(setOf_ok _).1, fun x => ?_, Nat.le_trans (setOf_ok _).2.2 (by simp)⟩
  rw [line_has hl hd ht hfl, win, hf]
  exact Iff.rfl
theorem ta_racks {tins per first : Int} {last : Option Int} {pl a : Str} {ss : List Rg} {ps : List Ps} (hf : fnd pl ps = some (.rk a per ss)) (hp : 0 < per) (hs : ss.length ≤ 100) : Ta (setOf (rkL tins per first last 0 ss)) tins pl ps first last := by
  refine ⟨(setOf_ok _).1, fun x => ?_, Nat.le_trans (setOf_ok _).2.2 (Nat.le_trans rkL_len hs)⟩
  rw [racks_has hp, win, hf]
  exact Iff.rfl
theorem slc_fromT {ts : List D} {i : Int} {P : O → Prop} (h : 0 ≤ i) (k : P (.leaf (.tuple (ts.drop i.toNat)))) : Slc (.leaf (.tuple ts)) (.leaf (.int i)) (.leaf .none) P := by
  show O1 (some (O.leaf (.tuple (Mv.cutD ts (some i) none)))) P
  rw [cutG_from h]
  exact k
end Mv

set_option Elab.async false
set_option linter.all false
set_option maxRecDepth 100000
set_option maxHeartbeats 2000000
namespace Mv
open PySem PySem.Spec PyProof.Rows L2
local macro_rules | `(tactic| walk_at "mv") => `(tactic| try simp only [↓w_cst, ↓w_var, ↓w_mv, ↓w_fz, ↓w_frz, ↓w_bin, ↓w_un, ↓w_binV, ↓w_if, ↓w_asB, ↓w_yes, ↓w_not, ↓w_and, ↓w_or, ↓w_andE, ↓w_orE, ↓w_notE, ↓w_chain, ↓w_nil, ↓w_cons, ↓w_tup, ↓w_lst, ↓w_pl, ↓w_mut, ↓w_c0, ↓w_ce, ↓w_cv, ↓w_call', ↓wb_0, ↓wb_e, ↓wb_v, wb_e', ↓wo_leaf, ↓wo_ls, ↓wo_dic, ↓wo_dct, ↓wo_st, ↓wo_s, own_0, own_s, oi_0, oi_e, oi_v, isl_st, isl_leaf, isl_ls, Bool.not_false, Bool.not_true, List.nodup_cons, List.nodup_nil, List.not_mem_nil, not_false_eq_true, ↓w_seq, ↓w_skip, ↓w_brk, ↓w_cont, ↓w_retN, ↓w_set, ↓w_drop, ↓w_ret, ↓w_retV, ↓w_ifS, ↓w_fzS, ↓w_asg, ↓w_gN, ↓w_gT, ↓w_gNl, ↓w_gCn, ↓w_gSub, ↓w_par, ↓w_aug, ↓w_int, ↓w_slice, ↓w_rng1, ↓w_rng2, ↓w_seqI, ↓w_comp, ↓w_for,
  ↓sl_0, ↓sl_s, ↓fr_leaf, ↓fr_ls, ↓ok_t, ↓ok_l, ↓br_t, ↓br_f, decide_true, decide_false, Int.reduceEq, ↓bl_b, ↓il_b, ↓le_l, ↓gp_top, ↓cl_0, ↓cl_e, ↓cl_v, ↓nxt_nx, ↓nxt_rt, ↓nxt_bk, ↓nxt_ct, ↓sa_0, ↓sa_s, ↓rg1_i, ↓rg2_i, ↓itm_l, ↓itm_t, ↓itm_o, ↓fin_rt, ↓fin_nx, ↓lpk_nx, ↓lpk_ct, ↓lpk_bk, ↓lpk_rt, ↓wcl_nil, ↓wf_nil,
  ↓p_sub, ↓p_add, ↓p_ipadd, ↓p_mul, ↓p_div, ↓p_mod, ↓p_pow, ↓p_neg, ↓p_eq, ↓p_ne, ↓p_lt, ↓p_gt, ↓p_le, ↓p_ge, ↓p_max, ↓p_min, ↓p_abs, ↓p_intI, ↓p_intB, ↓p_isaI, ↓p_isaB, ↓p_isaNI, ↓p_isNI, ↓p_isNN, ↓p_divmod, ↓p_catL, ↓p_catLl, ↓p_catlL, ↓p_catll, ↓p_len, ↓p_lenl, ↓p_lent, ↓p_list, ↓p_listl, ↓p_listt, ↓p_tuple, ↓p_tuplel, ↓p_tuplet, ↓p_rev, ↓p_revl, ↓p_ix, ↓p_ixl, ↓p_ixt, ↓p_append, ↓p_reverse,
  ↓gp_cells, ↓gp_turn, ↓put_turn, ↓put_cells, ↓putP_top, wipeE, lv_0, lv_s,
  List.set_cons_zero, List.set_cons_succ, List.length_cons, List.length_nil, List.map_cons, List.map_nil, finR, List.replicate, List.replicate_succ, List.replicate_zero, List.cons_append, List.nil_append, true_and, and_true, List.tail_cons, List.head?_cons, Option.join_some, List.contains_nil, Bool.false_eq_true, if_false, if_true, List.all_nil, and_self, Int.reduceToNat, Int.reducePow, Nat.reduceSub, Nat.reduceAdd, Int.reduceAdd, Int.reduceMul, Int.reduceSub, Int.reduceNeg, Int.reduceLT, Int.reduceLE, Int.natAbs, Nat.reduceLT, Nat.reduceLeDiff, Nat.reducePow])
local macro_rules | `(tactic| walk_at "mv1") => `(tactic| try simp only [↓ok_t, ↓ok_l, ↓nxt_nx, ↓nxt_rt, ↓w_seq, ↓fin_rt, ↓fin_nx, ↓lpk_nx, ↓lpk_ct, ↓lpk_bk, ↓lpk_rt, wipeE, List.set_cons_zero, List.set_cons_succ, true_and, and_true])
/-! ### greater numbers -/
theorem lb_bitsB {i : Int} (h : -1000000000000000000000000000000000000000000000000000000000000000000000000000000000000000000 < i) (h2 : i < 1000000000000000000000000000000000000000000000000000000000000000000000000000000000000000000) : Builtin.Int.intBits i ≤ 300 := bits_of (by
  have e : (2 : Nat) ^ 300 = 2037035976334486086268445688409378161051468393665936250636140449354381299763336706183397376 := by decide +kernel
  rw [e]
  omega)
theorem mulOkB {i j : Int} (h : -1000000000000000000000000000000000000000000000000000000000000000000000000000000000000000000 < i) (h2 : i < 1000000000000000000000000000000000000000000000000000000000000000000000000000000000000000000) (h3 : -1000000000000000000000000000000000000000000000000000000000000000000000000000000000000000000 < j) (h4 : j < 1000000000000000000000000000000000000000000000000000000000000000000000000000000000000000000) : MulOk i j := by
  have := lb_bitsB h h2
  have := lb_bitsB h3 h4
  unfold MulOk
  omega
theorem divOkB {j : Int} (h : 0 < j) (h2 : j < 1000000000000000000000000000000000000000000000000000000000000000000000000000000000000000000) : DivOk j := by
  refine ⟨h, ?_⟩
  have := lb_bitsB (Int.lt_trans (by decide) h) h2
  unfold Builtin.Int.intBits at this
  rw [if_neg (by simp; omega)] at this
  omega
theorem take_okB {c : Int} (hc : 0 ≤ c ∧ c < 1000000) {st : List Int × Int} {n m : Int} (h : St st n) (hn : n ≤ 1000000000000000000) (hm : 0 < m) (hm2 : m < 1000000000000000000000000000000000000000000000000000000000000000000000000000000000000000000) {Q : O → List (Option O) → Prop}
    (k : ∀ d st', 0 ≤ d → d < m → St st' (n + 1) → Q (.leaf (.int d)) [some (stO st'), some (.leaf (.int m))]) : Wd (runDef 2 7 [] (takeB c)) [stO st, .leaf (.int m)] Q := by
  obtain ⟨cs, t⟩ := st
  obtain ⟨h1, h2, h3, h4⟩ := h
  simp only at h1 h2 h3 h4
  rw [w_def]
  unfold takeB
  walk_at "mv"
  have hl : 0 < cs.length := List.length_pos_iff.mpr h1
  rw [List.length_map]
  refine ⟨by omega, at_ints (Int.emod_nonneg _ (by omega)) (Int.emod_lt_of_pos _ (by omega)) fun x hx => ?_⟩
  have hj : 0 ≤ (t + 1) % (cs.length : Int) := Int.emod_nonneg _ (by omega)
  have hj2 : (t + 1) % (cs.length : Int) < cs.length := Int.emod_lt_of_pos _ (by omega)
  walk_at "mv"
  refine br (fun _ => ?_) fun _ => ?_
  · walk_at "mv"
    refine ⟨divOkB hm hm2, ?_⟩
    refine put_ints hj hj2 ?_
    walk_at "mv"
    refine k _ _ (Int.emod_nonneg _ (by omega)) (Int.emod_lt_of_pos _ hm) ⟨?_, ?_, by simp only; omega, by simp only; omega⟩
    · intro z
      simp only at z
      have := congrArg List.length z
      rw [List.length_set, List.length_nil] at this
      omega
    · simp only [List.length_set]
      exact h2
  · walk_at "mv"
    have e1 : 0 ≤ (t + 1) * (t + 1) := Int.mul_nonneg (by omega) (by omega)
    have e2 : (t + 1) * (t + 1) ≤ 1000000000000000001 * 1000000000000000001 := Int.mul_le_mul (by omega) (by omega) (by omega) (by omega)
    have e3 : 0 ≤ x % 2147483629 := Int.emod_nonneg _ (by decide)
    have e4 : x % 2147483629 < 2147483629 := Int.emod_lt_of_pos _ (by decide)
    have e5 : 0 ≤ (x % 2147483629 + (t + 1) * (t + 1) * 7919 + 11) * 48271 % 2147483647 := Int.emod_nonneg _ (by decide)
    have e6 : (x % 2147483629 + (t + 1) * (t + 1) * 7919 + 11) * 48271 % 2147483647 < 2147483647 := Int.emod_lt_of_pos _ (by decide)
    generalize hy : (x % 2147483629 + (t + 1) * (t + 1) * 7919 + 11) * 48271 % 2147483647 = y at e5 e6
    have e7 : 0 ≤ y * y % 2147483587 := Int.emod_nonneg _ (by decide)
    have e8 : y * y % 2147483587 < 2147483587 := Int.emod_lt_of_pos _ (by decide)
    refine ⟨mulOk (by omega) (by omega) (by omega) (by omega), mulOk (by omega) (by omega) (by decide) (by decide), mulOk (by omega) (by omega) (by decide) (by decide), mulOk (by omega) (by omega) (by omega) (by omega), mulOk (by omega) (by omega) (by decide) (by decide), mulOk (by omega) (by omega) (by omega) (by omega), divOk (by decide) (by decide), hm, ?_⟩
    exact k _ _ (Int.emod_nonneg _ (by omega)) (Int.emod_lt_of_pos _ hm) ⟨h1, h2, by simp only; omega, by simp only; omega⟩

/-! a batch moved in time -/
def GoodT : Ps → Prop
  | .ln _ s l d => 0 ≤ s ∧ s < 10000000000000000000000000000000 ∧ 0 ≤ l ∧ l < 1000000000000000000000000000000 ∧ 0 < d ∧ d ≤ 1000000000000000000000000000000
  | .rk _ per ss => 0 < per ∧ per ≤ 10000000000000000000000000000000 ∧ ss.length ≤ 12
theorem GoodP.t {tins : Int} {p : Ps} (h : GoodP tins p) : GoodT p := by
  cases p with
  | ln a s l d =>
    obtain ⟨h1, h2, h3, h4, h5, h6⟩ := h
    exact ⟨h1, by omega, h3, h4, h5, h6⟩
  | rk a per ss =>
    obtain ⟨h1, h2, h3, h4, h5⟩ := h
    exact ⟨h1, h2, h4⟩
def shR (by' : Int) (p : Rg) : Rg := (p.1 + by', p.2 + by')
def shP (by' : Int) : Ps → Ps
  | .ln a s l d => .ln a (s + by') l d
  | .rk a per ss => .rk a per (ss.map (shR by'))
theorem shP_pl {b : Int} {p : Ps} : (shP b p).pl = p.pl := by cases p <;> rfl
theorem fnd_sh {b : Int} {pl : Str} {ps : List Ps} : fnd pl (ps.map (shP b)) = (fnd pl ps).map (shP b) := by
  induction ps with
  | nil => rfl
  | cons p r ih =>
    rw [List.map_cons, fnd_cons, fnd_cons, ih, shP_pl]
    split <;> rfl
theorem win_sh {b x : Int} {pl : Str} {ps : List Ps} : win pl (ps.map (shP b)) x = (win pl ps x).map (shR b) := by
  unfold win
  rw [fnd_sh]
  cases fnd pl ps with
  | none => rfl
  | some p =>
    cases p with
    | ln a s l d =>
      simp only [Option.map_some, Option.bind_some, shP, winP, shR]
      have : s + b + x * l / d = s + x * l / d + b := by omega
      rw [this]
    | rk a per ss =>
      simp only [Option.map_some, Option.bind_some, shP, winP, List.getElem?_map]
theorem mtW_sh {b first : Int} {last : Option Int} {w : Option Rg} : mtW (w.map (shR b)) (first + b) (last.map (· + b)) = mtW w first last := by
  cases w with
  | none => rfl
  | some w =>
    cases last with
    | none =>
      simp only [Option.map_some, Option.map_none, mtW, shR, Bool.true_and]
      rw [Bool.eq_iff_iff, decide_eq_true_iff, decide_eq_true_iff]
      omega
    | some l =>
      simp only [Option.map_some, mtW, shR]
      rw [Bool.eq_iff_iff]
      simp only [Bool.and_eq_true, decide_eq_true_eq]
      omega
theorem good_sh {tins b : Int} {p : Ps} (h : GoodP tins p) (b0 : 0 ≤ b) (b1 : b < 1000000000000000000000000000000) : GoodT (shP b p) := by
  cases p with
  | ln a s l d =>
    obtain ⟨h1, h2, h3, h4, h5, h6⟩ := h
    exact ⟨by omega, by omega, h3, h4, h5, h6⟩
  | rk a per ss =>
    obtain ⟨h1, h2, h3, h4, h5⟩ := h
    exact ⟨h1, h2, by rw [List.length_map]; exact h4⟩
theorem ta_sh {S : List Rg} {tins b first : Int} {last : Option Int} {pl : Str} {ps : List Ps} (h : Ta S tins pl (ps.map (shP b)) (first + b) (last.map (· + b))) : Ta S tins pl ps first last := by
  refine ⟨h.1, fun x => ?_, h.2.2⟩
  rw [h.2.1, win_sh, mtW_sh]
/-- windows are in order -/
theorem win_ord {tins x : Int} {pl : Str} {ps : List Ps} {w : Rg} (hg : ∀ p ∈ ps, GoodP tins p) (e : win pl ps x = some w) : w.1 ≤ w.2 := by
  unfold win at e
  cases ef : fnd pl ps with
  | none => rw [ef] at e; cases e
  | some p =>
    rw [ef] at e
    have gp := hg p (fnd_mem ef).1
    cases p with
    | ln a s l d =>
      have e : some (s + x * l / d, s + x * l / d) = some w := e
      cases e
      exact Int.le_refl _
    | rk a per ss =>
      obtain ⟨g1, g2, g3, g4, g5⟩ := gp
      have e : ss[(x / per).toNat]? = some w := e
      exact (g5 w (List.mem_of_getElem? e)).2.1
/-- minutes parted -/
theorem ta_part {S T : List Rg} {tins first mid : Int} {last : Option Int} {pl : Str} {ps : List Ps} (hg : ∀ p ∈ ps, GoodP tins p) (hS : Ta S tins pl ps first (some mid)) (hT : (last = some mid ∧ T = []) ∨ Ta T tins pl ps (mid + 1) last) (h1 : first ≤ mid) (h2 : ∀ m, last = some m → mid ≤ m) {U : List Rg} (hU : Ta U tins pl ps first last) : setOf (S ++ T) = U := by
  have hh : ∀ x, Has (setOf (S ++ T)) x ↔ (0 ≤ x ∧ x < tins) ∧ mtW (win pl ps x) first last = true := by
    intro x
    rw [(setOf_ok _).2.1, has_app, hS.2.1]
    cases e : win pl ps x with
    | none =>
      have hn : ¬Has T x := by
        rcases hT with ⟨_, rfl⟩ | hT
        · rw [has_nil]
          exact id
        · rw [hT.2.1, e]
          intro z
          cases z.2
      simp only [mtW, Bool.false_eq_true, and_false, false_or, iff_false]
      exact hn
    | some w =>
      have ho := win_ord hg e
      have hx : Has T x ↔ (0 ≤ x ∧ x < tins) ∧ (∀ m, last = some m → mid + 1 ≤ m ∧ w.1 ≤ m) ∧ mid + 1 ≤ w.2 := by
        rcases hT with ⟨rfl, rfl⟩ | hT
        · rw [has_nil]
          constructor
          · exact fun z => z.elim
          · rintro ⟨_, z, _⟩
            have := (z mid rfl).1
            omega
        · rw [hT.2.1, e]
          cases last with
          | none => simp [mtW]
          | some m =>
            simp only [mtW, Bool.and_eq_true, decide_eq_true_eq, Option.some.injEq, forall_eq']
      have hy : mtW (some w) first last = true ↔ (∀ m, last = some m → first ≤ m ∧ w.1 ≤ m) ∧ first ≤ w.2 := by
        cases last with
        | none => simp [mtW]
        | some m => simp only [mtW, Bool.and_eq_true, decide_eq_true_eq, Option.some.injEq, forall_eq']
      have hz : mtW (some w) first (some mid) = true ↔ (first ≤ mid ∧ w.1 ≤ mid) ∧ first ≤ w.2 := by
        simp only [mtW, Bool.and_eq_true, decide_eq_true_eq]
      rw [hx, hy, hz]
      constructor
      · rintro (⟨h0, h3, h4⟩ | ⟨h0, h3, h4⟩)
        · exact ⟨h0, fun m hm => by have := h2 m hm; omega, h4⟩
        · exact ⟨h0, fun m hm => by have := h3 m hm; omega, by omega⟩
      · rintro ⟨h0, h3, h4⟩
        by_cases hb : w.2 ≤ mid
        · exact .inl ⟨h0, ⟨h1, by omega⟩, h4⟩
        · by_cases hm : ∃ m, last = some m ∧ m ≤ mid
          · obtain ⟨m, e1, e2⟩ := hm
            have := h2 m e1
            have := h3 m e1
            exact .inl ⟨h0, ⟨h1, by omega⟩, h4⟩
          · refine .inr ⟨h0, fun m e1 => ?_, by omega⟩
            have h5 := h3 m e1
            have h6 : ¬m ≤ mid := fun z => hm ⟨m, e1, z⟩
            omega
  exact cn_ext (setOf_ok _).1 hU.1 fun x => by rw [hh, hU.2.1]
end Mv

set_option Elab.async false
set_option linter.all false
set_option maxRecDepth 100000
set_option maxHeartbeats 2000000
namespace Mv
open PySem PySem.Spec PyProof.Rows L2
/-! ### extend by a list or a tuple, its own or frozen -/
theorem ext_l (l : Addr) (items : Array Value) (n : Nat) (b : Addr) (items2 : Array Value) (n2 : Nat) (o : Obj) (oc : o.cls = .type "list") (od : o.data = .seq items2 n2) (hc0 : ¬(!items.isEmpty && Builtin.List.listTooLong (items.size + items2.size)) = true) (hc1 : items.size ≤ sizeLine) (hs2 : items.size + items2.size ≤ sizeLine + 1) :
    Meets (Builtin.«list.extend» ⟨[.ref l, .ref b], []⟩) (fun _ R s => s.heap.get? l = some { cls := .type "list", dict := none, data := .seq items n, slots := #[] } ∧ s.heap.get? b = some o ∧ R (.ok (.ret Value.none)) { s with heap := s.heap.update l (Obj.mapSeq fun x => x ++ items2), toks := s.toks }) :=
  .of_wp fun prog w A R s h => by
    obtain ⟨oc', od', dt, sl⟩ := o
    simp only at oc od
    subst oc od
    obtain ⟨hp, g, d, tk, os⟩ := s; obtain ⟨hl, hb, h⟩ := h; have f1 := AutoSeq1.idx_int; have f2 := AutoSeq1.sub_tuple_tuple; have f3 := AutoSeq1.sub_list_list; have f4 := AutoSeq1.sub_tuple_list; have f5 := AutoSeq1.sub_list_tuple;
    have hz' : (items ++ items2).size ≤ sizeLine + 1 := by rw [Array.size_append]; exact hs2
    wp_walk using (wpAny_updateSeq hl rfl (hz := hc1) (_hz' := hz')), AutoSeq1.wpAny_loadPart' hl, AutoSeq1.wpAny_loadPart' hb; exact ⟨_, rfl, h⟩
theorem ext_t (l : Addr) (items : Array Value) (n : Nat) (b : Addr) (items2 : Array Value) (n2 : Nat) (o : Obj) (oc : o.cls = .type "tuple") (od : o.data = .seq items2 n2) (hc0 : ¬(!items.isEmpty && Builtin.List.listTooLong (items.size + items2.size)) = true) (hc1 : items.size ≤ sizeLine) (hs2 : items.size + items2.size ≤ sizeLine + 1) :
    Meets (Builtin.«list.extend» ⟨[.ref l, .ref b], []⟩) (fun _ R s => s.heap.get? l = some { cls := .type "list", dict := none, data := .seq items n, slots := #[] } ∧ s.heap.get? b = some o ∧ R (.ok (.ret Value.none)) { s with heap := s.heap.update l (Obj.mapSeq fun x => x ++ items2), toks := s.toks }) :=
  .of_wp fun prog w A R s h => by
    obtain ⟨oc', od', dt, sl⟩ := o
    simp only at oc od
    subst oc od
    obtain ⟨hp, g, d, tk, os⟩ := s; obtain ⟨hl, hb, h⟩ := h; have f1 := AutoSeq1.idx_int; have f2 := AutoSeq1.sub_tuple_tuple; have f3 := AutoSeq1.sub_list_list; have f4 := AutoSeq1.sub_tuple_list; have f5 := AutoSeq1.sub_list_tuple;
    have hz' : (items ++ items2).size ≤ sizeLine + 1 := by rw [Array.size_append]; exact hs2
    wp_walk using (wpAny_updateSeq hl rfl (hz := hc1) (_hz' := hz')), AutoSeq1.wpAny_loadPart' hl, AutoSeq1.wpAny_loadPart' hb; exact ⟨_, rfl, h⟩
def rExtA (K : PySem.W.Frag) : V → List V → Hp → VK → Prop := fun x vs H Q => ∃ l b xs zs, x = .ref l ∧ vs = [.ref b] ∧ H l = some (.lst xs) ∧ (SqL K H b zs ∨ SqT K H b zs) ∧ xs.length + zs.length ≤ sizeLine ∧ Q .non (upd H l (.lst (xs ++ zs)))
theorem mt_extendA {X : Cx} : MtM X "list.extend" (rExtA X.K) := by
  intro pins s σ H x vs v us Q I rx rv h
  obtain ⟨l, b, xs, zs, rfl, rfl, hH, hB, hz, q⟩ := h
  cases rx
  obtain ⟨u, rfl, ru⟩ := rv.one
  cases ru
  obtain ⟨z, its, n, r, hl, e⟩ := I.lstM hH
  have fin : ∀ (its2 : List Value), Vals zs its2 → zs.length = its2.length → (¬(!its.toArray.isEmpty && Builtin.List.listTooLong (its.toArray.size + its2.toArray.size)) = true ∧ its.toArray.size ≤ sizeLine ∧ its.toArray.size + its2.toArray.size ≤ sizeLine + 1) ∧ ∀ t', Inv X pins σ (upd H l (.lst (xs ++ zs))) { s with heap := s.heap.update l (Obj.mapSeq fun x => x ++ its2.toArray), toks := t' } := by
    intro its2 r2 hl2
    have hsz : its.toArray.size + its2.toArray.size ≤ sizeLine := by rw [List.size_toArray, List.size_toArray]; omega
    refine ⟨⟨?_, by rw [List.size_toArray]; omega, by omega⟩, fun t' => I.lset (its' := its ++ its2) hH e (by simp) (r.append r2) ?_⟩
    · rw [notLongL hsz, Bool.and_false]
      exact Bool.false_ne_true
    · rw [List.length_append]
      omega
  rcases hB with hB | hB
  · obtain ⟨its2, r2, ⟨o2, n2, e2, oc, _, od⟩, _⟩ := I.list hB
    obtain ⟨⟨g1, g2, g3⟩, g4⟩ := fin its2 r2 r2.length
    exact call_meets F.slot_list_extend ⟨_, e, rfl⟩ F.entry_list_extend (F.args_list_extend_2 _ _) (ext_l l its.toArray n b its2.toArray n2 o2 oc od g1 g2 g3) ⟨e, e2, .non, _, g4 _, rfl, q⟩
  · obtain ⟨its2, r2, ⟨o2, e2, oc, n2, od⟩, _⟩ := I.tuple hB
    obtain ⟨⟨g1, g2, g3⟩, g4⟩ := fin its2 r2 r2.length
    exact call_meets F.slot_list_extend ⟨_, e, rfl⟩ F.entry_list_extend (F.args_list_extend_2 _ _) (ext_t l its.toArray n b its2.toArray n2 o2 oc od g1 g2 g3) ⟨e, e2, .non, _, g4 _, rfl, q⟩
def gExtA (o : O) (os : List O) : Option (O × D) := match o, os with
  | .ls ts, [p] => (seqO p).bind fun us => if ts.length + us.length ≤ 16000000 then some (.ls (ts ++ us), .none) else none
  | _, _ => none
theorem rm_extendA {K : PySem.W.Frag} : RM K "list" (rExtA K) gExtA := by
  refine ⟨fun S H x o fr os z le w e => ?_, fun S H x o fr os vs fa o' z Q le un nd w wa e k => ?_⟩
  · unfold gExtA at e
    split at e
    · exact ls_ty w
    · cases e
  · unfold gExtA at e
    split at e
    · simp only [Option.bind_eq_some_iff] at e
      obtain ⟨us, h5, e⟩ := e
      split at e
      · rename_i hl
        cases e
        obtain ⟨a, xs, rfl, h1, rfl, h2⟩ := ow_lsE w
        obtain ⟨v, vr, f1, f2, rfl, rfl, w1, w2⟩ := wa
        obtain ⟨rfl, rfl⟩ := w2
        obtain ⟨b, ys, rfl, h3, h4⟩ := seqO_S le w1 h5
        exact ⟨a, b, xs, ys, rfl, rfl, h1, h3.imp LsAt.sq SqT.of, by rw [h2.len, h4.len]; exact Nat.le_trans hl (by decide), ls_upd (h2.append h4) (by simp only [Fz]) rfl k⟩
      · cases e
    · cases e
section
variable {ts us : List D} {P : O → D → Prop} {p : O}
theorem p_extA {P : O → D → Prop} : OpM gExtA (.ls ts) [.ls us] P ↔ ts.length + us.length ≤ 16000000 ∧ P (.ls (ts ++ us)) .none := by
  have e : seqO (.ls us) = some us := rfl
  by_cases h : ts.length + us.length ≤ 16000000 <;> simp [OpM, gExtA, h, O2, e]
theorem p_extAl {P : O → D → Prop} : OpM gExtA (.ls ts) [.leaf (.list us)] P ↔ ts.length + us.length ≤ 16000000 ∧ P (.ls (ts ++ us)) .none := by
  have e : seqO (.leaf (.list us)) = some us := rfl
  by_cases h : ts.length + us.length ≤ 16000000 <;> simp [OpM, gExtA, h, O2, e]
theorem p_extAe {P : O → D → Prop} (e : seqO p = some us) (hl : ts.length + us.length ≤ 16000000) (h : P (.ls (ts ++ us)) .none) : OpM gExtA (.ls ts) [p] P := by
  simp [OpM, gExtA, hl, O2, e]
  exact h
theorem p_extASe (e : seqO p = some us) (hl : ts.length + us.length ≤ 16000000) : (gExtA (.ls ts) [p]).isSome = true := by
  simp [gExtA, hl, e]
theorem p_extAS : (gExtA (.ls ts) [.ls us]).isSome = true ↔ ts.length + us.length ≤ 16000000 := by
  have e : seqO (.ls us) = some us := rfl
  by_cases h : ts.length + us.length ≤ 16000000 <;> simp [gExtA, h, e]
theorem p_extASl : (gExtA (.ls ts) [.leaf (.list us)]).isSome = true ↔ ts.length + us.length ≤ 16000000 := by
  have e : seqO (.leaf (.list us)) = some us := rfl
  by_cases h : ts.length + us.length ≤ 16000000 <;> simp [gExtA, h, e]
end
end Mv

set_option Elab.async false
set_option linter.all false
set_option maxRecDepth 100000
set_option maxHeartbeats 2000000
namespace Mv
open PySem PySem.Spec PyProof.Rows L2
/-! ### faults: what they reach, plain mathematics -/
structure Fa where
  pl : Str
  first : Int
  last : Int
  racks : List Int
def encF (f : Fa) : D := .tuple [.str f.pl, .int f.first, .int f.last, .list (f.racks.map .int)]
def HandF (t : D) (f : Fa) : Prop := ∃ o, (o = .list (f.racks.map .int) ∨ o = .tuple (f.racks.map .int)) ∧ t = .tuple [.str f.pl, .int f.first, .int f.last, o]
theorem handF_enc {f : Fa} : HandF (encF f) f := ⟨_, .inl rfl, rfl⟩
def GoodF (f : Fa) : Prop := (0 ≤ f.first ∧ f.first < 100000000000000000000000000000000000000000000000000000000000000000000000) ∧ (0 ≤ f.last ∧ f.last < 100000000000000000000000000000000000000000000000000000000000000000000000) ∧ f.racks.length ≤ 100 ∧ ∀ r ∈ f.racks, 0 ≤ r
def behd (first : Int) : Option Int → Bool
  | none => false
  | some m => decide (m < first)
def taS (tins : Int) (pl : Str) (ps : List Ps) (first : Int) (last : Option Int) : List Rg := if behd first last = true then [] else match fnd pl ps with
  | none => []
  | some (.ln _ s l d) => setOf [(fta tins s l d first, behind tins s l d last - 1)]
  | some (.rk _ per ss) => setOf (rkL tins per first last 0 ss)
theorem taS_ok {tins first : Int} {pl : Str} {ps : List Ps} {last : Option Int} (hg : ∀ p ∈ ps, GoodT p) (t0 : 0 ≤ tins) : Ta (taS tins pl ps first last) tins pl ps first last := by
  unfold taS
  split
  · rename_i h
    cases last with
    | none => cases h
    | some m =>
      simp only [behd, decide_eq_true_eq] at h
      exact ta_none (.inr ⟨m, rfl, h⟩)
  · rename_i h
    have hfl : ∀ m, last = some m → first ≤ m := by
      intro m e
      subst e
      simp only [behd, decide_eq_true_eq] at h
      omega
    split
    · rename_i e
      exact ta_none (.inl e)
    · rename_i a s l d e
      obtain ⟨g1, g2, g3, g4, g5, g6⟩ := hg _ (fnd_mem e).1
      exact ta_line e g3 g5 t0 hfl
    · rename_i a per ss e
      obtain ⟨g1, g2, g4⟩ := hg _ (fnd_mem e).1
      exact ta_racks e g1 (by omega)
def tor (tins per : Int) (n : Nat) (rs : List Int) : List Rg := (rs.filter fun r => decide (r < (n : Int))).map fun r => (r * per, min tins (r * per + per) - 1)
theorem rack_iff {per x r : Int} (hp : 0 < per) (hr : 0 ≤ r) : (r * per ≤ x ∧ x < r * per + per) ↔ 0 ≤ x ∧ x / per = r := by
  have h := mul_ediv_iff (per := per) (x := x) (j := r.toNat) hp
  have e : ((r.toNat : Nat) : Int) = r := by omega
  rw [e] at h
  rw [h]
  constructor
  · rintro ⟨a, b⟩
    have : 0 ≤ x / per := Int.ediv_nonneg a (by omega)
    exact ⟨a, by omega⟩
  · rintro ⟨a, b⟩
    exact ⟨a, by omega⟩
theorem tor_has {tins per x : Int} {n : Nat} {rs : List Int} (hp : 0 < per) (hr : ∀ r ∈ rs, 0 ≤ r) : Has (tor tins per n rs) x ↔ (0 ≤ x ∧ x < tins) ∧ x / per ∈ rs ∧ x / per < n := by
  unfold tor Has
  constructor
  · rintro ⟨p, hm, h1, h2⟩
    obtain ⟨r, hm2, rfl⟩ := List.mem_map.mp hm
    clear hm
    obtain ⟨hm, hn⟩ := List.mem_filter.mp hm2
    simp only [decide_eq_true_eq] at hn
    simp only at h1 h2
    obtain ⟨a, b⟩ := (rack_iff hp (hr r hm)).mp ⟨h1, by omega⟩
    exact ⟨⟨a, by omega⟩, by rw [b]; exact hm, by rw [b]; exact hn⟩
  · rintro ⟨⟨h0, h1⟩, h2, h3⟩
    refine ⟨_, List.mem_map.mpr ⟨x / per, List.mem_filter.mpr ⟨h2, by simpa using h3⟩, rfl⟩, ?_⟩
    have := (rack_iff hp (hr _ h2)).mpr ⟨h0, rfl⟩
    simp only
    omega
theorem tor_len {tins per : Int} {n : Nat} {rs : List Int} : (tor tins per n rs).length ≤ rs.length := by
  unfold tor
  rw [List.length_map]
  exact List.length_filter_le _ _
def torS (tins : Int) (pl : Str) (ps : List Ps) (rs : List Int) : List Rg := match fnd pl ps with
  | some (.rk _ per ss) => setOf (tor tins per ss.length rs)
  | _ => []
theorem torS_cn {tins : Int} {pl : Str} {ps : List Ps} {rs : List Int} : Cn (torS tins pl ps rs) ∧ (torS tins pl ps rs).length ≤ rs.length := by
  unfold torS
  split
  · exact ⟨(setOf_ok _).1, Nat.le_trans (setOf_ok _).2.2 tor_len⟩
  · exact ⟨trivial, by simp⟩
def RackOk (ps : List Ps) (f : Fa) (x : Int) : Prop := f.racks = [] ∨ ∃ a per ss, fnd f.pl ps = some (.rk a per ss) ∧ x / per ∈ f.racks
def FR (tins : Int) (ps : List Ps) (f : Fa) (x : Int) : Prop := (0 ≤ x ∧ x < tins) ∧ mtW (win f.pl ps x) f.first (some f.last) = true ∧ RackOk ps f x
def rb (tins : Int) (ps : List Ps) (f : Fa) : List Rg := if f.racks = [] then taS tins f.pl ps f.first (some f.last) else bo (taS tins f.pl ps f.first (some f.last)) (torS tins f.pl ps f.racks)
theorem rb_ok {tins : Int} {ps : List Ps} {f : Fa} (hg : ∀ p ∈ ps, GoodT p) (t0 : 0 ≤ tins) (hf : GoodF f) : Cn (rb tins ps f) ∧ (∀ x, Has (rb tins ps f) x ↔ FR tins ps f x) ∧ (rb tins ps f).length ≤ 200 := by
  have h1 := taS_ok (first := f.first) (last := some f.last) (pl := f.pl) hg t0
  unfold rb
  by_cases e : f.racks = []
  · rw [if_pos e]
    refine ⟨h1.1, fun x => ?_, by have := h1.2.2; omega⟩
    rw [h1.2.1]
    unfold FR RackOk
    simp [e]
  · rw [if_neg e]
    have h2 := torS_cn (tins := tins) (pl := f.pl) (ps := ps) (rs := f.racks)
    obtain ⟨b1, b2, b3⟩ := bo_ok h1.1 h2.1
    refine ⟨b1, fun x => ?_, by have := h1.2.2; have := h2.2; have := hf.2.2.1; omega⟩
    rw [b2, h1.2.1]
    unfold FR RackOk
    constructor
    · rintro ⟨⟨a1, a2⟩, a3⟩
      refine ⟨a1, a2, .inr ?_⟩
      unfold torS at a3
      split at a3
      · rename_i a per ss e2
        obtain ⟨g1, _⟩ := hg _ (fnd_mem e2).1
        rw [(setOf_ok _).2.1, tor_has g1 hf.2.2.2] at a3
        exact ⟨a, per, ss, e2, a3.2.1⟩
      · exact (has_nil.mp a3).elim
    · rintro ⟨a1, a2, a3⟩
      rcases a3 with a3 | ⟨a, per, ss, e2, a3⟩
      · exact absurd a3 e
      · refine ⟨⟨a1, a2⟩, ?_⟩
        obtain ⟨g1, _⟩ := hg _ (fnd_mem e2).1
        unfold torS
        rw [e2]
        simp only
        rw [(setOf_ok _).2.1, tor_has g1 hf.2.2.2]
        refine ⟨a1, a3, ?_⟩
        rw [win, e2] at a2
        simp only [Option.bind_some, winP] at a2
        have h0 : 0 ≤ x / per := Int.ediv_nonneg a1.1 (by omega)
        cases e3 : ss[(x / per).toNat]? with
        | none => rw [e3] at a2; cases a2
        | some w =>
          have := (List.getElem?_eq_some_iff.mp e3).1
          omega
/-- what faults reach of a batch -/
def fset (tins : Int) (ps : List Ps) (fs : List Fa) : List Rg := setOf (fs.flatMap (rb tins ps))
theorem fm_len {tins : Int} {ps : List Ps} (hg : ∀ p ∈ ps, GoodT p) (t0 : 0 ≤ tins) : ∀ {fs : List Fa}, (∀ f ∈ fs, GoodF f) → (fs.flatMap (rb tins ps)).length ≤ 200 * fs.length
  | [], _ => by simp
  | f :: r, h => by
    rw [List.flatMap_cons, List.length_append, List.length_cons]
    have h1 := (rb_ok hg t0 (h f List.mem_cons_self)).2.2
    have h2 := fm_len hg t0 (fs := r) fun g hg => h g (List.mem_cons_of_mem _ hg)
    omega
theorem fm_has {tins x : Int} {ps : List Ps} (hg : ∀ p ∈ ps, GoodT p) (t0 : 0 ≤ tins) {fs : List Fa} (h : ∀ f ∈ fs, GoodF f) : Has (fs.flatMap (rb tins ps)) x ↔ ∃ f ∈ fs, FR tins ps f x := by
  unfold Has
  constructor
  · rintro ⟨p, hp, h1⟩
    obtain ⟨f, hf, hp⟩ := List.mem_flatMap.mp hp
    exact ⟨f, hf, ((rb_ok hg t0 (h f hf)).2.1 x).mp ⟨p, hp, h1⟩⟩
  · rintro ⟨f, hf, h1⟩
    obtain ⟨p, hp, h2⟩ := ((rb_ok hg t0 (h f hf)).2.1 x).mpr h1
    exact ⟨p, List.mem_flatMap.mpr ⟨f, hf, hp⟩, h2⟩
theorem fset_ok {tins : Int} {ps : List Ps} (hg : ∀ p ∈ ps, GoodT p) (t0 : 0 ≤ tins) {fs : List Fa} (h : ∀ f ∈ fs, GoodF f) : Cn (fset tins ps fs) ∧ (∀ x, Has (fset tins ps fs) x ↔ ∃ f ∈ fs, FR tins ps f x) ∧ (fset tins ps fs).length ≤ 200 * fs.length := by
  refine ⟨(setOf_ok _).1, fun x => ?_, Nat.le_trans (setOf_ok _).2.2 (fm_len hg t0 h)⟩
  rw [fset, (setOf_ok _).2.1, fm_has hg t0 h]
theorem fm_nil {tins : Int} {ps : List Ps} (hg : ∀ p ∈ ps, GoodT p) (t0 : 0 ≤ tins) {fs : List Fa} (h : ∀ f ∈ fs, GoodF f) : fs.flatMap (rb tins ps) = [] ↔ fset tins ps fs = [] := by
  constructor
  · intro e
    rw [fset, e]
    exact setOf_self (l := []) trivial
  · intro e
    rcases hl : fs.flatMap (rb tins ps) with _ | ⟨p, r⟩
    · rfl
    · exfalso
      have hp : p ∈ fs.flatMap (rb tins ps) := by rw [hl]; exact List.mem_cons_self
      obtain ⟨f, hf, hp2⟩ := List.mem_flatMap.mp hp
      have hle := cn_le (rb_ok hg t0 (h f hf)).1 p hp2
      have : Has (fset tins ps fs) p.1 := by
        rw [fset, (setOf_ok _).2.1]
        exact ⟨p, hp, by omega, hle⟩
      rw [e] at this
      exact has_nil.mp this
def encB (mk : Str) (tins : Int) (ps : List Ps) : D := .tuple [.str mk, .int tins, .list (ps.map encP)]
/-- a batch as it is handed in -/
def HB (t : D) (mk : Str) (tins : Int) (ps : List Ps) : Prop := ∃ (o : D) (hs : List (D × Ps)), t = .tuple [.str mk, .int tins, o] ∧ (o = .list (hs.map (·.1)) ∨ o = .tuple (hs.map (·.1))) ∧ (∀ y ∈ hs, HandP y.1 y.2) ∧ hs.map (·.2) = ps
theorem hb_enc {mk : Str} {tins : Int} {ps : List Ps} : HB (encB mk tins ps) mk tins ps := by
  refine ⟨_, ps.map fun p => (encP p, p), rfl, .inl ?_, ?_, ?_⟩
  · rw [List.map_map]
    rfl
  · intro y hy
    obtain ⟨p, _, rfl⟩ := List.mem_map.mp hy
    exact handP_enc
  · rw [List.map_map]
    exact List.map_id _
theorem itm_of {o : D} {ts : List D} (h : o = .list ts ∨ o = .tuple ts) {P : List D → Prop} : Itm (.leaf o) P ↔ P ts := by
  rcases h with rfl | rfl
  · exact itm_o
  · exact itm_t
def RF (r : D) (f : Option Ps) : Prop := match f with
  | none => r = .none
  | some p => HandP r p
/-- a batch as plain data -/
structure Ba where
  nm : Str
  tins : Int
  ps : List Ps
def encBa (b : Ba) : D := encB b.nm b.tins b.ps
def HBa (t : D) (b : Ba) : Prop := HB t b.nm b.tins b.ps
def GoodBa (b : Ba) : Prop := 0 < b.tins ∧ b.tins ≤ 1000000000000000000000000000000 ∧ ∀ p ∈ b.ps, GoodP b.tins p
/-- the rows of what faults reach -/
def rrows (fs : List Fa) : List Ba → List (Str × List Rg)
  | [] => []
  | b :: r => if fset b.tins b.ps fs = [] then rrows fs r else (b.nm, fset b.tins b.ps fs) :: rrows fs r
def mkD (p : Str × List Rg) : D := .tuple [.str p.1, .list (p.2.map pD)]
theorem rrows_len {fs : List Fa} : ∀ {bs : List Ba}, (rrows fs bs).length ≤ bs.length
  | [] => by simp [rrows]
  | b :: r => by
    rw [rrows]
    have := rrows_len (fs := fs) (bs := r)
    split <;> simp only [List.length_cons] <;> omega
theorem rrows_ok {fs : List Fa} (hf : ∀ f ∈ fs, GoodF f) : ∀ {bs : List Ba}, (∀ b ∈ bs, GoodBa b) → ∀ p ∈ rrows fs bs, Cn p.2 ∧ p.2.length ≤ 200 * fs.length
  | [], _ => by simp [rrows]
  | b :: r, h => by
    intro p hp
    rw [rrows] at hp
    obtain ⟨b1, b2, b3⟩ := h b List.mem_cons_self
    have ok := fset_ok (fun p hp => (b3 p hp).t) (by omega) hf (tins := b.tins)
    have ih := rrows_ok hf (bs := r) (fun c hc => h c (List.mem_cons_of_mem _ hc))
    split at hp
    · exact ih p hp
    · rcases List.mem_cons.mp hp with rfl | hp
      · exact ⟨ok.1, ok.2.2⟩
      · exact ih p hp
end Mv

set_option Elab.async false
set_option linter.all false
set_option maxRecDepth 100000
set_option maxHeartbeats 4000000
namespace Mv
open PySem PySem.Spec PyProof.Rows L2
local macro_rules | `(tactic| walk_at "mv") => `(tactic| try simp only [↓w_cst, ↓w_var, ↓w_mv, ↓w_fz, ↓w_frz, ↓w_bin, ↓w_un, ↓w_binV, ↓w_if, ↓w_asB, ↓w_yes, ↓w_not, ↓w_and, ↓w_or, ↓w_andE, ↓w_orE, ↓w_notE, ↓w_chain, ↓w_nil, ↓w_cons, ↓w_tup, ↓w_lst, ↓w_pl, ↓w_mut, ↓w_c0, ↓w_ce, ↓w_cv, ↓w_call', ↓wb_0, ↓wb_e, ↓wb_v, wb_e', ↓wo_leaf, ↓wo_ls, ↓wo_dic, ↓wo_dct, ↓wo_st, ↓wo_s, own_0, own_s, oi_0, oi_e, oi_v, isl_st, isl_leaf, isl_ls, Bool.not_false, Bool.not_true, List.nodup_cons, List.nodup_nil, List.not_mem_nil, not_false_eq_true, ↓w_seq, ↓w_skip, ↓w_brk, ↓w_cont, ↓w_retN, ↓w_set, ↓w_drop, ↓w_ret, ↓w_retV, ↓w_ifS, ↓w_fzS, ↓w_asg, ↓w_gN, ↓w_gT, ↓w_gNl, ↓w_gCn, ↓w_gSub, ↓w_par, ↓w_aug, ↓w_int, ↓w_slice, ↓w_rng1, ↓w_rng2, ↓w_seqI, ↓w_comp, ↓w_for,
  ↓sl_0, ↓sl_s, ↓fr_leaf, ↓fr_ls, ↓ok_t, ↓ok_l, ↓br_t, ↓br_f, decide_true, decide_false, Int.reduceEq, ↓bl_b, ↓il_b, ↓le_l, ↓gp_top, ↓cl_0, ↓cl_e, ↓cl_v, ↓nxt_nx, ↓nxt_rt, ↓nxt_bk, ↓nxt_ct, ↓sa_0, ↓sa_s, ↓rg1_i, ↓rg2_i, ↓itm_l, ↓itm_t, ↓itm_o, ↓fin_rt, ↓fin_nx, ↓lpk_nx, ↓lpk_ct, ↓lpk_bk, ↓lpk_rt, ↓wcl_nil, ↓wf_nil,
  ↓w_enum, ↓w_zip, ↓enm_l, ↓enm_o, ↓zp_ll, ↓zp_lo, ↓zp_ol, ↓zp_oo, ↓zp_tt, ↓p_isLTi, ↓p_isLTn, ↓p_isSi, ↓p_isBn, ↓p_extend, p_extendS, p_appendS, List.isEmpty_nil, ↓w_dicO, ↓dicO_list, zip_cc, zip_nn, ↓at_0, ↓at_1, ↓at_2, ↓at_3, ↓at_4, p_insertS, ↓p_mulO, ↓p_repB, ↓p_rep0, ↓p_rep1, ↓w_while, ↓p_insert, ↓at_last, ↓put_last, ↓p_inl, ↓p_inL, ↓p_ninl, ↓p_ninL, ↓p_eqP0, ↓p_neP0, ↓p_neA, ↓p_eq00, ↓p_ne00, ↓p_ixp0, ↓p_ixp1, ↓w_gTp, ↓p_isLTb, ↓p_isLTs, ↓p_isIb, ↓p_isBb, ↓p_isSb, ↓p_isLb, ↓p_isTb, ↓p_isIs, ↓p_isBs, ↓p_isSs, ↓p_isLs, ↓p_isTs, ↓p_isLi, ↓p_isTi, ↓p_isLn, ↓p_isTn, ↓p_isSn, ↓p_isNb, ↓p_isNs, ↓p_isNt, ↓p_isNl, ↓p_isNp, ↓p_eqTT, ↓p_eqTF, ↓p_eqFT, ↓p_eqFF, ↓p_neTT, ↓p_neTF, ↓p_neFT, ↓p_neFF, ↓p_eqBs, ↓p_eqSs, ↓p_eqIs, ↓p_extA, ↓p_extAl, p_extAS, p_extASl, ↓w_bor, fl_b, fl_i, fl_n, fl_s, ↓w_enumA, ↓enma_l, ↓enma_t, ↓enma_o, eq_self, ↓w_strM, ↓sv_s, ↓p_eqS, ↓p_neS, ↓p_isTp, ↓p_lenp, ↓itm_p, ↓p_neBs, line_racks, racks_line, ↓p_sub, ↓p_add, ↓p_ipadd, ↓p_mul, ↓p_div, ↓p_mod, ↓p_pow, ↓p_neg, ↓p_eq, ↓p_ne, ↓p_lt, ↓p_gt, ↓p_le, ↓p_ge, ↓p_max, ↓p_min, ↓p_abs, ↓p_intI, ↓p_intB, ↓p_isaI, ↓p_isaB, ↓p_isaNI, ↓p_isNI, ↓p_isNN, ↓p_isNo, ↓p_eqo, ↓p_neo, ↓p_divmod, ↓p_catL, ↓p_catLl, ↓p_catlL, ↓p_catll, ↓p_len, ↓p_lenl, ↓p_lent, ↓p_list, ↓p_listl, ↓p_listt, ↓p_tuple, ↓p_tuplel, ↓p_tuplet, ↓p_rev, ↓p_revl, ↓p_ix, ↓p_ixl, ↓p_ixt, ↓p_append, ↓p_reverse, ↓p_sum, ↓p_suml, ↓p_any, ↓p_all, ↓p_eqLL, ↓p_eqLl, ↓p_eqlL, ↓p_eqll, ↓p_eqL0, ↓p_eql0, ↓p_neLL, ↓p_neLl, ↓p_nelL, ↓p_nell, ↓p_neL0, ↓p_nel0,
  ↓gp_cells, ↓gp_turn, ↓put_turn, ↓put_cells, ↓putP_top, wipeE, lv_0, lv_s,
  List.set_cons_zero, List.set_cons_succ, List.length_cons, List.length_nil, List.map_cons, List.map_nil, finR, List.replicate, List.replicate_succ, List.replicate_zero, List.cons_append, List.nil_append, true_and, and_true, List.tail_cons, List.head?_cons, Option.join_some, List.contains_nil, Bool.false_eq_true, if_false, if_true, List.all_nil, and_self, Int.reduceToNat, Int.reducePow, Nat.reduceSub, Nat.reduceAdd, Int.reduceAdd, Int.reduceMul, Int.reduceSub, Int.reduceNeg, Int.reduceLT, Int.reduceLE, Int.natAbs, Nat.reduceLT, Nat.reduceLeDiff, Nat.reducePow])
local macro_rules | `(tactic| walk_at "mv1") => `(tactic| try simp only [↓ok_t, ↓ok_l, ↓nxt_nx, ↓nxt_rt, ↓w_seq, ↓fin_rt, ↓fin_nx, ↓lpk_nx, ↓lpk_ct, ↓lpk_bk, ↓lpk_rt, wipeE, List.set_cons_zero, List.set_cons_succ, true_and, and_true])
local macro_rules | `(tactic| walk_at "mvs") => `(tactic| try simp only [↓sl_0, ↓sl_s, ↓fr_leaf, ↓fr_ls, ↓ok_t, ↓ok_l, ↓nxt_nx, ↓nxt_rt, ↓w_seq, ↓fin_rt, ↓fin_nx, ↓lpk_nx, ↓lpk_ct, ↓lpk_bk, ↓lpk_rt, wipeE, List.set_cons_zero, List.set_cons_succ, true_and, and_true])
local macro_rules | `(tactic| walk_at "mvp") => `(tactic| try simp only [↓w_cst, ↓w_var, ↓w_mv, ↓w_fz, ↓w_frz, ↓w_bin, ↓w_un, ↓w_binV, ↓w_if, ↓w_asB, ↓w_yes, ↓w_not, ↓w_and, ↓w_or, ↓w_andE, ↓w_orE, ↓w_notE, ↓w_chain, ↓w_nil, ↓w_cons, ↓w_tup, ↓w_lst, ↓w_pl, ↓w_mut, ↓w_c0, ↓w_ce, ↓w_cv, ↓w_call', ↓wb_0, ↓wb_e, ↓wb_v, wb_e', ↓wo_leaf, ↓wo_ls, ↓wo_dic, ↓wo_dct, ↓wo_st, ↓wo_s, own_0, own_s, oi_0, oi_e, oi_v, isl_st, isl_leaf, isl_ls, Bool.not_false, Bool.not_true, List.nodup_cons, List.nodup_nil, List.not_mem_nil, not_false_eq_true, ↓w_seq, ↓w_skip, ↓w_brk, ↓w_cont, ↓w_retN, ↓w_set, ↓w_drop, ↓w_ret, ↓w_retV, ↓w_fzS, ↓w_asg, ↓w_gN, ↓w_gT, ↓w_gNl, ↓w_gCn, ↓w_gSub, ↓w_par, ↓w_aug, ↓w_int, ↓w_slice, ↓w_rng1, ↓w_rng2, ↓w_seqI, ↓w_comp, ↓w_for,
  ↓sl_0, ↓sl_s, ↓fr_leaf, ↓fr_ls, ↓ok_t, ↓ok_l, ↓br_t, ↓br_f, decide_true, decide_false, Int.reduceEq, ↓bl_b, ↓il_b, ↓le_l, ↓gp_top, ↓cl_0, ↓cl_e, ↓cl_v, ↓nxt_nx, ↓nxt_rt, ↓nxt_bk, ↓nxt_ct, ↓sa_0, ↓sa_s, ↓rg1_i, ↓rg2_i, ↓itm_l, ↓itm_t, ↓itm_o, ↓fin_rt, ↓fin_nx, ↓lpk_nx, ↓lpk_ct, ↓lpk_bk, ↓lpk_rt, ↓wcl_nil, ↓wf_nil,
  ↓w_enum, ↓w_zip, ↓enm_l, ↓enm_o, ↓zp_ll, ↓zp_lo, ↓zp_ol, ↓zp_oo, ↓zp_tt, ↓p_isLTi, ↓p_isLTn, ↓p_isSi, ↓p_isBn, ↓p_extend, p_extendS, p_appendS, List.isEmpty_nil, ↓w_dicO, ↓dicO_list, zip_cc, zip_nn, ↓at_0, ↓at_1, ↓at_2, ↓at_3, ↓at_4, p_insertS, ↓p_mulO, ↓p_repB, ↓p_rep0, ↓p_rep1, ↓w_while, ↓p_insert, ↓at_last, ↓put_last, ↓p_inl, ↓p_inL, ↓p_ninl, ↓p_ninL, ↓p_eqP0, ↓p_neP0, ↓p_neA, ↓p_eq00, ↓p_ne00, ↓p_ixp0, ↓p_ixp1, ↓w_gTp, ↓p_isLTb, ↓p_isLTs, ↓p_isIb, ↓p_isBb, ↓p_isSb, ↓p_isLb, ↓p_isTb, ↓p_isIs, ↓p_isBs, ↓p_isSs, ↓p_isLs, ↓p_isTs, ↓p_isLi, ↓p_isTi, ↓p_isLn, ↓p_isTn, ↓p_isSn, ↓p_isNb, ↓p_isNs, ↓p_isNt, ↓p_isNl, ↓p_isNp, ↓p_eqTT, ↓p_eqTF, ↓p_eqFT, ↓p_eqFF, ↓p_neTT, ↓p_neTF, ↓p_neFT, ↓p_neFF, ↓p_eqBs, ↓p_eqSs, ↓p_eqIs, ↓p_extA, ↓p_extAl, p_extAS, p_extASl, ↓w_bor, fl_b, fl_i, fl_n, fl_s, ↓w_enumA, ↓enma_l, ↓enma_t, ↓enma_o, eq_self, ↓w_strM, ↓sv_s, ↓p_eqS, ↓p_neS, ↓p_isTp, ↓p_lenp, ↓itm_p, ↓p_neBs, line_racks, racks_line, ↓p_sub, ↓p_add, ↓p_ipadd, ↓p_mul, ↓p_div, ↓p_mod, ↓p_pow, ↓p_neg, ↓p_eq, ↓p_ne, ↓p_lt, ↓p_gt, ↓p_le, ↓p_ge, ↓p_max, ↓p_min, ↓p_abs, ↓p_intI, ↓p_intB, ↓p_isaI, ↓p_isaB, ↓p_isaNI, ↓p_isNI, ↓p_isNN, ↓p_isNo, ↓p_eqo, ↓p_neo, ↓p_divmod, ↓p_catL, ↓p_catLl, ↓p_catlL, ↓p_catll, ↓p_len, ↓p_lenl, ↓p_lent, ↓p_list, ↓p_listl, ↓p_listt, ↓p_tuple, ↓p_tuplel, ↓p_tuplet, ↓p_rev, ↓p_revl, ↓p_ix, ↓p_ixl, ↓p_ixt, ↓p_append, ↓p_reverse, ↓p_sum, ↓p_suml, ↓p_any, ↓p_all, ↓p_eqLL, ↓p_eqLl, ↓p_eqlL, ↓p_eqll, ↓p_eqL0, ↓p_eql0, ↓p_neLL, ↓p_neLl, ↓p_nelL, ↓p_nell, ↓p_neL0, ↓p_nel0,
  ↓gp_cells, ↓gp_turn, ↓put_turn, ↓put_cells, ↓putP_top, wipeE, lv_0, lv_s,
  List.set_cons_zero, List.set_cons_succ, List.length_cons, List.length_nil, List.map_cons, List.map_nil, finR, List.replicate, List.replicate_succ, List.replicate_zero, List.cons_append, List.nil_append, true_and, and_true, List.tail_cons, List.head?_cons, Option.join_some, List.contains_nil, Bool.false_eq_true, if_false, if_true, List.all_nil, and_self, Int.reduceToNat, Int.reducePow, Nat.reduceSub, Nat.reduceAdd, Int.reduceAdd, Int.reduceMul, Int.reduceSub, Int.reduceNeg, Int.reduceLT, Int.reduceLE, Int.natAbs, Nat.reduceLT, Nat.reduceLeDiff, Nat.reducePow])
/-! ### the laws' own comparison, of a thing with itself -/
/-- numbers, texts, None, and lists and tuples of these -/
def smz : Nat → D → Bool
  | _, .none => true
  | _, .int _ => true
  | _, .str _ => true
  | n + 1, .list ts => decide (ts.length ≤ 1000000) && ts.all (smz n)
  | n + 1, .tuple ts => decide (ts.length ≤ 1000000) && ts.all (smz n)
  | _, _ => false
theorem smz_list {n : Nat} {ts : List D} : smz (n + 1) (.list ts) = true ↔ ts.length ≤ 1000000 ∧ ∀ t ∈ ts, smz n t = true := by
  rw [smz, Bool.and_eq_true, decide_eq_true_iff, List.all_eq_true]
theorem smz_tuple {n : Nat} {ts : List D} : smz (n + 1) (.tuple ts) = true ↔ ts.length ≤ 1000000 ∧ ∀ t ∈ ts, smz n t = true := by
  rw [smz, Bool.and_eq_true, decide_eq_true_iff, List.all_eq_true]
theorem smz_okz : ∀ {n : Nat} {t : D}, smz n t = true → okz n t = true := by
  intro n
  induction n with
  | zero =>
    intro t h
    cases t <;> first | rfl | cases h
  | succ n ih =>
    intro t h
    cases t with
    | list ts =>
      obtain ⟨h1, h2⟩ := smz_list.mp h
      exact okz_list.mpr ⟨h1, fun t ht => ih (h2 t ht)⟩
    | tuple ts =>
      obtain ⟨h1, h2⟩ := smz_tuple.mp h
      exact okz_tuple.mpr ⟨h1, fun t ht => ih (h2 t ht)⟩
    | dict ts => cases h
    | _ => rfl
theorem smz_int {n : Nat} {i : Int} : smz n (.int i) = true := by cases n <;> rfl
theorem smz_str {n : Nat} {i : Str} : smz n (.str i) = true := by cases n <;> rfl
theorem smz_none {n : Nat} : smz n .none = true := by cases n <;> rfl
theorem smz_pair {n : Nat} {p : Int × Int} : smz (n + 1) (pD p) = true := by
  rw [pD, smz_tuple]
  refine ⟨by simp, fun t ht => ?_⟩
  simp only [List.mem_cons, List.not_mem_nil, or_false] at ht
  rcases ht with rfl | rfl <;> exact smz_int
theorem smz_pairs {n : Nat} {ps : List (Int × Int)} (h : ps.length ≤ 1000000) : smz (n + 2) (.list (ps.map pD)) = true := by
  rw [smz_list]
  refine ⟨by rw [List.length_map]; exact h, fun t ht => ?_⟩
  obtain ⟨p, _, rfl⟩ := List.mem_map.mp ht
  exact smz_pair
theorem smz_mk {n : Nat} {p : Str × List Rg} (h : p.2.length ≤ 1000000) : smz (n + 3) (mkD p) = true := by
  rw [mkD, smz_tuple]
  refine ⟨by simp, fun t ht => ?_⟩
  simp only [List.mem_cons, List.not_mem_nil, or_false] at ht
  rcases ht with rfl | rfl
  · exact smz_str
  · exact smz_pairs h
theorem smz_mks {n : Nat} {ps : List (Str × List Rg)} (h : ps.length ≤ 1000000) (h2 : ∀ p ∈ ps, p.2.length ≤ 1000000) : smz (n + 4) (.list (ps.map mkD)) = true := by
  rw [smz_list]
  refine ⟨by rw [List.length_map]; exact h, fun t ht => ?_⟩
  obtain ⟨p, hp, rfl⟩ := List.mem_map.mp ht
  exact smz_mk (h2 p hp)
theorem smz_ints {n : Nat} {ns : List Int} (h : ns.length ≤ 1000000) : smz (n + 1) (.list (ns.map .int)) = true := by
  rw [smz_list]
  refine ⟨by rw [List.length_map]; exact h, fun t ht => ?_⟩
  obtain ⟨p, _, rfl⟩ := List.mem_map.mp ht
  exact smz_int
def sameB (gself : Def) : SSem := (seq (ifS (asB (bin true (varE 1) (cstE .none) (vw2 (isNI false)))) (retS true (bin true (varE 0) (cstE .none) (vw2 (isNI false)))) skip)
  (seq (ifS (orT (asB (un (varE 1) (vw1 (isaI .list)))) (asB (un (varE 1) (vw1 (isaI .tuple))))) (seq (ifS (asB (bin true (un (varE 0) (vw1 (isaI .list))) (un (varE 1) (vw1 (isaI .list))) (vw2 (eqI true)))) (retS true (cstE (.bool false))) skip)
  (seq (ifS (orT (asB (bin true (un (varE 0) (vw1 (isaI .tuple))) (un (varE 1) (vw1 (isaI .tuple))) (vw2 (eqI true)))) (asB (bin true (un (varE 0) oLen) (un (varE 1) oLen) (vw2 (eqI true))))) (retS true (cstE (.bool false))) skip)
  (retS true (un (compE (zipI (consA false (varE 0) (consA false (varE 1) nilA))) (gT 2 (gCn (gN 2) (gCn (gN 3) gNl))) yesT (callF gself (.e false (varE 2) :: (.e false (varE 3) :: []))) [2, 3]) oAll)))) skip)
  (seq (ifS (asB (un (varE 1) (vw1 (isaI .str)))) (retS true (andE (un (varE 0) (vw1 (isaI .str))) (bin true (varE 0) (varE 1) (vw2 (eqI false))))) skip)
  (retS true (andE (un (varE 0) (vw1 (isaI .int))) (andE (notE (un (varE 0) (vw1 (isaI .bool)))) (bin true (varE 0) (varE 1) (vw2 (eqI false)))))))))
def sameF (gself : Def) : Def := runDef 2 4 [] (sameB gself)
theorem same_self : ∀ {n : Nat} {t : D}, n ≤ 40 → smz n t = true → ∀ {Q : O → List (Option O) → Prop}, (∀ os, Q (.leaf (.bool true)) os) → Wd (fuel sameF (n + 1)) [.leaf t, .leaf t] Q := by
  intro n
  induction n with
  | zero =>
    intro t hn h Q k
    show Wd (runDef 2 4 [] (sameB (fuel sameF 0))) _ _
    rw [w_def]
    unfold sameB
    cases t with
    | list ts => simp [smz] at h
    | tuple ts => simp [smz] at h
    | dict ts => simp [smz] at h
    | bool ts => simp [smz] at h
    | _ =>
      walk_at "mv"
      exact k _
  | succ n ih =>
    intro t hn h Q k
    show Wd (runDef 2 4 [] (sameB (fuel sameF (n + 1)))) _ _
    rw [w_def]
    unfold sameB
    have hz := smz_okz h
    cases t with
    | list ts =>
      have hl : ∀ {Q : O → Prop}, Op1 (vw1 (isaI .list)) (.leaf (.list ts)) Q ↔ Q (.leaf (.bool true)) := p_isa (n := n + 1) (by omega) hz
      have ht : ∀ {Q : O → Prop}, Op1 (vw1 (isaI .tuple)) (.leaf (.list ts)) Q ↔ Q (.leaf (.bool false)) := p_isa (n := n + 1) (by omega) hz
      obtain ⟨h1, h2⟩ := smz_list.mp h
      walk_at "mv"
      rw [hl]
      walk_at "mv"
      rw [hl]
      walk_at "mv"
      rw [hl]
      walk_at "mv"
      rw [ht]
      walk_at "mv"
      rw [ht]
      walk_at "mv"
      rw [zip_self]
      refine ⟨by rw [List.length_map]; omega, ?_⟩
      refine wcl_map (p := fun _ => true) (g := fun _ => PyData.bool true) (fun p hp => ?_) ?_
      · walk_at "mv"
        refine ih (by omega) (h2 p hp) fun os => ?_
        walk_at "mv"
      · rw [List.filter_eq_self.mpr fun _ _ => rfl]
        have e : ts.map (fun _ => PyData.bool true) = (ts.map fun _ => true).map .bool := by rw [List.map_map]; rfl
        rw [e]
        walk_at "mv"
        have e2 : (ts.map fun _ => true).all id = true := by simp
        rw [e2]
        exact k _
    | tuple ts =>
      have hl : ∀ {Q : O → Prop}, Op1 (vw1 (isaI .list)) (.leaf (.tuple ts)) Q ↔ Q (.leaf (.bool false)) := p_isa (n := n + 1) (by omega) hz
      have ht : ∀ {Q : O → Prop}, Op1 (vw1 (isaI .tuple)) (.leaf (.tuple ts)) Q ↔ Q (.leaf (.bool true)) := p_isa (n := n + 1) (by omega) hz
      obtain ⟨h1, h2⟩ := smz_tuple.mp h
      walk_at "mv"
      rw [hl]
      walk_at "mv"
      rw [ht]
      walk_at "mv"
      rw [hl]
      walk_at "mv"
      rw [hl]
      walk_at "mv"
      rw [ht]
      walk_at "mv"
      rw [ht]
      walk_at "mv"
      rw [zip_self]
      refine ⟨by rw [List.length_map]; omega, ?_⟩
      refine wcl_map (p := fun _ => true) (g := fun _ => PyData.bool true) (fun p hp => ?_) ?_
      · walk_at "mv"
        refine ih (by omega) (h2 p hp) fun os => ?_
        walk_at "mv"
      · rw [List.filter_eq_self.mpr fun _ _ => rfl]
        have e : ts.map (fun _ => PyData.bool true) = (ts.map fun _ => true).map .bool := by rw [List.map_map]; rfl
        rw [e]
        walk_at "mv"
        have e2 : (ts.map fun _ => true).all id = true := by simp
        rw [e2]
        exact k _
    | dict ts => cases h
    | bool ts => cases h
    | _ =>
      walk_at "mv"
      exact k _

end Mv

set_option Elab.async false
set_option linter.all false
set_option maxRecDepth 100000
set_option maxHeartbeats 4000000
namespace Mv
open PySem PySem.Spec PyProof.Rows L2
local macro_rules | `(tactic| walk_at "mv") => `(tactic| try simp only [↓w_cst, ↓w_var, ↓w_mv, ↓w_fz, ↓w_frz, ↓w_bin, ↓w_un, ↓w_binV, ↓w_if, ↓w_asB, ↓w_yes, ↓w_not, ↓w_and, ↓w_or, ↓w_andE, ↓w_orE, ↓w_notE, ↓w_chain, ↓w_nil, ↓w_cons, ↓w_tup, ↓w_lst, ↓w_pl, ↓w_mut, ↓w_c0, ↓w_ce, ↓w_cv, ↓w_call', ↓wb_0, ↓wb_e, ↓wb_v, wb_e', ↓wo_leaf, ↓wo_ls, ↓wo_dic, ↓wo_dct, ↓wo_st, ↓wo_s, own_0, own_s, oi_0, oi_e, oi_v, isl_st, isl_leaf, isl_ls, Bool.not_false, Bool.not_true, List.nodup_cons, List.nodup_nil, List.not_mem_nil, not_false_eq_true, ↓w_seq, ↓w_skip, ↓w_brk, ↓w_cont, ↓w_retN, ↓w_set, ↓w_drop, ↓w_ret, ↓w_retV, ↓w_ifS, ↓w_fzS, ↓w_asg, ↓w_gN, ↓w_gT, ↓w_gNl, ↓w_gCn, ↓w_gSub, ↓w_par, ↓w_aug, ↓w_int, ↓w_slice, ↓w_rng1, ↓w_rng2, ↓w_seqI, ↓w_comp, ↓w_for,
  ↓sl_0, ↓sl_s, ↓fr_leaf, ↓fr_ls, ↓ok_t, ↓ok_l, ↓br_t, ↓br_f, decide_true, decide_false, Int.reduceEq, ↓bl_b, ↓il_b, ↓le_l, ↓gp_top, ↓cl_0, ↓cl_e, ↓cl_v, ↓nxt_nx, ↓nxt_rt, ↓nxt_bk, ↓nxt_ct, ↓sa_0, ↓sa_s, ↓rg1_i, ↓rg2_i, ↓itm_l, ↓itm_t, ↓itm_o, ↓fin_rt, ↓fin_nx, ↓lpk_nx, ↓lpk_ct, ↓lpk_bk, ↓lpk_rt, ↓wcl_nil, ↓wf_nil,
  ↓w_enum, ↓w_zip, ↓enm_l, ↓enm_o, ↓zp_ll, ↓zp_lo, ↓zp_ol, ↓zp_oo, ↓zp_tt, ↓p_isLTi, ↓p_isLTn, ↓p_isSi, ↓p_isBn, ↓p_extend, p_extendS, p_appendS, List.isEmpty_nil, ↓w_dicO, ↓dicO_list, zip_cc, zip_nn, ↓at_0, ↓at_1, ↓at_2, ↓at_3, ↓at_4, p_insertS, ↓p_mulO, ↓p_repB, ↓p_rep0, ↓p_rep1, ↓w_while, ↓p_insert, ↓at_last, ↓put_last, ↓p_inl, ↓p_inL, ↓p_ninl, ↓p_ninL, ↓p_eqP0, ↓p_neP0, ↓p_neA, ↓p_eq00, ↓p_ne00, ↓p_ixp0, ↓p_ixp1, ↓w_gTp, ↓p_isLTb, ↓p_isLTs, ↓p_isIb, ↓p_isBb, ↓p_isSb, ↓p_isLb, ↓p_isTb, ↓p_isIs, ↓p_isBs, ↓p_isSs, ↓p_isLs, ↓p_isTs, ↓p_isLi, ↓p_isTi, ↓p_isLn, ↓p_isTn, ↓p_isSn, ↓p_isNb, ↓p_isNs, ↓p_isNt, ↓p_isNl, ↓p_isNp, ↓p_eqTT, ↓p_eqTF, ↓p_eqFT, ↓p_eqFF, ↓p_neTT, ↓p_neTF, ↓p_neFT, ↓p_neFF, ↓p_eqBs, ↓p_eqSs, ↓p_eqIs, ↓p_extA, ↓p_extAl, p_extAS, p_extASl, ↓w_bor, fl_b, fl_i, fl_n, fl_s, ↓w_enumA, ↓enma_l, ↓enma_t, ↓enma_o, eq_self, ↓w_strM, ↓sv_s, ↓p_eqS, ↓p_neS, ↓p_isTp, ↓p_lenp, ↓itm_p, ↓p_neBs, line_racks, racks_line, ↓p_sub, ↓p_add, ↓p_ipadd, ↓p_mul, ↓p_div, ↓p_mod, ↓p_pow, ↓p_neg, ↓p_eq, ↓p_ne, ↓p_lt, ↓p_gt, ↓p_le, ↓p_ge, ↓p_max, ↓p_min, ↓p_abs, ↓p_intI, ↓p_intB, ↓p_isaI, ↓p_isaB, ↓p_isaNI, ↓p_isNI, ↓p_isNN, ↓p_isNo, ↓p_eqo, ↓p_neo, ↓p_divmod, ↓p_catL, ↓p_catLl, ↓p_catlL, ↓p_catll, ↓p_len, ↓p_lenl, ↓p_lent, ↓p_list, ↓p_listl, ↓p_listt, ↓p_tuple, ↓p_tuplel, ↓p_tuplet, ↓p_rev, ↓p_revl, ↓p_ix, ↓p_ixl, ↓p_ixt, ↓p_append, ↓p_reverse, ↓p_sum, ↓p_suml, ↓p_any, ↓p_all, ↓p_eqLL, ↓p_eqLl, ↓p_eqlL, ↓p_eqll, ↓p_eqL0, ↓p_eql0, ↓p_neLL, ↓p_neLl, ↓p_nelL, ↓p_nell, ↓p_neL0, ↓p_nel0,
  ↓gp_cells, ↓gp_turn, ↓put_turn, ↓put_cells, ↓putP_top, wipeE, lv_0, lv_s,
  List.set_cons_zero, List.set_cons_succ, List.length_cons, List.length_nil, List.map_cons, List.map_nil, finR, List.replicate, List.replicate_succ, List.replicate_zero, List.cons_append, List.nil_append, true_and, and_true, List.tail_cons, List.head?_cons, Option.join_some, List.contains_nil, Bool.false_eq_true, if_false, if_true, List.all_nil, and_self, Int.reduceToNat, Int.reducePow, Nat.reduceSub, Nat.reduceAdd, Int.reduceAdd, Int.reduceMul, Int.reduceSub, Int.reduceNeg, Int.reduceLT, Int.reduceLE, Int.natAbs, Nat.reduceLT, Nat.reduceLeDiff, Nat.reducePow])
local macro_rules | `(tactic| walk_at "mv1") => `(tactic| try simp only [↓ok_t, ↓ok_l, ↓nxt_nx, ↓nxt_rt, ↓w_seq, ↓fin_rt, ↓fin_nx, ↓lpk_nx, ↓lpk_ct, ↓lpk_bk, ↓lpk_rt, wipeE, List.set_cons_zero, List.set_cons_succ, true_and, and_true])
local macro_rules | `(tactic| walk_at "mvs") => `(tactic| try simp only [↓sl_0, ↓sl_s, ↓fr_leaf, ↓fr_ls, ↓ok_t, ↓ok_l, ↓nxt_nx, ↓nxt_rt, ↓w_seq, ↓fin_rt, ↓fin_nx, ↓lpk_nx, ↓lpk_ct, ↓lpk_bk, ↓lpk_rt, wipeE, List.set_cons_zero, List.set_cons_succ, true_and, and_true])
local macro_rules | `(tactic| walk_at "mvp") => `(tactic| try simp only [↓w_cst, ↓w_var, ↓w_mv, ↓w_fz, ↓w_frz, ↓w_bin, ↓w_un, ↓w_binV, ↓w_if, ↓w_asB, ↓w_yes, ↓w_not, ↓w_and, ↓w_or, ↓w_andE, ↓w_orE, ↓w_notE, ↓w_chain, ↓w_nil, ↓w_cons, ↓w_tup, ↓w_lst, ↓w_pl, ↓w_mut, ↓w_c0, ↓w_ce, ↓w_cv, ↓w_call', ↓wb_0, ↓wb_e, ↓wb_v, wb_e', ↓wo_leaf, ↓wo_ls, ↓wo_dic, ↓wo_dct, ↓wo_st, ↓wo_s, own_0, own_s, oi_0, oi_e, oi_v, isl_st, isl_leaf, isl_ls, Bool.not_false, Bool.not_true, List.nodup_cons, List.nodup_nil, List.not_mem_nil, not_false_eq_true, ↓w_seq, ↓w_skip, ↓w_brk, ↓w_cont, ↓w_retN, ↓w_set, ↓w_drop, ↓w_ret, ↓w_retV, ↓w_fzS, ↓w_asg, ↓w_gN, ↓w_gT, ↓w_gNl, ↓w_gCn, ↓w_gSub, ↓w_par, ↓w_aug, ↓w_int, ↓w_slice, ↓w_rng1, ↓w_rng2, ↓w_seqI, ↓w_comp, ↓w_for,
  ↓sl_0, ↓sl_s, ↓fr_leaf, ↓fr_ls, ↓ok_t, ↓ok_l, ↓br_t, ↓br_f, decide_true, decide_false, Int.reduceEq, ↓bl_b, ↓il_b, ↓le_l, ↓gp_top, ↓cl_0, ↓cl_e, ↓cl_v, ↓nxt_nx, ↓nxt_rt, ↓nxt_bk, ↓nxt_ct, ↓sa_0, ↓sa_s, ↓rg1_i, ↓rg2_i, ↓itm_l, ↓itm_t, ↓itm_o, ↓fin_rt, ↓fin_nx, ↓lpk_nx, ↓lpk_ct, ↓lpk_bk, ↓lpk_rt, ↓wcl_nil, ↓wf_nil,
  ↓w_enum, ↓w_zip, ↓enm_l, ↓enm_o, ↓zp_ll, ↓zp_lo, ↓zp_ol, ↓zp_oo, ↓zp_tt, ↓p_isLTi, ↓p_isLTn, ↓p_isSi, ↓p_isBn, ↓p_extend, p_extendS, p_appendS, List.isEmpty_nil, ↓w_dicO, ↓dicO_list, zip_cc, zip_nn, ↓at_0, ↓at_1, ↓at_2, ↓at_3, ↓at_4, p_insertS, ↓p_mulO, ↓p_repB, ↓p_rep0, ↓p_rep1, ↓w_while, ↓p_insert, ↓at_last, ↓put_last, ↓p_inl, ↓p_inL, ↓p_ninl, ↓p_ninL, ↓p_eqP0, ↓p_neP0, ↓p_neA, ↓p_eq00, ↓p_ne00, ↓p_ixp0, ↓p_ixp1, ↓w_gTp, ↓p_isLTb, ↓p_isLTs, ↓p_isIb, ↓p_isBb, ↓p_isSb, ↓p_isLb, ↓p_isTb, ↓p_isIs, ↓p_isBs, ↓p_isSs, ↓p_isLs, ↓p_isTs, ↓p_isLi, ↓p_isTi, ↓p_isLn, ↓p_isTn, ↓p_isSn, ↓p_isNb, ↓p_isNs, ↓p_isNt, ↓p_isNl, ↓p_isNp, ↓p_eqTT, ↓p_eqTF, ↓p_eqFT, ↓p_eqFF, ↓p_neTT, ↓p_neTF, ↓p_neFT, ↓p_neFF, ↓p_eqBs, ↓p_eqSs, ↓p_eqIs, ↓p_extA, ↓p_extAl, p_extAS, p_extASl, ↓w_bor, fl_b, fl_i, fl_n, fl_s, ↓w_enumA, ↓enma_l, ↓enma_t, ↓enma_o, eq_self, ↓w_strM, ↓sv_s, ↓p_eqS, ↓p_neS, ↓p_isTp, ↓p_lenp, ↓itm_p, ↓p_neBs, line_racks, racks_line, ↓p_sub, ↓p_add, ↓p_ipadd, ↓p_mul, ↓p_div, ↓p_mod, ↓p_pow, ↓p_neg, ↓p_eq, ↓p_ne, ↓p_lt, ↓p_gt, ↓p_le, ↓p_ge, ↓p_max, ↓p_min, ↓p_abs, ↓p_intI, ↓p_intB, ↓p_isaI, ↓p_isaB, ↓p_isaNI, ↓p_isNI, ↓p_isNN, ↓p_isNo, ↓p_eqo, ↓p_neo, ↓p_divmod, ↓p_catL, ↓p_catLl, ↓p_catlL, ↓p_catll, ↓p_len, ↓p_lenl, ↓p_lent, ↓p_list, ↓p_listl, ↓p_listt, ↓p_tuple, ↓p_tuplel, ↓p_tuplet, ↓p_rev, ↓p_revl, ↓p_ix, ↓p_ixl, ↓p_ixt, ↓p_append, ↓p_reverse, ↓p_sum, ↓p_suml, ↓p_any, ↓p_all, ↓p_eqLL, ↓p_eqLl, ↓p_eqlL, ↓p_eqll, ↓p_eqL0, ↓p_eql0, ↓p_neLL, ↓p_neLl, ↓p_nelL, ↓p_nell, ↓p_neL0, ↓p_nel0,
  ↓gp_cells, ↓gp_turn, ↓put_turn, ↓put_cells, ↓putP_top, wipeE, lv_0, lv_s,
  List.set_cons_zero, List.set_cons_succ, List.length_cons, List.length_nil, List.map_cons, List.map_nil, finR, List.replicate, List.replicate_succ, List.replicate_zero, List.cons_append, List.nil_append, true_and, and_true, List.tail_cons, List.head?_cons, Option.join_some, List.contains_nil, Bool.false_eq_true, if_false, if_true, List.all_nil, and_self, Int.reduceToNat, Int.reducePow, Nat.reduceSub, Nat.reduceAdd, Int.reduceAdd, Int.reduceMul, Int.reduceSub, Int.reduceNeg, Int.reduceLT, Int.reduceLE, Int.natAbs, Nat.reduceLT, Nat.reduceLeDiff, Nat.reducePow])
/-! ### list(range(..)) -/
def rgD (a b : Int) : List D := (List.range (b - a).toNat).map fun (i : Nat) => PyData.int (a + (i : Nat))
def rgI (a b : Int) : List Int := (List.range (b - a).toNat).map fun (i : Nat) => a + (i : Nat)
theorem rgD_I (a b : Int) : rgD a b = (rgI a b).map .int := by unfold rgD rgI; rw [List.map_map]; rfl
theorem rgI_len (a b : Int) : (rgI a b).length = (b - a).toNat := by unfold rgI; rw [List.length_map, List.length_range]
theorem rgI_mem {a b x : Int} : x ∈ rgI a b ↔ a ≤ x ∧ x < b := by
  unfold rgI
  rw [List.mem_map]
  constructor
  · rintro ⟨i, hi, rfl⟩
    rw [List.mem_range] at hi
    omega
  · rintro ⟨h1, h2⟩
    exact ⟨(x - a).toNat, List.mem_range.mpr (by omega), by omega⟩
def rgOk (a b : Int) : Bool := decide (-(2 ^ 62) ≤ a ∧ a < 2 ^ 62 ∧ -(2 ^ 62) ≤ b ∧ b < 2 ^ 62 ∧ (b - a).toNat ≤ 2 ^ 24)
def oLrg (a b : O) : Option O := match a, b with
  | .leaf (.int i), .leaf (.int j) => if rgOk i j = true then some (.ls (rgD i j)) else none
  | _, _ => none
theorem rgD_fz {K : PySem.W.Frag} {S : Hp} {a b : Int} : FzL K S (rgD a b) (rgV a b) := by
  rw [rgD_I]
  unfold rgV
  have e : (List.map (fun (i : Nat) => V.int (a + (i : Nat))) (List.range (b - a).toNat)) = (rgI a b).map V.int := by unfold rgI; rw [List.map_map]; rfl
  rw [e]
  exact fz_ints'
section
variable {X : Cx} {e1 e2 : Expr} {f f1 f2 : ESem} {q q1 q2 m m1 m2 : Bool} {p pos rp rpos : Pos}
theorem se_lrg1 (hc : X.calm = true) (hg : Gl X "list") (hm : X.mg "list" = none) (hg2 : Gl X "range") (hm2 : X.mg "range" = none) (h : SE X e1 f q m)
    (na : starEach [e1] X.env = (false, eval e1 X.env) :: starEach [] X.env := by rfl) (na2 : starEach [.Call (.Name "range" rp) [e1] [] rpos] X.env = (false, eval (.Call (.Name "range" rp) [e1] [] rpos) X.env) :: starEach [] X.env := by rfl) :
    SE X (.Call (.Name "list" p) [.Call (.Name "range" rp) [e1] [] rpos] [] pos) (un f (oLrg (.leaf (.int 0)))) q true := by
  refine ⟨PE.imp (pe_listRg hc hg hm (prg_1 hg2 hm2 h.pe na) na2) fun σ H Q hw => ?_, un_qf h.qf⟩
  obtain ⟨env, S, fp, z, env', R, he, k⟩ := hw
  unfold un at he
  simp only [Option.bind_eq_some_iff, Option.map_eq_some_iff, Prod.mk.injEq] at he
  obtain ⟨⟨r, e'⟩, h1, z', h2, rfl, rfl⟩ := he
  refine ⟨env, S, fp, r, e', R, h1, fun v S1 H1 fp1 fr R1 E1 w g n => ?_⟩
  have hz : ∃ j : Int, r = .leaf (.int j) := by
    cases r with
    | leaf t =>
      cases t with
      | int j => exact ⟨j, rfl⟩
      | _ => cases h2
    | _ => cases h2
  obtain ⟨j, rfl⟩ := hz
  · simp only [oLrg] at h2
    split at h2
    · rename_i hb
      cases h2
      have w2 := (ow_leafE w).2
      simp only [Fz] at w2
      have hb2 := of_decide_eq_true (p := -(2 ^ 62) ≤ (0 : Int) ∧ (0 : Int) < 2 ^ 62 ∧ -(2 ^ 62) ≤ j ∧ j < 2 ^ 62 ∧ (j - 0).toNat ≤ 2 ^ 24) hb
      refine ⟨_, w2, hb2, fun p hp => ?_⟩
      have G := Gr.newH (o := .lst (rgV 0 j)) R1.le hp
      exact k _ S1 _ fp1 [p] (R1.gr G) (E1.trans G.evo) (ow_ls upd_same rgD_fz) (fun e => ⟨(g e).1, (g e).2.trans G.grow⟩) fun _ => Fresh.pre E1 ((New.one hp (R1.le.free hp)).fresh R1.ins)
    · cases h2
theorem se_lrg2 (hc : X.calm = true) (hg : Gl X "list") (hm : X.mg "list" = none) (hg2 : Gl X "range") (hm2 : X.mg "range" = none) (h : SE X e1 f1 q1 m1) (h' : SE X e2 f2 q2 m2)
    (na : starEach [e1, e2] X.env = (false, eval e1 X.env) :: starEach [e2] X.env := by rfl) (nb : starEach [e2] X.env = (false, eval e2 X.env) :: starEach [] X.env := by rfl) (hp : (backTo rpos (starEach [e2] X.env)).any (·.1) = false := by rfl)
    (na2 : starEach [.Call (.Name "range" rp) [e1, e2] [] rpos] X.env = (false, eval (.Call (.Name "range" rp) [e1, e2] [] rpos) X.env) :: starEach [] X.env := by rfl) :
    SE X (.Call (.Name "list" p) [.Call (.Name "range" rp) [e1, e2] [] rpos] [] pos) (bin false f1 f2 oLrg) (q1 && q2) true := by
  refine ⟨PE.imp (pe_listRg hc hg hm (prg_2 hg2 hm2 h.pe h'.pe na nb hp) na2) fun σ H Q hw => ?_, bin_qf h.qf h'.qf⟩
  obtain ⟨env, S, fp, z, env', R, he, k⟩ := hw
  obtain ⟨r1, e1', r2, h1, h2, _, hg⟩ := bin_some he
  refine ⟨env, S, fp, r1, e1', R, h1, fun v S1 H1 fp1 fr R1 E1 w g n => ⟨e1', S1, fp1, r2, env', R1, h2, fun v2 S2 H2 fp2 fr2 R2 E2 w2 g2 n2 => ?_⟩⟩
  unfold oLrg at hg
  split at hg
  · rename_i i j _
    split at hg
    · rename_i hb
      cases hg
      have z1 := (ow_leafE w).2
      have z2 := (ow_leafE w2).2
      simp only [Fz] at z1 z2
      have hb2 := of_decide_eq_true hb
      refine ⟨_, _, z1, z2, hb2, fun p hp => ?_⟩
      have G := Gr.newH (o := .lst (rgV i j)) R2.le hp
      refine k _ S2 _ fp2 [p] (R2.gr G) ((E1.trans E2).trans G.evo) (ow_ls upd_same rgD_fz) (fun e => ?_) fun _ => Fresh.pre (E1.trans E2) ((New.one hp (R2.le.free hp)).fresh R2.ins)
      rw [Bool.and_eq_true] at e
      exact ⟨(g2 e.2).1.trans (g e.1).1, ((g e.1).2.trans (g2 e.2).2).trans G.grow⟩
    · cases hg
  · cases hg
end
theorem p_lrg1 {n : Int} {Q : O → Prop} : Op1 (oLrg (.leaf (.int 0))) (.leaf (.int n)) Q ↔ rgOk 0 n = true ∧ Q (.ls ((rgI 0 n).map .int)) := by
  rw [← rgD_I]
  by_cases h : rgOk 0 n = true <;> simp [Op1, O1, oLrg, h]
theorem p_lrg2 {a b : Int} {Q : O → Prop} : Op2 oLrg (.leaf (.int a)) (.leaf (.int b)) Q ↔ rgOk a b = true ∧ Q (.ls ((rgI a b).map .int)) := by
  rw [← rgD_I]
  by_cases h : rgOk a b = true <;> simp [Op2, O1, oLrg, h]

/-! ### max, min of a list of numbers -/
def mxI : List Int → Int
  | [] => 0
  | i :: r => r.foldl max i
def mnI : List Int → Int
  | [] => 0
  | i :: r => r.foldl min i
theorem foldl_max : ∀ (r : List Int) (i : Int), (r.foldl max i ∈ i :: r) ∧ ∀ y ∈ i :: r, y ≤ r.foldl max i
  | [], i => ⟨by simp, by simp⟩
  | j :: r, i => by
    obtain ⟨h1, h2⟩ := foldl_max r (max i j)
    rw [List.foldl_cons]
    constructor
    · rcases List.mem_cons.mp h1 with h | h
      · rw [h]
        rcases Int.le_total i j with z | z
        · rw [Int.max_eq_right z]; simp
        · rw [Int.max_eq_left z]; simp
      · simp [h]
    · intro y hy
      have h3 := h2 (max i j) List.mem_cons_self
      rcases List.mem_cons.mp hy with rfl | hy
      · omega
      · rcases List.mem_cons.mp hy with rfl | hy
        · omega
        · exact h2 y (List.mem_cons_of_mem _ hy)
theorem foldl_min : ∀ (r : List Int) (i : Int), (r.foldl min i ∈ i :: r) ∧ ∀ y ∈ i :: r, r.foldl min i ≤ y
  | [], i => ⟨by simp, by simp⟩
  | j :: r, i => by
    obtain ⟨h1, h2⟩ := foldl_min r (min i j)
    rw [List.foldl_cons]
    constructor
    · rcases List.mem_cons.mp h1 with h | h
      · rw [h]
        rcases Int.le_total i j with z | z
        · rw [Int.min_eq_left z]; simp
        · rw [Int.min_eq_right z]; simp
      · simp [h]
    · intro y hy
      have h3 := h2 (min i j) List.mem_cons_self
      rcases List.mem_cons.mp hy with rfl | hy
      · omega
      · rcases List.mem_cons.mp hy with rfl | hy
        · omega
        · exact h2 y (List.mem_cons_of_mem _ hy)
theorem mxI_ok {ns : List Int} (h : ns ≠ []) : mxI ns ∈ ns ∧ ∀ y ∈ ns, y ≤ mxI ns := by
  match ns, h with
  | i :: r, _ => exact foldl_max r i
theorem mnI_ok {ns : List Int} (h : ns ≠ []) : mnI ns ∈ ns ∧ ∀ y ∈ ns, mnI ns ≤ y := by
  match ns, h with
  | i :: r, _ => exact foldl_min r i
def oMax (a : O) : Option O := (lstO a).bind fun ts => (intsD ts).bind fun ns => if ns = [] then none else some (.leaf (.int (mxI ns)))
def oMin (a : O) : Option O := (lstO a).bind fun ts => (intsD ts).bind fun ns => if ns = [] then none else some (.leaf (.int (mnI ns)))
theorem ro_max {K : PySem.W.Frag} : RO1 K (fun x => rMax K [x]) oMax := by
  intro S H x o fr1 z Q le w e k
  unfold oMax at e
  simp only [Option.bind_eq_some_iff] at e
  obtain ⟨ts, h1, ns, h2, h3⟩ := e
  split at h3
  · cases h3
  · rename_i hne
    cases h3
    obtain ⟨a, vs, rfl, ha, za⟩ := lstO_at le w h1
    rw [intsD_some h2] at za
    rw [fz_ints za] at ha
    obtain ⟨k1, k2⟩ := mxI_ok hne
    refine ⟨a, ns, rfl, ha.sq, List.length_pos_iff.mpr hne, fun m hm hy => ?_⟩
    have e : m = mxI ns := Int.le_antisymm (k2 m hm) (hy _ k1)
    rw [e]
    exact k _ S H [] (Gr.refl le) (ow_leaf (by simp only [Fz])) New.nil
theorem ro_min {K : PySem.W.Frag} : RO1 K (fun x => rMin K [x]) oMin := by
  intro S H x o fr1 z Q le w e k
  unfold oMin at e
  simp only [Option.bind_eq_some_iff] at e
  obtain ⟨ts, h1, ns, h2, h3⟩ := e
  split at h3
  · cases h3
  · rename_i hne
    cases h3
    obtain ⟨a, vs, rfl, ha, za⟩ := lstO_at le w h1
    rw [intsD_some h2] at za
    rw [fz_ints za] at ha
    obtain ⟨k1, k2⟩ := mnI_ok hne
    refine ⟨a, ns, rfl, ha.sq, List.length_pos_iff.mpr hne, fun m hm hy => ?_⟩
    have e : m = mnI ns := Int.le_antisymm (hy _ k1) (k2 m hm)
    rw [e]
    exact k _ S H [] (Gr.refl le) (ow_leaf (by simp only [Fz])) New.nil
section
variable {ns : List Int} {Q : O → Prop}
theorem p_maxL : Op1 oMax (.ls (ns.map .int)) Q ↔ ns ≠ [] ∧ Q (.leaf (.int (mxI ns))) := by
  by_cases h : ns = [] <;> simp [Op1, O1, oMax, lstO, intsD_map, h, intsD]
theorem p_maxl : Op1 oMax (.leaf (.list (ns.map .int))) Q ↔ ns ≠ [] ∧ Q (.leaf (.int (mxI ns))) := by
  by_cases h : ns = [] <;> simp [Op1, O1, oMax, lstO, intsD_map, h, intsD]
theorem p_minL : Op1 oMin (.ls (ns.map .int)) Q ↔ ns ≠ [] ∧ Q (.leaf (.int (mnI ns))) := by
  by_cases h : ns = [] <;> simp [Op1, O1, oMin, lstO, intsD_map, h, intsD]
theorem p_minl : Op1 oMin (.leaf (.list (ns.map .int))) Q ↔ ns ≠ [] ∧ Q (.leaf (.int (mnI ns))) := by
  by_cases h : ns = [] <;> simp [Op1, O1, oMin, lstO, intsD_map, h, intsD]
end

/-! ### dicts read -/
def lkG {κ : Type} [DecidableEq κ] : List (κ × O) → κ → Option (Option D)
  | [], _ => some none
  | (k', o) :: r, k => if k' = k then (match o with | .leaf t => some (some t) | _ => none) else lkG r k
/-- what d holds at k -/
def dgO (d k : O) : Option (Option D) := match d with
  | .dic kvs => (keyOf k).bind (lkG kvs)
  | .dct kvs => (tupOf k).bind (lkG kvs)
  | _ => none
theorem valV_cons {κ : Type} [DecidableEq κ] {k' k : κ} {v : V} {r : List (κ × V)} : valV ((k', v) :: r) k = if k' = k then some v else valV r k := by
  unfold valV
  rw [List.find?_cons]
  by_cases h : k' = k <;> simp [h]
section
variable {K : PySem.W.Frag} {S H : Hp}
def DgR (K : PySem.W.Frag) (S : Hp) (r : Option D) (o : Option V) : Prop := match r with
  | none => o = none
  | some t => ∃ v, o = some v ∧ Fz K S t v
theorem lkG_K {k : Key} : ∀ {kvs : List (Key × O)} {vs : List (Key × V)} {fr : List Addr} {r : Option D}, OwK K S H kvs vs fr → lkG kvs k = some r → DgR K S r (valV vs k)
  | [], vs, fr, r, h, e => by
    simp only [OwK] at h
    rw [h.1]
    cases e
    rfl
  | (k', o) :: kr, vs, fr, r, h, e => by
    simp only [OwK] at h
    obtain ⟨v1, vr, f1, f2, rfl, rfl, h1, h2⟩ := h
    rw [valV_cons]
    simp only [lkG] at e
    by_cases hk : k' = k
    · rw [if_pos hk] at e
      rw [if_pos hk]
      cases o with
      | leaf t =>
        cases e
        exact ⟨v1, rfl, (ow_leafE h1).2⟩
      | _ => cases e
    · rw [if_neg hk] at e
      rw [if_neg hk]
      exact lkG_K h2 e
theorem lkG_T {k : List Key} : ∀ {kvs : List (List Key × O)} {vs : List (List Key × V)} {fr : List Addr} {r : Option D}, OwT K S H kvs vs fr → lkG kvs k = some r → DgR K S r (valV vs k)
  | [], vs, fr, r, h, e => by
    simp only [OwT] at h
    rw [h.1]
    cases e
    rfl
  | (k', o) :: kr, vs, fr, r, h, e => by
    simp only [OwT] at h
    obtain ⟨v1, vr, f1, f2, rfl, rfl, h1, h2⟩ := h
    rw [valV_cons]
    simp only [lkG] at e
    by_cases hk : k' = k
    · rw [if_pos hk] at e
      rw [if_pos hk]
      cases o with
      | leaf t =>
        cases e
        exact ⟨v1, rfl, (ow_leafE h1).2⟩
      | _ => cases e
    · rw [if_neg hk] at e
      rw [if_neg hk]
      exact lkG_T h2 e
theorem keyOf_at {o : O} {y : V} {fi : List Addr} {k : Key} (w : Ow K S H o y fi) (e : keyOf o = some k) : y = kV k := by
  unfold keyOf at e
  split at e
  · cases e
    have z := (ow_leafE w).2
    simpa only [Fz, kV] using z
  · cases e
    have z := (ow_leafE w).2
    simpa only [Fz, kV] using z
  · cases e
theorem keysOf_at : ∀ {ts : List D} {vs : List V} {ks : List Key}, FzL K S ts vs → keysOf ts = some ks → vs = ks.map kV
  | [], vs, ks, h, e => by cases e; rw [h.nilE]; rfl
  | t :: ts, vs, ks, h, e => by
    obtain ⟨v, r, rfl, h1, h2⟩ := h.inv
    cases t with
    | int i =>
      simp only [keysOf, Option.map_eq_some_iff] at e
      obtain ⟨ks', e, rfl⟩ := e
      simp only [Fz] at h1
      subst h1
      rw [keysOf_at h2 e]
      rfl
    | str x =>
      simp only [keysOf, Option.map_eq_some_iff] at e
      obtain ⟨ks', e, rfl⟩ := e
      simp only [Fz] at h1
      subst h1
      rw [keysOf_at h2 e]
      rfl
    | _ => cases e
theorem tupOf_at {o : O} {y : V} {fi : List Addr} {ks : List Key} (w : Ow K S H o y fi) (e : tupOf o = some ks) : ∃ b, y = .ref b ∧ S b = some (.tup (ks.map kV)) := by
  unfold tupOf at e
  split at e
  · have z := (ow_leafE w).2
    simp only [Fz] at z
    obtain ⟨b, vs, rfl, h1, h2⟩ := z
    refine ⟨b, rfl, ?_⟩
    rw [← keysOf_at h2 e]
    exact h1
  · cases e
theorem dgO_at {o oi : O} {x y : V} {fr fi : List Addr} {r : Option D} (le : Same S H) (w : Ow K S H o x fr) (wi : Ow K S H oi y fi) (e : dgO o oi = some r) :
    ∃ a ov, x = .ref a ∧ DGet H a y ov ∧ DgR K S r ov := by
  unfold dgO at e
  split at e
  · simp only [Option.bind_eq_some_iff] at e
    obtain ⟨k, h1, h2⟩ := e
    simp only [Ow] at w
    obtain ⟨a, vs, f, rfl, rfl, h3, h4⟩ := w
    exact ⟨a, _, rfl, .inl ⟨vs, k, .inl h4, keyOf_at wi h1, rfl⟩, lkG_K h3 h2⟩
  · simp only [Option.bind_eq_some_iff] at e
    obtain ⟨k, h1, h2⟩ := e
    simp only [Ow] at w
    obtain ⟨a, vs, f, rfl, rfl, h3, h4⟩ := w
    obtain ⟨b, rfl, h5⟩ := tupOf_at wi h1
    exact ⟨a, _, rfl, .inr ⟨vs, k, b, .inl h4, rfl, le _ _ h5, rfl⟩, lkG_T h3 h2⟩
  · cases e
end
/-! d[k] -/
def oDIx (d k : O) : Option O := (dgO d k).bind fun r => r.map O.leaf
/-- k in d -/
def oDIn (neg : Bool) (k d : O) : Option O := (dgO d k).map fun r => .leaf (.bool (r.isSome != neg))
def rDIx : R2 := fun x y H Q => ∃ a v, x = .ref a ∧ DGet H a y (some v) ∧ Q v H
def rDIn (neg : Bool) : R2 := fun y x H Q => ∃ a o, x = .ref a ∧ DGet H a y o ∧ Q (.bl (o.isSome != neg)) H
theorem ro_dix {K : PySem.W.Frag} : RO2 K rDIx oDIx := by
  intro S H x y o1 o2 fr1 fr2 z Q le w1 w2 e k
  unfold oDIx at e
  simp only [Option.bind_eq_some_iff, Option.map_eq_some_iff] at e
  obtain ⟨r, h1, t, rfl, rfl⟩ := e
  obtain ⟨a, ov, rfl, h2, v, rfl, h4⟩ := dgO_at le w1 w2 h1
  exact ⟨a, v, rfl, h2, k v S H [] (Gr.refl le) (ow_leaf h4) New.nil⟩
theorem ro_din {K : PySem.W.Frag} {neg : Bool} : RO2 K (rDIn neg) (oDIn neg) := by
  intro S H x y o1 o2 fr1 fr2 z Q le w1 w2 e k
  unfold oDIn at e
  simp only [Option.map_eq_some_iff] at e
  obtain ⟨r, h1, rfl⟩ := e
  obtain ⟨a, ov, rfl, h2, h3⟩ := dgO_at le w2 w1 h1
  have e : ov.isSome = r.isSome := by
    cases r with
    | none => rw [show ov = none from h3]; rfl
    | some t =>
      obtain ⟨v, rfl, _⟩ := h3
      rfl
  refine ⟨a, ov, rfl, h2, ?_⟩
  rw [e]
  exact k _ S H [] (Gr.refl le) (ow_leaf (by simp only [Fz])) New.nil
section
variable {X : Cx} {a b c : Expr} {f1 f2 f3 : ESem} {q1 q2 q3 m1 m2 m3 ok : Bool} {pos apos : Pos}
theorem op_inG (hu : X.A.units + 1 < cLine) : OpR X (compareOp .In) (rDIn false) := by
  intro pins s σ H x y v u Q I rx ry h
  obtain ⟨a, o, rfl, g, q⟩ := h
  cases ry
  refine d_in hu I g rx fun s' I' => ⟨.bl o.isSome, H, I', rfl, ?_⟩
  simpa using q
theorem op_ninG (hu : X.A.units + 1 < cLine) : OpR X (compareOp .NotIn) (rDIn true) := by
  intro pins s σ H x y v u Q I rx ry h
  obtain ⟨a, o, rfl, g, q⟩ := h
  cases ry
  refine d_notIn hu I g rx fun s' I' => ⟨.bl (!o.isSome), H, I', rfl, ?_⟩
  simpa using q
theorem se_dix (hu : X.A.units + 1 < cLine) (h1 : SE X a f1 q1 m1) (h2 : SE X b f2 q2 m2) (hok : ok = true → m1 = true ∨ q2 = true) (hs : NoSl b) : SE X (.Subscript a b pos) (bin ok f1 f2 oDIx) (q1 && q2) true :=
  ⟨PE.imp (pe_dget hu h1.pe h2.pe hs) fun _ _ _ h => imp2 ro_dix hok h1.qf h2.qf h, bin_qf h1.qf h2.qf⟩
/-- d.get(k, x) -/
def getE (fd fk fx : ESem) : ESem := fun env => (fd env).bind fun p => (fk p.2).bind fun r => (fx r.2).bind fun s =>
  (dgO p.1 r.1).bind fun o => match s.1 with
    | .leaf z => some (.leaf (o.getD z), s.2)
    | _ => none
theorem se_dget2 (hu : X.A.units + 1 < cLine) (h1 : SE X a f1 q1 m1) (h2 : SE X b f2 true m2) (h3 : SE X c f3 true m3) (m : M2 X a "get" apos b c pos) : SE X (.Call (.Attribute a "get" apos) [b, c] [] pos) (getE f1 f2 f3) q1 true := by
  refine ⟨PE.imp (pe_dget2 hu h1.pe h2.pe h3.pe m) fun σ H Q h => ?_, fun e env r env' h => ?_⟩
  · obtain ⟨env, S, fp, z, env', R, he, k⟩ := h
    unfold getE at he
    simp only [Option.bind_eq_some_iff] at he
    obtain ⟨⟨r1, e1⟩, g1, ⟨r2, e2⟩, g2, ⟨r3, e3⟩, g3, o, g4, g5⟩ := he
    simp only at g2 g3 g4 g5
    refine ⟨env, S, fp, r1, e1, R, g1, fun x S1 H1 fp1 fr1 R1 E1 w1 k1 n1 => ?_⟩
    split at g5
    · rename_i zt
      cases g5
      have hx : ∃ a, x = .ref a ∧ IsD H1 a := by
        unfold dgO at g4
        split at g4
        · simp only [Ow] at w1
          obtain ⟨a, vs, f, rfl, rfl, h3, h4⟩ := w1
          exact ⟨a, rfl, .inl ⟨vs, .inl h4⟩⟩
        · simp only [Ow] at w1
          obtain ⟨a, vs, f, rfl, rfl, h3, h4⟩ := w1
          exact ⟨a, rfl, .inr ⟨vs, .inl h4⟩⟩
        · cases g4
      obtain ⟨a, rfl, hd⟩ := hx
      refine ⟨a, rfl, hd, e1, S1, fp1, r2, e2, R1, g2, fun y S2 H2 fp2 fr2 R2 E2 w2 k2 n2 => ⟨e2, S2, fp2, _, _, R2, g3, fun z S3 H3 fp3 fr3 R3 E3 w3 k3 n3 => ?_⟩⟩
      have w1' : Ow X.K S3 H3 r1 (.ref a) fr1 := (w1.mono E2.sub (k2 rfl).2).mono E3.sub (k3 rfl).2
      have w2' : Ow X.K S3 H3 r2 y fr2 := w2.mono E3.sub (k3 rfl).2
      obtain ⟨a', ov, ea, hg, hr⟩ := dgO_at R3.le w1' w2' g4
      cases ea
      refine ⟨ov, hg, k _ S3 H3 fp3 [] R3 ((E1.trans E2).trans E3) (ow_leaf ?_) (fun e => ⟨(k3 rfl).1.trans ((k2 rfl).1.trans (k1 e).1), ((k1 e).2.trans (k2 rfl).2).trans (k3 rfl).2⟩) fun _ => Fresh.nil⟩
      cases o with
      | none =>
        rw [show ov = none from hr]
        exact (ow_leafE w3).2
      | some t =>
        obtain ⟨v, rfl, hv⟩ := hr
        exact hv
    · cases g5
  · unfold getE at h
    simp only [Option.bind_eq_some_iff] at h
    obtain ⟨⟨r1, e1⟩, g1, ⟨r2, e2⟩, g2, ⟨r3, e3⟩, g3, o, g4, g5⟩ := h
    simp only at g2 g3 g4 g5
    split at g5
    · cases g5
      rw [h3.qf rfl _ _ _ g3, h2.qf rfl _ _ _ g2, h1.qf e _ _ _ g1]
    · cases g5
end
/-! the plain rules -/
theorem w_getE {f1 f2 f3 : ESem} {env : Mv.Env} {Q : O → Mv.Env → Prop} : We (getE f1 f2 f3) env Q ↔ We f1 env fun a e1 => We f2 e1 fun b e2 => We f3 e2 fun c e3 => Op1 (fun c => (dgO a b).bind fun o => match c with | .leaf z => some (.leaf (o.getD z)) | _ => none) c fun z => Q z e3 := by
  unfold We getE Op1 O1 O2
  cases h1 : f1 env with
  | none => exact Iff.rfl
  | some p =>
    simp only [Option.bind_some]
    cases h2 : f2 p.2 with
    | none => exact Iff.rfl
    | some r =>
      simp only [Option.bind_some]
      cases h3 : f3 r.2 with
      | none => exact Iff.rfl
      | some s =>
        simp only [Option.bind_some]
        cases dgO p.1 r.1 with
        | none => exact Iff.rfl
        | some o =>
          obtain ⟨s1, s2⟩ := s
          cases s1 <;> exact Iff.rfl
/-- a dict of frozen things, keys text or numbers; keys tuples -/
def dicS (kvs : List (Key × D)) : O := .dic (kvs.map fun kv => (kv.1, .leaf kv.2))
def dctS (kvs : List (List Key × D)) : O := .dct (kvs.map fun kv => (kv.1, .leaf kv.2))
def lkK {κ : Type} [DecidableEq κ] : List (κ × D) → κ → Option D
  | [], _ => none
  | (k', t) :: r, k => if k' = k then some t else lkK r k
theorem lkG_S {κ : Type} [DecidableEq κ] {k : κ} : ∀ {kvs : List (κ × D)}, lkG (kvs.map fun kv => (kv.1, O.leaf kv.2)) k = some (lkK kvs k)
  | [] => rfl
  | (k', t) :: r => by
    rw [List.map_cons, lkG, lkK]
    by_cases h : k' = k
    · simp [h]
    · simp only [h, if_false]
      exact lkG_S
def putL {κ : Type} [DecidableEq κ] (kvs : List (κ × D)) (k : κ) (d : D) : List (κ × D) :=
  if (kvs.any fun kv => decide (kv.1 = k)) = true then kvs.map (fun kv => if kv.1 = k then (kv.1, d) else kv) else kvs ++ [(k, d)]
theorem putO_S {κ : Type} [DecidableEq κ] {k : κ} {d : D} {kvs : List (κ × D)} : putO (kvs.map fun kv => (kv.1, O.leaf kv.2)) k (.leaf d) = (putL kvs k d).map fun kv => (kv.1, O.leaf kv.2) := by
  unfold putO putL
  have e : ((kvs.map fun kv => (kv.1, O.leaf kv.2)).any fun kv => decide (kv.1 = k)) = kvs.any fun kv => decide (kv.1 = k) := by rw [List.any_map]; rfl
  rw [e]
  split
  · rw [List.map_map, List.map_map]
    apply List.map_congr_left
    intro kv _
    simp only [Function.comp]
    split <;> rfl
  · simp
theorem leafAt_S {κ : Type} [DecidableEq κ] {k : κ} {kvs : List (κ × D)} : leafAt (kvs.map fun kv => (kv.1, O.leaf kv.2)) k = true := by
  unfold leafAt
  rw [List.all_eq_true]
  intro kv h
  obtain ⟨p, _, rfl⟩ := List.mem_map.mp h
  split <;> rfl
theorem lkK_put {κ : Type} [DecidableEq κ] {k k2 : κ} {d : D} : ∀ {kvs : List (κ × D)}, lkK (putL kvs k d) k2 = if k = k2 then some d else lkK kvs k2
  | [] => by unfold putL; simp [lkK]
  | (k', t) :: r => by
    have ih := lkK_put (k := k) (k2 := k2) (d := d) (kvs := r)
    unfold putL at ih ⊢
    rw [List.any_cons]
    by_cases h : k' = k
    · subst h
      simp only [decide_true, Bool.true_or, if_true, List.map_cons, lkK]
      by_cases h2 : k' = k2
      · simp [h2]
      · simp only [h2, if_false]
        by_cases h3 : (r.any fun kv => decide (kv.1 = k')) = true
        · rw [if_pos h3] at ih
          rw [ih, if_neg h2]
        · have e : r.map (fun kv => if kv.1 = k' then (kv.1, d) else kv) = r := by
            conv => rhs; rw [← List.map_id r]
            apply List.map_congr_left
            intro kv hkv
            by_cases h4 : kv.1 = k'
            · exact absurd (List.any_eq_true.mpr ⟨kv, hkv, by simpa using h4⟩) h3
            · simp [h4]
          rw [e]
    · simp only [h, decide_false, Bool.false_or]
      by_cases h3 : (r.any fun kv => decide (kv.1 = k)) = true
      · rw [if_pos h3] at ih ⊢
        rw [List.map_cons, if_neg h, lkK, lkK, ih]
        by_cases h2 : k' = k2
        · subst h2; simp [Ne.symm h]
        · simp [h2]
      · rw [if_neg h3] at ih ⊢
        rw [List.cons_append, lkK, lkK, ih]
        by_cases h2 : k' = k2
        · subst h2; simp [Ne.symm h]
        · simp [h2]
theorem putL_len {κ : Type} [DecidableEq κ] {k : κ} {d : D} {kvs : List (κ × D)} : (putL kvs k d).length ≤ kvs.length + 1 := by
  unfold putL
  split
  · rw [List.length_map]; omega
  · simp
section
variable {kvs : List (Key × D)} {kts : List (List Key × D)} {i : Int} {x : Str} {ts : List D} {ks : List Key} {d z : D} {Q : O → Prop} {neg : Bool}
theorem p_emptyK : O.dic [] = dicS [] := rfl
theorem p_emptyT : O.dct [] = dctS [] := rfl
theorem w_emptyK {env : Mv.Env} {Q : O → Mv.Env → Prop} : We emptyK env Q ↔ Q (dicS []) env := Iff.rfl
theorem w_emptyT {env : Mv.Env} {Q : O → Mv.Env → Prop} : We emptyT env Q ↔ Q (dctS []) env := Iff.rfl
theorem dg_i : dgO (dicS kvs) (.leaf (.int i)) = some (lkK kvs (.inl i)) := by unfold dgO dicS keyOf; exact lkG_S
theorem dg_s : dgO (dicS kvs) (.leaf (.str x)) = some (lkK kvs (.inr x)) := by unfold dgO dicS keyOf; exact lkG_S
theorem dg_t (h : keysOf ts = some ks) : dgO (dctS kts) (.leaf (.tuple ts)) = some (lkK kts ks) := by unfold dgO dctS tupOf; simp only [h, Option.bind_some]; exact lkG_S
theorem p_dixi : Op2 oDIx (dicS kvs) (.leaf (.int i)) Q ↔ ∃ t, lkK kvs (.inl i) = some t ∧ Q (.leaf t) := by
  unfold Op2 oDIx; rw [dg_i]; cases lkK kvs (.inl i) <;> simp [O1]
theorem p_dixs : Op2 oDIx (dicS kvs) (.leaf (.str x)) Q ↔ ∃ t, lkK kvs (.inr x) = some t ∧ Q (.leaf t) := by
  unfold Op2 oDIx; rw [dg_s]; cases lkK kvs (.inr x) <;> simp [O1]
theorem p_dixt (h : keysOf ts = some ks) : Op2 oDIx (dctS kts) (.leaf (.tuple ts)) Q ↔ ∃ t, lkK kts ks = some t ∧ Q (.leaf t) := by
  unfold Op2 oDIx; rw [dg_t h]; cases lkK kts ks <;> simp [O1]
theorem p_dini : Op2 (oDIn neg) (.leaf (.int i)) (dicS kvs) Q ↔ Q (.leaf (.bool ((lkK kvs (.inl i)).isSome != neg))) := by
  unfold Op2 oDIn; rw [dg_i]; exact Iff.rfl
theorem p_dins : Op2 (oDIn neg) (.leaf (.str x)) (dicS kvs) Q ↔ Q (.leaf (.bool ((lkK kvs (.inr x)).isSome != neg))) := by
  unfold Op2 oDIn; rw [dg_s]; exact Iff.rfl
theorem p_dint (h : keysOf ts = some ks) : Op2 (oDIn neg) (.leaf (.tuple ts)) (dctS kts) Q ↔ Q (.leaf (.bool ((lkK kts ks).isSome != neg))) := by
  unfold Op2 oDIn; rw [dg_t h]; exact Iff.rfl
theorem p_dgi : Op1 (fun c => (dgO (dicS kvs) (.leaf (.int i))).bind fun o => match c with | .leaf z => some (.leaf (o.getD z)) | _ => none) (.leaf z) Q ↔ Q (.leaf ((lkK kvs (.inl i)).getD z)) := by
  unfold Op1; rw [dg_i]; exact Iff.rfl
theorem p_dgs : Op1 (fun c => (dgO (dicS kvs) (.leaf (.str x))).bind fun o => match c with | .leaf z => some (.leaf (o.getD z)) | _ => none) (.leaf z) Q ↔ Q (.leaf ((lkK kvs (.inr x)).getD z)) := by
  unfold Op1; rw [dg_s]; exact Iff.rfl
theorem p_dgt (h : keysOf ts = some ks) : Op1 (fun c => (dgO (dctS kts) (.leaf (.tuple ts))).bind fun o => match c with | .leaf z => some (.leaf (o.getD z)) | _ => none) (.leaf z) Q ↔ Q (.leaf ((lkK kts ks).getD z)) := by
  unfold Op1; rw [dg_t h]; exact Iff.rfl
theorem p_dputi : Op3 gSet (dicS kvs) (.leaf (.int i)) d Q ↔ kvs.length < 16000000 ∧ Q (dicS (putL kvs (.inl i) d)) := by
  unfold Op3 gSet dicS keyOf
  simp only [Option.bind_some, leafAt_S, true_and, List.length_map, putO_S]
  by_cases h : kvs.length < 16000000 <;> simp [h, O1]
theorem p_dputs : Op3 gSet (dicS kvs) (.leaf (.str x)) d Q ↔ kvs.length < 16000000 ∧ Q (dicS (putL kvs (.inr x) d)) := by
  unfold Op3 gSet dicS keyOf
  simp only [Option.bind_some, leafAt_S, true_and, List.length_map, putO_S]
  by_cases h : kvs.length < 16000000 <;> simp [h, O1]
theorem p_dputt (h : keysOf ts = some ks) : Op3 gSet (dctS kts) (.leaf (.tuple ts)) d Q ↔ kts.length < 16000000 ∧ Q (dctS (putL kts ks d)) := by
  unfold Op3 gSet dctS tupOf
  simp only [h, Option.bind_some, leafAt_S, true_and, List.length_map, putO_S]
  by_cases h : kts.length < 16000000 <;> simp [h, O1]
end
/-! ### dict(a list of pairs) -/
def oDictP (a : O) : Option O := (lstO a).bind fun ts => (rowsK ts).bind fun more => (updO [] more).map O.dic
theorem ro_dictP {K : PySem.W.Frag} : RO1 K (fun x => (fun xs H Q => ∃ (a : Addr) (ps : List Addr) (kvs : List (Key × V)), xs = [.ref a] ∧ SqL K H a (ps.map V.ref) ∧ Paired (fun p kv => SqT K H p [kV kv.1, kv.2]) ps kvs ∧
    ∀ p, H p = none → Q (.ref p) (upd H p (.dK (mergeK [] kvs))) : List V → Hp → VK → Prop) [x]) oDictP := by
  intro S H x o fr1 z Q le w e k
  unfold oDictP at e
  simp only [Option.bind_eq_some_iff, Option.map_eq_some_iff] at e
  obtain ⟨ts, h1, more, h2, kvs', h3, rfl⟩ := e
  obtain ⟨a, vs, rfl, ha, za⟩ := lstO_at le w h1
  obtain ⟨ps, mv, rfl, h4, h5⟩ := rowsK_fz le h2 za
  refine ⟨a, ps, mv, rfl, ha.sq, h4, fun p hp => k _ S _ [p] (Gr.newH le hp) ?_ (New.one hp (le.free hp))⟩
  simp only [Ow]
  exact ⟨p, _, [], rfl, rfl, updO_ow h5 (by simp only [OwK]; exact ⟨trivial, trivial⟩) h3, upd_same⟩
def mergeL (kvs : List (Key × D)) (more : List (Key × D)) : List (Key × D) := more.foldl (fun acc kv => putL acc kv.1 kv.2) kvs
theorem updO_S : ∀ {more kvs : List (Key × D)}, updO (kvs.map fun kv => (kv.1, O.leaf kv.2)) more = some ((mergeL kvs more).map fun kv => (kv.1, O.leaf kv.2))
  | [], kvs => rfl
  | (k, d) :: r, kvs => by
    rw [updO, if_pos leafAt_S, putO_S, updO_S]
    rfl
def rowT (kv : Key × D) : D := .tuple [keyT kv.1, kv.2]
theorem rowsK_T : ∀ {kvs : List (Key × D)}, rowsK (kvs.map rowT) = some kvs
  | [] => rfl
  | (.inl i, d) :: r => by rw [List.map_cons]; simp only [rowT, keyT, rowsK, rowsK_T]; rfl
  | (.inr i, d) :: r => by rw [List.map_cons]; simp only [rowT, keyT, rowsK, rowsK_T]; rfl
theorem p_dictPe {ts : List D} {kvs : List (Key × D)} {o : O} {Q : O → Prop} (h : lstO o = some ts) (h2 : rowsK ts = some kvs) (k : Q (dicS (mergeL [] kvs))) : Op1 oDictP o Q := by
  unfold Op1 oDictP
  simp only [h, h2, Option.bind_some]
  rw [show ([] : List (Key × O)) = ([] : List (Key × D)).map (fun kv => (kv.1, O.leaf kv.2)) from rfl, updO_S]
  exact k
theorem lkK_merge {k : Key} : ∀ {more kvs : List (Key × D)}, lkK (mergeL kvs more) k = (lkK more.reverse k).or (lkK kvs k) := by
  have app : ∀ {a b : List (Key × D)}, lkK (a ++ b) k = (lkK a k).or (lkK b k) := by
    intro a b
    induction a with
    | nil => rfl
    | cons p r ih =>
      obtain ⟨k', t⟩ := p
      rw [List.cons_append, lkK, lkK, ih]
      by_cases h : k' = k <;> simp [h]
  intro more
  induction more with
  | nil => intro kvs; rfl
  | cons p r ih =>
    intro kvs
    obtain ⟨k', t⟩ := p
    show lkK (mergeL (putL kvs k' t) r) k = _
    rw [ih, lkK_put, List.reverse_cons, app]
    simp only [lkK]
    cases lkK r.reverse k with
    | some z => rfl
    | none =>
      by_cases h : k' = k <;> simp [h]

end Mv

set_option Elab.async false
set_option linter.all false
set_option maxRecDepth 100000
set_option maxHeartbeats 4000000
namespace Mv
open PySem PySem.Spec PyProof.Rows L2
local macro_rules | `(tactic| walk_at "mv") => `(tactic| try simp only [↓w_cst, ↓w_var, ↓w_mv, ↓w_fz, ↓w_frz, ↓w_bin, ↓w_un, ↓w_binV, ↓w_if, ↓w_asB, ↓w_yes, ↓w_not, ↓w_and, ↓w_or, ↓w_andE, ↓w_orE, ↓w_notE, ↓w_chain, ↓w_nil, ↓w_cons, ↓w_tup, ↓w_lst, ↓w_pl, ↓w_mut, ↓w_c0, ↓w_ce, ↓w_cv, ↓w_call', ↓wb_0, ↓wb_e, ↓wb_v, wb_e', ↓wo_leaf, ↓wo_ls, ↓wo_dic, ↓wo_dct, ↓wo_st, ↓wo_s, own_0, own_s, oi_0, oi_e, oi_v, isl_st, isl_leaf, isl_ls, Bool.not_false, Bool.not_true, List.nodup_cons, List.nodup_nil, List.not_mem_nil, not_false_eq_true, ↓w_seq, ↓w_skip, ↓w_brk, ↓w_cont, ↓w_retN, ↓w_set, ↓w_drop, ↓w_ret, ↓w_retV, ↓w_ifS, ↓w_fzS, ↓w_asg, ↓w_gN, ↓w_gT, ↓w_gNl, ↓w_gCn, ↓w_gSub, ↓w_par, ↓w_aug, ↓w_int, ↓w_slice, ↓w_rng1, ↓w_rng2, ↓w_seqI, ↓w_comp, ↓w_for,
  ↓sl_0, ↓sl_s, ↓fr_leaf, ↓fr_ls, ↓ok_t, ↓ok_l, ↓br_t, ↓br_f, decide_true, decide_false, Int.reduceEq, ↓bl_b, ↓il_b, ↓le_l, ↓gp_top, ↓cl_0, ↓cl_e, ↓cl_v, ↓nxt_nx, ↓nxt_rt, ↓nxt_bk, ↓nxt_ct, ↓sa_0, ↓sa_s, ↓rg1_i, ↓rg2_i, ↓itm_l, ↓itm_t, ↓itm_o, ↓fin_rt, ↓fin_nx, ↓lpk_nx, ↓lpk_ct, ↓lpk_bk, ↓lpk_rt, ↓wcl_nil, ↓wf_nil,
  ↓w_enum, ↓w_zip, ↓enm_l, ↓enm_o, ↓zp_ll, ↓zp_lo, ↓zp_ol, ↓zp_oo, ↓zp_tt, ↓p_isLTi, ↓p_isLTn, ↓p_isSi, ↓p_isBn, ↓p_extend, p_extendS, p_appendS, List.isEmpty_nil, ↓w_dicO, ↓dicO_list, zip_cc, zip_nn, ↓at_0, ↓at_1, ↓at_2, ↓at_3, ↓at_4, p_insertS, ↓p_mulO, ↓p_repB, ↓p_rep0, ↓p_rep1, ↓w_while, ↓p_insert, ↓at_last, ↓put_last, ↓p_inl, ↓p_inL, ↓p_ninl, ↓p_ninL, ↓p_eqP0, ↓p_neP0, ↓p_neA, ↓p_eq00, ↓p_ne00, ↓p_ixp0, ↓p_ixp1, ↓w_gTp, ↓p_isLTb, ↓p_isLTs, ↓p_isIb, ↓p_isBb, ↓p_isSb, ↓p_isLb, ↓p_isTb, ↓p_isIs, ↓p_isBs, ↓p_isSs, ↓p_isLs, ↓p_isTs, ↓p_isLi, ↓p_isTi, ↓p_isLn, ↓p_isTn, ↓p_isSn, ↓p_isNb, ↓p_isNs, ↓p_isNt, ↓p_isNl, ↓p_isNp, ↓p_eqTT, ↓p_eqTF, ↓p_eqFT, ↓p_eqFF, ↓p_neTT, ↓p_neTF, ↓p_neFT, ↓p_neFF, ↓p_eqBs, ↓p_eqSs, ↓p_eqIs, ↓p_lrg1, ↓p_lrg2, ↓p_maxL, ↓p_maxl, ↓p_minL, ↓p_minl, ↓w_getE, ↓w_emptyK, ↓w_emptyT, ↓p_dixi, ↓p_dixs, ↓p_dini, ↓p_dins, ↓p_dgi, ↓p_dgs, ↓p_dputi, ↓p_dputs, ↓p_extA, ↓p_extAl, p_extAS, p_extASl, ↓w_bor, fl_b, fl_i, fl_n, fl_s, ↓w_enumA, ↓enma_l, ↓enma_t, ↓enma_o, eq_self, ↓w_strM, ↓sv_s, ↓p_eqS, ↓p_neS, ↓p_isTp, ↓p_lenp, ↓itm_p, ↓p_neBs, line_racks, racks_line, ↓p_sub, ↓p_add, ↓p_ipadd, ↓p_mul, ↓p_div, ↓p_mod, ↓p_pow, ↓p_neg, ↓p_eq, ↓p_ne, ↓p_lt, ↓p_gt, ↓p_le, ↓p_ge, ↓p_max, ↓p_min, ↓p_abs, ↓p_intI, ↓p_intB, ↓p_isaI, ↓p_isaB, ↓p_isaNI, ↓p_isNI, ↓p_isNN, ↓p_isNo, ↓p_eqo, ↓p_neo, ↓p_divmod, ↓p_catL, ↓p_catLl, ↓p_catlL, ↓p_catll, ↓p_len, ↓p_lenl, ↓p_lent, ↓p_list, ↓p_listl, ↓p_listt, ↓p_tuple, ↓p_tuplel, ↓p_tuplet, ↓p_rev, ↓p_revl, ↓p_ix, ↓p_ixl, ↓p_ixt, ↓p_append, ↓p_reverse, ↓p_sum, ↓p_suml, ↓p_any, ↓p_all, ↓p_eqLL, ↓p_eqLl, ↓p_eqlL, ↓p_eqll, ↓p_eqL0, ↓p_eql0, ↓p_neLL, ↓p_neLl, ↓p_nelL, ↓p_nell, ↓p_neL0, ↓p_nel0,
  ↓gp_cells, ↓gp_turn, ↓put_turn, ↓put_cells, ↓putP_top, wipeE, lv_0, lv_s,
  List.set_cons_zero, List.set_cons_succ, List.length_cons, List.length_nil, List.map_cons, List.map_nil, finR, List.replicate, List.replicate_succ, List.replicate_zero, List.cons_append, List.nil_append, true_and, and_true, List.tail_cons, List.head?_cons, Option.join_some, List.contains_nil, Bool.false_eq_true, if_false, if_true, List.all_nil, and_self, Int.reduceToNat, Int.reducePow, Nat.reduceSub, Nat.reduceAdd, Int.reduceAdd, Int.reduceMul, Int.reduceSub, Int.reduceNeg, Int.reduceLT, Int.reduceLE, Int.natAbs, Nat.reduceLT, Nat.reduceLeDiff, Nat.reducePow])
local macro_rules | `(tactic| walk_at "mv1") => `(tactic| try simp only [↓ok_t, ↓ok_l, ↓nxt_nx, ↓nxt_rt, ↓w_seq, ↓fin_rt, ↓fin_nx, ↓lpk_nx, ↓lpk_ct, ↓lpk_bk, ↓lpk_rt, wipeE, List.set_cons_zero, List.set_cons_succ, true_and, and_true])
local macro_rules | `(tactic| walk_at "mvs") => `(tactic| try simp only [↓sl_0, ↓sl_s, ↓fr_leaf, ↓fr_ls, ↓ok_t, ↓ok_l, ↓nxt_nx, ↓nxt_rt, ↓w_seq, ↓fin_rt, ↓fin_nx, ↓lpk_nx, ↓lpk_ct, ↓lpk_bk, ↓lpk_rt, wipeE, List.set_cons_zero, List.set_cons_succ, true_and, and_true])
local macro_rules | `(tactic| walk_at "mvp") => `(tactic| try simp only [↓w_cst, ↓w_var, ↓w_mv, ↓w_fz, ↓w_frz, ↓w_bin, ↓w_un, ↓w_binV, ↓w_if, ↓w_asB, ↓w_yes, ↓w_not, ↓w_and, ↓w_or, ↓w_andE, ↓w_orE, ↓w_notE, ↓w_chain, ↓w_nil, ↓w_cons, ↓w_tup, ↓w_lst, ↓w_pl, ↓w_mut, ↓w_c0, ↓w_ce, ↓w_cv, ↓w_call', ↓wb_0, ↓wb_e, ↓wb_v, wb_e', ↓wo_leaf, ↓wo_ls, ↓wo_dic, ↓wo_dct, ↓wo_st, ↓wo_s, own_0, own_s, oi_0, oi_e, oi_v, isl_st, isl_leaf, isl_ls, Bool.not_false, Bool.not_true, List.nodup_cons, List.nodup_nil, List.not_mem_nil, not_false_eq_true, ↓w_seq, ↓w_skip, ↓w_brk, ↓w_cont, ↓w_retN, ↓w_set, ↓w_drop, ↓w_ret, ↓w_retV, ↓w_fzS, ↓w_asg, ↓w_gN, ↓w_gT, ↓w_gNl, ↓w_gCn, ↓w_gSub, ↓w_par, ↓w_aug, ↓w_int, ↓w_slice, ↓w_rng1, ↓w_rng2, ↓w_seqI, ↓w_comp, ↓w_for,
  ↓sl_0, ↓sl_s, ↓fr_leaf, ↓fr_ls, ↓ok_t, ↓ok_l, ↓br_t, ↓br_f, decide_true, decide_false, Int.reduceEq, ↓bl_b, ↓il_b, ↓le_l, ↓gp_top, ↓cl_0, ↓cl_e, ↓cl_v, ↓nxt_nx, ↓nxt_rt, ↓nxt_bk, ↓nxt_ct, ↓sa_0, ↓sa_s, ↓rg1_i, ↓rg2_i, ↓itm_l, ↓itm_t, ↓itm_o, ↓fin_rt, ↓fin_nx, ↓lpk_nx, ↓lpk_ct, ↓lpk_bk, ↓lpk_rt, ↓wcl_nil, ↓wf_nil,
  ↓w_enum, ↓w_zip, ↓enm_l, ↓enm_o, ↓zp_ll, ↓zp_lo, ↓zp_ol, ↓zp_oo, ↓zp_tt, ↓p_isLTi, ↓p_isLTn, ↓p_isSi, ↓p_isBn, ↓p_extend, p_extendS, p_appendS, List.isEmpty_nil, ↓w_dicO, ↓dicO_list, zip_cc, zip_nn, ↓at_0, ↓at_1, ↓at_2, ↓at_3, ↓at_4, p_insertS, ↓p_mulO, ↓p_repB, ↓p_rep0, ↓p_rep1, ↓w_while, ↓p_insert, ↓at_last, ↓put_last, ↓p_inl, ↓p_inL, ↓p_ninl, ↓p_ninL, ↓p_eqP0, ↓p_neP0, ↓p_neA, ↓p_eq00, ↓p_ne00, ↓p_ixp0, ↓p_ixp1, ↓w_gTp, ↓p_isLTb, ↓p_isLTs, ↓p_isIb, ↓p_isBb, ↓p_isSb, ↓p_isLb, ↓p_isTb, ↓p_isIs, ↓p_isBs, ↓p_isSs, ↓p_isLs, ↓p_isTs, ↓p_isLi, ↓p_isTi, ↓p_isLn, ↓p_isTn, ↓p_isSn, ↓p_isNb, ↓p_isNs, ↓p_isNt, ↓p_isNl, ↓p_isNp, ↓p_eqTT, ↓p_eqTF, ↓p_eqFT, ↓p_eqFF, ↓p_neTT, ↓p_neTF, ↓p_neFT, ↓p_neFF, ↓p_eqBs, ↓p_eqSs, ↓p_eqIs, ↓p_lrg1, ↓p_lrg2, ↓p_maxL, ↓p_maxl, ↓p_minL, ↓p_minl, ↓w_getE, ↓w_emptyK, ↓w_emptyT, ↓p_dixi, ↓p_dixs, ↓p_dini, ↓p_dins, ↓p_dgi, ↓p_dgs, ↓p_dputi, ↓p_dputs, ↓p_extA, ↓p_extAl, p_extAS, p_extASl, ↓w_bor, fl_b, fl_i, fl_n, fl_s, ↓w_enumA, ↓enma_l, ↓enma_t, ↓enma_o, eq_self, ↓w_strM, ↓sv_s, ↓p_eqS, ↓p_neS, ↓p_isTp, ↓p_lenp, ↓itm_p, ↓p_neBs, line_racks, racks_line, ↓p_sub, ↓p_add, ↓p_ipadd, ↓p_mul, ↓p_div, ↓p_mod, ↓p_pow, ↓p_neg, ↓p_eq, ↓p_ne, ↓p_lt, ↓p_gt, ↓p_le, ↓p_ge, ↓p_max, ↓p_min, ↓p_abs, ↓p_intI, ↓p_intB, ↓p_isaI, ↓p_isaB, ↓p_isaNI, ↓p_isNI, ↓p_isNN, ↓p_isNo, ↓p_eqo, ↓p_neo, ↓p_divmod, ↓p_catL, ↓p_catLl, ↓p_catlL, ↓p_catll, ↓p_len, ↓p_lenl, ↓p_lent, ↓p_list, ↓p_listl, ↓p_listt, ↓p_tuple, ↓p_tuplel, ↓p_tuplet, ↓p_rev, ↓p_revl, ↓p_ix, ↓p_ixl, ↓p_ixt, ↓p_append, ↓p_reverse, ↓p_sum, ↓p_suml, ↓p_any, ↓p_all, ↓p_eqLL, ↓p_eqLl, ↓p_eqlL, ↓p_eqll, ↓p_eqL0, ↓p_eql0, ↓p_neLL, ↓p_neLl, ↓p_nelL, ↓p_nell, ↓p_neL0, ↓p_nel0,
  ↓gp_cells, ↓gp_turn, ↓put_turn, ↓put_cells, ↓putP_top, wipeE, lv_0, lv_s,
  List.set_cons_zero, List.set_cons_succ, List.length_cons, List.length_nil, List.map_cons, List.map_nil, finR, List.replicate, List.replicate_succ, List.replicate_zero, List.cons_append, List.nil_append, true_and, and_true, List.tail_cons, List.head?_cons, Option.join_some, List.contains_nil, Bool.false_eq_true, if_false, if_true, List.all_nil, and_self, Int.reduceToNat, Int.reducePow, Nat.reduceSub, Nat.reduceAdd, Int.reduceAdd, Int.reduceMul, Int.reduceSub, Int.reduceNeg, Int.reduceLT, Int.reduceLE, Int.natAbs, Nat.reduceLT, Nat.reduceLeDiff, Nat.reducePow])
/-! ### equality, general -/
section
variable {Q : O → Prop}
theorem eq0E {neg : Bool} {a b : O} {ts : List D} {n : Nat} (ha : a.frz = some (.list ts)) (hb : b.frz = some (.list [])) (hn : n ≤ 49) (hz : ∀ t ∈ ts, okz n t = true) : Op2 (vw2 (eqI neg)) a b Q ↔ Q (.leaf (.bool (decide (ts = []) != neg))) := by
  have h : ts.all (okd 49) = true := List.all_eq_true.mpr fun t ht => okd_le hn (okz_okd (hz t ht))
  rw [vw2_of ha hb (eqI_nil h) rfl]
  cases ts <;> simp
theorem at_end {ts : List D} {t : D} {P : D → Prop} (h : ts.getLast? = some t) (k : P t) : At ts (-1) P := by
  obtain ⟨ys, rfl⟩ := List.getLast?_eq_some_iff.mp h
  exact at_last.mpr k
end
/-! ### packings: mark, first, last -/
structure Pa where
  k : Str
  f : Int
  l : Int
def paT (p : Pa) : D := .tuple [.str p.k, .int p.f, .int p.l]
def paN (p : Pa) : Int := p.l - p.f + 1
def paSum : List Pa → Int
  | [] => 0
  | p :: r => paN p + paSum r
def GoodPa (B : Int) (p : Pa) : Prop := 0 ≤ p.f ∧ p.f ≤ p.l ∧ p.l ≤ B
def plR : List Pa → Int → List (Pa × Int)
  | [], _ => []
  | p :: r, b => (p, b) :: plR r (b + paN p)
def plT (q : Pa × Int) : D := .tuple [.str q.1.k, .int q.1.f, .int q.1.l, .int q.2]
def lowP (sz c : Int) (q : Pa × Int) : Int := max q.1.f (q.1.f + c * sz - q.2)
def highP (sz c : Int) (q : Pa × Int) : Int := min q.1.l (q.1.f + c * sz + sz - 1 - q.2)
def inC (sz c : Int) (q : Pa × Int) : Bool := decide (lowP sz c q ≤ highP sz c q)
def ptC (sz c : Int) (q : Pa × Int) : Pa := ⟨q.1.k, lowP sz c q, highP sz c q⟩
def tinsIn (sz c : Int) (qs : List (Pa × Int)) : List Pa := (qs.filter (inC sz c)).map (ptC sz c)
theorem tinsIn_cons {sz c : Int} {q : Pa × Int} {r : List (Pa × Int)} : tinsIn sz c (q :: r) = if inC sz c q = true then ptC sz c q :: tinsIn sz c r else tinsIn sz c r := by
  unfold tinsIn
  rw [List.filter_cons]
  split <;> rfl
theorem plR_len : ∀ {ps : List Pa} {b : Int}, (plR ps b).length = ps.length
  | [], _ => rfl
  | p :: r, b => by rw [plR, List.length_cons, List.length_cons, plR_len]
theorem tinsIn_len {sz c : Int} {qs : List (Pa × Int)} : (tinsIn sz c qs).length ≤ qs.length := by
  unfold tinsIn
  rw [List.length_map]
  exact List.length_filter_le _ _
theorem paSum_nn {B : Int} : ∀ {ps : List Pa}, (∀ p ∈ ps, GoodPa B p) → 0 ≤ paSum ps
  | [], _ => Int.le_refl _
  | p :: r, h => by
    have h1 := h p List.mem_cons_self
    have h2 := paSum_nn (ps := r) fun q hq => h q (List.mem_cons_of_mem _ hq)
    unfold GoodPa at h1
    unfold paSum paN
    omega
theorem paSum_le {B : Int} : ∀ {ps : List Pa}, (∀ p ∈ ps, GoodPa B p) → paSum ps ≤ (B + 1) * ps.length
  | [], _ => by simp [paSum]
  | p :: r, h => by
    have h1 := h p List.mem_cons_self
    have h2 := paSum_le (ps := r) fun q hq => h q (List.mem_cons_of_mem _ hq)
    unfold GoodPa at h1
    rw [List.length_cons]
    have e : (B + 1) * ((r.length + 1 : Nat) : Int) = (B + 1) * (r.length : Int) + (B + 1) := by rw [Int.natCast_add, Int.mul_add]; simp
    rw [e]
    unfold paSum paN
    omega
theorem plR_mem : ∀ {ps : List Pa} {b : Int} {q : Pa × Int} {B : Int}, (∀ p ∈ ps, GoodPa B p) → q ∈ plR ps b → q.1 ∈ ps ∧ b ≤ q.2 ∧ q.2 + paN q.1 ≤ b + paSum ps
  | [], _, _, _, _, h => by cases h
  | p :: r, b, q, B, hg, h => by
    rw [plR] at h
    have h1 := hg p List.mem_cons_self
    have hr : ∀ p ∈ r, GoodPa B p := fun q hq => hg q (List.mem_cons_of_mem _ hq)
    have h2 := paSum_nn hr
    unfold GoodPa at h1
    rcases List.mem_cons.mp h with rfl | h
    · refine ⟨List.mem_cons_self, Int.le_refl _, ?_⟩
      unfold paSum
      simp only
      omega
    · obtain ⟨k1, k2, k3⟩ := plR_mem hr h
      refine ⟨List.mem_cons_of_mem _ k1, ?_, ?_⟩
      · unfold paN at k2; omega
      · unfold paSum; omega
/-- a case holds tins when it stands below the number of cases -/
theorem tinsIn_nil {sz c B : Int} (hs : 0 < sz) : ∀ {ps : List Pa} {b : Int}, (∀ p ∈ ps, GoodPa B p) → b ≤ c * sz → (tinsIn sz c (plR ps b) = [] ↔ b + paSum ps ≤ c * sz)
  | [], b, _, hb => by
    constructor
    · intro _
      unfold paSum
      omega
    · intro _
      rfl
  | p :: r, b, hg, hb => by
    have h1 := hg p List.mem_cons_self
    have hr : ∀ p ∈ r, GoodPa B p := fun q hq => hg q (List.mem_cons_of_mem _ hq)
    have h2 := paSum_nn hr
    unfold GoodPa at h1
    rw [plR, tinsIn_cons, paSum]
    by_cases hc : c * sz < b + paN p
    · have : inC sz c (p, b) = true := by
        unfold inC lowP highP
        unfold paN at hc
        simp only [decide_eq_true_eq]
        generalize c * sz = z at *
        omega
      rw [if_pos this]
      constructor
      · intro z
        cases z
      · intro z
        omega
    · have : ¬inC sz c (p, b) = true := by
        unfold inC lowP highP
        unfold paN at hc
        simp only [decide_eq_true_eq]
        generalize c * sz = z at *
        omega
      rw [if_neg this, tinsIn_nil hs hr (by omega)]
      constructor <;> intro z <;> omega
theorem ceil_le {t sz c : Int} (hs : 0 < sz) : (t + sz - 1) / sz ≤ c ↔ t ≤ c * sz := by
  have h1 : (t + sz - 1) / sz < c + 1 ↔ t + sz - 1 < (c + 1) * sz := Int.ediv_lt_iff_lt_mul hs
  rw [← Int.lt_add_one_iff, h1, Int.add_mul, Int.one_mul]
  omega
/-! numbers between -/
theorem rgI_nil {a b : Int} (h : b ≤ a) : rgI a b = [] := by
  unfold rgI
  rw [show (b - a).toNat = 0 by omega]
  rfl
theorem rgI_cons {a b : Int} (h : a < b) : rgI a b = a :: rgI (a + 1) b := by
  unfold rgI
  have e : (b - a).toNat = (b - (a + 1)).toNat + 1 := by omega
  rw [e, List.range_succ_eq_map, List.map_cons, List.map_map]
  congr 1
  · simp
  · apply List.map_congr_left
    intro i _
    simp only [Function.comp]
    omega
theorem rgI_last {a b : Int} (h : a < b) : (rgI a b).getLast? = some (b - 1) := by
  unfold rgI
  have e : (b - a).toNat = (b - a - 1).toNat + 1 := by omega
  rw [e, List.range_succ, List.map_append, List.getLast?_append]
  simp
  omega
theorem rgI_filter {lo hi : Int} : ∀ {n : Nat} {a b : Int}, (b - a).toNat = n → (rgI a b).filter (fun x => decide (lo ≤ x ∧ x ≤ hi)) = rgI (max a lo) (min (b - 1) hi + 1)
  | 0, a, b, e => by
    rw [rgI_nil (by omega), rgI_nil (by omega)]
    rfl
  | n + 1, a, b, e => by
    rw [rgI_cons (by omega), List.filter_cons, rgI_filter (n := n) (a := a + 1) (b := b) (by omega)]
    by_cases h : lo ≤ a ∧ a ≤ hi
    · rw [if_pos (by simpa using h)]
      rw [show max (a + 1) lo = a + 1 by omega, show max a lo = a by omega, ← rgI_cons (by omega)]
    · rw [if_neg (by simpa using h)]
      by_cases h2 : a < lo
      · rw [show max (a + 1) lo = max a lo by omega]
      · rw [rgI_nil (a := max (a + 1) lo) (by omega), rgI_nil (a := max a lo) (by omega)]
theorem rgI_range {a b : Int} : rangeD a (b - a).toNat = (rgI a b).map .int := by
  rw [range_ints]
  rfl
theorem ediv_is {x sz c : Int} (hs : 0 < sz) : x / sz = c ↔ c * sz ≤ x ∧ x < c * sz + sz := by
  have h1 : c ≤ x / sz ↔ c * sz ≤ x := Int.le_ediv_iff_mul_le hs
  have h2 : x / sz < c + 1 ↔ x < (c + 1) * sz := Int.ediv_lt_iff_lt_mul hs
  rw [Int.add_mul, Int.one_mul] at h2
  constructor
  · intro e
    exact ⟨h1.mp (by omega), h2.mp (by omega)⟩
  · rintro ⟨k1, k2⟩
    have := h1.mpr k1
    have := h2.mpr k2
    omega
/-- the tins of a part that lie in the case -/
theorem part_in {sz c b : Int} {p : Pa} (hs : 0 < sz) : (rgI p.f (p.l + 1)).filter (fun x => decide ((b + x - p.f) / sz = c)) = rgI (lowP sz c (p, b)) (highP sz c (p, b) + 1) := by
  have e : (fun x => decide ((b + x - p.f) / sz = c)) = fun x : Int => decide (p.f + c * sz - b ≤ x ∧ x ≤ p.f + c * sz + sz - 1 - b) := by
    funext x
    rw [decide_eq_decide, ediv_is hs]
    constructor <;> intro h <;> omega
  rw [e, rgI_filter rfl]
  unfold lowP highP
  simp only [Int.add_sub_cancel]
/-! a packing as it is handed -/
def HPk (t : D) (nm : Str) (sz : Int) (ps : List Pa) : Prop := ∃ o, t = .tuple [.str nm, .int sz, o] ∧ (o = .list (ps.map paT) ∨ o = .tuple (ps.map paT))
def encPk (nm : Str) (sz : Int) (ps : List Pa) : D := .tuple [.str nm, .int sz, .list (ps.map paT)]
theorem hpk_enc {nm : Str} {sz : Int} {ps : List Pa} : HPk (encPk nm sz ps) nm sz ps := ⟨_, rfl, .inl rfl⟩
theorem smz_paT {n : Nat} {p : Pa} : smz (n + 1) (paT p) = true := by
  rw [paT, smz_tuple]
  refine ⟨by simp, fun t ht => ?_⟩
  simp only [List.mem_cons, List.not_mem_nil, or_false] at ht
  rcases ht with rfl | rfl | rfl
  · exact smz_str
  · exact smz_int
  · exact smz_int
theorem smz_pas {n : Nat} {ps : List Pa} (h : ps.length ≤ 1000000) : smz (n + 2) (.list (ps.map paT)) = true := by
  rw [smz_list]
  refine ⟨by rw [List.length_map]; exact h, fun t ht => ?_⟩
  obtain ⟨p, _, rfl⟩ := List.mem_map.mp ht
  exact smz_paT
theorem paT_snoc {ps : List Pa} {m : Str} {i j : Int} : ps.map paT ++ [PyData.tuple [.str m, .int i, .int j]] = (ps ++ [(⟨m, i, j⟩ : Pa)]).map paT := by
  rw [List.map_append]
  rfl
theorem plT_snoc {qs : List (Pa × Int)} {p : Pa} {b : Int} : qs.map plT ++ [PyData.tuple [.str p.k, .int p.f, .int p.l, .int b]] = (qs ++ [(p, b)]).map plT := by
  rw [List.map_append]
  rfl
theorem paSum_eq : ∀ {ps : List Pa}, paSum ps = (ps.map paN).sum
  | [] => rfl
  | p :: r => by rw [paSum, List.map_cons, List.sum_cons, paSum_eq]
theorem paSum_app : ∀ {ps qs : List Pa}, paSum (ps ++ qs) = paSum ps + paSum qs
  | [], qs => by rw [List.nil_append, paSum]; omega
  | p :: r, qs => by rw [List.cons_append, paSum, paSum, paSum_app]; omega

end Mv

set_option Elab.async false
set_option linter.all false
set_option maxRecDepth 100000
set_option maxHeartbeats 4000000
namespace Mv
open PySem PySem.Spec PyProof.Rows L2
local macro_rules | `(tactic| walk_at "mv") => `(tactic| try simp only [↓w_cst, ↓w_var, ↓w_mv, ↓w_fz, ↓w_frz, ↓w_bin, ↓w_un, ↓w_binV, ↓w_if, ↓w_asB, ↓w_yes, ↓w_not, ↓w_and, ↓w_or, ↓w_andE, ↓w_orE, ↓w_notE, ↓w_chain, ↓w_nil, ↓w_cons, ↓w_tup, ↓w_lst, ↓w_pl, ↓w_mut, ↓w_c0, ↓w_ce, ↓w_cv, ↓w_call', ↓wb_0, ↓wb_e, ↓wb_v, wb_e', ↓wo_leaf, ↓wo_ls, ↓wo_dic, ↓wo_dct, ↓wo_st, ↓wo_s, own_0, own_s, oi_0, oi_e, oi_v, isl_st, isl_leaf, isl_ls, Bool.not_false, Bool.not_true, List.nodup_cons, List.nodup_nil, List.not_mem_nil, not_false_eq_true, ↓w_seq, ↓w_skip, ↓w_brk, ↓w_cont, ↓w_retN, ↓w_set, ↓w_drop, ↓w_ret, ↓w_retV, ↓w_ifS, ↓w_fzS, ↓w_asg, ↓w_gN, ↓w_gT, ↓w_gNl, ↓w_gCn, ↓w_gSub, ↓w_par, ↓w_aug, ↓w_int, ↓w_slice, ↓w_rng1, ↓w_rng2, ↓w_seqI, ↓w_comp, ↓w_for,
  ↓sl_0, ↓sl_s, ↓fr_leaf, ↓fr_ls, ↓ok_t, ↓ok_l, ↓br_t, ↓br_f, decide_true, decide_false, Int.reduceEq, ↓bl_b, ↓il_b, ↓le_l, ↓gp_top, ↓cl_0, ↓cl_e, ↓cl_v, ↓nxt_nx, ↓nxt_rt, ↓nxt_bk, ↓nxt_ct, ↓sa_0, ↓sa_s, ↓rg1_i, ↓rg2_i, ↓itm_l, ↓itm_t, ↓itm_o, ↓fin_rt, ↓fin_nx, ↓lpk_nx, ↓lpk_ct, ↓lpk_bk, ↓lpk_rt, ↓wcl_nil, ↓wf_nil,
  ↓w_enum, ↓w_zip, ↓enm_l, ↓enm_o, ↓zp_ll, ↓zp_lo, ↓zp_ol, ↓zp_oo, ↓zp_tt, ↓p_isLTi, ↓p_isLTn, ↓p_isSi, ↓p_isBn, ↓p_extend, p_extendS, p_appendS, List.isEmpty_nil, ↓w_dicO, ↓dicO_list, zip_cc, zip_nn, ↓at_0, ↓at_1, ↓at_2, ↓at_3, ↓at_4, p_insertS, ↓p_mulO, ↓p_repB, ↓p_rep0, ↓p_rep1, ↓w_while, ↓p_insert, ↓at_last, ↓put_last, ↓p_inl, ↓p_inL, ↓p_ninl, ↓p_ninL, ↓p_eqP0, ↓p_neP0, ↓p_neA, ↓p_eq00, ↓p_ne00, ↓p_ixp0, ↓p_ixp1, ↓w_gTp, ↓p_isLTb, ↓p_isLTs, ↓p_isIb, ↓p_isBb, ↓p_isSb, ↓p_isLb, ↓p_isTb, ↓p_isIs, ↓p_isBs, ↓p_isSs, ↓p_isLs, ↓p_isTs, ↓p_isLi, ↓p_isTi, ↓p_isLn, ↓p_isTn, ↓p_isSn, ↓p_isNb, ↓p_isNs, ↓p_isNt, ↓p_isNl, ↓p_isNp, ↓p_eqTT, ↓p_eqTF, ↓p_eqFT, ↓p_eqFF, ↓p_neTT, ↓p_neTF, ↓p_neFT, ↓p_neFF, ↓p_eqBs, ↓p_eqSs, ↓p_eqIs, ↓p_lrg1, ↓p_lrg2, ↓p_maxL, ↓p_maxl, ↓p_minL, ↓p_minl, ↓w_getE, ↓w_emptyK, ↓w_emptyT, ↓p_dixi, ↓p_dixs, ↓p_dini, ↓p_dins, ↓p_dgi, ↓p_dgs, ↓p_dputi, ↓p_dputs, ↓p_extA, ↓p_extAl, p_extAS, p_extASl, ↓w_bor, fl_b, fl_i, fl_n, fl_s, ↓w_enumA, ↓enma_l, ↓enma_t, ↓enma_o, eq_self, ↓w_strM, ↓sv_s, ↓p_eqS, ↓p_neS, ↓p_isTp, ↓p_lenp, ↓itm_p, ↓p_neBs, line_racks, racks_line, ↓p_sub, ↓p_add, ↓p_ipadd, ↓p_mul, ↓p_div, ↓p_mod, ↓p_pow, ↓p_neg, ↓p_eq, ↓p_ne, ↓p_lt, ↓p_gt, ↓p_le, ↓p_ge, ↓p_max, ↓p_min, ↓p_abs, ↓p_intI, ↓p_intB, ↓p_isaI, ↓p_isaB, ↓p_isaNI, ↓p_isNI, ↓p_isNN, ↓p_isNo, ↓p_eqo, ↓p_neo, ↓p_divmod, ↓p_catL, ↓p_catLl, ↓p_catlL, ↓p_catll, ↓p_len, ↓p_lenl, ↓p_lent, ↓p_list, ↓p_listl, ↓p_listt, ↓p_tuple, ↓p_tuplel, ↓p_tuplet, ↓p_rev, ↓p_revl, ↓p_ix, ↓p_ixl, ↓p_ixt, ↓p_append, ↓p_reverse, ↓p_sum, ↓p_suml, ↓p_any, ↓p_all, ↓p_eqLL, ↓p_eqLl, ↓p_eqlL, ↓p_eqll, ↓p_eqL0, ↓p_eql0, ↓p_neLL, ↓p_neLl, ↓p_nelL, ↓p_nell, ↓p_neL0, ↓p_nel0,
  ↓gp_cells, ↓gp_turn, ↓put_turn, ↓put_cells, ↓putP_top, wipeE, lv_0, lv_s,
  List.set_cons_zero, List.set_cons_succ, List.length_cons, List.length_nil, List.map_cons, List.map_nil, finR, List.replicate, List.replicate_succ, List.replicate_zero, List.cons_append, List.nil_append, true_and, and_true, List.tail_cons, List.head?_cons, Option.join_some, List.contains_nil, Bool.false_eq_true, if_false, if_true, List.all_nil, and_self, Int.reduceToNat, Int.reducePow, Nat.reduceSub, Nat.reduceAdd, Int.reduceAdd, Int.reduceMul, Int.reduceSub, Int.reduceNeg, Int.reduceLT, Int.reduceLE, Int.natAbs, Nat.reduceLT, Nat.reduceLeDiff, Nat.reducePow])
local macro_rules | `(tactic| walk_at "mv1") => `(tactic| try simp only [↓ok_t, ↓ok_l, ↓nxt_nx, ↓nxt_rt, ↓w_seq, ↓fin_rt, ↓fin_nx, ↓lpk_nx, ↓lpk_ct, ↓lpk_bk, ↓lpk_rt, wipeE, List.set_cons_zero, List.set_cons_succ, true_and, and_true])
local macro_rules | `(tactic| walk_at "mvs") => `(tactic| try simp only [↓sl_0, ↓sl_s, ↓fr_leaf, ↓fr_ls, ↓ok_t, ↓ok_l, ↓nxt_nx, ↓nxt_rt, ↓w_seq, ↓fin_rt, ↓fin_nx, ↓lpk_nx, ↓lpk_ct, ↓lpk_bk, ↓lpk_rt, wipeE, List.set_cons_zero, List.set_cons_succ, true_and, and_true])
local macro_rules | `(tactic| walk_at "mvp") => `(tactic| try simp only [↓w_cst, ↓w_var, ↓w_mv, ↓w_fz, ↓w_frz, ↓w_bin, ↓w_un, ↓w_binV, ↓w_if, ↓w_asB, ↓w_yes, ↓w_not, ↓w_and, ↓w_or, ↓w_andE, ↓w_orE, ↓w_notE, ↓w_chain, ↓w_nil, ↓w_cons, ↓w_tup, ↓w_lst, ↓w_pl, ↓w_mut, ↓w_c0, ↓w_ce, ↓w_cv, ↓w_call', ↓wb_0, ↓wb_e, ↓wb_v, wb_e', ↓wo_leaf, ↓wo_ls, ↓wo_dic, ↓wo_dct, ↓wo_st, ↓wo_s, own_0, own_s, oi_0, oi_e, oi_v, isl_st, isl_leaf, isl_ls, Bool.not_false, Bool.not_true, List.nodup_cons, List.nodup_nil, List.not_mem_nil, not_false_eq_true, ↓w_seq, ↓w_skip, ↓w_brk, ↓w_cont, ↓w_retN, ↓w_set, ↓w_drop, ↓w_ret, ↓w_retV, ↓w_fzS, ↓w_asg, ↓w_gN, ↓w_gT, ↓w_gNl, ↓w_gCn, ↓w_gSub, ↓w_par, ↓w_aug, ↓w_int, ↓w_slice, ↓w_rng1, ↓w_rng2, ↓w_seqI, ↓w_comp, ↓w_for,
  ↓sl_0, ↓sl_s, ↓fr_leaf, ↓fr_ls, ↓ok_t, ↓ok_l, ↓br_t, ↓br_f, decide_true, decide_false, Int.reduceEq, ↓bl_b, ↓il_b, ↓le_l, ↓gp_top, ↓cl_0, ↓cl_e, ↓cl_v, ↓nxt_nx, ↓nxt_rt, ↓nxt_bk, ↓nxt_ct, ↓sa_0, ↓sa_s, ↓rg1_i, ↓rg2_i, ↓itm_l, ↓itm_t, ↓itm_o, ↓fin_rt, ↓fin_nx, ↓lpk_nx, ↓lpk_ct, ↓lpk_bk, ↓lpk_rt, ↓wcl_nil, ↓wf_nil,
  ↓w_enum, ↓w_zip, ↓enm_l, ↓enm_o, ↓zp_ll, ↓zp_lo, ↓zp_ol, ↓zp_oo, ↓zp_tt, ↓p_isLTi, ↓p_isLTn, ↓p_isSi, ↓p_isBn, ↓p_extend, p_extendS, p_appendS, List.isEmpty_nil, ↓w_dicO, ↓dicO_list, zip_cc, zip_nn, ↓at_0, ↓at_1, ↓at_2, ↓at_3, ↓at_4, p_insertS, ↓p_mulO, ↓p_repB, ↓p_rep0, ↓p_rep1, ↓w_while, ↓p_insert, ↓at_last, ↓put_last, ↓p_inl, ↓p_inL, ↓p_ninl, ↓p_ninL, ↓p_eqP0, ↓p_neP0, ↓p_neA, ↓p_eq00, ↓p_ne00, ↓p_ixp0, ↓p_ixp1, ↓w_gTp, ↓p_isLTb, ↓p_isLTs, ↓p_isIb, ↓p_isBb, ↓p_isSb, ↓p_isLb, ↓p_isTb, ↓p_isIs, ↓p_isBs, ↓p_isSs, ↓p_isLs, ↓p_isTs, ↓p_isLi, ↓p_isTi, ↓p_isLn, ↓p_isTn, ↓p_isSn, ↓p_isNb, ↓p_isNs, ↓p_isNt, ↓p_isNl, ↓p_isNp, ↓p_eqTT, ↓p_eqTF, ↓p_eqFT, ↓p_eqFF, ↓p_neTT, ↓p_neTF, ↓p_neFT, ↓p_neFF, ↓p_eqBs, ↓p_eqSs, ↓p_eqIs, ↓p_lrg1, ↓p_lrg2, ↓p_maxL, ↓p_maxl, ↓p_minL, ↓p_minl, ↓w_getE, ↓w_emptyK, ↓w_emptyT, ↓p_dixi, ↓p_dixs, ↓p_dini, ↓p_dins, ↓p_dgi, ↓p_dgs, ↓p_dputi, ↓p_dputs, ↓p_extA, ↓p_extAl, p_extAS, p_extASl, ↓w_bor, fl_b, fl_i, fl_n, fl_s, ↓w_enumA, ↓enma_l, ↓enma_t, ↓enma_o, eq_self, ↓w_strM, ↓sv_s, ↓p_eqS, ↓p_neS, ↓p_isTp, ↓p_lenp, ↓itm_p, ↓p_neBs, line_racks, racks_line, ↓p_sub, ↓p_add, ↓p_ipadd, ↓p_mul, ↓p_div, ↓p_mod, ↓p_pow, ↓p_neg, ↓p_eq, ↓p_ne, ↓p_lt, ↓p_gt, ↓p_le, ↓p_ge, ↓p_max, ↓p_min, ↓p_abs, ↓p_intI, ↓p_intB, ↓p_isaI, ↓p_isaB, ↓p_isaNI, ↓p_isNI, ↓p_isNN, ↓p_isNo, ↓p_eqo, ↓p_neo, ↓p_divmod, ↓p_catL, ↓p_catLl, ↓p_catlL, ↓p_catll, ↓p_len, ↓p_lenl, ↓p_lent, ↓p_list, ↓p_listl, ↓p_listt, ↓p_tuple, ↓p_tuplel, ↓p_tuplet, ↓p_rev, ↓p_revl, ↓p_ix, ↓p_ixl, ↓p_ixt, ↓p_append, ↓p_reverse, ↓p_sum, ↓p_suml, ↓p_any, ↓p_all, ↓p_eqLL, ↓p_eqLl, ↓p_eqlL, ↓p_eqll, ↓p_eqL0, ↓p_eql0, ↓p_neLL, ↓p_neLl, ↓p_nelL, ↓p_nell, ↓p_neL0, ↓p_nel0,
  ↓gp_cells, ↓gp_turn, ↓put_turn, ↓put_cells, ↓putP_top, wipeE, lv_0, lv_s,
  List.set_cons_zero, List.set_cons_succ, List.length_cons, List.length_nil, List.map_cons, List.map_nil, finR, List.replicate, List.replicate_succ, List.replicate_zero, List.cons_append, List.nil_append, true_and, and_true, List.tail_cons, List.head?_cons, Option.join_some, List.contains_nil, Bool.false_eq_true, if_false, if_true, List.all_nil, and_self, Int.reduceToNat, Int.reducePow, Nat.reduceSub, Nat.reduceAdd, Int.reduceAdd, Int.reduceMul, Int.reduceSub, Int.reduceNeg, Int.reduceLT, Int.reduceLE, Int.natAbs, Nat.reduceLT, Nat.reduceLeDiff, Nat.reducePow])
/-! ### words of single signs -/
def chS (c : Nat) : Str := ⟨#[c]⟩
theorem joinL_nil : ∀ {ps : List (List Nat)}, TL.joinL [] ps = ps.flatten
  | [] => rfl
  | [p] => by simp [TL.joinL]
  | p :: q :: r => by
    rw [TL.joinL, joinL_nil]
    simp
theorem join_chs {cs : List Nat} : (Str.join ⟨#[]⟩ (cs.map chS)).cps.toList = cs := by
  have h := TL.tl_join ⟨#[]⟩ (cs.map chS)
  have e : TL.tl ⟨#[]⟩ = [] := rfl
  rw [e, joinL_nil, List.map_map] at h
  have e2 : (cs.map (TL.tl ∘ chS)).flatten = cs := by
    clear h
    induction cs with
    | nil => rfl
    | cons a r ih => rw [List.map_cons, List.flatten_cons, ih]; rfl
  rw [e2] at h
  exact h
theorem jn_chs {a : Str} {cs : List Nat} {Q : D → Prop} (ha : a = ⟨#[]⟩) (h : cs.length ≤ 1000) (k : ∀ s : Str, s.cps.toList = cs → Q (.str s)) : Jn gJoin a (.ls ((cs.map chS).map .str)) Q := by
  subst ha
  unfold Jn gJoin
  have e1 : seqO (.ls ((cs.map chS).map .str)) = some ((cs.map chS).map PyData.str) := rfl
  have e2 : ((cs.map chS).map (·.length)).sum = cs.length := by
    clear k h e1
    induction cs with
    | nil => rfl
    | cons a r ih =>
      rw [List.map_cons, List.map_cons, List.sum_cons, ih, List.length_cons]
      show 1 + r.length = _
      omega
  rw [e1, Option.bind_some, strsD_map, Option.bind_some, e2]
  rw [if_pos (show cs.length + (cs.map chS).length * (Str.mk #[]).length ≤ 16777216 by
    show cs.length + (cs.map chS).length * 0 ≤ 16777216
    omega)]
  refine ⟨rfl, k _ ?_⟩
  have e3 : Txt.join ⟨#[]⟩ (cs.map chS) = Str.join ⟨#[]⟩ (cs.map chS) := PySem.StrLaws.glued_eq_join _ _
  rw [e3]
  exact join_chs
section
variable {Q : O → Prop}
theorem p_ixsE {z : Str} {i : Int} {n : Nat} (hz : z.cps.toList.length = n) (hn : n ≤ 1000000) (h : 0 ≤ i) (h2 : i < n) (k : ∀ c : Nat, z.cps.toList[i.toNat]? = some c → Q (.leaf (.str (chS c)))) : Op2 oIx (.leaf (.str z)) (.leaf (.int i)) Q := by
  unfold Op2 oIx
  have e1 : seqO (.leaf (.str z)) = none := rfl
  have e2 : z.length ≤ sizeLine := by
    have : z.length = z.cps.toList.length := by
      show z.cps.size = _
      rw [Array.length_toList]
    rw [this, hz]
    exact Nat.le_trans hn (by decide)
  have e3 : ∃ c, atI z.cps.toList i = some c ∧ z.cps.toList[i.toNat]? = some c := by
    unfold atI
    have : ixN z.cps.toList.length i = some i.toNat := by
      unfold ixN
      rw [hz]
      split <;> simp_all <;> omega
    rw [this]
    have hlt : i.toNat < z.cps.toList.length := by omega
    exact ⟨_, List.getElem?_eq_getElem hlt, List.getElem?_eq_getElem hlt⟩
  obtain ⟨c, e3, e4⟩ := e3
  simp only [e1, Option.bind_none, Option.map_none, Option.none_or, strIx, if_pos e2, e3, Option.map_some]
  exact k c e4
end
theorem set_chs {cs : List Nat} {i c : Nat} : ((cs.map chS).map PyData.str).set i (.str (chS c)) = ((cs.set i c).map chS).map .str := by rw [List.map_set, List.map_set]
/-- names that differ at one place -/
theorem word_nodup {ws : List Str} {base : List Nat} {spot : Nat} {f : Nat → Nat} (hs : spot < base.length) (h : ws.map (fun w => w.cps.toList) = (List.range ws.length).map fun k => base.set spot (f k))
    (hf : ∀ i j, i < ws.length → j < ws.length → f i = f j → i = j) : ws.Nodup := by
  have h2 : (ws.map (fun w => w.cps.toList)).Nodup := by
    rw [h]
    unfold List.Nodup
    rw [List.pairwise_map]
    refine List.Pairwise.imp_of_mem (fun {i j} hi hj hij e => ?_) List.nodup_range
    have e1 := congrArg (fun l => l[spot]?) e
    simp only [List.getElem?_set, hs, if_true] at e1
    exact hij (hf i j (List.mem_range.mp hi) (List.mem_range.mp hj) (by simpa using e1))
  unfold List.Nodup at h2 ⊢
  rw [List.pairwise_map] at h2
  exact h2.imp fun hab e => hab (by rw [e])
/-- distinct signs at distinct places -/
theorem sign_inj {l : List Nat} (hd : l.Nodup) {i j : Nat} {c : Nat} (hi : l[i]? = some c) (hj : l[j]? = some c) : i = j := by
  have h1 := (List.getElem?_eq_some_iff.mp hi)
  have h2 := (List.getElem?_eq_some_iff.mp hj)
  obtain ⟨a, ha⟩ := h1
  obtain ⟨b, hb⟩ := h2
  exact (List.getElem_inj hd).mp (ha.trans hb.symm)
theorem step26 {first step i j : Int} (hs : step = 1 ∨ step = 5 ∨ step = 7 ∨ step = 25) (h0 : 0 ≤ i) (h1 : i < 26) (h2 : 0 ≤ j) (h3 : j < 26) (e : (first + step * i) % 26 = (first + step * j) % 26) : i = j := by
  rcases hs with rfl | rfl | rfl | rfl <;> omega
theorem step36 {first step i j : Int} (hs : step = 1 ∨ step = 5 ∨ step = 7 ∨ step = 35) (h0 : 0 ≤ i) (h1 : i < 36) (h2 : 0 ≤ j) (h3 : j < 36) (e : (first + step * i) % 36 = (first + step * j) % 36) : i = j := by
  rcases hs with rfl | rfl | rfl | rfl <;> omega

end Mv

set_option Elab.async false
set_option linter.all false
set_option maxRecDepth 100000
set_option maxHeartbeats 4000000
namespace Mv
open PySem PySem.Spec PyProof.Rows L2
local macro_rules | `(tactic| walk_at "mv") => `(tactic| try simp only [↓w_cst, ↓w_var, ↓w_mv, ↓w_fz, ↓w_frz, ↓w_bin, ↓w_un, ↓w_binV, ↓w_if, ↓w_asB, ↓w_yes, ↓w_not, ↓w_and, ↓w_or, ↓w_andE, ↓w_orE, ↓w_notE, ↓w_chain, ↓w_nil, ↓w_cons, ↓w_tup, ↓w_lst, ↓w_pl, ↓w_mut, ↓w_c0, ↓w_ce, ↓w_cv, ↓w_call', ↓wb_0, ↓wb_e, ↓wb_v, wb_e', ↓wo_leaf, ↓wo_ls, ↓wo_dic, ↓wo_dct, ↓wo_st, ↓wo_s, own_0, own_s, oi_0, oi_e, oi_v, isl_st, isl_leaf, isl_ls, Bool.not_false, Bool.not_true, List.nodup_cons, List.nodup_nil, List.not_mem_nil, not_false_eq_true, ↓w_seq, ↓w_skip, ↓w_brk, ↓w_cont, ↓w_retN, ↓w_set, ↓w_drop, ↓w_ret, ↓w_retV, ↓w_ifS, ↓w_fzS, ↓w_asg, ↓w_gN, ↓w_gT, ↓w_gNl, ↓w_gCn, ↓w_gSub, ↓w_par, ↓w_aug, ↓w_int, ↓w_slice, ↓w_rng1, ↓w_rng2, ↓w_seqI, ↓w_comp, ↓w_for,
  ↓sl_0, ↓sl_s, ↓fr_leaf, ↓fr_ls, ↓ok_t, ↓ok_l, ↓br_t, ↓br_f, decide_true, decide_false, Int.reduceEq, ↓bl_b, ↓il_b, ↓le_l, ↓gp_top, ↓cl_0, ↓cl_e, ↓cl_v, ↓nxt_nx, ↓nxt_rt, ↓nxt_bk, ↓nxt_ct, ↓sa_0, ↓sa_s, ↓rg1_i, ↓rg2_i, ↓itm_l, ↓itm_t, ↓itm_o, ↓fin_rt, ↓fin_nx, ↓lpk_nx, ↓lpk_ct, ↓lpk_bk, ↓lpk_rt, ↓wcl_nil, ↓wf_nil,
  ↓w_enum, ↓w_zip, ↓enm_l, ↓enm_o, ↓zp_ll, ↓zp_lo, ↓zp_ol, ↓zp_oo, ↓zp_tt, ↓p_isLTi, ↓p_isLTn, ↓p_isSi, ↓p_isBn, ↓p_extend, p_extendS, p_appendS, List.isEmpty_nil, ↓w_dicO, ↓dicO_list, zip_cc, zip_nn, ↓at_0, ↓at_1, ↓at_2, ↓at_3, ↓at_4, p_insertS, ↓p_mulO, ↓p_repB, ↓p_rep0, ↓p_rep1, ↓w_while, ↓p_insert, ↓at_last, ↓put_last, ↓p_inl, ↓p_inL, ↓p_ninl, ↓p_ninL, ↓p_eqP0, ↓p_neP0, ↓p_neA, ↓p_eq00, ↓p_ne00, ↓p_ixp0, ↓p_ixp1, ↓w_gTp, ↓p_isLTb, ↓p_isLTs, ↓p_isIb, ↓p_isBb, ↓p_isSb, ↓p_isLb, ↓p_isTb, ↓p_isIs, ↓p_isBs, ↓p_isSs, ↓p_isLs, ↓p_isTs, ↓p_isLi, ↓p_isTi, ↓p_isLn, ↓p_isTn, ↓p_isSn, ↓p_isNb, ↓p_isNs, ↓p_isNt, ↓p_isNl, ↓p_isNp, ↓p_eqTT, ↓p_eqTF, ↓p_eqFT, ↓p_eqFF, ↓p_neTT, ↓p_neTF, ↓p_neFT, ↓p_neFF, ↓p_eqBs, ↓p_eqSs, ↓p_eqIs, ↓w_chain4, ↓p_lrg1, ↓p_lrg2, ↓p_maxL, ↓p_maxl, ↓p_minL, ↓p_minl, ↓w_getE, ↓w_emptyK, ↓w_emptyT, ↓p_dixi, ↓p_dixs, ↓p_dini, ↓p_dins, ↓p_dgi, ↓p_dgs, ↓p_dputi, ↓p_dputs, ↓p_extA, ↓p_extAl, p_extAS, p_extASl, ↓w_bor, fl_b, fl_i, fl_n, fl_s, ↓w_enumA, ↓enma_l, ↓enma_t, ↓enma_o, eq_self, ↓w_strM, ↓sv_s, ↓p_eqS, ↓p_neS, ↓p_isTp, ↓p_lenp, ↓itm_p, ↓p_neBs, line_racks, racks_line, ↓p_sub, ↓p_add, ↓p_ipadd, ↓p_mul, ↓p_div, ↓p_mod, ↓p_pow, ↓p_neg, ↓p_eq, ↓p_ne, ↓p_lt, ↓p_gt, ↓p_le, ↓p_ge, ↓p_max, ↓p_min, ↓p_abs, ↓p_intI, ↓p_intB, ↓p_isaI, ↓p_isaB, ↓p_isaNI, ↓p_isNI, ↓p_isNN, ↓p_isNo, ↓p_eqo, ↓p_neo, ↓p_divmod, ↓p_catL, ↓p_catLl, ↓p_catlL, ↓p_catll, ↓p_len, ↓p_lenl, ↓p_lent, ↓p_list, ↓p_listl, ↓p_listt, ↓p_tuple, ↓p_tuplel, ↓p_tuplet, ↓p_rev, ↓p_revl, ↓p_ix, ↓p_ixl, ↓p_ixt, ↓p_append, ↓p_reverse, ↓p_sum, ↓p_suml, ↓p_any, ↓p_all, ↓p_eqLL, ↓p_eqLl, ↓p_eqlL, ↓p_eqll, ↓p_eqL0, ↓p_eql0, ↓p_neLL, ↓p_neLl, ↓p_nelL, ↓p_nell, ↓p_neL0, ↓p_nel0,
  ↓gp_cells, ↓gp_turn, ↓put_turn, ↓put_cells, ↓putP_top, wipeE, lv_0, lv_s,
  List.set_cons_zero, List.set_cons_succ, List.length_cons, List.length_nil, List.map_cons, List.map_nil, finR, List.replicate, List.replicate_succ, List.replicate_zero, List.cons_append, List.nil_append, true_and, and_true, List.tail_cons, List.head?_cons, Option.join_some, List.contains_nil, Bool.false_eq_true, if_false, if_true, List.all_nil, and_self, Int.reduceToNat, Int.reducePow, Nat.reduceSub, Nat.reduceAdd, Int.reduceAdd, Int.reduceMul, Int.reduceSub, Int.reduceNeg, Int.reduceLT, Int.reduceLE, Int.natAbs, Nat.reduceLT, Nat.reduceLeDiff, Nat.reducePow])
local macro_rules | `(tactic| walk_at "mve") => `(tactic| try simp only [↓w_cst, ↓w_var, ↓w_mv, ↓w_fz, ↓w_frz, ↓w_bin, ↓w_un, ↓w_binV, ↓w_asB, ↓w_yes, ↓w_not, ↓w_and, ↓w_or, ↓w_andE, ↓w_orE, ↓w_notE, ↓w_chain, ↓w_nil, ↓w_cons, ↓w_tup, ↓w_lst, ↓w_pl, ↓w_mut, ↓w_c0, ↓w_ce, ↓w_cv, ↓w_call', ↓wb_0, ↓wb_e, ↓wb_v, wb_e', ↓wo_leaf, ↓wo_ls, ↓wo_dic, ↓wo_dct, ↓wo_st, ↓wo_s, own_0, own_s, oi_0, oi_e, oi_v, isl_st, isl_leaf, isl_ls, Bool.not_false, Bool.not_true, List.nodup_cons, List.nodup_nil, List.not_mem_nil, not_false_eq_true, ↓w_seq, ↓w_skip, ↓w_brk, ↓w_cont, ↓w_retN, ↓w_set, ↓w_drop, ↓w_ret, ↓w_retV, ↓w_ifS, ↓w_fzS, ↓w_asg, ↓w_gN, ↓w_gT, ↓w_gNl, ↓w_gCn, ↓w_gSub, ↓w_par, ↓w_aug, ↓w_int, ↓w_slice, ↓w_rng1, ↓w_rng2, ↓w_seqI, ↓w_comp, ↓w_for,
  ↓sl_0, ↓sl_s, ↓fr_leaf, ↓fr_ls, ↓ok_t, ↓ok_l, ↓br_t, ↓br_f, decide_true, decide_false, Int.reduceEq, ↓bl_b, ↓il_b, ↓le_l, ↓gp_top, ↓cl_0, ↓cl_e, ↓cl_v, ↓nxt_nx, ↓nxt_rt, ↓nxt_bk, ↓nxt_ct, ↓sa_0, ↓sa_s, ↓rg1_i, ↓rg2_i, ↓itm_l, ↓itm_t, ↓itm_o, ↓fin_rt, ↓fin_nx, ↓lpk_nx, ↓lpk_ct, ↓lpk_bk, ↓lpk_rt, ↓wcl_nil, ↓wf_nil,
  ↓w_enum, ↓w_zip, ↓enm_l, ↓enm_o, ↓zp_ll, ↓zp_lo, ↓zp_ol, ↓zp_oo, ↓zp_tt, ↓p_isLTi, ↓p_isLTn, ↓p_isSi, ↓p_isBn, ↓p_extend, p_extendS, p_appendS, List.isEmpty_nil, ↓w_dicO, ↓dicO_list, zip_cc, zip_nn, ↓at_0, ↓at_1, ↓at_2, ↓at_3, ↓at_4, p_insertS, ↓p_mulO, ↓p_repB, ↓p_rep0, ↓p_rep1, ↓w_while, ↓p_insert, ↓at_last, ↓put_last, ↓p_inl, ↓p_inL, ↓p_ninl, ↓p_ninL, ↓p_eqP0, ↓p_neP0, ↓p_neA, ↓p_eq00, ↓p_ne00, ↓p_ixp0, ↓p_ixp1, ↓w_gTp, ↓p_isLTb, ↓p_isLTs, ↓p_isIb, ↓p_isBb, ↓p_isSb, ↓p_isLb, ↓p_isTb, ↓p_isIs, ↓p_isBs, ↓p_isSs, ↓p_isLs, ↓p_isTs, ↓p_isLi, ↓p_isTi, ↓p_isLn, ↓p_isTn, ↓p_isSn, ↓p_isNb, ↓p_isNs, ↓p_isNt, ↓p_isNl, ↓p_isNp, ↓p_eqTT, ↓p_eqTF, ↓p_eqFT, ↓p_eqFF, ↓p_neTT, ↓p_neTF, ↓p_neFT, ↓p_neFF, ↓p_eqBs, ↓p_eqSs, ↓p_eqIs, ↓w_chain4, ↓p_lrg1, ↓p_lrg2, ↓p_maxL, ↓p_maxl, ↓p_minL, ↓p_minl, ↓w_getE, ↓w_emptyK, ↓w_emptyT, ↓p_dixi, ↓p_dixs, ↓p_dini, ↓p_dins, ↓p_dgi, ↓p_dgs, ↓p_dputi, ↓p_dputs, ↓p_extA, ↓p_extAl, p_extAS, p_extASl, ↓w_bor, fl_b, fl_i, fl_n, fl_s, ↓w_enumA, ↓enma_l, ↓enma_t, ↓enma_o, eq_self, ↓w_strM, ↓sv_s, ↓p_eqS, ↓p_neS, ↓p_isTp, ↓p_lenp, ↓itm_p, ↓p_neBs, line_racks, racks_line, ↓p_sub, ↓p_add, ↓p_ipadd, ↓p_mul, ↓p_div, ↓p_mod, ↓p_pow, ↓p_neg, ↓p_eq, ↓p_ne, ↓p_lt, ↓p_gt, ↓p_le, ↓p_ge, ↓p_max, ↓p_min, ↓p_abs, ↓p_intI, ↓p_intB, ↓p_isaI, ↓p_isaB, ↓p_isaNI, ↓p_isNI, ↓p_isNN, ↓p_isNo, ↓p_eqo, ↓p_neo, ↓p_divmod, ↓p_catL, ↓p_catLl, ↓p_catlL, ↓p_catll, ↓p_len, ↓p_lenl, ↓p_lent, ↓p_list, ↓p_listl, ↓p_listt, ↓p_tuple, ↓p_tuplel, ↓p_tuplet, ↓p_rev, ↓p_revl, ↓p_ix, ↓p_ixl, ↓p_ixt, ↓p_append, ↓p_reverse, ↓p_sum, ↓p_suml, ↓p_any, ↓p_all, ↓p_eqLL, ↓p_eqLl, ↓p_eqlL, ↓p_eqll, ↓p_eqL0, ↓p_eql0, ↓p_neLL, ↓p_neLl, ↓p_nelL, ↓p_nell, ↓p_neL0, ↓p_nel0,
  ↓gp_cells, ↓gp_turn, ↓put_turn, ↓put_cells, ↓putP_top, wipeE, lv_0, lv_s,
  List.set_cons_zero, List.set_cons_succ, List.length_cons, List.length_nil, List.map_cons, List.map_nil, finR, List.replicate, List.replicate_succ, List.replicate_zero, List.cons_append, List.nil_append, true_and, and_true, List.tail_cons, List.head?_cons, Option.join_some, List.contains_nil, Bool.false_eq_true, if_false, if_true, List.all_nil, and_self, Int.reduceToNat, Int.reducePow, Nat.reduceSub, Nat.reduceAdd, Int.reduceAdd, Int.reduceMul, Int.reduceSub, Int.reduceNeg, Int.reduceLT, Int.reduceLE, Int.natAbs, Nat.reduceLT, Nat.reduceLeDiff, Nat.reducePow])
local macro_rules | `(tactic| walk_at "mv1") => `(tactic| try simp only [↓ok_t, ↓ok_l, ↓nxt_nx, ↓nxt_rt, ↓w_seq, ↓fin_rt, ↓fin_nx, ↓lpk_nx, ↓lpk_ct, ↓lpk_bk, ↓lpk_rt, wipeE, List.set_cons_zero, List.set_cons_succ, true_and, and_true])
local macro_rules | `(tactic| walk_at "mvs") => `(tactic| try simp only [↓sl_0, ↓sl_s, ↓fr_leaf, ↓fr_ls, ↓ok_t, ↓ok_l, ↓nxt_nx, ↓nxt_rt, ↓w_seq, ↓fin_rt, ↓fin_nx, ↓lpk_nx, ↓lpk_ct, ↓lpk_bk, ↓lpk_rt, wipeE, List.set_cons_zero, List.set_cons_succ, true_and, and_true])
local macro_rules | `(tactic| walk_at "mvp") => `(tactic| try simp only [↓w_cst, ↓w_var, ↓w_mv, ↓w_fz, ↓w_frz, ↓w_bin, ↓w_un, ↓w_binV, ↓w_if, ↓w_asB, ↓w_yes, ↓w_not, ↓w_and, ↓w_or, ↓w_andE, ↓w_orE, ↓w_notE, ↓w_chain, ↓w_nil, ↓w_cons, ↓w_tup, ↓w_lst, ↓w_pl, ↓w_mut, ↓w_c0, ↓w_ce, ↓w_cv, ↓w_call', ↓wb_0, ↓wb_e, ↓wb_v, wb_e', ↓wo_leaf, ↓wo_ls, ↓wo_dic, ↓wo_dct, ↓wo_st, ↓wo_s, own_0, own_s, oi_0, oi_e, oi_v, isl_st, isl_leaf, isl_ls, Bool.not_false, Bool.not_true, List.nodup_cons, List.nodup_nil, List.not_mem_nil, not_false_eq_true, ↓w_seq, ↓w_skip, ↓w_brk, ↓w_cont, ↓w_retN, ↓w_set, ↓w_drop, ↓w_ret, ↓w_retV, ↓w_fzS, ↓w_asg, ↓w_gN, ↓w_gT, ↓w_gNl, ↓w_gCn, ↓w_gSub, ↓w_par, ↓w_aug, ↓w_int, ↓w_slice, ↓w_rng1, ↓w_rng2, ↓w_seqI, ↓w_comp, ↓w_for,
  ↓sl_0, ↓sl_s, ↓fr_leaf, ↓fr_ls, ↓ok_t, ↓ok_l, ↓br_t, ↓br_f, decide_true, decide_false, Int.reduceEq, ↓bl_b, ↓il_b, ↓le_l, ↓gp_top, ↓cl_0, ↓cl_e, ↓cl_v, ↓nxt_nx, ↓nxt_rt, ↓nxt_bk, ↓nxt_ct, ↓sa_0, ↓sa_s, ↓rg1_i, ↓rg2_i, ↓itm_l, ↓itm_t, ↓itm_o, ↓fin_rt, ↓fin_nx, ↓lpk_nx, ↓lpk_ct, ↓lpk_bk, ↓lpk_rt, ↓wcl_nil, ↓wf_nil,
  ↓w_enum, ↓w_zip, ↓enm_l, ↓enm_o, ↓zp_ll, ↓zp_lo, ↓zp_ol, ↓zp_oo, ↓zp_tt, ↓p_isLTi, ↓p_isLTn, ↓p_isSi, ↓p_isBn, ↓p_extend, p_extendS, p_appendS, List.isEmpty_nil, ↓w_dicO, ↓dicO_list, zip_cc, zip_nn, ↓at_0, ↓at_1, ↓at_2, ↓at_3, ↓at_4, p_insertS, ↓p_mulO, ↓p_repB, ↓p_rep0, ↓p_rep1, ↓w_while, ↓p_insert, ↓at_last, ↓put_last, ↓p_inl, ↓p_inL, ↓p_ninl, ↓p_ninL, ↓p_eqP0, ↓p_neP0, ↓p_neA, ↓p_eq00, ↓p_ne00, ↓p_ixp0, ↓p_ixp1, ↓w_gTp, ↓p_isLTb, ↓p_isLTs, ↓p_isIb, ↓p_isBb, ↓p_isSb, ↓p_isLb, ↓p_isTb, ↓p_isIs, ↓p_isBs, ↓p_isSs, ↓p_isLs, ↓p_isTs, ↓p_isLi, ↓p_isTi, ↓p_isLn, ↓p_isTn, ↓p_isSn, ↓p_isNb, ↓p_isNs, ↓p_isNt, ↓p_isNl, ↓p_isNp, ↓p_eqTT, ↓p_eqTF, ↓p_eqFT, ↓p_eqFF, ↓p_neTT, ↓p_neTF, ↓p_neFT, ↓p_neFF, ↓p_eqBs, ↓p_eqSs, ↓p_eqIs, ↓w_chain4, ↓p_lrg1, ↓p_lrg2, ↓p_maxL, ↓p_maxl, ↓p_minL, ↓p_minl, ↓w_getE, ↓w_emptyK, ↓w_emptyT, ↓p_dixi, ↓p_dixs, ↓p_dini, ↓p_dins, ↓p_dgi, ↓p_dgs, ↓p_dputi, ↓p_dputs, ↓p_extA, ↓p_extAl, p_extAS, p_extASl, ↓w_bor, fl_b, fl_i, fl_n, fl_s, ↓w_enumA, ↓enma_l, ↓enma_t, ↓enma_o, eq_self, ↓w_strM, ↓sv_s, ↓p_eqS, ↓p_neS, ↓p_isTp, ↓p_lenp, ↓itm_p, ↓p_neBs, line_racks, racks_line, ↓p_sub, ↓p_add, ↓p_ipadd, ↓p_mul, ↓p_div, ↓p_mod, ↓p_pow, ↓p_neg, ↓p_eq, ↓p_ne, ↓p_lt, ↓p_gt, ↓p_le, ↓p_ge, ↓p_max, ↓p_min, ↓p_abs, ↓p_intI, ↓p_intB, ↓p_isaI, ↓p_isaB, ↓p_isaNI, ↓p_isNI, ↓p_isNN, ↓p_isNo, ↓p_eqo, ↓p_neo, ↓p_divmod, ↓p_catL, ↓p_catLl, ↓p_catlL, ↓p_catll, ↓p_len, ↓p_lenl, ↓p_lent, ↓p_list, ↓p_listl, ↓p_listt, ↓p_tuple, ↓p_tuplel, ↓p_tuplet, ↓p_rev, ↓p_revl, ↓p_ix, ↓p_ixl, ↓p_ixt, ↓p_append, ↓p_reverse, ↓p_sum, ↓p_suml, ↓p_any, ↓p_all, ↓p_eqLL, ↓p_eqLl, ↓p_eqlL, ↓p_eqll, ↓p_eqL0, ↓p_eql0, ↓p_neLL, ↓p_neLl, ↓p_nelL, ↓p_nell, ↓p_neL0, ↓p_nel0,
  ↓gp_cells, ↓gp_turn, ↓put_turn, ↓put_cells, ↓putP_top, wipeE, lv_0, lv_s,
  List.set_cons_zero, List.set_cons_succ, List.length_cons, List.length_nil, List.map_cons, List.map_nil, finR, List.replicate, List.replicate_succ, List.replicate_zero, List.cons_append, List.nil_append, true_and, and_true, List.tail_cons, List.head?_cons, Option.join_some, List.contains_nil, Bool.false_eq_true, if_false, if_true, List.all_nil, and_self, Int.reduceToNat, Int.reducePow, Nat.reduceSub, Nat.reduceAdd, Int.reduceAdd, Int.reduceMul, Int.reduceSub, Int.reduceNeg, Int.reduceLT, Int.reduceLE, Int.natAbs, Nat.reduceLT, Nat.reduceLeDiff, Nat.reducePow])
/-! ### a < b < c < d -/
section
variable {X : Cx} {a b c d : Expr} {f1 f2 f3 f4 : ESem} {q1 q2 q3 q4 m1 m2 m3 m4 : Bool} {pos : Pos}
def tChain4 (r r' r'' : R2) (ta tb tc td : TE) : TE := fun σ H Q => ta σ H fun x H1 => tb σ H1 fun y H2 => r x y H2 fun z H3 => ∃ k, z = .bl k ∧
  (if k = true then tc σ H3 fun w' H4 => r' y w' H4 fun z' H5 => ∃ k', z' = .bl k' ∧ (if k' = true then td σ H5 fun u H6 => r'' w' u H6 Q else Q (.bl false) H5) else Q (.bl false) H3)
theorem pe_chain4 {op op' op'' : CmpOp} {r r' r'' : R2} {ta tb tc td : TE} (ho : OpR X (compareOp op) r) (ho' : OpR X (compareOp op') r') (ho'' : OpR X (compareOp op'') r'') (ha : PE X a ta) (hb : PE X b tb) (hc : PE X c tc) (hd : PE X d td)
    (hm : lastMarks [op, op', op''] [b, c, d] = false := by with_unfolding_all rfl) : PE X (.Compare a [op, op', op''] [b, c, d] pos) (tChain4 r r' r'' ta tb tc td) := by
  refine ⟨fun pins s σ H Q I h => ?_⟩
  refine Compare_chain (thn (ha.run pins s σ H _ I h) fun v s1 ⟨x, H1, I1, r1, q1⟩ => chain_link (thn (hb.run pins s1 σ H1 _ I1 q1) fun u s2 ⟨y, H2, I2, r2, q2⟩ =>
    thn (ho pins s2 σ H2 x y v u _ I2 r1 r2 q2) fun d s3 ⟨z, H3, I3, r3, k, e, q3⟩ => ?_)) hm
  subst e
  cases r3
  refine wpAny_truthy_bool ?_
  cases k with
  | false => exact ite_ff ⟨.bl false, H3, I3, rfl, q3⟩
  | true =>
    refine ite_tt (chain_link (thn (hc.run pins s3 σ H3 _ I3 q3) fun w' s4 ⟨z', H4, I4, r4, q4⟩ => thn (ho' pins s4 σ H4 y z' u w' _ I4 r2 r4 q4) fun d s5 ⟨z5, H5, I5, r5, k', e', q5⟩ => ?_))
    subst e'
    cases r5
    refine wpAny_truthy_bool ?_
    cases k' with
    | false => exact ite_ff ⟨.bl false, H5, I5, rfl, q5⟩
    | true => exact ite_tt (chain_last (thn (hd.run pins s5 σ H5 _ I5 q5) fun w6 s6 ⟨z6, H6, I6, r6, q6⟩ => ho'' pins s6 σ H6 z' z6 w' w6 Q I6 r4 r6 q6))
/-- all four quiet and plain -/
def chain4E (f1 f2 f3 f4 : ESem) (g g' g'' : O → O → Option O) : ESem := fun env => (f1 env).bind fun p => (f2 p.2).bind fun r =>
  if (p.1.isLeaf && r.1.isLeaf) = true then (g p.1 r.1).bind fun z => match z with
    | .leaf (.bool true) => (f3 r.2).bind fun t => if t.1.isLeaf = true then (g' r.1 t.1).bind fun z' => match z' with
      | .leaf (.bool true) => (f4 t.2).bind fun u => if u.1.isLeaf = true then (g'' t.1 u.1).bind fun w => if w.isLeaf = true then some (w, u.2) else none else none
      | .leaf (.bool false) => some (.leaf (.bool false), t.2)
      | _ => none else none
    | .leaf (.bool false) => some (.leaf (.bool false), r.2)
    | _ => none
  else none
theorem chain4_core {K : PySem.W.Frag} {r r' r'' : R2} {g g' g'' : O → O → Option O} (hr : RO2 K r g) (hr' : RO2 K r' g') (hr'' : RO2 K r'' g'') {σ : L2.St} {H : Hp} {Q : VK}
    (h : tE K (chain4E f1 f2 f3 f4 g g' g'') true true σ H Q) : tChain4 r r' r'' (tE K f1 true m1) (tE K f2 true m2) (tE K f3 true m3) (tE K f4 true m4) σ H Q := by
  obtain ⟨env, S, fp, z, env', R, he, k⟩ := h
  unfold chain4E at he
  simp only [Option.bind_eq_some_iff] at he
  obtain ⟨⟨o1, e1⟩, h1, ⟨o2, e2⟩, h2, h3⟩ := he
  simp only at h1 h2 h3
  split at h3
  · rename_i hl
    rw [Bool.and_eq_true] at hl
    simp only [Option.bind_eq_some_iff] at h3
    obtain ⟨zz, h4, h5⟩ := h3
    refine ⟨env, S, fp, o1, e1, R, h1, fun x S1 H1 fp1 fr1 R1 E1 w1 g1 n1 => ⟨e1, S1, fp1, o2, e2, R1, h2, fun y S2 H2 fp2 fr2 R2 E2 w2 g2 n2 => ?_⟩⟩
    have e0 := isLeaf_fr hl.1 w1
    subst e0
    have e0 := isLeaf_fr hl.2 w2
    subst e0
    have w1' : Ow K S2 H2 o1 x [] := w1.keep E2.sub (by intro a h; cases h)
    have EE := E1.trans E2
    have QQ : fp2 = fp ∧ Same H H2 := ⟨(g2 rfl).1.trans (g1 rfl).1, (g1 rfl).2.trans (g2 rfl).2⟩
    refine hr S2 H2 x y o1 o2 [] [] zz _ R2.le w1' w2 h4 fun v S3 H3 fr gr w nw => ?_
    have R3 := R2.gr gr
    have E3 := EE.trans (gr.evo (fp := fp2))
    split at h5
    · obtain ⟨rfl, rfl⟩ := leafB w
      refine ⟨true, rfl, ?_⟩
      rw [if_pos rfl]
      simp only [Option.bind_eq_some_iff] at h5
      obtain ⟨⟨o3, e3⟩, h6, h7⟩ := h5
      simp only at h7
      split at h7
      · rename_i hl3
        simp only [Option.bind_eq_some_iff] at h7
        obtain ⟨z5, h8, h9⟩ := h7
        refine ⟨e2, S3, fp2, o3, e3, R3, h6, fun t S4 H4 fp4 fr4 R4 E4 w4 g4 n4 => ?_⟩
        have e0 := isLeaf_fr hl3 w4
        subst e0
        have w2' : Ow K S4 H4 o2 y [] := w2.keep (gr.sub.trans E4.sub) (by intro a h; cases h)
        refine hr' S4 H4 y t o2 o3 [] [] z5 _ R4.le w2' w4 h8 fun v' S5 H5 fr5 gr5 w5 nw5 => ?_
        have R5 := R4.gr gr5
        have E5 := (E3.trans E4).trans (gr5.evo (fp := fp4))
        have Q5 : fp4 = fp ∧ Same H H5 := ⟨(g4 rfl).1.trans QQ.1, ((QQ.2.trans gr.grow).trans (g4 rfl).2).trans gr5.grow⟩
        split at h9
        · obtain ⟨rfl, rfl⟩ := leafB w5
          refine ⟨true, rfl, ?_⟩
          rw [if_pos rfl]
          simp only [Option.bind_eq_some_iff] at h9
          obtain ⟨⟨o6, e6⟩, h10, h11⟩ := h9
          simp only at h11
          split at h11
          · rename_i hl6
            simp only [Option.bind_eq_some_iff] at h11
            obtain ⟨z7, h12, h13⟩ := h11
            split at h13
            · rename_i hl7
              cases h13
              refine ⟨e3, S5, fp4, o6, _, R5, h10, fun u S6 H6 fp6 fr6 R6 E6 w6 g6 n6 => ?_⟩
              have e0 := isLeaf_fr hl6 w6
              subst e0
              have w4' : Ow K S6 H6 o3 t [] := w4.keep (gr5.sub.trans E6.sub) (by intro a h; cases h)
              refine hr'' S6 H6 t u o3 o6 [] [] z _ R6.le w4' w6 h12 fun v7 S7 H7 fr7 gr7 w7 nw7 => ?_
              refine k v7 S7 H7 fp6 fr7 (R6.gr gr7) ((E5.trans E6).trans gr7.evo) w7 (fun _ => ⟨(g6 rfl).1.trans Q5.1, (Q5.2.trans (g6 rfl).2).trans gr7.grow⟩) (fun _ => Fresh.pre (E5.trans E6) (nw7.fresh R6.ins))
            · cases h13
          · cases h11
        · obtain ⟨rfl, rfl⟩ := leafB w5
          refine ⟨false, rfl, ?_⟩
          rw [if_neg Bool.false_ne_true]
          cases h9
          exact k _ S5 H5 fp4 [] R5 E5 w5 (fun _ => Q5) (fun _ => Fresh.nil)
        · cases h9
      · cases h7
    · obtain ⟨rfl, rfl⟩ := leafB w
      refine ⟨false, rfl, ?_⟩
      rw [if_neg Bool.false_ne_true]
      cases h5
      exact k _ S3 H3 fp2 [] R3 E3 w (fun _ => ⟨QQ.1, QQ.2.trans gr.grow⟩) (fun _ => Fresh.nil)
    · cases h5
  · cases h3
theorem chain4_qf {g g' g'' : O → O → Option O} (h1 : ∀ env r env', f1 env = some (r, env') → env' = env) (h2 : ∀ env r env', f2 env = some (r, env') → env' = env) (h3 : ∀ env r env', f3 env = some (r, env') → env' = env) (h4 : ∀ env r env', f4 env = some (r, env') → env' = env) :
    true = true → ∀ env r env', chain4E f1 f2 f3 f4 g g' g'' env = some (r, env') → env' = env := by
  intro _ env r env' he
  unfold chain4E at he
  simp only [Option.bind_eq_some_iff] at he
  obtain ⟨⟨o1, e1⟩, k1, ⟨o2, e2⟩, k2, k3⟩ := he
  have a1 := h1 _ _ _ k1
  have a2 := h2 _ _ _ k2
  simp only at k3 a1 a2
  subst a1
  subst a2
  split at k3
  · simp only [Option.bind_eq_some_iff] at k3
    obtain ⟨z, _, k4⟩ := k3
    split at k4
    · simp only [Option.bind_eq_some_iff] at k4
      obtain ⟨⟨o3, e3⟩, k5, k6⟩ := k4
      have a3 := h3 _ _ _ k5
      simp only at k6 a3
      subst a3
      split at k6
      · simp only [Option.bind_eq_some_iff] at k6
        obtain ⟨z', _, k7⟩ := k6
        split at k7
        · simp only [Option.bind_eq_some_iff] at k7
          obtain ⟨⟨o4, e4⟩, k8, k9⟩ := k7
          have a4 := h4 _ _ _ k8
          simp only at k9 a4
          subst a4
          split at k9
          · simp only [Option.bind_eq_some_iff] at k9
            obtain ⟨w, _, k10⟩ := k9
            split at k10
            · cases k10; rfl
            · cases k10
          · cases k9
        · cases k7; rfl
        · cases k7
      · cases k6
    · cases k4; rfl
    · cases k4
  · cases k3
theorem se_chain4 {op op' op'' : CmpOp} {r r' r'' : R2} {g g' g'' : O → O → Option O} (ho : OpR X (compareOp op) r) (hr : RO2 X.K r g) (ho' : OpR X (compareOp op') r') (hr' : RO2 X.K r' g') (ho'' : OpR X (compareOp op'') r'') (hr'' : RO2 X.K r'' g'')
    (h1 : SE X a f1 true m1) (h2 : SE X b f2 true m2) (h3 : SE X c f3 true m3) (h4 : SE X d f4 true m4) (hm : lastMarks [op, op', op''] [b, c, d] = false := by with_unfolding_all rfl) : SE X (.Compare a [op, op', op''] [b, c, d] pos) (chain4E f1 f2 f3 f4 g g' g'') true true :=
  ⟨PE.imp (pe_chain4 ho ho' ho'' h1.pe h2.pe h3.pe h4.pe hm) fun _ _ _ h => chain4_core hr hr' hr'' h, chain4_qf (h1.qf rfl) (h2.qf rfl) (h3.qf rfl) (h4.qf rfl)⟩
theorem pt_chain4 {op op' op'' : CmpOp} {r r' r'' : R2} {ta tb tc td : TE} (ho : OpR X (compareOp op) r) (ho' : OpR X (compareOp op') r') (ho'' : OpR X (compareOp op'') r'') (ha : PE X a ta) (hb : PE X b tb) (hc : PE X c tc) (hd : PE X d td)
    (hm : lastMarks [op, op', op''] [b, c, d] = false := by with_unfolding_all rfl) : PT X (.Compare a [op, op', op''] [b, c, d] pos) (tTest (tChain4 r r' r'' ta tb tc td)) := by
  refine ⟨fun pins s σ H Q I h => ?_⟩
  refine isTrue_chain (thn (ha.run pins s σ H _ I h) fun v s1 ⟨x, H1, I1, r1, q1⟩ => test_link (thn (hb.run pins s1 σ H1 _ I1 q1) fun u s2 ⟨y, H2, I2, r2, q2⟩ =>
    thn (ho pins s2 σ H2 x y v u _ I2 r1 r2 q2) fun d s3 ⟨z, H3, I3, r3, k, e, q3⟩ => ?_)) hm
  subst e
  cases r3
  refine wpAny_truthy_bool ?_
  cases k with
  | false =>
    obtain ⟨k', e', q'⟩ := q3
    cases e'
    exact ite_ff ⟨H3, I3, q'⟩
  | true =>
    refine ite_tt (test_link (thn (hc.run pins s3 σ H3 _ I3 q3) fun w' s4 ⟨z', H4, I4, r4, q4⟩ => thn (ho' pins s4 σ H4 y z' u w' _ I4 r2 r4 q4) fun d' s5 ⟨z5, H5, I5, r5, k5, e5, q5⟩ => ?_))
    subst e5
    cases r5
    refine wpAny_truthy_bool ?_
    cases k5 with
    | false =>
      obtain ⟨k', e', q'⟩ := q5
      cases e'
      exact ite_ff ⟨H5, I5, q'⟩
    | true =>
      refine ite_tt (test_last (thn (hd.run pins s5 σ H5 _ I5 q5) fun w6 s6 ⟨z6, H6, I6, r6, q6⟩ => thn (ho'' pins s6 σ H6 z' z6 w' w6 _ I6 r4 r6 q6) fun d7 s7 ⟨z7, H7, I7, r7, k7, e7, q7⟩ => ?_))
      subst e7
      cases r7
      exact wpAny_truthy_bool ⟨H7, I7, q7⟩
theorem st_chain4 {op op' op'' : CmpOp} {r r' r'' : R2} {g g' g'' : O → O → Option O} (ho : OpR X (compareOp op) r) (hr : RO2 X.K r g) (ho' : OpR X (compareOp op') r') (hr' : RO2 X.K r' g') (ho'' : OpR X (compareOp op'') r'') (hr'' : RO2 X.K r'' g'')
    (h1 : SE X a f1 true m1) (h2 : SE X b f2 true m2) (h3 : SE X c f3 true m3) (h4 : SE X d f4 true m4) (hm : lastMarks [op, op', op''] [b, c, d] = false := by with_unfolding_all rfl) : ST X (.Compare a [op, op', op''] [b, c, d] pos) (asB (chain4E f1 f2 f3 f4 g g' g'')) true :=
  ⟨PT.imp (pt_chain4 ho ho' ho'' h1.pe h2.pe h3.pe h4.pe hm) fun σ H Q h => by
    have h' := tT_of (m := true) h
    exact chain4_core hr hr' hr'' h', asB_qf (chain4_qf (h1.qf rfl) (h2.qf rfl) (h3.qf rfl) (h4.qf rfl))⟩
/-- the plain rule -/
theorem w_chain4 {g g' g'' : O → O → Option O} {env : Mv.Env} {Q : O → Mv.Env → Prop} : We (chain4E f1 f2 f3 f4 g g' g'') env Q ↔ We f1 env fun a e1 => We f2 e1 fun b e2 => (Ok false a ∧ Ok false b) ∧ Op2 g a b fun z => Bl z fun k => Br k
    (We f3 e2 fun c e3 => Ok false c ∧ Op2 g' b c fun z' => Bl z' fun k' => Br k' (We f4 e3 fun d e4 => Ok false d ∧ Op2 g'' c d fun w => Ok false w ∧ Q w e4) (Q (.leaf (.bool false)) e3)) (Q (.leaf (.bool false)) e2) := by
  unfold We chain4E Op2 Bl Ok Br
  cases h : f1 env with
  | none => rfl
  | some p =>
    simp only [Option.bind_some, o2_s]
    cases h2 : f2 p.2 with
    | none => rfl
    | some r =>
      simp only [Option.bind_some, o2_s, Bool.false_or]
      by_cases h3 : (p.1.isLeaf && r.1.isLeaf) = true
      · have h3' : p.1.isLeaf = true ∧ r.1.isLeaf = true := by simpa using h3
        simp only [h3, h3'.1, h3'.2, if_true, true_and, and_self]
        cases h4 : g p.1 r.1 with
        | none => rfl
        | some z =>
          simp only [Option.bind_some, o1_s]
          cases z with
          | leaf t =>
            cases t with
            | bool b =>
              cases b
              · rfl
              · simp only [if_true]
                cases h5 : f3 r.2 with
                | none => rfl
                | some q =>
                  simp only [Option.bind_some, o2_s]
                  by_cases h6 : q.1.isLeaf = true
                  · simp only [h6, if_true, true_and]
                    cases h7 : g' r.1 q.1 with
                    | none => rfl
                    | some z' =>
                      simp only [Option.bind_some, o1_s]
                      cases z' with
                      | leaf t' =>
                        cases t' with
                        | bool b' =>
                          cases b'
                          · rfl
                          · simp only [if_true]
                            cases h8 : f4 q.2 with
                            | none => rfl
                            | some u =>
                              simp only [Option.bind_some, o2_s]
                              by_cases h9 : u.1.isLeaf = true
                              · simp only [h9, if_true, true_and]
                                cases h10 : g'' q.1 u.1 with
                                | none => rfl
                                | some w =>
                                  simp only [Option.bind_some, o1_s]
                                  by_cases h11 : w.isLeaf = true
                                  · simp only [h11, if_true, true_and]; exact Iff.rfl
                                  · simp [h11, o2_n]
                              · simp [h9, o2_n]
                        | _ => rfl
                      | _ => rfl
                  · simp [h6, o2_n]
            | _ => rfl
          | _ => rfl
      · have h3' : ¬(p.1.isLeaf = true ∧ r.1.isLeaf = true) := by simpa using h3
        simp [h3, h3', o1_n, o2_n]
end

end Mv

set_option Elab.async false
set_option linter.all false
set_option maxRecDepth 100000
set_option maxHeartbeats 4000000
namespace Mv
open PySem PySem.Spec PyProof.Rows L2
local macro_rules | `(tactic| walk_at "mv") => `(tactic| try simp only [↓w_cst, ↓w_var, ↓w_mv, ↓w_fz, ↓w_frz, ↓w_bin, ↓w_un, ↓w_binV, ↓w_if, ↓w_asB, ↓w_yes, ↓w_not, ↓w_and, ↓w_or, ↓w_andE, ↓w_orE, ↓w_notE, ↓w_chain, ↓w_nil, ↓w_cons, ↓w_tup, ↓w_lst, ↓w_pl, ↓w_mut, ↓w_c0, ↓w_ce, ↓w_cv, ↓w_call', ↓wb_0, ↓wb_e, ↓wb_v, wb_e', ↓wo_leaf, ↓wo_ls, ↓wo_dic, ↓wo_dct, ↓wo_st, ↓wo_s, own_0, own_s, oi_0, oi_e, oi_v, isl_st, isl_leaf, isl_ls, Bool.not_false, Bool.not_true, List.nodup_cons, List.nodup_nil, List.not_mem_nil, not_false_eq_true, ↓w_seq, ↓w_skip, ↓w_brk, ↓w_cont, ↓w_retN, ↓w_set, ↓w_drop, ↓w_ret, ↓w_retV, ↓w_ifS, ↓w_fzS, ↓w_asg, ↓w_gN, ↓w_gT, ↓w_gNl, ↓w_gCn, ↓w_gSub, ↓w_par, ↓w_aug, ↓w_int, ↓w_slice, ↓w_rng1, ↓w_rng2, ↓w_seqI, ↓w_comp, ↓w_for,
  ↓sl_0, ↓sl_s, ↓fr_leaf, ↓fr_ls, ↓ok_t, ↓ok_l, ↓br_t, ↓br_f, decide_true, decide_false, Int.reduceEq, ↓bl_b, ↓il_b, ↓le_l, ↓gp_top, ↓cl_0, ↓cl_e, ↓cl_v, ↓nxt_nx, ↓nxt_rt, ↓nxt_bk, ↓nxt_ct, ↓sa_0, ↓sa_s, ↓rg1_i, ↓rg2_i, ↓itm_l, ↓itm_t, ↓itm_o, ↓fin_rt, ↓fin_nx, ↓lpk_nx, ↓lpk_ct, ↓lpk_bk, ↓lpk_rt, ↓wcl_nil, ↓wf_nil,
  ↓w_enum, ↓w_zip, ↓enm_l, ↓enm_o, ↓zp_ll, ↓zp_lo, ↓zp_ol, ↓zp_oo, ↓zp_tt, ↓p_isLTi, ↓p_isLTn, ↓p_isSi, ↓p_isBn, ↓p_extend, p_extendS, p_appendS, List.isEmpty_nil, ↓w_dicO, ↓dicO_list, zip_cc, zip_nn, ↓at_0, ↓at_1, ↓at_2, ↓at_3, ↓at_4, p_insertS, ↓p_mulO, ↓p_repB, ↓p_rep0, ↓p_rep1, ↓w_while, ↓p_insert, ↓at_last, ↓put_last, ↓p_inl, ↓p_inL, ↓p_ninl, ↓p_ninL, ↓p_eqP0, ↓p_neP0, ↓p_neA, ↓p_eq00, ↓p_ne00, ↓p_ixp0, ↓p_ixp1, ↓w_gTp, ↓p_isLTb, ↓p_isLTs, ↓p_isIb, ↓p_isBb, ↓p_isSb, ↓p_isLb, ↓p_isTb, ↓p_isIs, ↓p_isBs, ↓p_isSs, ↓p_isLs, ↓p_isTs, ↓p_isLi, ↓p_isTi, ↓p_isLn, ↓p_isTn, ↓p_isSn, ↓p_isNb, ↓p_isNs, ↓p_isNt, ↓p_isNl, ↓p_isNp, ↓p_eqTT, ↓p_eqTF, ↓p_eqFT, ↓p_eqFF, ↓p_neTT, ↓p_neTF, ↓p_neFT, ↓p_neFF, ↓p_eqBs, ↓p_eqSs, ↓p_eqIs, ↓w_chain4, ↓p_lrg1, ↓p_lrg2, ↓p_maxL, ↓p_maxl, ↓p_minL, ↓p_minl, ↓w_getE, ↓w_emptyK, ↓w_emptyT, ↓p_dixi, ↓p_dixs, ↓p_dini, ↓p_dins, ↓p_dgi, ↓p_dgs, ↓p_dputi, ↓p_dputs, ↓p_extA, ↓p_extAl, p_extAS, p_extASl, ↓w_bor, fl_b, fl_i, fl_n, fl_s, ↓w_enumA, ↓enma_l, ↓enma_t, ↓enma_o, eq_self, ↓w_strM, ↓sv_s, ↓p_eqS, ↓p_neS, ↓p_isTp, ↓p_lenp, ↓itm_p, ↓p_neBs, line_racks, racks_line, ↓p_sub, ↓p_add, ↓p_ipadd, ↓p_mul, ↓p_div, ↓p_mod, ↓p_pow, ↓p_neg, ↓p_eq, ↓p_ne, ↓p_lt, ↓p_gt, ↓p_le, ↓p_ge, ↓p_max, ↓p_min, ↓p_abs, ↓p_intI, ↓p_intB, ↓p_isaI, ↓p_isaB, ↓p_isaNI, ↓p_isNI, ↓p_isNN, ↓p_isNo, ↓p_eqo, ↓p_neo, ↓p_divmod, ↓p_catL, ↓p_catLl, ↓p_catlL, ↓p_catll, ↓p_len, ↓p_lenl, ↓p_lent, ↓p_list, ↓p_listl, ↓p_listt, ↓p_tuple, ↓p_tuplel, ↓p_tuplet, ↓p_rev, ↓p_revl, ↓p_ix, ↓p_ixl, ↓p_ixt, ↓p_append, ↓p_reverse, ↓p_sum, ↓p_suml, ↓p_any, ↓p_all, ↓p_eqLL, ↓p_eqLl, ↓p_eqlL, ↓p_eqll, ↓p_eqL0, ↓p_eql0, ↓p_neLL, ↓p_neLl, ↓p_nelL, ↓p_nell, ↓p_neL0, ↓p_nel0,
  ↓gp_cells, ↓gp_turn, ↓put_turn, ↓put_cells, ↓putP_top, wipeE, lv_0, lv_s,
  List.set_cons_zero, List.set_cons_succ, List.length_cons, List.length_nil, List.map_cons, List.map_nil, finR, List.replicate, List.replicate_succ, List.replicate_zero, List.cons_append, List.nil_append, true_and, and_true, List.tail_cons, List.head?_cons, Option.join_some, List.contains_nil, Bool.false_eq_true, if_false, if_true, List.all_nil, and_self, Int.reduceToNat, Int.reducePow, Nat.reduceSub, Nat.reduceAdd, Int.reduceAdd, Int.reduceMul, Int.reduceSub, Int.reduceNeg, Int.reduceLT, Int.reduceLE, Int.natAbs, Nat.reduceLT, Nat.reduceLeDiff, Nat.reducePow])
local macro_rules | `(tactic| walk_at "mve") => `(tactic| try simp only [↓w_cst, ↓w_var, ↓w_mv, ↓w_fz, ↓w_frz, ↓w_bin, ↓w_un, ↓w_binV, ↓w_asB, ↓w_yes, ↓w_not, ↓w_and, ↓w_or, ↓w_andE, ↓w_orE, ↓w_notE, ↓w_chain, ↓w_nil, ↓w_cons, ↓w_tup, ↓w_lst, ↓w_pl, ↓w_mut, ↓w_c0, ↓w_ce, ↓w_cv, ↓w_call', ↓wb_0, ↓wb_e, ↓wb_v, wb_e', ↓wo_leaf, ↓wo_ls, ↓wo_dic, ↓wo_dct, ↓wo_st, ↓wo_s, own_0, own_s, oi_0, oi_e, oi_v, isl_st, isl_leaf, isl_ls, Bool.not_false, Bool.not_true, List.nodup_cons, List.nodup_nil, List.not_mem_nil, not_false_eq_true, ↓w_seq, ↓w_skip, ↓w_brk, ↓w_cont, ↓w_retN, ↓w_set, ↓w_drop, ↓w_ret, ↓w_retV, ↓w_ifS, ↓w_fzS, ↓w_asg, ↓w_gN, ↓w_gT, ↓w_gNl, ↓w_gCn, ↓w_gSub, ↓w_par, ↓w_aug, ↓w_int, ↓w_slice, ↓w_rng1, ↓w_rng2, ↓w_seqI, ↓w_comp, ↓w_for,
  ↓sl_0, ↓sl_s, ↓fr_leaf, ↓fr_ls, ↓ok_t, ↓ok_l, ↓br_t, ↓br_f, decide_true, decide_false, Int.reduceEq, ↓bl_b, ↓il_b, ↓le_l, ↓gp_top, ↓cl_0, ↓cl_e, ↓cl_v, ↓nxt_nx, ↓nxt_rt, ↓nxt_bk, ↓nxt_ct, ↓sa_0, ↓sa_s, ↓rg1_i, ↓rg2_i, ↓itm_l, ↓itm_t, ↓itm_o, ↓fin_rt, ↓fin_nx, ↓lpk_nx, ↓lpk_ct, ↓lpk_bk, ↓lpk_rt, ↓wcl_nil, ↓wf_nil,
  ↓w_enum, ↓w_zip, ↓enm_l, ↓enm_o, ↓zp_ll, ↓zp_lo, ↓zp_ol, ↓zp_oo, ↓zp_tt, ↓p_isLTi, ↓p_isLTn, ↓p_isSi, ↓p_isBn, ↓p_extend, p_extendS, p_appendS, List.isEmpty_nil, ↓w_dicO, ↓dicO_list, zip_cc, zip_nn, ↓at_0, ↓at_1, ↓at_2, ↓at_3, ↓at_4, p_insertS, ↓p_mulO, ↓p_repB, ↓p_rep0, ↓p_rep1, ↓w_while, ↓p_insert, ↓at_last, ↓put_last, ↓p_inl, ↓p_inL, ↓p_ninl, ↓p_ninL, ↓p_eqP0, ↓p_neP0, ↓p_neA, ↓p_eq00, ↓p_ne00, ↓p_ixp0, ↓p_ixp1, ↓w_gTp, ↓p_isLTb, ↓p_isLTs, ↓p_isIb, ↓p_isBb, ↓p_isSb, ↓p_isLb, ↓p_isTb, ↓p_isIs, ↓p_isBs, ↓p_isSs, ↓p_isLs, ↓p_isTs, ↓p_isLi, ↓p_isTi, ↓p_isLn, ↓p_isTn, ↓p_isSn, ↓p_isNb, ↓p_isNs, ↓p_isNt, ↓p_isNl, ↓p_isNp, ↓p_eqTT, ↓p_eqTF, ↓p_eqFT, ↓p_eqFF, ↓p_neTT, ↓p_neTF, ↓p_neFT, ↓p_neFF, ↓p_eqBs, ↓p_eqSs, ↓p_eqIs, ↓w_chain4, ↓p_lrg1, ↓p_lrg2, ↓p_maxL, ↓p_maxl, ↓p_minL, ↓p_minl, ↓w_getE, ↓w_emptyK, ↓w_emptyT, ↓p_dixi, ↓p_dixs, ↓p_dini, ↓p_dins, ↓p_dgi, ↓p_dgs, ↓p_dputi, ↓p_dputs, ↓p_extA, ↓p_extAl, p_extAS, p_extASl, ↓w_bor, fl_b, fl_i, fl_n, fl_s, ↓w_enumA, ↓enma_l, ↓enma_t, ↓enma_o, eq_self, ↓w_strM, ↓sv_s, ↓p_eqS, ↓p_neS, ↓p_isTp, ↓p_lenp, ↓itm_p, ↓p_neBs, line_racks, racks_line, ↓p_sub, ↓p_add, ↓p_ipadd, ↓p_mul, ↓p_div, ↓p_mod, ↓p_pow, ↓p_neg, ↓p_eq, ↓p_ne, ↓p_lt, ↓p_gt, ↓p_le, ↓p_ge, ↓p_max, ↓p_min, ↓p_abs, ↓p_intI, ↓p_intB, ↓p_isaI, ↓p_isaB, ↓p_isaNI, ↓p_isNI, ↓p_isNN, ↓p_isNo, ↓p_eqo, ↓p_neo, ↓p_divmod, ↓p_catL, ↓p_catLl, ↓p_catlL, ↓p_catll, ↓p_len, ↓p_lenl, ↓p_lent, ↓p_list, ↓p_listl, ↓p_listt, ↓p_tuple, ↓p_tuplel, ↓p_tuplet, ↓p_rev, ↓p_revl, ↓p_ix, ↓p_ixl, ↓p_ixt, ↓p_append, ↓p_reverse, ↓p_sum, ↓p_suml, ↓p_any, ↓p_all, ↓p_eqLL, ↓p_eqLl, ↓p_eqlL, ↓p_eqll, ↓p_eqL0, ↓p_eql0, ↓p_neLL, ↓p_neLl, ↓p_nelL, ↓p_nell, ↓p_neL0, ↓p_nel0,
  ↓gp_cells, ↓gp_turn, ↓put_turn, ↓put_cells, ↓putP_top, wipeE, lv_0, lv_s,
  List.set_cons_zero, List.set_cons_succ, List.length_cons, List.length_nil, List.map_cons, List.map_nil, finR, List.replicate, List.replicate_succ, List.replicate_zero, List.cons_append, List.nil_append, true_and, and_true, List.tail_cons, List.head?_cons, Option.join_some, List.contains_nil, Bool.false_eq_true, if_false, if_true, List.all_nil, and_self, Int.reduceToNat, Int.reducePow, Nat.reduceSub, Nat.reduceAdd, Int.reduceAdd, Int.reduceMul, Int.reduceSub, Int.reduceNeg, Int.reduceLT, Int.reduceLE, Int.natAbs, Nat.reduceLT, Nat.reduceLeDiff, Nat.reducePow])
local macro_rules | `(tactic| walk_at "mv1") => `(tactic| try simp only [↓ok_t, ↓ok_l, ↓nxt_nx, ↓nxt_rt, ↓w_seq, ↓fin_rt, ↓fin_nx, ↓lpk_nx, ↓lpk_ct, ↓lpk_bk, ↓lpk_rt, wipeE, List.set_cons_zero, List.set_cons_succ, true_and, and_true])
local macro_rules | `(tactic| walk_at "mvs") => `(tactic| try simp only [↓sl_0, ↓sl_s, ↓fr_leaf, ↓fr_ls, ↓ok_t, ↓ok_l, ↓nxt_nx, ↓nxt_rt, ↓w_seq, ↓fin_rt, ↓fin_nx, ↓lpk_nx, ↓lpk_ct, ↓lpk_bk, ↓lpk_rt, wipeE, List.set_cons_zero, List.set_cons_succ, true_and, and_true])
local macro_rules | `(tactic| walk_at "mvp") => `(tactic| try simp only [↓w_cst, ↓w_var, ↓w_mv, ↓w_fz, ↓w_frz, ↓w_bin, ↓w_un, ↓w_binV, ↓w_if, ↓w_asB, ↓w_yes, ↓w_not, ↓w_and, ↓w_or, ↓w_andE, ↓w_orE, ↓w_notE, ↓w_chain, ↓w_nil, ↓w_cons, ↓w_tup, ↓w_lst, ↓w_pl, ↓w_mut, ↓w_c0, ↓w_ce, ↓w_cv, ↓w_call', ↓wb_0, ↓wb_e, ↓wb_v, wb_e', ↓wo_leaf, ↓wo_ls, ↓wo_dic, ↓wo_dct, ↓wo_st, ↓wo_s, own_0, own_s, oi_0, oi_e, oi_v, isl_st, isl_leaf, isl_ls, Bool.not_false, Bool.not_true, List.nodup_cons, List.nodup_nil, List.not_mem_nil, not_false_eq_true, ↓w_seq, ↓w_skip, ↓w_brk, ↓w_cont, ↓w_retN, ↓w_set, ↓w_drop, ↓w_ret, ↓w_retV, ↓w_fzS, ↓w_asg, ↓w_gN, ↓w_gT, ↓w_gNl, ↓w_gCn, ↓w_gSub, ↓w_par, ↓w_aug, ↓w_int, ↓w_slice, ↓w_rng1, ↓w_rng2, ↓w_seqI, ↓w_comp, ↓w_for,
  ↓sl_0, ↓sl_s, ↓fr_leaf, ↓fr_ls, ↓ok_t, ↓ok_l, ↓br_t, ↓br_f, decide_true, decide_false, Int.reduceEq, ↓bl_b, ↓il_b, ↓le_l, ↓gp_top, ↓cl_0, ↓cl_e, ↓cl_v, ↓nxt_nx, ↓nxt_rt, ↓nxt_bk, ↓nxt_ct, ↓sa_0, ↓sa_s, ↓rg1_i, ↓rg2_i, ↓itm_l, ↓itm_t, ↓itm_o, ↓fin_rt, ↓fin_nx, ↓lpk_nx, ↓lpk_ct, ↓lpk_bk, ↓lpk_rt, ↓wcl_nil, ↓wf_nil,
  ↓w_enum, ↓w_zip, ↓enm_l, ↓enm_o, ↓zp_ll, ↓zp_lo, ↓zp_ol, ↓zp_oo, ↓zp_tt, ↓p_isLTi, ↓p_isLTn, ↓p_isSi, ↓p_isBn, ↓p_extend, p_extendS, p_appendS, List.isEmpty_nil, ↓w_dicO, ↓dicO_list, zip_cc, zip_nn, ↓at_0, ↓at_1, ↓at_2, ↓at_3, ↓at_4, p_insertS, ↓p_mulO, ↓p_repB, ↓p_rep0, ↓p_rep1, ↓w_while, ↓p_insert, ↓at_last, ↓put_last, ↓p_inl, ↓p_inL, ↓p_ninl, ↓p_ninL, ↓p_eqP0, ↓p_neP0, ↓p_neA, ↓p_eq00, ↓p_ne00, ↓p_ixp0, ↓p_ixp1, ↓w_gTp, ↓p_isLTb, ↓p_isLTs, ↓p_isIb, ↓p_isBb, ↓p_isSb, ↓p_isLb, ↓p_isTb, ↓p_isIs, ↓p_isBs, ↓p_isSs, ↓p_isLs, ↓p_isTs, ↓p_isLi, ↓p_isTi, ↓p_isLn, ↓p_isTn, ↓p_isSn, ↓p_isNb, ↓p_isNs, ↓p_isNt, ↓p_isNl, ↓p_isNp, ↓p_eqTT, ↓p_eqTF, ↓p_eqFT, ↓p_eqFF, ↓p_neTT, ↓p_neTF, ↓p_neFT, ↓p_neFF, ↓p_eqBs, ↓p_eqSs, ↓p_eqIs, ↓w_chain4, ↓p_lrg1, ↓p_lrg2, ↓p_maxL, ↓p_maxl, ↓p_minL, ↓p_minl, ↓w_getE, ↓w_emptyK, ↓w_emptyT, ↓p_dixi, ↓p_dixs, ↓p_dini, ↓p_dins, ↓p_dgi, ↓p_dgs, ↓p_dputi, ↓p_dputs, ↓p_extA, ↓p_extAl, p_extAS, p_extASl, ↓w_bor, fl_b, fl_i, fl_n, fl_s, ↓w_enumA, ↓enma_l, ↓enma_t, ↓enma_o, eq_self, ↓w_strM, ↓sv_s, ↓p_eqS, ↓p_neS, ↓p_isTp, ↓p_lenp, ↓itm_p, ↓p_neBs, line_racks, racks_line, ↓p_sub, ↓p_add, ↓p_ipadd, ↓p_mul, ↓p_div, ↓p_mod, ↓p_pow, ↓p_neg, ↓p_eq, ↓p_ne, ↓p_lt, ↓p_gt, ↓p_le, ↓p_ge, ↓p_max, ↓p_min, ↓p_abs, ↓p_intI, ↓p_intB, ↓p_isaI, ↓p_isaB, ↓p_isaNI, ↓p_isNI, ↓p_isNN, ↓p_isNo, ↓p_eqo, ↓p_neo, ↓p_divmod, ↓p_catL, ↓p_catLl, ↓p_catlL, ↓p_catll, ↓p_len, ↓p_lenl, ↓p_lent, ↓p_list, ↓p_listl, ↓p_listt, ↓p_tuple, ↓p_tuplel, ↓p_tuplet, ↓p_rev, ↓p_revl, ↓p_ix, ↓p_ixl, ↓p_ixt, ↓p_append, ↓p_reverse, ↓p_sum, ↓p_suml, ↓p_any, ↓p_all, ↓p_eqLL, ↓p_eqLl, ↓p_eqlL, ↓p_eqll, ↓p_eqL0, ↓p_eql0, ↓p_neLL, ↓p_neLl, ↓p_nelL, ↓p_nell, ↓p_neL0, ↓p_nel0,
  ↓gp_cells, ↓gp_turn, ↓put_turn, ↓put_cells, ↓putP_top, wipeE, lv_0, lv_s,
  List.set_cons_zero, List.set_cons_succ, List.length_cons, List.length_nil, List.map_cons, List.map_nil, finR, List.replicate, List.replicate_succ, List.replicate_zero, List.cons_append, List.nil_append, true_and, and_true, List.tail_cons, List.head?_cons, Option.join_some, List.contains_nil, Bool.false_eq_true, if_false, if_true, List.all_nil, and_self, Int.reduceToNat, Int.reducePow, Nat.reduceSub, Nat.reduceAdd, Int.reduceAdd, Int.reduceMul, Int.reduceSub, Int.reduceNeg, Int.reduceLT, Int.reduceLE, Int.natAbs, Nat.reduceLT, Nat.reduceLeDiff, Nat.reducePow])
/-! ### cases of a packing against marked tins -/
def inB (l : List Rg) (f la : Int) : Int := match l with
  | [] => 0
  | p :: r => max 0 (min p.2 la - max p.1 f + 1) + inB r f la
theorem inB_nn : ∀ {l : List Rg} {f la : Int}, 0 ≤ inB l f la
  | [], _, _ => Int.le_refl _
  | p :: r, f, la => by
    have := inB_nn (l := r) (f := f) (la := la)
    unfold inB
    omega
theorem inB_pos : ∀ {l : List Rg} {f la : Int}, 0 < inB l f la ↔ ∃ x, f ≤ x ∧ x ≤ la ∧ Has l x
  | [], f, la => by
    constructor
    · intro h
      exact absurd h (by unfold inB; omega)
    · rintro ⟨x, _, _, h⟩
      exact (has_nil.mp h).elim
  | p :: r, f, la => by
    have ih := inB_pos (l := r) (f := f) (la := la)
    have hn := inB_nn (l := r) (f := f) (la := la)
    unfold inB
    constructor
    · intro h
      by_cases h2 : 0 < inB r f la
      · obtain ⟨x, k1, k2, k3⟩ := ih.mp h2
        exact ⟨x, k1, k2, has_cons.mpr (.inr k3)⟩
      · exact ⟨max p.1 f, by omega, by omega, has_cons.mpr (.inl (by omega))⟩
    · rintro ⟨x, k1, k2, k3⟩
      rcases has_cons.mp k3 with z | z
      · omega
      · have := ih.mpr ⟨x, k1, k2, z⟩
        omega
/-- nothing below a bound: what is in a stretch begins there -/
theorem inB_cut : ∀ {l : List Rg} {f g la : Int}, f ≤ g → (∀ q ∈ l, g ≤ q.1) → inB l f la = inB l g la
  | [], _, _, _, _, _ => rfl
  | p :: r, f, g, la, h, hq => by
    have h1 := hq p List.mem_cons_self
    unfold inB
    rw [inB_cut h fun q hm => hq q (List.mem_cons_of_mem _ hm)]
    have : max p.1 f = max p.1 g := by omega
    rw [this]
theorem inB_le : ∀ {l : List Rg} {f la : Int}, Cn l → f ≤ la + 1 → inB l f la ≤ la - f + 1 ∧ (inB l f la = la - f + 1 ↔ ∀ x, f ≤ x → x ≤ la → Has l x)
  | [], f, la, _, h => by
    unfold inB
    refine ⟨by omega, ?_⟩
    constructor
    · intro e x h1 h2
      omega
    · intro hx
      by_cases z : f ≤ la
      · exact (has_nil.mp (hx f (Int.le_refl _) z)).elim
      · omega
  | p :: r, f, la, hc, h => by
    obtain ⟨c1, c2, c3⟩ := hc
    unfold inB
    by_cases h1 : p.2 < f
    · obtain ⟨k1, k2⟩ := inB_le (l := r) c3 h
      have e : max 0 (min p.2 la - max p.1 f + 1) = 0 := by omega
      rw [e, Int.zero_add]
      refine ⟨k1, k2.trans ?_⟩
      constructor
      · intro z x a b
        exact has_cons.mpr (.inr (z x a b))
      · intro z x a b
        rcases has_cons.mp (z x a b) with y | y
        · omega
        · exact y
    · by_cases h2 : p.2 < la
      · have ecut : inB r f la = inB r (p.2 + 1) la := inB_cut (by omega) fun q hq => by have := c2 q hq; omega
        obtain ⟨k1, k2⟩ := inB_le (l := r) (f := p.2 + 1) (la := la) c3 (by omega)
        rw [ecut]
        refine ⟨by omega, ?_⟩
        constructor
        · intro e x a b
          by_cases hx : x ≤ p.2
          · exact has_cons.mpr (.inl (by omega))
          · exact has_cons.mpr (.inr (k2.mp (by omega) x (by omega) b))
        · intro z
          have z1 : p.1 ≤ f := by
            rcases has_cons.mp (z f (Int.le_refl _) (by omega)) with y | ⟨q, hq, y1, y2⟩
            · exact y.1
            · have := c2 q hq
              omega
          have := k2.mpr fun x a b => by
            rcases has_cons.mp (z x (by omega) b) with y | y
            · omega
            · exact y
          omega
      · have er : inB r f la = 0 := by
          have : ¬0 < inB r f la := fun z => by
            obtain ⟨x, a, b, q, hq, y1, y2⟩ := inB_pos.mp z
            have := c2 q hq
            omega
          have := inB_nn (l := r) (f := f) (la := la)
          omega
        rw [er]
        refine ⟨by omega, ?_⟩
        constructor
        · intro e x a b
          exact has_cons.mpr (.inl (by omega))
        · intro z
          by_cases z2 : f ≤ la
          · rcases has_cons.mp (z f (Int.le_refl _) z2) with y | ⟨q, hq, y1, y2⟩
            · omega
            · have := c2 q hq
              omega
          · omega
/-! the marked tins -/
abbrev MRow := Str × List Rg
def mkS (rows : List MRow) (m : Str) : List Rg := setOf ((rows.filter fun p => decide (p.1 = m)).flatMap (·.2))
def shC (sz : Int) (q : Pa × Int) (r : Rg) : Rg := ((r.1 - q.1.f + q.2) / sz, (r.2 - q.1.f + q.2) / sz)
def cwL (sz : Int) (qs : List (Pa × Int)) (rows : List MRow) : List Rg := qs.flatMap fun q => (bo [(q.1.f, q.1.l)] (mkS rows q.1.k)).map (shC sz q)
def caL (sz : Int) (qs : List (Pa × Int)) (rows : List MRow) : List Rg := qs.flatMap fun q => (wo [(q.1.f, q.1.l)] (mkS rows q.1.k)).map (shC sz q)
theorem mkS_cn {rows : List MRow} {m : Str} : Cn (mkS rows m) := (setOf_ok _).1
theorem cn_one {a b : Int} (h : a ≤ b) : Cn [(a, b)] := ⟨h, by simp, trivial⟩
/-- the cases that a stretch of tins reaches -/
theorem shC_has {sz c : Int} {q : Pa × Int} (hs : 0 < sz) {l : List Rg} (hl : ∀ p ∈ l, p.1 ≤ p.2) : Has (l.map (shC sz q)) c ↔ ∃ x, Has l x ∧ (q.2 + x - q.1.f) / sz = c := by
  constructor
  · rintro ⟨p, hp, k1, k2⟩
    obtain ⟨r, hr, rfl⟩ := List.mem_map.mp hp
    simp only [shC] at k1 k2
    have e1 : c * sz ≤ r.2 - q.1.f + q.2 := (Int.le_ediv_iff_mul_le hs).mp k2
    have e2 : r.1 - q.1.f + q.2 < (c + 1) * sz := (Int.ediv_lt_iff_lt_mul hs).mp (Int.lt_add_one_iff.mpr k1)
    have e3 : (c + 1) * sz = c * sz + sz := by rw [Int.add_mul, Int.one_mul]
    have hle := hl r hr
    refine ⟨max r.1 (c * sz + q.1.f - q.2), ⟨r, hr, by omega, by omega⟩, ?_⟩
    rw [ediv_is hs]
    omega
  · rintro ⟨x, ⟨r, hr, k1, k2⟩, rfl⟩
    exact ⟨_, List.mem_map.mpr ⟨r, hr, rfl⟩, Int.ediv_le_ediv hs (by omega), Int.ediv_le_ediv hs (by omega)⟩
theorem has_fm {α : Type} {l : List α} {g : α → List Rg} {x : Int} : Has (l.flatMap g) x ↔ ∃ a ∈ l, Has (g a) x := by
  unfold Has
  constructor
  · rintro ⟨p, hp, h⟩
    obtain ⟨a, ha, hp⟩ := List.mem_flatMap.mp hp
    exact ⟨a, ha, p, hp, h⟩
  · rintro ⟨a, ha, p, hp, h⟩
    exact ⟨p, List.mem_flatMap.mpr ⟨a, ha, hp⟩, h⟩
theorem has_one {a b x : Int} : Has [(a, b)] x ↔ a ≤ x ∧ x ≤ b := by rw [has_cons, has_nil, or_false]
theorem cwL_has {sz c : Int} {qs : List (Pa × Int)} {rows : List MRow} (hs : 0 < sz) (hq : ∀ q ∈ qs, q.1.f ≤ q.1.l) : Has (cwL sz qs rows) c ↔ ∃ q ∈ qs, ∃ x, (q.1.f ≤ x ∧ x ≤ q.1.l) ∧ Has (mkS rows q.1.k) x ∧ (q.2 + x - q.1.f) / sz = c := by
  unfold cwL
  rw [has_fm]
  have key : ∀ q ∈ qs, (Has ((bo [(q.1.f, q.1.l)] (mkS rows q.1.k)).map (shC sz q)) c ↔ ∃ x, (q.1.f ≤ x ∧ x ≤ q.1.l) ∧ Has (mkS rows q.1.k) x ∧ (q.2 + x - q.1.f) / sz = c) := by
    intro q hm
    obtain ⟨b1, b2, _⟩ := bo_ok (cn_one (hq q hm)) (mkS_cn (rows := rows) (m := q.1.k))
    rw [shC_has hs (cn_le b1)]
    constructor
    · rintro ⟨x, h1, h2⟩
      rw [b2, has_one] at h1
      exact ⟨x, h1.1, h1.2, h2⟩
    · rintro ⟨x, h1, h2, h3⟩
      exact ⟨x, (b2 x).mpr ⟨has_one.mpr h1, h2⟩, h3⟩
  constructor
  · rintro ⟨q, hm, h⟩
    exact ⟨q, hm, (key q hm).mp h⟩
  · rintro ⟨q, hm, h⟩
    exact ⟨q, hm, (key q hm).mpr h⟩
theorem caL_has {sz c : Int} {qs : List (Pa × Int)} {rows : List MRow} (hs : 0 < sz) (hq : ∀ q ∈ qs, q.1.f ≤ q.1.l) : Has (caL sz qs rows) c ↔ ∃ q ∈ qs, ∃ x, (q.1.f ≤ x ∧ x ≤ q.1.l) ∧ ¬Has (mkS rows q.1.k) x ∧ (q.2 + x - q.1.f) / sz = c := by
  unfold caL
  rw [has_fm]
  have key : ∀ q ∈ qs, (Has ((wo [(q.1.f, q.1.l)] (mkS rows q.1.k)).map (shC sz q)) c ↔ ∃ x, (q.1.f ≤ x ∧ x ≤ q.1.l) ∧ ¬Has (mkS rows q.1.k) x ∧ (q.2 + x - q.1.f) / sz = c) := by
    intro q hm
    obtain ⟨b1, b2, _⟩ := wo_ok (mkS_cn (rows := rows) (m := q.1.k)) (cn_one (hq q hm))
    rw [shC_has hs (cn_le b1)]
    constructor
    · rintro ⟨x, h1, h2⟩
      rw [b2, has_one] at h1
      exact ⟨x, h1.1, h1.2, h2⟩
    · rintro ⟨x, h1, h2, h3⟩
      exact ⟨x, (b2 x).mpr ⟨has_one.mpr h1, h2⟩, h3⟩
  constructor
  · rintro ⟨q, hm, h⟩
    exact ⟨q, hm, (key q hm).mp h⟩
  · rintro ⟨q, hm, h⟩
    exact ⟨q, hm, (key q hm).mpr h⟩
/-- a tin of a part lies in the case -/
theorem part_has {sz c x : Int} {q : Pa × Int} (hs : 0 < sz) : (lowP sz c q ≤ x ∧ x ≤ highP sz c q) ↔ (q.1.f ≤ x ∧ x ≤ q.1.l) ∧ (q.2 + x - q.1.f) / sz = c := by
  rw [ediv_is hs]
  unfold lowP highP
  generalize c * sz = z
  omega
theorem tinsIn_mem {sz c : Int} {qs : List (Pa × Int)} {p : Pa} : p ∈ tinsIn sz c qs ↔ ∃ q ∈ qs, lowP sz c q ≤ highP sz c q ∧ p = ptC sz c q := by
  unfold tinsIn
  rw [List.mem_map]
  constructor
  · rintro ⟨q, hq, rfl⟩
    obtain ⟨h1, h2⟩ := List.mem_filter.mp hq
    exact ⟨q, h1, of_decide_eq_true h2, rfl⟩
  · rintro ⟨q, hq, h, rfl⟩
    exact ⟨q, List.mem_filter.mpr ⟨hq, decide_eq_true h⟩, rfl⟩
def hasOf (rows : List MRow) : List Pa → Int
  | [] => 0
  | p :: r => inB (mkS rows p.k) p.f p.l + hasOf rows r
theorem hasOf_nn {rows : List MRow} : ∀ {ps : List Pa}, 0 ≤ hasOf rows ps
  | [] => Int.le_refl _
  | p :: r => by
    have h1 := hasOf_nn (rows := rows) (ps := r)
    have h2 := inB_nn (l := mkS rows p.k) (f := p.f) (la := p.l)
    unfold hasOf
    omega
theorem hasOf_pos {rows : List MRow} : ∀ {ps : List Pa}, 0 < hasOf rows ps ↔ ∃ p ∈ ps, ∃ x, p.f ≤ x ∧ x ≤ p.l ∧ Has (mkS rows p.k) x
  | [] => by
    constructor
    · intro h
      exact absurd h (by unfold hasOf; omega)
    · rintro ⟨p, h, _⟩
      cases h
  | p :: r => by
    have h1 := hasOf_nn (rows := rows) (ps := r)
    have h2 := inB_nn (l := mkS rows p.k) (f := p.f) (la := p.l)
    have ih := hasOf_pos (rows := rows) (ps := r)
    unfold hasOf
    constructor
    · intro h
      by_cases z : 0 < hasOf rows r
      · obtain ⟨q, k1, k2⟩ := ih.mp z
        exact ⟨q, List.mem_cons_of_mem _ k1, k2⟩
      · exact ⟨p, List.mem_cons_self, inB_pos.mp (by omega)⟩
    · rintro ⟨q, k1, k2⟩
      rcases List.mem_cons.mp k1 with rfl | k1
      · have := inB_pos.mpr k2
        omega
      · have := ih.mpr ⟨q, k1, k2⟩
        omega
theorem hasOf_all {rows : List MRow} : ∀ {ps : List Pa}, (∀ p ∈ ps, p.f ≤ p.l) → hasOf rows ps ≤ paSum ps ∧ (hasOf rows ps = paSum ps ↔ ∀ p ∈ ps, ∀ x, p.f ≤ x → x ≤ p.l → Has (mkS rows p.k) x)
  | [], _ => ⟨Int.le_refl _, ⟨fun _ p h => (by cases h), fun _ => rfl⟩⟩
  | p :: r, h => by
    obtain ⟨k1, k2⟩ := hasOf_all (rows := rows) (ps := r) fun q hq => h q (List.mem_cons_of_mem _ hq)
    obtain ⟨k3, k4⟩ := inB_le (l := mkS rows p.k) (f := p.f) (la := p.l) mkS_cn (by have := h p List.mem_cons_self; omega)
    unfold hasOf paSum paN
    refine ⟨by omega, ?_⟩
    constructor
    · intro e q hq
      rcases List.mem_cons.mp hq with rfl | hq
      · exact k4.mp (by omega)
      · exact k2.mp (by omega) q hq
    · intro z
      have a := k4.mpr (z p List.mem_cons_self)
      have b := k2.mpr fun q hq => z q (List.mem_cons_of_mem _ hq)
      omega
theorem tinsIn_good {sz c : Int} {qs : List (Pa × Int)} : ∀ p ∈ tinsIn sz c qs, p.f ≤ p.l := by
  intro p hp
  obtain ⟨q, _, h, rfl⟩ := tinsIn_mem.mp hp
  exact h
theorem some_ok {sz c : Int} {qs : List (Pa × Int)} {rows : List MRow} (hs : 0 < sz) (hq : ∀ q ∈ qs, q.1.f ≤ q.1.l) : Has (setOf (cwL sz qs rows)) c ↔ 0 < hasOf rows (tinsIn sz c qs) := by
  rw [(setOf_ok _).2.1, cwL_has hs hq, hasOf_pos]
  constructor
  · rintro ⟨q, hm, x, h1, h2, h3⟩
    obtain ⟨a, b⟩ := (part_has hs).mpr ⟨h1, h3⟩
    exact ⟨ptC sz c q, tinsIn_mem.mpr ⟨q, hm, by omega, rfl⟩, x, a, b, h2⟩
  · rintro ⟨p, hp, x, h1, h2, h3⟩
    obtain ⟨q, hm, h, rfl⟩ := tinsIn_mem.mp hp
    obtain ⟨a, b⟩ := (part_has hs).mp ⟨h1, h2⟩
    exact ⟨q, hm, x, a, h3, b⟩
theorem paSum_pos : ∀ {ps : List Pa}, (∀ p ∈ ps, p.f ≤ p.l) → (0 < paSum ps ↔ ps ≠ [])
  | [], _ => by simp [paSum]
  | p :: r, h => by
    have h1 := h p List.mem_cons_self
    have h2 : 0 ≤ paSum r := by
      by_cases z : r = []
      · subst z; exact Int.le_refl _
      · have := (paSum_pos (ps := r) fun q hq => h q (List.mem_cons_of_mem _ hq)).mpr z
        omega
    unfold paSum paN
    simp
    omega
theorem whole_ok {sz c B : Int} {ps : List Pa} {rows : List MRow} (hs : 0 < sz) (hg : ∀ p ∈ ps, GoodPa B p) (hc : 0 ≤ c) :
    Has (wo (setOf [(0, (paSum ps + sz - 1) / sz - 1)]) (setOf (caL sz (plR ps 0) rows))) c ↔ 0 < paSum (tinsIn sz c (plR ps 0)) ∧ hasOf rows (tinsIn sz c (plR ps 0)) = paSum (tinsIn sz c (plR ps 0)) := by
  have hq : ∀ q ∈ plR ps 0, q.1.f ≤ q.1.l := fun q hq => (hg _ (plR_mem hg hq).1).2.1
  rw [(wo_ok (setOf_ok _).1 (setOf_ok _).1).2.1, (setOf_ok _).2.1, (setOf_ok _).2.1, has_one, caL_has hs hq, (hasOf_all tinsIn_good).2, paSum_pos tinsIn_good]
  have hn := tinsIn_nil hs hg (b := 0) (c := c) (Int.mul_nonneg hc (Int.le_of_lt hs))
  have hn2 := ceil_le (t := paSum ps) (c := c) hs
  rw [Int.zero_add, ← hn2] at hn
  have e : (0 ≤ c ∧ c ≤ (paSum ps + sz - 1) / sz - 1) ↔ tinsIn sz c (plR ps 0) ≠ [] := by
    rw [Ne, hn]
    omega
  rw [e]
  refine and_congr Iff.rfl ?_
  constructor
  · intro h p hp x h1 h2
    obtain ⟨q, hm, h3, rfl⟩ := tinsIn_mem.mp hp
    obtain ⟨a, b⟩ := (part_has hs).mp ⟨h1, h2⟩
    exact Classical.byContradiction fun z => h ⟨q, hm, x, a, z, b⟩
  · rintro h ⟨q, hm, x, h1, h2, h3⟩
    obtain ⟨a, b⟩ := (part_has hs).mpr ⟨h1, h3⟩
    exact h2 (h (ptC sz c q) (tinsIn_mem.mpr ⟨q, hm, by omega, rfl⟩) x a b)

end Mv

set_option Elab.async false
set_option linter.all false
set_option maxRecDepth 100000
set_option maxHeartbeats 4000000
noncomputable section
namespace L26
open PySem PySem.Spec PyProof.Rows L2 Mv
def top (i : Nat) : Stmt := PySem.Challenge.pw_tinrecall_k26_cases_beyond_counting.main.body.getD i (.Pass ⟨0, 0, 0, 0⟩)
abbrev FnP (K : PySem.W.Frag) (x : Str) (st : Stmt) (f : Addr) (fd : FuncData) : Prop := FunD K x x (defArgs st) (defBody st) (defScope st) [] [] f fd
def b_l_begin : SSem := (seq (setS 1 true (un (sliceE true (varE 0) (cstE .none) (intE (cstE (.int 63)))) oList))
  (seq (ifS (asB (bin true (varE 1) (lstE nilA) (vw2 (eqI false)))) (setS 1 true (lstE (consA true (cstE (.int 7)) nilA))) skip)
  (retS true (dispE (⟨.inr "cells", true, (mvE 1)⟩ :: (⟨.inr "turn", true, (cstE (.int 0))⟩ :: []))))))
def g_l_begin : Def := runDef 1 2 [] b_l_begin
abbrev s_l_begin : Stmt := top 13
def b_l_in_case : SSem := (seq (parS [2, 3] (consA true (lstE nilA) (consA true (cstE (.int 0)) nilA)))
  (seq (forS (seqI true (bin true (varE 0) (cstE (.int 2)) oIx)) (gT 3 (gCn (gN 4) (gCn (gN 5) (gCn (gN 6) gNl)))) (seq (setS 7 true (bin true (bin true (varE 1) (bin true (varE 0) (cstE (.int 1)) oIx) (vw2 mulI)) (varE 3) (vw2 subI)))
  (seq (setS 8 true (bin true (bin true (varE 7) (bin true (varE 0) (cstE (.int 1)) oIx) oAdd) (cstE (.int 1)) (vw2 subI)))
  (seq (ifS (andT (asB (bin true (varE 8) (cstE (.int 0)) (vw2 (ordI .ge)))) (asB (bin true (varE 7) (bin true (varE 6) (varE 5) (vw2 subI)) (vw2 (ordI .le))))) (dropS (mutE 2 .top (consA true (tupE (consA false (varE 4) (consA true (bin true (varE 5) (bin true (cstE (.int 0)) (varE 7) (vw2 max2I)) oAdd) (consA true (bin true (varE 5) (bin true (varE 8) (bin true (varE 6) (varE 5) (vw2 subI)) (vw2 min2I)) oAdd) nilA)))) nilA) gAppend)) skip)
  (setS 3 true (bin true (bin true (bin true (varE 3) (varE 6) oAdd) (varE 5) (vw2 subI)) (cstE (.int 1)) oAdd))))))
  (retV 2)))
def g_l_in_case : Def := runDef 2 9 [] b_l_in_case
abbrev s_l_in_case : Stmt := top 23
def b_l_is_in : SSem := (retS true (un (compE (seqI false (varE 0)) (gT 2 (gCn (gN 2) (gCn (gN 3) gNl))) yesT (chainE (varE 2) (varE 1) (varE 3) (vw2 (ordI .le)) (vw2 (ordI .le))) [2, 3]) oAny))
def g_l_is_in : Def := runDef 2 4 [] b_l_is_in
abbrev s_l_is_in : Stmt := top 25
def b_l_marked_in : SSem := (seq (asgS (gT 3 (gCn (gN 2) (gCn (gN 3) (gCn (gN 4) gNl)))) (varE 1))
  (seq (setS 5 true (cstE (.int 0)))
  (seq (forS (seqI false (varE 0)) (gT 2 (gCn (gN 6) (gCn (gN 7) gNl))) (ifS (asB (bin true (varE 6) (varE 2) (vw2 (eqI false)))) (setS 5 true (bin false (varE 5) (un (compE (seqI false (varE 7)) (gT 2 (gCn (gN 8) (gCn (gN 9) gNl))) yesT (bin true (cstE (.int 0)) (bin true (bin true (bin true (varE 9) (varE 4) (vw2 min2I)) (bin true (varE 8) (varE 3) (vw2 max2I)) (vw2 subI)) (cstE (.int 1)) oAdd) (vw2 max2I)) [8, 9]) oSum) oAdd)) skip))
  (retS false (varE 5)))))
def g_l_marked_in : Def := runDef 2 10 [] b_l_marked_in
abbrev s_l_marked_in : Stmt := top 26
def b_l_same (gself : Def) : SSem := (seq (ifS (asB (bin true (varE 1) (cstE .none) (vw2 (isNI false)))) (retS true (bin true (varE 0) (cstE .none) (vw2 (isNI false)))) skip)
  (seq (ifS (orT (asB (un (varE 1) (vw1 (isaI .list)))) (asB (un (varE 1) (vw1 (isaI .tuple))))) (seq (ifS (asB (bin true (un (varE 0) (vw1 (isaI .list))) (un (varE 1) (vw1 (isaI .list))) (vw2 (eqI true)))) (retS true (cstE (.bool false))) skip)
  (seq (ifS (orT (asB (bin true (un (varE 0) (vw1 (isaI .tuple))) (un (varE 1) (vw1 (isaI .tuple))) (vw2 (eqI true)))) (asB (bin true (un (varE 0) oLen) (un (varE 1) oLen) (vw2 (eqI true))))) (retS true (cstE (.bool false))) skip)
  (retS true (un (compE (zipI (consA false (varE 0) (consA false (varE 1) nilA))) (gT 2 (gCn (gN 2) (gCn (gN 3) gNl))) yesT (callF gself (.e false (varE 2) :: (.e false (varE 3) :: []))) [2, 3]) oAll)))) skip)
  (seq (ifS (asB (un (varE 1) (vw1 (isaI .str)))) (retS true (andE (un (varE 0) (vw1 (isaI .str))) (bin true (varE 0) (varE 1) (vw2 (eqI false))))) skip)
  (retS true (andE (un (varE 0) (vw1 (isaI .int))) (andE (notE (un (varE 0) (vw1 (isaI .bool)))) (bin true (varE 0) (varE 1) (vw2 (eqI false)))))))))
def f_l_same (gself : Def) : Def := runDef 2 4 [] (b_l_same gself)
def g_l_same : Def := fuel f_l_same 12
abbrev s_l_same : Stmt := top 15
def b_places_of : SSem := (seq (setS 1 true (lstE nilA))
  (seq (setS 2 true (cstE (.int 0)))
  (seq (forS (seqI true (bin true (varE 0) (cstE (.int 2)) oIx)) (gT 3 (gCn (gN 3) (gCn (gN 4) (gCn (gN 5) gNl)))) (seq (dropS (mutE 1 .top (consA true (tupE (consA false (varE 3) (consA false (varE 4) (consA false (varE 5) (consA false (varE 2) nilA))))) nilA) gAppend))
  (augS 2 (bin true (bin true (varE 5) (varE 4) (vw2 subI)) (cstE (.int 1)) oAdd) (vw2 addII))))
  (retV 1))))
def g_places_of : Def := runDef 1 6 [] b_places_of
abbrev s_places_of : Stmt := top 5
def b_tins_in : SSem := (seq (setS 2 true (bin true (varE 0) (cstE (.int 1)) oIx))
  (seq (setS 3 true (lstE nilA))
  (seq (forS (seqI true (callF g_places_of (.e false (varE 0) :: []))) (gT 4 (gCn (gN 4) (gCn (gN 5) (gCn (gN 6) (gCn (gN 7) gNl))))) (seq (setS 8 true (bin true (varE 5) (bin true (bin true (varE 5) (bin true (varE 1) (varE 2) (vw2 mulI)) oAdd) (varE 7) (vw2 subI)) (vw2 max2I)))
  (seq (setS 9 true (bin true (varE 6) (bin true (bin true (bin true (bin true (varE 5) (bin true (varE 1) (varE 2) (vw2 mulI)) oAdd) (varE 2) oAdd) (cstE (.int 1)) (vw2 subI)) (varE 7) (vw2 subI)) (vw2 min2I)))
  (ifS (asB (bin true (varE 8) (varE 9) (vw2 (ordI .le)))) (dropS (mutE 3 .top (consA true (tupE (consA false (varE 4) (consA false (varE 8) (consA false (varE 9) nilA)))) nilA) gAppend)) skip))))
  (retV 3))))
def g_tins_in : Def := runDef 2 10 [] b_tins_in
abbrev s_tins_in : Stmt := top 7
def b_l_case_right : SSem := (seq (setS 5 true (frzE (callF g_l_in_case (.e false (varE 0) :: (.e false (varE 2) :: [])))))
  (seq (ifS (notT (asB (callF g_l_same (.e true (frzE (callF g_tins_in (.e false (varE 0) :: (.e false (varE 2) :: [])))) :: (.e false (varE 5) :: []))))) (retS true (cstE (.bool false))) skip)
  (seq (setS 6 true (un (compE (seqI false (varE 5)) (gT 3 (gCn (gN 8) (gCn (gN 9) (gCn (gN 10) gNl)))) yesT (bin true (bin true (varE 10) (varE 9) (vw2 subI)) (cstE (.int 1)) oAdd) [8, 9, 10]) oSum))
  (seq (setS 7 true (un (compE (seqI false (varE 5)) (gN 11) yesT (callF g_l_marked_in (.e false (varE 1) :: (.e false (varE 11) :: []))) [11]) oSum))
  (retS true (andE (bin true (callF g_l_is_in (.e false (varE 3) :: (.e false (varE 2) :: []))) (bin true (varE 7) (cstE (.int 0)) (vw2 (ordI .gt))) (vw2 (eqI false))) (bin true (callF g_l_is_in (.e false (varE 4) :: (.e false (varE 2) :: []))) (andE (bin true (varE 6) (cstE (.int 0)) (vw2 (ordI .gt))) (bin true (varE 7) (varE 6) (vw2 (eqI false)))) (vw2 (eqI false)))))))))
def g_l_case_right : Def := runDef 5 12 [] b_l_case_right
abbrev s_l_case_right : Stmt := top 27
def b_l_is_set : SSem := (seq (ifS (notT (asB (un (varE 0) (vw1 (isaI .list))))) (retS true (cstE (.bool false))) skip)
  (seq (forS (seqI false (varE 0)) (gN 2) (seq (ifS (orT (notT (asB (un (varE 2) (vw1 (isaI .tuple))))) (orT (asB (bin true (un (varE 2) oLen) (cstE (.int 2)) (vw2 (eqI true)))) (notT (asB (chain4E (cstE (.int 0)) (bin true (varE 2) (cstE (.int 0)) oIx) (bin true (varE 2) (cstE (.int 1)) oIx) (varE 1) (vw2 (ordI .le)) (vw2 (ordI .le)) (vw2 (ordI .lt))))))) (retS true (cstE (.bool false))) skip)
  (ifS (asB (un (compE (seqI false (varE 2)) (gN 5) yesT (orE (un (varE 5) (vw1 (isaI .bool))) (notE (un (varE 5) (vw1 (isaI .int))))) [5]) oAny)) (retS true (cstE (.bool false))) skip)))
  (retS true (un (compE (zipI (consA false (varE 0) (consA true (sliceE true (varE 0) (intE (cstE (.int 1))) (cstE .none)) nilA))) (gT 2 (gCn (gN 3) (gCn (gN 4) gNl))) yesT (bin true (bin true (bin true (varE 3) (cstE (.int 1)) oIx) (cstE (.int 1)) oAdd) (bin true (varE 4) (cstE (.int 0)) oIx) (vw2 (ordI .lt))) [3, 4]) oAll))))
def g_l_is_set : Def := runDef 2 6 [] b_l_is_set
abbrev s_l_is_set : Stmt := top 24
def b_l_take : SSem := (seq (setS 2 true (bin true (plE 0 (.key (.inr "turn"))) (cstE (.int 1)) oAdd))
  (seq (asgS (gSubP 0 .top (cstE (.str "turn")) gSet) (varE 2))
  (seq (setS 3 true (bin true (varE 2) (un (plE 0 (.key (.inr "cells"))) oLen) (vw2 modI)))
  (seq (setS 4 true (bin true (plE 0 (.key (.inr "cells"))) (varE 3) oIx))
  (seq (ifS (asB (bin true (varE 4) (bin true (cstE (.int 10)) (cstE (.int 18)) (vw2 powI)) (vw2 (ordI .ge)))) (seq (asgS (gT 2 (gCn (gSubP 0 (.key (.inr "cells")) (varE 3) gSet) (gCn (gN 5) gNl))) (bin true (varE 4) (varE 1) oDivmod))
  (retS false (varE 5))) skip)
  (seq (setS 6 true (bin true (bin true (bin true (bin true (bin true (varE 4) (cstE (.int 2147483629)) (vw2 modI)) (bin true (bin true (varE 2) (varE 2) (vw2 mulI)) (cstE (.int 7919)) (vw2 mulI)) oAdd) (cstE (.int 11)) oAdd) (cstE (.int 48271)) (vw2 mulI)) (cstE (.int 2147483647)) (vw2 modI)))
  (seq (setS 6 true (bin true (bin true (varE 6) (varE 6) (vw2 mulI)) (cstE (.int 2147483587)) (vw2 modI)))
  (retS true (bin true (bin true (bin true (bin true (bin true (varE 6) (bin true (varE 2) (cstE (.int 104729)) (vw2 mulI)) oAdd) (cstE (.int 39373)) (vw2 mulI)) (cstE (.int 2147483629)) (vw2 modI)) (cstE (.int 64)) (vw2 divI)) (varE 1) (vw2 modI))))))))))
def g_l_take : Def := runDef 2 7 [] b_l_take
abbrev s_l_take : Stmt := top 14
def b_l_number : SSem := (seq (ifS (asB (bin true (varE 1) (cstE (.int 3)) (vw2 (ordI .lt)))) (retS true (callF g_l_take (.v 0 :: (.e true (bin true (lstE (consA true (cstE (.int 4)) (consA true (cstE (.int 40)) (consA true (bin true (cstE (.int 10)) (cstE (.int 7)) (vw2 powI)) nilA)))) (varE 1) oIx) :: [])))) skip)
  (seq (setS 2 true (cstE (.int 0)))
  (seq (forS (rng1 (consA true (cstE (.int 5)) nilA)) (gN 3) (setS 2 true (bin true (bin true (varE 2) (bin true (cstE (.int 10)) (cstE (.int 6)) (vw2 powI)) (vw2 mulI)) (callF g_l_take (.v 0 :: (.e true (bin true (cstE (.int 10)) (cstE (.int 6)) (vw2 powI)) :: []))) oAdd)))
  (retS false (varE 2)))))
def g_l_number : Def := runDef 2 4 [] b_l_number
abbrev s_l_number : Stmt := top 16
def b_l_set_of : SSem := (seq (setS 1 true (lstE nilA))
  (seq (forS (seqI true (un (varE 0) oSort)) (gT 2 (gCn (gN 2) (gCn (gN 3) gNl))) (seq (ifS (asB (bin true (varE 2) (varE 3) (vw2 (ordI .gt)))) contS skip)
  (ifS (andT (asB (bin true (varE 1) (lstE nilA) (vw2 (eqI true)))) (asB (bin true (varE 2) (bin true (bin true (bin true (varE 1) (un (cstE (.int 1)) (vw1 negI)) oIx) (cstE (.int 1)) oIx) (cstE (.int 1)) oAdd) (vw2 (ordI .le))))) (asgS (gSubP 1 .top (un (cstE (.int 1)) (vw1 negI)) gSet) (tupE (consA true (bin true (bin true (varE 1) (un (cstE (.int 1)) (vw1 negI)) oIx) (cstE (.int 0)) oIx) (consA true (bin true (varE 3) (bin true (bin true (varE 1) (un (cstE (.int 1)) (vw1 negI)) oIx) (cstE (.int 1)) oIx) (vw2 max2I)) nilA)))) (dropS (mutE 1 .top (consA true (tupE (consA false (varE 2) (consA false (varE 3) nilA))) nilA) gAppend)))))
  (retV 1)))
def g_l_set_of : Def := runDef 1 4 [] b_l_set_of
abbrev s_l_set_of : Stmt := top 19
def b_l_marked_by : SSem := (seq (setS 4 true (lstE nilA))
  (seq (forS (seqI false (varE 1)) (gN 5) (seq (setS 6 true (lstE nilA))
  (seq (forS (rng1 (consA true (callF g_l_take (.v 0 :: (.e true (cstE (.int 4)) :: []))) nilA)) (gN 7) (seq (setS 8 true (frzE (callF g_l_number (.v 0 :: (.e true (bin true (lstE (consA true (cstE (.int 1)) (consA true (cstE (.int 3)) nilA))) (varE 3) oIx) :: [])))))
  (seq (setS 9 true (compE (seqI true (bin true (varE 2) (cstE (.int 2)) oIx)) (gN 12) (asB (bin true (bin true (varE 12) (cstE (.int 0)) oIx) (varE 5) (vw2 (eqI false)))) (varE 12) [12]))
  (fzS 9 (seq (ifS (andT (asB (bin true (varE 9) (lstE nilA) (vw2 (eqI true)))) (asB (bin true (callF g_l_take (.v 0 :: (.e true (cstE (.int 4)) :: []))) (cstE (.int 0)) (vw2 (ordI .gt))))) (seq (setS 10 true (bin false (varE 9) (callF g_l_take (.v 0 :: (.e true (un (varE 9) oLen) :: []))) oIx))
  (seq (setS 11 true (bin true (bin true (varE 10) (cstE (.int 1)) oIx) (bin true (bin true (varE 2) (cstE (.int 1)) oIx) (callF g_l_take (.v 0 :: (.e true (cstE (.int 3)) :: []))) (vw2 mulI)) oAdd))
  (setS 8 true (bin true (cstE (.int 0)) (bin true (lstE (consA true (bin true (varE 10) (cstE (.int 1)) oIx) (consA true (bin true (varE 10) (cstE (.int 2)) oIx) (consA false (varE 11) (consA true (bin true (varE 11) (cstE (.int 1)) (vw2 subI)) (consA true (bin true (bin true (varE 10) (cstE (.int 1)) oIx) (cstE (.int 1)) (vw2 subI)) (consA true (bin true (bin true (varE 10) (cstE (.int 2)) oIx) (cstE (.int 1)) oAdd) nilA))))))) (callF g_l_take (.v 0 :: (.e true (cstE (.int 6)) :: []))) oIx) (vw2 max2I))))) skip)
  (dropS (mutE 6 .top (consA true (tupE (consA false (varE 8) (consA true (frzE (bin false (varE 8) (callF g_l_number (.v 0 :: (.e true (bin true (lstE (consA true (cstE (.int 0)) (consA true (bin true (lstE (consA true (cstE (.int 1)) (consA true (cstE (.int 3)) nilA))) (varE 3) oIx) nilA))) (callF g_l_take (.v 0 :: (.e true (cstE (.int 2)) :: []))) oIx) :: []))) oAdd)) nilA))) nilA) gAppend)))))))
  (ifS (asB (bin true (callF g_l_take (.v 0 :: (.e true (cstE (.int 5)) :: []))) (cstE (.int 0)) (vw2 (ordI .gt)))) (dropS (mutE 4 .top (consA true (callF g_l_take (.v 0 :: (.e true (bin true (un (varE 4) oLen) (cstE (.int 1)) oAdd) :: []))) (consA true (tupE (consA false (varE 5) (consA true (frzE (callF g_l_set_of (.e true (fzE 6) :: []))) nilA))) nilA)) gInsert)) skip))))
  (retV 4)))
def g_l_marked_by : Def := runDef 4 13 [] b_l_marked_by
abbrev s_l_marked_by : Stmt := top 22
def b_l_marks_by : SSem := (seq (setS 2 true (cstE (.str "abcdefghijklmnopqrstuvwxyz0123456789")))
  (seq (setS 3 true (compE (rng1 (consA true (bin true (cstE (.int 4)) (callF g_l_take (.v 0 :: (.e true (cstE (.int 7)) :: []))) oAdd) nilA)) (gN 8) yesT (bin false (varE 2) (callF g_l_take (.v 0 :: (.e true (cstE (.int 36)) :: []))) oIx) [8]))
  (seq (parS [4, 5, 6] (consA true (callF g_l_take (.v 0 :: (.e true (un (varE 3) oLen) :: []))) (consA true (callF g_l_take (.v 0 :: (.e true (cstE (.int 36)) :: []))) (consA true (bin true (lstE (consA true (cstE (.int 1)) (consA true (cstE (.int 5)) (consA true (cstE (.int 7)) (consA true (cstE (.int 35)) nilA))))) (callF g_l_take (.v 0 :: (.e true (cstE (.int 4)) :: []))) oIx) nilA))))
  (seq (setS 7 true (lstE nilA))
  (seq (forS (rng1 (consA false (varE 1) nilA)) (gN 8) (seq (asgS (gSubP 3 .top (varE 4) gSet) (bin true (varE 2) (bin true (bin true (varE 5) (bin true (varE 6) (varE 8) (vw2 mulI)) oAdd) (cstE (.int 36)) (vw2 modI)) oIx))
  (dropS (mutE 7 .top (consA true (strM (cstE (.str "")) (varE 3) gJoin) nilA) gAppend))))
  (retV 7))))))
def g_l_marks_by : Def := runDef 2 9 [] b_l_marks_by
abbrev s_l_marks_by : Stmt := top 18
def b_l_names : SSem := (seq (setS 2 true (cstE (.str "abcdefghijklmnopqrstuvwxyz")))
  (seq (setS 3 true (compE (rng1 (consA true (bin true (cstE (.int 1)) (callF g_l_take (.v 0 :: (.e true (cstE (.int 8)) :: []))) oAdd) nilA)) (gN 8) yesT (bin false (varE 2) (callF g_l_take (.v 0 :: (.e true (cstE (.int 26)) :: []))) oIx) [8]))
  (seq (parS [4, 5, 6] (consA true (callF g_l_take (.v 0 :: (.e true (un (varE 3) oLen) :: []))) (consA true (callF g_l_take (.v 0 :: (.e true (cstE (.int 26)) :: []))) (consA true (bin true (lstE (consA true (cstE (.int 1)) (consA true (cstE (.int 5)) (consA true (cstE (.int 7)) (consA true (cstE (.int 25)) nilA))))) (callF g_l_take (.v 0 :: (.e true (cstE (.int 4)) :: []))) oIx) nilA))))
  (seq (setS 7 true (lstE nilA))
  (seq (forS (rng1 (consA false (varE 1) nilA)) (gN 8) (seq (asgS (gSubP 3 .top (varE 4) gSet) (bin true (varE 2) (bin true (bin true (varE 5) (bin true (varE 6) (varE 8) (vw2 mulI)) oAdd) (cstE (.int 26)) (vw2 modI)) oIx))
  (dropS (mutE 7 .top (consA true (strM (cstE (.str "")) (varE 3) gJoin) nilA) gAppend))))
  (retV 7))))))
def g_l_names : Def := runDef 2 9 [] b_l_names
abbrev s_l_names : Stmt := top 17
def b_l_parts_by : SSem := (seq (setS 4 true (lstE nilA))
  (seq (forS (rng1 (consA false (varE 2) nilA)) (gN 5) (seq (parS [6, 7] (consA true (bin false (varE 1) (callF g_l_take (.v 0 :: (.e true (un (varE 1) oLen) :: []))) oIx) (consA true (frzE (callF g_l_number (.v 0 :: (.e true (bin true (lstE (consA true (cstE (.int 1)) (consA true (cstE (.int 3)) nilA))) (varE 3) oIx) :: [])))) nilA)))
  (seq (ifS (andT (asB (bin true (varE 4) (lstE nilA) (vw2 (eqI true)))) (asB (bin true (callF g_l_take (.v 0 :: (.e true (cstE (.int 2)) :: []))) (cstE (.int 0)) (vw2 (eqI false))))) (seq (setS 8 true (binV 4 (callF g_l_take (.v 0 :: (.e true (un (varE 4) oLen) :: []))) oIx))
  (parS [6, 7] (consA true (bin true (varE 8) (cstE (.int 0)) oIx) (consA true (bin true (lstE (consA true (bin true (varE 8) (cstE (.int 1)) oIx) (consA true (bin true (varE 8) (cstE (.int 2)) oIx) (consA true (bin true (bin true (varE 8) (cstE (.int 2)) oIx) (cstE (.int 1)) oAdd) (consA true (bin true (cstE (.int 0)) (bin true (bin true (varE 8) (cstE (.int 1)) oIx) (cstE (.int 1)) (vw2 subI)) (vw2 max2I)) nilA))))) (callF g_l_take (.v 0 :: (.e true (cstE (.int 4)) :: []))) oIx) nilA)))) skip)
  (dropS (mutE 4 .top (consA true (tupE (consA false (varE 6) (consA false (varE 7) (consA true (frzE (bin false (varE 7) (callF g_l_number (.v 0 :: (.e true (bin true (bin true (lstE (consA true (frzE (lstE (consA true (cstE (.int 0)) (consA true (cstE (.int 1)) nilA)))) (consA true (frzE (lstE (consA true (cstE (.int 0)) (consA true (cstE (.int 3)) nilA)))) nilA))) (varE 3) oIx) (callF g_l_take (.v 0 :: (.e true (cstE (.int 2)) :: []))) oIx) :: []))) oAdd)) nilA)))) nilA) gAppend)))))
  (retV 4)))
def g_l_parts_by : Def := runDef 4 9 [] b_l_parts_by
abbrev s_l_parts_by : Stmt := top 20
def b_l_packing_by : SSem := (seq (setS 4 true (frzE (callF g_l_parts_by (.v 0 :: (.e false (varE 2) :: (.e true (bin true (lstE (consA true (cstE (.int 0)) (consA true (cstE (.int 1)) (consA true (cstE (.int 2)) (consA true (cstE (.int 3)) (consA true (cstE (.int 12)) nilA)))))) (callF g_l_take (.v 0 :: (.e true (cstE (.int 5)) :: []))) oIx) :: (.e false (varE 3) :: [])))))))
  (seq (setS 5 true (un (compE (seqI false (varE 4)) (gT 3 (gCn (gN 7) (gCn (gN 8) (gCn (gN 9) gNl)))) yesT (bin true (bin true (varE 9) (varE 8) (vw2 subI)) (cstE (.int 1)) oAdd) [7, 8, 9]) oSum))
  (seq (setS 6 true (frzE (lstE (consA true (cstE (.int 1)) (consA true (bin true (cstE (.int 1)) (callF g_l_take (.v 0 :: (.e true (cstE (.int 12)) :: []))) oAdd) (consA true (bin true (cstE (.int 1)) (varE 5) (vw2 max2I)) (consA true (bin true (varE 5) (cstE (.int 1)) oAdd) (consA true (bin true (cstE (.int 1)) (callF g_l_number (.v 0 :: (.e true (bin true (lstE (consA true (cstE (.int 1)) (consA true (cstE (.int 3)) nilA))) (varE 3) oIx) :: []))) oAdd) nilA))))))))
  (retS true (tupE (consA false (varE 1) (consA true (bin false (varE 6) (callF g_l_take (.v 0 :: (.e true (cstE (.int 5)) :: []))) oIx) (consA false (varE 4) nilA))))))))
def g_l_packing_by : Def := runDef 4 10 [] b_l_packing_by
abbrev s_l_packing_by : Stmt := top 21
def b_cases_at : SSem := (retS true (compE (seqI false (varE 3)) (gT 2 (gCn (gN 4) (gCn (gN 5) gNl))) yesT (tupE (consA true (bin true (bin true (bin true (varE 4) (varE 2) (vw2 subI)) (varE 1) oAdd) (varE 0) (vw2 divI)) (consA true (bin true (bin true (bin true (varE 5) (varE 2) (vw2 subI)) (varE 1) oAdd) (varE 0) (vw2 divI)) nilA))) [4, 5]))
def g_cases_at : Def := runDef 4 6 [] b_cases_at
abbrev s_cases_at : Stmt := top 8
def b_cases_of : SSem := (seq (setS 1 true (un (compE (seqI true (bin true (varE 0) (cstE (.int 2)) oIx)) (gT 3 (gCn (gN 2) (gCn (gN 3) (gCn (gN 4) gNl)))) yesT (bin true (bin true (varE 4) (varE 3) (vw2 subI)) (cstE (.int 1)) oAdd) [2, 3, 4]) oSum))
  (retS true (bin true (bin true (bin true (varE 1) (bin true (varE 0) (cstE (.int 1)) oIx) oAdd) (cstE (.int 1)) (vw2 subI)) (bin true (varE 0) (cstE (.int 1)) oIx) (vw2 divI))))
def g_cases_of : Def := runDef 1 5 [] b_cases_of
abbrev s_cases_of : Stmt := top 6
def b_set_of : SSem := (seq (setS 1 true (lstE nilA))
  (seq (forS (seqI true (un (varE 0) oSort)) (gT 2 (gCn (gN 2) (gCn (gN 3) gNl))) (seq (ifS (asB (bin true (varE 2) (varE 3) (vw2 (ordI .gt)))) contS skip)
  (ifS (andT (asB (bin true (varE 1) (lstE nilA) (vw2 (eqI true)))) (asB (bin true (varE 2) (bin true (bin true (bin true (varE 1) (un (cstE (.int 1)) (vw1 negI)) oIx) (cstE (.int 1)) oIx) (cstE (.int 1)) oAdd) (vw2 (ordI .le))))) (asgS (gSubP 1 .top (un (cstE (.int 1)) (vw1 negI)) gSet) (tupE (consA true (bin true (bin true (varE 1) (un (cstE (.int 1)) (vw1 negI)) oIx) (cstE (.int 0)) oIx) (consA true (bin true (varE 3) (bin true (bin true (varE 1) (un (cstE (.int 1)) (vw1 negI)) oIx) (cstE (.int 1)) oIx) (vw2 max2I)) nilA)))) (dropS (mutE 1 .top (consA true (tupE (consA false (varE 2) (consA false (varE 3) nilA))) nilA) gAppend)))))
  (retV 1)))
def g_set_of : Def := runDef 1 4 [] b_set_of
abbrev s_set_of : Stmt := top 1
def b_tins_marked : SSem := (seq (setS 2 true (lstE nilA))
  (seq (forS (seqI false (varE 0)) (gT 2 (gCn (gN 3) (gCn (gN 4) gNl))) (ifS (asB (bin true (varE 3) (varE 1) (vw2 (eqI false)))) (dropS (mutE 2 .top (consA false (varE 4) nilA) gExtA)) skip))
  (retS true (callF g_set_of (.e true (fzE 2) :: [])))))
def g_tins_marked : Def := runDef 2 5 [] b_tins_marked
abbrev s_tins_marked : Stmt := top 9
def b_without : SSem := (seq (setS 2 true (lstE nilA))
  (seq (forS (seqI false (varE 0)) (gT 2 (gCn (gN 3) (gCn (gN 4) gNl))) (seq (forS (seqI false (varE 1)) (gT 2 (gCn (gN 5) (gCn (gN 6) gNl))) (ifS (andT (asB (bin true (varE 5) (varE 4) (vw2 (ordI .le)))) (asB (bin true (varE 6) (varE 3) (vw2 (ordI .ge))))) (seq (ifS (asB (bin true (varE 3) (varE 5) (vw2 (ordI .lt)))) (dropS (mutE 2 .top (consA true (tupE (consA false (varE 3) (consA true (bin true (varE 5) (cstE (.int 1)) (vw2 subI)) nilA))) nilA) gAppend)) skip)
  (setS 3 true (bin true (varE 6) (cstE (.int 1)) oAdd))) skip))
  (ifS (asB (bin true (varE 3) (varE 4) (vw2 (ordI .le)))) (dropS (mutE 2 .top (consA true (tupE (consA false (varE 3) (consA false (varE 4) nilA))) nilA) gAppend)) skip)))
  (retV 2)))
def g_without : Def := runDef 2 7 [] b_without
abbrev s_without : Stmt := top 3
def b_cases_all : SSem := (seq (setS 2 true (lstE nilA))
  (seq (forS (seqI true (callF g_places_of (.e false (varE 0) :: []))) (gT 4 (gCn (gN 3) (gCn (gN 4) (gCn (gN 5) (gCn (gN 6) gNl))))) (seq (setS 7 true (frzE (callF g_without (.e true (frzE (lstE (consA true (tupE (consA false (varE 4) (consA false (varE 5) nilA))) nilA))) :: (.e true (frzE (callF g_tins_marked (.e false (varE 1) :: (.e false (varE 3) :: [])))) :: [])))))
  (dropS (mutE 2 .top (consA true (callF g_cases_at (.e true (bin true (varE 0) (cstE (.int 1)) oIx) :: (.e false (varE 6) :: (.e false (varE 4) :: (.e false (varE 7) :: []))))) nilA) gExtA))))
  (retS true (callF g_without (.e true (frzE (callF g_set_of (.e true (frzE (lstE (consA true (tupE (consA true (cstE (.int 0)) (consA true (bin true (callF g_cases_of (.e false (varE 0) :: [])) (cstE (.int 1)) (vw2 subI)) nilA))) nilA))) :: []))) :: (.e true (frzE (callF g_set_of (.e true (fzE 2) :: []))) :: []))))))
def g_cases_all : Def := runDef 2 8 [] b_cases_all
abbrev s_cases_all : Stmt := top 11
def b_both_of : SSem := (seq (setS 2 true (lstE nilA))
  (seq (setS 3 true (cstE (.int 0)))
  (seq (setS 4 true (cstE (.int 0)))
  (seq (whileS 1000000 (andT (asB (bin true (varE 3) (un (varE 0) oLen) (vw2 (ordI .lt)))) (asB (bin true (varE 4) (un (varE 1) oLen) (vw2 (ordI .lt))))) (seq (parS [5, 6] (consA true (bin true (bin true (bin true (varE 0) (varE 3) oIx) (cstE (.int 0)) oIx) (bin true (bin true (varE 1) (varE 4) oIx) (cstE (.int 0)) oIx) (vw2 max2I)) (consA true (bin true (bin true (bin true (varE 0) (varE 3) oIx) (cstE (.int 1)) oIx) (bin true (bin true (varE 1) (varE 4) oIx) (cstE (.int 1)) oIx) (vw2 min2I)) nilA)))
  (seq (ifS (asB (bin true (varE 5) (varE 6) (vw2 (ordI .le)))) (dropS (mutE 2 .top (consA true (tupE (consA false (varE 5) (consA false (varE 6) nilA))) nilA) gAppend)) skip)
  (ifS (asB (bin true (bin true (bin true (varE 0) (varE 3) oIx) (cstE (.int 1)) oIx) (bin true (bin true (varE 1) (varE 4) oIx) (cstE (.int 1)) oIx) (vw2 (ordI .lt)))) (augS 3 (cstE (.int 1)) (vw2 addII)) (augS 4 (cstE (.int 1)) (vw2 addII))))))
  (retV 2)))))
def g_both_of : Def := runDef 2 7 [] b_both_of
abbrev s_both_of : Stmt := top 2
def b_cases_with : SSem := (seq (setS 2 true (lstE nilA))
  (seq (forS (seqI true (callF g_places_of (.e false (varE 0) :: []))) (gT 4 (gCn (gN 3) (gCn (gN 4) (gCn (gN 5) (gCn (gN 6) gNl))))) (seq (setS 7 true (frzE (callF g_both_of (.e true (frzE (lstE (consA true (tupE (consA false (varE 4) (consA false (varE 5) nilA))) nilA))) :: (.e true (frzE (callF g_tins_marked (.e false (varE 1) :: (.e false (varE 3) :: [])))) :: [])))))
  (dropS (mutE 2 .top (consA true (callF g_cases_at (.e true (bin true (varE 0) (cstE (.int 1)) oIx) :: (.e false (varE 6) :: (.e false (varE 4) :: (.e false (varE 7) :: []))))) nilA) gExtA))))
  (retS true (callF g_set_of (.e true (fzE 2) :: [])))))
def g_cases_with : Def := runDef 2 8 [] b_cases_with
abbrev s_cases_with : Stmt := top 10
def b_law : SSem := (seq (setS 1 true (callF g_l_begin (.e false (varE 0) :: [])))
  (seq (parS [2, 3] (consA true (frzE (callF g_l_marks_by (.v 1 :: (.e true (cstE (.int 3)) :: [])))) (consA true (bin true (callF g_l_names (.v 1 :: (.e true (cstE (.int 1)) :: []))) (cstE (.int 0)) oIx) nilA)))
  (seq (forS (rng1 (consA true (cstE (.int 2)) nilA)) (gN 4) (seq (setS 5 true (callF g_l_packing_by (.v 1 :: (.e false (varE 3) :: (.e false (varE 2) :: (.e true (cstE (.int 1)) :: []))))))
  (seq (parS [6, 7] (consA true (callF g_cases_of (.e false (varE 5) :: [])) (consA true (un (compE (seqI true (bin true (varE 5) (cstE (.int 2)) oIx)) (gT 3 (gCn (gN 15) (gCn (gN 13) (gCn (gN 14) gNl)))) yesT (bin true (bin true (varE 14) (varE 13) (vw2 subI)) (cstE (.int 1)) oAdd) [15, 13, 14]) oSum) nilA)))
  (seq (ifS (andT (notT (asB (chainE (bin true (bin true (varE 6) (cstE (.int 1)) (vw2 subI)) (bin true (varE 5) (cstE (.int 1)) oIx) (vw2 mulI)) (varE 7) (bin true (varE 6) (bin true (varE 5) (cstE (.int 1)) oIx) (vw2 mulI)) (vw2 (ordI .lt)) (vw2 (ordI .le))))) (asB (bin true (tupE (consA false (varE 7) (consA false (varE 6) nilA))) (tupE (consA true (cstE (.int 0)) (consA true (cstE (.int 0)) nilA))) (vw2 (eqI true))))) (retS true (cstE (.bool false))) skip)
  (seq (setS 8 true (frzE (callF g_l_marked_by (.v 1 :: (.e false (varE 2) :: (.e false (varE 5) :: (.e true (cstE (.int 1)) :: [])))))))
  (seq (parS [9, 10] (consA true (frzE (callF g_cases_with (.e false (varE 5) :: (.e false (varE 8) :: [])))) (consA true (frzE (callF g_cases_all (.e false (varE 5) :: (.e false (varE 8) :: [])))) nilA)))
  (seq (ifS (orT (notT (asB (callF g_l_is_set (.e false (varE 9) :: (.e false (varE 6) :: []))))) (notT (asB (callF g_l_is_set (.e false (varE 10) :: (.e false (varE 6) :: [])))))) (retS true (cstE (.bool false))) skip)
  (seq (parS [11, 12] (consA true (lstE (consA true (cstE (.int 0)) (consA false (varE 6) (consA true (bin true (varE 6) (cstE (.int 1)) oAdd) (consA true (bin true (callF g_l_number (.v 1 :: (.e true (cstE (.int 3)) :: []))) (bin true (varE 6) (cstE (.int 1)) oAdd) (vw2 modI)) nilA))))) (consA true (cstE (.int 0)) nilA)))
  (seq (forS (seqI true (bin true (varE 9) (varE 10) oAdd)) (gT 2 (gCn (gN 13) (gCn (gN 14) gNl))) (dropS (mutE 11 .top (consA true (lstE (consA false (varE 13) (consA false (varE 14) (consA true (bin true (cstE (.int 0)) (bin true (varE 13) (cstE (.int 1)) (vw2 subI)) (vw2 max2I)) (consA true (bin true (varE 14) (cstE (.int 1)) oAdd) nilA))))) nilA) gExtA)))
  (seq (forS (seqI true (bin true (varE 5) (cstE (.int 2)) oIx)) (gT 3 (gCn (gN 15) (gCn (gN 13) (gCn (gN 14) gNl)))) (seq (dropS (mutE 11 .top (consA true (lstE (consA true (bin true (varE 12) (bin true (varE 5) (cstE (.int 1)) oIx) (vw2 divI)) (consA true (bin true (cstE (.int 0)) (bin true (bin true (varE 12) (bin true (varE 5) (cstE (.int 1)) oIx) (vw2 divI)) (cstE (.int 1)) (vw2 subI)) (vw2 max2I)) nilA))) nilA) gExtA))
  (setS 12 true (bin true (bin true (bin true (varE 12) (varE 14) oAdd) (varE 13) (vw2 subI)) (cstE (.int 1)) oAdd))))
  (ifS (notT (asB (un (compE (seqI true (fzE 11)) (gN 16) yesT (callF g_l_case_right (.e false (varE 5) :: (.e false (varE 8) :: (.e false (varE 16) :: (.e false (varE 9) :: (.e false (varE 10) :: [])))))) [16]) oAll))) (retS true (cstE (.bool false))) skip)))))))))))
  (retS true (cstE (.bool true))))))
def g_law : Def := runDef 1 17 [] b_law
abbrev s_law : Stmt := top 28
theorem sc_l_begin : FnScope ["_law_script", "_law_cells"] ["_law_script"] (defScope s_l_begin) := ⟨rfl, rfl, rfl, by decide +kernel, rfl, by decide +kernel, by decide +kernel⟩
theorem ok_l_begin {P : Program} {w : World} {K : PySem.W.Frag} {mg : Str → Option Value} {base : Heap} {f : Addr} {fd : FuncData} (F : FnP K "_law_begin" s_l_begin f fd) (hm : mg "_law_begin" = some (.ref f)) (n_list : mg "list" = none) : Cal P w K mg base 1 "_law_begin" ["_law_script"] g_l_begin := by
  refine cal_mk (asg := [1]) F hm (F.bindsN fun _ _ _ _ _ _ us hl => match us, hl with | [_], _ => rfl) sc_l_begin rfl rfl ?hrb fun cdv A outer s H E hr => ?hb
  case hb =>
    have hN := sc_l_begin.nd
    have hu : (A.deeper (envOfC "_law_begin" (defScope s_l_begin) s.heap.objs.size f cdv)).units + 100 < cLine := by have := hr.un; omega
    have hu1 : (A.deeper (envOfC "_law_begin" (defScope s_l_begin) s.heap.objs.size f cdv)).units + 1 < cLine := by have := hr.un; omega
    exact sss_imp (sss_cons (ss_set hN rfl (.inl rfl) (se_t1 call_list_of ro_list rfl n_list (by decide +kernel) (se_slice (se_pv (pv 0)) so_none (so_some se_int) (fun _ => .inr rfl))))
  (sss_cons (ss_if (st_cmp (Mv.op_eqD hu) ro_eq (se_pv (pv 1)) (se_lst sa_nil) (fun _ => .inr rfl) (nomark _)) (sss_one (ss_set hN rfl (.inl rfl) (se_lst (sa_cons se_int sa_nil)))) sss_nil)
  (sss_one (ss_ret (se_disp (SD.cons (se_mv (pv 1)) (SD.cons se_int SD.nil)) (by intro z; cases z)))))) (by decide)
  case hrb => decide
theorem sc_l_in_case : FnScope ["_law_packing", "_law_case", "_law_rows", "_law_ahead", "_law_mark", "_law_first", "_law_last", "_law_low", "_law_high"] ["_law_packing", "_law_case"] (defScope s_l_in_case) := ⟨rfl, rfl, rfl, by decide +kernel, rfl, by decide +kernel, by decide +kernel⟩
theorem ok_l_in_case {P : Program} {w : World} {K : PySem.W.Frag} {mg : Str → Option Value} {base : Heap} {f : Addr} {fd : FuncData} (F : FnP K "_law_in_case" s_l_in_case f fd) (hm : mg "_law_in_case" = some (.ref f)) (n_max : mg "max" = none) (n_min : mg "min" = none) : Cal P w K mg base 1 "_law_in_case" ["_law_packing", "_law_case"] g_l_in_case := by
  refine cal_mk (asg := [2, 3, 4, 5, 6, 7, 8]) F hm (F.bindsN fun _ _ _ _ _ _ us hl => match us, hl with | [_, _], _ => rfl) sc_l_in_case rfl rfl ?hrb fun cdv A outer s H E hr => ?hb
  case hb =>
    have hN := sc_l_in_case.nd
    have hu : (A.deeper (envOfC "_law_in_case" (defScope s_l_in_case) s.heap.objs.size f cdv)).units + 100 < cLine := by have := hr.un; omega
    have hu1 : (A.deeper (envOfC "_law_in_case" (defScope s_l_in_case) s.heap.objs.size f cdv)).units + 1 < cLine := by have := hr.un; omega
    exact sss_imp (sss_cons (ss_par rfl hN rfl rfl (by decide) rfl rfl (sa_cons (se_lst sa_nil) (sa_cons se_int sa_nil)) (by rfl))
  (sss_cons (ss_for PassesOwn.never rfl (si_seq (se_ix ix_seq ro_ix (se_pv (pv 0)) se_int (fun _ => .inr rfl) (fun _ _ => rfl))) (sg_tup rfl (sgs_cons (sg_name hN rfl (.inl rfl)) (sgs_cons (sg_name hN rfl (.inl rfl)) (sgs_cons (sg_name hN rfl (.inl rfl)) sgs_nil)))) (sss_cons (ss_set hN rfl (.inl rfl) (se_bin op_sub ro_sub (se_bin op_mulX ro_mul (se_pv (pv 1)) (se_ix ix_seq ro_ix (se_pv (pv 0)) se_int (fun _ => .inr rfl) (fun _ _ => rfl)) (fun _ => .inr rfl)) (se_pv (pv 3)) (fun _ => .inl rfl)))
  (sss_cons (ss_set hN rfl (.inl rfl) (se_bin op_sub ro_sub (se_bin op_addA ro_add (se_pv (pv 7)) (se_ix ix_seq ro_ix (se_pv (pv 0)) se_int (fun _ => .inr rfl) (fun _ _ => rfl)) (fun _ => .inr rfl)) se_int (fun _ => .inl rfl)))
  (sss_cons (ss_if (SW.st (sw_and (st_cmp (op_ord (o := .ge) hu) ro_ord (se_pv (pv 8)) se_int (fun _ => .inr rfl) (nomark _)) (sw_and1 (st_cmp (op_ord (o := .le) hu) ro_ord (se_pv (pv 7)) (se_bin op_sub ro_sub (se_pv (pv 6)) (se_pv (pv 5)) (fun _ => .inr rfl)) (fun _ => .inr rfl) (nomark _))))) (sss_one (ss_expr (se_mut PySem.F.plainAttrs_list PySem.F.slot_list_append PySem.F.type_list_append mt_append rm_append (sp_top (pv 2)) (sa_cons (se_tup (sa_cons (se_pv (pv 4)) (sa_cons (se_bin op_addA ro_add (se_pv (pv 5)) (se_b2 (call_max2 rfl) ro_max2 rfl n_max (by decide +kernel) se_int (se_pv (pv 7)) (fun _ => .inl rfl)) (fun _ => .inr rfl)) (sa_cons (se_bin op_addA ro_add (se_pv (pv 5)) (se_b2 (call_min2 rfl) ro_min2 rfl n_min (by decide +kernel) (se_pv (pv 8)) (se_bin op_sub ro_sub (se_pv (pv 6)) (se_pv (pv 5)) (fun _ => .inr rfl)) (fun _ => .inr rfl)) (fun _ => .inr rfl)) sa_nil)))) sa_nil) (.inl rfl)))) sss_nil)
  (sss_one (ss_set hN rfl (.inl rfl) (se_bin op_addA ro_add (se_bin op_sub ro_sub (se_bin op_addA ro_add (se_pv (pv 3)) (se_pv (pv 6)) (fun _ => .inr rfl)) (se_pv (pv 5)) (fun _ => .inl rfl)) se_int (fun _ => .inl rfl))))))))
  (sss_one (ss_retV (pv 2))))) (by decide)
  case hrb => decide
theorem sc_l_is_in : FnScope ["_law_some", "_law_number_here", "_law_first", "_law_last"] ["_law_some", "_law_number_here"] (defScope s_l_is_in) := ⟨rfl, rfl, rfl, by decide +kernel, rfl, by decide +kernel, by decide +kernel⟩
theorem ok_l_is_in {P : Program} {w : World} {K : PySem.W.Frag} {mg : Str → Option Value} {base : Heap} {f : Addr} {fd : FuncData} (F : FnP K "_law_is_in" s_l_is_in f fd) (hm : mg "_law_is_in" = some (.ref f)) (n_any : mg "any" = none) : Cal P w K mg base 1 "_law_is_in" ["_law_some", "_law_number_here"] g_l_is_in := by
  refine cal_mk (asg := []) F hm (F.bindsN fun _ _ _ _ _ _ us hl => match us, hl with | [_, _], _ => rfl) sc_l_is_in rfl rfl ?hrb fun cdv A outer s H E hr => ?hb
  case hb =>
    have hN := sc_l_is_in.nd
    have hu : (A.deeper (envOfC "_law_is_in" (defScope s_l_is_in) s.heap.objs.size f cdv)).units + 100 < cLine := by have := hr.un; omega
    have hu1 : (A.deeper (envOfC "_law_is_in" (defScope s_l_is_in) s.heap.objs.size f cdv)).units + 1 < cLine := by have := hr.un; omega
    exact sss_imp (sss_one (ss_ret (se_b1 (cr_any rfl) ro_any rfl n_any (by decide +kernel) (se_lc rfl hN (si_seq (se_pv (pv 0))) (own := [("_law_first", 2), ("_law_last", 3)]) (blkOk_by (N := ["_law_some", "_law_number_here", "_law_first", "_law_last"]) (sc := defScope s_l_is_in) (own := [("_law_first", 2), ("_law_last", 3)]) (by decide +kernel)) (fun _ _ _ _ _ => (sg_tup rfl (sgs_cons (sg_name hN rfl (.inl rfl)) (sgs_cons (sg_name hN rfl (.inl rfl)) sgs_nil)))) (fun _ _ _ _ _ => sfs_nil) (fun _ _ _ _ _ => (se_chain (op_ord (o := .le) hu) ro_ord (op_ord (o := .le) hu) ro_ord (se_pv (pv 2)) (se_pv (pv 1)) (se_pv (pv 3)))) (by decide))))) (by decide)
  case hrb => decide
theorem sc_l_marked_in : FnScope ["_law_rows", "_law_part", "_law_mark", "_law_first", "_law_last", "_law_many", "_law_own", "_law_tins", "_law_low", "_law_high"] ["_law_rows", "_law_part"] (defScope s_l_marked_in) := ⟨rfl, rfl, rfl, by decide +kernel, rfl, by decide +kernel, by decide +kernel⟩
theorem ok_l_marked_in {P : Program} {w : World} {K : PySem.W.Frag} {mg : Str → Option Value} {base : Heap} {f : Addr} {fd : FuncData} (F : FnP K "_law_marked_in" s_l_marked_in f fd) (hm : mg "_law_marked_in" = some (.ref f)) (n_max : mg "max" = none) (n_min : mg "min" = none) (n_sum : mg "sum" = none) : Cal P w K mg base 1 "_law_marked_in" ["_law_rows", "_law_part"] g_l_marked_in := by
  refine cal_mk (asg := [2, 3, 4, 5, 6, 7]) F hm (F.bindsN fun _ _ _ _ _ _ us hl => match us, hl with | [_, _], _ => rfl) sc_l_marked_in rfl rfl ?hrb fun cdv A outer s H E hr => ?hb
  case hb =>
    have hN := sc_l_marked_in.nd
    have hu : (A.deeper (envOfC "_law_marked_in" (defScope s_l_marked_in) s.heap.objs.size f cdv)).units + 100 < cLine := by have := hr.un; omega
    have hu1 : (A.deeper (envOfC "_law_marked_in" (defScope s_l_marked_in) s.heap.objs.size f cdv)).units + 1 < cLine := by have := hr.un; omega
    exact sss_imp (sss_cons (ss_asg (se_pv (pv 1)) (sg_tup rfl (sgs_cons (sg_name hN rfl (.inl rfl)) (sgs_cons (sg_name hN rfl (.inr rfl)) (sgs_cons (sg_name hN rfl (.inr rfl)) sgs_nil)))))
  (sss_cons (ss_set hN rfl (.inl rfl) se_int)
  (sss_cons (ss_for PassesOwn.never rfl (si_seq (se_pv (pv 0))) (sg_tup rfl (sgs_cons (sg_name hN rfl (.inl rfl)) (sgs_cons (sg_name hN rfl (.inl rfl)) sgs_nil))) (sss_one (ss_if (st_cmp (Mv.op_eqD hu) ro_eq (se_pv (pv 6)) (se_pv (pv 2)) (fun _ => .inr rfl) (nomark _)) (sss_one (ss_set hN rfl (.inl rfl) (se_bin op_addA ro_add (se_pv (pv 5)) (se_b1 (cr_sum rfl) ro_sum rfl n_sum (by decide +kernel) (se_lc rfl hN (si_seq (se_pv (pv 7))) (own := [("_law_low", 8), ("_law_high", 9)]) (blkOk_by (N := ["_law_rows", "_law_part", "_law_mark", "_law_first", "_law_last", "_law_many", "_law_own", "_law_tins", "_law_low", "_law_high"]) (sc := defScope s_l_marked_in) (own := [("_law_low", 8), ("_law_high", 9)]) (by decide +kernel)) (fun _ _ _ _ _ => (sg_tup rfl (sgs_cons (sg_name hN rfl (.inl rfl)) (sgs_cons (sg_name hN rfl (.inl rfl)) sgs_nil)))) (fun _ _ _ _ _ => sfs_nil) (fun _ _ _ _ _ => (se_b2 (call_max2 rfl) ro_max2 rfl n_max (by decide +kernel) se_int (se_bin op_addA ro_add (se_bin op_sub ro_sub (se_b2 (call_min2 rfl) ro_min2 rfl n_min (by decide +kernel) (se_pv (pv 9)) (se_pv (pv 4)) (fun _ => .inr rfl)) (se_b2 (call_max2 rfl) ro_max2 rfl n_max (by decide +kernel) (se_pv (pv 8)) (se_pv (pv 3)) (fun _ => .inr rfl)) (fun _ => .inl rfl)) se_int (fun _ => .inl rfl)) (fun _ => .inl rfl))) (by decide))) (fun z => nomatch z)))) sss_nil)))
  (sss_one (ss_ret (se_pv (pv 5))))))) (by decide)
  case hrb => decide
theorem sc_l_same : FnScope ["_law_found", "_law_due", "_law_one", "_law_other"] ["_law_found", "_law_due"] (defScope s_l_same) := ⟨rfl, rfl, rfl, by decide +kernel, rfl, by decide +kernel, by decide +kernel⟩
theorem st_l_same {P : Program} {w : World} {K : PySem.W.Frag} {mg : Str → Option Value} {base : Heap} {f : Addr} {fd : FuncData} (F : FnP K "_law_same" s_l_same f fd) (hm : mg "_law_same" = some (.ref f)) (n_all : mg "all" = none) (n_bool : mg "bool" = none) (n_int : mg "int" = none) (n_isinstance : mg "isinstance" = none) (n_len : mg "len" = none) (n_list : mg "list" = none) (n_str : mg "str" = none) (n_tuple : mg "tuple" = none) (n_zip : mg "zip" = none) (k : Nat) (gself : Def) (hk0 : 0 ≤ k) (hself : Cal P w K mg base k "_law_same" ["_law_found", "_law_due"] gself) : Cal P w K mg base (k + 1) "_law_same" ["_law_found", "_law_due"] (f_l_same gself) := by
  refine cal_mk (asg := []) F hm (F.bindsN fun _ _ _ _ _ _ us hl => match us, hl with | [_, _], _ => rfl) sc_l_same rfl rfl ?hrb fun cdv A outer s H E hr => ?hb
  case hb =>
    have hN := sc_l_same.nd
    have hu : (A.deeper (envOfC "_law_same" (defScope s_l_same) s.heap.objs.size f cdv)).units + 100 < cLine := by have := hr.un; omega
    have hu1 : (A.deeper (envOfC "_law_same" (defScope s_l_same) s.heap.objs.size f cdv)).units + 1 < cLine := by have := hr.un; omega
    exact sss_imp (sss_cons (ss_if (st_cmp op_isNA ro_isN (se_pv (pv 1)) se_non (fun _ => .inr rfl) (nomark _)) (sss_one (ss_ret (se_cmp op_isNA ro_isN (se_pv (pv 0)) se_non (fun _ => .inr rfl) (nomark _)))) sss_nil)
  (sss_cons (ss_if (SW.st (sw_or (st_val (se_isa .list rfl n_isinstance rfl n_list (by decide +kernel) (se_pv (pv 1)))) (sw_or1 (st_val (se_isa .tuple rfl n_isinstance rfl n_tuple (by decide +kernel) (se_pv (pv 1))))))) (sss_cons (ss_if (st_cmp (Mv.op_neD hu) ro_eq (se_isa .list rfl n_isinstance rfl n_list (by decide +kernel) (se_pv (pv 0))) (se_isa .list rfl n_isinstance rfl n_list (by decide +kernel) (se_pv (pv 1))) (fun _ => .inl rfl) (nomark _)) (sss_one (ss_ret se_bl)) sss_nil)
  (sss_cons (ss_if (SW.st (sw_or (st_cmp (Mv.op_neD hu) ro_eq (se_isa .tuple rfl n_isinstance rfl n_tuple (by decide +kernel) (se_pv (pv 0))) (se_isa .tuple rfl n_isinstance rfl n_tuple (by decide +kernel) (se_pv (pv 1))) (fun _ => .inl rfl) (nomark _)) (sw_or1 (st_cmp (Mv.op_neD hu) ro_eq (se_b1 call_len ro_len rfl n_len (by decide +kernel) (se_pv (pv 0))) (se_b1 call_len ro_len rfl n_len (by decide +kernel) (se_pv (pv 1))) (fun _ => .inl rfl) (nomark _))))) (sss_one (ss_ret se_bl)) sss_nil)
  (sss_one (ss_ret (se_b1 (cr_all rfl) ro_all rfl n_all (by decide +kernel) (se_lc rfl hN (si_zip rfl n_zip (sa_cons (se_pv (pv 0)) (sa_cons (se_pv (pv 1)) sa_nil))) (own := [("_law_one", 2), ("_law_other", 3)]) (blkOk_by (N := ["_law_found", "_law_due", "_law_one", "_law_other"]) (sc := defScope s_l_same) (own := [("_law_one", 2), ("_law_other", 3)]) (by decide +kernel)) (fun _ _ _ _ _ => (sg_tup rfl (sgs_cons (sg_name hN rfl (.inl rfl)) (sgs_cons (sg_name hN rfl (.inl rfl)) sgs_nil)))) (fun _ _ _ _ _ => sfs_nil) (fun _ _ _ _ _ => (se_cal hself hr rfl (sc_e (se_pv (pv 2)) (sc_e (se_pv (pv 3)) sc_nil)))) (by decide))))))) sss_nil)
  (sss_cons (ss_if (st_val (se_isa .str rfl n_isinstance rfl n_str (by decide +kernel) (se_pv (pv 1)))) (sss_one (ss_ret (se_and (se_isa .str rfl n_isinstance rfl n_str (by decide +kernel) (se_pv (pv 0))) (se_andI (se_cmp (Mv.op_eqD hu) ro_eq (se_pv (pv 0)) (se_pv (pv 1)) (fun _ => .inr rfl) (nomark _)))))) sss_nil)
  (sss_one (ss_ret (se_and (se_isa .int rfl n_isinstance rfl n_int (by decide +kernel) (se_pv (pv 0))) (se_and (se_not (se_isa .bool rfl n_isinstance rfl n_bool (by decide +kernel) (se_pv (pv 0)))) (se_andI (se_cmp (Mv.op_eqD hu) ro_eq (se_pv (pv 0)) (se_pv (pv 1)) (fun _ => .inr rfl) (nomark _)))))))))) (by decide)
  case hrb => decide
theorem ok_l_same {P : Program} {w : World} {K : PySem.W.Frag} {mg : Str → Option Value} {base : Heap} {f : Addr} {fd : FuncData} (F : FnP K "_law_same" s_l_same f fd) (hm : mg "_law_same" = some (.ref f)) (n_all : mg "all" = none) (n_bool : mg "bool" = none) (n_int : mg "int" = none) (n_isinstance : mg "isinstance" = none) (n_len : mg "len" = none) (n_list : mg "list" = none) (n_str : mg "str" = none) (n_tuple : mg "tuple" = none) (n_zip : mg "zip" = none) : Cal P w K mg base 12 "_law_same" ["_law_found", "_law_due"] g_l_same :=
  cal_rec (k0 := 0) (cal_none hm F.kp (F.bindsN fun _ _ _ _ _ _ us hl => match us, hl with | [_, _], _ => rfl)) (fun k g hk h => st_l_same F hm n_all n_bool n_int n_isinstance n_len n_list n_str n_tuple n_zip k g hk h) 12
theorem sc_places_of : FnScope ["packing", "rows", "begin", "mark", "first", "last"] ["packing"] (defScope s_places_of) := ⟨rfl, rfl, rfl, by decide +kernel, rfl, by decide +kernel, by decide +kernel⟩
theorem ok_places_of {P : Program} {w : World} {K : PySem.W.Frag} {mg : Str → Option Value} {base : Heap} {f : Addr} {fd : FuncData} (F : FnP K "places_of" s_places_of f fd) (hm : mg "places_of" = some (.ref f)) : Cal P w K mg base 1 "places_of" ["packing"] g_places_of := by
  refine cal_mk (asg := [1, 2, 3, 4, 5]) F hm (F.bindsN fun _ _ _ _ _ _ us hl => match us, hl with | [_], _ => rfl) sc_places_of rfl rfl ?hrb fun cdv A outer s H E hr => ?hb
  case hb =>
    have hN := sc_places_of.nd
    have hu : (A.deeper (envOfC "places_of" (defScope s_places_of) s.heap.objs.size f cdv)).units + 100 < cLine := by have := hr.un; omega
    have hu1 : (A.deeper (envOfC "places_of" (defScope s_places_of) s.heap.objs.size f cdv)).units + 1 < cLine := by have := hr.un; omega
    exact sss_imp (sss_cons (ss_set hN rfl (.inl rfl) (se_lst sa_nil))
  (sss_cons (ss_set hN rfl (.inl rfl) se_int)
  (sss_cons (ss_for PassesOwn.never rfl (si_seq (se_ix ix_seq ro_ix (se_pv (pv 0)) se_int (fun _ => .inr rfl) (fun _ _ => rfl))) (sg_tup rfl (sgs_cons (sg_name hN rfl (.inl rfl)) (sgs_cons (sg_name hN rfl (.inl rfl)) (sgs_cons (sg_name hN rfl (.inl rfl)) sgs_nil)))) (sss_cons (ss_expr (se_mut PySem.F.plainAttrs_list PySem.F.slot_list_append PySem.F.type_list_append mt_append rm_append (sp_top (pv 1)) (sa_cons (se_tup (sa_cons (se_pv (pv 3)) (sa_cons (se_pv (pv 4)) (sa_cons (se_pv (pv 5)) (sa_cons (se_pv (pv 2)) sa_nil))))) sa_nil) (.inl rfl)))
  (sss_one (ss_aug hN rfl (.inl rfl) (se_bin op_addA ro_add (se_bin op_sub ro_sub (se_pv (pv 5)) (se_pv (pv 4)) (fun _ => .inr rfl)) se_int (fun _ => .inl rfl)) ip_add ro_ipadd))))
  (sss_one (ss_retV (pv 1)))))) (by decide)
  case hrb => decide
theorem sc_tins_in : FnScope ["packing", "case", "size", "rows", "mark", "first", "last", "begin", "low", "high"] ["packing", "case"] (defScope s_tins_in) := ⟨rfl, rfl, rfl, by decide +kernel, rfl, by decide +kernel, by decide +kernel⟩
theorem ok_tins_in {P : Program} {w : World} {K : PySem.W.Frag} {mg : Str → Option Value} {base : Heap} {f : Addr} {fd : FuncData} (F : FnP K "tins_in" s_tins_in f fd) (hm : mg "tins_in" = some (.ref f)) (n_max : mg "max" = none) (n_min : mg "min" = none) (C_places_of : Cal P w K mg base 1 "places_of" ["packing"] g_places_of) : Cal P w K mg base 2 "tins_in" ["packing", "case"] g_tins_in := by
  refine cal_mk (asg := [2, 3, 4, 5, 6, 7, 8, 9]) F hm (F.bindsN fun _ _ _ _ _ _ us hl => match us, hl with | [_, _], _ => rfl) sc_tins_in rfl rfl ?hrb fun cdv A outer s H E hr => ?hb
  case hb =>
    have hN := sc_tins_in.nd
    have hu : (A.deeper (envOfC "tins_in" (defScope s_tins_in) s.heap.objs.size f cdv)).units + 100 < cLine := by have := hr.un; omega
    have hu1 : (A.deeper (envOfC "tins_in" (defScope s_tins_in) s.heap.objs.size f cdv)).units + 1 < cLine := by have := hr.un; omega
    exact sss_imp (sss_cons (ss_set hN rfl (.inl rfl) (se_ix ix_seq ro_ix (se_pv (pv 0)) se_int (fun _ => .inr rfl) (fun _ _ => rfl)))
  (sss_cons (ss_set hN rfl (.inl rfl) (se_lst sa_nil))
  (sss_cons (ss_for PassesOwn.never rfl (si_seq (se_cal C_places_of (hr.mono (by decide)) rfl (sc_e (se_pv (pv 0)) sc_nil))) (sg_tup rfl (sgs_cons (sg_name hN rfl (.inl rfl)) (sgs_cons (sg_name hN rfl (.inl rfl)) (sgs_cons (sg_name hN rfl (.inl rfl)) (sgs_cons (sg_name hN rfl (.inl rfl)) sgs_nil))))) (sss_cons (ss_set hN rfl (.inl rfl) (se_b2 (call_max2 rfl) ro_max2 rfl n_max (by decide +kernel) (se_pv (pv 5)) (se_bin op_sub ro_sub (se_bin op_addA ro_add (se_pv (pv 5)) (se_bin op_mulX ro_mul (se_pv (pv 1)) (se_pv (pv 2)) (fun _ => .inr rfl)) (fun _ => .inr rfl)) (se_pv (pv 7)) (fun _ => .inl rfl)) (fun _ => .inr rfl)))
  (sss_cons (ss_set hN rfl (.inl rfl) (se_b2 (call_min2 rfl) ro_min2 rfl n_min (by decide +kernel) (se_pv (pv 6)) (se_bin op_sub ro_sub (se_bin op_sub ro_sub (se_bin op_addA ro_add (se_bin op_addA ro_add (se_pv (pv 5)) (se_bin op_mulX ro_mul (se_pv (pv 1)) (se_pv (pv 2)) (fun _ => .inr rfl)) (fun _ => .inr rfl)) (se_pv (pv 2)) (fun _ => .inl rfl)) se_int (fun _ => .inl rfl)) (se_pv (pv 7)) (fun _ => .inl rfl)) (fun _ => .inr rfl)))
  (sss_one (ss_if (st_cmp (op_ord (o := .le) hu) ro_ord (se_pv (pv 8)) (se_pv (pv 9)) (fun _ => .inr rfl) (nomark _)) (sss_one (ss_expr (se_mut PySem.F.plainAttrs_list PySem.F.slot_list_append PySem.F.type_list_append mt_append rm_append (sp_top (pv 3)) (sa_cons (se_tup (sa_cons (se_pv (pv 4)) (sa_cons (se_pv (pv 8)) (sa_cons (se_pv (pv 9)) sa_nil)))) sa_nil) (.inl rfl)))) sss_nil)))))
  (sss_one (ss_retV (pv 3)))))) (by decide)
  case hrb => decide
theorem sc_l_case_right : FnScope ["_law_packing", "_law_rows", "_law_case", "_law_some", "_law_whole", "_law_parts", "_law_many", "_law_has", "_law_mark", "_law_first", "_law_last", "_law_part"] ["_law_packing", "_law_rows", "_law_case", "_law_some", "_law_whole"] (defScope s_l_case_right) := ⟨rfl, rfl, rfl, by decide +kernel, rfl, by decide +kernel, by decide +kernel⟩
theorem ok_l_case_right {P : Program} {w : World} {K : PySem.W.Frag} {mg : Str → Option Value} {base : Heap} {f : Addr} {fd : FuncData} (F : FnP K "_law_case_right" s_l_case_right f fd) (hm : mg "_law_case_right" = some (.ref f)) (n_sum : mg "sum" = none) (C_l_in_case : Cal P w K mg base 1 "_law_in_case" ["_law_packing", "_law_case"] g_l_in_case) (C_l_is_in : Cal P w K mg base 1 "_law_is_in" ["_law_some", "_law_number_here"] g_l_is_in) (C_l_marked_in : Cal P w K mg base 1 "_law_marked_in" ["_law_rows", "_law_part"] g_l_marked_in) (C_l_same : Cal P w K mg base 12 "_law_same" ["_law_found", "_law_due"] g_l_same) (C_tins_in : Cal P w K mg base 2 "tins_in" ["packing", "case"] g_tins_in) : Cal P w K mg base 13 "_law_case_right" ["_law_packing", "_law_rows", "_law_case", "_law_some", "_law_whole"] g_l_case_right := by
  refine cal_mk (asg := [5, 6, 7]) F hm (F.bindsN fun _ _ _ _ _ _ us hl => match us, hl with | [_, _, _, _, _], _ => rfl) sc_l_case_right rfl rfl ?hrb fun cdv A outer s H E hr => ?hb
  case hb =>
    have hN := sc_l_case_right.nd
    have hu : (A.deeper (envOfC "_law_case_right" (defScope s_l_case_right) s.heap.objs.size f cdv)).units + 100 < cLine := by have := hr.un; omega
    have hu1 : (A.deeper (envOfC "_law_case_right" (defScope s_l_case_right) s.heap.objs.size f cdv)).units + 1 < cLine := by have := hr.un; omega
    exact sss_imp (sss_cons (ss_set hN rfl (.inl rfl) (se_frz (se_cal C_l_in_case (hr.mono (by decide)) rfl (sc_e (se_pv (pv 0)) (sc_e (se_pv (pv 2)) sc_nil)))))
  (sss_cons (ss_if (st_not (st_val (se_cal C_l_same (hr.mono (by decide)) rfl (sc_e (se_frz (se_cal C_tins_in (hr.mono (by decide)) rfl (sc_e (se_pv (pv 0)) (sc_e (se_pv (pv 2)) sc_nil)))) (sc_e (se_pv (pv 5)) sc_nil))))) (sss_one (ss_ret se_bl)) sss_nil)
  (sss_cons (ss_set hN rfl (.inl rfl) (se_b1 (cr_sum rfl) ro_sum rfl n_sum (by decide +kernel) (se_lc rfl hN (si_seq (se_pv (pv 5))) (own := [("_law_mark", 8), ("_law_first", 9), ("_law_last", 10)]) (blkOk_by (N := ["_law_packing", "_law_rows", "_law_case", "_law_some", "_law_whole", "_law_parts", "_law_many", "_law_has", "_law_mark", "_law_first", "_law_last", "_law_part"]) (sc := defScope s_l_case_right) (own := [("_law_mark", 8), ("_law_first", 9), ("_law_last", 10)]) (by decide +kernel)) (fun _ _ _ _ _ => (sg_tup rfl (sgs_cons (sg_name hN rfl (.inl rfl)) (sgs_cons (sg_name hN rfl (.inl rfl)) (sgs_cons (sg_name hN rfl (.inl rfl)) sgs_nil))))) (fun _ _ _ _ _ => sfs_nil) (fun _ _ _ _ _ => (se_bin op_addA ro_add (se_bin op_sub ro_sub (se_pv (pv 10)) (se_pv (pv 9)) (fun _ => .inr rfl)) se_int (fun _ => .inl rfl))) (by decide))))
  (sss_cons (ss_set hN rfl (.inl rfl) (se_b1 (cr_sum rfl) ro_sum rfl n_sum (by decide +kernel) (se_lc rfl hN (si_seq (se_pv (pv 5))) (own := [("_law_part", 11)]) (blkOk_by (N := ["_law_packing", "_law_rows", "_law_case", "_law_some", "_law_whole", "_law_parts", "_law_many", "_law_has", "_law_mark", "_law_first", "_law_last", "_law_part"]) (sc := defScope s_l_case_right) (own := [("_law_part", 11)]) (by decide +kernel)) (fun _ _ _ _ _ => (sg_name hN rfl (.inl rfl))) (fun _ _ _ _ _ => sfs_nil) (fun _ _ _ _ _ => (se_cal C_l_marked_in (hr.mono (by decide)) rfl (sc_e (se_pv (pv 1)) (sc_e (se_pv (pv 11)) sc_nil)))) (by decide))))
  (sss_one (ss_ret (se_and (se_cmp (Mv.op_eqD hu) ro_eq (se_cal C_l_is_in (hr.mono (by decide)) rfl (sc_e (se_pv (pv 3)) (sc_e (se_pv (pv 2)) sc_nil))) (se_cmp (op_ord (o := .gt) hu) ro_ord (se_pv (pv 7)) se_int (fun _ => .inr rfl) (nomark _)) (fun _ => .inl rfl) (nomark _)) (se_andI (se_cmp (Mv.op_eqD hu) ro_eq (se_cal C_l_is_in (hr.mono (by decide)) rfl (sc_e (se_pv (pv 4)) (sc_e (se_pv (pv 2)) sc_nil))) (se_and (se_cmp (op_ord (o := .gt) hu) ro_ord (se_pv (pv 6)) se_int (fun _ => .inr rfl) (nomark _)) (se_andI (se_cmp (Mv.op_eqD hu) ro_eq (se_pv (pv 7)) (se_pv (pv 6)) (fun _ => .inr rfl) (nomark _)))) (fun _ => .inl rfl) (nomark _)))))))))) (by decide)
  case hrb => decide
theorem sc_l_is_set : FnScope ["_law_some", "_law_most", "_law_pair", "_law_one", "_law_other", "_law_part"] ["_law_some", "_law_most"] (defScope s_l_is_set) := ⟨rfl, rfl, rfl, by decide +kernel, rfl, by decide +kernel, by decide +kernel⟩
theorem ok_l_is_set {P : Program} {w : World} {K : PySem.W.Frag} {mg : Str → Option Value} {base : Heap} {f : Addr} {fd : FuncData} (F : FnP K "_law_is_set" s_l_is_set f fd) (hm : mg "_law_is_set" = some (.ref f)) (n_all : mg "all" = none) (n_any : mg "any" = none) (n_bool : mg "bool" = none) (n_int : mg "int" = none) (n_isinstance : mg "isinstance" = none) (n_len : mg "len" = none) (n_list : mg "list" = none) (n_tuple : mg "tuple" = none) (n_zip : mg "zip" = none) : Cal P w K mg base 1 "_law_is_set" ["_law_some", "_law_most"] g_l_is_set := by
  refine cal_mk (asg := [2]) F hm (F.bindsN fun _ _ _ _ _ _ us hl => match us, hl with | [_, _], _ => rfl) sc_l_is_set rfl rfl ?hrb fun cdv A outer s H E hr => ?hb
  case hb =>
    have hN := sc_l_is_set.nd
    have hu : (A.deeper (envOfC "_law_is_set" (defScope s_l_is_set) s.heap.objs.size f cdv)).units + 100 < cLine := by have := hr.un; omega
    have hu1 : (A.deeper (envOfC "_law_is_set" (defScope s_l_is_set) s.heap.objs.size f cdv)).units + 1 < cLine := by have := hr.un; omega
    exact sss_imp (sss_cons (ss_if (st_not (st_val (se_isa .list rfl n_isinstance rfl n_list (by decide +kernel) (se_pv (pv 0))))) (sss_one (ss_ret se_bl)) sss_nil)
  (sss_cons (ss_for PassesOwn.never rfl (si_seq (se_pv (pv 0))) (sg_name hN rfl (.inl rfl)) (sss_cons (ss_if (SW.st (sw_or (st_not (st_val (se_isa .tuple rfl n_isinstance rfl n_tuple (by decide +kernel) (se_pv (pv 2))))) (sw_or (st_cmp (Mv.op_neD hu) ro_eq (se_b1 call_len ro_len rfl n_len (by decide +kernel) (se_pv (pv 2))) se_int (fun _ => .inl rfl) (nomark _)) (sw_or1 (st_not (st_chain4 (op_ord (o := .le) hu) ro_ord (op_ord (o := .le) hu) ro_ord (op_ord (o := .lt) hu) ro_ord se_int (se_ix ix_seq ro_ix (se_pv (pv 2)) se_int (fun _ => .inr rfl) (fun _ _ => rfl)) (se_ix ix_seq ro_ix (se_pv (pv 2)) se_int (fun _ => .inr rfl) (fun _ _ => rfl)) (se_pv (pv 1)))))))) (sss_one (ss_ret se_bl)) sss_nil)
  (sss_one (ss_if (st_val (se_b1 (cr_any rfl) ro_any rfl n_any (by decide +kernel) (se_lc rfl hN (si_seq (se_pv (pv 2))) (own := [("_law_part", 5)]) (blkOk_by (N := ["_law_some", "_law_most", "_law_pair", "_law_one", "_law_other", "_law_part"]) (sc := defScope s_l_is_set) (own := [("_law_part", 5)]) (by decide +kernel)) (fun _ _ _ _ _ => (sg_name hN rfl (.inl rfl))) (fun _ _ _ _ _ => sfs_nil) (fun _ _ _ _ _ => (se_or (se_isa .bool rfl n_isinstance rfl n_bool (by decide +kernel) (se_pv (pv 5))) (se_andI (se_not (se_isa .int rfl n_isinstance rfl n_int (by decide +kernel) (se_pv (pv 5))))))) (by decide)))) (sss_one (ss_ret se_bl)) sss_nil))))
  (sss_one (ss_ret (se_b1 (cr_all rfl) ro_all rfl n_all (by decide +kernel) (se_lc rfl hN (si_zip rfl n_zip (sa_cons (se_pv (pv 0)) (sa_cons (se_slice (se_pv (pv 0)) (so_some se_int) so_none (fun _ => .inr rfl)) sa_nil))) (own := [("_law_one", 3), ("_law_other", 4)]) (blkOk_by (N := ["_law_some", "_law_most", "_law_pair", "_law_one", "_law_other", "_law_part"]) (sc := defScope s_l_is_set) (own := [("_law_one", 3), ("_law_other", 4)]) (by decide +kernel)) (fun _ _ _ _ _ => (sg_tup rfl (sgs_cons (sg_name hN rfl (.inl rfl)) (sgs_cons (sg_name hN rfl (.inl rfl)) sgs_nil)))) (fun _ _ _ _ _ => sfs_nil) (fun _ _ _ _ _ => (se_cmp (op_ord (o := .lt) hu) ro_ord (se_bin op_addA ro_add (se_ix ix_seq ro_ix (se_pv (pv 3)) se_int (fun _ => .inr rfl) (fun _ _ => rfl)) se_int (fun _ => .inl rfl)) (se_ix ix_seq ro_ix (se_pv (pv 4)) se_int (fun _ => .inr rfl) (fun _ _ => rfl)) (fun _ => .inl rfl) (nomark _))) (by decide))))))) (by decide)
  case hrb => decide
theorem sc_l_take : FnScope ["_law_state", "_law_many", "_law_turn", "_law_place", "_law_cell", "_law_digit", "_law_mixed"] ["_law_state", "_law_many"] (defScope s_l_take) := ⟨rfl, rfl, rfl, by decide +kernel, rfl, by decide +kernel, by decide +kernel⟩
theorem ok_l_take {P : Program} {w : World} {K : PySem.W.Frag} {mg : Str → Option Value} {base : Heap} {f : Addr} {fd : FuncData} (F : FnP K "_law_take" s_l_take f fd) (hm : mg "_law_take" = some (.ref f)) (n_divmod : mg "divmod" = none) (n_len : mg "len" = none) : Cal P w K mg base 1 "_law_take" ["_law_state", "_law_many"] g_l_take := by
  refine cal_mk (asg := [2, 3, 4, 5, 6]) F hm (F.bindsN fun _ _ _ _ _ _ us hl => match us, hl with | [_, _], _ => rfl) sc_l_take rfl rfl ?hrb fun cdv A outer s H E hr => ?hb
  case hb =>
    have hN := sc_l_take.nd
    have hu : (A.deeper (envOfC "_law_take" (defScope s_l_take) s.heap.objs.size f cdv)).units + 100 < cLine := by have := hr.un; omega
    have hu1 : (A.deeper (envOfC "_law_take" (defScope s_l_take) s.heap.objs.size f cdv)).units + 1 < cLine := by have := hr.un; omega
    exact sss_imp (sss_cons (ss_set hN rfl (.inl rfl) (se_bin op_addA ro_add (se_pl (sp_key hu1 (pv 0) (fun _ _ => rfl))) se_int (fun _ => .inr rfl)))
  (sss_cons (ss_asg (se_pv (pv 2)) (sg_sub (PSet.or set_list (set_dict hu1)) rset (sp_top (pv 0)) se_str))
  (sss_cons (ss_set hN rfl (.inl rfl) (se_bin op_mod ro_mod (se_pv (pv 2)) (se_b1 call_len ro_len rfl n_len (by decide +kernel) (se_pl (sp_key hu1 (pv 0) (fun _ _ => rfl)))) (fun _ => .inr rfl)))
  (sss_cons (ss_set hN rfl (.inl rfl) (se_ix ix_seq ro_ix (se_pl (sp_key hu1 (pv 0) (fun _ _ => rfl))) (se_pv (pv 3)) (fun _ => .inr rfl) (fun _ _ => rfl)))
  (sss_cons (ss_if (st_cmp (op_ord (o := .ge) hu) ro_ord (se_pv (pv 4)) (se_bin op_pow ro_pow se_int se_int (fun _ => .inl rfl)) (fun _ => .inr rfl) (nomark _)) (sss_cons (ss_asg (se_b2 call_divmodW ro_divmod rfl n_divmod (by decide +kernel) (se_pv (pv 4)) (se_pv (pv 1)) (fun _ => .inr rfl)) (sg_tup rfl (sgs_cons (sg_sub (PSet.or set_list (set_dict hu1)) rset (sp_key hu1 (pv 0) (fun _ _ => rfl)) (se_pv (pv 3))) (sgs_cons (sg_name hN rfl (.inl rfl)) sgs_nil))))
  (sss_one (ss_ret (se_pv (pv 5))))) sss_nil)
  (sss_cons (ss_set hN rfl (.inl rfl) (se_bin op_mod ro_mod (se_bin op_mulX ro_mul (se_bin op_addA ro_add (se_bin op_addA ro_add (se_bin op_mod ro_mod (se_pv (pv 4)) se_int (fun _ => .inr rfl)) (se_bin op_mulX ro_mul (se_bin op_mulX ro_mul (se_pv (pv 2)) (se_pv (pv 2)) (fun _ => .inr rfl)) se_int (fun _ => .inl rfl)) (fun _ => .inl rfl)) se_int (fun _ => .inl rfl)) se_int (fun _ => .inl rfl)) se_int (fun _ => .inl rfl)))
  (sss_cons (ss_set hN rfl (.inl rfl) (se_bin op_mod ro_mod (se_bin op_mulX ro_mul (se_pv (pv 6)) (se_pv (pv 6)) (fun _ => .inr rfl)) se_int (fun _ => .inl rfl)))
  (sss_one (ss_ret (se_bin op_mod ro_mod (se_bin op_fdivW ro_div (se_bin op_mod ro_mod (se_bin op_mulX ro_mul (se_bin op_addA ro_add (se_pv (pv 6)) (se_bin op_mulX ro_mul (se_pv (pv 2)) se_int (fun _ => .inr rfl)) (fun _ => .inr rfl)) se_int (fun _ => .inl rfl)) se_int (fun _ => .inl rfl)) se_int (fun _ => .inl rfl)) (se_pv (pv 1)) (fun _ => .inl rfl))))))))))) (by decide)
  case hrb => decide
theorem sc_l_number : FnScope ["_law_state", "_law_sort", "_law_number_here", "_law_turn"] ["_law_state", "_law_sort"] (defScope s_l_number) := ⟨rfl, rfl, rfl, by decide +kernel, rfl, by decide +kernel, by decide +kernel⟩
theorem ok_l_number {P : Program} {w : World} {K : PySem.W.Frag} {mg : Str → Option Value} {base : Heap} {f : Addr} {fd : FuncData} (F : FnP K "_law_number" s_l_number f fd) (hm : mg "_law_number" = some (.ref f)) (n_range : mg "range" = none) (C_l_take : Cal P w K mg base 1 "_law_take" ["_law_state", "_law_many"] g_l_take) : Cal P w K mg base 2 "_law_number" ["_law_state", "_law_sort"] g_l_number := by
  refine cal_mk (asg := [2, 3]) F hm (F.bindsN fun _ _ _ _ _ _ us hl => match us, hl with | [_, _], _ => rfl) sc_l_number rfl rfl ?hrb fun cdv A outer s H E hr => ?hb
  case hb =>
    have hN := sc_l_number.nd
    have hu : (A.deeper (envOfC "_law_number" (defScope s_l_number) s.heap.objs.size f cdv)).units + 100 < cLine := by have := hr.un; omega
    have hu1 : (A.deeper (envOfC "_law_number" (defScope s_l_number) s.heap.objs.size f cdv)).units + 1 < cLine := by have := hr.un; omega
    exact sss_imp (sss_cons (ss_if (st_cmp (op_ord (o := .lt) hu) ro_ord (se_pv (pv 1)) se_int (fun _ => .inr rfl) (nomark _)) (sss_one (ss_ret (se_cal C_l_take (hr.mono (by decide)) rfl (sc_v (pv 0) (sc_e (se_ix ix_seq ro_ix (se_lst (sa_cons se_int (sa_cons se_int (sa_cons (se_bin op_pow ro_pow se_int se_int (fun _ => .inl rfl)) sa_nil)))) (se_pv (pv 1)) (fun _ => .inl rfl) (fun _ _ => rfl)) sc_nil))))) sss_nil)
  (sss_cons (ss_set hN rfl (.inl rfl) se_int)
  (sss_cons (ss_for PassesOwn.never rfl (si_range1 rfl n_range (sa_cons se_int sa_nil)) (sg_name hN rfl (.inl rfl)) (sss_one (ss_set hN rfl (.inl rfl) (se_bin op_addA ro_add (se_bin op_mulX ro_mul (se_pv (pv 2)) (se_bin op_pow ro_pow se_int se_int (fun _ => .inl rfl)) (fun _ => .inr rfl)) (se_cal C_l_take (hr.mono (by decide)) rfl (sc_v (pv 0) (sc_e (se_bin op_pow ro_pow se_int se_int (fun _ => .inl rfl)) sc_nil))) (fun _ => .inl rfl)))))
  (sss_one (ss_ret (se_pv (pv 2))))))) (by decide)
  case hrb => decide
theorem sc_l_set_of : FnScope ["_law_pairs", "_law_made", "_law_first", "_law_last"] ["_law_pairs"] (defScope s_l_set_of) := ⟨rfl, rfl, rfl, by decide +kernel, rfl, by decide +kernel, by decide +kernel⟩
theorem ok_l_set_of {P : Program} {w : World} {K : PySem.W.Frag} {mg : Str → Option Value} {base : Heap} {f : Addr} {fd : FuncData} (F : FnP K "_law_set_of" s_l_set_of f fd) (hm : mg "_law_set_of" = some (.ref f)) (n_max : mg "max" = none) (n_sorted : mg "sorted" = none) : Cal P w K mg base 1 "_law_set_of" ["_law_pairs"] g_l_set_of := by
  refine cal_mk (asg := [1, 2, 3]) F hm (F.bindsN fun _ _ _ _ _ _ us hl => match us, hl with | [_], _ => rfl) sc_l_set_of rfl rfl ?hrb fun cdv A outer s H E hr => ?hb
  case hb =>
    have hN := sc_l_set_of.nd
    have hu : (A.deeper (envOfC "_law_set_of" (defScope s_l_set_of) s.heap.objs.size f cdv)).units + 100 < cLine := by have := hr.un; omega
    have hu1 : (A.deeper (envOfC "_law_set_of" (defScope s_l_set_of) s.heap.objs.size f cdv)).units + 1 < cLine := by have := hr.un; omega
    exact sss_imp (sss_cons (ss_set hN rfl (.inl rfl) (se_lst sa_nil))
  (sss_cons (ss_for PassesOwn.never rfl (si_seq (se_b1 (cr_sortA hu) ro_sort rfl n_sorted (by decide +kernel) (se_pv (pv 0)))) (sg_tup rfl (sgs_cons (sg_name hN rfl (.inl rfl)) (sgs_cons (sg_name hN rfl (.inl rfl)) sgs_nil))) (sss_cons (ss_if (st_cmp (op_ord (o := .gt) hu) ro_ord (se_pv (pv 2)) (se_pv (pv 3)) (fun _ => .inr rfl) (nomark _)) (sss_one ss_cont) sss_nil)
  (sss_one (ss_if (SW.st (sw_and (st_cmp (Mv.op_neD hu) ro_eq (se_pv (pv 1)) (se_lst sa_nil) (fun _ => .inr rfl) (nomark _)) (sw_and1 (st_cmp (op_ord (o := .le) hu) ro_ord (se_pv (pv 2)) (se_bin op_addA ro_add (se_ix ix_seq ro_ix (se_ix ix_seq ro_ix (se_pv (pv 1)) (se_un un_neg ro_neg se_int) (fun _ => .inr rfl) (fun _ _ => rfl)) se_int (fun _ => .inl rfl) (fun _ _ => rfl)) se_int (fun _ => .inl rfl)) (fun _ => .inr rfl) (nomark _))))) (sss_one (ss_asg (se_tup (sa_cons (se_ix ix_seq ro_ix (se_ix ix_seq ro_ix (se_pv (pv 1)) (se_un un_neg ro_neg se_int) (fun _ => .inr rfl) (fun _ _ => rfl)) se_int (fun _ => .inl rfl) (fun _ _ => rfl)) (sa_cons (se_b2 (call_max2 rfl) ro_max2 rfl n_max (by decide +kernel) (se_pv (pv 3)) (se_ix ix_seq ro_ix (se_ix ix_seq ro_ix (se_pv (pv 1)) (se_un un_neg ro_neg se_int) (fun _ => .inr rfl) (fun _ _ => rfl)) se_int (fun _ => .inl rfl) (fun _ _ => rfl)) (fun _ => .inr rfl)) sa_nil))) (sg_sub (PSet.or set_list (set_dict hu1)) rset (sp_top (pv 1)) (se_un un_neg ro_neg se_int)))) (sss_one (ss_expr (se_mut PySem.F.plainAttrs_list PySem.F.slot_list_append PySem.F.type_list_append mt_append rm_append (sp_top (pv 1)) (sa_cons (se_tup (sa_cons (se_pv (pv 2)) (sa_cons (se_pv (pv 3)) sa_nil))) sa_nil) (.inl rfl))))))))
  (sss_one (ss_retV (pv 1))))) (by decide)
  case hrb => decide
theorem sc_l_marked_by : FnScope ["_law_state", "_law_marks", "_law_packing", "_law_great", "_law_rows", "_law_mark", "_law_pairs", "_law_turn", "_law_first", "_law_some", "_law_near", "_law_edge", "_law_part"] ["_law_state", "_law_marks", "_law_packing", "_law_great"] (defScope s_l_marked_by) := ⟨rfl, rfl, rfl, by decide +kernel, rfl, by decide +kernel, by decide +kernel⟩
theorem ok_l_marked_by {P : Program} {w : World} {K : PySem.W.Frag} {mg : Str → Option Value} {base : Heap} {f : Addr} {fd : FuncData} (F : FnP K "_law_marked_by" s_l_marked_by f fd) (hm : mg "_law_marked_by" = some (.ref f)) (n_len : mg "len" = none) (n_max : mg "max" = none) (n_range : mg "range" = none) (C_l_number : Cal P w K mg base 2 "_law_number" ["_law_state", "_law_sort"] g_l_number) (C_l_set_of : Cal P w K mg base 1 "_law_set_of" ["_law_pairs"] g_l_set_of) (C_l_take : Cal P w K mg base 1 "_law_take" ["_law_state", "_law_many"] g_l_take) : Cal P w K mg base 3 "_law_marked_by" ["_law_state", "_law_marks", "_law_packing", "_law_great"] g_l_marked_by := by
  refine cal_mk (asg := [4, 5, 6, 7, 8, 9, 10, 11]) F hm (F.bindsN fun _ _ _ _ _ _ us hl => match us, hl with | [_, _, _, _], _ => rfl) sc_l_marked_by rfl rfl ?hrb fun cdv A outer s H E hr => ?hb
  case hb =>
    have hN := sc_l_marked_by.nd
    have hu : (A.deeper (envOfC "_law_marked_by" (defScope s_l_marked_by) s.heap.objs.size f cdv)).units + 100 < cLine := by have := hr.un; omega
    have hu1 : (A.deeper (envOfC "_law_marked_by" (defScope s_l_marked_by) s.heap.objs.size f cdv)).units + 1 < cLine := by have := hr.un; omega
    exact sss_imp (sss_cons (ss_set hN rfl (.inl rfl) (se_lst sa_nil))
  (sss_cons (ss_for PassesOwn.never rfl (si_seq (se_pv (pv 1))) (sg_name hN rfl (.inr rfl)) (sss_cons (ss_set hN rfl (.inl rfl) (se_lst sa_nil))
  (sss_cons (ss_for PassesOwn.never rfl (si_range1 rfl n_range (sa_cons (se_cal C_l_take (hr.mono (by decide)) rfl (sc_v (pv 0) (sc_e se_int sc_nil))) sa_nil)) (sg_name hN rfl (.inl rfl)) (sss_cons (ss_set hN rfl (.inl rfl) (se_frz (se_cal C_l_number (hr.mono (by decide)) rfl (sc_v (pv 0) (sc_e (se_ix ix_seq ro_ix (se_lst (sa_cons se_int (sa_cons se_int sa_nil))) (se_pv (pv 3)) (fun _ => .inl rfl) (fun _ _ => rfl)) sc_nil)))))
  (sss_cons (ss_setLc rfl hN rfl rfl (sw_true rfl rfl rfl (by decide +kernel)) (si_seq (se_ix ix_seq ro_ix (se_pv (pv 2)) se_int (fun _ => .inr rfl) (fun _ _ => rfl))) (own := [("_law_part", 12)]) (blkOk_by (N := ["_law_state", "_law_marks", "_law_packing", "_law_great", "_law_rows", "_law_mark", "_law_pairs", "_law_turn", "_law_first", "_law_some", "_law_near", "_law_edge", "_law_part"]) (sc := defScope s_l_marked_by) (own := [("_law_part", 12)]) (by decide +kernel)) (fun _ _ _ _ _ => (sg_name hN rfl (.inl rfl))) (fun _ _ _ _ _ => (sfs_one (st_cmp (Mv.op_eqD hu) ro_eq (se_ix ix_seq ro_ix (se_pv (pv 12)) se_int (fun _ => .inr rfl) (fun _ _ => rfl)) (se_pv (pv 5)) (fun _ => .inl rfl) (nomark _)))) (fun _ _ _ _ _ => (se_pv (pv 12))) (by decide))
  (sss_fz 9 (sss_cons (ss_if (SW.st (sw_and (st_cmp (Mv.op_neD hu) ro_eq (se_pv (pv 9)) (se_lst sa_nil) (fun _ => .inr rfl) (nomark _)) (sw_and1 (st_cmp (op_ord (o := .gt) hu) ro_ord (se_cal C_l_take (hr.mono (by decide)) rfl (sc_v (pv 0) (sc_e se_int sc_nil))) se_int (fun _ => .inl rfl) (nomark _))))) (sss_cons (ss_set hN rfl (.inl rfl) (se_ix ix_seq ro_ix (se_pv (pv 9)) (se_cal C_l_take (hr.mono (by decide)) rfl (sc_v (pv 0) (sc_e (se_b1 call_len ro_len rfl n_len (by decide +kernel) (se_pv (pv 9))) sc_nil))) (fun z => nomatch z) (fun _ _ => rfl)))
  (sss_cons (ss_set hN rfl (.inl rfl) (se_bin op_addA ro_add (se_ix ix_seq ro_ix (se_pv (pv 10)) se_int (fun _ => .inr rfl) (fun _ _ => rfl)) (se_bin op_mulX ro_mul (se_ix ix_seq ro_ix (se_pv (pv 2)) se_int (fun _ => .inr rfl) (fun _ _ => rfl)) (se_cal C_l_take (hr.mono (by decide)) rfl (sc_v (pv 0) (sc_e se_int sc_nil))) (fun _ => .inl rfl)) (fun _ => .inl rfl)))
  (sss_one (ss_set hN rfl (.inl rfl) (se_b2 (call_max2 rfl) ro_max2 rfl n_max (by decide +kernel) se_int (se_ix ix_seq ro_ix (se_lst (sa_cons (se_ix ix_seq ro_ix (se_pv (pv 10)) se_int (fun _ => .inr rfl) (fun _ _ => rfl)) (sa_cons (se_ix ix_seq ro_ix (se_pv (pv 10)) se_int (fun _ => .inr rfl) (fun _ _ => rfl)) (sa_cons (se_pv (pv 11)) (sa_cons (se_bin op_sub ro_sub (se_pv (pv 11)) se_int (fun _ => .inr rfl)) (sa_cons (se_bin op_sub ro_sub (se_ix ix_seq ro_ix (se_pv (pv 10)) se_int (fun _ => .inr rfl) (fun _ _ => rfl)) se_int (fun _ => .inl rfl)) (sa_cons (se_bin op_addA ro_add (se_ix ix_seq ro_ix (se_pv (pv 10)) se_int (fun _ => .inr rfl) (fun _ _ => rfl)) se_int (fun _ => .inl rfl)) sa_nil))))))) (se_cal C_l_take (hr.mono (by decide)) rfl (sc_v (pv 0) (sc_e se_int sc_nil))) (fun _ => .inl rfl) (fun _ _ => rfl)) (fun _ => .inl rfl)))))) sss_nil)
  (sss_one (ss_expr (se_mut PySem.F.plainAttrs_list PySem.F.slot_list_append PySem.F.type_list_append mt_append rm_append (sp_top (pv 6)) (sa_cons (se_tup (sa_cons (se_pv (pv 8)) (sa_cons (se_frz (se_bin op_addA ro_add (se_pv (pv 8)) (se_cal C_l_number (hr.mono (by decide)) rfl (sc_v (pv 0) (sc_e (se_ix ix_seq ro_ix (se_lst (sa_cons se_int (sa_cons (se_ix ix_seq ro_ix (se_lst (sa_cons se_int (sa_cons se_int sa_nil))) (se_pv (pv 3)) (fun _ => .inl rfl) (fun _ _ => rfl)) sa_nil))) (se_cal C_l_take (hr.mono (by decide)) rfl (sc_v (pv 0) (sc_e se_int sc_nil))) (fun _ => .inl rfl) (fun _ _ => rfl)) sc_nil))) (fun z => nomatch z))) sa_nil))) sa_nil) (.inl rfl)))))))))
  (sss_one (ss_if (st_cmp (op_ord (o := .gt) hu) ro_ord (se_cal C_l_take (hr.mono (by decide)) rfl (sc_v (pv 0) (sc_e se_int sc_nil))) se_int (fun _ => .inl rfl) (nomark _)) (sss_one (ss_expr (se_mut PySem.F.plainAttrs_list PySem.F.slot_list_insert PySem.F.type_list_insert mt_insert rm_insert (sp_top (pv 4)) (sa_cons (se_cal C_l_take (hr.mono (by decide)) rfl (sc_v (pv 0) (sc_e (se_bin op_addA ro_add (se_b1 call_len ro_len rfl n_len (by decide +kernel) (se_pv (pv 4))) se_int (fun _ => .inl rfl)) sc_nil))) (sa_cons (se_tup (sa_cons (se_pv (pv 5)) (sa_cons (se_frz (se_cal C_l_set_of (hr.mono (by decide)) rfl (sc_e (se_fz (pv 6)) sc_nil))) sa_nil))) sa_nil)) (.inl rfl)))) sss_nil)))))
  (sss_one (ss_retV (pv 4))))) (by decide)
  case hrb => decide
theorem sc_l_marks_by : FnScope ["_law_state", "_law_many", "_law_signs", "_law_word", "_law_spot", "_law_first", "_law_step", "_law_made", "_law_k"] ["_law_state", "_law_many"] (defScope s_l_marks_by) := ⟨rfl, rfl, rfl, by decide +kernel, rfl, by decide +kernel, by decide +kernel⟩
theorem ok_l_marks_by {P : Program} {w : World} {K : PySem.W.Frag} {mg : Str → Option Value} {base : Heap} {f : Addr} {fd : FuncData} (F : FnP K "_law_marks_by" s_l_marks_by f fd) (hm : mg "_law_marks_by" = some (.ref f)) (n_len : mg "len" = none) (n_range : mg "range" = none) (C_l_take : Cal P w K mg base 1 "_law_take" ["_law_state", "_law_many"] g_l_take) : Cal P w K mg base 2 "_law_marks_by" ["_law_state", "_law_many"] g_l_marks_by := by
  refine cal_mk (asg := [2, 3, 4, 5, 6, 7, 8]) F hm (F.bindsN fun _ _ _ _ _ _ us hl => match us, hl with | [_, _], _ => rfl) sc_l_marks_by rfl rfl ?hrb fun cdv A outer s H E hr => ?hb
  case hb =>
    have hN := sc_l_marks_by.nd
    have hu : (A.deeper (envOfC "_law_marks_by" (defScope s_l_marks_by) s.heap.objs.size f cdv)).units + 100 < cLine := by have := hr.un; omega
    have hu1 : (A.deeper (envOfC "_law_marks_by" (defScope s_l_marks_by) s.heap.objs.size f cdv)).units + 1 < cLine := by have := hr.un; omega
    exact sss_imp (sss_cons (ss_set hN rfl (.inr rfl) se_str)
  (sss_cons (ss_setLc rfl hN rfl rfl (sw_true rfl rfl rfl (by decide +kernel)) (si_range1 rfl n_range (sa_cons (se_bin op_addA ro_add se_int (se_cal C_l_take (hr.mono (by decide)) rfl (sc_v (pv 0) (sc_e se_int sc_nil))) (fun _ => .inl rfl)) sa_nil)) (own := [("_law_k", 8)]) (blkOk_by (N := ["_law_state", "_law_many", "_law_signs", "_law_word", "_law_spot", "_law_first", "_law_step", "_law_made", "_law_k"]) (sc := defScope s_l_marks_by) (own := [("_law_k", 8)]) (by decide +kernel)) (fun _ _ _ _ _ => (sg_name hN rfl (.inl rfl))) (fun _ _ _ _ _ => sfs_nil) (fun _ _ _ _ _ => (se_ix ix_seq ro_ix (se_pv (pv 2)) (se_cal C_l_take (hr.mono (by decide)) rfl (sc_v (pv 0) (sc_e se_int sc_nil))) (fun z => nomatch z) (fun _ _ => rfl))) (by decide))
  (sss_cons (ss_par3 rfl hN rfl rfl rfl (by decide) (by decide) (by decide) rfl rfl rfl (sa_cons (se_cal C_l_take (hr.mono (by decide)) rfl (sc_v (pv 0) (sc_e (se_b1 call_len ro_len rfl n_len (by decide +kernel) (se_pv (pv 3))) sc_nil))) (sa_cons (se_cal C_l_take (hr.mono (by decide)) rfl (sc_v (pv 0) (sc_e se_int sc_nil))) (sa_cons (se_ix ix_seq ro_ix (se_lst (sa_cons se_int (sa_cons se_int (sa_cons se_int (sa_cons se_int sa_nil))))) (se_cal C_l_take (hr.mono (by decide)) rfl (sc_v (pv 0) (sc_e se_int sc_nil))) (fun _ => .inl rfl) (fun _ _ => rfl)) sa_nil))) (by rfl))
  (sss_cons (ss_set hN rfl (.inl rfl) (se_lst sa_nil))
  (sss_cons (ss_for PassesOwn.never rfl (si_range1 rfl n_range (sa_cons (se_pv (pv 1)) sa_nil)) (sg_name hN rfl (.inl rfl)) (sss_cons (ss_asg (se_ix ix_seq ro_ix (se_pv (pv 2)) (se_bin op_mod ro_mod (se_bin op_addA ro_add (se_pv (pv 5)) (se_bin op_mulX ro_mul (se_pv (pv 6)) (se_pv (pv 8)) (fun _ => .inr rfl)) (fun _ => .inr rfl)) se_int (fun _ => .inl rfl)) (fun _ => .inr rfl) (fun _ _ => rfl)) (sg_sub (PSet.or set_list (set_dict hu1)) rset (sp_top (pv 3)) (se_pv (pv 4))))
  (sss_one (ss_expr (se_mut PySem.F.plainAttrs_list PySem.F.slot_list_append PySem.F.type_list_append mt_append rm_append (sp_top (pv 7)) (sa_cons (se_join se_str (se_pv (pv 3))) sa_nil) (.inl rfl))))))
  (sss_one (ss_retV (pv 7)))))))) (by decide)
  case hrb => decide
theorem sc_l_names : FnScope ["_law_state", "_law_many", "_law_letters", "_law_word", "_law_spot", "_law_first", "_law_step", "_law_made", "_law_k"] ["_law_state", "_law_many"] (defScope s_l_names) := ⟨rfl, rfl, rfl, by decide +kernel, rfl, by decide +kernel, by decide +kernel⟩
theorem ok_l_names {P : Program} {w : World} {K : PySem.W.Frag} {mg : Str → Option Value} {base : Heap} {f : Addr} {fd : FuncData} (F : FnP K "_law_names" s_l_names f fd) (hm : mg "_law_names" = some (.ref f)) (n_len : mg "len" = none) (n_range : mg "range" = none) (C_l_take : Cal P w K mg base 1 "_law_take" ["_law_state", "_law_many"] g_l_take) : Cal P w K mg base 2 "_law_names" ["_law_state", "_law_many"] g_l_names := by
  refine cal_mk (asg := [2, 3, 4, 5, 6, 7, 8]) F hm (F.bindsN fun _ _ _ _ _ _ us hl => match us, hl with | [_, _], _ => rfl) sc_l_names rfl rfl ?hrb fun cdv A outer s H E hr => ?hb
  case hb =>
    have hN := sc_l_names.nd
    have hu : (A.deeper (envOfC "_law_names" (defScope s_l_names) s.heap.objs.size f cdv)).units + 100 < cLine := by have := hr.un; omega
    have hu1 : (A.deeper (envOfC "_law_names" (defScope s_l_names) s.heap.objs.size f cdv)).units + 1 < cLine := by have := hr.un; omega
    exact sss_imp (sss_cons (ss_set hN rfl (.inr rfl) se_str)
  (sss_cons (ss_setLc rfl hN rfl rfl (sw_true rfl rfl rfl (by decide +kernel)) (si_range1 rfl n_range (sa_cons (se_bin op_addA ro_add se_int (se_cal C_l_take (hr.mono (by decide)) rfl (sc_v (pv 0) (sc_e se_int sc_nil))) (fun _ => .inl rfl)) sa_nil)) (own := [("_law_k", 8)]) (blkOk_by (N := ["_law_state", "_law_many", "_law_letters", "_law_word", "_law_spot", "_law_first", "_law_step", "_law_made", "_law_k"]) (sc := defScope s_l_names) (own := [("_law_k", 8)]) (by decide +kernel)) (fun _ _ _ _ _ => (sg_name hN rfl (.inl rfl))) (fun _ _ _ _ _ => sfs_nil) (fun _ _ _ _ _ => (se_ix ix_seq ro_ix (se_pv (pv 2)) (se_cal C_l_take (hr.mono (by decide)) rfl (sc_v (pv 0) (sc_e se_int sc_nil))) (fun z => nomatch z) (fun _ _ => rfl))) (by decide))
  (sss_cons (ss_par3 rfl hN rfl rfl rfl (by decide) (by decide) (by decide) rfl rfl rfl (sa_cons (se_cal C_l_take (hr.mono (by decide)) rfl (sc_v (pv 0) (sc_e (se_b1 call_len ro_len rfl n_len (by decide +kernel) (se_pv (pv 3))) sc_nil))) (sa_cons (se_cal C_l_take (hr.mono (by decide)) rfl (sc_v (pv 0) (sc_e se_int sc_nil))) (sa_cons (se_ix ix_seq ro_ix (se_lst (sa_cons se_int (sa_cons se_int (sa_cons se_int (sa_cons se_int sa_nil))))) (se_cal C_l_take (hr.mono (by decide)) rfl (sc_v (pv 0) (sc_e se_int sc_nil))) (fun _ => .inl rfl) (fun _ _ => rfl)) sa_nil))) (by rfl))
  (sss_cons (ss_set hN rfl (.inl rfl) (se_lst sa_nil))
  (sss_cons (ss_for PassesOwn.never rfl (si_range1 rfl n_range (sa_cons (se_pv (pv 1)) sa_nil)) (sg_name hN rfl (.inl rfl)) (sss_cons (ss_asg (se_ix ix_seq ro_ix (se_pv (pv 2)) (se_bin op_mod ro_mod (se_bin op_addA ro_add (se_pv (pv 5)) (se_bin op_mulX ro_mul (se_pv (pv 6)) (se_pv (pv 8)) (fun _ => .inr rfl)) (fun _ => .inr rfl)) se_int (fun _ => .inl rfl)) (fun _ => .inr rfl) (fun _ _ => rfl)) (sg_sub (PSet.or set_list (set_dict hu1)) rset (sp_top (pv 3)) (se_pv (pv 4))))
  (sss_one (ss_expr (se_mut PySem.F.plainAttrs_list PySem.F.slot_list_append PySem.F.type_list_append mt_append rm_append (sp_top (pv 7)) (sa_cons (se_join se_str (se_pv (pv 3))) sa_nil) (.inl rfl))))))
  (sss_one (ss_retV (pv 7)))))))) (by decide)
  case hrb => decide
theorem sc_l_parts_by : FnScope ["_law_state", "_law_marks", "_law_many", "_law_great", "_law_parts", "_law_turn", "_law_mark", "_law_first", "_law_near"] ["_law_state", "_law_marks", "_law_many", "_law_great"] (defScope s_l_parts_by) := ⟨rfl, rfl, rfl, by decide +kernel, rfl, by decide +kernel, by decide +kernel⟩
theorem ok_l_parts_by {P : Program} {w : World} {K : PySem.W.Frag} {mg : Str → Option Value} {base : Heap} {f : Addr} {fd : FuncData} (F : FnP K "_law_parts_by" s_l_parts_by f fd) (hm : mg "_law_parts_by" = some (.ref f)) (n_len : mg "len" = none) (n_max : mg "max" = none) (n_range : mg "range" = none) (C_l_number : Cal P w K mg base 2 "_law_number" ["_law_state", "_law_sort"] g_l_number) (C_l_take : Cal P w K mg base 1 "_law_take" ["_law_state", "_law_many"] g_l_take) : Cal P w K mg base 3 "_law_parts_by" ["_law_state", "_law_marks", "_law_many", "_law_great"] g_l_parts_by := by
  refine cal_mk (asg := [4, 5, 6, 7, 8]) F hm (F.bindsN fun _ _ _ _ _ _ us hl => match us, hl with | [_, _, _, _], _ => rfl) sc_l_parts_by rfl rfl ?hrb fun cdv A outer s H E hr => ?hb
  case hb =>
    have hN := sc_l_parts_by.nd
    have hu : (A.deeper (envOfC "_law_parts_by" (defScope s_l_parts_by) s.heap.objs.size f cdv)).units + 100 < cLine := by have := hr.un; omega
    have hu1 : (A.deeper (envOfC "_law_parts_by" (defScope s_l_parts_by) s.heap.objs.size f cdv)).units + 1 < cLine := by have := hr.un; omega
    exact sss_imp (sss_cons (ss_set hN rfl (.inl rfl) (se_lst sa_nil))
  (sss_cons (ss_for PassesOwn.never rfl (si_range1 rfl n_range (sa_cons (se_pv (pv 2)) sa_nil)) (sg_name hN rfl (.inl rfl)) (sss_cons (ss_par rfl hN rfl rfl (by decide) rfl rfl (sa_cons (se_ix ix_seq ro_ix (se_pv (pv 1)) (se_cal C_l_take (hr.mono (by decide)) rfl (sc_v (pv 0) (sc_e (se_b1 call_len ro_len rfl n_len (by decide +kernel) (se_pv (pv 1))) sc_nil))) (fun z => nomatch z) (fun _ _ => rfl)) (sa_cons (se_frz (se_cal C_l_number (hr.mono (by decide)) rfl (sc_v (pv 0) (sc_e (se_ix ix_seq ro_ix (se_lst (sa_cons se_int (sa_cons se_int sa_nil))) (se_pv (pv 3)) (fun _ => .inl rfl) (fun _ _ => rfl)) sc_nil)))) sa_nil)) (by rfl))
  (sss_cons (ss_if (SW.st (sw_and (st_cmp (Mv.op_neD hu) ro_eq (se_pv (pv 4)) (se_lst sa_nil) (fun _ => .inr rfl) (nomark _)) (sw_and1 (st_cmp (Mv.op_eqD hu) ro_eq (se_cal C_l_take (hr.mono (by decide)) rfl (sc_v (pv 0) (sc_e se_int sc_nil))) se_int (fun _ => .inl rfl) (nomark _))))) (sss_cons (ss_set hN rfl (.inl rfl) (se_ixV ix_seq ro_ix (pv 4) (se_cal C_l_take (hr.mono (by decide)) rfl (sc_v (pv 0) (sc_e (se_b1 call_len ro_len rfl n_len (by decide +kernel) (se_pv (pv 4))) sc_nil))) (fun _ _ => rfl)))
  (sss_one (ss_par rfl hN rfl rfl (by decide) rfl rfl (sa_cons (se_ix ix_seq ro_ix (se_pv (pv 8)) se_int (fun _ => .inr rfl) (fun _ _ => rfl)) (sa_cons (se_ix ix_seq ro_ix (se_lst (sa_cons (se_ix ix_seq ro_ix (se_pv (pv 8)) se_int (fun _ => .inr rfl) (fun _ _ => rfl)) (sa_cons (se_ix ix_seq ro_ix (se_pv (pv 8)) se_int (fun _ => .inr rfl) (fun _ _ => rfl)) (sa_cons (se_bin op_addA ro_add (se_ix ix_seq ro_ix (se_pv (pv 8)) se_int (fun _ => .inr rfl) (fun _ _ => rfl)) se_int (fun _ => .inl rfl)) (sa_cons (se_b2 (call_max2 rfl) ro_max2 rfl n_max (by decide +kernel) se_int (se_bin op_sub ro_sub (se_ix ix_seq ro_ix (se_pv (pv 8)) se_int (fun _ => .inr rfl) (fun _ _ => rfl)) se_int (fun _ => .inl rfl)) (fun _ => .inl rfl)) sa_nil))))) (se_cal C_l_take (hr.mono (by decide)) rfl (sc_v (pv 0) (sc_e se_int sc_nil))) (fun _ => .inl rfl) (fun _ _ => rfl)) sa_nil)) (by rfl)))) sss_nil)
  (sss_one (ss_expr (se_mut PySem.F.plainAttrs_list PySem.F.slot_list_append PySem.F.type_list_append mt_append rm_append (sp_top (pv 4)) (sa_cons (se_tup (sa_cons (se_pv (pv 6)) (sa_cons (se_pv (pv 7)) (sa_cons (se_frz (se_bin op_addA ro_add (se_pv (pv 7)) (se_cal C_l_number (hr.mono (by decide)) rfl (sc_v (pv 0) (sc_e (se_ix ix_seq ro_ix (se_ix ix_seq ro_ix (se_lst (sa_cons (se_frz (se_lst (sa_cons se_int (sa_cons se_int sa_nil)))) (sa_cons (se_frz (se_lst (sa_cons se_int (sa_cons se_int sa_nil)))) sa_nil))) (se_pv (pv 3)) (fun _ => .inl rfl) (fun _ _ => rfl)) (se_cal C_l_take (hr.mono (by decide)) rfl (sc_v (pv 0) (sc_e se_int sc_nil))) (fun _ => .inl rfl) (fun _ _ => rfl)) sc_nil))) (fun z => nomatch z))) sa_nil)))) sa_nil) (.inl rfl)))))))
  (sss_one (ss_retV (pv 4))))) (by decide)
  case hrb => decide
theorem sc_l_packing_by : FnScope ["_law_state", "_law_name", "_law_marks", "_law_great", "_law_parts", "_law_many", "_law_sizes", "_law_mark", "_law_first", "_law_last"] ["_law_state", "_law_name", "_law_marks", "_law_great"] (defScope s_l_packing_by) := ⟨rfl, rfl, rfl, by decide +kernel, rfl, by decide +kernel, by decide +kernel⟩
theorem ok_l_packing_by {P : Program} {w : World} {K : PySem.W.Frag} {mg : Str → Option Value} {base : Heap} {f : Addr} {fd : FuncData} (F : FnP K "_law_packing_by" s_l_packing_by f fd) (hm : mg "_law_packing_by" = some (.ref f)) (n_max : mg "max" = none) (n_sum : mg "sum" = none) (C_l_number : Cal P w K mg base 2 "_law_number" ["_law_state", "_law_sort"] g_l_number) (C_l_parts_by : Cal P w K mg base 3 "_law_parts_by" ["_law_state", "_law_marks", "_law_many", "_law_great"] g_l_parts_by) (C_l_take : Cal P w K mg base 1 "_law_take" ["_law_state", "_law_many"] g_l_take) : Cal P w K mg base 4 "_law_packing_by" ["_law_state", "_law_name", "_law_marks", "_law_great"] g_l_packing_by := by
  refine cal_mk (asg := [4, 5, 6]) F hm (F.bindsN fun _ _ _ _ _ _ us hl => match us, hl with | [_, _, _, _], _ => rfl) sc_l_packing_by rfl rfl ?hrb fun cdv A outer s H E hr => ?hb
  case hb =>
    have hN := sc_l_packing_by.nd
    have hu : (A.deeper (envOfC "_law_packing_by" (defScope s_l_packing_by) s.heap.objs.size f cdv)).units + 100 < cLine := by have := hr.un; omega
    have hu1 : (A.deeper (envOfC "_law_packing_by" (defScope s_l_packing_by) s.heap.objs.size f cdv)).units + 1 < cLine := by have := hr.un; omega
    exact sss_imp (sss_cons (ss_set hN rfl (.inl rfl) (se_frz (se_cal C_l_parts_by (hr.mono (by decide)) rfl (sc_v (pv 0) (sc_e (se_pv (pv 2)) (sc_e (se_ix ix_seq ro_ix (se_lst (sa_cons se_int (sa_cons se_int (sa_cons se_int (sa_cons se_int (sa_cons se_int sa_nil)))))) (se_cal C_l_take (hr.mono (by decide)) rfl (sc_v (pv 0) (sc_e se_int sc_nil))) (fun _ => .inl rfl) (fun _ _ => rfl)) (sc_e (se_pv (pv 3)) sc_nil)))))))
  (sss_cons (ss_set hN rfl (.inl rfl) (se_b1 (cr_sum rfl) ro_sum rfl n_sum (by decide +kernel) (se_lc rfl hN (si_seq (se_pv (pv 4))) (own := [("_law_mark", 7), ("_law_first", 8), ("_law_last", 9)]) (blkOk_by (N := ["_law_state", "_law_name", "_law_marks", "_law_great", "_law_parts", "_law_many", "_law_sizes", "_law_mark", "_law_first", "_law_last"]) (sc := defScope s_l_packing_by) (own := [("_law_mark", 7), ("_law_first", 8), ("_law_last", 9)]) (by decide +kernel)) (fun _ _ _ _ _ => (sg_tup rfl (sgs_cons (sg_name hN rfl (.inl rfl)) (sgs_cons (sg_name hN rfl (.inl rfl)) (sgs_cons (sg_name hN rfl (.inl rfl)) sgs_nil))))) (fun _ _ _ _ _ => sfs_nil) (fun _ _ _ _ _ => (se_bin op_addA ro_add (se_bin op_sub ro_sub (se_pv (pv 9)) (se_pv (pv 8)) (fun _ => .inr rfl)) se_int (fun _ => .inl rfl))) (by decide))))
  (sss_cons (ss_set hN rfl (.inl rfl) (se_frz (se_lst (sa_cons se_int (sa_cons (se_bin op_addA ro_add se_int (se_cal C_l_take (hr.mono (by decide)) rfl (sc_v (pv 0) (sc_e se_int sc_nil))) (fun _ => .inl rfl)) (sa_cons (se_b2 (call_max2 rfl) ro_max2 rfl n_max (by decide +kernel) se_int (se_pv (pv 5)) (fun _ => .inl rfl)) (sa_cons (se_bin op_addA ro_add (se_pv (pv 5)) se_int (fun _ => .inr rfl)) (sa_cons (se_bin op_addA ro_add se_int (se_cal C_l_number (hr.mono (by decide)) rfl (sc_v (pv 0) (sc_e (se_ix ix_seq ro_ix (se_lst (sa_cons se_int (sa_cons se_int sa_nil))) (se_pv (pv 3)) (fun _ => .inl rfl) (fun _ _ => rfl)) sc_nil))) (fun _ => .inl rfl)) sa_nil))))))))
  (sss_one (ss_ret (se_tup (sa_cons (se_pv (pv 1)) (sa_cons (se_ix ix_seq ro_ix (se_pv (pv 6)) (se_cal C_l_take (hr.mono (by decide)) rfl (sc_v (pv 0) (sc_e se_int sc_nil))) (fun z => nomatch z) (fun _ _ => rfl)) (sa_cons (se_pv (pv 4)) sa_nil))))))))) (by decide)
  case hrb => decide
theorem sc_cases_at : FnScope ["size", "begin", "first", "tins", "low", "high"] ["size", "begin", "first", "tins"] (defScope s_cases_at) := ⟨rfl, rfl, rfl, by decide +kernel, rfl, by decide +kernel, by decide +kernel⟩
theorem ok_cases_at {P : Program} {w : World} {K : PySem.W.Frag} {mg : Str → Option Value} {base : Heap} {f : Addr} {fd : FuncData} (F : FnP K "cases_at" s_cases_at f fd) (hm : mg "cases_at" = some (.ref f)) : Cal P w K mg base 1 "cases_at" ["size", "begin", "first", "tins"] g_cases_at := by
  refine cal_mk (asg := []) F hm (F.bindsN fun _ _ _ _ _ _ us hl => match us, hl with | [_, _, _, _], _ => rfl) sc_cases_at rfl rfl ?hrb fun cdv A outer s H E hr => ?hb
  case hb =>
    have hN := sc_cases_at.nd
    have hu : (A.deeper (envOfC "cases_at" (defScope s_cases_at) s.heap.objs.size f cdv)).units + 100 < cLine := by have := hr.un; omega
    have hu1 : (A.deeper (envOfC "cases_at" (defScope s_cases_at) s.heap.objs.size f cdv)).units + 1 < cLine := by have := hr.un; omega
    exact sss_imp (sss_one (ss_ret (se_lc rfl hN (si_seq (se_pv (pv 3))) (own := [("low", 4), ("high", 5)]) (blkOk_by (N := ["size", "begin", "first", "tins", "low", "high"]) (sc := defScope s_cases_at) (own := [("low", 4), ("high", 5)]) (by decide +kernel)) (fun _ _ _ _ _ => (sg_tup rfl (sgs_cons (sg_name hN rfl (.inl rfl)) (sgs_cons (sg_name hN rfl (.inl rfl)) sgs_nil)))) (fun _ _ _ _ _ => sfs_nil) (fun _ _ _ _ _ => (se_tup (sa_cons (se_bin op_fdivW ro_div (se_bin op_addA ro_add (se_bin op_sub ro_sub (se_pv (pv 4)) (se_pv (pv 2)) (fun _ => .inr rfl)) (se_pv (pv 1)) (fun _ => .inl rfl)) (se_pv (pv 0)) (fun _ => .inl rfl)) (sa_cons (se_bin op_fdivW ro_div (se_bin op_addA ro_add (se_bin op_sub ro_sub (se_pv (pv 5)) (se_pv (pv 2)) (fun _ => .inr rfl)) (se_pv (pv 1)) (fun _ => .inl rfl)) (se_pv (pv 0)) (fun _ => .inl rfl)) sa_nil)))) (by decide)))) (by decide)
  case hrb => decide
theorem sc_cases_of : FnScope ["packing", "many", "mark", "first", "last"] ["packing"] (defScope s_cases_of) := ⟨rfl, rfl, rfl, by decide +kernel, rfl, by decide +kernel, by decide +kernel⟩
theorem ok_cases_of {P : Program} {w : World} {K : PySem.W.Frag} {mg : Str → Option Value} {base : Heap} {f : Addr} {fd : FuncData} (F : FnP K "cases_of" s_cases_of f fd) (hm : mg "cases_of" = some (.ref f)) (n_sum : mg "sum" = none) : Cal P w K mg base 1 "cases_of" ["packing"] g_cases_of := by
  refine cal_mk (asg := [1]) F hm (F.bindsN fun _ _ _ _ _ _ us hl => match us, hl with | [_], _ => rfl) sc_cases_of rfl rfl ?hrb fun cdv A outer s H E hr => ?hb
  case hb =>
    have hN := sc_cases_of.nd
    have hu : (A.deeper (envOfC "cases_of" (defScope s_cases_of) s.heap.objs.size f cdv)).units + 100 < cLine := by have := hr.un; omega
    have hu1 : (A.deeper (envOfC "cases_of" (defScope s_cases_of) s.heap.objs.size f cdv)).units + 1 < cLine := by have := hr.un; omega
    exact sss_imp (sss_cons (ss_set hN rfl (.inl rfl) (se_b1 (cr_sum rfl) ro_sum rfl n_sum (by decide +kernel) (se_lc rfl hN (si_seq (se_ix ix_seq ro_ix (se_pv (pv 0)) se_int (fun _ => .inr rfl) (fun _ _ => rfl))) (own := [("mark", 2), ("first", 3), ("last", 4)]) (blkOk_by (N := ["packing", "many", "mark", "first", "last"]) (sc := defScope s_cases_of) (own := [("mark", 2), ("first", 3), ("last", 4)]) (by decide +kernel)) (fun _ _ _ _ _ => (sg_tup rfl (sgs_cons (sg_name hN rfl (.inl rfl)) (sgs_cons (sg_name hN rfl (.inl rfl)) (sgs_cons (sg_name hN rfl (.inl rfl)) sgs_nil))))) (fun _ _ _ _ _ => sfs_nil) (fun _ _ _ _ _ => (se_bin op_addA ro_add (se_bin op_sub ro_sub (se_pv (pv 4)) (se_pv (pv 3)) (fun _ => .inr rfl)) se_int (fun _ => .inl rfl))) (by decide))))
  (sss_one (ss_ret (se_bin op_fdivW ro_div (se_bin op_sub ro_sub (se_bin op_addA ro_add (se_pv (pv 1)) (se_ix ix_seq ro_ix (se_pv (pv 0)) se_int (fun _ => .inr rfl) (fun _ _ => rfl)) (fun _ => .inr rfl)) se_int (fun _ => .inl rfl)) (se_ix ix_seq ro_ix (se_pv (pv 0)) se_int (fun _ => .inr rfl) (fun _ _ => rfl)) (fun _ => .inl rfl))))) (by decide)
  case hrb => decide
theorem sc_set_of : FnScope ["pairs", "found", "first", "last"] ["pairs"] (defScope s_set_of) := ⟨rfl, rfl, rfl, by decide +kernel, rfl, by decide +kernel, by decide +kernel⟩
theorem ok_set_of {P : Program} {w : World} {K : PySem.W.Frag} {mg : Str → Option Value} {base : Heap} {f : Addr} {fd : FuncData} (F : FnP K "set_of" s_set_of f fd) (hm : mg "set_of" = some (.ref f)) (n_max : mg "max" = none) (n_sorted : mg "sorted" = none) : Cal P w K mg base 1 "set_of" ["pairs"] g_set_of := by
  refine cal_mk (asg := [1, 2, 3]) F hm (F.bindsN fun _ _ _ _ _ _ us hl => match us, hl with | [_], _ => rfl) sc_set_of rfl rfl ?hrb fun cdv A outer s H E hr => ?hb
  case hb =>
    have hN := sc_set_of.nd
    have hu : (A.deeper (envOfC "set_of" (defScope s_set_of) s.heap.objs.size f cdv)).units + 100 < cLine := by have := hr.un; omega
    have hu1 : (A.deeper (envOfC "set_of" (defScope s_set_of) s.heap.objs.size f cdv)).units + 1 < cLine := by have := hr.un; omega
    exact sss_imp (sss_cons (ss_set hN rfl (.inl rfl) (se_lst sa_nil))
  (sss_cons (ss_for PassesOwn.never rfl (si_seq (se_b1 (cr_sortA hu) ro_sort rfl n_sorted (by decide +kernel) (se_pv (pv 0)))) (sg_tup rfl (sgs_cons (sg_name hN rfl (.inl rfl)) (sgs_cons (sg_name hN rfl (.inl rfl)) sgs_nil))) (sss_cons (ss_if (st_cmp (op_ord (o := .gt) hu) ro_ord (se_pv (pv 2)) (se_pv (pv 3)) (fun _ => .inr rfl) (nomark _)) (sss_one ss_cont) sss_nil)
  (sss_one (ss_if (SW.st (sw_and (st_cmp (Mv.op_neD hu) ro_eq (se_pv (pv 1)) (se_lst sa_nil) (fun _ => .inr rfl) (nomark _)) (sw_and1 (st_cmp (op_ord (o := .le) hu) ro_ord (se_pv (pv 2)) (se_bin op_addA ro_add (se_ix ix_seq ro_ix (se_ix ix_seq ro_ix (se_pv (pv 1)) (se_un un_neg ro_neg se_int) (fun _ => .inr rfl) (fun _ _ => rfl)) se_int (fun _ => .inl rfl) (fun _ _ => rfl)) se_int (fun _ => .inl rfl)) (fun _ => .inr rfl) (nomark _))))) (sss_one (ss_asg (se_tup (sa_cons (se_ix ix_seq ro_ix (se_ix ix_seq ro_ix (se_pv (pv 1)) (se_un un_neg ro_neg se_int) (fun _ => .inr rfl) (fun _ _ => rfl)) se_int (fun _ => .inl rfl) (fun _ _ => rfl)) (sa_cons (se_b2 (call_max2 rfl) ro_max2 rfl n_max (by decide +kernel) (se_pv (pv 3)) (se_ix ix_seq ro_ix (se_ix ix_seq ro_ix (se_pv (pv 1)) (se_un un_neg ro_neg se_int) (fun _ => .inr rfl) (fun _ _ => rfl)) se_int (fun _ => .inl rfl) (fun _ _ => rfl)) (fun _ => .inr rfl)) sa_nil))) (sg_sub (PSet.or set_list (set_dict hu1)) rset (sp_top (pv 1)) (se_un un_neg ro_neg se_int)))) (sss_one (ss_expr (se_mut PySem.F.plainAttrs_list PySem.F.slot_list_append PySem.F.type_list_append mt_append rm_append (sp_top (pv 1)) (sa_cons (se_tup (sa_cons (se_pv (pv 2)) (sa_cons (se_pv (pv 3)) sa_nil))) sa_nil) (.inl rfl))))))))
  (sss_one (ss_retV (pv 1))))) (by decide)
  case hrb => decide
theorem sc_tins_marked : FnScope ["marked", "mark", "pairs", "own", "tins"] ["marked", "mark"] (defScope s_tins_marked) := ⟨rfl, rfl, rfl, by decide +kernel, rfl, by decide +kernel, by decide +kernel⟩
theorem ok_tins_marked {P : Program} {w : World} {K : PySem.W.Frag} {mg : Str → Option Value} {base : Heap} {f : Addr} {fd : FuncData} (F : FnP K "tins_marked" s_tins_marked f fd) (hm : mg "tins_marked" = some (.ref f)) (C_set_of : Cal P w K mg base 1 "set_of" ["pairs"] g_set_of) : Cal P w K mg base 2 "tins_marked" ["marked", "mark"] g_tins_marked := by
  refine cal_mk (asg := [2, 3, 4]) F hm (F.bindsN fun _ _ _ _ _ _ us hl => match us, hl with | [_, _], _ => rfl) sc_tins_marked rfl rfl ?hrb fun cdv A outer s H E hr => ?hb
  case hb =>
    have hN := sc_tins_marked.nd
    have hu : (A.deeper (envOfC "tins_marked" (defScope s_tins_marked) s.heap.objs.size f cdv)).units + 100 < cLine := by have := hr.un; omega
    have hu1 : (A.deeper (envOfC "tins_marked" (defScope s_tins_marked) s.heap.objs.size f cdv)).units + 1 < cLine := by have := hr.un; omega
    exact sss_imp (sss_cons (ss_set hN rfl (.inl rfl) (se_lst sa_nil))
  (sss_cons (ss_for PassesOwn.never rfl (si_seq (se_pv (pv 0))) (sg_tup rfl (sgs_cons (sg_name hN rfl (.inl rfl)) (sgs_cons (sg_name hN rfl (.inl rfl)) sgs_nil))) (sss_one (ss_if (st_cmp (Mv.op_eqD hu) ro_eq (se_pv (pv 3)) (se_pv (pv 1)) (fun _ => .inr rfl) (nomark _)) (sss_one (ss_expr (se_mut PySem.F.plainAttrs_list PySem.F.slot_list_extend PySem.F.type_list_extend mt_extendA rm_extendA (sp_top (pv 2)) (sa_cons (se_pv (pv 4)) sa_nil) (.inl rfl)))) sss_nil)))
  (sss_one (ss_ret (se_cal C_set_of (hr.mono (by decide)) rfl (sc_e (se_fz (pv 2)) sc_nil)))))) (by decide)
  case hrb => decide
theorem sc_without : FnScope ["one", "other", "found", "first", "last", "start", "end"] ["one", "other"] (defScope s_without) := ⟨rfl, rfl, rfl, by decide +kernel, rfl, by decide +kernel, by decide +kernel⟩
theorem ok_without {P : Program} {w : World} {K : PySem.W.Frag} {mg : Str → Option Value} {base : Heap} {f : Addr} {fd : FuncData} (F : FnP K "without" s_without f fd) (hm : mg "without" = some (.ref f)) : Cal P w K mg base 1 "without" ["one", "other"] g_without := by
  refine cal_mk (asg := [2, 3, 4, 5, 6]) F hm (F.bindsN fun _ _ _ _ _ _ us hl => match us, hl with | [_, _], _ => rfl) sc_without rfl rfl ?hrb fun cdv A outer s H E hr => ?hb
  case hb =>
    have hN := sc_without.nd
    have hu : (A.deeper (envOfC "without" (defScope s_without) s.heap.objs.size f cdv)).units + 100 < cLine := by have := hr.un; omega
    have hu1 : (A.deeper (envOfC "without" (defScope s_without) s.heap.objs.size f cdv)).units + 1 < cLine := by have := hr.un; omega
    exact sss_imp (sss_cons (ss_set hN rfl (.inl rfl) (se_lst sa_nil))
  (sss_cons (ss_for PassesOwn.never rfl (si_seq (se_pv (pv 0))) (sg_tup rfl (sgs_cons (sg_name hN rfl (.inl rfl)) (sgs_cons (sg_name hN rfl (.inl rfl)) sgs_nil))) (sss_cons (ss_for PassesOwn.never rfl (si_seq (se_pv (pv 1))) (sg_tup rfl (sgs_cons (sg_name hN rfl (.inl rfl)) (sgs_cons (sg_name hN rfl (.inl rfl)) sgs_nil))) (sss_one (ss_if (SW.st (sw_and (st_cmp (op_ord (o := .le) hu) ro_ord (se_pv (pv 5)) (se_pv (pv 4)) (fun _ => .inr rfl) (nomark _)) (sw_and1 (st_cmp (op_ord (o := .ge) hu) ro_ord (se_pv (pv 6)) (se_pv (pv 3)) (fun _ => .inr rfl) (nomark _))))) (sss_cons (ss_if (st_cmp (op_ord (o := .lt) hu) ro_ord (se_pv (pv 3)) (se_pv (pv 5)) (fun _ => .inr rfl) (nomark _)) (sss_one (ss_expr (se_mut PySem.F.plainAttrs_list PySem.F.slot_list_append PySem.F.type_list_append mt_append rm_append (sp_top (pv 2)) (sa_cons (se_tup (sa_cons (se_pv (pv 3)) (sa_cons (se_bin op_sub ro_sub (se_pv (pv 5)) se_int (fun _ => .inr rfl)) sa_nil))) sa_nil) (.inl rfl)))) sss_nil)
  (sss_one (ss_set hN rfl (.inl rfl) (se_bin op_addA ro_add (se_pv (pv 6)) se_int (fun _ => .inr rfl))))) sss_nil)))
  (sss_one (ss_if (st_cmp (op_ord (o := .le) hu) ro_ord (se_pv (pv 3)) (se_pv (pv 4)) (fun _ => .inr rfl) (nomark _)) (sss_one (ss_expr (se_mut PySem.F.plainAttrs_list PySem.F.slot_list_append PySem.F.type_list_append mt_append rm_append (sp_top (pv 2)) (sa_cons (se_tup (sa_cons (se_pv (pv 3)) (sa_cons (se_pv (pv 4)) sa_nil))) sa_nil) (.inl rfl)))) sss_nil))))
  (sss_one (ss_retV (pv 2))))) (by decide)
  case hrb => decide
theorem sc_cases_all : FnScope ["packing", "marked", "pairs", "mark", "first", "last", "begin", "tins"] ["packing", "marked"] (defScope s_cases_all) := ⟨rfl, rfl, rfl, by decide +kernel, rfl, by decide +kernel, by decide +kernel⟩
theorem ok_cases_all {P : Program} {w : World} {K : PySem.W.Frag} {mg : Str → Option Value} {base : Heap} {f : Addr} {fd : FuncData} (F : FnP K "cases_all" s_cases_all f fd) (hm : mg "cases_all" = some (.ref f)) (C_cases_at : Cal P w K mg base 1 "cases_at" ["size", "begin", "first", "tins"] g_cases_at) (C_cases_of : Cal P w K mg base 1 "cases_of" ["packing"] g_cases_of) (C_places_of : Cal P w K mg base 1 "places_of" ["packing"] g_places_of) (C_set_of : Cal P w K mg base 1 "set_of" ["pairs"] g_set_of) (C_tins_marked : Cal P w K mg base 2 "tins_marked" ["marked", "mark"] g_tins_marked) (C_without : Cal P w K mg base 1 "without" ["one", "other"] g_without) : Cal P w K mg base 3 "cases_all" ["packing", "marked"] g_cases_all := by
  refine cal_mk (asg := [2, 3, 4, 5, 6, 7]) F hm (F.bindsN fun _ _ _ _ _ _ us hl => match us, hl with | [_, _], _ => rfl) sc_cases_all rfl rfl ?hrb fun cdv A outer s H E hr => ?hb
  case hb =>
    have hN := sc_cases_all.nd
    have hu : (A.deeper (envOfC "cases_all" (defScope s_cases_all) s.heap.objs.size f cdv)).units + 100 < cLine := by have := hr.un; omega
    have hu1 : (A.deeper (envOfC "cases_all" (defScope s_cases_all) s.heap.objs.size f cdv)).units + 1 < cLine := by have := hr.un; omega
    exact sss_imp (sss_cons (ss_set hN rfl (.inl rfl) (se_lst sa_nil))
  (sss_cons (ss_for PassesOwn.never rfl (si_seq (se_cal C_places_of (hr.mono (by decide)) rfl (sc_e (se_pv (pv 0)) sc_nil))) (sg_tup rfl (sgs_cons (sg_name hN rfl (.inl rfl)) (sgs_cons (sg_name hN rfl (.inl rfl)) (sgs_cons (sg_name hN rfl (.inl rfl)) (sgs_cons (sg_name hN rfl (.inl rfl)) sgs_nil))))) (sss_cons (ss_set hN rfl (.inl rfl) (se_frz (se_cal C_without (hr.mono (by decide)) rfl (sc_e (se_frz (se_lst (sa_cons (se_tup (sa_cons (se_pv (pv 4)) (sa_cons (se_pv (pv 5)) sa_nil))) sa_nil))) (sc_e (se_frz (se_cal C_tins_marked (hr.mono (by decide)) rfl (sc_e (se_pv (pv 1)) (sc_e (se_pv (pv 3)) sc_nil)))) sc_nil)))))
  (sss_one (ss_expr (se_mut PySem.F.plainAttrs_list PySem.F.slot_list_extend PySem.F.type_list_extend mt_extendA rm_extendA (sp_top (pv 2)) (sa_cons (se_cal C_cases_at (hr.mono (by decide)) rfl (sc_e (se_ix ix_seq ro_ix (se_pv (pv 0)) se_int (fun _ => .inr rfl) (fun _ _ => rfl)) (sc_e (se_pv (pv 6)) (sc_e (se_pv (pv 4)) (sc_e (se_pv (pv 7)) sc_nil))))) sa_nil) (.inl rfl))))))
  (sss_one (ss_ret (se_cal C_without (hr.mono (by decide)) rfl (sc_e (se_frz (se_cal C_set_of (hr.mono (by decide)) rfl (sc_e (se_frz (se_lst (sa_cons (se_tup (sa_cons se_int (sa_cons (se_bin op_sub ro_sub (se_cal C_cases_of (hr.mono (by decide)) rfl (sc_e (se_pv (pv 0)) sc_nil)) se_int (fun _ => .inl rfl)) sa_nil))) sa_nil))) sc_nil))) (sc_e (se_frz (se_cal C_set_of (hr.mono (by decide)) rfl (sc_e (se_fz (pv 2)) sc_nil))) sc_nil))))))) (by decide)
  case hrb => decide
theorem sc_both_of : FnScope ["one", "other", "found", "i", "j", "first", "last"] ["one", "other"] (defScope s_both_of) := ⟨rfl, rfl, rfl, by decide +kernel, rfl, by decide +kernel, by decide +kernel⟩
theorem ok_both_of {P : Program} {w : World} {K : PySem.W.Frag} {mg : Str → Option Value} {base : Heap} {f : Addr} {fd : FuncData} (F : FnP K "both_of" s_both_of f fd) (hm : mg "both_of" = some (.ref f)) (n_len : mg "len" = none) (n_max : mg "max" = none) (n_min : mg "min" = none) : Cal P w K mg base 1 "both_of" ["one", "other"] g_both_of := by
  refine cal_mk (asg := [2, 3, 4, 5, 6]) F hm (F.bindsN fun _ _ _ _ _ _ us hl => match us, hl with | [_, _], _ => rfl) sc_both_of rfl rfl ?hrb fun cdv A outer s H E hr => ?hb
  case hb =>
    have hN := sc_both_of.nd
    have hu : (A.deeper (envOfC "both_of" (defScope s_both_of) s.heap.objs.size f cdv)).units + 100 < cLine := by have := hr.un; omega
    have hu1 : (A.deeper (envOfC "both_of" (defScope s_both_of) s.heap.objs.size f cdv)).units + 1 < cLine := by have := hr.un; omega
    exact sss_imp (sss_cons (ss_set hN rfl (.inl rfl) (se_lst sa_nil))
  (sss_cons (ss_set hN rfl (.inl rfl) se_int)
  (sss_cons (ss_set hN rfl (.inl rfl) se_int)
  (sss_cons (ss_while 1000000 PassesOwn.never (SW.st (sw_and (st_cmp (op_ord (o := .lt) hu) ro_ord (se_pv (pv 3)) (se_b1 call_len ro_len rfl n_len (by decide +kernel) (se_pv (pv 0))) (fun _ => .inr rfl) (nomark _)) (sw_and1 (st_cmp (op_ord (o := .lt) hu) ro_ord (se_pv (pv 4)) (se_b1 call_len ro_len rfl n_len (by decide +kernel) (se_pv (pv 1))) (fun _ => .inr rfl) (nomark _))))) (sss_cons (ss_par rfl hN rfl rfl (by decide) rfl rfl (sa_cons (se_b2 (call_max2 rfl) ro_max2 rfl n_max (by decide +kernel) (se_ix ix_seq ro_ix (se_ix ix_seq ro_ix (se_pv (pv 0)) (se_pv (pv 3)) (fun _ => .inr rfl) (fun _ _ => rfl)) se_int (fun _ => .inl rfl) (fun _ _ => rfl)) (se_ix ix_seq ro_ix (se_ix ix_seq ro_ix (se_pv (pv 1)) (se_pv (pv 4)) (fun _ => .inr rfl) (fun _ _ => rfl)) se_int (fun _ => .inl rfl) (fun _ _ => rfl)) (fun _ => .inl rfl)) (sa_cons (se_b2 (call_min2 rfl) ro_min2 rfl n_min (by decide +kernel) (se_ix ix_seq ro_ix (se_ix ix_seq ro_ix (se_pv (pv 0)) (se_pv (pv 3)) (fun _ => .inr rfl) (fun _ _ => rfl)) se_int (fun _ => .inl rfl) (fun _ _ => rfl)) (se_ix ix_seq ro_ix (se_ix ix_seq ro_ix (se_pv (pv 1)) (se_pv (pv 4)) (fun _ => .inr rfl) (fun _ _ => rfl)) se_int (fun _ => .inl rfl) (fun _ _ => rfl)) (fun _ => .inl rfl)) sa_nil)) (by rfl))
  (sss_cons (ss_if (st_cmp (op_ord (o := .le) hu) ro_ord (se_pv (pv 5)) (se_pv (pv 6)) (fun _ => .inr rfl) (nomark _)) (sss_one (ss_expr (se_mut PySem.F.plainAttrs_list PySem.F.slot_list_append PySem.F.type_list_append mt_append rm_append (sp_top (pv 2)) (sa_cons (se_tup (sa_cons (se_pv (pv 5)) (sa_cons (se_pv (pv 6)) sa_nil))) sa_nil) (.inl rfl)))) sss_nil)
  (sss_one (ss_if (st_cmp (op_ord (o := .lt) hu) ro_ord (se_ix ix_seq ro_ix (se_ix ix_seq ro_ix (se_pv (pv 0)) (se_pv (pv 3)) (fun _ => .inr rfl) (fun _ _ => rfl)) se_int (fun _ => .inl rfl) (fun _ _ => rfl)) (se_ix ix_seq ro_ix (se_ix ix_seq ro_ix (se_pv (pv 1)) (se_pv (pv 4)) (fun _ => .inr rfl) (fun _ _ => rfl)) se_int (fun _ => .inl rfl) (fun _ _ => rfl)) (fun _ => .inl rfl) (nomark _)) (sss_one (ss_aug hN rfl (.inl rfl) se_int ip_add ro_ipadd)) (sss_one (ss_aug hN rfl (.inl rfl) se_int ip_add ro_ipadd)))))))
  (sss_one (ss_retV (pv 2))))))) (by decide)
  case hrb => decide
theorem sc_cases_with : FnScope ["packing", "marked", "pairs", "mark", "first", "last", "begin", "tins"] ["packing", "marked"] (defScope s_cases_with) := ⟨rfl, rfl, rfl, by decide +kernel, rfl, by decide +kernel, by decide +kernel⟩
theorem ok_cases_with {P : Program} {w : World} {K : PySem.W.Frag} {mg : Str → Option Value} {base : Heap} {f : Addr} {fd : FuncData} (F : FnP K "cases_with" s_cases_with f fd) (hm : mg "cases_with" = some (.ref f)) (C_both_of : Cal P w K mg base 1 "both_of" ["one", "other"] g_both_of) (C_cases_at : Cal P w K mg base 1 "cases_at" ["size", "begin", "first", "tins"] g_cases_at) (C_places_of : Cal P w K mg base 1 "places_of" ["packing"] g_places_of) (C_set_of : Cal P w K mg base 1 "set_of" ["pairs"] g_set_of) (C_tins_marked : Cal P w K mg base 2 "tins_marked" ["marked", "mark"] g_tins_marked) : Cal P w K mg base 3 "cases_with" ["packing", "marked"] g_cases_with := by
  refine cal_mk (asg := [2, 3, 4, 5, 6, 7]) F hm (F.bindsN fun _ _ _ _ _ _ us hl => match us, hl with | [_, _], _ => rfl) sc_cases_with rfl rfl ?hrb fun cdv A outer s H E hr => ?hb
  case hb =>
    have hN := sc_cases_with.nd
    have hu : (A.deeper (envOfC "cases_with" (defScope s_cases_with) s.heap.objs.size f cdv)).units + 100 < cLine := by have := hr.un; omega
    have hu1 : (A.deeper (envOfC "cases_with" (defScope s_cases_with) s.heap.objs.size f cdv)).units + 1 < cLine := by have := hr.un; omega
    exact sss_imp (sss_cons (ss_set hN rfl (.inl rfl) (se_lst sa_nil))
  (sss_cons (ss_for PassesOwn.never rfl (si_seq (se_cal C_places_of (hr.mono (by decide)) rfl (sc_e (se_pv (pv 0)) sc_nil))) (sg_tup rfl (sgs_cons (sg_name hN rfl (.inl rfl)) (sgs_cons (sg_name hN rfl (.inl rfl)) (sgs_cons (sg_name hN rfl (.inl rfl)) (sgs_cons (sg_name hN rfl (.inl rfl)) sgs_nil))))) (sss_cons (ss_set hN rfl (.inl rfl) (se_frz (se_cal C_both_of (hr.mono (by decide)) rfl (sc_e (se_frz (se_lst (sa_cons (se_tup (sa_cons (se_pv (pv 4)) (sa_cons (se_pv (pv 5)) sa_nil))) sa_nil))) (sc_e (se_frz (se_cal C_tins_marked (hr.mono (by decide)) rfl (sc_e (se_pv (pv 1)) (sc_e (se_pv (pv 3)) sc_nil)))) sc_nil)))))
  (sss_one (ss_expr (se_mut PySem.F.plainAttrs_list PySem.F.slot_list_extend PySem.F.type_list_extend mt_extendA rm_extendA (sp_top (pv 2)) (sa_cons (se_cal C_cases_at (hr.mono (by decide)) rfl (sc_e (se_ix ix_seq ro_ix (se_pv (pv 0)) se_int (fun _ => .inr rfl) (fun _ _ => rfl)) (sc_e (se_pv (pv 6)) (sc_e (se_pv (pv 4)) (sc_e (se_pv (pv 7)) sc_nil))))) sa_nil) (.inl rfl))))))
  (sss_one (ss_ret (se_cal C_set_of (hr.mono (by decide)) rfl (sc_e (se_fz (pv 2)) sc_nil)))))) (by decide)
  case hrb => decide
theorem sc_law : FnScope ["_law_script", "_law_state", "_law_marks", "_law_name", "_law_turn", "_law_packing", "_law_many", "_law_tins", "_law_rows", "_law_some", "_law_whole", "_law_cases", "_law_ahead", "_law_first", "_law_last", "_law_mark", "_law_case"] ["_law_script"] (defScope s_law) := ⟨rfl, rfl, rfl, by decide +kernel, rfl, by decide +kernel, by decide +kernel⟩
theorem fn_law {P : Program} {w : World} {K : PySem.W.Frag} {mg : Str → Option Value} {base : Heap} {f : Addr} {fd : FuncData} (F : FnP K "law" s_law f fd) (n_all : mg "all" = none) (n_max : mg "max" = none) (n_range : mg "range" = none) (n_sum : mg "sum" = none) (C_l_begin : Cal P w K mg base 1 "_law_begin" ["_law_script"] g_l_begin) (C_l_case_right : Cal P w K mg base 13 "_law_case_right" ["_law_packing", "_law_rows", "_law_case", "_law_some", "_law_whole"] g_l_case_right) (C_l_is_set : Cal P w K mg base 1 "_law_is_set" ["_law_some", "_law_most"] g_l_is_set) (C_l_marked_by : Cal P w K mg base 3 "_law_marked_by" ["_law_state", "_law_marks", "_law_packing", "_law_great"] g_l_marked_by) (C_l_marks_by : Cal P w K mg base 2 "_law_marks_by" ["_law_state", "_law_many"] g_l_marks_by) (C_l_names : Cal P w K mg base 2 "_law_names" ["_law_state", "_law_many"] g_l_names) (C_l_number : Cal P w K mg base 2 "_law_number" ["_law_state", "_law_sort"] g_l_number) (C_l_packing_by : Cal P w K mg base 4 "_law_packing_by" ["_law_state", "_law_name", "_law_marks", "_law_great"] g_l_packing_by) (C_cases_all : Cal P w K mg base 3 "cases_all" ["packing", "marked"] g_cases_all) (C_cases_of : Cal P w K mg base 1 "cases_of" ["packing"] g_cases_of) (C_cases_with : Cal P w K mg base 3 "cases_with" ["packing", "marked"] g_cases_with) : FnOk P w K mg base CX0 14 f fd ["_law_script"] (spOf K g_law) := by
  refine defD_ok (asg := [1, 2, 3, 4, 5, 6, 7, 8, 9, 10, 11, 12, 13, 14, 15]) F sc_law rfl rfl ?hrb fun cdv A outer s H E hr => ?hb
  case hb =>
    have hN := sc_law.nd
    have hu : (A.deeper (envOfC "law" (defScope s_law) s.heap.objs.size f cdv)).units + 100 < cLine := by have := hr.un; omega
    have hu1 : (A.deeper (envOfC "law" (defScope s_law) s.heap.objs.size f cdv)).units + 1 < cLine := by have := hr.un; omega
    exact sss_imp (sss_cons (ss_set hN rfl (.inl rfl) (se_cal C_l_begin (hr.mono (by decide)) rfl (sc_e (se_pv (pv 0)) sc_nil)))
  (sss_cons (ss_par rfl hN rfl rfl (by decide) rfl rfl (sa_cons (se_frz (se_cal C_l_marks_by (hr.mono (by decide)) rfl (sc_v (pv 1) (sc_e se_int sc_nil)))) (sa_cons (se_ix ix_seq ro_ix (se_cal C_l_names (hr.mono (by decide)) rfl (sc_v (pv 1) (sc_e se_int sc_nil))) se_int (fun _ => .inl rfl) (fun _ _ => rfl)) sa_nil)) (by rfl))
  (sss_cons (ss_for PassesOwn.never rfl (si_range1 rfl n_range (sa_cons se_int sa_nil)) (sg_name hN rfl (.inl rfl)) (sss_cons (ss_set hN rfl (.inr rfl) (se_cal C_l_packing_by (hr.mono (by decide)) rfl (sc_v (pv 1) (sc_e (se_pv (pv 3)) (sc_e (se_pv (pv 2)) (sc_e se_int sc_nil))))))
  (sss_cons (ss_par rfl hN rfl rfl (by decide) rfl rfl (sa_cons (se_cal C_cases_of (hr.mono (by decide)) rfl (sc_e (se_pv (pv 5)) sc_nil)) (sa_cons (se_b1 (cr_sum rfl) ro_sum rfl n_sum (by decide +kernel) (se_lc rfl hN (si_seq (se_ix ix_seq ro_ix (se_pv (pv 5)) se_int (fun _ => .inr rfl) (fun _ _ => rfl))) (own := [("_law_mark", 15), ("_law_first", 13), ("_law_last", 14)]) (blkOk_by (N := ["_law_script", "_law_state", "_law_marks", "_law_name", "_law_turn", "_law_packing", "_law_many", "_law_tins", "_law_rows", "_law_some", "_law_whole", "_law_cases", "_law_ahead", "_law_first", "_law_last", "_law_mark", "_law_case"]) (sc := defScope s_law) (own := [("_law_mark", 15), ("_law_first", 13), ("_law_last", 14)]) (by decide +kernel)) (fun _ _ _ _ _ => (sg_tup rfl (sgs_cons (sg_name hN rfl (.inl rfl)) (sgs_cons (sg_name hN rfl (.inl rfl)) (sgs_cons (sg_name hN rfl (.inl rfl)) sgs_nil))))) (fun _ _ _ _ _ => sfs_nil) (fun _ _ _ _ _ => (se_bin op_addA ro_add (se_bin op_sub ro_sub (se_pv (pv 14)) (se_pv (pv 13)) (fun _ => .inr rfl)) se_int (fun _ => .inl rfl))) (by decide))) sa_nil)) (by rfl))
  (sss_cons (ss_if (SW.st (sw_and (st_not (st_chain (op_ord (o := .lt) hu) ro_ord (op_ord (o := .le) hu) ro_ord (se_bin op_mulX ro_mul (se_bin op_sub ro_sub (se_pv (pv 6)) se_int (fun _ => .inr rfl)) (se_ix ix_seq ro_ix (se_pv (pv 5)) se_int (fun _ => .inr rfl) (fun _ _ => rfl)) (fun _ => .inl rfl)) (se_pv (pv 7)) (se_bin op_mulX ro_mul (se_pv (pv 6)) (se_ix ix_seq ro_ix (se_pv (pv 5)) se_int (fun _ => .inr rfl) (fun _ _ => rfl)) (fun _ => .inr rfl)))) (sw_and1 (st_cmp (Mv.op_neD hu) ro_eq (se_tup (sa_cons (se_pv (pv 7)) (sa_cons (se_pv (pv 6)) sa_nil))) (se_tup (sa_cons se_int (sa_cons se_int sa_nil))) (fun _ => .inl rfl) (nomark _))))) (sss_one (ss_ret se_bl)) sss_nil)
  (sss_cons (ss_set hN rfl (.inr rfl) (se_frz (se_cal C_l_marked_by (hr.mono (by decide)) rfl (sc_v (pv 1) (sc_e (se_pv (pv 2)) (sc_e (se_pv (pv 5)) (sc_e se_int sc_nil)))))))
  (sss_cons (ss_parT rfl (by decide) (pgs_cons (pg_name hN rfl (.inr rfl)) (pgs_cons (pg_name hN rfl (.inr rfl)) pgs_nil)) (sa_cons (se_frz (se_cal C_cases_with (hr.mono (by decide)) rfl (sc_e (se_pv (pv 5)) (sc_e (se_pv (pv 8)) sc_nil)))) (sa_cons (se_frz (se_cal C_cases_all (hr.mono (by decide)) rfl (sc_e (se_pv (pv 5)) (sc_e (se_pv (pv 8)) sc_nil)))) sa_nil)))
  (sss_cons (ss_if (SW.st (sw_or (st_not (st_val (se_cal C_l_is_set (hr.mono (by decide)) rfl (sc_e (se_pv (pv 9)) (sc_e (se_pv (pv 6)) sc_nil))))) (sw_or1 (st_not (st_val (se_cal C_l_is_set (hr.mono (by decide)) rfl (sc_e (se_pv (pv 10)) (sc_e (se_pv (pv 6)) sc_nil)))))))) (sss_one (ss_ret se_bl)) sss_nil)
  (sss_cons (ss_par rfl hN rfl rfl (by decide) rfl rfl (sa_cons (se_lst (sa_cons se_int (sa_cons (se_pv (pv 6)) (sa_cons (se_bin op_addA ro_add (se_pv (pv 6)) se_int (fun _ => .inr rfl)) (sa_cons (se_bin op_mod ro_mod (se_cal C_l_number (hr.mono (by decide)) rfl (sc_v (pv 1) (sc_e se_int sc_nil))) (se_bin op_addA ro_add (se_pv (pv 6)) se_int (fun _ => .inr rfl)) (fun _ => .inl rfl)) sa_nil))))) (sa_cons se_int sa_nil)) (by rfl))
  (sss_cons (ss_for PassesOwn.never rfl (si_seq (se_bin op_addA ro_add (se_pv (pv 9)) (se_pv (pv 10)) (fun _ => .inr rfl))) (sg_tup rfl (sgs_cons (sg_name hN rfl (.inl rfl)) (sgs_cons (sg_name hN rfl (.inl rfl)) sgs_nil))) (sss_one (ss_expr (se_mut PySem.F.plainAttrs_list PySem.F.slot_list_extend PySem.F.type_list_extend mt_extendA rm_extendA (sp_top (pv 11)) (sa_cons (se_lst (sa_cons (se_pv (pv 13)) (sa_cons (se_pv (pv 14)) (sa_cons (se_b2 (call_max2 rfl) ro_max2 rfl n_max (by decide +kernel) se_int (se_bin op_sub ro_sub (se_pv (pv 13)) se_int (fun _ => .inr rfl)) (fun _ => .inl rfl)) (sa_cons (se_bin op_addA ro_add (se_pv (pv 14)) se_int (fun _ => .inr rfl)) sa_nil))))) sa_nil) (.inl rfl)))))
  (sss_cons (ss_for PassesOwn.never rfl (si_seq (se_ix ix_seq ro_ix (se_pv (pv 5)) se_int (fun _ => .inr rfl) (fun _ _ => rfl))) (sg_tup rfl (sgs_cons (sg_name hN rfl (.inl rfl)) (sgs_cons (sg_name hN rfl (.inl rfl)) (sgs_cons (sg_name hN rfl (.inl rfl)) sgs_nil)))) (sss_cons (ss_expr (se_mut PySem.F.plainAttrs_list PySem.F.slot_list_extend PySem.F.type_list_extend mt_extendA rm_extendA (sp_top (pv 11)) (sa_cons (se_lst (sa_cons (se_bin op_fdivW ro_div (se_pv (pv 12)) (se_ix ix_seq ro_ix (se_pv (pv 5)) se_int (fun _ => .inr rfl) (fun _ _ => rfl)) (fun _ => .inr rfl)) (sa_cons (se_b2 (call_max2 rfl) ro_max2 rfl n_max (by decide +kernel) se_int (se_bin op_sub ro_sub (se_bin op_fdivW ro_div (se_pv (pv 12)) (se_ix ix_seq ro_ix (se_pv (pv 5)) se_int (fun _ => .inr rfl) (fun _ _ => rfl)) (fun _ => .inr rfl)) se_int (fun _ => .inl rfl)) (fun _ => .inl rfl)) sa_nil))) sa_nil) (.inl rfl)))
  (sss_one (ss_set hN rfl (.inl rfl) (se_bin op_addA ro_add (se_bin op_sub ro_sub (se_bin op_addA ro_add (se_pv (pv 12)) (se_pv (pv 14)) (fun _ => .inr rfl)) (se_pv (pv 13)) (fun _ => .inl rfl)) se_int (fun _ => .inl rfl))))))
  (sss_one (ss_if (st_not (st_val (se_b1 (cr_all rfl) ro_all rfl n_all (by decide +kernel) (se_lc rfl hN (si_seq (se_fz (pv 11))) (own := [("_law_case", 16)]) (blkOk_by (N := ["_law_script", "_law_state", "_law_marks", "_law_name", "_law_turn", "_law_packing", "_law_many", "_law_tins", "_law_rows", "_law_some", "_law_whole", "_law_cases", "_law_ahead", "_law_first", "_law_last", "_law_mark", "_law_case"]) (sc := defScope s_law) (own := [("_law_case", 16)]) (by decide +kernel)) (fun _ _ _ _ _ => (sg_name hN rfl (.inl rfl))) (fun _ _ _ _ _ => sfs_nil) (fun _ _ _ _ _ => (se_cal C_l_case_right (hr.mono (by decide)) rfl (sc_e (se_pv (pv 5)) (sc_e (se_pv (pv 8)) (sc_e (se_pv (pv 16)) (sc_e (se_pv (pv 9)) (sc_e (se_pv (pv 10)) sc_nil))))))) (by decide))))) (sss_one (ss_ret se_bl)) sss_nil))))))))))))
  (sss_one (ss_ret se_bl))))) (by decide)
  case hrb => decide
/-! ### the head -/
def d_l_begin : He.DefD := ⟨("_law_begin", none), "_law_begin", "_law_begin", defArgs s_l_begin, defBody s_l_begin, defScope s_l_begin, [], []⟩
def d_l_in_case : He.DefD := ⟨("_law_in_case", none), "_law_in_case", "_law_in_case", defArgs s_l_in_case, defBody s_l_in_case, defScope s_l_in_case, [], []⟩
def d_l_is_in : He.DefD := ⟨("_law_is_in", none), "_law_is_in", "_law_is_in", defArgs s_l_is_in, defBody s_l_is_in, defScope s_l_is_in, [], []⟩
def d_l_marked_in : He.DefD := ⟨("_law_marked_in", none), "_law_marked_in", "_law_marked_in", defArgs s_l_marked_in, defBody s_l_marked_in, defScope s_l_marked_in, [], []⟩
def d_l_same : He.DefD := ⟨("_law_same", none), "_law_same", "_law_same", defArgs s_l_same, defBody s_l_same, defScope s_l_same, [], []⟩
def d_places_of : He.DefD := ⟨("places_of", none), "places_of", "places_of", defArgs s_places_of, defBody s_places_of, defScope s_places_of, [], []⟩
def d_tins_in : He.DefD := ⟨("tins_in", none), "tins_in", "tins_in", defArgs s_tins_in, defBody s_tins_in, defScope s_tins_in, [], []⟩
def d_l_case_right : He.DefD := ⟨("_law_case_right", none), "_law_case_right", "_law_case_right", defArgs s_l_case_right, defBody s_l_case_right, defScope s_l_case_right, [], []⟩
def d_l_is_set : He.DefD := ⟨("_law_is_set", none), "_law_is_set", "_law_is_set", defArgs s_l_is_set, defBody s_l_is_set, defScope s_l_is_set, [], []⟩
def d_l_take : He.DefD := ⟨("_law_take", none), "_law_take", "_law_take", defArgs s_l_take, defBody s_l_take, defScope s_l_take, [], []⟩
def d_l_number : He.DefD := ⟨("_law_number", none), "_law_number", "_law_number", defArgs s_l_number, defBody s_l_number, defScope s_l_number, [], []⟩
def d_l_set_of : He.DefD := ⟨("_law_set_of", none), "_law_set_of", "_law_set_of", defArgs s_l_set_of, defBody s_l_set_of, defScope s_l_set_of, [], []⟩
def d_l_marked_by : He.DefD := ⟨("_law_marked_by", none), "_law_marked_by", "_law_marked_by", defArgs s_l_marked_by, defBody s_l_marked_by, defScope s_l_marked_by, [], []⟩
def d_l_marks_by : He.DefD := ⟨("_law_marks_by", none), "_law_marks_by", "_law_marks_by", defArgs s_l_marks_by, defBody s_l_marks_by, defScope s_l_marks_by, [], []⟩
def d_l_names : He.DefD := ⟨("_law_names", none), "_law_names", "_law_names", defArgs s_l_names, defBody s_l_names, defScope s_l_names, [], []⟩
def d_l_parts_by : He.DefD := ⟨("_law_parts_by", none), "_law_parts_by", "_law_parts_by", defArgs s_l_parts_by, defBody s_l_parts_by, defScope s_l_parts_by, [], []⟩
def d_l_packing_by : He.DefD := ⟨("_law_packing_by", none), "_law_packing_by", "_law_packing_by", defArgs s_l_packing_by, defBody s_l_packing_by, defScope s_l_packing_by, [], []⟩
def d_cases_at : He.DefD := ⟨("cases_at", none), "cases_at", "cases_at", defArgs s_cases_at, defBody s_cases_at, defScope s_cases_at, [], []⟩
def d_cases_of : He.DefD := ⟨("cases_of", none), "cases_of", "cases_of", defArgs s_cases_of, defBody s_cases_of, defScope s_cases_of, [], []⟩
def d_set_of : He.DefD := ⟨("set_of", none), "set_of", "set_of", defArgs s_set_of, defBody s_set_of, defScope s_set_of, [], []⟩
def d_tins_marked : He.DefD := ⟨("tins_marked", none), "tins_marked", "tins_marked", defArgs s_tins_marked, defBody s_tins_marked, defScope s_tins_marked, [], []⟩
def d_without : He.DefD := ⟨("without", none), "without", "without", defArgs s_without, defBody s_without, defScope s_without, [], []⟩
def d_cases_all : He.DefD := ⟨("cases_all", none), "cases_all", "cases_all", defArgs s_cases_all, defBody s_cases_all, defScope s_cases_all, [], []⟩
def d_both_of : He.DefD := ⟨("both_of", none), "both_of", "both_of", defArgs s_both_of, defBody s_both_of, defScope s_both_of, [], []⟩
def d_cases_with : He.DefD := ⟨("cases_with", none), "cases_with", "cases_with", defArgs s_cases_with, defBody s_cases_with, defScope s_cases_with, [], []⟩
def d_law : He.DefD := ⟨("law", none), "law", "law", defArgs s_law, defBody s_law, defScope s_law, [], []⟩
def fn : List He.DefD := [d_l_begin, d_l_in_case, d_l_is_in, d_l_marked_in, d_l_same, d_places_of, d_tins_in, d_l_case_right, d_l_is_set, d_l_take, d_l_number, d_l_set_of, d_l_marked_by, d_l_marks_by, d_l_names, d_l_parts_by, d_l_packing_by, d_cases_at, d_cases_of, d_set_of, d_tins_marked, d_without, d_cases_all, d_both_of, d_cases_with, d_law]
def fa : List He.Fa := [.glo "_law_begin", .glo "_law_in_case", .glo "_law_is_in", .glo "_law_marked_in", .glo "_law_same", .glo "places_of", .glo "tins_in", .glo "_law_case_right", .glo "_law_is_set", .glo "_law_take", .glo "_law_number", .glo "_law_set_of", .glo "_law_marked_by", .glo "_law_marks_by", .glo "_law_names", .glo "_law_parts_by", .glo "_law_packing_by", .glo "cases_at", .glo "cases_of", .glo "set_of", .glo "tins_marked", .glo "without", .glo "cases_all", .glo "both_of", .glo "cases_with", .glo "law", .free "all", .free "any", .free "bool", .free "divmod", .free "int", .free "isinstance", .free "len", .free "list", .free "max", .free "min", .free "range", .free "sorted", .free "str", .free "sum", .free "tuple", .free "zip"]
abbrev R : PySem.W.OpenRow := PySem.W.OpenLaw.row PySem.Challenge.rw_tinrecall_k26_cases_beyond_counting
abbrev hk : PySem.W.Hook := He.hookD 4 fa fn
def ob (s : PySem.W.SharedT) : He.AlD := He.obsDG 4 fa fn (HandSHeadRun.getT s)
theorem ob_eq (s : PySem.W.SharedT) : ob s = hk.obs s.abs := He.obsDG_eq (HandSHeadRun.getT_eq s)
theorem run (w : World) : HandSHeadRun.RunEq R (PySem.W.view R.prog [28]) hk ob 1300 ["set_of", "both_of", "without", "places_of", "cases_of", "tins_in", "cases_at", "tins_marked", "cases_with", "cases_all", "_law_begin", "_law_take", "_law_same", "_law_number", "_law_names", "_law_marks_by", "_law_set_of", "_law_parts_by", "_law_packing_by", "_law_marked_by", "_law_in_case", "_law_is_set", "_law_is_in", "_law_marked_in", "_law_case_right"] w := by
  intro os
  kernel_rfl
theorem facts {P : Program} {w : World} {K : PySem.W.Frag} {h : Heap} {mg : Str → Option Value} {f : Addr} (X : K.In h) (G : h.Ns mainGlobals mg) (hfa : mg ("law" : Str) = some (.ref f)) (c : He.SaysD fa fn K) :
    ∃ fd : FuncData, (∀ (s : Shared) (v : Value), BindsTo s fd ⟨[v], []⟩ [("_law_script", v)]) ∧ ∀ base : Heap, K.In base → base.Ns mainGlobals mg → FnOk P w K mg base CX0 14 f fd ["_law_script"] (spOf K g_law) := by
  obtain ⟨fd_l_begin, F_l_begin⟩ := c.def_ 0 (d := d_l_begin) rfl
  obtain ⟨fd_l_in_case, F_l_in_case⟩ := c.def_ 1 (d := d_l_in_case) rfl
  obtain ⟨fd_l_is_in, F_l_is_in⟩ := c.def_ 2 (d := d_l_is_in) rfl
  obtain ⟨fd_l_marked_in, F_l_marked_in⟩ := c.def_ 3 (d := d_l_marked_in) rfl
  obtain ⟨fd_l_same, F_l_same⟩ := c.def_ 4 (d := d_l_same) rfl
  obtain ⟨fd_places_of, F_places_of⟩ := c.def_ 5 (d := d_places_of) rfl
  obtain ⟨fd_tins_in, F_tins_in⟩ := c.def_ 6 (d := d_tins_in) rfl
  obtain ⟨fd_l_case_right, F_l_case_right⟩ := c.def_ 7 (d := d_l_case_right) rfl
  obtain ⟨fd_l_is_set, F_l_is_set⟩ := c.def_ 8 (d := d_l_is_set) rfl
  obtain ⟨fd_l_take, F_l_take⟩ := c.def_ 9 (d := d_l_take) rfl
  obtain ⟨fd_l_number, F_l_number⟩ := c.def_ 10 (d := d_l_number) rfl
  obtain ⟨fd_l_set_of, F_l_set_of⟩ := c.def_ 11 (d := d_l_set_of) rfl
  obtain ⟨fd_l_marked_by, F_l_marked_by⟩ := c.def_ 12 (d := d_l_marked_by) rfl
  obtain ⟨fd_l_marks_by, F_l_marks_by⟩ := c.def_ 13 (d := d_l_marks_by) rfl
  obtain ⟨fd_l_names, F_l_names⟩ := c.def_ 14 (d := d_l_names) rfl
  obtain ⟨fd_l_parts_by, F_l_parts_by⟩ := c.def_ 15 (d := d_l_parts_by) rfl
  obtain ⟨fd_l_packing_by, F_l_packing_by⟩ := c.def_ 16 (d := d_l_packing_by) rfl
  obtain ⟨fd_cases_at, F_cases_at⟩ := c.def_ 17 (d := d_cases_at) rfl
  obtain ⟨fd_cases_of, F_cases_of⟩ := c.def_ 18 (d := d_cases_of) rfl
  obtain ⟨fd_set_of, F_set_of⟩ := c.def_ 19 (d := d_set_of) rfl
  obtain ⟨fd_tins_marked, F_tins_marked⟩ := c.def_ 20 (d := d_tins_marked) rfl
  obtain ⟨fd_without, F_without⟩ := c.def_ 21 (d := d_without) rfl
  obtain ⟨fd_cases_all, F_cases_all⟩ := c.def_ 22 (d := d_cases_all) rfl
  obtain ⟨fd_both_of, F_both_of⟩ := c.def_ 23 (d := d_both_of) rfl
  obtain ⟨fd_cases_with, F_cases_with⟩ := c.def_ 24 (d := d_cases_with) rfl
  obtain ⟨fd_law, F_law⟩ := c.def_ 25 (d := d_law) rfl
  have n_all : mg "all" = none := He.free_ok X G (c.fact 26 (f := .free "all") rfl)
  have n_any : mg "any" = none := He.free_ok X G (c.fact 27 (f := .free "any") rfl)
  have n_bool : mg "bool" = none := He.free_ok X G (c.fact 28 (f := .free "bool") rfl)
  have n_divmod : mg "divmod" = none := He.free_ok X G (c.fact 29 (f := .free "divmod") rfl)
  have n_int : mg "int" = none := He.free_ok X G (c.fact 30 (f := .free "int") rfl)
  have n_isinstance : mg "isinstance" = none := He.free_ok X G (c.fact 31 (f := .free "isinstance") rfl)
  have n_len : mg "len" = none := He.free_ok X G (c.fact 32 (f := .free "len") rfl)
  have n_list : mg "list" = none := He.free_ok X G (c.fact 33 (f := .free "list") rfl)
  have n_max : mg "max" = none := He.free_ok X G (c.fact 34 (f := .free "max") rfl)
  have n_min : mg "min" = none := He.free_ok X G (c.fact 35 (f := .free "min") rfl)
  have n_range : mg "range" = none := He.free_ok X G (c.fact 36 (f := .free "range") rfl)
  have n_sorted : mg "sorted" = none := He.free_ok X G (c.fact 37 (f := .free "sorted") rfl)
  have n_str : mg "str" = none := He.free_ok X G (c.fact 38 (f := .free "str") rfl)
  have n_sum : mg "sum" = none := He.free_ok X G (c.fact 39 (f := .free "sum") rfl)
  have n_tuple : mg "tuple" = none := He.free_ok X G (c.fact 40 (f := .free "tuple") rfl)
  have n_zip : mg "zip" = none := He.free_ok X G (c.fact 41 (f := .free "zip") rfl)
  have e := hfa.symm.trans (He.glo_ok X G (c.fact 25 (f := .glo "law") rfl))
  cases e
  have b := FunD.bindsA (ps := ["_law_script"]) F_law fun _ _ _ _ _ _ us hl => match us, hl with | [_], _ => rfl
  refine ⟨fd_law, fun s v => b s [v] rfl, fun base _ _ => ?_⟩
  have C_l_begin : Cal P w K mg base 1 "_law_begin" ["_law_script"] g_l_begin := ok_l_begin F_l_begin (He.glo_ok X G (c.fact 0 (f := .glo "_law_begin") rfl)) n_list
  have C_l_in_case : Cal P w K mg base 1 "_law_in_case" ["_law_packing", "_law_case"] g_l_in_case := ok_l_in_case F_l_in_case (He.glo_ok X G (c.fact 1 (f := .glo "_law_in_case") rfl)) n_max n_min
  have C_l_is_in : Cal P w K mg base 1 "_law_is_in" ["_law_some", "_law_number_here"] g_l_is_in := ok_l_is_in F_l_is_in (He.glo_ok X G (c.fact 2 (f := .glo "_law_is_in") rfl)) n_any
  have C_l_marked_in : Cal P w K mg base 1 "_law_marked_in" ["_law_rows", "_law_part"] g_l_marked_in := ok_l_marked_in F_l_marked_in (He.glo_ok X G (c.fact 3 (f := .glo "_law_marked_in") rfl)) n_max n_min n_sum
  have C_l_same : Cal P w K mg base 12 "_law_same" ["_law_found", "_law_due"] g_l_same := ok_l_same F_l_same (He.glo_ok X G (c.fact 4 (f := .glo "_law_same") rfl)) n_all n_bool n_int n_isinstance n_len n_list n_str n_tuple n_zip
  have C_places_of : Cal P w K mg base 1 "places_of" ["packing"] g_places_of := ok_places_of F_places_of (He.glo_ok X G (c.fact 5 (f := .glo "places_of") rfl))
  have C_tins_in : Cal P w K mg base 2 "tins_in" ["packing", "case"] g_tins_in := ok_tins_in F_tins_in (He.glo_ok X G (c.fact 6 (f := .glo "tins_in") rfl)) n_max n_min C_places_of
  have C_l_case_right : Cal P w K mg base 13 "_law_case_right" ["_law_packing", "_law_rows", "_law_case", "_law_some", "_law_whole"] g_l_case_right := ok_l_case_right F_l_case_right (He.glo_ok X G (c.fact 7 (f := .glo "_law_case_right") rfl)) n_sum C_l_in_case C_l_is_in C_l_marked_in C_l_same C_tins_in
  have C_l_is_set : Cal P w K mg base 1 "_law_is_set" ["_law_some", "_law_most"] g_l_is_set := ok_l_is_set F_l_is_set (He.glo_ok X G (c.fact 8 (f := .glo "_law_is_set") rfl)) n_all n_any n_bool n_int n_isinstance n_len n_list n_tuple n_zip
  have C_l_take : Cal P w K mg base 1 "_law_take" ["_law_state", "_law_many"] g_l_take := ok_l_take F_l_take (He.glo_ok X G (c.fact 9 (f := .glo "_law_take") rfl)) n_divmod n_len
  have C_l_number : Cal P w K mg base 2 "_law_number" ["_law_state", "_law_sort"] g_l_number := ok_l_number F_l_number (He.glo_ok X G (c.fact 10 (f := .glo "_law_number") rfl)) n_range C_l_take
  have C_l_set_of : Cal P w K mg base 1 "_law_set_of" ["_law_pairs"] g_l_set_of := ok_l_set_of F_l_set_of (He.glo_ok X G (c.fact 11 (f := .glo "_law_set_of") rfl)) n_max n_sorted
  have C_l_marked_by : Cal P w K mg base 3 "_law_marked_by" ["_law_state", "_law_marks", "_law_packing", "_law_great"] g_l_marked_by := ok_l_marked_by F_l_marked_by (He.glo_ok X G (c.fact 12 (f := .glo "_law_marked_by") rfl)) n_len n_max n_range C_l_number C_l_set_of C_l_take
  have C_l_marks_by : Cal P w K mg base 2 "_law_marks_by" ["_law_state", "_law_many"] g_l_marks_by := ok_l_marks_by F_l_marks_by (He.glo_ok X G (c.fact 13 (f := .glo "_law_marks_by") rfl)) n_len n_range C_l_take
  have C_l_names : Cal P w K mg base 2 "_law_names" ["_law_state", "_law_many"] g_l_names := ok_l_names F_l_names (He.glo_ok X G (c.fact 14 (f := .glo "_law_names") rfl)) n_len n_range C_l_take
  have C_l_parts_by : Cal P w K mg base 3 "_law_parts_by" ["_law_state", "_law_marks", "_law_many", "_law_great"] g_l_parts_by := ok_l_parts_by F_l_parts_by (He.glo_ok X G (c.fact 15 (f := .glo "_law_parts_by") rfl)) n_len n_max n_range C_l_number C_l_take
  have C_l_packing_by : Cal P w K mg base 4 "_law_packing_by" ["_law_state", "_law_name", "_law_marks", "_law_great"] g_l_packing_by := ok_l_packing_by F_l_packing_by (He.glo_ok X G (c.fact 16 (f := .glo "_law_packing_by") rfl)) n_max n_sum C_l_number C_l_parts_by C_l_take
  have C_cases_at : Cal P w K mg base 1 "cases_at" ["size", "begin", "first", "tins"] g_cases_at := ok_cases_at F_cases_at (He.glo_ok X G (c.fact 17 (f := .glo "cases_at") rfl))
  have C_cases_of : Cal P w K mg base 1 "cases_of" ["packing"] g_cases_of := ok_cases_of F_cases_of (He.glo_ok X G (c.fact 18 (f := .glo "cases_of") rfl)) n_sum
  have C_set_of : Cal P w K mg base 1 "set_of" ["pairs"] g_set_of := ok_set_of F_set_of (He.glo_ok X G (c.fact 19 (f := .glo "set_of") rfl)) n_max n_sorted
  have C_tins_marked : Cal P w K mg base 2 "tins_marked" ["marked", "mark"] g_tins_marked := ok_tins_marked F_tins_marked (He.glo_ok X G (c.fact 20 (f := .glo "tins_marked") rfl)) C_set_of
  have C_without : Cal P w K mg base 1 "without" ["one", "other"] g_without := ok_without F_without (He.glo_ok X G (c.fact 21 (f := .glo "without") rfl))
  have C_cases_all : Cal P w K mg base 3 "cases_all" ["packing", "marked"] g_cases_all := ok_cases_all F_cases_all (He.glo_ok X G (c.fact 22 (f := .glo "cases_all") rfl)) C_cases_at C_cases_of C_places_of C_set_of C_tins_marked C_without
  have C_both_of : Cal P w K mg base 1 "both_of" ["one", "other"] g_both_of := ok_both_of F_both_of (He.glo_ok X G (c.fact 23 (f := .glo "both_of") rfl)) n_len n_max n_min
  have C_cases_with : Cal P w K mg base 3 "cases_with" ["packing", "marked"] g_cases_with := ok_cases_with F_cases_with (He.glo_ok X G (c.fact 24 (f := .glo "cases_with") rfl)) C_both_of C_cases_at C_places_of C_set_of C_tins_marked
  exact fn_law F_law n_all n_max n_range n_sum C_l_begin C_l_case_right C_l_is_set C_l_marked_by C_l_marks_by C_l_names C_l_number C_l_packing_by C_cases_all C_cases_of C_cases_with
end L26
end
/-- the law, once its plain part is known -/
theorem L26.holds (hg : ∀ ns : List Int, ns.length ≤ 63 → ∃ os', L26.g_law [.leaf (.list (ns.map .int))] = some (.leaf (.bool true), os')) : PySem.Challenge.rw_tinrecall_k26_cases_beyond_counting.Holds := by
  w_on; o_law
  refine HandSHeadRun.head_any (r := PySem.W.OpenLaw.row PySem.Challenge.rw_tinrecall_k26_cases_beyond_counting) (q := PySem.W.view (PySem.W.OpenLaw.row PySem.Challenge.rw_tinrecall_k26_cases_beyond_counting).prog [28]) (H := L26.hk) (ob := L26.ob) (M := 1300) (loose := ["set_of", "both_of", "without", "places_of", "cases_of", "tins_in", "cases_at", "tins_marked", "cases_with", "cases_all", "_law_begin", "_law_take", "_law_same", "_law_number", "_law_names", "_law_marks_by", "_law_set_of", "_law_parts_by", "_law_packing_by", "_law_marked_by", "_law_in_case", "_law_is_set", "_law_is_in", "_law_marked_in", "_law_case_right"]) (d := HandSHeadRun.topDef (PySem.W.OpenLaw.row PySem.Challenge.rw_tinrecall_k26_cases_beyond_counting).prog 28) (kwd := []) L26.ob_eq
    (by kernel_rfl) (fun s => by kernel_rfl) L26.run (by kernel_rfl) (by kernel_rfl) (by kernel_rfl) (by rfl) (by first | assumption | decide +kernel) (by decide +kernel) ⟨rfl, rfl, rfl, rfl, rfl, by decide +kernel⟩ ?hw ?hc
  case hw => w_witness2
  case hc =>
    refine Mv.walk_law (l := PySem.Challenge.rw_tinrecall_k26_cases_beyond_counting) (k := 14) (x := "_law_script") (g := L26.g_law) rfl (by kernel_rfl) ⟨rfl, by decide, by decide⟩ ?F hg
    intro w mg fa h Y G hmg0
    obtain ⟨K, KX, c⟩ := Y
    have hmg : mg ("law" : PySem.Str) = some (.ref fa) := by
      have e : (HandSHeadRun.topDef (PySem.W.OpenLaw.row PySem.Challenge.rw_tinrecall_k26_cases_beyond_counting).prog 28).name = ("law" : PySem.Str) := by kernel_rfl
      rw [← e]
      exact hmg0
    obtain ⟨fd, hb, hF⟩ := L26.facts (P := (PySem.Challenge.rw_tinrecall_k26_cases_beyond_counting).prog) (w := w) KX G hmg c
    exact ⟨K, fd, KX, hb, hF⟩

set_option Elab.async false
set_option linter.all false
set_option maxRecDepth 100000
set_option maxHeartbeats 4000000
noncomputable section
namespace L26
open PySem PySem.Spec PyProof.Rows L2 Mv
local macro_rules | `(tactic| walk_at "mv") => `(tactic| try simp only [↓w_cst, ↓w_var, ↓w_mv, ↓w_fz, ↓w_frz, ↓w_bin, ↓w_un, ↓w_binV, ↓w_if, ↓w_asB, ↓w_yes, ↓w_not, ↓w_and, ↓w_or, ↓w_andE, ↓w_orE, ↓w_notE, ↓w_chain, ↓w_nil, ↓w_cons, ↓w_tup, ↓w_lst, ↓w_pl, ↓w_mut, ↓w_c0, ↓w_ce, ↓w_cv, ↓w_call', ↓wb_0, ↓wb_e, ↓wb_v, wb_e', ↓wo_leaf, ↓wo_ls, ↓wo_dic, ↓wo_dct, ↓wo_st, ↓wo_s, own_0, own_s, oi_0, oi_e, oi_v, isl_st, isl_leaf, isl_ls, Bool.not_false, Bool.not_true, List.nodup_cons, List.nodup_nil, List.not_mem_nil, not_false_eq_true, ↓w_seq, ↓w_skip, ↓w_brk, ↓w_cont, ↓w_retN, ↓w_set, ↓w_drop, ↓w_ret, ↓w_retV, ↓w_ifS, ↓w_fzS, ↓w_asg, ↓w_gN, ↓w_gT, ↓w_gNl, ↓w_gCn, ↓w_gSub, ↓w_par, ↓w_aug, ↓w_int, ↓w_slice, ↓w_rng1, ↓w_rng2, ↓w_seqI, ↓w_comp, ↓w_for,
  ↓sl_0, ↓sl_s, ↓fr_leaf, ↓fr_ls, ↓ok_t, ↓ok_l, ↓br_t, ↓br_f, decide_true, decide_false, Int.reduceEq, ↓bl_b, ↓il_b, ↓le_l, ↓gp_top, ↓cl_0, ↓cl_e, ↓cl_v, ↓nxt_nx, ↓nxt_rt, ↓nxt_bk, ↓nxt_ct, ↓sa_0, ↓sa_s, ↓rg1_i, ↓rg2_i, ↓itm_l, ↓itm_t, ↓itm_o, ↓fin_rt, ↓fin_nx, ↓lpk_nx, ↓lpk_ct, ↓lpk_bk, ↓lpk_rt, ↓wcl_nil, ↓wf_nil,
  ↓w_enum, ↓w_zip, ↓enm_l, ↓enm_o, ↓zp_ll, ↓zp_lo, ↓zp_ol, ↓zp_oo, ↓zp_tt, ↓p_isLTi, ↓p_isLTn, ↓p_isSi, ↓p_isBn, ↓p_extend, p_extendS, p_appendS, List.isEmpty_nil, ↓w_dicO, ↓dicO_list, zip_cc, zip_nn, ↓at_0, ↓at_1, ↓at_2, ↓at_3, ↓at_4, p_insertS, ↓p_mulO, ↓p_repB, ↓p_rep0, ↓p_rep1, ↓w_while, ↓p_insert, ↓at_last, ↓put_last, ↓p_inl, ↓p_inL, ↓p_ninl, ↓p_ninL, ↓p_eqP0, ↓p_neP0, ↓p_neA, ↓p_eq00, ↓p_ne00, ↓p_ixp0, ↓p_ixp1, ↓w_gTp, ↓p_isLTb, ↓p_isLTs, ↓p_isIb, ↓p_isBb, ↓p_isSb, ↓p_isLb, ↓p_isTb, ↓p_isIs, ↓p_isBs, ↓p_isSs, ↓p_isLs, ↓p_isTs, ↓p_isLi, ↓p_isTi, ↓p_isLn, ↓p_isTn, ↓p_isSn, ↓p_isNb, ↓p_isNs, ↓p_isNt, ↓p_isNl, ↓p_isNp, ↓p_eqTT, ↓p_eqTF, ↓p_eqFT, ↓p_eqFF, ↓p_neTT, ↓p_neTF, ↓p_neFT, ↓p_neFF, ↓p_eqBs, ↓p_eqSs, ↓p_eqIs, ↓w_chain4, ↓p_lrg1, ↓p_lrg2, ↓p_maxL, ↓p_maxl, ↓p_minL, ↓p_minl, ↓w_getE, ↓w_emptyK, ↓w_emptyT, ↓p_dixi, ↓p_dixs, ↓p_dini, ↓p_dins, ↓p_dgi, ↓p_dgs, ↓p_dputi, ↓p_dputs, ↓p_extA, ↓p_extAl, p_extAS, p_extASl, ↓w_bor, fl_b, fl_i, fl_n, fl_s, ↓w_enumA, ↓enma_l, ↓enma_t, ↓enma_o, eq_self, ↓w_strM, ↓sv_s, ↓p_eqS, ↓p_neS, ↓p_isTp, ↓p_lenp, ↓itm_p, ↓p_neBs, line_racks, racks_line, ↓p_sub, ↓p_add, ↓p_ipadd, ↓p_mul, ↓p_div, ↓p_mod, ↓p_pow, ↓p_neg, ↓p_eq, ↓p_ne, ↓p_lt, ↓p_gt, ↓p_le, ↓p_ge, ↓p_max, ↓p_min, ↓p_abs, ↓p_intI, ↓p_intB, ↓p_isaI, ↓p_isaB, ↓p_isaNI, ↓p_isNI, ↓p_isNN, ↓p_isNo, ↓p_eqo, ↓p_neo, ↓p_divmod, ↓p_catL, ↓p_catLl, ↓p_catlL, ↓p_catll, ↓p_len, ↓p_lenl, ↓p_lent, ↓p_list, ↓p_listl, ↓p_listt, ↓p_tuple, ↓p_tuplel, ↓p_tuplet, ↓p_rev, ↓p_revl, ↓p_ix, ↓p_ixl, ↓p_ixt, ↓p_append, ↓p_reverse, ↓p_sum, ↓p_suml, ↓p_any, ↓p_all, ↓p_eqLL, ↓p_eqLl, ↓p_eqlL, ↓p_eqll, ↓p_eqL0, ↓p_eql0, ↓p_neLL, ↓p_neLl, ↓p_nelL, ↓p_nell, ↓p_neL0, ↓p_nel0,
  ↓gp_cells, ↓gp_turn, ↓put_turn, ↓put_cells, ↓putP_top, wipeE, lv_0, lv_s,
  List.set_cons_zero, List.set_cons_succ, List.length_cons, List.length_nil, List.map_cons, List.map_nil, finR, List.replicate, List.replicate_succ, List.replicate_zero, List.cons_append, List.nil_append, true_and, and_true, List.tail_cons, List.head?_cons, Option.join_some, List.contains_nil, Bool.false_eq_true, if_false, if_true, List.all_nil, and_self, Int.reduceToNat, Int.reducePow, Nat.reduceSub, Nat.reduceAdd, Int.reduceAdd, Int.reduceMul, Int.reduceSub, Int.reduceNeg, Int.reduceLT, Int.reduceLE, Int.natAbs, Nat.reduceLT, Nat.reduceLeDiff, Nat.reducePow])
local macro_rules | `(tactic| walk_at "mve") => `(tactic| try simp only [↓w_cst, ↓w_var, ↓w_mv, ↓w_fz, ↓w_frz, ↓w_bin, ↓w_un, ↓w_binV, ↓w_asB, ↓w_yes, ↓w_not, ↓w_and, ↓w_or, ↓w_andE, ↓w_orE, ↓w_notE, ↓w_chain, ↓w_nil, ↓w_cons, ↓w_tup, ↓w_lst, ↓w_pl, ↓w_mut, ↓w_c0, ↓w_ce, ↓w_cv, ↓w_call', ↓wb_0, ↓wb_e, ↓wb_v, wb_e', ↓wo_leaf, ↓wo_ls, ↓wo_dic, ↓wo_dct, ↓wo_st, ↓wo_s, own_0, own_s, oi_0, oi_e, oi_v, isl_st, isl_leaf, isl_ls, Bool.not_false, Bool.not_true, List.nodup_cons, List.nodup_nil, List.not_mem_nil, not_false_eq_true, ↓w_seq, ↓w_skip, ↓w_brk, ↓w_cont, ↓w_retN, ↓w_set, ↓w_drop, ↓w_ret, ↓w_retV, ↓w_ifS, ↓w_fzS, ↓w_asg, ↓w_gN, ↓w_gT, ↓w_gNl, ↓w_gCn, ↓w_gSub, ↓w_par, ↓w_aug, ↓w_int, ↓w_slice, ↓w_rng1, ↓w_rng2, ↓w_seqI, ↓w_comp, ↓w_for,
  ↓sl_0, ↓sl_s, ↓fr_leaf, ↓fr_ls, ↓ok_t, ↓ok_l, ↓br_t, ↓br_f, decide_true, decide_false, Int.reduceEq, ↓bl_b, ↓il_b, ↓le_l, ↓gp_top, ↓cl_0, ↓cl_e, ↓cl_v, ↓nxt_nx, ↓nxt_rt, ↓nxt_bk, ↓nxt_ct, ↓sa_0, ↓sa_s, ↓rg1_i, ↓rg2_i, ↓itm_l, ↓itm_t, ↓itm_o, ↓fin_rt, ↓fin_nx, ↓lpk_nx, ↓lpk_ct, ↓lpk_bk, ↓lpk_rt, ↓wcl_nil, ↓wf_nil,
  ↓w_enum, ↓w_zip, ↓enm_l, ↓enm_o, ↓zp_ll, ↓zp_lo, ↓zp_ol, ↓zp_oo, ↓zp_tt, ↓p_isLTi, ↓p_isLTn, ↓p_isSi, ↓p_isBn, ↓p_extend, p_extendS, p_appendS, List.isEmpty_nil, ↓w_dicO, ↓dicO_list, zip_cc, zip_nn, ↓at_0, ↓at_1, ↓at_2, ↓at_3, ↓at_4, p_insertS, ↓p_mulO, ↓p_repB, ↓p_rep0, ↓p_rep1, ↓w_while, ↓p_insert, ↓at_last, ↓put_last, ↓p_inl, ↓p_inL, ↓p_ninl, ↓p_ninL, ↓p_eqP0, ↓p_neP0, ↓p_neA, ↓p_eq00, ↓p_ne00, ↓p_ixp0, ↓p_ixp1, ↓w_gTp, ↓p_isLTb, ↓p_isLTs, ↓p_isIb, ↓p_isBb, ↓p_isSb, ↓p_isLb, ↓p_isTb, ↓p_isIs, ↓p_isBs, ↓p_isSs, ↓p_isLs, ↓p_isTs, ↓p_isLi, ↓p_isTi, ↓p_isLn, ↓p_isTn, ↓p_isSn, ↓p_isNb, ↓p_isNs, ↓p_isNt, ↓p_isNl, ↓p_isNp, ↓p_eqTT, ↓p_eqTF, ↓p_eqFT, ↓p_eqFF, ↓p_neTT, ↓p_neTF, ↓p_neFT, ↓p_neFF, ↓p_eqBs, ↓p_eqSs, ↓p_eqIs, ↓w_chain4, ↓p_lrg1, ↓p_lrg2, ↓p_maxL, ↓p_maxl, ↓p_minL, ↓p_minl, ↓w_getE, ↓w_emptyK, ↓w_emptyT, ↓p_dixi, ↓p_dixs, ↓p_dini, ↓p_dins, ↓p_dgi, ↓p_dgs, ↓p_dputi, ↓p_dputs, ↓p_extA, ↓p_extAl, p_extAS, p_extASl, ↓w_bor, fl_b, fl_i, fl_n, fl_s, ↓w_enumA, ↓enma_l, ↓enma_t, ↓enma_o, eq_self, ↓w_strM, ↓sv_s, ↓p_eqS, ↓p_neS, ↓p_isTp, ↓p_lenp, ↓itm_p, ↓p_neBs, line_racks, racks_line, ↓p_sub, ↓p_add, ↓p_ipadd, ↓p_mul, ↓p_div, ↓p_mod, ↓p_pow, ↓p_neg, ↓p_eq, ↓p_ne, ↓p_lt, ↓p_gt, ↓p_le, ↓p_ge, ↓p_max, ↓p_min, ↓p_abs, ↓p_intI, ↓p_intB, ↓p_isaI, ↓p_isaB, ↓p_isaNI, ↓p_isNI, ↓p_isNN, ↓p_isNo, ↓p_eqo, ↓p_neo, ↓p_divmod, ↓p_catL, ↓p_catLl, ↓p_catlL, ↓p_catll, ↓p_len, ↓p_lenl, ↓p_lent, ↓p_list, ↓p_listl, ↓p_listt, ↓p_tuple, ↓p_tuplel, ↓p_tuplet, ↓p_rev, ↓p_revl, ↓p_ix, ↓p_ixl, ↓p_ixt, ↓p_append, ↓p_reverse, ↓p_sum, ↓p_suml, ↓p_any, ↓p_all, ↓p_eqLL, ↓p_eqLl, ↓p_eqlL, ↓p_eqll, ↓p_eqL0, ↓p_eql0, ↓p_neLL, ↓p_neLl, ↓p_nelL, ↓p_nell, ↓p_neL0, ↓p_nel0,
  ↓gp_cells, ↓gp_turn, ↓put_turn, ↓put_cells, ↓putP_top, wipeE, lv_0, lv_s,
  List.set_cons_zero, List.set_cons_succ, List.length_cons, List.length_nil, List.map_cons, List.map_nil, finR, List.replicate, List.replicate_succ, List.replicate_zero, List.cons_append, List.nil_append, true_and, and_true, List.tail_cons, List.head?_cons, Option.join_some, List.contains_nil, Bool.false_eq_true, if_false, if_true, List.all_nil, and_self, Int.reduceToNat, Int.reducePow, Nat.reduceSub, Nat.reduceAdd, Int.reduceAdd, Int.reduceMul, Int.reduceSub, Int.reduceNeg, Int.reduceLT, Int.reduceLE, Int.natAbs, Nat.reduceLT, Nat.reduceLeDiff, Nat.reducePow])
local macro_rules | `(tactic| walk_at "mv1") => `(tactic| try simp only [↓ok_t, ↓ok_l, ↓nxt_nx, ↓nxt_rt, ↓w_seq, ↓fin_rt, ↓fin_nx, ↓lpk_nx, ↓lpk_ct, ↓lpk_bk, ↓lpk_rt, wipeE, List.set_cons_zero, List.set_cons_succ, true_and, and_true])
local macro_rules | `(tactic| walk_at "mvs") => `(tactic| try simp only [↓sl_0, ↓sl_s, ↓fr_leaf, ↓fr_ls, ↓ok_t, ↓ok_l, ↓nxt_nx, ↓nxt_rt, ↓w_seq, ↓fin_rt, ↓fin_nx, ↓lpk_nx, ↓lpk_ct, ↓lpk_bk, ↓lpk_rt, wipeE, List.set_cons_zero, List.set_cons_succ, true_and, and_true])
local macro_rules | `(tactic| walk_at "mvp") => `(tactic| try simp only [↓w_cst, ↓w_var, ↓w_mv, ↓w_fz, ↓w_frz, ↓w_bin, ↓w_un, ↓w_binV, ↓w_if, ↓w_asB, ↓w_yes, ↓w_not, ↓w_and, ↓w_or, ↓w_andE, ↓w_orE, ↓w_notE, ↓w_chain, ↓w_nil, ↓w_cons, ↓w_tup, ↓w_lst, ↓w_pl, ↓w_mut, ↓w_c0, ↓w_ce, ↓w_cv, ↓w_call', ↓wb_0, ↓wb_e, ↓wb_v, wb_e', ↓wo_leaf, ↓wo_ls, ↓wo_dic, ↓wo_dct, ↓wo_st, ↓wo_s, own_0, own_s, oi_0, oi_e, oi_v, isl_st, isl_leaf, isl_ls, Bool.not_false, Bool.not_true, List.nodup_cons, List.nodup_nil, List.not_mem_nil, not_false_eq_true, ↓w_seq, ↓w_skip, ↓w_brk, ↓w_cont, ↓w_retN, ↓w_set, ↓w_drop, ↓w_ret, ↓w_retV, ↓w_fzS, ↓w_asg, ↓w_gN, ↓w_gT, ↓w_gNl, ↓w_gCn, ↓w_gSub, ↓w_par, ↓w_aug, ↓w_int, ↓w_slice, ↓w_rng1, ↓w_rng2, ↓w_seqI, ↓w_comp, ↓w_for,
  ↓sl_0, ↓sl_s, ↓fr_leaf, ↓fr_ls, ↓ok_t, ↓ok_l, ↓br_t, ↓br_f, decide_true, decide_false, Int.reduceEq, ↓bl_b, ↓il_b, ↓le_l, ↓gp_top, ↓cl_0, ↓cl_e, ↓cl_v, ↓nxt_nx, ↓nxt_rt, ↓nxt_bk, ↓nxt_ct, ↓sa_0, ↓sa_s, ↓rg1_i, ↓rg2_i, ↓itm_l, ↓itm_t, ↓itm_o, ↓fin_rt, ↓fin_nx, ↓lpk_nx, ↓lpk_ct, ↓lpk_bk, ↓lpk_rt, ↓wcl_nil, ↓wf_nil,
  ↓w_enum, ↓w_zip, ↓enm_l, ↓enm_o, ↓zp_ll, ↓zp_lo, ↓zp_ol, ↓zp_oo, ↓zp_tt, ↓p_isLTi, ↓p_isLTn, ↓p_isSi, ↓p_isBn, ↓p_extend, p_extendS, p_appendS, List.isEmpty_nil, ↓w_dicO, ↓dicO_list, zip_cc, zip_nn, ↓at_0, ↓at_1, ↓at_2, ↓at_3, ↓at_4, p_insertS, ↓p_mulO, ↓p_repB, ↓p_rep0, ↓p_rep1, ↓w_while, ↓p_insert, ↓at_last, ↓put_last, ↓p_inl, ↓p_inL, ↓p_ninl, ↓p_ninL, ↓p_eqP0, ↓p_neP0, ↓p_neA, ↓p_eq00, ↓p_ne00, ↓p_ixp0, ↓p_ixp1, ↓w_gTp, ↓p_isLTb, ↓p_isLTs, ↓p_isIb, ↓p_isBb, ↓p_isSb, ↓p_isLb, ↓p_isTb, ↓p_isIs, ↓p_isBs, ↓p_isSs, ↓p_isLs, ↓p_isTs, ↓p_isLi, ↓p_isTi, ↓p_isLn, ↓p_isTn, ↓p_isSn, ↓p_isNb, ↓p_isNs, ↓p_isNt, ↓p_isNl, ↓p_isNp, ↓p_eqTT, ↓p_eqTF, ↓p_eqFT, ↓p_eqFF, ↓p_neTT, ↓p_neTF, ↓p_neFT, ↓p_neFF, ↓p_eqBs, ↓p_eqSs, ↓p_eqIs, ↓w_chain4, ↓p_lrg1, ↓p_lrg2, ↓p_maxL, ↓p_maxl, ↓p_minL, ↓p_minl, ↓w_getE, ↓w_emptyK, ↓w_emptyT, ↓p_dixi, ↓p_dixs, ↓p_dini, ↓p_dins, ↓p_dgi, ↓p_dgs, ↓p_dputi, ↓p_dputs, ↓p_extA, ↓p_extAl, p_extAS, p_extASl, ↓w_bor, fl_b, fl_i, fl_n, fl_s, ↓w_enumA, ↓enma_l, ↓enma_t, ↓enma_o, eq_self, ↓w_strM, ↓sv_s, ↓p_eqS, ↓p_neS, ↓p_isTp, ↓p_lenp, ↓itm_p, ↓p_neBs, line_racks, racks_line, ↓p_sub, ↓p_add, ↓p_ipadd, ↓p_mul, ↓p_div, ↓p_mod, ↓p_pow, ↓p_neg, ↓p_eq, ↓p_ne, ↓p_lt, ↓p_gt, ↓p_le, ↓p_ge, ↓p_max, ↓p_min, ↓p_abs, ↓p_intI, ↓p_intB, ↓p_isaI, ↓p_isaB, ↓p_isaNI, ↓p_isNI, ↓p_isNN, ↓p_isNo, ↓p_eqo, ↓p_neo, ↓p_divmod, ↓p_catL, ↓p_catLl, ↓p_catlL, ↓p_catll, ↓p_len, ↓p_lenl, ↓p_lent, ↓p_list, ↓p_listl, ↓p_listt, ↓p_tuple, ↓p_tuplel, ↓p_tuplet, ↓p_rev, ↓p_revl, ↓p_ix, ↓p_ixl, ↓p_ixt, ↓p_append, ↓p_reverse, ↓p_sum, ↓p_suml, ↓p_any, ↓p_all, ↓p_eqLL, ↓p_eqLl, ↓p_eqlL, ↓p_eqll, ↓p_eqL0, ↓p_eql0, ↓p_neLL, ↓p_neLl, ↓p_nelL, ↓p_nell, ↓p_neL0, ↓p_nel0,
  ↓gp_cells, ↓gp_turn, ↓put_turn, ↓put_cells, ↓putP_top, wipeE, lv_0, lv_s,
  List.set_cons_zero, List.set_cons_succ, List.length_cons, List.length_nil, List.map_cons, List.map_nil, finR, List.replicate, List.replicate_succ, List.replicate_zero, List.cons_append, List.nil_append, true_and, and_true, List.tail_cons, List.head?_cons, Option.join_some, List.contains_nil, Bool.false_eq_true, if_false, if_true, List.all_nil, and_self, Int.reduceToNat, Int.reducePow, Nat.reduceSub, Nat.reduceAdd, Int.reduceAdd, Int.reduceMul, Int.reduceSub, Int.reduceNeg, Int.reduceLT, Int.reduceLE, Int.natAbs, Nat.reduceLT, Nat.reduceLeDiff, Nat.reducePow])
theorem tk : TakeSpec g_l_take := fun h hn hm hm2 k => take_ok (c := 39373) (by decide) h hn hm hm2 k
theorem number {st : List Int × Int} {n kind : Int} (h : St st n) (hn : n ≤ 100000000000000000) (h0 : 0 ≤ kind) {Q : O → List (Option O) → Prop}
    (k : ∀ d st' os, 0 ≤ d → d < 1000000000000000000000000000000 → (kind = 0 → d < 4) → (kind = 1 → d < 40) → St st' (n + 5) → Q (.leaf (.int d)) (some (stO st') :: os)) : Wd g_l_number [stO st, .leaf (.int kind)] Q := by
  unfold g_l_number
  rw [w_def]
  unfold b_l_number
  walk_at "mv"
  refine br (fun hk => ?_) fun hk => ?_
  · walk_at "mv"
    refine at_ints (ns := [4, 40, 10000000]) h0 (by simpa using hk) fun m hm => ?_
    have hm' := List.mem_of_getElem? hm
    simp only [List.mem_cons, List.not_mem_nil, or_false] at hm'
    walk_at "mv"
    refine tk h (by omega) (by omega) (by omega) fun d s1 d1 d2 h1 => ?_
    walk_at "mv"
    have b0 : kind = 0 → d < 4 := fun z => by
      subst z
      have : m = 4 := by simpa using hm.symm
      omega
    have b1 : kind = 1 → d < 40 := fun z => by
      subst z
      have : m = 40 := by simpa using hm.symm
      omega
    exact k _ _ _ d1 (by omega) b0 b1 (h1.le (by omega))
  · walk_at "mv"
    refine wf_inv (k := 0) (I := fun j e => ∃ (s1 : List Int × Int) (d P : Int) (x : Option O), e = [some (stO s1), some (.leaf (.int kind)), some (.leaf (.int d)), x] ∧ 0 ≤ d ∧ d < P ∧ P = 1000000 ^ j ∧ St s1 (n + j)) (fun j t e ht hi => ?_) ⟨st, 0, 1, none, rfl, by omega, by decide, rfl, h.le (by omega)⟩ fun e hi => ?_
    · have hi := hi
      obtain ⟨s1, hi⟩ := hi
      obtain ⟨d, hi⟩ := hi
      obtain ⟨P, hi⟩ := hi
      obtain ⟨x, hi⟩ := hi
      have he := hi.1
      have d0 := hi.2.1
      have d1 := hi.2.2.1
      have eP := hi.2.2.2.1
      have h1 := hi.2.2.2.2
      subst he
      have hj := (List.getElem?_eq_some_iff.mp ht).1
      have hj : j < 5 := hj
      rw [Nat.zero_add] at eP h1 ⊢
      have d2 : P ≤ 1000000000000000000000000 := by
        have : j = 0 ∨ j = 1 ∨ j = 2 ∨ j = 3 ∨ j = 4 := by omega
        rcases this with rfl | rfl | rfl | rfl | rfl <;> (simp at eP; omega)
      walk_at "mv"
      refine ⟨mulOk (by omega) (by omega) (by decide) (by decide), ?_⟩
      refine tk h1 (by omega) (by decide) (by decide) fun c s2 c1 c2 h2 => ?_
      walk_at "mv"
      exact ⟨s2, d * 1000000 + c, P * 1000000, _, rfl, by omega, by omega, by rw [Int.pow_succ, eP], h2.le (by omega)⟩
    · obtain ⟨s1, d, P, x, rfl, d0, d1, eP, h1⟩ := hi
      walk_at "mv"
      refine k _ _ _ d0 ?_ (fun z => by omega) (fun z => by omega) (h1.le (by simp only [rangeD, List.length_map, List.length_range]; omega))
      have e5 : (rangeD 0 5).length = 5 := by simp [rangeD]
      rw [e5] at eP
      simp at eP
      omega
theorem len26 : ("abcdefghijklmnopqrstuvwxyz" : Str).cps.toList.length = 26 := by decide +kernel
theorem len36 : ("abcdefghijklmnopqrstuvwxyz0123456789" : Str).cps.toList.length = 36 := by decide +kernel
theorem len0 : ("" : Str).length ≤ 10 := by decide +kernel
theorem set_strs {ws : List Str} {i : Nat} {s : Str} : (ws.map PyData.str).set i (.str s) = (ws.set i s).map .str := by rw [List.map_set]
theorem nod26 : ("abcdefghijklmnopqrstuvwxyz" : Str).cps.toList.Nodup := by decide +kernel
theorem nod36 : ("abcdefghijklmnopqrstuvwxyz0123456789" : Str).cps.toList.Nodup := by decide +kernel
theorem names {st : List Int × Int} {n m : Int} (h : St st n) (hn : n ≤ 1000000000000000) (h0 : 0 ≤ m) (h1 : m ≤ 26) {Q : O → List (Option O) → Prop}
    (k : ∀ (ws : List Str) st' os, (ws.length : Int) = m → ws.Nodup → St st' (n + 15) → Q (.ls (ws.map .str)) (some (stO st') :: os)) : Wd g_l_names [stO st, .leaf (.int m)] Q := by
  unfold g_l_names
  rw [w_def]
  unfold b_l_names
  walk_at "mv"
  refine tk h (by omega) (by decide) (by decide) fun d s1 d1 d2 h2 => ?_
  walk_at "mv"
  refine ⟨by omega, by rw [range_ints, List.length_map, List.length_map, List.length_range]; omega, ?_⟩
  rw [range_ints]
  refine wcl_fold (I := fun r acc e => ∃ (s : List Int × Int) (cs : List Nat), e = [some (stO s), some (.leaf (.int m)), some (.leaf (.str "abcdefghijklmnopqrstuvwxyz")), none, none, none, none, none, none] ∧ acc = (cs.map chS).map .str ∧ cs.length + r.length = (1 + d).toNat ∧ St s (n + 1 + cs.length)) (acc := []) (fun a r acc e hi => ?_) (fun ds e hi => ?_) ⟨s1, [], rfl, rfl, by simp, h2.le (by simp only [List.length_nil]; omega)⟩
  · obtain ⟨s, cs, rfl, rfl, w2, h3⟩ := hi
    rw [List.length_cons] at w2
    walk_at "mv"
    refine tk h3 (by omega) (by decide) (by decide) fun c s2 c1 c2 h4 => ?_
    walk_at "mv"
    refine p_ixsE len26 (by decide) c1 (by omega) fun ch _ => ?_
    walk_at "mv"
    exact ⟨s2, cs ++ [ch], rfl, by rw [List.map_append, List.map_append]; rfl, by rw [List.length_append, List.length_singleton]; omega, h4.le (by rw [List.length_append, List.length_singleton]; omega)⟩
  · obtain ⟨s, base, rfl, hds, w2, h3⟩ := hi
    rw [List.nil_append] at hds
    subst hds
    rw [List.length_nil] at w2
    walk_at "mv"
    rw [List.length_map, List.length_map]
    refine tk h3 (by omega) (by omega) (by omega) fun spot s2 sp1 sp2 h4 => ?_
    walk_at "mv"
    refine tk h4 (by omega) (by decide) (by decide) fun first s3 f1 f2 h5 => ?_
    walk_at "mv"
    refine tk h5 (by omega) (by decide) (by decide) fun q s4 q1 q2 h6 => ?_
    walk_at "mv"
    refine at_ints (ns := [1, 5, 7, 25]) q1 (by simpa using q2) fun step hm => ?_
    have hm' := List.mem_of_getElem? hm
    simp only [List.mem_cons, List.not_mem_nil, or_false] at hm'
    have g0 : 0 ≤ step ∧ step ≤ 35 := by omega
    clear hm
    obtain ⟨ltr, hltr⟩ : ∃ ltr : Nat → Nat, ltr = fun (j : Nat) => ("abcdefghijklmnopqrstuvwxyz" : Str).cps.toList.getD ((first + step * (j : Int)) % 26).toNat 0 := ⟨_, rfl⟩
    walk_at "mv"
    refine ⟨by omega, ?_⟩
    refine wf_inv (k := 0) (I := fun j e => ∃ (cs : List Nat) (made : List Str) (x : Option O), e = [some (stO s4), some (.leaf (.int m)), some (.leaf (.str "abcdefghijklmnopqrstuvwxyz")), some (.ls ((cs.map chS).map .str)), some (.leaf (.int spot)), some (.leaf (.int first)), some (.leaf (.int step)), some (.ls (made.map .str)), x] ∧ (∀ v, cs.set spot.toNat v = base.set spot.toNat v) ∧ made.map (fun w => w.cps.toList) = (List.range j).map (fun k => base.set spot.toNat (ltr k)) ∧ made.length = j ∧ cs.length = base.length) (fun j t e ht hi => ?_) ⟨base, [], none, rfl, fun v => rfl, rfl, rfl, rfl⟩ fun e hi => ?_
    · obtain ⟨cs, made, x, rfl, v1, v2, v3, v4⟩ := hi
      obtain ⟨rfl, hj⟩ := range_get ht
      rw [Nat.zero_add] at v2 v3 ⊢
      walk_at "mv"
      refine ⟨mulOk (by omega) (by omega) (by omega) (by omega), ?_⟩
      refine p_ixsE len26 (by decide) (Int.emod_nonneg _ (by decide)) (Int.emod_lt_of_pos _ (by decide)) fun ch hch => ?_
      have hlt : ltr j = ch := by
        rw [hltr]
        simp only [List.getD_eq_getElem?_getD, hch, Option.getD_some]
      walk_at "mv"
      refine put_at sp1 (by rw [List.length_map, List.length_map]; omega) ?_
      rw [set_chs]
      walk_at "mv"
      refine jn_chs rfl (by rw [List.length_set]; omega) fun nm hnm => ?_
      walk_at "mv"
      refine ⟨by rw [List.length_map]; omega, by rw [List.length_map]; omega, cs.set spot.toNat ch, made ++ [nm], _, by rw [List.map_append]; rfl, fun v => by rw [List.set_set]; exact v1 v, ?_, by rw [List.length_append, v3]; rfl, by rw [List.length_set]; exact v4⟩
      rw [List.map_append, v2, List.range_succ, List.map_append]
      simp only [List.map_cons, List.map_nil, hnm, hlt, v1 ch]
    · obtain ⟨cs, made, x, rfl, v1, v2, v3, v4⟩ := hi
      rw [range_ints, List.length_map, List.length_map, List.length_range, Nat.zero_add] at v2 v3
      walk_at "mv"
      have hnd : made.Nodup := by
        refine word_nodup (base := base) (spot := spot.toNat) (f := ltr) (by omega) (by rw [v3]; exact v2) fun i j hi hj e => ?_
        rw [hltr] at e
        simp only [List.getD_eq_getElem?_getD] at e
        have bi : ((first + step * (i : Int)) % 26).toNat < ("abcdefghijklmnopqrstuvwxyz" : Str).cps.toList.length := by
          rw [len26]
          have := Int.emod_nonneg (first + step * (i : Int)) (show (26 : Int) ≠ 0 by decide)
          have := Int.emod_lt_of_pos (first + step * (i : Int)) (show (0 : Int) < 26 by decide)
          omega
        have bj : ((first + step * (j : Int)) % 26).toNat < ("abcdefghijklmnopqrstuvwxyz" : Str).cps.toList.length := by
          rw [len26]
          have := Int.emod_nonneg (first + step * (j : Int)) (show (26 : Int) ≠ 0 by decide)
          have := Int.emod_lt_of_pos (first + step * (j : Int)) (show (0 : Int) < 26 by decide)
          omega
        rw [List.getElem?_eq_getElem bi, List.getElem?_eq_getElem bj, Option.getD_some, Option.getD_some] at e
        have e2 := (List.getElem_inj (nod26)).mp e
        have p1 := Int.emod_nonneg (first + step * (i : Int)) (show (26 : Int) ≠ 0 by decide)
        have p2 := Int.emod_nonneg (first + step * (j : Int)) (show (26 : Int) ≠ 0 by decide)
        have e3 : (first + step * (i : Int)) % 26 = (first + step * (j : Int)) % 26 := by omega
        have := step26 hm' (by omega) (by omega) (by omega) (by omega) e3
        omega
      exact k _ _ _ (by omega) hnd (h6.le (by omega))
theorem marks {st : List Int × Int} {n m : Int} (h : St st n) (hn : n ≤ 1000000000000000) (h0 : 0 ≤ m) (h1 : m ≤ 36) {Q : O → List (Option O) → Prop}
    (k : ∀ (ws : List Str) st' os, (ws.length : Int) = m → ws.Nodup → St st' (n + 20) → Q (.ls (ws.map .str)) (some (stO st') :: os)) : Wd g_l_marks_by [stO st, .leaf (.int m)] Q := by
  unfold g_l_marks_by
  rw [w_def]
  unfold b_l_marks_by
  walk_at "mv"
  refine tk h (by omega) (by decide) (by decide) fun d s1 d1 d2 h2 => ?_
  walk_at "mv"
  refine ⟨by omega, by rw [range_ints, List.length_map, List.length_map, List.length_range]; omega, ?_⟩
  rw [range_ints]
  refine wcl_fold (I := fun r acc e => ∃ (s : List Int × Int) (cs : List Nat), e = [some (stO s), some (.leaf (.int m)), some (.leaf (.str "abcdefghijklmnopqrstuvwxyz0123456789")), none, none, none, none, none, none] ∧ acc = (cs.map chS).map .str ∧ cs.length + r.length = (4 + d).toNat ∧ St s (n + 1 + cs.length)) (acc := []) (fun a r acc e hi => ?_) (fun ds e hi => ?_) ⟨s1, [], rfl, rfl, by simp, h2.le (by simp only [List.length_nil]; omega)⟩
  · obtain ⟨s, cs, rfl, rfl, w2, h3⟩ := hi
    rw [List.length_cons] at w2
    walk_at "mv"
    refine tk h3 (by omega) (by decide) (by decide) fun c s2 c1 c2 h4 => ?_
    walk_at "mv"
    refine p_ixsE len36 (by decide) c1 (by omega) fun ch _ => ?_
    walk_at "mv"
    exact ⟨s2, cs ++ [ch], rfl, by rw [List.map_append, List.map_append]; rfl, by rw [List.length_append, List.length_singleton]; omega, h4.le (by rw [List.length_append, List.length_singleton]; omega)⟩
  · obtain ⟨s, base, rfl, hds, w2, h3⟩ := hi
    rw [List.nil_append] at hds
    subst hds
    rw [List.length_nil] at w2
    walk_at "mv"
    rw [List.length_map, List.length_map]
    refine tk h3 (by omega) (by omega) (by omega) fun spot s2 sp1 sp2 h4 => ?_
    walk_at "mv"
    refine tk h4 (by omega) (by decide) (by decide) fun first s3 f1 f2 h5 => ?_
    walk_at "mv"
    refine tk h5 (by omega) (by decide) (by decide) fun q s4 q1 q2 h6 => ?_
    walk_at "mv"
    refine at_ints (ns := [1, 5, 7, 35]) q1 (by simpa using q2) fun step hm => ?_
    have hm' := List.mem_of_getElem? hm
    simp only [List.mem_cons, List.not_mem_nil, or_false] at hm'
    have g0 : 0 ≤ step ∧ step ≤ 35 := by omega
    clear hm
    obtain ⟨ltr, hltr⟩ : ∃ ltr : Nat → Nat, ltr = fun (j : Nat) => ("abcdefghijklmnopqrstuvwxyz0123456789" : Str).cps.toList.getD ((first + step * (j : Int)) % 36).toNat 0 := ⟨_, rfl⟩
    walk_at "mv"
    refine ⟨by omega, ?_⟩
    refine wf_inv (k := 0) (I := fun j e => ∃ (cs : List Nat) (made : List Str) (x : Option O), e = [some (stO s4), some (.leaf (.int m)), some (.leaf (.str "abcdefghijklmnopqrstuvwxyz0123456789")), some (.ls ((cs.map chS).map .str)), some (.leaf (.int spot)), some (.leaf (.int first)), some (.leaf (.int step)), some (.ls (made.map .str)), x] ∧ (∀ v, cs.set spot.toNat v = base.set spot.toNat v) ∧ made.map (fun w => w.cps.toList) = (List.range j).map (fun k => base.set spot.toNat (ltr k)) ∧ made.length = j ∧ cs.length = base.length) (fun j t e ht hi => ?_) ⟨base, [], none, rfl, fun v => rfl, rfl, rfl, rfl⟩ fun e hi => ?_
    · obtain ⟨cs, made, x, rfl, v1, v2, v3, v4⟩ := hi
      obtain ⟨rfl, hj⟩ := range_get ht
      rw [Nat.zero_add] at v2 v3 ⊢
      walk_at "mv"
      refine ⟨mulOk (by omega) (by omega) (by omega) (by omega), ?_⟩
      refine p_ixsE len36 (by decide) (Int.emod_nonneg _ (by decide)) (Int.emod_lt_of_pos _ (by decide)) fun ch hch => ?_
      have hlt : ltr j = ch := by
        rw [hltr]
        simp only [List.getD_eq_getElem?_getD, hch, Option.getD_some]
      walk_at "mv"
      refine put_at sp1 (by rw [List.length_map, List.length_map]; omega) ?_
      rw [set_chs]
      walk_at "mv"
      refine jn_chs rfl (by rw [List.length_set]; omega) fun nm hnm => ?_
      walk_at "mv"
      refine ⟨by rw [List.length_map]; omega, by rw [List.length_map]; omega, cs.set spot.toNat ch, made ++ [nm], _, by rw [List.map_append]; rfl, fun v => by rw [List.set_set]; exact v1 v, ?_, by rw [List.length_append, v3]; rfl, by rw [List.length_set]; exact v4⟩
      rw [List.map_append, v2, List.range_succ, List.map_append]
      simp only [List.map_cons, List.map_nil, hnm, hlt, v1 ch]
    · obtain ⟨cs, made, x, rfl, v1, v2, v3, v4⟩ := hi
      rw [range_ints, List.length_map, List.length_map, List.length_range, Nat.zero_add] at v2 v3
      walk_at "mv"
      have hnd : made.Nodup := by
        refine word_nodup (base := base) (spot := spot.toNat) (f := ltr) (by omega) (by rw [v3]; exact v2) fun i j hi hj e => ?_
        rw [hltr] at e
        simp only [List.getD_eq_getElem?_getD] at e
        have bi : ((first + step * (i : Int)) % 36).toNat < ("abcdefghijklmnopqrstuvwxyz0123456789" : Str).cps.toList.length := by
          rw [len36]
          have := Int.emod_nonneg (first + step * (i : Int)) (show (36 : Int) ≠ 0 by decide)
          have := Int.emod_lt_of_pos (first + step * (i : Int)) (show (0 : Int) < 36 by decide)
          omega
        have bj : ((first + step * (j : Int)) % 36).toNat < ("abcdefghijklmnopqrstuvwxyz0123456789" : Str).cps.toList.length := by
          rw [len36]
          have := Int.emod_nonneg (first + step * (j : Int)) (show (36 : Int) ≠ 0 by decide)
          have := Int.emod_lt_of_pos (first + step * (j : Int)) (show (0 : Int) < 36 by decide)
          omega
        rw [List.getElem?_eq_getElem bi, List.getElem?_eq_getElem bj, Option.getD_some, Option.getD_some] at e
        have e2 := (List.getElem_inj (nod36)).mp e
        have p1 := Int.emod_nonneg (first + step * (i : Int)) (show (36 : Int) ≠ 0 by decide)
        have p2 := Int.emod_nonneg (first + step * (j : Int)) (show (36 : Int) ≠ 0 by decide)
        have e3 : (first + step * (i : Int)) % 36 = (first + step * (j : Int)) % 36 := by omega
        have := step36 hm' (by omega) (by omega) (by omega) (by omega) e3
        omega
      exact k _ _ _ (by omega) hnd (h6.le (by omega))
theorem same {t : D} (h : smz 11 t = true) {Q : O → List (Option O) → Prop} (k : ∀ os, Q (.leaf (.bool true)) os) : Wd g_l_same [.leaf t, .leaf t] Q := same_self (by decide) h k
theorem hpk_ix0 {t : D} {nm : Str} {sz : Int} {ps : List Pa} (h : HPk t nm sz ps) {Q : O → Prop} : Op2 oIx (.leaf t) (.leaf (.int 0)) Q ↔ Q (.leaf (.str nm)) := by
  obtain ⟨o, rfl, _⟩ := h
  exact Iff.rfl
theorem hpk_ix1 {t : D} {nm : Str} {sz : Int} {ps : List Pa} (h : HPk t nm sz ps) {Q : O → Prop} : Op2 oIx (.leaf t) (.leaf (.int 1)) Q ↔ Q (.leaf (.int sz)) := by
  obtain ⟨o, rfl, _⟩ := h
  exact Iff.rfl
theorem hpk_ix2 {t : D} {nm : Str} {sz : Int} {ps : List Pa} (h : HPk t nm sz ps) : ∃ o, (o = .list (ps.map paT) ∨ o = .tuple (ps.map paT)) ∧ ∀ {Q : O → Prop}, Op2 oIx (.leaf t) (.leaf (.int 2)) Q ↔ Q (.leaf o) := by
  obtain ⟨o, rfl, h2⟩ := h
  exact ⟨o, h2, Iff.rfl⟩
theorem places {t : D} {nm : Str} {sz B : Int} {ps : List Pa} (h : HPk t nm sz ps) (hl : ps.length ≤ 100000) {Q : O → List (Option O) → Prop} (k : ∀ os, Q (.ls ((plR ps 0).map plT)) os) : Wd g_places_of [.leaf t] Q := by
  unfold g_places_of
  rw [w_def]
  unfold b_places_of
  obtain ⟨o, ho, ix⟩ := hpk_ix2 h
  walk_at "mv"
  rw [ix]
  walk_at "mv"
  rw [itm_of ho]
  refine wf_fold (I := fun r e => ∃ (qs : List (Pa × Int)) (b : Int) (x y z : Option O), e = [some (.leaf t), some (.ls (qs.map plT)), some (.leaf (.int b)), x, y, z] ∧ qs ++ plR r b = plR ps 0) (fun p r e hi => ?_) (fun e hi => ?_) ⟨[], 0, _, _, _, rfl, rfl⟩
  · obtain ⟨qs, b, x, y, z, rfl, h1⟩ := hi
    have hq : qs.length ≤ 100000 := by
      have := congrArg List.length h1
      rw [List.length_append, plR_len, plR_len] at this
      omega
    simp only [paT]
    walk_at "mv"
    refine ⟨by rw [List.length_map]; omega, by rw [List.length_map]; omega, qs ++ [(p, b)], _, _, _, _, by rw [plT_snoc], ?_⟩
    rw [plR] at h1
    rw [List.append_assoc]
    exact h1
  · obtain ⟨qs, b, x, y, z, rfl, h1⟩ := hi
    rw [plR, List.append_nil] at h1
    subst h1
    walk_at "mv"
    exact k _
theorem cases_n {t : D} {nm : Str} {sz : Int} {ps : List Pa} (h : HPk t nm sz ps) (hl : ps.length ≤ 100000) (hs : 0 < sz) (hs2 : sz < 1000000000000000000000000000000000000000000000000000) {Q : O → List (Option O) → Prop} (k : ∀ os, Q (.leaf (.int ((paSum ps + sz - 1) / sz))) os) : Wd g_cases_of [.leaf t] Q := by
  unfold g_cases_of
  rw [w_def]
  unfold b_cases_of
  obtain ⟨o, ho, ix⟩ := hpk_ix2 h
  walk_at "mv"
  rw [ix]
  walk_at "mv"
  rw [itm_of ho]
  refine ⟨by rw [List.length_map]; omega, ?_⟩
  refine wcl_map (p := fun _ => true) (g := fun p => PyData.int (paN p)) (fun p hp => ?_) ?_
  · simp only [paT]
    walk_at "mv"
    rfl
  · rw [List.filter_eq_self.mpr fun _ _ => rfl]
    have e : ps.map (fun p => PyData.int (paN p)) = (ps.map paN).map .int := by rw [List.map_map]; rfl
    rw [e]
    walk_at "mv"
    rw [← paSum_eq, hpk_ix1 h]
    walk_at "mv"
    rw [hpk_ix1 h]
    walk_at "mv"
    exact ⟨divOk hs (by omega), k _⟩
theorem tins_in_ok {t : D} {nm : Str} {sz c B : Int} {ps : List Pa} (h : HPk t nm sz ps) (hl : ps.length ≤ 100000) (hs : 0 < sz) (hs2 : sz < 1000000000000000000000000000000000000000000000000000) (hc : 0 ≤ c) (hc2 : c < 1000000000000000000000000000000000000000000000000000)
    {Q : O → List (Option O) → Prop} (k : ∀ os, Q (.ls ((tinsIn sz c (plR ps 0)).map paT)) os) : Wd g_tins_in [.leaf t, .leaf (.int c)] Q := by
  unfold g_tins_in
  rw [w_def]
  unfold b_tins_in
  walk_at "mv"
  rw [hpk_ix1 h]
  walk_at "mv"
  refine places (B := 0) h hl fun os => ?_
  walk_at "mv"
  refine wf_fold (I := fun r e => ∃ (acc : List Pa) (x1 x2 x3 x4 x5 x6 : Option O), e = [some (.leaf t), some (.leaf (.int c)), some (.leaf (.int sz)), some (.ls (acc.map paT)), x1, x2, x3, x4, x5, x6] ∧ acc ++ tinsIn sz c r = tinsIn sz c (plR ps 0)) (fun q r e hi => ?_) (fun e hi => ?_) ⟨[], _, _, _, _, _, _, rfl, rfl⟩
  · obtain ⟨acc, x1, x2, x3, x4, x5, x6, rfl, h1⟩ := hi
    have hq : acc.length ≤ 100000 := by
      have := congrArg List.length h1
      rw [List.length_append] at this
      have := tinsIn_len (sz := sz) (c := c) (qs := plR ps 0)
      rw [plR_len] at this
      omega
    obtain ⟨p, b⟩ := q
    rw [tinsIn_cons] at h1
    simp only [plT]
    walk_at "mv"
    refine ⟨mulOk (by omega) (by omega) (by omega) (by omega), mulOk (by omega) (by omega) (by omega) (by omega), ?_⟩
    refine br (fun hb => ?_) fun hb => ?_
    · rw [if_pos (show inC sz c (p, b) = true from decide_eq_true hb)] at h1
      walk_at "mv"
      refine ⟨by rw [List.length_map]; omega, by rw [List.length_map]; omega, acc ++ [ptC sz c (p, b)], _, _, _, _, _, _, by rw [paT_snoc]; rfl, ?_⟩
      rw [List.append_assoc]
      exact h1
    · rw [if_neg (show ¬inC sz c (p, b) = true from fun z => hb (of_decide_eq_true z))] at h1
      walk_at "mv"
      exact ⟨acc, _, _, _, _, _, _, rfl, h1⟩
  · obtain ⟨acc, x1, x2, x3, x4, x5, x6, rfl, h1⟩ := hi
    rw [show tinsIn sz c [] = [] from rfl, List.append_nil] at h1
    subst h1
    walk_at "mv"
    exact k _

end L26
end

set_option Elab.async false
set_option linter.all false
set_option maxRecDepth 100000
set_option maxHeartbeats 4000000
noncomputable section
namespace L26
open PySem PySem.Spec PyProof.Rows L2 Mv
local macro_rules | `(tactic| walk_at "mv") => `(tactic| try simp only [↓w_cst, ↓w_var, ↓w_mv, ↓w_fz, ↓w_frz, ↓w_bin, ↓w_un, ↓w_binV, ↓w_if, ↓w_asB, ↓w_yes, ↓w_not, ↓w_and, ↓w_or, ↓w_andE, ↓w_orE, ↓w_notE, ↓w_chain, ↓w_nil, ↓w_cons, ↓w_tup, ↓w_lst, ↓w_pl, ↓w_mut, ↓w_c0, ↓w_ce, ↓w_cv, ↓w_call', ↓wb_0, ↓wb_e, ↓wb_v, wb_e', ↓wo_leaf, ↓wo_ls, ↓wo_dic, ↓wo_dct, ↓wo_st, ↓wo_s, own_0, own_s, oi_0, oi_e, oi_v, isl_st, isl_leaf, isl_ls, Bool.not_false, Bool.not_true, List.nodup_cons, List.nodup_nil, List.not_mem_nil, not_false_eq_true, ↓w_seq, ↓w_skip, ↓w_brk, ↓w_cont, ↓w_retN, ↓w_set, ↓w_drop, ↓w_ret, ↓w_retV, ↓w_ifS, ↓w_fzS, ↓w_asg, ↓w_gN, ↓w_gT, ↓w_gNl, ↓w_gCn, ↓w_gSub, ↓w_par, ↓w_aug, ↓w_int, ↓w_slice, ↓w_rng1, ↓w_rng2, ↓w_seqI, ↓w_comp, ↓w_for,
  ↓sl_0, ↓sl_s, ↓fr_leaf, ↓fr_ls, ↓ok_t, ↓ok_l, ↓br_t, ↓br_f, decide_true, decide_false, Int.reduceEq, ↓bl_b, ↓il_b, ↓le_l, ↓gp_top, ↓cl_0, ↓cl_e, ↓cl_v, ↓nxt_nx, ↓nxt_rt, ↓nxt_bk, ↓nxt_ct, ↓sa_0, ↓sa_s, ↓rg1_i, ↓rg2_i, ↓itm_l, ↓itm_t, ↓itm_o, ↓fin_rt, ↓fin_nx, ↓lpk_nx, ↓lpk_ct, ↓lpk_bk, ↓lpk_rt, ↓wcl_nil, ↓wf_nil,
  ↓w_enum, ↓w_zip, ↓enm_l, ↓enm_o, ↓zp_ll, ↓zp_lo, ↓zp_ol, ↓zp_oo, ↓zp_tt, ↓p_isLTi, ↓p_isLTn, ↓p_isSi, ↓p_isBn, ↓p_extend, p_extendS, p_appendS, List.isEmpty_nil, ↓w_dicO, ↓dicO_list, zip_cc, zip_nn, ↓at_0, ↓at_1, ↓at_2, ↓at_3, ↓at_4, p_insertS, ↓p_mulO, ↓p_repB, ↓p_rep0, ↓p_rep1, ↓w_while, ↓p_insert, ↓at_last, ↓put_last, ↓p_inl, ↓p_inL, ↓p_ninl, ↓p_ninL, ↓p_eqP0, ↓p_neP0, ↓p_neA, ↓p_eq00, ↓p_ne00, ↓p_ixp0, ↓p_ixp1, ↓w_gTp, ↓p_isLTb, ↓p_isLTs, ↓p_isIb, ↓p_isBb, ↓p_isSb, ↓p_isLb, ↓p_isTb, ↓p_isIs, ↓p_isBs, ↓p_isSs, ↓p_isLs, ↓p_isTs, ↓p_isLi, ↓p_isTi, ↓p_isLn, ↓p_isTn, ↓p_isSn, ↓p_isNb, ↓p_isNs, ↓p_isNt, ↓p_isNl, ↓p_isNp, ↓p_eqTT, ↓p_eqTF, ↓p_eqFT, ↓p_eqFF, ↓p_neTT, ↓p_neTF, ↓p_neFT, ↓p_neFF, ↓p_eqBs, ↓p_eqSs, ↓p_eqIs, ↓w_chain4, ↓p_lrg1, ↓p_lrg2, ↓p_maxL, ↓p_maxl, ↓p_minL, ↓p_minl, ↓w_getE, ↓w_emptyK, ↓w_emptyT, ↓p_dixi, ↓p_dixs, ↓p_dini, ↓p_dins, ↓p_dgi, ↓p_dgs, ↓p_dputi, ↓p_dputs, ↓p_extA, ↓p_extAl, p_extAS, p_extASl, ↓w_bor, fl_b, fl_i, fl_n, fl_s, ↓w_enumA, ↓enma_l, ↓enma_t, ↓enma_o, eq_self, ↓w_strM, ↓sv_s, ↓p_eqS, ↓p_neS, ↓p_isTp, ↓p_lenp, ↓itm_p, ↓p_neBs, line_racks, racks_line, ↓p_sub, ↓p_add, ↓p_ipadd, ↓p_mul, ↓p_div, ↓p_mod, ↓p_pow, ↓p_neg, ↓p_eq, ↓p_ne, ↓p_lt, ↓p_gt, ↓p_le, ↓p_ge, ↓p_max, ↓p_min, ↓p_abs, ↓p_intI, ↓p_intB, ↓p_isaI, ↓p_isaB, ↓p_isaNI, ↓p_isNI, ↓p_isNN, ↓p_isNo, ↓p_eqo, ↓p_neo, ↓p_divmod, ↓p_catL, ↓p_catLl, ↓p_catlL, ↓p_catll, ↓p_len, ↓p_lenl, ↓p_lent, ↓p_list, ↓p_listl, ↓p_listt, ↓p_tuple, ↓p_tuplel, ↓p_tuplet, ↓p_rev, ↓p_revl, ↓p_ix, ↓p_ixl, ↓p_ixt, ↓p_append, ↓p_reverse, ↓p_sum, ↓p_suml, ↓p_any, ↓p_all, ↓p_eqLL, ↓p_eqLl, ↓p_eqlL, ↓p_eqll, ↓p_eqL0, ↓p_eql0, ↓p_neLL, ↓p_neLl, ↓p_nelL, ↓p_nell, ↓p_neL0, ↓p_nel0,
  ↓gp_cells, ↓gp_turn, ↓put_turn, ↓put_cells, ↓putP_top, wipeE, lv_0, lv_s,
  List.set_cons_zero, List.set_cons_succ, List.length_cons, List.length_nil, List.map_cons, List.map_nil, finR, List.replicate, List.replicate_succ, List.replicate_zero, List.cons_append, List.nil_append, true_and, and_true, List.tail_cons, List.head?_cons, Option.join_some, List.contains_nil, Bool.false_eq_true, if_false, if_true, List.all_nil, and_self, Int.reduceToNat, Int.reducePow, Nat.reduceSub, Nat.reduceAdd, Int.reduceAdd, Int.reduceMul, Int.reduceSub, Int.reduceNeg, Int.reduceLT, Int.reduceLE, Int.natAbs, Nat.reduceLT, Nat.reduceLeDiff, Nat.reducePow])
local macro_rules | `(tactic| walk_at "mve") => `(tactic| try simp only [↓w_cst, ↓w_var, ↓w_mv, ↓w_fz, ↓w_frz, ↓w_bin, ↓w_un, ↓w_binV, ↓w_asB, ↓w_yes, ↓w_not, ↓w_and, ↓w_or, ↓w_andE, ↓w_orE, ↓w_notE, ↓w_chain, ↓w_nil, ↓w_cons, ↓w_tup, ↓w_lst, ↓w_pl, ↓w_mut, ↓w_c0, ↓w_ce, ↓w_cv, ↓w_call', ↓wb_0, ↓wb_e, ↓wb_v, wb_e', ↓wo_leaf, ↓wo_ls, ↓wo_dic, ↓wo_dct, ↓wo_st, ↓wo_s, own_0, own_s, oi_0, oi_e, oi_v, isl_st, isl_leaf, isl_ls, Bool.not_false, Bool.not_true, List.nodup_cons, List.nodup_nil, List.not_mem_nil, not_false_eq_true, ↓w_seq, ↓w_skip, ↓w_brk, ↓w_cont, ↓w_retN, ↓w_set, ↓w_drop, ↓w_ret, ↓w_retV, ↓w_ifS, ↓w_fzS, ↓w_asg, ↓w_gN, ↓w_gT, ↓w_gNl, ↓w_gCn, ↓w_gSub, ↓w_par, ↓w_aug, ↓w_int, ↓w_slice, ↓w_rng1, ↓w_rng2, ↓w_seqI, ↓w_comp, ↓w_for,
  ↓sl_0, ↓sl_s, ↓fr_leaf, ↓fr_ls, ↓ok_t, ↓ok_l, ↓br_t, ↓br_f, decide_true, decide_false, Int.reduceEq, ↓bl_b, ↓il_b, ↓le_l, ↓gp_top, ↓cl_0, ↓cl_e, ↓cl_v, ↓nxt_nx, ↓nxt_rt, ↓nxt_bk, ↓nxt_ct, ↓sa_0, ↓sa_s, ↓rg1_i, ↓rg2_i, ↓itm_l, ↓itm_t, ↓itm_o, ↓fin_rt, ↓fin_nx, ↓lpk_nx, ↓lpk_ct, ↓lpk_bk, ↓lpk_rt, ↓wcl_nil, ↓wf_nil,
  ↓w_enum, ↓w_zip, ↓enm_l, ↓enm_o, ↓zp_ll, ↓zp_lo, ↓zp_ol, ↓zp_oo, ↓zp_tt, ↓p_isLTi, ↓p_isLTn, ↓p_isSi, ↓p_isBn, ↓p_extend, p_extendS, p_appendS, List.isEmpty_nil, ↓w_dicO, ↓dicO_list, zip_cc, zip_nn, ↓at_0, ↓at_1, ↓at_2, ↓at_3, ↓at_4, p_insertS, ↓p_mulO, ↓p_repB, ↓p_rep0, ↓p_rep1, ↓w_while, ↓p_insert, ↓at_last, ↓put_last, ↓p_inl, ↓p_inL, ↓p_ninl, ↓p_ninL, ↓p_eqP0, ↓p_neP0, ↓p_neA, ↓p_eq00, ↓p_ne00, ↓p_ixp0, ↓p_ixp1, ↓w_gTp, ↓p_isLTb, ↓p_isLTs, ↓p_isIb, ↓p_isBb, ↓p_isSb, ↓p_isLb, ↓p_isTb, ↓p_isIs, ↓p_isBs, ↓p_isSs, ↓p_isLs, ↓p_isTs, ↓p_isLi, ↓p_isTi, ↓p_isLn, ↓p_isTn, ↓p_isSn, ↓p_isNb, ↓p_isNs, ↓p_isNt, ↓p_isNl, ↓p_isNp, ↓p_eqTT, ↓p_eqTF, ↓p_eqFT, ↓p_eqFF, ↓p_neTT, ↓p_neTF, ↓p_neFT, ↓p_neFF, ↓p_eqBs, ↓p_eqSs, ↓p_eqIs, ↓w_chain4, ↓p_lrg1, ↓p_lrg2, ↓p_maxL, ↓p_maxl, ↓p_minL, ↓p_minl, ↓w_getE, ↓w_emptyK, ↓w_emptyT, ↓p_dixi, ↓p_dixs, ↓p_dini, ↓p_dins, ↓p_dgi, ↓p_dgs, ↓p_dputi, ↓p_dputs, ↓p_extA, ↓p_extAl, p_extAS, p_extASl, ↓w_bor, fl_b, fl_i, fl_n, fl_s, ↓w_enumA, ↓enma_l, ↓enma_t, ↓enma_o, eq_self, ↓w_strM, ↓sv_s, ↓p_eqS, ↓p_neS, ↓p_isTp, ↓p_lenp, ↓itm_p, ↓p_neBs, line_racks, racks_line, ↓p_sub, ↓p_add, ↓p_ipadd, ↓p_mul, ↓p_div, ↓p_mod, ↓p_pow, ↓p_neg, ↓p_eq, ↓p_ne, ↓p_lt, ↓p_gt, ↓p_le, ↓p_ge, ↓p_max, ↓p_min, ↓p_abs, ↓p_intI, ↓p_intB, ↓p_isaI, ↓p_isaB, ↓p_isaNI, ↓p_isNI, ↓p_isNN, ↓p_isNo, ↓p_eqo, ↓p_neo, ↓p_divmod, ↓p_catL, ↓p_catLl, ↓p_catlL, ↓p_catll, ↓p_len, ↓p_lenl, ↓p_lent, ↓p_list, ↓p_listl, ↓p_listt, ↓p_tuple, ↓p_tuplel, ↓p_tuplet, ↓p_rev, ↓p_revl, ↓p_ix, ↓p_ixl, ↓p_ixt, ↓p_append, ↓p_reverse, ↓p_sum, ↓p_suml, ↓p_any, ↓p_all, ↓p_eqLL, ↓p_eqLl, ↓p_eqlL, ↓p_eqll, ↓p_eqL0, ↓p_eql0, ↓p_neLL, ↓p_neLl, ↓p_nelL, ↓p_nell, ↓p_neL0, ↓p_nel0,
  ↓gp_cells, ↓gp_turn, ↓put_turn, ↓put_cells, ↓putP_top, wipeE, lv_0, lv_s,
  List.set_cons_zero, List.set_cons_succ, List.length_cons, List.length_nil, List.map_cons, List.map_nil, finR, List.replicate, List.replicate_succ, List.replicate_zero, List.cons_append, List.nil_append, true_and, and_true, List.tail_cons, List.head?_cons, Option.join_some, List.contains_nil, Bool.false_eq_true, if_false, if_true, List.all_nil, and_self, Int.reduceToNat, Int.reducePow, Nat.reduceSub, Nat.reduceAdd, Int.reduceAdd, Int.reduceMul, Int.reduceSub, Int.reduceNeg, Int.reduceLT, Int.reduceLE, Int.natAbs, Nat.reduceLT, Nat.reduceLeDiff, Nat.reducePow])
local macro_rules | `(tactic| walk_at "mv1") => `(tactic| try simp only [↓ok_t, ↓ok_l, ↓nxt_nx, ↓nxt_rt, ↓w_seq, ↓fin_rt, ↓fin_nx, ↓lpk_nx, ↓lpk_ct, ↓lpk_bk, ↓lpk_rt, wipeE, List.set_cons_zero, List.set_cons_succ, true_and, and_true])
local macro_rules | `(tactic| walk_at "mvs") => `(tactic| try simp only [↓sl_0, ↓sl_s, ↓fr_leaf, ↓fr_ls, ↓ok_t, ↓ok_l, ↓nxt_nx, ↓nxt_rt, ↓w_seq, ↓fin_rt, ↓fin_nx, ↓lpk_nx, ↓lpk_ct, ↓lpk_bk, ↓lpk_rt, wipeE, List.set_cons_zero, List.set_cons_succ, true_and, and_true])
local macro_rules | `(tactic| walk_at "mvp") => `(tactic| try simp only [↓w_cst, ↓w_var, ↓w_mv, ↓w_fz, ↓w_frz, ↓w_bin, ↓w_un, ↓w_binV, ↓w_if, ↓w_asB, ↓w_yes, ↓w_not, ↓w_and, ↓w_or, ↓w_andE, ↓w_orE, ↓w_notE, ↓w_chain, ↓w_nil, ↓w_cons, ↓w_tup, ↓w_lst, ↓w_pl, ↓w_mut, ↓w_c0, ↓w_ce, ↓w_cv, ↓w_call', ↓wb_0, ↓wb_e, ↓wb_v, wb_e', ↓wo_leaf, ↓wo_ls, ↓wo_dic, ↓wo_dct, ↓wo_st, ↓wo_s, own_0, own_s, oi_0, oi_e, oi_v, isl_st, isl_leaf, isl_ls, Bool.not_false, Bool.not_true, List.nodup_cons, List.nodup_nil, List.not_mem_nil, not_false_eq_true, ↓w_seq, ↓w_skip, ↓w_brk, ↓w_cont, ↓w_retN, ↓w_set, ↓w_drop, ↓w_ret, ↓w_retV, ↓w_fzS, ↓w_asg, ↓w_gN, ↓w_gT, ↓w_gNl, ↓w_gCn, ↓w_gSub, ↓w_par, ↓w_aug, ↓w_int, ↓w_slice, ↓w_rng1, ↓w_rng2, ↓w_seqI, ↓w_comp, ↓w_for,
  ↓sl_0, ↓sl_s, ↓fr_leaf, ↓fr_ls, ↓ok_t, ↓ok_l, ↓br_t, ↓br_f, decide_true, decide_false, Int.reduceEq, ↓bl_b, ↓il_b, ↓le_l, ↓gp_top, ↓cl_0, ↓cl_e, ↓cl_v, ↓nxt_nx, ↓nxt_rt, ↓nxt_bk, ↓nxt_ct, ↓sa_0, ↓sa_s, ↓rg1_i, ↓rg2_i, ↓itm_l, ↓itm_t, ↓itm_o, ↓fin_rt, ↓fin_nx, ↓lpk_nx, ↓lpk_ct, ↓lpk_bk, ↓lpk_rt, ↓wcl_nil, ↓wf_nil,
  ↓w_enum, ↓w_zip, ↓enm_l, ↓enm_o, ↓zp_ll, ↓zp_lo, ↓zp_ol, ↓zp_oo, ↓zp_tt, ↓p_isLTi, ↓p_isLTn, ↓p_isSi, ↓p_isBn, ↓p_extend, p_extendS, p_appendS, List.isEmpty_nil, ↓w_dicO, ↓dicO_list, zip_cc, zip_nn, ↓at_0, ↓at_1, ↓at_2, ↓at_3, ↓at_4, p_insertS, ↓p_mulO, ↓p_repB, ↓p_rep0, ↓p_rep1, ↓w_while, ↓p_insert, ↓at_last, ↓put_last, ↓p_inl, ↓p_inL, ↓p_ninl, ↓p_ninL, ↓p_eqP0, ↓p_neP0, ↓p_neA, ↓p_eq00, ↓p_ne00, ↓p_ixp0, ↓p_ixp1, ↓w_gTp, ↓p_isLTb, ↓p_isLTs, ↓p_isIb, ↓p_isBb, ↓p_isSb, ↓p_isLb, ↓p_isTb, ↓p_isIs, ↓p_isBs, ↓p_isSs, ↓p_isLs, ↓p_isTs, ↓p_isLi, ↓p_isTi, ↓p_isLn, ↓p_isTn, ↓p_isSn, ↓p_isNb, ↓p_isNs, ↓p_isNt, ↓p_isNl, ↓p_isNp, ↓p_eqTT, ↓p_eqTF, ↓p_eqFT, ↓p_eqFF, ↓p_neTT, ↓p_neTF, ↓p_neFT, ↓p_neFF, ↓p_eqBs, ↓p_eqSs, ↓p_eqIs, ↓w_chain4, ↓p_lrg1, ↓p_lrg2, ↓p_maxL, ↓p_maxl, ↓p_minL, ↓p_minl, ↓w_getE, ↓w_emptyK, ↓w_emptyT, ↓p_dixi, ↓p_dixs, ↓p_dini, ↓p_dins, ↓p_dgi, ↓p_dgs, ↓p_dputi, ↓p_dputs, ↓p_extA, ↓p_extAl, p_extAS, p_extASl, ↓w_bor, fl_b, fl_i, fl_n, fl_s, ↓w_enumA, ↓enma_l, ↓enma_t, ↓enma_o, eq_self, ↓w_strM, ↓sv_s, ↓p_eqS, ↓p_neS, ↓p_isTp, ↓p_lenp, ↓itm_p, ↓p_neBs, line_racks, racks_line, ↓p_sub, ↓p_add, ↓p_ipadd, ↓p_mul, ↓p_div, ↓p_mod, ↓p_pow, ↓p_neg, ↓p_eq, ↓p_ne, ↓p_lt, ↓p_gt, ↓p_le, ↓p_ge, ↓p_max, ↓p_min, ↓p_abs, ↓p_intI, ↓p_intB, ↓p_isaI, ↓p_isaB, ↓p_isaNI, ↓p_isNI, ↓p_isNN, ↓p_isNo, ↓p_eqo, ↓p_neo, ↓p_divmod, ↓p_catL, ↓p_catLl, ↓p_catlL, ↓p_catll, ↓p_len, ↓p_lenl, ↓p_lent, ↓p_list, ↓p_listl, ↓p_listt, ↓p_tuple, ↓p_tuplel, ↓p_tuplet, ↓p_rev, ↓p_revl, ↓p_ix, ↓p_ixl, ↓p_ixt, ↓p_append, ↓p_reverse, ↓p_sum, ↓p_suml, ↓p_any, ↓p_all, ↓p_eqLL, ↓p_eqLl, ↓p_eqlL, ↓p_eqll, ↓p_eqL0, ↓p_eql0, ↓p_neLL, ↓p_neLl, ↓p_nelL, ↓p_nell, ↓p_neL0, ↓p_nel0,
  ↓gp_cells, ↓gp_turn, ↓put_turn, ↓put_cells, ↓putP_top, wipeE, lv_0, lv_s,
  List.set_cons_zero, List.set_cons_succ, List.length_cons, List.length_nil, List.map_cons, List.map_nil, finR, List.replicate, List.replicate_succ, List.replicate_zero, List.cons_append, List.nil_append, true_and, and_true, List.tail_cons, List.head?_cons, Option.join_some, List.contains_nil, Bool.false_eq_true, if_false, if_true, List.all_nil, and_self, Int.reduceToNat, Int.reducePow, Nat.reduceSub, Nat.reduceAdd, Int.reduceAdd, Int.reduceMul, Int.reduceSub, Int.reduceNeg, Int.reduceLT, Int.reduceLE, Int.natAbs, Nat.reduceLT, Nat.reduceLeDiff, Nat.reducePow])
def bndP (g : Int) (j : Nat) : Int := if g = 0 then 80 + 41 * j else 2000000000000000000000000000000 * (j + 1)
theorem bndP_s {g : Int} {j : Nat} : bndP g j ≤ bndP g (j + 1) ∧ 80 ≤ bndP g j := by
  unfold bndP
  split <;> omega
theorem goodPa_mono {B C : Int} {p : Pa} (h : GoodPa B p) (hb : B ≤ C) : GoodPa C p := ⟨h.1, h.2.1, Int.le_trans h.2.2 hb⟩
theorem parts_by {st : List Int × Int} {n m g : Int} {ws : List Str} (h : St st n) (hn : n ≤ 1000000000000000) (h0 : 0 ≤ m) (h1 : m ≤ 100) (hg : g = 0 ∨ g = 1) (hw : 0 < ws.length) (hw2 : ws.length ≤ 100) {Q : O → List (Option O) → Prop}
    (k : ∀ (ps : List Pa) st' os, (ps.length : Int) = m → (∀ p ∈ ps, GoodPa (bndP g ps.length) p) → (∀ p ∈ ps, p.k ∈ ws) → St st' (n + 20 * m) → Q (.ls (ps.map paT)) (some (stO st') :: os)) : Wd g_l_parts_by [stO st, .leaf (.list (ws.map .str)), .leaf (.int m), .leaf (.int g)] Q := by
  unfold g_l_parts_by
  rw [w_def]
  unfold b_l_parts_by
  walk_at "mv"
  refine ⟨by omega, ?_⟩
  refine wf_inv (k := 0) (I := fun j e => ∃ (s : List Int × Int) (ps : List Pa) (x1 x2 x3 x4 : Option O), e = [some (stO s), some (.leaf (.list (ws.map .str))), some (.leaf (.int m)), some (.leaf (.int g)), some (.ls (ps.map paT)), x1, x2, x3, x4] ∧ ps.length = j ∧ (∀ p ∈ ps, GoodPa (bndP g j) p) ∧ (∀ p ∈ ps, p.k ∈ ws) ∧ St s (n + 20 * j)) (fun j t e ht hi => ?_) ⟨st, [], _, _, _, _, rfl, rfl, (by intro p hp; cases hp), (by intro p hp; cases hp), h.le (by omega)⟩ fun e hi => ?_
  · obtain ⟨s, ps, x1, x2, x3, x4, rfl, hj1, hg1, hk1, h2⟩ := hi
    obtain ⟨rfl, hj⟩ := range_get ht
    rw [Nat.zero_add] at hj1 h2 hg1 ⊢
    obtain ⟨bs1, bs2⟩ := bndP_s (g := g) (j := j)
    walk_at "mv"
    rw [List.length_map]
    refine tk h2 (by omega) (by omega) (by omega) fun d s1 d1 d2 h3 => ?_
    walk_at "mv"
    refine at_get d1 (by rw [List.length_map]; omega) fun t' ht' => ?_
    obtain ⟨mk, hmk, rfl⟩ := List.mem_map.mp (List.mem_of_getElem? ht')
    walk_at "mv"
    have kk : ∃ kd : Int, (∀ {P : D → Prop}, P (.int kd) → At [PyData.int 1, .int 3] g P) ∧ 0 ≤ kd ∧ (g = 0 → kd = 1) := by
      rcases hg with rfl | rfl
      · exact ⟨1, fun z => at_0.mpr z, by decide, fun _ => rfl⟩
      · exact ⟨3, fun z => at_1.mpr z, by decide, fun z => by cases z⟩
    obtain ⟨kd, ka, kb, kc⟩ := kk
    refine ka ?_
    walk_at "mv"
    refine number h3 (by omega) kb fun f s2 os f0 f1 f2 f3 h4 => ?_
    have hf : 0 ≤ f ∧ f + 40 ≤ bndP g j := by
      refine ⟨f0, ?_⟩
      unfold bndP
      rcases hg with rfl | rfl
      · have := f3 (kc rfl)
        rw [if_pos rfl]
        omega
      · rw [if_neg (by decide)]
        omega
    walk_at "mvp"
    refine O2.mono (Q := fun o e => o = .nx ∧ ∃ (s3 : List Int × Int) (mk' : Str) (f' : Int) (y : Option O), e = [some (stO s3), some (.leaf (.list (ws.map .str))), some (.leaf (.int m)), some (.leaf (.int g)), some (.ls (ps.map paT)), some (.leaf (.int (j : Int))), some (.leaf (.str mk')), some (.leaf (.int f')), y] ∧ mk' ∈ ws ∧ 0 ≤ f' ∧ f' ≤ bndP g j + 1 ∧ St s3 (n + 20 * j + 9)) (?_ : Ws _ _ _) ?_
    · walk_at "mv"
      rw [eq0E (neg := true) rfl rfl (n := 3) (by decide) (fun t ht => by
        obtain ⟨p, _, rfl⟩ := List.mem_map.mp ht
        exact smz_okz smz_paT)]
      walk_at "mv"
      refine brb (fun hne => ?_) fun hne => ?_
      · have hps : ps ≠ [] := by
          rintro rfl
          simp at hne
        have hpl : 0 < ps.length := List.length_pos_iff.mpr hps
        walk_at "mv"
        refine tk h4 (by omega) (by decide) (by decide) fun q s3 q1 q2 h5 => ?_
        walk_at "mv"
        refine br (fun hq => ?_) fun hq => ?_
        · walk_at "mv"
          rw [List.length_map]
          refine tk h5 (by omega) (by omega) (by omega) fun r s4 r1 r2 h6 => ?_
          walk_at "mv"
          refine at_get r1 (by rw [List.length_map]; omega) fun t' ht' => ?_
          obtain ⟨p, hp, rfl⟩ := List.mem_map.mp (List.mem_of_getElem? ht')
          have gp := hg1 p hp
          unfold GoodPa at gp
          simp only [paT]
          walk_at "mv"
          refine tk h6 (by omega) (by decide) (by decide) fun v s5 v1 v2 h7 => ?_
          walk_at "mv"
          refine at_ints (ns := [p.f, p.l, p.l + 1, max 0 (p.f - 1)]) v1 (by simpa using v2) fun w hw' => ?_
          have hw'' := List.mem_of_getElem? hw'
          simp only [List.mem_cons, List.not_mem_nil, or_false] at hw''
          walk_at "mv"
          exact ⟨s5, p.k, w, _, rfl, hk1 p hp, by omega, by omega, h7.le (by omega)⟩
        · walk_at "mv"
          exact ⟨s3, mk, f, _, rfl, hmk, by omega, by omega, h5.le (by omega)⟩
      · walk_at "mv"
        exact ⟨s2, mk, f, _, rfl, hmk, by omega, by omega, h4.le (by omega)⟩
    · rintro o e ⟨rfl, s3, mk', f', y, rfl, hm', f'0, f'1, h5⟩
      walk_at "mv1"
      walk_at "mv"
      have kk2 : ∃ kd : Int, (∀ {P : D → Prop}, P (.list [.int 0, .int kd]) → At [PyData.list [.int 0, .int 1], .list [.int 0, .int 3]] g P) ∧ 0 ≤ kd ∧ (g = 0 → kd = 1) := by
        rcases hg with rfl | rfl
        · exact ⟨1, fun z => at_0.mpr z, by decide, fun _ => rfl⟩
        · exact ⟨3, fun z => at_1.mpr z, by decide, fun z => by cases z⟩
      obtain ⟨kd2, ka2, kb2, kc2⟩ := kk2
      refine ka2 ?_
      walk_at "mv"
      refine tk h5 (by omega) (by decide) (by decide) fun v s5 v1 v2 h7 => ?_
      walk_at "mv"
      refine at_ints (ns := [0, kd2]) v1 (by simpa using v2) fun w hw' => ?_
      have hw'' := List.mem_of_getElem? hw'
      simp only [List.mem_cons, List.not_mem_nil, or_false] at hw''
      walk_at "mv"
      refine number h7 (by omega) (by omega) fun d2 s6 os e0 e1 e2 e3 h8 => ?_
      walk_at "mv"
      have hd2 : f' + d2 ≤ bndP g (j + 1) := by
        unfold bndP at f'1 ⊢
        rcases hg with rfl | rfl
        · rw [if_pos rfl] at f'1 ⊢
          have := kc2 rfl
          have : d2 < 40 := by
            rcases hw'' with rfl | rfl
            · have := e2 rfl
              omega
            · exact e3 (kc2 rfl)
          omega
        · rw [if_neg (by decide)] at f'1 ⊢
          omega
      refine ⟨by rw [List.length_map]; omega, by rw [List.length_map]; omega, s6, ps ++ [⟨mk', f', f' + d2⟩], _, _, _, _, by rw [paT_snoc], by rw [List.length_append, hj1]; rfl, fun p hp => ?_, fun p hp => ?_, h8.le (by omega)⟩
      · rcases List.mem_append.mp hp with z | z
        · exact goodPa_mono (hg1 p z) bs1
        · rw [List.mem_singleton.mp z]
          exact ⟨f'0, by simp only; omega, hd2⟩
      · rcases List.mem_append.mp hp with z | z
        · exact hk1 p z
        · rw [List.mem_singleton.mp z]
          exact hm'
  · obtain ⟨s, ps, x1, x2, x3, x4, rfl, hj1, hg1, hk1, h2⟩ := hi
    rw [range_ints, List.length_map, List.length_map, List.length_range, Nat.zero_add] at hj1 h2 hg1
    walk_at "mv"
    exact k _ _ _ (by omega) (by rw [hj1]; exact hg1) hk1 (h2.le (by omega))
theorem packing_by {st : List Int × Int} {n g : Int} {ws : List Str} {nm : Str} (h : St st n) (hn : n ≤ 900000000000000) (hg : g = 0 ∨ g = 1) (hw : 0 < ws.length) (hw2 : ws.length ≤ 100) {Q : O → List (Option O) → Prop}
    (k : ∀ (ps : List Pa) (sz : Int) st' os, ps.length ≤ 12 → (∀ p ∈ ps, GoodPa (bndP g 12) p) → (∀ p ∈ ps, p.k ∈ ws) → 0 < sz → sz ≤ paSum ps + 1000000000000000000000000000000 → (g = 0 → sz ≤ paSum ps + 50) → St st' (n + 300) → Q (.leaf (encPk nm sz ps)) (some (stO st') :: os)) : Wd g_l_packing_by [stO st, .leaf (.str nm), .leaf (.list (ws.map .str)), .leaf (.int g)] Q := by
  unfold g_l_packing_by
  rw [w_def]
  unfold b_l_packing_by
  walk_at "mv"
  refine tk h (by omega) (by decide) (by decide) fun d s1 d1 d2 h1 => ?_
  walk_at "mv"
  refine at_ints (ns := [0, 1, 2, 3, 12]) d1 (by simpa using d2) fun m hm => ?_
  have hm' := List.mem_of_getElem? hm
  simp only [List.mem_cons, List.not_mem_nil, or_false] at hm'
  have m0 : 0 ≤ m ∧ m ≤ 12 := by omega
  clear hm hm'
  walk_at "mv"
  refine parts_by h1 (by omega) m0.1 (by omega) hg hw hw2 fun ps s2 os pl pg pk h2 => ?_
  have pg' : ∀ p ∈ ps, GoodPa (bndP g 12) p := fun p hp => goodPa_mono (pg p hp) (by
    unfold bndP
    split <;> omega)
  have sn := paSum_nn pg'
  walk_at "mv"
  refine ⟨by rw [List.length_map]; omega, ?_⟩
  refine wcl_map (p := fun _ => true) (g := fun p => PyData.int (paN p)) (fun p hp => ?_) ?_
  · simp only [paT]
    walk_at "mv"
    rfl
  rw [List.filter_eq_self.mpr fun _ _ => rfl]
  have e : ps.map (fun p => PyData.int (paN p)) = (ps.map paN).map .int := by rw [List.map_map]; rfl
  rw [e]
  walk_at "mv"
  rw [← paSum_eq]
  refine tk h2 (by omega) (by decide) (by decide) fun a s3 a1 a2 h3 => ?_
  walk_at "mv"
  have kk : ∃ kd : Int, (∀ {P : D → Prop}, P (.int kd) → At [PyData.int 1, .int 3] g P) ∧ 0 ≤ kd ∧ (g = 0 → kd = 1) := by
    rcases hg with rfl | rfl
    · exact ⟨1, fun z => at_0.mpr z, by decide, fun _ => rfl⟩
    · exact ⟨3, fun z => at_1.mpr z, by decide, fun z => by cases z⟩
  obtain ⟨kd, ka, kb, kc⟩ := kk
  refine ka ?_
  walk_at "mv"
  refine number h3 (by omega) kb fun b s4 os b1 b2 b3 b4 h4 => ?_
  walk_at "mv"
  refine tk h4 (by omega) (by decide) (by decide) fun q s5 q1 q2 h5 => ?_
  walk_at "mv"
  refine at_ints (ns := [1, 1 + a, max 1 (paSum ps), paSum ps + 1, 1 + b]) q1 (by simpa using q2) fun sz hsz => ?_
  have hsz' := List.mem_of_getElem? hsz
  simp only [List.mem_cons, List.not_mem_nil, or_false] at hsz'
  walk_at "mv"
  refine k ps sz s5 _ (by omega) pg' pk (by omega) (by omega) (fun z => ?_) (h5.le (by omega))
  have := b4 (kc z)
  omega

end L26
end

set_option Elab.async false
set_option linter.all false
set_option maxRecDepth 100000
set_option maxHeartbeats 4000000
noncomputable section
namespace L26
open PySem PySem.Spec PyProof.Rows L2 Mv
local macro_rules | `(tactic| walk_at "mv") => `(tactic| try simp only [↓w_cst, ↓w_var, ↓w_mv, ↓w_fz, ↓w_frz, ↓w_bin, ↓w_un, ↓w_binV, ↓w_if, ↓w_asB, ↓w_yes, ↓w_not, ↓w_and, ↓w_or, ↓w_andE, ↓w_orE, ↓w_notE, ↓w_chain, ↓w_nil, ↓w_cons, ↓w_tup, ↓w_lst, ↓w_pl, ↓w_mut, ↓w_c0, ↓w_ce, ↓w_cv, ↓w_call', ↓wb_0, ↓wb_e, ↓wb_v, wb_e', ↓wo_leaf, ↓wo_ls, ↓wo_dic, ↓wo_dct, ↓wo_st, ↓wo_s, own_0, own_s, oi_0, oi_e, oi_v, isl_st, isl_leaf, isl_ls, Bool.not_false, Bool.not_true, List.nodup_cons, List.nodup_nil, List.not_mem_nil, not_false_eq_true, ↓w_seq, ↓w_skip, ↓w_brk, ↓w_cont, ↓w_retN, ↓w_set, ↓w_drop, ↓w_ret, ↓w_retV, ↓w_ifS, ↓w_fzS, ↓w_asg, ↓w_gN, ↓w_gT, ↓w_gNl, ↓w_gCn, ↓w_gSub, ↓w_par, ↓w_aug, ↓w_int, ↓w_slice, ↓w_rng1, ↓w_rng2, ↓w_seqI, ↓w_comp, ↓w_for,
  ↓sl_0, ↓sl_s, ↓fr_leaf, ↓fr_ls, ↓ok_t, ↓ok_l, ↓br_t, ↓br_f, decide_true, decide_false, Int.reduceEq, ↓bl_b, ↓il_b, ↓le_l, ↓gp_top, ↓cl_0, ↓cl_e, ↓cl_v, ↓nxt_nx, ↓nxt_rt, ↓nxt_bk, ↓nxt_ct, ↓sa_0, ↓sa_s, ↓rg1_i, ↓rg2_i, ↓itm_l, ↓itm_t, ↓itm_o, ↓fin_rt, ↓fin_nx, ↓lpk_nx, ↓lpk_ct, ↓lpk_bk, ↓lpk_rt, ↓wcl_nil, ↓wf_nil,
  ↓w_enum, ↓w_zip, ↓enm_l, ↓enm_o, ↓zp_ll, ↓zp_lo, ↓zp_ol, ↓zp_oo, ↓zp_tt, ↓p_isLTi, ↓p_isLTn, ↓p_isSi, ↓p_isBn, ↓p_extend, p_extendS, p_appendS, List.isEmpty_nil, ↓w_dicO, ↓dicO_list, zip_cc, zip_nn, ↓at_0, ↓at_1, ↓at_2, ↓at_3, ↓at_4, p_insertS, ↓p_mulO, ↓p_repB, ↓p_rep0, ↓p_rep1, ↓w_while, ↓p_insert, ↓at_last, ↓put_last, ↓p_inl, ↓p_inL, ↓p_ninl, ↓p_ninL, ↓p_eqP0, ↓p_neP0, ↓p_neA, ↓p_eq00, ↓p_ne00, ↓p_ixp0, ↓p_ixp1, ↓w_gTp, ↓p_isLTb, ↓p_isLTs, ↓p_isIb, ↓p_isBb, ↓p_isSb, ↓p_isLb, ↓p_isTb, ↓p_isIs, ↓p_isBs, ↓p_isSs, ↓p_isLs, ↓p_isTs, ↓p_isLi, ↓p_isTi, ↓p_isLn, ↓p_isTn, ↓p_isSn, ↓p_isNb, ↓p_isNs, ↓p_isNt, ↓p_isNl, ↓p_isNp, ↓p_eqTT, ↓p_eqTF, ↓p_eqFT, ↓p_eqFF, ↓p_neTT, ↓p_neTF, ↓p_neFT, ↓p_neFF, ↓p_eqBs, ↓p_eqSs, ↓p_eqIs, ↓w_chain4, ↓p_lrg1, ↓p_lrg2, ↓p_maxL, ↓p_maxl, ↓p_minL, ↓p_minl, ↓w_getE, ↓w_emptyK, ↓w_emptyT, ↓p_dixi, ↓p_dixs, ↓p_dini, ↓p_dins, ↓p_dgi, ↓p_dgs, ↓p_dputi, ↓p_dputs, ↓p_extA, ↓p_extAl, p_extAS, p_extASl, ↓w_bor, fl_b, fl_i, fl_n, fl_s, ↓w_enumA, ↓enma_l, ↓enma_t, ↓enma_o, eq_self, ↓w_strM, ↓sv_s, ↓p_eqS, ↓p_neS, ↓p_isTp, ↓p_lenp, ↓itm_p, ↓p_neBs, line_racks, racks_line, ↓p_sub, ↓p_add, ↓p_ipadd, ↓p_mul, ↓p_div, ↓p_mod, ↓p_pow, ↓p_neg, ↓p_eq, ↓p_ne, ↓p_lt, ↓p_gt, ↓p_le, ↓p_ge, ↓p_max, ↓p_min, ↓p_abs, ↓p_intI, ↓p_intB, ↓p_isaI, ↓p_isaB, ↓p_isaNI, ↓p_isNI, ↓p_isNN, ↓p_isNo, ↓p_eqo, ↓p_neo, ↓p_divmod, ↓p_catL, ↓p_catLl, ↓p_catlL, ↓p_catll, ↓p_len, ↓p_lenl, ↓p_lent, ↓p_list, ↓p_listl, ↓p_listt, ↓p_tuple, ↓p_tuplel, ↓p_tuplet, ↓p_rev, ↓p_revl, ↓p_ix, ↓p_ixl, ↓p_ixt, ↓p_append, ↓p_reverse, ↓p_sum, ↓p_suml, ↓p_any, ↓p_all, ↓p_eqLL, ↓p_eqLl, ↓p_eqlL, ↓p_eqll, ↓p_eqL0, ↓p_eql0, ↓p_neLL, ↓p_neLl, ↓p_nelL, ↓p_nell, ↓p_neL0, ↓p_nel0,
  ↓gp_cells, ↓gp_turn, ↓put_turn, ↓put_cells, ↓putP_top, wipeE, lv_0, lv_s,
  List.set_cons_zero, List.set_cons_succ, List.length_cons, List.length_nil, List.map_cons, List.map_nil, finR, List.replicate, List.replicate_succ, List.replicate_zero, List.cons_append, List.nil_append, true_and, and_true, List.tail_cons, List.head?_cons, Option.join_some, List.contains_nil, Bool.false_eq_true, if_false, if_true, List.all_nil, and_self, Int.reduceToNat, Int.reducePow, Nat.reduceSub, Nat.reduceAdd, Int.reduceAdd, Int.reduceMul, Int.reduceSub, Int.reduceNeg, Int.reduceLT, Int.reduceLE, Int.natAbs, Nat.reduceLT, Nat.reduceLeDiff, Nat.reducePow])
local macro_rules | `(tactic| walk_at "mve") => `(tactic| try simp only [↓w_cst, ↓w_var, ↓w_mv, ↓w_fz, ↓w_frz, ↓w_bin, ↓w_un, ↓w_binV, ↓w_asB, ↓w_yes, ↓w_not, ↓w_and, ↓w_or, ↓w_andE, ↓w_orE, ↓w_notE, ↓w_chain, ↓w_nil, ↓w_cons, ↓w_tup, ↓w_lst, ↓w_pl, ↓w_mut, ↓w_c0, ↓w_ce, ↓w_cv, ↓w_call', ↓wb_0, ↓wb_e, ↓wb_v, wb_e', ↓wo_leaf, ↓wo_ls, ↓wo_dic, ↓wo_dct, ↓wo_st, ↓wo_s, own_0, own_s, oi_0, oi_e, oi_v, isl_st, isl_leaf, isl_ls, Bool.not_false, Bool.not_true, List.nodup_cons, List.nodup_nil, List.not_mem_nil, not_false_eq_true, ↓w_seq, ↓w_skip, ↓w_brk, ↓w_cont, ↓w_retN, ↓w_set, ↓w_drop, ↓w_ret, ↓w_retV, ↓w_ifS, ↓w_fzS, ↓w_asg, ↓w_gN, ↓w_gT, ↓w_gNl, ↓w_gCn, ↓w_gSub, ↓w_par, ↓w_aug, ↓w_int, ↓w_slice, ↓w_rng1, ↓w_rng2, ↓w_seqI, ↓w_comp, ↓w_for,
  ↓sl_0, ↓sl_s, ↓fr_leaf, ↓fr_ls, ↓ok_t, ↓ok_l, ↓br_t, ↓br_f, decide_true, decide_false, Int.reduceEq, ↓bl_b, ↓il_b, ↓le_l, ↓gp_top, ↓cl_0, ↓cl_e, ↓cl_v, ↓nxt_nx, ↓nxt_rt, ↓nxt_bk, ↓nxt_ct, ↓sa_0, ↓sa_s, ↓rg1_i, ↓rg2_i, ↓itm_l, ↓itm_t, ↓itm_o, ↓fin_rt, ↓fin_nx, ↓lpk_nx, ↓lpk_ct, ↓lpk_bk, ↓lpk_rt, ↓wcl_nil, ↓wf_nil,
  ↓w_enum, ↓w_zip, ↓enm_l, ↓enm_o, ↓zp_ll, ↓zp_lo, ↓zp_ol, ↓zp_oo, ↓zp_tt, ↓p_isLTi, ↓p_isLTn, ↓p_isSi, ↓p_isBn, ↓p_extend, p_extendS, p_appendS, List.isEmpty_nil, ↓w_dicO, ↓dicO_list, zip_cc, zip_nn, ↓at_0, ↓at_1, ↓at_2, ↓at_3, ↓at_4, p_insertS, ↓p_mulO, ↓p_repB, ↓p_rep0, ↓p_rep1, ↓w_while, ↓p_insert, ↓at_last, ↓put_last, ↓p_inl, ↓p_inL, ↓p_ninl, ↓p_ninL, ↓p_eqP0, ↓p_neP0, ↓p_neA, ↓p_eq00, ↓p_ne00, ↓p_ixp0, ↓p_ixp1, ↓w_gTp, ↓p_isLTb, ↓p_isLTs, ↓p_isIb, ↓p_isBb, ↓p_isSb, ↓p_isLb, ↓p_isTb, ↓p_isIs, ↓p_isBs, ↓p_isSs, ↓p_isLs, ↓p_isTs, ↓p_isLi, ↓p_isTi, ↓p_isLn, ↓p_isTn, ↓p_isSn, ↓p_isNb, ↓p_isNs, ↓p_isNt, ↓p_isNl, ↓p_isNp, ↓p_eqTT, ↓p_eqTF, ↓p_eqFT, ↓p_eqFF, ↓p_neTT, ↓p_neTF, ↓p_neFT, ↓p_neFF, ↓p_eqBs, ↓p_eqSs, ↓p_eqIs, ↓w_chain4, ↓p_lrg1, ↓p_lrg2, ↓p_maxL, ↓p_maxl, ↓p_minL, ↓p_minl, ↓w_getE, ↓w_emptyK, ↓w_emptyT, ↓p_dixi, ↓p_dixs, ↓p_dini, ↓p_dins, ↓p_dgi, ↓p_dgs, ↓p_dputi, ↓p_dputs, ↓p_extA, ↓p_extAl, p_extAS, p_extASl, ↓w_bor, fl_b, fl_i, fl_n, fl_s, ↓w_enumA, ↓enma_l, ↓enma_t, ↓enma_o, eq_self, ↓w_strM, ↓sv_s, ↓p_eqS, ↓p_neS, ↓p_isTp, ↓p_lenp, ↓itm_p, ↓p_neBs, line_racks, racks_line, ↓p_sub, ↓p_add, ↓p_ipadd, ↓p_mul, ↓p_div, ↓p_mod, ↓p_pow, ↓p_neg, ↓p_eq, ↓p_ne, ↓p_lt, ↓p_gt, ↓p_le, ↓p_ge, ↓p_max, ↓p_min, ↓p_abs, ↓p_intI, ↓p_intB, ↓p_isaI, ↓p_isaB, ↓p_isaNI, ↓p_isNI, ↓p_isNN, ↓p_isNo, ↓p_eqo, ↓p_neo, ↓p_divmod, ↓p_catL, ↓p_catLl, ↓p_catlL, ↓p_catll, ↓p_len, ↓p_lenl, ↓p_lent, ↓p_list, ↓p_listl, ↓p_listt, ↓p_tuple, ↓p_tuplel, ↓p_tuplet, ↓p_rev, ↓p_revl, ↓p_ix, ↓p_ixl, ↓p_ixt, ↓p_append, ↓p_reverse, ↓p_sum, ↓p_suml, ↓p_any, ↓p_all, ↓p_eqLL, ↓p_eqLl, ↓p_eqlL, ↓p_eqll, ↓p_eqL0, ↓p_eql0, ↓p_neLL, ↓p_neLl, ↓p_nelL, ↓p_nell, ↓p_neL0, ↓p_nel0,
  ↓gp_cells, ↓gp_turn, ↓put_turn, ↓put_cells, ↓putP_top, wipeE, lv_0, lv_s,
  List.set_cons_zero, List.set_cons_succ, List.length_cons, List.length_nil, List.map_cons, List.map_nil, finR, List.replicate, List.replicate_succ, List.replicate_zero, List.cons_append, List.nil_append, true_and, and_true, List.tail_cons, List.head?_cons, Option.join_some, List.contains_nil, Bool.false_eq_true, if_false, if_true, List.all_nil, and_self, Int.reduceToNat, Int.reducePow, Nat.reduceSub, Nat.reduceAdd, Int.reduceAdd, Int.reduceMul, Int.reduceSub, Int.reduceNeg, Int.reduceLT, Int.reduceLE, Int.natAbs, Nat.reduceLT, Nat.reduceLeDiff, Nat.reducePow])
local macro_rules | `(tactic| walk_at "mv1") => `(tactic| try simp only [↓ok_t, ↓ok_l, ↓nxt_nx, ↓nxt_rt, ↓w_seq, ↓fin_rt, ↓fin_nx, ↓lpk_nx, ↓lpk_ct, ↓lpk_bk, ↓lpk_rt, wipeE, List.set_cons_zero, List.set_cons_succ, true_and, and_true])
local macro_rules | `(tactic| walk_at "mvs") => `(tactic| try simp only [↓sl_0, ↓sl_s, ↓fr_leaf, ↓fr_ls, ↓ok_t, ↓ok_l, ↓nxt_nx, ↓nxt_rt, ↓w_seq, ↓fin_rt, ↓fin_nx, ↓lpk_nx, ↓lpk_ct, ↓lpk_bk, ↓lpk_rt, wipeE, List.set_cons_zero, List.set_cons_succ, true_and, and_true])
local macro_rules | `(tactic| walk_at "mvp") => `(tactic| try simp only [↓w_cst, ↓w_var, ↓w_mv, ↓w_fz, ↓w_frz, ↓w_bin, ↓w_un, ↓w_binV, ↓w_if, ↓w_asB, ↓w_yes, ↓w_not, ↓w_and, ↓w_or, ↓w_andE, ↓w_orE, ↓w_notE, ↓w_chain, ↓w_nil, ↓w_cons, ↓w_tup, ↓w_lst, ↓w_pl, ↓w_mut, ↓w_c0, ↓w_ce, ↓w_cv, ↓w_call', ↓wb_0, ↓wb_e, ↓wb_v, wb_e', ↓wo_leaf, ↓wo_ls, ↓wo_dic, ↓wo_dct, ↓wo_st, ↓wo_s, own_0, own_s, oi_0, oi_e, oi_v, isl_st, isl_leaf, isl_ls, Bool.not_false, Bool.not_true, List.nodup_cons, List.nodup_nil, List.not_mem_nil, not_false_eq_true, ↓w_seq, ↓w_skip, ↓w_brk, ↓w_cont, ↓w_retN, ↓w_set, ↓w_drop, ↓w_ret, ↓w_retV, ↓w_fzS, ↓w_asg, ↓w_gN, ↓w_gT, ↓w_gNl, ↓w_gCn, ↓w_gSub, ↓w_par, ↓w_aug, ↓w_int, ↓w_slice, ↓w_rng1, ↓w_rng2, ↓w_seqI, ↓w_comp, ↓w_for,
  ↓sl_0, ↓sl_s, ↓fr_leaf, ↓fr_ls, ↓ok_t, ↓ok_l, ↓br_t, ↓br_f, decide_true, decide_false, Int.reduceEq, ↓bl_b, ↓il_b, ↓le_l, ↓gp_top, ↓cl_0, ↓cl_e, ↓cl_v, ↓nxt_nx, ↓nxt_rt, ↓nxt_bk, ↓nxt_ct, ↓sa_0, ↓sa_s, ↓rg1_i, ↓rg2_i, ↓itm_l, ↓itm_t, ↓itm_o, ↓fin_rt, ↓fin_nx, ↓lpk_nx, ↓lpk_ct, ↓lpk_bk, ↓lpk_rt, ↓wcl_nil, ↓wf_nil,
  ↓w_enum, ↓w_zip, ↓enm_l, ↓enm_o, ↓zp_ll, ↓zp_lo, ↓zp_ol, ↓zp_oo, ↓zp_tt, ↓p_isLTi, ↓p_isLTn, ↓p_isSi, ↓p_isBn, ↓p_extend, p_extendS, p_appendS, List.isEmpty_nil, ↓w_dicO, ↓dicO_list, zip_cc, zip_nn, ↓at_0, ↓at_1, ↓at_2, ↓at_3, ↓at_4, p_insertS, ↓p_mulO, ↓p_repB, ↓p_rep0, ↓p_rep1, ↓w_while, ↓p_insert, ↓at_last, ↓put_last, ↓p_inl, ↓p_inL, ↓p_ninl, ↓p_ninL, ↓p_eqP0, ↓p_neP0, ↓p_neA, ↓p_eq00, ↓p_ne00, ↓p_ixp0, ↓p_ixp1, ↓w_gTp, ↓p_isLTb, ↓p_isLTs, ↓p_isIb, ↓p_isBb, ↓p_isSb, ↓p_isLb, ↓p_isTb, ↓p_isIs, ↓p_isBs, ↓p_isSs, ↓p_isLs, ↓p_isTs, ↓p_isLi, ↓p_isTi, ↓p_isLn, ↓p_isTn, ↓p_isSn, ↓p_isNb, ↓p_isNs, ↓p_isNt, ↓p_isNl, ↓p_isNp, ↓p_eqTT, ↓p_eqTF, ↓p_eqFT, ↓p_eqFF, ↓p_neTT, ↓p_neTF, ↓p_neFT, ↓p_neFF, ↓p_eqBs, ↓p_eqSs, ↓p_eqIs, ↓w_chain4, ↓p_lrg1, ↓p_lrg2, ↓p_maxL, ↓p_maxl, ↓p_minL, ↓p_minl, ↓w_getE, ↓w_emptyK, ↓w_emptyT, ↓p_dixi, ↓p_dixs, ↓p_dini, ↓p_dins, ↓p_dgi, ↓p_dgs, ↓p_dputi, ↓p_dputs, ↓p_extA, ↓p_extAl, p_extAS, p_extASl, ↓w_bor, fl_b, fl_i, fl_n, fl_s, ↓w_enumA, ↓enma_l, ↓enma_t, ↓enma_o, eq_self, ↓w_strM, ↓sv_s, ↓p_eqS, ↓p_neS, ↓p_isTp, ↓p_lenp, ↓itm_p, ↓p_neBs, line_racks, racks_line, ↓p_sub, ↓p_add, ↓p_ipadd, ↓p_mul, ↓p_div, ↓p_mod, ↓p_pow, ↓p_neg, ↓p_eq, ↓p_ne, ↓p_lt, ↓p_gt, ↓p_le, ↓p_ge, ↓p_max, ↓p_min, ↓p_abs, ↓p_intI, ↓p_intB, ↓p_isaI, ↓p_isaB, ↓p_isaNI, ↓p_isNI, ↓p_isNN, ↓p_isNo, ↓p_eqo, ↓p_neo, ↓p_divmod, ↓p_catL, ↓p_catLl, ↓p_catlL, ↓p_catll, ↓p_len, ↓p_lenl, ↓p_lent, ↓p_list, ↓p_listl, ↓p_listt, ↓p_tuple, ↓p_tuplel, ↓p_tuplet, ↓p_rev, ↓p_revl, ↓p_ix, ↓p_ixl, ↓p_ixt, ↓p_append, ↓p_reverse, ↓p_sum, ↓p_suml, ↓p_any, ↓p_all, ↓p_eqLL, ↓p_eqLl, ↓p_eqlL, ↓p_eqll, ↓p_eqL0, ↓p_eql0, ↓p_neLL, ↓p_neLl, ↓p_nelL, ↓p_nell, ↓p_neL0, ↓p_nel0,
  ↓gp_cells, ↓gp_turn, ↓put_turn, ↓put_cells, ↓putP_top, wipeE, lv_0, lv_s,
  List.set_cons_zero, List.set_cons_succ, List.length_cons, List.length_nil, List.map_cons, List.map_nil, finR, List.replicate, List.replicate_succ, List.replicate_zero, List.cons_append, List.nil_append, true_and, and_true, List.tail_cons, List.head?_cons, Option.join_some, List.contains_nil, Bool.false_eq_true, if_false, if_true, List.all_nil, and_self, Int.reduceToNat, Int.reducePow, Nat.reduceSub, Nat.reduceAdd, Int.reduceAdd, Int.reduceMul, Int.reduceSub, Int.reduceNeg, Int.reduceLT, Int.reduceLE, Int.natAbs, Nat.reduceLT, Nat.reduceLeDiff, Nat.reducePow])
theorem pset_of {o : D} {ps : List Rg} (ho : SqP o ps) (hl : ps.length ≤ 100000) {Q : O → List (Option O) → Prop} (k : ∀ os, Q (.ls ((setOf ps).map pD)) os) : Wd g_set_of [.leaf o] Q := by
  unfold g_set_of
  rw [w_def]
  unfold b_set_of
  walk_at "mv"
  rw [ho.sort (by omega)]
  walk_at "mv"
  refine wf_fold (I := fun r e => ∃ (acc : List Rg) (x y : Option O), e = [some (.leaf o), some (.ls (acc.reverse.map pD)), x, y] ∧ soR r acc = soR (psort ps) [] ∧ r.length + acc.length ≤ 100000) (fun p r e hi => ?_) (fun e hi => ?_) ⟨[], none, none, rfl, rfl, by rw [psort_len]; simpa using hl⟩
  · obtain ⟨acc, x, y, rfl, h1, h2⟩ := hi
    rw [soR_cE] at h1
    rw [List.length_cons] at h2
    walk_at "mv"
    refine br (fun hc => ?_) fun hc => ?_
    · walk_at "mv"
      rw [if_pos hc] at h1
      exact ⟨acc, _, _, rfl, h1, by omega⟩
    · rw [if_neg hc] at h1
      cases acc with
      | nil =>
        rw [List.reverse_nil, List.map_nil]
        walk_at "mv"
        exact ⟨[p], _, _, rfl, h1, by simpa using h2⟩
      | cons q a =>
        simp only at h1
        rw [List.reverse_cons, List.map_append, List.map_cons, List.map_nil]
        walk_at "mv"
        refine br (fun hd => ?_) fun hd => ?_
        · walk_at "mv"
          rw [if_pos hd] at h1
          refine ⟨(q.1, max p.2 q.2) :: a, some (.leaf (.int p.1)), some (.leaf (.int p.2)), ?_, h1, by simp only [List.length_cons] at h2 ⊢; omega⟩
          rw [List.reverse_cons, List.map_append, List.map_cons, List.map_nil]
          rfl
        · walk_at "mv"
          rw [if_neg hd] at h1
          rw [List.length_cons] at h2
          refine ⟨by rw [List.length_append, List.length_map, List.length_reverse, List.length_singleton]; omega, by rw [List.length_append, List.length_map, List.length_reverse, List.length_singleton]; omega, p :: q :: a, some (.leaf (.int p.1)), some (.leaf (.int p.2)), ?_, h1, by simp only [List.length_cons]; omega⟩
          rw [List.reverse_cons, List.reverse_cons, List.map_append, List.map_append, List.map_cons, List.map_nil, List.map_cons, List.map_nil]
          rfl
  · obtain ⟨acc, x, y, rfl, h1, h2⟩ := hi
    rw [soR_nil] at h1
    subst h1
    walk_at "mv"
    exact k _
theorem pboth {o o2 : D} {ps qs : List Rg} (ho : SqP o ps) (ho2 : SqP o2 qs) (hp : Cn ps) (hq : Cn qs) (hl : ps.length + qs.length ≤ 100000) {Q : O → List (Option O) → Prop} (k : ∀ os, Q (.ls ((bo ps qs).map pD)) os) : Wd g_both_of [.leaf o, .leaf o2] Q := by
  unfold g_both_of
  rw [w_def]
  unfold b_both_of
  walk_at "mv"
  have hb := (bo_ok hp hq).2.2
  refine ww_inv (I := fun m e => ∃ (i j : Nat) (acc : List Rg) (x y : Option O), e = [some (.leaf o), some (.leaf o2), some (.ls (acc.map pD)), some (.leaf (.int i)), some (.leaf (.int j)), x, y] ∧ acc ++ bo (ps.drop i) (qs.drop j) = bo ps qs ∧ i ≤ ps.length ∧ j ≤ qs.length ∧ m = (ps.length - i) + (qs.length - j)) (fun m e hi => ?_) (m := ps.length + qs.length) (by omega) ⟨0, 0, [], none, none, rfl, by simp, by omega, by omega, by omega⟩
  obtain ⟨i, j, acc, x, y, rfl, h1, h2, h3, h4⟩ := hi
  walk_at "mv"
  rw [ho.len]
  walk_at "mv"
  have fin : (ps.length ≤ i ∨ qs.length ≤ j) → Q (.ls (acc.map pD)) [some (.leaf o), some (.leaf o2)] := by
    intro h
    have e : bo (ps.drop i) (qs.drop j) = [] := by
      rcases h with h | h
      · rw [List.drop_eq_nil_of_le h, bo]
      · rw [List.drop_eq_nil_of_le h]
        cases ps.drop i with
        | nil => rw [bo]
        | cons a b => rw [bo]
    rw [e, List.append_nil] at h1
    rw [h1]
    exact k _
  refine br (fun hi => ?_) fun hi => ?_
  · walk_at "mv"
    rw [ho2.len]
    walk_at "mv"
    refine br (fun hj => ?_) fun hj => ?_
    · have hi' : i < ps.length := by omega
      have hj' : j < qs.length := by omega
      have ei : (i : Int) + 1 = ((i + 1 : Nat) : Int) := by omega
      have ej : (j : Int) + 1 = ((j + 1 : Nat) : Int) := by omega
      have e1 : ∀ {P : D → Prop}, At (ps.map pD) (i : Int) P ↔ P (pD ps[i]) := at_psE (List.getElem?_eq_getElem hi')
      have e2 : ∀ {P : D → Prop}, At (qs.map pD) (j : Int) P ↔ P (pD qs[j]) := at_psE (List.getElem?_eq_getElem hj')
      rw [List.drop_eq_getElem_cons hi', List.drop_eq_getElem_cons hj', bo] at h1
      walk_at "mv"
      iterate 2
        rw [ho.ix, e1]
        walk_at "mv"
        rw [ho2.ix, e2]
        walk_at "mv"
      have hal : acc.length ≤ (bo ps qs).length := by rw [← h1, List.length_append]; omega
      refine br (fun hc => ?_) fun hc => ?_
      · walk_at "mv"
        refine ⟨by rw [List.length_map]; omega, by rw [List.length_map]; omega, ?_⟩
        rw [if_pos hc] at h1
        rw [ho.ix, e1]
        walk_at "mv"
        rw [ho2.ix, e2]
        walk_at "mv"
        refine br (fun hd => ?_) fun hd => ?_
        · walk_at "mv"
          rw [if_pos hd] at h1
          rw [map_snoc, ei]
          refine ⟨_, ?_, i + 1, j, acc ++ [(max ps[i].1 qs[j].1, min ps[i].2 qs[j].2)], _, _, rfl, ?_, by omega, by omega, rfl⟩
          · omega
          · rw [List.drop_eq_getElem_cons hj', List.append_assoc]
            exact h1
        · walk_at "mv"
          rw [if_neg hd] at h1
          rw [map_snoc, ej]
          refine ⟨_, ?_, i, j + 1, acc ++ [(max ps[i].1 qs[j].1, min ps[i].2 qs[j].2)], _, _, rfl, ?_, by omega, by omega, rfl⟩
          · omega
          · rw [List.drop_eq_getElem_cons hi', List.append_assoc]
            exact h1
      · walk_at "mv"
        rw [if_neg hc] at h1
        rw [ho.ix, e1]
        walk_at "mv"
        rw [ho2.ix, e2]
        walk_at "mv"
        refine br (fun hd => ?_) fun hd => ?_
        · walk_at "mv"
          rw [if_pos hd] at h1
          rw [ei]
          refine ⟨_, ?_, i + 1, j, acc, _, _, rfl, ?_, by omega, by omega, rfl⟩
          · omega
          · rw [List.drop_eq_getElem_cons hj']
            exact h1
        · walk_at "mv"
          rw [if_neg hd] at h1
          rw [ej]
          refine ⟨_, ?_, i, j + 1, acc, _, _, rfl, ?_, by omega, by omega, rfl⟩
          · omega
          · rw [List.drop_eq_getElem_cons hi']
            exact h1
    · walk_at "mv"
      exact fin (.inr (by omega))
  · walk_at "mv"
    exact fin (.inl (by omega))
theorem pwithout {o o2 : D} {ps qs : List Rg} (ho : SqP o ps) (ho2 : SqP o2 qs) (hp : Cn ps) (hq : Cn qs) (hl : ps.length * (qs.length + 1) ≤ 1000000) {Q : O → List (Option O) → Prop} (k : ∀ os, Q (.ls ((wo ps qs).map pD)) os) : Wd g_without [.leaf o, .leaf o2] Q := by
  unfold g_without
  rw [w_def]
  unfold b_without
  walk_at "mv"
  rw [ho.itm]
  have hb := (wo_ok hq hp).2.2
  refine wf_fold (I := fun r e => ∃ (acc : List Rg) (x y z w : Option O), e = [some (.leaf o), some (.leaf o2), some (.ls (acc.map pD)), x, y, z, w] ∧ acc ++ wo r qs = wo ps qs) (fun p r e hi => ?_) (fun e hi => ?_) ⟨[], none, none, none, none, rfl, rfl⟩
  · obtain ⟨acc, x, y, z, w, rfl, h1⟩ := hi
    rw [wo, List.flatMap_cons] at h1
    have h1' : acc ++ (wi p.2 p.1 qs ++ wo r qs) = wo ps qs := h1
    clear h1
    walk_at "mv"
    rw [ho2.itm]
    refine wf_fold (I := fun r2 e => ∃ (f : Int) (acc2 : List Rg) (z w : Option O), e = [some (.leaf o), some (.leaf o2), some (.ls (acc2.map pD)), some (.leaf (.int f)), some (.leaf (.int p.2)), z, w] ∧ acc2 ++ (wi p.2 f r2 ++ wo r qs) = wo ps qs) (fun q r2 e hi => ?_) (fun e hi => ?_) ⟨p.1, acc, z, w, rfl, h1'⟩
    · obtain ⟨f, acc2, z, w, rfl, h2⟩ := hi
      rw [wi] at h2
      walk_at "mv"
      have hal : acc2.length ≤ (wo ps qs).length := by rw [← h2, List.length_append]; omega
      refine br (fun hc => ?_) fun hc => ?_
      · walk_at "mv"
        refine br (fun hd => ?_) fun hd => ?_
        · walk_at "mv"
          rw [if_pos ⟨hc, hd⟩] at h2
          refine br (fun he => ?_) fun he => ?_
          · walk_at "mv"
            rw [if_pos he] at h2
            rw [map_snoc]
            refine ⟨by rw [List.length_map]; omega, by rw [List.length_map]; omega, q.2 + 1, acc2 ++ [(f, q.1 - 1)], _, _, rfl, ?_⟩
            · rw [List.append_assoc, ← h2, List.append_assoc]
          · walk_at "mv"
            rw [if_neg he] at h2
            exact ⟨q.2 + 1, acc2, _, _, rfl, h2⟩
        · walk_at "mv"
          rw [if_neg fun z => hd z.2] at h2
          exact ⟨f, acc2, _, _, rfl, h2⟩
      · walk_at "mv"
        rw [if_neg fun z => hc z.1] at h2
        exact ⟨f, acc2, _, _, rfl, h2⟩
    · obtain ⟨f, acc2, z, w, rfl, h2⟩ := hi
      rw [wi] at h2
      walk_at "mv"
      have hal : acc2.length ≤ (wo ps qs).length := by rw [← h2, List.length_append]; omega
      refine br (fun hc => ?_) fun hc => ?_
      · walk_at "mv"
        rw [if_pos hc] at h2
        refine ⟨by rw [List.length_map]; omega, by rw [List.length_map]; omega, acc2 ++ [(f, p.2)], _, _, _, _, by rw [map_snoc], by rw [List.append_assoc]; exact h2⟩
      · walk_at "mv"
        rw [if_neg hc] at h2
        exact ⟨acc2, _, _, _, _, rfl, h2⟩
  · obtain ⟨acc, x, y, z, w, rfl, h1⟩ := hi
    have e : wo [] qs = [] := rfl
    rw [e, List.append_nil] at h1
    subst h1
    walk_at "mv"
    exact k _

end L26
end

set_option Elab.async false
set_option linter.all false
set_option maxRecDepth 100000
set_option maxHeartbeats 4000000
noncomputable section
namespace L26
open PySem PySem.Spec PyProof.Rows L2 Mv
local macro_rules | `(tactic| walk_at "mv") => `(tactic| try simp only [↓w_cst, ↓w_var, ↓w_mv, ↓w_fz, ↓w_frz, ↓w_bin, ↓w_un, ↓w_binV, ↓w_if, ↓w_asB, ↓w_yes, ↓w_not, ↓w_and, ↓w_or, ↓w_andE, ↓w_orE, ↓w_notE, ↓w_chain, ↓w_nil, ↓w_cons, ↓w_tup, ↓w_lst, ↓w_pl, ↓w_mut, ↓w_c0, ↓w_ce, ↓w_cv, ↓w_call', ↓wb_0, ↓wb_e, ↓wb_v, wb_e', ↓wo_leaf, ↓wo_ls, ↓wo_dic, ↓wo_dct, ↓wo_st, ↓wo_s, own_0, own_s, oi_0, oi_e, oi_v, isl_st, isl_leaf, isl_ls, Bool.not_false, Bool.not_true, List.nodup_cons, List.nodup_nil, List.not_mem_nil, not_false_eq_true, ↓w_seq, ↓w_skip, ↓w_brk, ↓w_cont, ↓w_retN, ↓w_set, ↓w_drop, ↓w_ret, ↓w_retV, ↓w_ifS, ↓w_fzS, ↓w_asg, ↓w_gN, ↓w_gT, ↓w_gNl, ↓w_gCn, ↓w_gSub, ↓w_par, ↓w_aug, ↓w_int, ↓w_slice, ↓w_rng1, ↓w_rng2, ↓w_seqI, ↓w_comp, ↓w_for,
  ↓sl_0, ↓sl_s, ↓fr_leaf, ↓fr_ls, ↓ok_t, ↓ok_l, ↓br_t, ↓br_f, decide_true, decide_false, Int.reduceEq, ↓bl_b, ↓il_b, ↓le_l, ↓gp_top, ↓cl_0, ↓cl_e, ↓cl_v, ↓nxt_nx, ↓nxt_rt, ↓nxt_bk, ↓nxt_ct, ↓sa_0, ↓sa_s, ↓rg1_i, ↓rg2_i, ↓itm_l, ↓itm_t, ↓itm_o, ↓fin_rt, ↓fin_nx, ↓lpk_nx, ↓lpk_ct, ↓lpk_bk, ↓lpk_rt, ↓wcl_nil, ↓wf_nil,
  ↓w_enum, ↓w_zip, ↓enm_l, ↓enm_o, ↓zp_ll, ↓zp_lo, ↓zp_ol, ↓zp_oo, ↓zp_tt, ↓p_isLTi, ↓p_isLTn, ↓p_isSi, ↓p_isBn, ↓p_extend, p_extendS, p_appendS, List.isEmpty_nil, ↓w_dicO, ↓dicO_list, zip_cc, zip_nn, ↓at_0, ↓at_1, ↓at_2, ↓at_3, ↓at_4, p_insertS, ↓p_mulO, ↓p_repB, ↓p_rep0, ↓p_rep1, ↓w_while, ↓p_insert, ↓at_last, ↓put_last, ↓p_inl, ↓p_inL, ↓p_ninl, ↓p_ninL, ↓p_eqP0, ↓p_neP0, ↓p_neA, ↓p_eq00, ↓p_ne00, ↓p_ixp0, ↓p_ixp1, ↓w_gTp, ↓p_isLTb, ↓p_isLTs, ↓p_isIb, ↓p_isBb, ↓p_isSb, ↓p_isLb, ↓p_isTb, ↓p_isIs, ↓p_isBs, ↓p_isSs, ↓p_isLs, ↓p_isTs, ↓p_isLi, ↓p_isTi, ↓p_isLn, ↓p_isTn, ↓p_isSn, ↓p_isNb, ↓p_isNs, ↓p_isNt, ↓p_isNl, ↓p_isNp, ↓p_eqTT, ↓p_eqTF, ↓p_eqFT, ↓p_eqFF, ↓p_neTT, ↓p_neTF, ↓p_neFT, ↓p_neFF, ↓p_eqBs, ↓p_eqSs, ↓p_eqIs, ↓w_chain4, ↓p_lrg1, ↓p_lrg2, ↓p_maxL, ↓p_maxl, ↓p_minL, ↓p_minl, ↓w_getE, ↓w_emptyK, ↓w_emptyT, ↓p_dixi, ↓p_dixs, ↓p_dini, ↓p_dins, ↓p_dgi, ↓p_dgs, ↓p_dputi, ↓p_dputs, ↓p_extA, ↓p_extAl, p_extAS, p_extASl, ↓w_bor, fl_b, fl_i, fl_n, fl_s, ↓w_enumA, ↓enma_l, ↓enma_t, ↓enma_o, eq_self, ↓w_strM, ↓sv_s, ↓p_eqS, ↓p_neS, ↓p_isTp, ↓p_lenp, ↓itm_p, ↓p_neBs, line_racks, racks_line, ↓p_sub, ↓p_add, ↓p_ipadd, ↓p_mul, ↓p_div, ↓p_mod, ↓p_pow, ↓p_neg, ↓p_eq, ↓p_ne, ↓p_lt, ↓p_gt, ↓p_le, ↓p_ge, ↓p_max, ↓p_min, ↓p_abs, ↓p_intI, ↓p_intB, ↓p_isaI, ↓p_isaB, ↓p_isaNI, ↓p_isNI, ↓p_isNN, ↓p_isNo, ↓p_eqo, ↓p_neo, ↓p_divmod, ↓p_catL, ↓p_catLl, ↓p_catlL, ↓p_catll, ↓p_len, ↓p_lenl, ↓p_lent, ↓p_list, ↓p_listl, ↓p_listt, ↓p_tuple, ↓p_tuplel, ↓p_tuplet, ↓p_rev, ↓p_revl, ↓p_ix, ↓p_ixl, ↓p_ixt, ↓p_append, ↓p_reverse, ↓p_sum, ↓p_suml, ↓p_any, ↓p_all, ↓p_eqLL, ↓p_eqLl, ↓p_eqlL, ↓p_eqll, ↓p_eqL0, ↓p_eql0, ↓p_neLL, ↓p_neLl, ↓p_nelL, ↓p_nell, ↓p_neL0, ↓p_nel0,
  ↓gp_cells, ↓gp_turn, ↓put_turn, ↓put_cells, ↓putP_top, wipeE, lv_0, lv_s,
  List.set_cons_zero, List.set_cons_succ, List.length_cons, List.length_nil, List.map_cons, List.map_nil, finR, List.replicate, List.replicate_succ, List.replicate_zero, List.cons_append, List.nil_append, true_and, and_true, List.tail_cons, List.head?_cons, Option.join_some, List.contains_nil, Bool.false_eq_true, if_false, if_true, List.all_nil, and_self, Int.reduceToNat, Int.reducePow, Nat.reduceSub, Nat.reduceAdd, Int.reduceAdd, Int.reduceMul, Int.reduceSub, Int.reduceNeg, Int.reduceLT, Int.reduceLE, Int.natAbs, Nat.reduceLT, Nat.reduceLeDiff, Nat.reducePow])
local macro_rules | `(tactic| walk_at "mve") => `(tactic| try simp only [↓w_cst, ↓w_var, ↓w_mv, ↓w_fz, ↓w_frz, ↓w_bin, ↓w_un, ↓w_binV, ↓w_asB, ↓w_yes, ↓w_not, ↓w_and, ↓w_or, ↓w_andE, ↓w_orE, ↓w_notE, ↓w_chain, ↓w_nil, ↓w_cons, ↓w_tup, ↓w_lst, ↓w_pl, ↓w_mut, ↓w_c0, ↓w_ce, ↓w_cv, ↓w_call', ↓wb_0, ↓wb_e, ↓wb_v, wb_e', ↓wo_leaf, ↓wo_ls, ↓wo_dic, ↓wo_dct, ↓wo_st, ↓wo_s, own_0, own_s, oi_0, oi_e, oi_v, isl_st, isl_leaf, isl_ls, Bool.not_false, Bool.not_true, List.nodup_cons, List.nodup_nil, List.not_mem_nil, not_false_eq_true, ↓w_seq, ↓w_skip, ↓w_brk, ↓w_cont, ↓w_retN, ↓w_set, ↓w_drop, ↓w_ret, ↓w_retV, ↓w_ifS, ↓w_fzS, ↓w_asg, ↓w_gN, ↓w_gT, ↓w_gNl, ↓w_gCn, ↓w_gSub, ↓w_par, ↓w_aug, ↓w_int, ↓w_slice, ↓w_rng1, ↓w_rng2, ↓w_seqI, ↓w_comp, ↓w_for,
  ↓sl_0, ↓sl_s, ↓fr_leaf, ↓fr_ls, ↓ok_t, ↓ok_l, ↓br_t, ↓br_f, decide_true, decide_false, Int.reduceEq, ↓bl_b, ↓il_b, ↓le_l, ↓gp_top, ↓cl_0, ↓cl_e, ↓cl_v, ↓nxt_nx, ↓nxt_rt, ↓nxt_bk, ↓nxt_ct, ↓sa_0, ↓sa_s, ↓rg1_i, ↓rg2_i, ↓itm_l, ↓itm_t, ↓itm_o, ↓fin_rt, ↓fin_nx, ↓lpk_nx, ↓lpk_ct, ↓lpk_bk, ↓lpk_rt, ↓wcl_nil, ↓wf_nil,
  ↓w_enum, ↓w_zip, ↓enm_l, ↓enm_o, ↓zp_ll, ↓zp_lo, ↓zp_ol, ↓zp_oo, ↓zp_tt, ↓p_isLTi, ↓p_isLTn, ↓p_isSi, ↓p_isBn, ↓p_extend, p_extendS, p_appendS, List.isEmpty_nil, ↓w_dicO, ↓dicO_list, zip_cc, zip_nn, ↓at_0, ↓at_1, ↓at_2, ↓at_3, ↓at_4, p_insertS, ↓p_mulO, ↓p_repB, ↓p_rep0, ↓p_rep1, ↓w_while, ↓p_insert, ↓at_last, ↓put_last, ↓p_inl, ↓p_inL, ↓p_ninl, ↓p_ninL, ↓p_eqP0, ↓p_neP0, ↓p_neA, ↓p_eq00, ↓p_ne00, ↓p_ixp0, ↓p_ixp1, ↓w_gTp, ↓p_isLTb, ↓p_isLTs, ↓p_isIb, ↓p_isBb, ↓p_isSb, ↓p_isLb, ↓p_isTb, ↓p_isIs, ↓p_isBs, ↓p_isSs, ↓p_isLs, ↓p_isTs, ↓p_isLi, ↓p_isTi, ↓p_isLn, ↓p_isTn, ↓p_isSn, ↓p_isNb, ↓p_isNs, ↓p_isNt, ↓p_isNl, ↓p_isNp, ↓p_eqTT, ↓p_eqTF, ↓p_eqFT, ↓p_eqFF, ↓p_neTT, ↓p_neTF, ↓p_neFT, ↓p_neFF, ↓p_eqBs, ↓p_eqSs, ↓p_eqIs, ↓w_chain4, ↓p_lrg1, ↓p_lrg2, ↓p_maxL, ↓p_maxl, ↓p_minL, ↓p_minl, ↓w_getE, ↓w_emptyK, ↓w_emptyT, ↓p_dixi, ↓p_dixs, ↓p_dini, ↓p_dins, ↓p_dgi, ↓p_dgs, ↓p_dputi, ↓p_dputs, ↓p_extA, ↓p_extAl, p_extAS, p_extASl, ↓w_bor, fl_b, fl_i, fl_n, fl_s, ↓w_enumA, ↓enma_l, ↓enma_t, ↓enma_o, eq_self, ↓w_strM, ↓sv_s, ↓p_eqS, ↓p_neS, ↓p_isTp, ↓p_lenp, ↓itm_p, ↓p_neBs, line_racks, racks_line, ↓p_sub, ↓p_add, ↓p_ipadd, ↓p_mul, ↓p_div, ↓p_mod, ↓p_pow, ↓p_neg, ↓p_eq, ↓p_ne, ↓p_lt, ↓p_gt, ↓p_le, ↓p_ge, ↓p_max, ↓p_min, ↓p_abs, ↓p_intI, ↓p_intB, ↓p_isaI, ↓p_isaB, ↓p_isaNI, ↓p_isNI, ↓p_isNN, ↓p_isNo, ↓p_eqo, ↓p_neo, ↓p_divmod, ↓p_catL, ↓p_catLl, ↓p_catlL, ↓p_catll, ↓p_len, ↓p_lenl, ↓p_lent, ↓p_list, ↓p_listl, ↓p_listt, ↓p_tuple, ↓p_tuplel, ↓p_tuplet, ↓p_rev, ↓p_revl, ↓p_ix, ↓p_ixl, ↓p_ixt, ↓p_append, ↓p_reverse, ↓p_sum, ↓p_suml, ↓p_any, ↓p_all, ↓p_eqLL, ↓p_eqLl, ↓p_eqlL, ↓p_eqll, ↓p_eqL0, ↓p_eql0, ↓p_neLL, ↓p_neLl, ↓p_nelL, ↓p_nell, ↓p_neL0, ↓p_nel0,
  ↓gp_cells, ↓gp_turn, ↓put_turn, ↓put_cells, ↓putP_top, wipeE, lv_0, lv_s,
  List.set_cons_zero, List.set_cons_succ, List.length_cons, List.length_nil, List.map_cons, List.map_nil, finR, List.replicate, List.replicate_succ, List.replicate_zero, List.cons_append, List.nil_append, true_and, and_true, List.tail_cons, List.head?_cons, Option.join_some, List.contains_nil, Bool.false_eq_true, if_false, if_true, List.all_nil, and_self, Int.reduceToNat, Int.reducePow, Nat.reduceSub, Nat.reduceAdd, Int.reduceAdd, Int.reduceMul, Int.reduceSub, Int.reduceNeg, Int.reduceLT, Int.reduceLE, Int.natAbs, Nat.reduceLT, Nat.reduceLeDiff, Nat.reducePow])
local macro_rules | `(tactic| walk_at "mv1") => `(tactic| try simp only [↓ok_t, ↓ok_l, ↓nxt_nx, ↓nxt_rt, ↓w_seq, ↓fin_rt, ↓fin_nx, ↓lpk_nx, ↓lpk_ct, ↓lpk_bk, ↓lpk_rt, wipeE, List.set_cons_zero, List.set_cons_succ, true_and, and_true])
local macro_rules | `(tactic| walk_at "mvs") => `(tactic| try simp only [↓sl_0, ↓sl_s, ↓fr_leaf, ↓fr_ls, ↓ok_t, ↓ok_l, ↓nxt_nx, ↓nxt_rt, ↓w_seq, ↓fin_rt, ↓fin_nx, ↓lpk_nx, ↓lpk_ct, ↓lpk_bk, ↓lpk_rt, wipeE, List.set_cons_zero, List.set_cons_succ, true_and, and_true])
local macro_rules | `(tactic| walk_at "mvp") => `(tactic| try simp only [↓w_cst, ↓w_var, ↓w_mv, ↓w_fz, ↓w_frz, ↓w_bin, ↓w_un, ↓w_binV, ↓w_if, ↓w_asB, ↓w_yes, ↓w_not, ↓w_and, ↓w_or, ↓w_andE, ↓w_orE, ↓w_notE, ↓w_chain, ↓w_nil, ↓w_cons, ↓w_tup, ↓w_lst, ↓w_pl, ↓w_mut, ↓w_c0, ↓w_ce, ↓w_cv, ↓w_call', ↓wb_0, ↓wb_e, ↓wb_v, wb_e', ↓wo_leaf, ↓wo_ls, ↓wo_dic, ↓wo_dct, ↓wo_st, ↓wo_s, own_0, own_s, oi_0, oi_e, oi_v, isl_st, isl_leaf, isl_ls, Bool.not_false, Bool.not_true, List.nodup_cons, List.nodup_nil, List.not_mem_nil, not_false_eq_true, ↓w_seq, ↓w_skip, ↓w_brk, ↓w_cont, ↓w_retN, ↓w_set, ↓w_drop, ↓w_ret, ↓w_retV, ↓w_fzS, ↓w_asg, ↓w_gN, ↓w_gT, ↓w_gNl, ↓w_gCn, ↓w_gSub, ↓w_par, ↓w_aug, ↓w_int, ↓w_slice, ↓w_rng1, ↓w_rng2, ↓w_seqI, ↓w_comp, ↓w_for,
  ↓sl_0, ↓sl_s, ↓fr_leaf, ↓fr_ls, ↓ok_t, ↓ok_l, ↓br_t, ↓br_f, decide_true, decide_false, Int.reduceEq, ↓bl_b, ↓il_b, ↓le_l, ↓gp_top, ↓cl_0, ↓cl_e, ↓cl_v, ↓nxt_nx, ↓nxt_rt, ↓nxt_bk, ↓nxt_ct, ↓sa_0, ↓sa_s, ↓rg1_i, ↓rg2_i, ↓itm_l, ↓itm_t, ↓itm_o, ↓fin_rt, ↓fin_nx, ↓lpk_nx, ↓lpk_ct, ↓lpk_bk, ↓lpk_rt, ↓wcl_nil, ↓wf_nil,
  ↓w_enum, ↓w_zip, ↓enm_l, ↓enm_o, ↓zp_ll, ↓zp_lo, ↓zp_ol, ↓zp_oo, ↓zp_tt, ↓p_isLTi, ↓p_isLTn, ↓p_isSi, ↓p_isBn, ↓p_extend, p_extendS, p_appendS, List.isEmpty_nil, ↓w_dicO, ↓dicO_list, zip_cc, zip_nn, ↓at_0, ↓at_1, ↓at_2, ↓at_3, ↓at_4, p_insertS, ↓p_mulO, ↓p_repB, ↓p_rep0, ↓p_rep1, ↓w_while, ↓p_insert, ↓at_last, ↓put_last, ↓p_inl, ↓p_inL, ↓p_ninl, ↓p_ninL, ↓p_eqP0, ↓p_neP0, ↓p_neA, ↓p_eq00, ↓p_ne00, ↓p_ixp0, ↓p_ixp1, ↓w_gTp, ↓p_isLTb, ↓p_isLTs, ↓p_isIb, ↓p_isBb, ↓p_isSb, ↓p_isLb, ↓p_isTb, ↓p_isIs, ↓p_isBs, ↓p_isSs, ↓p_isLs, ↓p_isTs, ↓p_isLi, ↓p_isTi, ↓p_isLn, ↓p_isTn, ↓p_isSn, ↓p_isNb, ↓p_isNs, ↓p_isNt, ↓p_isNl, ↓p_isNp, ↓p_eqTT, ↓p_eqTF, ↓p_eqFT, ↓p_eqFF, ↓p_neTT, ↓p_neTF, ↓p_neFT, ↓p_neFF, ↓p_eqBs, ↓p_eqSs, ↓p_eqIs, ↓w_chain4, ↓p_lrg1, ↓p_lrg2, ↓p_maxL, ↓p_maxl, ↓p_minL, ↓p_minl, ↓w_getE, ↓w_emptyK, ↓w_emptyT, ↓p_dixi, ↓p_dixs, ↓p_dini, ↓p_dins, ↓p_dgi, ↓p_dgs, ↓p_dputi, ↓p_dputs, ↓p_extA, ↓p_extAl, p_extAS, p_extASl, ↓w_bor, fl_b, fl_i, fl_n, fl_s, ↓w_enumA, ↓enma_l, ↓enma_t, ↓enma_o, eq_self, ↓w_strM, ↓sv_s, ↓p_eqS, ↓p_neS, ↓p_isTp, ↓p_lenp, ↓itm_p, ↓p_neBs, line_racks, racks_line, ↓p_sub, ↓p_add, ↓p_ipadd, ↓p_mul, ↓p_div, ↓p_mod, ↓p_pow, ↓p_neg, ↓p_eq, ↓p_ne, ↓p_lt, ↓p_gt, ↓p_le, ↓p_ge, ↓p_max, ↓p_min, ↓p_abs, ↓p_intI, ↓p_intB, ↓p_isaI, ↓p_isaB, ↓p_isaNI, ↓p_isNI, ↓p_isNN, ↓p_isNo, ↓p_eqo, ↓p_neo, ↓p_divmod, ↓p_catL, ↓p_catLl, ↓p_catlL, ↓p_catll, ↓p_len, ↓p_lenl, ↓p_lent, ↓p_list, ↓p_listl, ↓p_listt, ↓p_tuple, ↓p_tuplel, ↓p_tuplet, ↓p_rev, ↓p_revl, ↓p_ix, ↓p_ixl, ↓p_ixt, ↓p_append, ↓p_reverse, ↓p_sum, ↓p_suml, ↓p_any, ↓p_all, ↓p_eqLL, ↓p_eqLl, ↓p_eqlL, ↓p_eqll, ↓p_eqL0, ↓p_eql0, ↓p_neLL, ↓p_neLl, ↓p_nelL, ↓p_nell, ↓p_neL0, ↓p_nel0,
  ↓gp_cells, ↓gp_turn, ↓put_turn, ↓put_cells, ↓putP_top, wipeE, lv_0, lv_s,
  List.set_cons_zero, List.set_cons_succ, List.length_cons, List.length_nil, List.map_cons, List.map_nil, finR, List.replicate, List.replicate_succ, List.replicate_zero, List.cons_append, List.nil_append, true_and, and_true, List.tail_cons, List.head?_cons, Option.join_some, List.contains_nil, Bool.false_eq_true, if_false, if_true, List.all_nil, and_self, Int.reduceToNat, Int.reducePow, Nat.reduceSub, Nat.reduceAdd, Int.reduceAdd, Int.reduceMul, Int.reduceSub, Int.reduceNeg, Int.reduceLT, Int.reduceLE, Int.natAbs, Nat.reduceLT, Nat.reduceLeDiff, Nat.reducePow])
def HRow (t : D) (r : MRow) : Prop := ∃ o, t = .tuple [.str r.1, o] ∧ SqP o r.2
theorem hrow_mk {r : MRow} : HRow (mkD r) r := ⟨_, rfl, .inl rfl⟩
def RowsOk (rows : List MRow) : Prop := rows.length ≤ 10 ∧ ∀ r ∈ rows, r.2.length ≤ 100
theorem fm100 {rows : List MRow} (h : ∀ r ∈ rows, r.2.length ≤ 100) {m : Str} : ((rows.filter fun p => decide (p.1 = m)).flatMap (·.2)).length ≤ 100 * rows.length := by
  induction rows with
  | nil => simp
  | cons a r ih =>
    have h1 := h a List.mem_cons_self
    have h2 := ih fun q hq => h q (List.mem_cons_of_mem _ hq)
    rw [List.filter_cons]
    split
    · rw [List.flatMap_cons, List.length_append, List.length_cons]
      omega
    · rw [List.length_cons]
      omega
theorem mkS_len {rows : List MRow} (h : RowsOk rows) {m : Str} : (mkS rows m).length ≤ 1000 := by
  have h1 := (setOf_ok ((rows.filter fun p => decide (p.1 = m)).flatMap (·.2))).2.2
  have h2 := fm100 h.2 (m := m)
  have h3 := h.1
  unfold mkS
  omega
theorem marked {ol : D} {hrs : List (D × MRow)} {m : Str} (hol : ol = .list (hrs.map (·.1)) ∨ ol = .tuple (hrs.map (·.1))) (hr : ∀ y ∈ hrs, HRow y.1 y.2) (ok : RowsOk (hrs.map (·.2))) {Q : O → List (Option O) → Prop} (k : ∀ os, Q (.ls ((mkS (hrs.map (·.2)) m).map pD)) os) : Wd g_tins_marked [.leaf ol, .leaf (.str m)] Q := by
  unfold g_tins_marked
  rw [w_def]
  unfold b_tins_marked
  walk_at "mv"
  rw [itm_of hol]
  refine wf_fold (I := fun r e => ∃ (done : List (D × MRow)) (x1 x2 : Option O), e = [some (.leaf ol), some (.leaf (.str m)), some (.ls ((((done.map (·.2)).filter fun p => decide (p.1 = m)).flatMap (·.2)).map pD)), x1, x2] ∧ done ++ r = hrs) (fun y r e hi => ?_) (fun e hi => ?_) ⟨[], _, _, rfl, rfl⟩
  · obtain ⟨done, x1, x2, rfl, h1⟩ := hi
    obtain ⟨t, a⟩ := y
    obtain ⟨o, ht, ho⟩ := hr (t, a) (by rw [← h1]; simp)
    simp only at ht ho
    subst ht
    have hd : done ++ [(PyData.tuple [.str a.1, o], a)] ++ r = hrs := by rw [List.append_assoc]; exact h1
    have hdl : (done.map (·.2)).length ≤ 10 := by
      have := ok.1
      rw [List.length_map] at this ⊢
      have := congrArg List.length h1
      rw [List.length_append] at this
      omega
    have hdm : ∀ r ∈ done.map (·.2), r.2.length ≤ 100 := fun q hq => ok.2 q (by
      rw [← h1, List.map_append]
      exact List.mem_append_left _ hq)
    have h3 := fm100 hdm (m := m)
    have h4 := ok.2 a (by rw [← h1]; simp)
    walk_at "mv"
    refine br (fun hc => ?_) fun hc => ?_
    · have ea : (((done ++ [(PyData.tuple [.str a.1, o], a)]).map (·.2)).filter fun p => decide (p.1 = m)).flatMap (·.2) = (((done.map (·.2)).filter fun p => decide (p.1 = m)).flatMap (·.2)) ++ a.2 := by
        rw [List.map_append, List.filter_append, List.flatMap_append]
        simp [hc]
      walk_at "mv"
      refine ⟨p_extASe ho.seq (by rw [List.length_map, List.length_map]; omega), p_extAe ho.seq (by rw [List.length_map, List.length_map]; omega) ?_⟩
      walk_at "mv"
      exact ⟨done ++ [(PyData.tuple [.str a.1, o], a)], _, _, by rw [ea, List.map_append], hd⟩
    · have ea : (((done ++ [(PyData.tuple [.str a.1, o], a)]).map (·.2)).filter fun p => decide (p.1 = m)).flatMap (·.2) = (((done.map (·.2)).filter fun p => decide (p.1 = m)).flatMap (·.2)) := by
        rw [List.map_append, List.filter_append, List.flatMap_append]
        simp [hc]
      walk_at "mv"
      exact ⟨done ++ [(PyData.tuple [.str a.1, o], a)], _, _, by rw [ea], hd⟩
  · obtain ⟨done, x1, x2, rfl, h1⟩ := hi
    rw [List.append_nil] at h1
    subst h1
    have h3 := fm100 ok.2 (m := m)
    have h4 := ok.1
    walk_at "mv"
    refine pset_of (.inl rfl) (by omega) fun os => ?_
    walk_at "mv"
    exact k _
theorem cases_at {sz : Int} {q : Pa × Int} {l : List Rg} (hs : 0 < sz) (hs2 : sz < 1000000000000000000000000000000000000000000000000000) (hl : l.length ≤ 100000) {Q : O → List (Option O) → Prop} (k : ∀ os, Q (.ls ((l.map (shC sz q)).map pD)) os) :
    Wd g_cases_at [.leaf (.int sz), .leaf (.int q.2), .leaf (.int q.1.f), .leaf (.list (l.map pD))] Q := by
  unfold g_cases_at
  rw [w_def]
  unfold b_cases_at
  walk_at "mv"
  refine ⟨by rw [List.length_map]; omega, ?_⟩
  refine wcl_map (p := fun _ => true) (g := fun r => pD (shC sz q r)) (fun r hr => ?_) ?_
  · simp only [pD, shC]
    walk_at "mv"
    exact divOk hs (by omega)
  · rw [List.filter_eq_self.mpr fun _ _ => rfl]
    have e : l.map (fun r => pD (shC sz q r)) = (l.map (shC sz q)).map pD := by rw [List.map_map]; rfl
    rw [e]
    walk_at "mv"
    exact k _
theorem fmL {α : Type} {l : List α} {g : α → List Rg} {n : Nat} (h : ∀ a ∈ l, (g a).length ≤ n) : (l.flatMap g).length ≤ n * l.length := by
  induction l with
  | nil => simp
  | cons a r ih =>
    have h1 := h a List.mem_cons_self
    have h2 := ih fun q hq => h q (List.mem_cons_of_mem _ hq)
    rw [List.flatMap_cons, List.length_append, List.length_cons, Nat.mul_add]
    omega
theorem cases_with {t ol : D} {nm : Str} {sz B : Int} {ps : List Pa} {hrs : List (D × MRow)} (h : HPk t nm sz ps) (hl : ps.length ≤ 50) (hg : ∀ p ∈ ps, GoodPa B p) (hs : 0 < sz) (hs2 : sz < 1000000000000000000000000000000000000000000000000000)
    (hol : ol = .list (hrs.map (·.1)) ∨ ol = .tuple (hrs.map (·.1))) (hr : ∀ y ∈ hrs, HRow y.1 y.2) (ok : RowsOk (hrs.map (·.2))) {Q : O → List (Option O) → Prop} (k : ∀ os, Q (.ls ((setOf (cwL sz (plR ps 0) (hrs.map (·.2)))).map pD)) os) : Wd g_cases_with [.leaf t, .leaf ol] Q := by
  have hbl : ∀ q ∈ plR ps 0, ((bo [(q.1.f, q.1.l)] (mkS (hrs.map (·.2)) q.1.k)).map (shC sz q)).length ≤ 1001 := fun q hq => by
    have h1 := (hg _ (plR_mem hg hq).1).2.1
    have h2 := (bo_ok (cn_one h1) (mkS_cn (rows := hrs.map (·.2)) (m := q.1.k))).2.2
    have h3 := mkS_len ok (m := q.1.k)
    rw [List.length_map]
    simp only [List.length_cons, List.length_nil] at h2
    omega
  unfold g_cases_with
  rw [w_def]
  unfold b_cases_with
  walk_at "mv"
  refine places (B := B) h (by omega) fun os => ?_
  walk_at "mv"
  refine wf_fold (I := fun r e => ∃ (done : List (Pa × Int)) (x1 x2 x3 x4 x5 : Option O), e = [some (.leaf t), some (.leaf ol), some (.ls ((cwL sz done (hrs.map (·.2))).map pD)), x1, x2, x3, x4, x5] ∧ done ++ r = plR ps 0) (fun q r e hi => ?_) (fun e hi => ?_) ⟨[], _, _, _, _, _, rfl, rfl⟩
  · obtain ⟨done, x1, x2, x3, x4, x5, rfl, h1⟩ := hi
    have hqm : q ∈ plR ps 0 := by rw [← h1]; simp
    have hqf := (hg _ (plR_mem hg hqm).1).2.1
    have hdl : done.length ≤ 50 := by
      have := congrArg List.length h1
      rw [List.length_append, plR_len] at this
      omega
    have hd : done ++ [q] ++ r = plR ps 0 := by rw [List.append_assoc]; exact h1
    have hL := fmL (l := done) (g := fun q => (bo [(q.1.f, q.1.l)] (mkS (hrs.map (·.2)) q.1.k)).map (shC sz q)) (n := 1001) fun a ha => hbl a (by rw [← h1]; simp [ha])
    have hL2 := hbl q hqm
    have h3 := mkS_len ok (m := q.1.k)
    have hL3 : (cwL sz done (hrs.map (·.2))).length ≤ 1001 * done.length := hL
    have ea : cwL sz (done ++ [q]) (hrs.map (·.2)) = cwL sz done (hrs.map (·.2)) ++ (bo [(q.1.f, q.1.l)] (mkS (hrs.map (·.2)) q.1.k)).map (shC sz q) := by
      unfold cwL
      rw [List.flatMap_append, List.flatMap_cons, List.flatMap_nil, List.append_nil]
    have ea2 : (cwL sz (done ++ [q]) (hrs.map (·.2))).map pD = (cwL sz done (hrs.map (·.2))).map pD ++ ((bo [(q.1.f, q.1.l)] (mkS (hrs.map (·.2)) q.1.k)).map (shC sz q)).map pD := by rw [ea, List.map_append]
    simp only [plT]
    walk_at "mv"
    refine marked hol hr ok fun os => ?_
    walk_at "mv"
    refine pboth (o := .list [.tuple [.int q.1.f, .int q.1.l]]) (ps := [(q.1.f, q.1.l)]) (.inl rfl) (.inl rfl) (cn_one hqf) mkS_cn (by simp only [List.length_cons, List.length_nil]; omega) fun os => ?_
    walk_at "mv"
    rw [hpk_ix1 h]
    walk_at "mv"
    rw [List.length_map] at hL2
    refine cases_at (q := q) hs hs2 (by omega) fun os => ?_
    walk_at "mv"
    rw [List.length_map, List.length_map, List.length_map]
    exact ⟨by omega, by omega, done ++ [q], some (.leaf (.str q.1.k)), some (.leaf (.int q.1.f)), some (.leaf (.int q.1.l)), some (.leaf (.int q.2)), _, by rw [ea2], hd⟩
  · obtain ⟨done, x1, x2, x3, x4, x5, rfl, h1⟩ := hi
    rw [List.append_nil] at h1
    subst h1
    have hL := fmL (l := plR ps 0) (g := fun q => (bo [(q.1.f, q.1.l)] (mkS (hrs.map (·.2)) q.1.k)).map (shC sz q)) (n := 1001) hbl
    have hL3 : (cwL sz (plR ps 0) (hrs.map (·.2))).length ≤ 1001 * (plR ps 0).length := hL
    rw [plR_len] at hL3
    walk_at "mv"
    refine pset_of (.inl rfl) (by omega) fun os => ?_
    walk_at "mv"
    exact k _
theorem cases_all {t ol : D} {nm : Str} {sz B : Int} {ps : List Pa} {hrs : List (D × MRow)} (h : HPk t nm sz ps) (hl : ps.length ≤ 50) (hg : ∀ p ∈ ps, GoodPa B p) (hs : 0 < sz) (hs2 : sz < 1000000000000000000000000000000000000000000000000000)
    (hol : ol = .list (hrs.map (·.1)) ∨ ol = .tuple (hrs.map (·.1))) (hr : ∀ y ∈ hrs, HRow y.1 y.2) (ok : RowsOk (hrs.map (·.2))) {Q : O → List (Option O) → Prop} (k : ∀ os, Q (.ls ((wo (setOf [(0, (paSum ps + sz - 1) / sz - 1)]) (setOf (caL sz (plR ps 0) (hrs.map (·.2))))).map pD)) os) : Wd g_cases_all [.leaf t, .leaf ol] Q := by
  have hbl : ∀ q ∈ plR ps 0, ((wo [(q.1.f, q.1.l)] (mkS (hrs.map (·.2)) q.1.k)).map (shC sz q)).length ≤ 1001 := fun q hq => by
    have h1 := (hg _ (plR_mem hg hq).1).2.1
    have h2 := (wo_ok (mkS_cn (rows := hrs.map (·.2)) (m := q.1.k)) (cn_one h1)).2.2
    have h3 := mkS_len ok (m := q.1.k)
    rw [List.length_map]
    simp only [List.length_cons, List.length_nil] at h2
    omega
  unfold g_cases_all
  rw [w_def]
  unfold b_cases_all
  walk_at "mv"
  refine places (B := B) h (by omega) fun os => ?_
  walk_at "mv"
  refine wf_fold (I := fun r e => ∃ (done : List (Pa × Int)) (x1 x2 x3 x4 x5 : Option O), e = [some (.leaf t), some (.leaf ol), some (.ls ((caL sz done (hrs.map (·.2))).map pD)), x1, x2, x3, x4, x5] ∧ done ++ r = plR ps 0) (fun q r e hi => ?_) (fun e hi => ?_) ⟨[], _, _, _, _, _, rfl, rfl⟩
  · obtain ⟨done, x1, x2, x3, x4, x5, rfl, h1⟩ := hi
    have hqm : q ∈ plR ps 0 := by rw [← h1]; simp
    have hqf := (hg _ (plR_mem hg hqm).1).2.1
    have hdl : done.length ≤ 50 := by
      have := congrArg List.length h1
      rw [List.length_append, plR_len] at this
      omega
    have hd : done ++ [q] ++ r = plR ps 0 := by rw [List.append_assoc]; exact h1
    have hL := fmL (l := done) (g := fun q => (wo [(q.1.f, q.1.l)] (mkS (hrs.map (·.2)) q.1.k)).map (shC sz q)) (n := 1001) fun a ha => hbl a (by rw [← h1]; simp [ha])
    have hL2 := hbl q hqm
    have h3 := mkS_len ok (m := q.1.k)
    have hL3 : (caL sz done (hrs.map (·.2))).length ≤ 1001 * done.length := hL
    have ea : caL sz (done ++ [q]) (hrs.map (·.2)) = caL sz done (hrs.map (·.2)) ++ (wo [(q.1.f, q.1.l)] (mkS (hrs.map (·.2)) q.1.k)).map (shC sz q) := by
      unfold caL
      rw [List.flatMap_append, List.flatMap_cons, List.flatMap_nil, List.append_nil]
    have ea2 : (caL sz (done ++ [q]) (hrs.map (·.2))).map pD = (caL sz done (hrs.map (·.2))).map pD ++ ((wo [(q.1.f, q.1.l)] (mkS (hrs.map (·.2)) q.1.k)).map (shC sz q)).map pD := by rw [ea, List.map_append]
    simp only [plT]
    walk_at "mv"
    refine marked hol hr ok fun os => ?_
    walk_at "mv"
    refine pwithout (o := .list [.tuple [.int q.1.f, .int q.1.l]]) (ps := [(q.1.f, q.1.l)]) (.inl rfl) (.inl rfl) (cn_one hqf) mkS_cn (by simp only [List.length_cons, List.length_nil]; omega) fun os => ?_
    walk_at "mv"
    rw [hpk_ix1 h]
    walk_at "mv"
    rw [List.length_map] at hL2
    refine cases_at (q := q) hs hs2 (by omega) fun os => ?_
    walk_at "mv"
    rw [List.length_map, List.length_map, List.length_map]
    exact ⟨by omega, by omega, done ++ [q], some (.leaf (.str q.1.k)), some (.leaf (.int q.1.f)), some (.leaf (.int q.1.l)), some (.leaf (.int q.2)), _, by rw [ea2], hd⟩
  · obtain ⟨done, x1, x2, x3, x4, x5, rfl, h1⟩ := hi
    rw [List.append_nil] at h1
    subst h1
    have hL := fmL (l := plR ps 0) (g := fun q => (wo [(q.1.f, q.1.l)] (mkS (hrs.map (·.2)) q.1.k)).map (shC sz q)) (n := 1001) hbl
    have hL3 : (caL sz (plR ps 0) (hrs.map (·.2))).length ≤ 1001 * (plR ps 0).length := hL
    rw [plR_len] at hL3
    have s1 := (setOf_ok [((0 : Int), (paSum ps + sz - 1) / sz - 1)])
    have s2 := (setOf_ok (caL sz (plR ps 0) (hrs.map (·.2))))
    have hmul : (setOf [((0 : Int), (paSum ps + sz - 1) / sz - 1)]).length * ((setOf (caL sz (plR ps 0) (hrs.map (·.2)))).length + 1) ≤ 1000000 := by
      have z1 := s1.2.2
      have z2 := s2.2.2
      simp only [List.length_cons, List.length_nil] at z1
      have := Nat.mul_le_mul z1 (Nat.le_refl ((setOf (caL sz (plR ps 0) (hrs.map (·.2)))).length + 1))
      omega
    walk_at "mv"
    refine cases_n h (by omega) hs hs2 fun os => ?_
    walk_at "mv"
    refine pset_of (o := .list [.tuple [.int 0, .int ((paSum ps + sz - 1) / sz - 1)]]) (ps := [(0, (paSum ps + sz - 1) / sz - 1)]) (.inl rfl) (by simp) fun os => ?_
    walk_at "mv"
    refine pset_of (.inl rfl) (by omega) fun os => ?_
    walk_at "mv"
    refine pwithout (.inl rfl) (.inl rfl) s1.1 s2.1 hmul fun os => ?_
    walk_at "mv"
    exact k _

end L26
end

set_option Elab.async false
set_option linter.all false
set_option maxRecDepth 100000
set_option maxHeartbeats 4000000
noncomputable section
namespace L26
open PySem PySem.Spec PyProof.Rows L2 Mv
local macro_rules | `(tactic| walk_at "mv") => `(tactic| try simp only [↓w_cst, ↓w_var, ↓w_mv, ↓w_fz, ↓w_frz, ↓w_bin, ↓w_un, ↓w_binV, ↓w_if, ↓w_asB, ↓w_yes, ↓w_not, ↓w_and, ↓w_or, ↓w_andE, ↓w_orE, ↓w_notE, ↓w_chain, ↓w_nil, ↓w_cons, ↓w_tup, ↓w_lst, ↓w_pl, ↓w_mut, ↓w_c0, ↓w_ce, ↓w_cv, ↓w_call', ↓wb_0, ↓wb_e, ↓wb_v, wb_e', ↓wo_leaf, ↓wo_ls, ↓wo_dic, ↓wo_dct, ↓wo_st, ↓wo_s, own_0, own_s, oi_0, oi_e, oi_v, isl_st, isl_leaf, isl_ls, Bool.not_false, Bool.not_true, List.nodup_cons, List.nodup_nil, List.not_mem_nil, not_false_eq_true, ↓w_seq, ↓w_skip, ↓w_brk, ↓w_cont, ↓w_retN, ↓w_set, ↓w_drop, ↓w_ret, ↓w_retV, ↓w_ifS, ↓w_fzS, ↓w_asg, ↓w_gN, ↓w_gT, ↓w_gNl, ↓w_gCn, ↓w_gSub, ↓w_par, ↓w_aug, ↓w_int, ↓w_slice, ↓w_rng1, ↓w_rng2, ↓w_seqI, ↓w_comp, ↓w_for,
  ↓sl_0, ↓sl_s, ↓fr_leaf, ↓fr_ls, ↓ok_t, ↓ok_l, ↓br_t, ↓br_f, decide_true, decide_false, Int.reduceEq, ↓bl_b, ↓il_b, ↓le_l, ↓gp_top, ↓cl_0, ↓cl_e, ↓cl_v, ↓nxt_nx, ↓nxt_rt, ↓nxt_bk, ↓nxt_ct, ↓sa_0, ↓sa_s, ↓rg1_i, ↓rg2_i, ↓itm_l, ↓itm_t, ↓itm_o, ↓fin_rt, ↓fin_nx, ↓lpk_nx, ↓lpk_ct, ↓lpk_bk, ↓lpk_rt, ↓wcl_nil, ↓wf_nil,
  ↓w_enum, ↓w_zip, ↓enm_l, ↓enm_o, ↓zp_ll, ↓zp_lo, ↓zp_ol, ↓zp_oo, ↓zp_tt, ↓p_isLTi, ↓p_isLTn, ↓p_isSi, ↓p_isBn, ↓p_extend, p_extendS, p_appendS, List.isEmpty_nil, ↓w_dicO, ↓dicO_list, zip_cc, zip_nn, ↓at_0, ↓at_1, ↓at_2, ↓at_3, ↓at_4, p_insertS, ↓p_mulO, ↓p_repB, ↓p_rep0, ↓p_rep1, ↓w_while, ↓p_insert, ↓at_last, ↓put_last, ↓p_inl, ↓p_inL, ↓p_ninl, ↓p_ninL, ↓p_eqP0, ↓p_neP0, ↓p_neA, ↓p_eq00, ↓p_ne00, ↓p_ixp0, ↓p_ixp1, ↓w_gTp, ↓p_isLTb, ↓p_isLTs, ↓p_isIb, ↓p_isBb, ↓p_isSb, ↓p_isLb, ↓p_isTb, ↓p_isIs, ↓p_isBs, ↓p_isSs, ↓p_isLs, ↓p_isTs, ↓p_isLi, ↓p_isTi, ↓p_isLn, ↓p_isTn, ↓p_isSn, ↓p_isNb, ↓p_isNs, ↓p_isNt, ↓p_isNl, ↓p_isNp, ↓p_eqTT, ↓p_eqTF, ↓p_eqFT, ↓p_eqFF, ↓p_neTT, ↓p_neTF, ↓p_neFT, ↓p_neFF, ↓p_eqBs, ↓p_eqSs, ↓p_eqIs, ↓w_chain4, ↓p_lrg1, ↓p_lrg2, ↓p_maxL, ↓p_maxl, ↓p_minL, ↓p_minl, ↓w_getE, ↓w_emptyK, ↓w_emptyT, ↓p_dixi, ↓p_dixs, ↓p_dini, ↓p_dins, ↓p_dgi, ↓p_dgs, ↓p_dputi, ↓p_dputs, ↓p_extA, ↓p_extAl, p_extAS, p_extASl, ↓w_bor, fl_b, fl_i, fl_n, fl_s, ↓w_enumA, ↓enma_l, ↓enma_t, ↓enma_o, eq_self, ↓w_strM, ↓sv_s, ↓p_eqS, ↓p_neS, ↓p_isTp, ↓p_lenp, ↓itm_p, ↓p_neBs, line_racks, racks_line, ↓p_sub, ↓p_add, ↓p_ipadd, ↓p_mul, ↓p_div, ↓p_mod, ↓p_pow, ↓p_neg, ↓p_eq, ↓p_ne, ↓p_lt, ↓p_gt, ↓p_le, ↓p_ge, ↓p_max, ↓p_min, ↓p_abs, ↓p_intI, ↓p_intB, ↓p_isaI, ↓p_isaB, ↓p_isaNI, ↓p_isNI, ↓p_isNN, ↓p_isNo, ↓p_eqo, ↓p_neo, ↓p_divmod, ↓p_catL, ↓p_catLl, ↓p_catlL, ↓p_catll, ↓p_len, ↓p_lenl, ↓p_lent, ↓p_list, ↓p_listl, ↓p_listt, ↓p_tuple, ↓p_tuplel, ↓p_tuplet, ↓p_rev, ↓p_revl, ↓p_ix, ↓p_ixl, ↓p_ixt, ↓p_append, ↓p_reverse, ↓p_sum, ↓p_suml, ↓p_any, ↓p_all, ↓p_eqLL, ↓p_eqLl, ↓p_eqlL, ↓p_eqll, ↓p_eqL0, ↓p_eql0, ↓p_neLL, ↓p_neLl, ↓p_nelL, ↓p_nell, ↓p_neL0, ↓p_nel0,
  ↓gp_cells, ↓gp_turn, ↓put_turn, ↓put_cells, ↓putP_top, wipeE, lv_0, lv_s,
  List.set_cons_zero, List.set_cons_succ, List.length_cons, List.length_nil, List.map_cons, List.map_nil, finR, List.replicate, List.replicate_succ, List.replicate_zero, List.cons_append, List.nil_append, true_and, and_true, List.tail_cons, List.head?_cons, Option.join_some, List.contains_nil, Bool.false_eq_true, if_false, if_true, List.all_nil, and_self, Int.reduceToNat, Int.reducePow, Nat.reduceSub, Nat.reduceAdd, Int.reduceAdd, Int.reduceMul, Int.reduceSub, Int.reduceNeg, Int.reduceLT, Int.reduceLE, Int.natAbs, Nat.reduceLT, Nat.reduceLeDiff, Nat.reducePow])
local macro_rules | `(tactic| walk_at "mve") => `(tactic| try simp only [↓w_cst, ↓w_var, ↓w_mv, ↓w_fz, ↓w_frz, ↓w_bin, ↓w_un, ↓w_binV, ↓w_asB, ↓w_yes, ↓w_not, ↓w_and, ↓w_or, ↓w_andE, ↓w_orE, ↓w_notE, ↓w_chain, ↓w_nil, ↓w_cons, ↓w_tup, ↓w_lst, ↓w_pl, ↓w_mut, ↓w_c0, ↓w_ce, ↓w_cv, ↓w_call', ↓wb_0, ↓wb_e, ↓wb_v, wb_e', ↓wo_leaf, ↓wo_ls, ↓wo_dic, ↓wo_dct, ↓wo_st, ↓wo_s, own_0, own_s, oi_0, oi_e, oi_v, isl_st, isl_leaf, isl_ls, Bool.not_false, Bool.not_true, List.nodup_cons, List.nodup_nil, List.not_mem_nil, not_false_eq_true, ↓w_seq, ↓w_skip, ↓w_brk, ↓w_cont, ↓w_retN, ↓w_set, ↓w_drop, ↓w_ret, ↓w_retV, ↓w_ifS, ↓w_fzS, ↓w_asg, ↓w_gN, ↓w_gT, ↓w_gNl, ↓w_gCn, ↓w_gSub, ↓w_par, ↓w_aug, ↓w_int, ↓w_slice, ↓w_rng1, ↓w_rng2, ↓w_seqI, ↓w_comp, ↓w_for,
  ↓sl_0, ↓sl_s, ↓fr_leaf, ↓fr_ls, ↓ok_t, ↓ok_l, ↓br_t, ↓br_f, decide_true, decide_false, Int.reduceEq, ↓bl_b, ↓il_b, ↓le_l, ↓gp_top, ↓cl_0, ↓cl_e, ↓cl_v, ↓nxt_nx, ↓nxt_rt, ↓nxt_bk, ↓nxt_ct, ↓sa_0, ↓sa_s, ↓rg1_i, ↓rg2_i, ↓itm_l, ↓itm_t, ↓itm_o, ↓fin_rt, ↓fin_nx, ↓lpk_nx, ↓lpk_ct, ↓lpk_bk, ↓lpk_rt, ↓wcl_nil, ↓wf_nil,
  ↓w_enum, ↓w_zip, ↓enm_l, ↓enm_o, ↓zp_ll, ↓zp_lo, ↓zp_ol, ↓zp_oo, ↓zp_tt, ↓p_isLTi, ↓p_isLTn, ↓p_isSi, ↓p_isBn, ↓p_extend, p_extendS, p_appendS, List.isEmpty_nil, ↓w_dicO, ↓dicO_list, zip_cc, zip_nn, ↓at_0, ↓at_1, ↓at_2, ↓at_3, ↓at_4, p_insertS, ↓p_mulO, ↓p_repB, ↓p_rep0, ↓p_rep1, ↓w_while, ↓p_insert, ↓at_last, ↓put_last, ↓p_inl, ↓p_inL, ↓p_ninl, ↓p_ninL, ↓p_eqP0, ↓p_neP0, ↓p_neA, ↓p_eq00, ↓p_ne00, ↓p_ixp0, ↓p_ixp1, ↓w_gTp, ↓p_isLTb, ↓p_isLTs, ↓p_isIb, ↓p_isBb, ↓p_isSb, ↓p_isLb, ↓p_isTb, ↓p_isIs, ↓p_isBs, ↓p_isSs, ↓p_isLs, ↓p_isTs, ↓p_isLi, ↓p_isTi, ↓p_isLn, ↓p_isTn, ↓p_isSn, ↓p_isNb, ↓p_isNs, ↓p_isNt, ↓p_isNl, ↓p_isNp, ↓p_eqTT, ↓p_eqTF, ↓p_eqFT, ↓p_eqFF, ↓p_neTT, ↓p_neTF, ↓p_neFT, ↓p_neFF, ↓p_eqBs, ↓p_eqSs, ↓p_eqIs, ↓w_chain4, ↓p_lrg1, ↓p_lrg2, ↓p_maxL, ↓p_maxl, ↓p_minL, ↓p_minl, ↓w_getE, ↓w_emptyK, ↓w_emptyT, ↓p_dixi, ↓p_dixs, ↓p_dini, ↓p_dins, ↓p_dgi, ↓p_dgs, ↓p_dputi, ↓p_dputs, ↓p_extA, ↓p_extAl, p_extAS, p_extASl, ↓w_bor, fl_b, fl_i, fl_n, fl_s, ↓w_enumA, ↓enma_l, ↓enma_t, ↓enma_o, eq_self, ↓w_strM, ↓sv_s, ↓p_eqS, ↓p_neS, ↓p_isTp, ↓p_lenp, ↓itm_p, ↓p_neBs, line_racks, racks_line, ↓p_sub, ↓p_add, ↓p_ipadd, ↓p_mul, ↓p_div, ↓p_mod, ↓p_pow, ↓p_neg, ↓p_eq, ↓p_ne, ↓p_lt, ↓p_gt, ↓p_le, ↓p_ge, ↓p_max, ↓p_min, ↓p_abs, ↓p_intI, ↓p_intB, ↓p_isaI, ↓p_isaB, ↓p_isaNI, ↓p_isNI, ↓p_isNN, ↓p_isNo, ↓p_eqo, ↓p_neo, ↓p_divmod, ↓p_catL, ↓p_catLl, ↓p_catlL, ↓p_catll, ↓p_len, ↓p_lenl, ↓p_lent, ↓p_list, ↓p_listl, ↓p_listt, ↓p_tuple, ↓p_tuplel, ↓p_tuplet, ↓p_rev, ↓p_revl, ↓p_ix, ↓p_ixl, ↓p_ixt, ↓p_append, ↓p_reverse, ↓p_sum, ↓p_suml, ↓p_any, ↓p_all, ↓p_eqLL, ↓p_eqLl, ↓p_eqlL, ↓p_eqll, ↓p_eqL0, ↓p_eql0, ↓p_neLL, ↓p_neLl, ↓p_nelL, ↓p_nell, ↓p_neL0, ↓p_nel0,
  ↓gp_cells, ↓gp_turn, ↓put_turn, ↓put_cells, ↓putP_top, wipeE, lv_0, lv_s,
  List.set_cons_zero, List.set_cons_succ, List.length_cons, List.length_nil, List.map_cons, List.map_nil, finR, List.replicate, List.replicate_succ, List.replicate_zero, List.cons_append, List.nil_append, true_and, and_true, List.tail_cons, List.head?_cons, Option.join_some, List.contains_nil, Bool.false_eq_true, if_false, if_true, List.all_nil, and_self, Int.reduceToNat, Int.reducePow, Nat.reduceSub, Nat.reduceAdd, Int.reduceAdd, Int.reduceMul, Int.reduceSub, Int.reduceNeg, Int.reduceLT, Int.reduceLE, Int.natAbs, Nat.reduceLT, Nat.reduceLeDiff, Nat.reducePow])
local macro_rules | `(tactic| walk_at "mv1") => `(tactic| try simp only [↓ok_t, ↓ok_l, ↓nxt_nx, ↓nxt_rt, ↓w_seq, ↓fin_rt, ↓fin_nx, ↓lpk_nx, ↓lpk_ct, ↓lpk_bk, ↓lpk_rt, wipeE, List.set_cons_zero, List.set_cons_succ, true_and, and_true])
local macro_rules | `(tactic| walk_at "mvs") => `(tactic| try simp only [↓sl_0, ↓sl_s, ↓fr_leaf, ↓fr_ls, ↓ok_t, ↓ok_l, ↓nxt_nx, ↓nxt_rt, ↓w_seq, ↓fin_rt, ↓fin_nx, ↓lpk_nx, ↓lpk_ct, ↓lpk_bk, ↓lpk_rt, wipeE, List.set_cons_zero, List.set_cons_succ, true_and, and_true])
local macro_rules | `(tactic| walk_at "mvp") => `(tactic| try simp only [↓w_cst, ↓w_var, ↓w_mv, ↓w_fz, ↓w_frz, ↓w_bin, ↓w_un, ↓w_binV, ↓w_if, ↓w_asB, ↓w_yes, ↓w_not, ↓w_and, ↓w_or, ↓w_andE, ↓w_orE, ↓w_notE, ↓w_chain, ↓w_nil, ↓w_cons, ↓w_tup, ↓w_lst, ↓w_pl, ↓w_mut, ↓w_c0, ↓w_ce, ↓w_cv, ↓w_call', ↓wb_0, ↓wb_e, ↓wb_v, wb_e', ↓wo_leaf, ↓wo_ls, ↓wo_dic, ↓wo_dct, ↓wo_st, ↓wo_s, own_0, own_s, oi_0, oi_e, oi_v, isl_st, isl_leaf, isl_ls, Bool.not_false, Bool.not_true, List.nodup_cons, List.nodup_nil, List.not_mem_nil, not_false_eq_true, ↓w_seq, ↓w_skip, ↓w_brk, ↓w_cont, ↓w_retN, ↓w_set, ↓w_drop, ↓w_ret, ↓w_retV, ↓w_fzS, ↓w_asg, ↓w_gN, ↓w_gT, ↓w_gNl, ↓w_gCn, ↓w_gSub, ↓w_par, ↓w_aug, ↓w_int, ↓w_slice, ↓w_rng1, ↓w_rng2, ↓w_seqI, ↓w_comp, ↓w_for,
  ↓sl_0, ↓sl_s, ↓fr_leaf, ↓fr_ls, ↓ok_t, ↓ok_l, ↓br_t, ↓br_f, decide_true, decide_false, Int.reduceEq, ↓bl_b, ↓il_b, ↓le_l, ↓gp_top, ↓cl_0, ↓cl_e, ↓cl_v, ↓nxt_nx, ↓nxt_rt, ↓nxt_bk, ↓nxt_ct, ↓sa_0, ↓sa_s, ↓rg1_i, ↓rg2_i, ↓itm_l, ↓itm_t, ↓itm_o, ↓fin_rt, ↓fin_nx, ↓lpk_nx, ↓lpk_ct, ↓lpk_bk, ↓lpk_rt, ↓wcl_nil, ↓wf_nil,
  ↓w_enum, ↓w_zip, ↓enm_l, ↓enm_o, ↓zp_ll, ↓zp_lo, ↓zp_ol, ↓zp_oo, ↓zp_tt, ↓p_isLTi, ↓p_isLTn, ↓p_isSi, ↓p_isBn, ↓p_extend, p_extendS, p_appendS, List.isEmpty_nil, ↓w_dicO, ↓dicO_list, zip_cc, zip_nn, ↓at_0, ↓at_1, ↓at_2, ↓at_3, ↓at_4, p_insertS, ↓p_mulO, ↓p_repB, ↓p_rep0, ↓p_rep1, ↓w_while, ↓p_insert, ↓at_last, ↓put_last, ↓p_inl, ↓p_inL, ↓p_ninl, ↓p_ninL, ↓p_eqP0, ↓p_neP0, ↓p_neA, ↓p_eq00, ↓p_ne00, ↓p_ixp0, ↓p_ixp1, ↓w_gTp, ↓p_isLTb, ↓p_isLTs, ↓p_isIb, ↓p_isBb, ↓p_isSb, ↓p_isLb, ↓p_isTb, ↓p_isIs, ↓p_isBs, ↓p_isSs, ↓p_isLs, ↓p_isTs, ↓p_isLi, ↓p_isTi, ↓p_isLn, ↓p_isTn, ↓p_isSn, ↓p_isNb, ↓p_isNs, ↓p_isNt, ↓p_isNl, ↓p_isNp, ↓p_eqTT, ↓p_eqTF, ↓p_eqFT, ↓p_eqFF, ↓p_neTT, ↓p_neTF, ↓p_neFT, ↓p_neFF, ↓p_eqBs, ↓p_eqSs, ↓p_eqIs, ↓w_chain4, ↓p_lrg1, ↓p_lrg2, ↓p_maxL, ↓p_maxl, ↓p_minL, ↓p_minl, ↓w_getE, ↓w_emptyK, ↓w_emptyT, ↓p_dixi, ↓p_dixs, ↓p_dini, ↓p_dins, ↓p_dgi, ↓p_dgs, ↓p_dputi, ↓p_dputs, ↓p_extA, ↓p_extAl, p_extAS, p_extASl, ↓w_bor, fl_b, fl_i, fl_n, fl_s, ↓w_enumA, ↓enma_l, ↓enma_t, ↓enma_o, eq_self, ↓w_strM, ↓sv_s, ↓p_eqS, ↓p_neS, ↓p_isTp, ↓p_lenp, ↓itm_p, ↓p_neBs, line_racks, racks_line, ↓p_sub, ↓p_add, ↓p_ipadd, ↓p_mul, ↓p_div, ↓p_mod, ↓p_pow, ↓p_neg, ↓p_eq, ↓p_ne, ↓p_lt, ↓p_gt, ↓p_le, ↓p_ge, ↓p_max, ↓p_min, ↓p_abs, ↓p_intI, ↓p_intB, ↓p_isaI, ↓p_isaB, ↓p_isaNI, ↓p_isNI, ↓p_isNN, ↓p_isNo, ↓p_eqo, ↓p_neo, ↓p_divmod, ↓p_catL, ↓p_catLl, ↓p_catlL, ↓p_catll, ↓p_len, ↓p_lenl, ↓p_lent, ↓p_list, ↓p_listl, ↓p_listt, ↓p_tuple, ↓p_tuplel, ↓p_tuplet, ↓p_rev, ↓p_revl, ↓p_ix, ↓p_ixl, ↓p_ixt, ↓p_append, ↓p_reverse, ↓p_sum, ↓p_suml, ↓p_any, ↓p_all, ↓p_eqLL, ↓p_eqLl, ↓p_eqlL, ↓p_eqll, ↓p_eqL0, ↓p_eql0, ↓p_neLL, ↓p_neLl, ↓p_nelL, ↓p_nell, ↓p_neL0, ↓p_nel0,
  ↓gp_cells, ↓gp_turn, ↓put_turn, ↓put_cells, ↓putP_top, wipeE, lv_0, lv_s,
  List.set_cons_zero, List.set_cons_succ, List.length_cons, List.length_nil, List.map_cons, List.map_nil, finR, List.replicate, List.replicate_succ, List.replicate_zero, List.cons_append, List.nil_append, true_and, and_true, List.tail_cons, List.head?_cons, Option.join_some, List.contains_nil, Bool.false_eq_true, if_false, if_true, List.all_nil, and_self, Int.reduceToNat, Int.reducePow, Nat.reduceSub, Nat.reduceAdd, Int.reduceAdd, Int.reduceMul, Int.reduceSub, Int.reduceNeg, Int.reduceLT, Int.reduceLE, Int.natAbs, Nat.reduceLT, Nat.reduceLeDiff, Nat.reducePow])
theorem any_bools {α : Type} {l : List α} {f : α → Bool} {Q : O → Prop} : Op1 oAny (.ls (l.map fun a => PyData.bool (f a))) Q ↔ Q (.leaf (.bool (l.any f))) := by
  have e : l.map (fun a => PyData.bool (f a)) = (l.map f).map .bool := by rw [List.map_map]; rfl
  rw [e, p_any, List.any_map]
  exact Iff.rfl
theorem all_bools {α : Type} {l : List α} {f : α → Bool} {Q : O → Prop} : Op1 oAll (.ls (l.map fun a => PyData.bool (f a))) Q ↔ Q (.leaf (.bool (l.all f))) := by
  have e : l.map (fun a => PyData.bool (f a)) = (l.map f).map .bool := by rw [List.map_map]; rfl
  rw [e, p_all, List.all_map]
  exact Iff.rfl
theorem sum_ints {α : Type} {l : List α} {f : α → Int} {Q : O → Prop} : Op1 oSum (.ls (l.map fun a => PyData.int (f a))) Q ↔ Q (.leaf (.int (l.map f).sum)) := by
  have e : l.map (fun a => PyData.int (f a)) = (l.map f).map .int := by rw [List.map_map]; rfl
  rw [e, p_sum]
theorem lis_in {l : List Rg} {c : Int} (hl : l.length ≤ 1000000) {Q : O → List (Option O) → Prop} (k : ∀ os, Q (.leaf (.bool (hasB l c))) os) : Wd g_l_is_in [.leaf (.list (l.map pD)), .leaf (.int c)] Q := by
  unfold g_l_is_in
  rw [w_def]
  unfold b_l_is_in
  walk_at "mv"
  refine ⟨by rw [List.length_map]; omega, ?_⟩
  refine wcl_map (p := fun _ => true) (g := fun p : Rg => PyData.bool (decide (p.1 ≤ c ∧ c ≤ p.2))) (fun p hp => ?_) ?_
  · simp only [pD]
    walk_at "mv"
    refine br (fun h1 => ?_) fun h1 => ?_
    · walk_at "mv"
      simp [h1]
    · simp [h1]
  · rw [List.filter_eq_self.mpr fun _ _ => rfl, any_bools]
    walk_at "mv"
    exact k _
theorem inB_sum : ∀ {l : List Rg} {f la : Int}, inB l f la = (l.map fun p : Rg => max 0 (min p.2 la - max p.1 f + 1)).sum
  | [], _, _ => rfl
  | p :: r, f, la => by rw [inB, List.map_cons, List.sum_cons, inB_sum]
theorem marked_sum {rows : List MRow} {m : Str} {f la : Int} (hn : (rows.map (·.1)).Nodup) (hc : ∀ r ∈ rows, Cn r.2) : ((rows.filter fun p => decide (p.1 = m)).map fun r => inB r.2 f la).sum = inB (mkS rows m) f la := by
  unfold mkS
  induction rows with
  | nil =>
    have : setOf ([] : List Rg) = [] := setOf_self trivial
    simp [this, inB]
  | cons a r ih =>
    rw [List.map_cons, List.nodup_cons] at hn
    rw [List.filter_cons]
    by_cases h : a.1 = m
    · have e : r.filter (fun p => decide (p.1 = m)) = [] := by
        rw [List.filter_eq_nil_iff]
        intro b hb hb2
        have : b.1 = m := of_decide_eq_true hb2
        exact hn.1 (by rw [h, ← this]; exact List.mem_map_of_mem hb)
      rw [if_pos (by simpa using h), e]
      simp only [List.map_cons, List.map_nil, List.sum_cons, List.sum_nil, Int.add_zero, List.flatMap_cons, List.flatMap_nil, List.append_nil]
      rw [setOf_self (hc a List.mem_cons_self)]
    · rw [if_neg (by simpa using h)]
      exact ih hn.2 fun q hq => hc q (List.mem_cons_of_mem _ hq)
theorem marked_in {rows : List MRow} {p : Pa} (hn : (rows.map (·.1)).Nodup) (hc : ∀ r ∈ rows, Cn r.2) (ok : RowsOk rows) {Q : O → List (Option O) → Prop} (k : ∀ os, Q (.leaf (.int (inB (mkS rows p.k) p.f p.l))) os) : Wd g_l_marked_in [.leaf (.list (rows.map mkD)), .leaf (paT p)] Q := by
  unfold g_l_marked_in
  rw [w_def]
  unfold b_l_marked_in
  simp only [paT]
  walk_at "mv"
  refine wf_fold (I := fun r e => ∃ (done : List MRow) (x1 x2 x3 x4 : Option O), e = [some (.leaf (.list (rows.map mkD))), some (.leaf (.tuple [.str p.k, .int p.f, .int p.l])), some (.leaf (.str p.k)), some (.leaf (.int p.f)), some (.leaf (.int p.l)), some (.leaf (.int ((done.filter fun r => decide (r.1 = p.k)).map fun r => inB r.2 p.f p.l).sum)), x1, x2, x3, x4] ∧ done ++ r = rows) (fun a r e hi => ?_) (fun e hi => ?_) ⟨[], _, _, _, _, rfl, rfl⟩
  · obtain ⟨done, x1, x2, x3, x4, rfl, h1⟩ := hi
    have hd : done ++ [a] ++ r = rows := by rw [List.append_assoc]; exact h1
    have hl := ok.2 a (by rw [← h1]; simp)
    simp only [mkD]
    walk_at "mv"
    refine br (fun hm => ?_) fun hm => ?_
    · walk_at "mv"
      refine ⟨by rw [List.length_map]; omega, ?_⟩
      refine wcl_map (p := fun _ => true) (g := fun q : Rg => PyData.int (max 0 (min q.2 p.l - max q.1 p.f + 1))) (fun q hq => ?_) ?_
      · simp only [pD]
        walk_at "mv"
      · rw [List.filter_eq_self.mpr fun _ _ => rfl]
        walk_at "mv"
        rw [sum_ints, ← inB_sum]
        walk_at "mv"
        have es : (((done ++ [a]).filter fun r => decide (r.1 = p.k)).map fun r => inB r.2 p.f p.l).sum = ((done.filter fun r => decide (r.1 = p.k)).map fun r => inB r.2 p.f p.l).sum + inB a.2 p.f p.l := by
          rw [List.filter_append, List.filter_cons, if_pos (by simpa using hm), List.filter_nil, List.map_append, List.sum_append]
          simp only [List.map_cons, List.map_nil, List.sum_cons, List.sum_nil, Int.add_zero]
        exact ⟨done ++ [a], _, _, _, _, by rw [es], hd⟩
    · walk_at "mv"
      have es : (done ++ [a]).filter (fun r => decide (r.1 = p.k)) = done.filter fun r => decide (r.1 = p.k) := by
        rw [List.filter_append, List.filter_cons, if_neg (by simpa using hm), List.filter_nil, List.append_nil]
      exact ⟨done ++ [a], _, _, _, _, by rw [es], hd⟩
  · obtain ⟨done, x1, x2, x3, x4, rfl, h1⟩ := hi
    rw [List.append_nil] at h1
    subst h1
    walk_at "mv"
    rw [marked_sum hn hc]
    exact k _
theorem in_case {nm : Str} {sz c B : Int} {ps : List Pa} (hl : ps.length ≤ 50) (hg : ∀ p ∈ ps, GoodPa B p) (hs : 0 < sz) (hs2 : sz < 1000000000000000000000000000000000000000000000000000) (hc : 0 ≤ c) (hc2 : c < 1000000000000000000000000000000000000000000000000000) {Q : O → List (Option O) → Prop} (k : ∀ os, Q (.ls ((tinsIn sz c (plR ps 0)).map paT)) os) : Wd g_l_in_case [.leaf (encPk nm sz ps), .leaf (.int c)] Q := by
  unfold g_l_in_case
  rw [w_def]
  unfold b_l_in_case
  unfold encPk
  walk_at "mv"
  refine wf_fold (I := fun r e => ∃ (acc : List Pa) (b : Int) (done : List Pa) (x1 x2 x3 x4 x5 : Option O), e = [some (.leaf (.tuple [.str nm, .int sz, .list (ps.map paT)])), some (.leaf (.int c)), some (.ls (acc.map paT)), some (.leaf (.int b)), x1, x2, x3, x4, x5] ∧ done ++ r = ps ∧ acc.length ≤ done.length ∧ acc ++ tinsIn sz c (plR r b) = tinsIn sz c (plR ps 0)) (fun p r e hi => ?_) (fun e hi => ?_) ⟨[], 0, [], _, _, _, _, _, rfl, rfl, Nat.le_refl _, rfl⟩
  · obtain ⟨acc, b, done, x1, x2, x3, x4, x5, rfl, h1, h2, h3⟩ := hi
    have gp := hg p (by rw [← h1]; simp)
    have hdl : done.length ≤ 50 := by
      have := congrArg List.length h1
      rw [List.length_append] at this
      omega
    unfold GoodPa at gp
    have hd2 : done ++ [p] ++ r = ps := by rw [List.append_assoc]; exact h1
    have eb : b + p.l - p.f + 1 = b + paN p := by
      unfold paN
      omega
    rw [plR, tinsIn_cons] at h3
    simp only [paT]
    walk_at "mv"
    refine ⟨mulOk (by omega) (by omega) (by omega) (by omega), ?_⟩
    have yes : 0 ≤ c * sz - b + sz - 1 ∧ c * sz - b ≤ p.l - p.f → inC sz c (p, b) = true ∧ lowP sz c (p, b) = p.f + max 0 (c * sz - b) ∧ highP sz c (p, b) = p.f + min (c * sz - b + sz - 1) (p.l - p.f) := by
      unfold inC lowP highP
      simp only [decide_eq_true_eq]
      generalize c * sz = z
      omega
    have no : ¬(0 ≤ c * sz - b + sz - 1 ∧ c * sz - b ≤ p.l - p.f) → ¬inC sz c (p, b) = true := by
      unfold inC lowP highP
      simp only [decide_eq_true_eq]
      generalize c * sz = z
      omega
    refine br (fun z1 => ?_) fun z1 => ?_
    · walk_at "mv"
      refine br (fun z2 => ?_) fun z2 => ?_
      · obtain ⟨y1, y2, y3⟩ := yes ⟨z1, z2⟩
        rw [if_pos y1] at h3
        walk_at "mv"
        have ep : (acc ++ [ptC sz c (p, b)]).map paT = acc.map paT ++ [PyData.tuple [.str p.k, .int (p.f + max 0 (c * sz - b)), .int (p.f + min (c * sz - b + sz - 1) (p.l - p.f))]] := by
          rw [List.map_append]
          simp only [ptC, y2, y3, List.map_cons, List.map_nil, paT]
        exact ⟨by rw [List.length_map]; omega, by rw [List.length_map]; omega, acc ++ [ptC sz c (p, b)], _, done ++ [p], _, _, _, _, _, by rw [ep], hd2, by simp; omega, by rw [eb, List.append_assoc]; exact h3⟩
      · rw [if_neg (no fun z => z2 z.2)] at h3
        walk_at "mv"
        exact ⟨acc, _, done ++ [p], _, _, _, _, _, rfl, hd2, by simp; omega, by rw [eb]; exact h3⟩
    · rw [if_neg (no fun z => z1 z.1)] at h3
      walk_at "mv"
      exact ⟨acc, _, done ++ [p], _, _, _, _, _, rfl, hd2, by simp; omega, by rw [eb]; exact h3⟩
  · obtain ⟨acc, b, done, x1, x2, x3, x4, x5, rfl, h1, h2, h3⟩ := hi
    rw [show tinsIn sz c (plR [] b) = [] from rfl, List.append_nil] at h3
    subst h3
    walk_at "mv"
    exact k _

end L26
end

set_option Elab.async false
set_option linter.all false
set_option maxRecDepth 100000
set_option maxHeartbeats 4000000
noncomputable section
namespace L26
open PySem PySem.Spec PyProof.Rows L2 Mv
local macro_rules | `(tactic| walk_at "mv") => `(tactic| try simp only [↓w_cst, ↓w_var, ↓w_mv, ↓w_fz, ↓w_frz, ↓w_bin, ↓w_un, ↓w_binV, ↓w_if, ↓w_asB, ↓w_yes, ↓w_not, ↓w_and, ↓w_or, ↓w_andE, ↓w_orE, ↓w_notE, ↓w_chain, ↓w_nil, ↓w_cons, ↓w_tup, ↓w_lst, ↓w_pl, ↓w_mut, ↓w_c0, ↓w_ce, ↓w_cv, ↓w_call', ↓wb_0, ↓wb_e, ↓wb_v, wb_e', ↓wo_leaf, ↓wo_ls, ↓wo_dic, ↓wo_dct, ↓wo_st, ↓wo_s, own_0, own_s, oi_0, oi_e, oi_v, isl_st, isl_leaf, isl_ls, Bool.not_false, Bool.not_true, List.nodup_cons, List.nodup_nil, List.not_mem_nil, not_false_eq_true, ↓w_seq, ↓w_skip, ↓w_brk, ↓w_cont, ↓w_retN, ↓w_set, ↓w_drop, ↓w_ret, ↓w_retV, ↓w_ifS, ↓w_fzS, ↓w_asg, ↓w_gN, ↓w_gT, ↓w_gNl, ↓w_gCn, ↓w_gSub, ↓w_par, ↓w_aug, ↓w_int, ↓w_slice, ↓w_rng1, ↓w_rng2, ↓w_seqI, ↓w_comp, ↓w_for,
  ↓sl_0, ↓sl_s, ↓fr_leaf, ↓fr_ls, ↓ok_t, ↓ok_l, ↓br_t, ↓br_f, decide_true, decide_false, Int.reduceEq, ↓bl_b, ↓il_b, ↓le_l, ↓gp_top, ↓cl_0, ↓cl_e, ↓cl_v, ↓nxt_nx, ↓nxt_rt, ↓nxt_bk, ↓nxt_ct, ↓sa_0, ↓sa_s, ↓rg1_i, ↓rg2_i, ↓itm_l, ↓itm_t, ↓itm_o, ↓fin_rt, ↓fin_nx, ↓lpk_nx, ↓lpk_ct, ↓lpk_bk, ↓lpk_rt, ↓wcl_nil, ↓wf_nil,
  ↓w_enum, ↓w_zip, ↓enm_l, ↓enm_o, ↓zp_ll, ↓zp_lo, ↓zp_ol, ↓zp_oo, ↓zp_tt, ↓p_isLTi, ↓p_isLTn, ↓p_isSi, ↓p_isBn, ↓p_extend, p_extendS, p_appendS, List.isEmpty_nil, ↓w_dicO, ↓dicO_list, zip_cc, zip_nn, ↓at_0, ↓at_1, ↓at_2, ↓at_3, ↓at_4, p_insertS, ↓p_mulO, ↓p_repB, ↓p_rep0, ↓p_rep1, ↓w_while, ↓p_insert, ↓at_last, ↓put_last, ↓p_inl, ↓p_inL, ↓p_ninl, ↓p_ninL, ↓p_eqP0, ↓p_neP0, ↓p_neA, ↓p_eq00, ↓p_ne00, ↓p_ixp0, ↓p_ixp1, ↓w_gTp, ↓p_isLTb, ↓p_isLTs, ↓p_isIb, ↓p_isBb, ↓p_isSb, ↓p_isLb, ↓p_isTb, ↓p_isIs, ↓p_isBs, ↓p_isSs, ↓p_isLs, ↓p_isTs, ↓p_isLi, ↓p_isTi, ↓p_isLn, ↓p_isTn, ↓p_isSn, ↓p_isNb, ↓p_isNs, ↓p_isNt, ↓p_isNl, ↓p_isNp, ↓p_eqTT, ↓p_eqTF, ↓p_eqFT, ↓p_eqFF, ↓p_neTT, ↓p_neTF, ↓p_neFT, ↓p_neFF, ↓p_eqBs, ↓p_eqSs, ↓p_eqIs, ↓w_chain4, ↓p_lrg1, ↓p_lrg2, ↓p_maxL, ↓p_maxl, ↓p_minL, ↓p_minl, ↓w_getE, ↓w_emptyK, ↓w_emptyT, ↓p_dixi, ↓p_dixs, ↓p_dini, ↓p_dins, ↓p_dgi, ↓p_dgs, ↓p_dputi, ↓p_dputs, ↓p_extA, ↓p_extAl, p_extAS, p_extASl, ↓w_bor, fl_b, fl_i, fl_n, fl_s, ↓w_enumA, ↓enma_l, ↓enma_t, ↓enma_o, eq_self, ↓w_strM, ↓sv_s, ↓p_eqS, ↓p_neS, ↓p_isTp, ↓p_lenp, ↓itm_p, ↓p_neBs, line_racks, racks_line, ↓p_sub, ↓p_add, ↓p_ipadd, ↓p_mul, ↓p_div, ↓p_mod, ↓p_pow, ↓p_neg, ↓p_eq, ↓p_ne, ↓p_lt, ↓p_gt, ↓p_le, ↓p_ge, ↓p_max, ↓p_min, ↓p_abs, ↓p_intI, ↓p_intB, ↓p_isaI, ↓p_isaB, ↓p_isaNI, ↓p_isNI, ↓p_isNN, ↓p_isNo, ↓p_eqo, ↓p_neo, ↓p_divmod, ↓p_catL, ↓p_catLl, ↓p_catlL, ↓p_catll, ↓p_len, ↓p_lenl, ↓p_lent, ↓p_list, ↓p_listl, ↓p_listt, ↓p_tuple, ↓p_tuplel, ↓p_tuplet, ↓p_rev, ↓p_revl, ↓p_ix, ↓p_ixl, ↓p_ixt, ↓p_append, ↓p_reverse, ↓p_sum, ↓p_suml, ↓p_any, ↓p_all, ↓p_eqLL, ↓p_eqLl, ↓p_eqlL, ↓p_eqll, ↓p_eqL0, ↓p_eql0, ↓p_neLL, ↓p_neLl, ↓p_nelL, ↓p_nell, ↓p_neL0, ↓p_nel0,
  ↓gp_cells, ↓gp_turn, ↓put_turn, ↓put_cells, ↓putP_top, wipeE, lv_0, lv_s,
  List.set_cons_zero, List.set_cons_succ, List.length_cons, List.length_nil, List.map_cons, List.map_nil, finR, List.replicate, List.replicate_succ, List.replicate_zero, List.cons_append, List.nil_append, true_and, and_true, List.tail_cons, List.head?_cons, Option.join_some, List.contains_nil, Bool.false_eq_true, if_false, if_true, List.all_nil, and_self, Int.reduceToNat, Int.reducePow, Nat.reduceSub, Nat.reduceAdd, Int.reduceAdd, Int.reduceMul, Int.reduceSub, Int.reduceNeg, Int.reduceLT, Int.reduceLE, Int.natAbs, Nat.reduceLT, Nat.reduceLeDiff, Nat.reducePow])
local macro_rules | `(tactic| walk_at "mve") => `(tactic| try simp only [↓w_cst, ↓w_var, ↓w_mv, ↓w_fz, ↓w_frz, ↓w_bin, ↓w_un, ↓w_binV, ↓w_asB, ↓w_yes, ↓w_not, ↓w_and, ↓w_or, ↓w_andE, ↓w_orE, ↓w_notE, ↓w_chain, ↓w_nil, ↓w_cons, ↓w_tup, ↓w_lst, ↓w_pl, ↓w_mut, ↓w_c0, ↓w_ce, ↓w_cv, ↓w_call', ↓wb_0, ↓wb_e, ↓wb_v, wb_e', ↓wo_leaf, ↓wo_ls, ↓wo_dic, ↓wo_dct, ↓wo_st, ↓wo_s, own_0, own_s, oi_0, oi_e, oi_v, isl_st, isl_leaf, isl_ls, Bool.not_false, Bool.not_true, List.nodup_cons, List.nodup_nil, List.not_mem_nil, not_false_eq_true, ↓w_seq, ↓w_skip, ↓w_brk, ↓w_cont, ↓w_retN, ↓w_set, ↓w_drop, ↓w_ret, ↓w_retV, ↓w_ifS, ↓w_fzS, ↓w_asg, ↓w_gN, ↓w_gT, ↓w_gNl, ↓w_gCn, ↓w_gSub, ↓w_par, ↓w_aug, ↓w_int, ↓w_slice, ↓w_rng1, ↓w_rng2, ↓w_seqI, ↓w_comp, ↓w_for,
  ↓sl_0, ↓sl_s, ↓fr_leaf, ↓fr_ls, ↓ok_t, ↓ok_l, ↓br_t, ↓br_f, decide_true, decide_false, Int.reduceEq, ↓bl_b, ↓il_b, ↓le_l, ↓gp_top, ↓cl_0, ↓cl_e, ↓cl_v, ↓nxt_nx, ↓nxt_rt, ↓nxt_bk, ↓nxt_ct, ↓sa_0, ↓sa_s, ↓rg1_i, ↓rg2_i, ↓itm_l, ↓itm_t, ↓itm_o, ↓fin_rt, ↓fin_nx, ↓lpk_nx, ↓lpk_ct, ↓lpk_bk, ↓lpk_rt, ↓wcl_nil, ↓wf_nil,
  ↓w_enum, ↓w_zip, ↓enm_l, ↓enm_o, ↓zp_ll, ↓zp_lo, ↓zp_ol, ↓zp_oo, ↓zp_tt, ↓p_isLTi, ↓p_isLTn, ↓p_isSi, ↓p_isBn, ↓p_extend, p_extendS, p_appendS, List.isEmpty_nil, ↓w_dicO, ↓dicO_list, zip_cc, zip_nn, ↓at_0, ↓at_1, ↓at_2, ↓at_3, ↓at_4, p_insertS, ↓p_mulO, ↓p_repB, ↓p_rep0, ↓p_rep1, ↓w_while, ↓p_insert, ↓at_last, ↓put_last, ↓p_inl, ↓p_inL, ↓p_ninl, ↓p_ninL, ↓p_eqP0, ↓p_neP0, ↓p_neA, ↓p_eq00, ↓p_ne00, ↓p_ixp0, ↓p_ixp1, ↓w_gTp, ↓p_isLTb, ↓p_isLTs, ↓p_isIb, ↓p_isBb, ↓p_isSb, ↓p_isLb, ↓p_isTb, ↓p_isIs, ↓p_isBs, ↓p_isSs, ↓p_isLs, ↓p_isTs, ↓p_isLi, ↓p_isTi, ↓p_isLn, ↓p_isTn, ↓p_isSn, ↓p_isNb, ↓p_isNs, ↓p_isNt, ↓p_isNl, ↓p_isNp, ↓p_eqTT, ↓p_eqTF, ↓p_eqFT, ↓p_eqFF, ↓p_neTT, ↓p_neTF, ↓p_neFT, ↓p_neFF, ↓p_eqBs, ↓p_eqSs, ↓p_eqIs, ↓w_chain4, ↓p_lrg1, ↓p_lrg2, ↓p_maxL, ↓p_maxl, ↓p_minL, ↓p_minl, ↓w_getE, ↓w_emptyK, ↓w_emptyT, ↓p_dixi, ↓p_dixs, ↓p_dini, ↓p_dins, ↓p_dgi, ↓p_dgs, ↓p_dputi, ↓p_dputs, ↓p_extA, ↓p_extAl, p_extAS, p_extASl, ↓w_bor, fl_b, fl_i, fl_n, fl_s, ↓w_enumA, ↓enma_l, ↓enma_t, ↓enma_o, eq_self, ↓w_strM, ↓sv_s, ↓p_eqS, ↓p_neS, ↓p_isTp, ↓p_lenp, ↓itm_p, ↓p_neBs, line_racks, racks_line, ↓p_sub, ↓p_add, ↓p_ipadd, ↓p_mul, ↓p_div, ↓p_mod, ↓p_pow, ↓p_neg, ↓p_eq, ↓p_ne, ↓p_lt, ↓p_gt, ↓p_le, ↓p_ge, ↓p_max, ↓p_min, ↓p_abs, ↓p_intI, ↓p_intB, ↓p_isaI, ↓p_isaB, ↓p_isaNI, ↓p_isNI, ↓p_isNN, ↓p_isNo, ↓p_eqo, ↓p_neo, ↓p_divmod, ↓p_catL, ↓p_catLl, ↓p_catlL, ↓p_catll, ↓p_len, ↓p_lenl, ↓p_lent, ↓p_list, ↓p_listl, ↓p_listt, ↓p_tuple, ↓p_tuplel, ↓p_tuplet, ↓p_rev, ↓p_revl, ↓p_ix, ↓p_ixl, ↓p_ixt, ↓p_append, ↓p_reverse, ↓p_sum, ↓p_suml, ↓p_any, ↓p_all, ↓p_eqLL, ↓p_eqLl, ↓p_eqlL, ↓p_eqll, ↓p_eqL0, ↓p_eql0, ↓p_neLL, ↓p_neLl, ↓p_nelL, ↓p_nell, ↓p_neL0, ↓p_nel0,
  ↓gp_cells, ↓gp_turn, ↓put_turn, ↓put_cells, ↓putP_top, wipeE, lv_0, lv_s,
  List.set_cons_zero, List.set_cons_succ, List.length_cons, List.length_nil, List.map_cons, List.map_nil, finR, List.replicate, List.replicate_succ, List.replicate_zero, List.cons_append, List.nil_append, true_and, and_true, List.tail_cons, List.head?_cons, Option.join_some, List.contains_nil, Bool.false_eq_true, if_false, if_true, List.all_nil, and_self, Int.reduceToNat, Int.reducePow, Nat.reduceSub, Nat.reduceAdd, Int.reduceAdd, Int.reduceMul, Int.reduceSub, Int.reduceNeg, Int.reduceLT, Int.reduceLE, Int.natAbs, Nat.reduceLT, Nat.reduceLeDiff, Nat.reducePow])
local macro_rules | `(tactic| walk_at "mv1") => `(tactic| try simp only [↓ok_t, ↓ok_l, ↓nxt_nx, ↓nxt_rt, ↓w_seq, ↓fin_rt, ↓fin_nx, ↓lpk_nx, ↓lpk_ct, ↓lpk_bk, ↓lpk_rt, wipeE, List.set_cons_zero, List.set_cons_succ, true_and, and_true])
local macro_rules | `(tactic| walk_at "mvs") => `(tactic| try simp only [↓sl_0, ↓sl_s, ↓fr_leaf, ↓fr_ls, ↓ok_t, ↓ok_l, ↓nxt_nx, ↓nxt_rt, ↓w_seq, ↓fin_rt, ↓fin_nx, ↓lpk_nx, ↓lpk_ct, ↓lpk_bk, ↓lpk_rt, wipeE, List.set_cons_zero, List.set_cons_succ, true_and, and_true])
local macro_rules | `(tactic| walk_at "mvp") => `(tactic| try simp only [↓w_cst, ↓w_var, ↓w_mv, ↓w_fz, ↓w_frz, ↓w_bin, ↓w_un, ↓w_binV, ↓w_if, ↓w_asB, ↓w_yes, ↓w_not, ↓w_and, ↓w_or, ↓w_andE, ↓w_orE, ↓w_notE, ↓w_chain, ↓w_nil, ↓w_cons, ↓w_tup, ↓w_lst, ↓w_pl, ↓w_mut, ↓w_c0, ↓w_ce, ↓w_cv, ↓w_call', ↓wb_0, ↓wb_e, ↓wb_v, wb_e', ↓wo_leaf, ↓wo_ls, ↓wo_dic, ↓wo_dct, ↓wo_st, ↓wo_s, own_0, own_s, oi_0, oi_e, oi_v, isl_st, isl_leaf, isl_ls, Bool.not_false, Bool.not_true, List.nodup_cons, List.nodup_nil, List.not_mem_nil, not_false_eq_true, ↓w_seq, ↓w_skip, ↓w_brk, ↓w_cont, ↓w_retN, ↓w_set, ↓w_drop, ↓w_ret, ↓w_retV, ↓w_fzS, ↓w_asg, ↓w_gN, ↓w_gT, ↓w_gNl, ↓w_gCn, ↓w_gSub, ↓w_par, ↓w_aug, ↓w_int, ↓w_slice, ↓w_rng1, ↓w_rng2, ↓w_seqI, ↓w_comp, ↓w_for,
  ↓sl_0, ↓sl_s, ↓fr_leaf, ↓fr_ls, ↓ok_t, ↓ok_l, ↓br_t, ↓br_f, decide_true, decide_false, Int.reduceEq, ↓bl_b, ↓il_b, ↓le_l, ↓gp_top, ↓cl_0, ↓cl_e, ↓cl_v, ↓nxt_nx, ↓nxt_rt, ↓nxt_bk, ↓nxt_ct, ↓sa_0, ↓sa_s, ↓rg1_i, ↓rg2_i, ↓itm_l, ↓itm_t, ↓itm_o, ↓fin_rt, ↓fin_nx, ↓lpk_nx, ↓lpk_ct, ↓lpk_bk, ↓lpk_rt, ↓wcl_nil, ↓wf_nil,
  ↓w_enum, ↓w_zip, ↓enm_l, ↓enm_o, ↓zp_ll, ↓zp_lo, ↓zp_ol, ↓zp_oo, ↓zp_tt, ↓p_isLTi, ↓p_isLTn, ↓p_isSi, ↓p_isBn, ↓p_extend, p_extendS, p_appendS, List.isEmpty_nil, ↓w_dicO, ↓dicO_list, zip_cc, zip_nn, ↓at_0, ↓at_1, ↓at_2, ↓at_3, ↓at_4, p_insertS, ↓p_mulO, ↓p_repB, ↓p_rep0, ↓p_rep1, ↓w_while, ↓p_insert, ↓at_last, ↓put_last, ↓p_inl, ↓p_inL, ↓p_ninl, ↓p_ninL, ↓p_eqP0, ↓p_neP0, ↓p_neA, ↓p_eq00, ↓p_ne00, ↓p_ixp0, ↓p_ixp1, ↓w_gTp, ↓p_isLTb, ↓p_isLTs, ↓p_isIb, ↓p_isBb, ↓p_isSb, ↓p_isLb, ↓p_isTb, ↓p_isIs, ↓p_isBs, ↓p_isSs, ↓p_isLs, ↓p_isTs, ↓p_isLi, ↓p_isTi, ↓p_isLn, ↓p_isTn, ↓p_isSn, ↓p_isNb, ↓p_isNs, ↓p_isNt, ↓p_isNl, ↓p_isNp, ↓p_eqTT, ↓p_eqTF, ↓p_eqFT, ↓p_eqFF, ↓p_neTT, ↓p_neTF, ↓p_neFT, ↓p_neFF, ↓p_eqBs, ↓p_eqSs, ↓p_eqIs, ↓w_chain4, ↓p_lrg1, ↓p_lrg2, ↓p_maxL, ↓p_maxl, ↓p_minL, ↓p_minl, ↓w_getE, ↓w_emptyK, ↓w_emptyT, ↓p_dixi, ↓p_dixs, ↓p_dini, ↓p_dins, ↓p_dgi, ↓p_dgs, ↓p_dputi, ↓p_dputs, ↓p_extA, ↓p_extAl, p_extAS, p_extASl, ↓w_bor, fl_b, fl_i, fl_n, fl_s, ↓w_enumA, ↓enma_l, ↓enma_t, ↓enma_o, eq_self, ↓w_strM, ↓sv_s, ↓p_eqS, ↓p_neS, ↓p_isTp, ↓p_lenp, ↓itm_p, ↓p_neBs, line_racks, racks_line, ↓p_sub, ↓p_add, ↓p_ipadd, ↓p_mul, ↓p_div, ↓p_mod, ↓p_pow, ↓p_neg, ↓p_eq, ↓p_ne, ↓p_lt, ↓p_gt, ↓p_le, ↓p_ge, ↓p_max, ↓p_min, ↓p_abs, ↓p_intI, ↓p_intB, ↓p_isaI, ↓p_isaB, ↓p_isaNI, ↓p_isNI, ↓p_isNN, ↓p_isNo, ↓p_eqo, ↓p_neo, ↓p_divmod, ↓p_catL, ↓p_catLl, ↓p_catlL, ↓p_catll, ↓p_len, ↓p_lenl, ↓p_lent, ↓p_list, ↓p_listl, ↓p_listt, ↓p_tuple, ↓p_tuplel, ↓p_tuplet, ↓p_rev, ↓p_revl, ↓p_ix, ↓p_ixl, ↓p_ixt, ↓p_append, ↓p_reverse, ↓p_sum, ↓p_suml, ↓p_any, ↓p_all, ↓p_eqLL, ↓p_eqLl, ↓p_eqlL, ↓p_eqll, ↓p_eqL0, ↓p_eql0, ↓p_neLL, ↓p_neLl, ↓p_nelL, ↓p_nell, ↓p_neL0, ↓p_nel0,
  ↓gp_cells, ↓gp_turn, ↓put_turn, ↓put_cells, ↓putP_top, wipeE, lv_0, lv_s,
  List.set_cons_zero, List.set_cons_succ, List.length_cons, List.length_nil, List.map_cons, List.map_nil, finR, List.replicate, List.replicate_succ, List.replicate_zero, List.cons_append, List.nil_append, true_and, and_true, List.tail_cons, List.head?_cons, Option.join_some, List.contains_nil, Bool.false_eq_true, if_false, if_true, List.all_nil, and_self, Int.reduceToNat, Int.reducePow, Nat.reduceSub, Nat.reduceAdd, Int.reduceAdd, Int.reduceMul, Int.reduceSub, Int.reduceNeg, Int.reduceLT, Int.reduceLE, Int.natAbs, Nat.reduceLT, Nat.reduceLeDiff, Nat.reducePow])
theorem lset_of {o : D} {ps : List Rg} (ho : SqP o ps) (hl : ps.length ≤ 100000) {Q : O → List (Option O) → Prop} (k : ∀ os, Q (.ls ((setOf ps).map pD)) os) : Wd g_l_set_of [.leaf o] Q := by
  unfold g_l_set_of
  rw [w_def]
  unfold b_l_set_of
  walk_at "mv"
  rw [ho.sort (by omega)]
  walk_at "mv"
  refine wf_fold (I := fun r e => ∃ (acc : List Rg) (x y : Option O), e = [some (.leaf o), some (.ls (acc.reverse.map pD)), x, y] ∧ soR r acc = soR (psort ps) [] ∧ r.length + acc.length ≤ 100000) (fun p r e hi => ?_) (fun e hi => ?_) ⟨[], none, none, rfl, rfl, by rw [psort_len]; simpa using hl⟩
  · obtain ⟨acc, x, y, rfl, h1, h2⟩ := hi
    rw [soR_cE] at h1
    rw [List.length_cons] at h2
    walk_at "mv"
    refine br (fun hc => ?_) fun hc => ?_
    · walk_at "mv"
      rw [if_pos hc] at h1
      exact ⟨acc, _, _, rfl, h1, by omega⟩
    · rw [if_neg hc] at h1
      cases acc with
      | nil =>
        rw [List.reverse_nil, List.map_nil]
        walk_at "mv"
        exact ⟨[p], _, _, rfl, h1, by simpa using h2⟩
      | cons q a =>
        simp only at h1
        rw [List.reverse_cons, List.map_append, List.map_cons, List.map_nil]
        walk_at "mv"
        refine br (fun hd => ?_) fun hd => ?_
        · walk_at "mv"
          rw [if_pos hd] at h1
          refine ⟨(q.1, max p.2 q.2) :: a, some (.leaf (.int p.1)), some (.leaf (.int p.2)), ?_, h1, by simp only [List.length_cons] at h2 ⊢; omega⟩
          rw [List.reverse_cons, List.map_append, List.map_cons, List.map_nil]
          rfl
        · walk_at "mv"
          rw [if_neg hd] at h1
          rw [List.length_cons] at h2
          refine ⟨by rw [List.length_append, List.length_map, List.length_reverse, List.length_singleton]; omega, by rw [List.length_append, List.length_map, List.length_reverse, List.length_singleton]; omega, p :: q :: a, some (.leaf (.int p.1)), some (.leaf (.int p.2)), ?_, h1, by simp only [List.length_cons]; omega⟩
          rw [List.reverse_cons, List.reverse_cons, List.map_append, List.map_append, List.map_cons, List.map_nil, List.map_cons, List.map_nil]
          rfl
  · obtain ⟨acc, x, y, rfl, h1, h2⟩ := hi
    rw [soR_nil] at h1
    subst h1
    walk_at "mv"
    exact k _
theorem cn_zip : ∀ {l : List Rg}, Cn l → ((l.zip (l.drop 1)).all fun pq => decide (pq.1.2 + 1 < pq.2.1)) = true
  | [], _ => rfl
  | [a], _ => rfl
  | a :: b :: r, h => by
    have ih := cn_zip (l := b :: r) h.2.2
    simp only [List.drop_succ_cons, List.drop_zero, List.zip_cons_cons, List.all_cons, Bool.and_eq_true] at ih ⊢
    exact ⟨decide_eq_true (h.2.1 b List.mem_cons_self), ih⟩
theorem is_set {l : List Rg} {n : Int} (hc : Cn l) (hb : ∀ p ∈ l, 0 ≤ p.1 ∧ p.2 < n) (hl : l.length ≤ 100000) {Q : O → List (Option O) → Prop} (k : ∀ os, Q (.leaf (.bool true)) os) : Wd g_l_is_set [.leaf (.list (l.map pD)), .leaf (.int n)] Q := by
  have isl : ∀ {Q : O → Prop}, Op1 (vw1 (isaI .list)) (.leaf (.list (l.map pD))) Q ↔ Q (.leaf (.bool true)) := p_isa (n := 2) (by decide) (okz_pairs (by omega))
  unfold g_l_is_set
  rw [w_def]
  unfold b_l_is_set
  walk_at "mv"
  rw [isl]
  walk_at "mv"
  refine wf_fold (I := fun r e => ∃ (x1 x2 x3 x4 : Option O), e = [some (.leaf (.list (l.map pD))), some (.leaf (.int n)), x1, x2, x3, x4] ∧ ∀ p ∈ r, p ∈ l) (fun p r e hi => ?_) (fun e hi => ?_) ⟨_, _, _, _, rfl, fun p h => h⟩
  · obtain ⟨x1, x2, x3, x4, rfl, h1⟩ := hi
    obtain ⟨b1, b2⟩ := hb p (h1 p List.mem_cons_self)
    have b3 := cn_le hc p (h1 p List.mem_cons_self)
    walk_at "mv"
    refine br (fun _ => ?_) fun z => absurd b1 z
    walk_at "mv"
    refine br (fun _ => ?_) fun z => absurd b3 z
    walk_at "mv"
    refine brn (fun _ => ?_) fun z => absurd b2 z
    walk_at "mv"
    rw [show [PyData.int p.1, .int p.2] = [p.1, p.2].map .int from rfl]
    refine wcl_map (p := fun _ => true) (g := fun _ : Int => PyData.bool false) (fun p hp => ?_) ?_
    · walk_at "mv"
    · rw [List.filter_eq_self.mpr fun _ _ => rfl, any_bools]
      walk_at "mv"
      exact ⟨_, _, _, _, rfl, fun q hq => h1 q (List.mem_cons_of_mem _ hq)⟩
  · obtain ⟨x1, x2, x3, x4, rfl, h1⟩ := hi
    walk_at "mv"
    refine slc_fromG (i := 1) (by decide) ?_
    walk_at "mv"
    have ez : zipD (l.map pD) ((l.map pD).drop 1) = (l.zip (l.drop 1)).map fun pq => PyData.tuple [pD pq.1, pD pq.2] := by
      unfold zipD
      rw [← List.map_drop, List.zip_map, List.map_map]
      rfl
    rw [ez]
    refine ⟨by rw [List.length_map, List.length_zip]; omega, ?_⟩
    refine wcl_map (p := fun _ => true) (g := fun pq : Rg × Rg => PyData.bool (decide (pq.1.2 + 1 < pq.2.1))) (fun p hp => ?_) ?_
    · walk_at "mv"
    · rw [List.filter_eq_self.mpr fun _ _ => rfl, all_bools]
      have ea : ((l.zip (l.drop 1)).all fun pq => decide (pq.1.2 + 1 < pq.2.1)) = true := cn_zip hc
      rw [ea]
      walk_at "mv"
      exact k _
theorem case_right {nm : Str} {sz c B : Int} {ps : List Pa} {rows : List MRow} (hl : ps.length ≤ 50) (hg : ∀ p ∈ ps, GoodPa B p) (hs : 0 < sz) (hs2 : sz < 1000000000000000000000000000000000000000000000000000) (hc : 0 ≤ c) (hc2 : c < 1000000000000000000000000000000000000000000000000000)
    (hn : (rows.map (·.1)).Nodup) (hcn : ∀ r ∈ rows, Cn r.2) (ok : RowsOk rows) {S W : List Rg} (hS : hasB S c = decide (0 < hasOf rows (tinsIn sz c (plR ps 0)))) (hW : hasB W c = decide (0 < paSum (tinsIn sz c (plR ps 0)) ∧ hasOf rows (tinsIn sz c (plR ps 0)) = paSum (tinsIn sz c (plR ps 0)))) (lS : S.length ≤ 1000000) (lW : W.length ≤ 1000000)
    {Q : O → List (Option O) → Prop} (k : ∀ os, Q (.leaf (.bool true)) os) : Wd g_l_case_right [.leaf (encPk nm sz ps), .leaf (.list (rows.map mkD)), .leaf (.int c), .leaf (.list (S.map pD)), .leaf (.list (W.map pD))] Q := by
  have hh : ∀ {ps : List Pa}, hasOf rows ps = (ps.map fun p => inB (mkS rows p.k) p.f p.l).sum := by
    intro ps
    induction ps with
    | nil => rfl
    | cons a r ih => rw [hasOf, List.map_cons, List.sum_cons, ih]
  unfold g_l_case_right
  rw [w_def]
  unfold b_l_case_right
  have tl := tinsIn_len (sz := sz) (c := c) (qs := plR ps 0)
  rw [plR_len] at tl
  walk_at "mv"
  refine in_case hl hg hs hs2 hc hc2 fun os => ?_
  walk_at "mv"
  refine tins_in_ok (B := B) hpk_enc (by omega) hs hs2 hc hc2 fun os => ?_
  walk_at "mv"
  refine same (t := .list ((tinsIn sz c (plR ps 0)).map paT)) (smz_pas (n := 9) (by omega)) fun os => ?_
  obtain ⟨ts, hts⟩ : ∃ ts, ts = tinsIn sz c (plR ps 0) := ⟨_, rfl⟩
  rw [← hts] at hS hW tl ⊢
  walk_at "mv"
  refine ⟨by rw [List.length_map]; omega, ?_⟩
  refine wcl_map (p := fun _ => true) (g := fun p => PyData.int (paN p)) (fun p hp => ?_) ?_
  · simp only [paT]
    walk_at "mv"
    rfl
  rw [List.filter_eq_self.mpr fun _ _ => rfl, sum_ints, ← paSum_eq]
  walk_at "mv"
  refine ⟨by rw [List.length_map]; omega, ?_⟩
  refine wcl_map (p := fun _ => true) (g := fun p => PyData.int (inB (mkS rows p.k) p.f p.l)) (fun p hp => ?_) ?_
  · walk_at "mv"
    refine marked_in hn hcn ok fun os => ?_
    walk_at "mv"
  rw [List.filter_eq_self.mpr fun _ _ => rfl, sum_ints, ← hh]
  walk_at "mv"
  refine lis_in lS fun os => ?_
  walk_at "mv"
  rw [hS, p_eqBs]
  walk_at "mv"
  refine lis_in lW fun os => ?_
  walk_at "mv"
  rw [hW]
  refine br (fun h1 => ?_) fun h1 => ?_
  · walk_at "mv"
    have e : decide (0 < paSum ts ∧ hasOf rows ts = paSum ts) = decide (hasOf rows ts = paSum ts) := by simp [h1]
    rw [e, p_eqBs]
    walk_at "mv"
    exact k _
  · have e : decide (0 < paSum ts ∧ hasOf rows ts = paSum ts) = false := by simp [h1]
    rw [e]
    walk_at "mv"
    exact k _

end L26
end

set_option Elab.async false
set_option linter.all false
set_option maxRecDepth 100000
set_option maxHeartbeats 4000000
noncomputable section
namespace L26
open PySem PySem.Spec PyProof.Rows L2 Mv
local macro_rules | `(tactic| walk_at "mv") => `(tactic| try simp only [↓w_cst, ↓w_var, ↓w_mv, ↓w_fz, ↓w_frz, ↓w_bin, ↓w_un, ↓w_binV, ↓w_if, ↓w_asB, ↓w_yes, ↓w_not, ↓w_and, ↓w_or, ↓w_andE, ↓w_orE, ↓w_notE, ↓w_chain, ↓w_nil, ↓w_cons, ↓w_tup, ↓w_lst, ↓w_pl, ↓w_mut, ↓w_c0, ↓w_ce, ↓w_cv, ↓w_call', ↓wb_0, ↓wb_e, ↓wb_v, wb_e', ↓wo_leaf, ↓wo_ls, ↓wo_dic, ↓wo_dct, ↓wo_st, ↓wo_s, own_0, own_s, oi_0, oi_e, oi_v, isl_st, isl_leaf, isl_ls, Bool.not_false, Bool.not_true, List.nodup_cons, List.nodup_nil, List.not_mem_nil, not_false_eq_true, ↓w_seq, ↓w_skip, ↓w_brk, ↓w_cont, ↓w_retN, ↓w_set, ↓w_drop, ↓w_ret, ↓w_retV, ↓w_ifS, ↓w_fzS, ↓w_asg, ↓w_gN, ↓w_gT, ↓w_gNl, ↓w_gCn, ↓w_gSub, ↓w_par, ↓w_aug, ↓w_int, ↓w_slice, ↓w_rng1, ↓w_rng2, ↓w_seqI, ↓w_comp, ↓w_for,
  ↓sl_0, ↓sl_s, ↓fr_leaf, ↓fr_ls, ↓ok_t, ↓ok_l, ↓br_t, ↓br_f, decide_true, decide_false, Int.reduceEq, ↓bl_b, ↓il_b, ↓le_l, ↓gp_top, ↓cl_0, ↓cl_e, ↓cl_v, ↓nxt_nx, ↓nxt_rt, ↓nxt_bk, ↓nxt_ct, ↓sa_0, ↓sa_s, ↓rg1_i, ↓rg2_i, ↓itm_l, ↓itm_t, ↓itm_o, ↓fin_rt, ↓fin_nx, ↓lpk_nx, ↓lpk_ct, ↓lpk_bk, ↓lpk_rt, ↓wcl_nil, ↓wf_nil,
  ↓w_enum, ↓w_zip, ↓enm_l, ↓enm_o, ↓zp_ll, ↓zp_lo, ↓zp_ol, ↓zp_oo, ↓zp_tt, ↓p_isLTi, ↓p_isLTn, ↓p_isSi, ↓p_isBn, ↓p_extend, p_extendS, p_appendS, List.isEmpty_nil, ↓w_dicO, ↓dicO_list, zip_cc, zip_nn, ↓at_0, ↓at_1, ↓at_2, ↓at_3, ↓at_4, p_insertS, ↓p_mulO, ↓p_repB, ↓p_rep0, ↓p_rep1, ↓w_while, ↓p_insert, ↓at_last, ↓put_last, ↓p_inl, ↓p_inL, ↓p_ninl, ↓p_ninL, ↓p_eqP0, ↓p_neP0, ↓p_neA, ↓p_eq00, ↓p_ne00, ↓p_ixp0, ↓p_ixp1, ↓w_gTp, ↓p_isLTb, ↓p_isLTs, ↓p_isIb, ↓p_isBb, ↓p_isSb, ↓p_isLb, ↓p_isTb, ↓p_isIs, ↓p_isBs, ↓p_isSs, ↓p_isLs, ↓p_isTs, ↓p_isLi, ↓p_isTi, ↓p_isLn, ↓p_isTn, ↓p_isSn, ↓p_isNb, ↓p_isNs, ↓p_isNt, ↓p_isNl, ↓p_isNp, ↓p_eqTT, ↓p_eqTF, ↓p_eqFT, ↓p_eqFF, ↓p_neTT, ↓p_neTF, ↓p_neFT, ↓p_neFF, ↓p_eqBs, ↓p_eqSs, ↓p_eqIs, ↓w_chain4, ↓p_lrg1, ↓p_lrg2, ↓p_maxL, ↓p_maxl, ↓p_minL, ↓p_minl, ↓w_getE, ↓w_emptyK, ↓w_emptyT, ↓p_dixi, ↓p_dixs, ↓p_dini, ↓p_dins, ↓p_dgi, ↓p_dgs, ↓p_dputi, ↓p_dputs, ↓p_extA, ↓p_extAl, p_extAS, p_extASl, ↓w_bor, fl_b, fl_i, fl_n, fl_s, ↓w_enumA, ↓enma_l, ↓enma_t, ↓enma_o, eq_self, ↓w_strM, ↓sv_s, ↓p_eqS, ↓p_neS, ↓p_isTp, ↓p_lenp, ↓itm_p, ↓p_neBs, line_racks, racks_line, ↓p_sub, ↓p_add, ↓p_ipadd, ↓p_mul, ↓p_div, ↓p_mod, ↓p_pow, ↓p_neg, ↓p_eq, ↓p_ne, ↓p_lt, ↓p_gt, ↓p_le, ↓p_ge, ↓p_max, ↓p_min, ↓p_abs, ↓p_intI, ↓p_intB, ↓p_isaI, ↓p_isaB, ↓p_isaNI, ↓p_isNI, ↓p_isNN, ↓p_isNo, ↓p_eqo, ↓p_neo, ↓p_divmod, ↓p_catL, ↓p_catLl, ↓p_catlL, ↓p_catll, ↓p_len, ↓p_lenl, ↓p_lent, ↓p_list, ↓p_listl, ↓p_listt, ↓p_tuple, ↓p_tuplel, ↓p_tuplet, ↓p_rev, ↓p_revl, ↓p_ix, ↓p_ixl, ↓p_ixt, ↓p_append, ↓p_reverse, ↓p_sum, ↓p_suml, ↓p_any, ↓p_all, ↓p_eqLL, ↓p_eqLl, ↓p_eqlL, ↓p_eqll, ↓p_eqL0, ↓p_eql0, ↓p_neLL, ↓p_neLl, ↓p_nelL, ↓p_nell, ↓p_neL0, ↓p_nel0,
  ↓gp_cells, ↓gp_turn, ↓put_turn, ↓put_cells, ↓putP_top, wipeE, lv_0, lv_s,
  List.set_cons_zero, List.set_cons_succ, List.length_cons, List.length_nil, List.map_cons, List.map_nil, finR, List.replicate, List.replicate_succ, List.replicate_zero, List.cons_append, List.nil_append, true_and, and_true, List.tail_cons, List.head?_cons, Option.join_some, List.contains_nil, Bool.false_eq_true, if_false, if_true, List.all_nil, and_self, Int.reduceToNat, Int.reducePow, Nat.reduceSub, Nat.reduceAdd, Int.reduceAdd, Int.reduceMul, Int.reduceSub, Int.reduceNeg, Int.reduceLT, Int.reduceLE, Int.natAbs, Nat.reduceLT, Nat.reduceLeDiff, Nat.reducePow])
local macro_rules | `(tactic| walk_at "mve") => `(tactic| try simp only [↓w_cst, ↓w_var, ↓w_mv, ↓w_fz, ↓w_frz, ↓w_bin, ↓w_un, ↓w_binV, ↓w_asB, ↓w_yes, ↓w_not, ↓w_and, ↓w_or, ↓w_andE, ↓w_orE, ↓w_notE, ↓w_chain, ↓w_nil, ↓w_cons, ↓w_tup, ↓w_lst, ↓w_pl, ↓w_mut, ↓w_c0, ↓w_ce, ↓w_cv, ↓w_call', ↓wb_0, ↓wb_e, ↓wb_v, wb_e', ↓wo_leaf, ↓wo_ls, ↓wo_dic, ↓wo_dct, ↓wo_st, ↓wo_s, own_0, own_s, oi_0, oi_e, oi_v, isl_st, isl_leaf, isl_ls, Bool.not_false, Bool.not_true, List.nodup_cons, List.nodup_nil, List.not_mem_nil, not_false_eq_true, ↓w_seq, ↓w_skip, ↓w_brk, ↓w_cont, ↓w_retN, ↓w_set, ↓w_drop, ↓w_ret, ↓w_retV, ↓w_ifS, ↓w_fzS, ↓w_asg, ↓w_gN, ↓w_gT, ↓w_gNl, ↓w_gCn, ↓w_gSub, ↓w_par, ↓w_aug, ↓w_int, ↓w_slice, ↓w_rng1, ↓w_rng2, ↓w_seqI, ↓w_comp, ↓w_for,
  ↓sl_0, ↓sl_s, ↓fr_leaf, ↓fr_ls, ↓ok_t, ↓ok_l, ↓br_t, ↓br_f, decide_true, decide_false, Int.reduceEq, ↓bl_b, ↓il_b, ↓le_l, ↓gp_top, ↓cl_0, ↓cl_e, ↓cl_v, ↓nxt_nx, ↓nxt_rt, ↓nxt_bk, ↓nxt_ct, ↓sa_0, ↓sa_s, ↓rg1_i, ↓rg2_i, ↓itm_l, ↓itm_t, ↓itm_o, ↓fin_rt, ↓fin_nx, ↓lpk_nx, ↓lpk_ct, ↓lpk_bk, ↓lpk_rt, ↓wcl_nil, ↓wf_nil,
  ↓w_enum, ↓w_zip, ↓enm_l, ↓enm_o, ↓zp_ll, ↓zp_lo, ↓zp_ol, ↓zp_oo, ↓zp_tt, ↓p_isLTi, ↓p_isLTn, ↓p_isSi, ↓p_isBn, ↓p_extend, p_extendS, p_appendS, List.isEmpty_nil, ↓w_dicO, ↓dicO_list, zip_cc, zip_nn, ↓at_0, ↓at_1, ↓at_2, ↓at_3, ↓at_4, p_insertS, ↓p_mulO, ↓p_repB, ↓p_rep0, ↓p_rep1, ↓w_while, ↓p_insert, ↓at_last, ↓put_last, ↓p_inl, ↓p_inL, ↓p_ninl, ↓p_ninL, ↓p_eqP0, ↓p_neP0, ↓p_neA, ↓p_eq00, ↓p_ne00, ↓p_ixp0, ↓p_ixp1, ↓w_gTp, ↓p_isLTb, ↓p_isLTs, ↓p_isIb, ↓p_isBb, ↓p_isSb, ↓p_isLb, ↓p_isTb, ↓p_isIs, ↓p_isBs, ↓p_isSs, ↓p_isLs, ↓p_isTs, ↓p_isLi, ↓p_isTi, ↓p_isLn, ↓p_isTn, ↓p_isSn, ↓p_isNb, ↓p_isNs, ↓p_isNt, ↓p_isNl, ↓p_isNp, ↓p_eqTT, ↓p_eqTF, ↓p_eqFT, ↓p_eqFF, ↓p_neTT, ↓p_neTF, ↓p_neFT, ↓p_neFF, ↓p_eqBs, ↓p_eqSs, ↓p_eqIs, ↓w_chain4, ↓p_lrg1, ↓p_lrg2, ↓p_maxL, ↓p_maxl, ↓p_minL, ↓p_minl, ↓w_getE, ↓w_emptyK, ↓w_emptyT, ↓p_dixi, ↓p_dixs, ↓p_dini, ↓p_dins, ↓p_dgi, ↓p_dgs, ↓p_dputi, ↓p_dputs, ↓p_extA, ↓p_extAl, p_extAS, p_extASl, ↓w_bor, fl_b, fl_i, fl_n, fl_s, ↓w_enumA, ↓enma_l, ↓enma_t, ↓enma_o, eq_self, ↓w_strM, ↓sv_s, ↓p_eqS, ↓p_neS, ↓p_isTp, ↓p_lenp, ↓itm_p, ↓p_neBs, line_racks, racks_line, ↓p_sub, ↓p_add, ↓p_ipadd, ↓p_mul, ↓p_div, ↓p_mod, ↓p_pow, ↓p_neg, ↓p_eq, ↓p_ne, ↓p_lt, ↓p_gt, ↓p_le, ↓p_ge, ↓p_max, ↓p_min, ↓p_abs, ↓p_intI, ↓p_intB, ↓p_isaI, ↓p_isaB, ↓p_isaNI, ↓p_isNI, ↓p_isNN, ↓p_isNo, ↓p_eqo, ↓p_neo, ↓p_divmod, ↓p_catL, ↓p_catLl, ↓p_catlL, ↓p_catll, ↓p_len, ↓p_lenl, ↓p_lent, ↓p_list, ↓p_listl, ↓p_listt, ↓p_tuple, ↓p_tuplel, ↓p_tuplet, ↓p_rev, ↓p_revl, ↓p_ix, ↓p_ixl, ↓p_ixt, ↓p_append, ↓p_reverse, ↓p_sum, ↓p_suml, ↓p_any, ↓p_all, ↓p_eqLL, ↓p_eqLl, ↓p_eqlL, ↓p_eqll, ↓p_eqL0, ↓p_eql0, ↓p_neLL, ↓p_neLl, ↓p_nelL, ↓p_nell, ↓p_neL0, ↓p_nel0,
  ↓gp_cells, ↓gp_turn, ↓put_turn, ↓put_cells, ↓putP_top, wipeE, lv_0, lv_s,
  List.set_cons_zero, List.set_cons_succ, List.length_cons, List.length_nil, List.map_cons, List.map_nil, finR, List.replicate, List.replicate_succ, List.replicate_zero, List.cons_append, List.nil_append, true_and, and_true, List.tail_cons, List.head?_cons, Option.join_some, List.contains_nil, Bool.false_eq_true, if_false, if_true, List.all_nil, and_self, Int.reduceToNat, Int.reducePow, Nat.reduceSub, Nat.reduceAdd, Int.reduceAdd, Int.reduceMul, Int.reduceSub, Int.reduceNeg, Int.reduceLT, Int.reduceLE, Int.natAbs, Nat.reduceLT, Nat.reduceLeDiff, Nat.reducePow])
local macro_rules | `(tactic| walk_at "mv1") => `(tactic| try simp only [↓ok_t, ↓ok_l, ↓nxt_nx, ↓nxt_rt, ↓w_seq, ↓fin_rt, ↓fin_nx, ↓lpk_nx, ↓lpk_ct, ↓lpk_bk, ↓lpk_rt, wipeE, List.set_cons_zero, List.set_cons_succ, true_and, and_true])
local macro_rules | `(tactic| walk_at "mvs") => `(tactic| try simp only [↓sl_0, ↓sl_s, ↓fr_leaf, ↓fr_ls, ↓ok_t, ↓ok_l, ↓nxt_nx, ↓nxt_rt, ↓w_seq, ↓fin_rt, ↓fin_nx, ↓lpk_nx, ↓lpk_ct, ↓lpk_bk, ↓lpk_rt, wipeE, List.set_cons_zero, List.set_cons_succ, true_and, and_true])
local macro_rules | `(tactic| walk_at "mvp") => `(tactic| try simp only [↓w_cst, ↓w_var, ↓w_mv, ↓w_fz, ↓w_frz, ↓w_bin, ↓w_un, ↓w_binV, ↓w_if, ↓w_asB, ↓w_yes, ↓w_not, ↓w_and, ↓w_or, ↓w_andE, ↓w_orE, ↓w_notE, ↓w_chain, ↓w_nil, ↓w_cons, ↓w_tup, ↓w_lst, ↓w_pl, ↓w_mut, ↓w_c0, ↓w_ce, ↓w_cv, ↓w_call', ↓wb_0, ↓wb_e, ↓wb_v, wb_e', ↓wo_leaf, ↓wo_ls, ↓wo_dic, ↓wo_dct, ↓wo_st, ↓wo_s, own_0, own_s, oi_0, oi_e, oi_v, isl_st, isl_leaf, isl_ls, Bool.not_false, Bool.not_true, List.nodup_cons, List.nodup_nil, List.not_mem_nil, not_false_eq_true, ↓w_seq, ↓w_skip, ↓w_brk, ↓w_cont, ↓w_retN, ↓w_set, ↓w_drop, ↓w_ret, ↓w_retV, ↓w_fzS, ↓w_asg, ↓w_gN, ↓w_gT, ↓w_gNl, ↓w_gCn, ↓w_gSub, ↓w_par, ↓w_aug, ↓w_int, ↓w_slice, ↓w_rng1, ↓w_rng2, ↓w_seqI, ↓w_comp, ↓w_for,
  ↓sl_0, ↓sl_s, ↓fr_leaf, ↓fr_ls, ↓ok_t, ↓ok_l, ↓br_t, ↓br_f, decide_true, decide_false, Int.reduceEq, ↓bl_b, ↓il_b, ↓le_l, ↓gp_top, ↓cl_0, ↓cl_e, ↓cl_v, ↓nxt_nx, ↓nxt_rt, ↓nxt_bk, ↓nxt_ct, ↓sa_0, ↓sa_s, ↓rg1_i, ↓rg2_i, ↓itm_l, ↓itm_t, ↓itm_o, ↓fin_rt, ↓fin_nx, ↓lpk_nx, ↓lpk_ct, ↓lpk_bk, ↓lpk_rt, ↓wcl_nil, ↓wf_nil,
  ↓w_enum, ↓w_zip, ↓enm_l, ↓enm_o, ↓zp_ll, ↓zp_lo, ↓zp_ol, ↓zp_oo, ↓zp_tt, ↓p_isLTi, ↓p_isLTn, ↓p_isSi, ↓p_isBn, ↓p_extend, p_extendS, p_appendS, List.isEmpty_nil, ↓w_dicO, ↓dicO_list, zip_cc, zip_nn, ↓at_0, ↓at_1, ↓at_2, ↓at_3, ↓at_4, p_insertS, ↓p_mulO, ↓p_repB, ↓p_rep0, ↓p_rep1, ↓w_while, ↓p_insert, ↓at_last, ↓put_last, ↓p_inl, ↓p_inL, ↓p_ninl, ↓p_ninL, ↓p_eqP0, ↓p_neP0, ↓p_neA, ↓p_eq00, ↓p_ne00, ↓p_ixp0, ↓p_ixp1, ↓w_gTp, ↓p_isLTb, ↓p_isLTs, ↓p_isIb, ↓p_isBb, ↓p_isSb, ↓p_isLb, ↓p_isTb, ↓p_isIs, ↓p_isBs, ↓p_isSs, ↓p_isLs, ↓p_isTs, ↓p_isLi, ↓p_isTi, ↓p_isLn, ↓p_isTn, ↓p_isSn, ↓p_isNb, ↓p_isNs, ↓p_isNt, ↓p_isNl, ↓p_isNp, ↓p_eqTT, ↓p_eqTF, ↓p_eqFT, ↓p_eqFF, ↓p_neTT, ↓p_neTF, ↓p_neFT, ↓p_neFF, ↓p_eqBs, ↓p_eqSs, ↓p_eqIs, ↓w_chain4, ↓p_lrg1, ↓p_lrg2, ↓p_maxL, ↓p_maxl, ↓p_minL, ↓p_minl, ↓w_getE, ↓w_emptyK, ↓w_emptyT, ↓p_dixi, ↓p_dixs, ↓p_dini, ↓p_dins, ↓p_dgi, ↓p_dgs, ↓p_dputi, ↓p_dputs, ↓p_extA, ↓p_extAl, p_extAS, p_extASl, ↓w_bor, fl_b, fl_i, fl_n, fl_s, ↓w_enumA, ↓enma_l, ↓enma_t, ↓enma_o, eq_self, ↓w_strM, ↓sv_s, ↓p_eqS, ↓p_neS, ↓p_isTp, ↓p_lenp, ↓itm_p, ↓p_neBs, line_racks, racks_line, ↓p_sub, ↓p_add, ↓p_ipadd, ↓p_mul, ↓p_div, ↓p_mod, ↓p_pow, ↓p_neg, ↓p_eq, ↓p_ne, ↓p_lt, ↓p_gt, ↓p_le, ↓p_ge, ↓p_max, ↓p_min, ↓p_abs, ↓p_intI, ↓p_intB, ↓p_isaI, ↓p_isaB, ↓p_isaNI, ↓p_isNI, ↓p_isNN, ↓p_isNo, ↓p_eqo, ↓p_neo, ↓p_divmod, ↓p_catL, ↓p_catLl, ↓p_catlL, ↓p_catll, ↓p_len, ↓p_lenl, ↓p_lent, ↓p_list, ↓p_listl, ↓p_listt, ↓p_tuple, ↓p_tuplel, ↓p_tuplet, ↓p_rev, ↓p_revl, ↓p_ix, ↓p_ixl, ↓p_ixt, ↓p_append, ↓p_reverse, ↓p_sum, ↓p_suml, ↓p_any, ↓p_all, ↓p_eqLL, ↓p_eqLl, ↓p_eqlL, ↓p_eqll, ↓p_eqL0, ↓p_eql0, ↓p_neLL, ↓p_neLl, ↓p_nelL, ↓p_nell, ↓p_neL0, ↓p_nel0,
  ↓gp_cells, ↓gp_turn, ↓put_turn, ↓put_cells, ↓putP_top, wipeE, lv_0, lv_s,
  List.set_cons_zero, List.set_cons_succ, List.length_cons, List.length_nil, List.map_cons, List.map_nil, finR, List.replicate, List.replicate_succ, List.replicate_zero, List.cons_append, List.nil_append, true_and, and_true, List.tail_cons, List.head?_cons, Option.join_some, List.contains_nil, Bool.false_eq_true, if_false, if_true, List.all_nil, and_self, Int.reduceToNat, Int.reducePow, Nat.reduceSub, Nat.reduceAdd, Int.reduceAdd, Int.reduceMul, Int.reduceSub, Int.reduceNeg, Int.reduceLT, Int.reduceLE, Int.natAbs, Nat.reduceLT, Nat.reduceLeDiff, Nat.reducePow])
theorem marked_by {st : List Int × Int} {n g sz : Int} {nm : Str} {ws : List Str} {ps : List Pa} (h : St st n) (hn : n ≤ 100000000000000) (hg : g = 0 ∨ g = 1) (hw : ws.length ≤ 3) (hnd : ws.Nodup) (hl : ps.length ≤ 12) (h0 : 0 < sz) (h1 : sz < 1000000000000000000000000000000000000000000) {Q : O → List (Option O) → Prop}
    (k : ∀ (rows : List MRow) st' os, rows.length ≤ 3 → (rows.map (·.1)).Nodup → (∀ r ∈ rows, Cn r.2 ∧ r.2.length ≤ 3) → St st' (n + 200) → Q (.ls (rows.map mkD)) (some (stO st') :: os)) : Wd g_l_marked_by [stO st, .leaf (.list (ws.map .str)), .leaf (encPk nm sz ps), .leaf (.int g)] Q := by
  have kk : ∃ kd : Int, (∀ {P : D → Prop}, P (.int kd) → At [PyData.int 1, .int 3] g P) ∧ 0 ≤ kd := by
    rcases hg with rfl | rfl
    · exact ⟨1, fun z => at_0.mpr z, by decide⟩
    · exact ⟨3, fun z => at_1.mpr z, by decide⟩
  obtain ⟨kd, ka, kb⟩ := kk
  have ix1 : ∀ {Q : O → Prop}, Op2 oIx (.leaf (encPk nm sz ps)) (.leaf (.int 1)) Q ↔ Q (.leaf (.int sz)) := Iff.rfl
  have ix2 : ∀ {Q : O → Prop}, Op2 oIx (.leaf (encPk nm sz ps)) (.leaf (.int 2)) Q ↔ Q (.leaf (.list (ps.map paT))) := Iff.rfl
  unfold g_l_marked_by
  rw [w_def]
  unfold b_l_marked_by
  walk_at "mv"
  refine wf_fold (I := fun r e => ∃ (s : List Int × Int) (rows : List MRow) (done : List Str) (x1 x2 x3 x4 x5 x6 x7 x8 : Option O), e = [some (stO s), some (.leaf (.list (ws.map .str))), some (.leaf (encPk nm sz ps)), some (.leaf (.int g)), some (.ls (rows.map mkD)), x1, x2, x3, x4, x5, x6, x7, x8] ∧ done ++ r = ws ∧ rows.length ≤ done.length ∧ (rows.map (·.1)).Nodup ∧ (∀ r ∈ rows, r.1 ∈ done ∧ Cn r.2 ∧ r.2.length ≤ 3) ∧ St s (n + 60 * done.length)) (fun mk r e hi => ?_) (fun e hi => ?_) ⟨st, [], [], _, _, _, _, _, _, _, _, rfl, rfl, Nat.le_refl _, List.nodup_nil, (by intro r hr; cases hr), h.le (by simp)⟩
  · obtain ⟨s, rows, done, x1, x2, x3, x4, x5, x6, x7, x8, rfl, e1, e2, e3, e4, h2⟩ := hi
    have hdl : done.length < 3 := by
      have := congrArg List.length e1
      rw [List.length_append, List.length_cons] at this
      omega
    have hmk : mk ∉ done := fun z => by
      rw [← e1, List.nodup_append] at hnd
      exact hnd.2.2 mk z mk List.mem_cons_self rfl
    have hd : done ++ [mk] ++ r = ws := by rw [List.append_assoc]; exact e1
    walk_at "mv"
    refine tk h2 (by omega) (by decide) (by decide) fun q s1 q1 q2 h3 => ?_
    walk_at "mv"
    refine ⟨by omega, ?_⟩
    refine wf_inv (k := 0) (I := fun j e => ∃ (s : List Int × Int) (ps2 : List Rg) (x2 x3 x4 x5 x6 x7 : Option O), e = [some (stO s), some (.leaf (.list (ws.map .str))), some (.leaf (encPk nm sz ps)), some (.leaf (.int g)), some (.ls (rows.map mkD)), some (.leaf (.str mk)), some (.ls (ps2.map pD)), x2, x3, x4, x5, x6, x7] ∧ ps2.length = j ∧ St s (n + 60 * done.length + 1 + 16 * j)) (fun j t e ht hi => ?_) ⟨s1, [], _, _, _, _, _, _, rfl, rfl, h3.le (by omega)⟩ fun e hi => ?_
    · obtain ⟨s, ps2, x2, x3, x4, x5, x6, x7, rfl, hj1, h4⟩ := hi
      obtain ⟨rfl, hj⟩ := range_get ht
      rw [Nat.zero_add] at hj1 h4 ⊢
      walk_at "mv"
      refine ka ?_
      walk_at "mv"
      refine number h4 (by omega) kb fun f s2 os f0 f1 _ _ h5 => ?_
      walk_at "mv"
      rw [ix2]
      walk_at "mv"
      refine ⟨by rw [List.length_map]; omega, ?_⟩
      refine wcl_map (p := fun p : Pa => decide (p.k = mk)) (g := paT) (fun p hp => ?_) ?_
      · simp only [paT]
        walk_at "mv"
        split <;> trivial
      obtain ⟨so, hso⟩ : ∃ so, so = ps.filter fun p => decide (p.k = mk) := ⟨_, rfl⟩
      have sol : so.length ≤ 12 := by
        rw [hso]
        exact Nat.le_trans (List.length_filter_le _ _) hl
      rw [← hso]
      walk_at "mvp"
      refine O2.mono (Q := fun o e => o = .nx ∧ ∃ (s3 : List Int × Int) (f' : Int) (y1 y2 y3 y4 : Option O), e = [some (stO s3), some (.leaf (.list (ws.map .str))), some (.leaf (encPk nm sz ps)), some (.leaf (.int g)), some (.ls (rows.map mkD)), some (.leaf (.str mk)), some (.ls (ps2.map pD)), some (.leaf (.int (j : Int))), some (.leaf (.int f')), y1, y2, y3, y4] ∧ St s3 (n + 60 * done.length + 1 + 16 * j + 9)) (?_ : Ws _ _ _) ?_
      · walk_at "mv"
        rw [eq0E (neg := true) rfl rfl (n := 3) (by decide) (fun t ht => by
          obtain ⟨p, _, rfl⟩ := List.mem_map.mp ht
          exact smz_okz smz_paT)]
        walk_at "mv"
        refine brb (fun hne => ?_) fun hne => ?_
        · have hps : so ≠ [] := by
            rintro rfl
            simp at hne
          have hpl : 0 < so.length := List.length_pos_iff.mpr hps
          walk_at "mv"
          refine tk h5 (by omega) (by decide) (by decide) fun q s3 q1 q2 h6 => ?_
          walk_at "mv"
          refine br (fun hq => ?_) fun hq => ?_
          · walk_at "mv"
            rw [List.length_map]
            refine tk h6 (by omega) (by omega) (by omega) fun r s4 r1 r2 h7 => ?_
            walk_at "mv"
            refine at_get r1 (by rw [List.length_map]; omega) fun t' ht' => ?_
            obtain ⟨p, hp, rfl⟩ := List.mem_map.mp (List.mem_of_getElem? ht')
            simp only [paT]
            walk_at "mv"
            rw [ix1]
            walk_at "mv"
            refine tk h7 (by omega) (by decide) (by decide) fun v s5 v1 v2 h8 => ?_
            walk_at "mv"
            refine ⟨mulOk (by omega) (by omega) (by omega) (by omega), ?_⟩
            refine tk h8 (by omega) (by decide) (by decide) fun u s6 u1 u2 h9 => ?_
            walk_at "mv"
            refine at_ints (ns := [p.f, p.l, p.f + sz * v, p.f + sz * v - 1, p.f - 1, p.l + 1]) u1 (by simpa using u2) fun w hw' => ?_
            walk_at "mv"
            exact ⟨s6, _, _, _, _, _, rfl, h9.le (by omega)⟩
          · walk_at "mv"
            exact ⟨s3, f, _, _, _, _, rfl, h6.le (by omega)⟩
        · walk_at "mv"
          exact ⟨s2, f, _, _, _, _, rfl, h5.le (by omega)⟩
      · rintro o e ⟨rfl, s3, f', y1, y2, y3, y4, rfl, h6⟩
        walk_at "mv1"
        walk_at "mv"
        refine ka ?_
        walk_at "mv"
        refine tk h6 (by omega) (by decide) (by decide) fun v s5 v1 v2 h7 => ?_
        walk_at "mv"
        refine at_ints (ns := [0, kd]) v1 (by simpa using v2) fun w hw' => ?_
        have hw'' := List.mem_of_getElem? hw'
        simp only [List.mem_cons, List.not_mem_nil, or_false] at hw''
        walk_at "mv"
        refine number h7 (by omega) (by omega) fun d2 s6 os e0 e1 e2 e3 h8 => ?_
        walk_at "mv"
        exact ⟨by rw [List.length_map]; omega, by rw [List.length_map]; omega, s6, ps2 ++ [(f', f' + d2)], _, _, _, _, _, _, by rw [map_snoc], by rw [List.length_append, hj1]; rfl, h8.le (by omega)⟩
    · obtain ⟨s, ps2, x2, x3, x4, x5, x6, x7, rfl, hj1, h4⟩ := hi
      rw [range_ints, List.length_map, List.length_map, List.length_range, Nat.zero_add] at hj1 h4
      have p3 : ps2.length ≤ 3 := by omega
      walk_at "mv"
      refine tk h4 (by omega) (by decide) (by decide) fun v s5 v1 v2 h7 => ?_
      walk_at "mv"
      refine br (fun hv => ?_) fun hv => ?_
      · walk_at "mv"
        rw [List.length_map]
        refine tk h7 (by omega) (by omega) (by omega) fun i s6 i1 i2 h8 => ?_
        walk_at "mv"
        refine lset_of (ps := ps2) (.inl rfl) (by omega) fun os => ?_
        have so := setOf_ok ps2
        walk_at "mv"
        have ei : (rows.map mkD).take i.toNat ++ [PyData.tuple [.str mk, .list ((setOf ps2).map pD)]] ++ (rows.map mkD).drop i.toNat = (rows.take i.toNat ++ [(mk, setOf ps2)] ++ rows.drop i.toNat).map mkD := by
          rw [List.map_append, List.map_append, List.map_take, List.map_drop]
          rfl
        have hper : (rows.take i.toNat ++ [(mk, setOf ps2)] ++ rows.drop i.toNat).Perm ((mk, setOf ps2) :: rows) := by
          rw [List.append_assoc]
          refine (List.perm_middle (l₁ := rows.take i.toNat) (a := (mk, setOf ps2)) (l₂ := rows.drop i.toNat)).trans ?_
          rw [List.take_append_drop]
        refine ⟨⟨by rw [List.length_map]; omega, by omega, by omega⟩, ⟨by rw [List.length_map]; omega, by omega, by omega⟩, s6, rows.take i.toNat ++ [(mk, setOf ps2)] ++ rows.drop i.toNat, done ++ [mk], _, _, _, _, _, _, _, _, by rw [ei], hd, ?_, ?_, fun r hr => ?_, h8.le (by rw [List.length_append, List.length_singleton]; omega)⟩
        · rw [hper.length_eq, List.length_append, List.length_cons]
          simp only [List.length_cons, List.length_nil]
          omega
        · rw [(hper.map (·.1)).nodup_iff, List.map_cons, List.nodup_cons]
          refine ⟨fun z => ?_, e3⟩
          obtain ⟨q, hq, e⟩ := List.mem_map.mp z
          simp only at e
          exact hmk (by rw [← e]; exact (e4 q hq).1)
        · rcases List.mem_cons.mp (hper.mem_iff.mp hr) with rfl | z
          · exact ⟨by simp, so.1, by have := so.2.2; simp only; omega⟩
          · obtain ⟨a, b⟩ := e4 r z
            exact ⟨List.mem_append_left _ a, b⟩
      · walk_at "mv"
        exact ⟨s5, rows, done ++ [mk], _, _, _, _, _, _, _, _, rfl, hd, by rw [List.length_append]; omega, e3, fun r hr => ⟨List.mem_append_left _ (e4 r hr).1, (e4 r hr).2⟩, h7.le (by rw [List.length_append, List.length_singleton]; omega)⟩
  · obtain ⟨s, rows, done, x1, x2, x3, x4, x5, x6, x7, x8, rfl, e1, e2, e3, e4, h2⟩ := hi
    rw [List.append_nil] at e1
    subst e1
    walk_at "mv"
    exact k _ _ _ (by omega) e3 (fun r hr => (e4 r hr).2) (h2.le (by omega))

end L26
end

set_option Elab.async false
set_option linter.all false
set_option maxRecDepth 100000
set_option maxHeartbeats 4000000
noncomputable section
namespace L26
open PySem PySem.Spec PyProof.Rows L2 Mv
local macro_rules | `(tactic| walk_at "mv") => `(tactic| try simp only [↓w_cst, ↓w_var, ↓w_mv, ↓w_fz, ↓w_frz, ↓w_bin, ↓w_un, ↓w_binV, ↓w_if, ↓w_asB, ↓w_yes, ↓w_not, ↓w_and, ↓w_or, ↓w_andE, ↓w_orE, ↓w_notE, ↓w_chain, ↓w_nil, ↓w_cons, ↓w_tup, ↓w_lst, ↓w_pl, ↓w_mut, ↓w_c0, ↓w_ce, ↓w_cv, ↓w_call', ↓wb_0, ↓wb_e, ↓wb_v, wb_e', ↓wo_leaf, ↓wo_ls, ↓wo_dic, ↓wo_dct, ↓wo_st, ↓wo_s, own_0, own_s, oi_0, oi_e, oi_v, isl_st, isl_leaf, isl_ls, Bool.not_false, Bool.not_true, List.nodup_cons, List.nodup_nil, List.not_mem_nil, not_false_eq_true, ↓w_seq, ↓w_skip, ↓w_brk, ↓w_cont, ↓w_retN, ↓w_set, ↓w_drop, ↓w_ret, ↓w_retV, ↓w_ifS, ↓w_fzS, ↓w_asg, ↓w_gN, ↓w_gT, ↓w_gNl, ↓w_gCn, ↓w_gSub, ↓w_par, ↓w_aug, ↓w_int, ↓w_slice, ↓w_rng1, ↓w_rng2, ↓w_seqI, ↓w_comp, ↓w_for,
  ↓sl_0, ↓sl_s, ↓fr_leaf, ↓fr_ls, ↓ok_t, ↓ok_l, ↓br_t, ↓br_f, decide_true, decide_false, Int.reduceEq, ↓bl_b, ↓il_b, ↓le_l, ↓gp_top, ↓cl_0, ↓cl_e, ↓cl_v, ↓nxt_nx, ↓nxt_rt, ↓nxt_bk, ↓nxt_ct, ↓sa_0, ↓sa_s, ↓rg1_i, ↓rg2_i, ↓itm_l, ↓itm_t, ↓itm_o, ↓fin_rt, ↓fin_nx, ↓lpk_nx, ↓lpk_ct, ↓lpk_bk, ↓lpk_rt, ↓wcl_nil, ↓wf_nil,
  ↓w_enum, ↓w_zip, ↓enm_l, ↓enm_o, ↓zp_ll, ↓zp_lo, ↓zp_ol, ↓zp_oo, ↓zp_tt, ↓p_isLTi, ↓p_isLTn, ↓p_isSi, ↓p_isBn, ↓p_extend, p_extendS, p_appendS, List.isEmpty_nil, ↓w_dicO, ↓dicO_list, zip_cc, zip_nn, ↓at_0, ↓at_1, ↓at_2, ↓at_3, ↓at_4, p_insertS, ↓p_mulO, ↓p_repB, ↓p_rep0, ↓p_rep1, ↓w_while, ↓p_insert, ↓at_last, ↓put_last, ↓p_inl, ↓p_inL, ↓p_ninl, ↓p_ninL, ↓p_eqP0, ↓p_neP0, ↓p_neA, ↓p_eq00, ↓p_ne00, ↓p_ixp0, ↓p_ixp1, ↓w_gTp, ↓p_isLTb, ↓p_isLTs, ↓p_isIb, ↓p_isBb, ↓p_isSb, ↓p_isLb, ↓p_isTb, ↓p_isIs, ↓p_isBs, ↓p_isSs, ↓p_isLs, ↓p_isTs, ↓p_isLi, ↓p_isTi, ↓p_isLn, ↓p_isTn, ↓p_isSn, ↓p_isNb, ↓p_isNs, ↓p_isNt, ↓p_isNl, ↓p_isNp, ↓p_eqTT, ↓p_eqTF, ↓p_eqFT, ↓p_eqFF, ↓p_neTT, ↓p_neTF, ↓p_neFT, ↓p_neFF, ↓p_eqBs, ↓p_eqSs, ↓p_eqIs, ↓w_chain4, ↓p_lrg1, ↓p_lrg2, ↓p_maxL, ↓p_maxl, ↓p_minL, ↓p_minl, ↓w_getE, ↓w_emptyK, ↓w_emptyT, ↓p_dixi, ↓p_dixs, ↓p_dini, ↓p_dins, ↓p_dgi, ↓p_dgs, ↓p_dputi, ↓p_dputs, ↓p_extA, ↓p_extAl, p_extAS, p_extASl, ↓w_bor, fl_b, fl_i, fl_n, fl_s, ↓w_enumA, ↓enma_l, ↓enma_t, ↓enma_o, eq_self, ↓w_strM, ↓sv_s, ↓p_eqS, ↓p_neS, ↓p_isTp, ↓p_lenp, ↓itm_p, ↓p_neBs, line_racks, racks_line, ↓p_sub, ↓p_add, ↓p_ipadd, ↓p_mul, ↓p_div, ↓p_mod, ↓p_pow, ↓p_neg, ↓p_eq, ↓p_ne, ↓p_lt, ↓p_gt, ↓p_le, ↓p_ge, ↓p_max, ↓p_min, ↓p_abs, ↓p_intI, ↓p_intB, ↓p_isaI, ↓p_isaB, ↓p_isaNI, ↓p_isNI, ↓p_isNN, ↓p_isNo, ↓p_eqo, ↓p_neo, ↓p_divmod, ↓p_catL, ↓p_catLl, ↓p_catlL, ↓p_catll, ↓p_len, ↓p_lenl, ↓p_lent, ↓p_list, ↓p_listl, ↓p_listt, ↓p_tuple, ↓p_tuplel, ↓p_tuplet, ↓p_rev, ↓p_revl, ↓p_ix, ↓p_ixl, ↓p_ixt, ↓p_append, ↓p_reverse, ↓p_sum, ↓p_suml, ↓p_any, ↓p_all, ↓p_eqLL, ↓p_eqLl, ↓p_eqlL, ↓p_eqll, ↓p_eqL0, ↓p_eql0, ↓p_neLL, ↓p_neLl, ↓p_nelL, ↓p_nell, ↓p_neL0, ↓p_nel0,
  ↓gp_cells, ↓gp_turn, ↓put_turn, ↓put_cells, ↓putP_top, wipeE, lv_0, lv_s,
  List.set_cons_zero, List.set_cons_succ, List.length_cons, List.length_nil, List.map_cons, List.map_nil, finR, List.replicate, List.replicate_succ, List.replicate_zero, List.cons_append, List.nil_append, true_and, and_true, List.tail_cons, List.head?_cons, Option.join_some, List.contains_nil, Bool.false_eq_true, if_false, if_true, List.all_nil, and_self, Int.reduceToNat, Int.reducePow, Nat.reduceSub, Nat.reduceAdd, Int.reduceAdd, Int.reduceMul, Int.reduceSub, Int.reduceNeg, Int.reduceLT, Int.reduceLE, Int.natAbs, Nat.reduceLT, Nat.reduceLeDiff, Nat.reducePow])
local macro_rules | `(tactic| walk_at "mve") => `(tactic| try simp only [↓w_cst, ↓w_var, ↓w_mv, ↓w_fz, ↓w_frz, ↓w_bin, ↓w_un, ↓w_binV, ↓w_asB, ↓w_yes, ↓w_not, ↓w_and, ↓w_or, ↓w_andE, ↓w_orE, ↓w_notE, ↓w_chain, ↓w_nil, ↓w_cons, ↓w_tup, ↓w_lst, ↓w_pl, ↓w_mut, ↓w_c0, ↓w_ce, ↓w_cv, ↓w_call', ↓wb_0, ↓wb_e, ↓wb_v, wb_e', ↓wo_leaf, ↓wo_ls, ↓wo_dic, ↓wo_dct, ↓wo_st, ↓wo_s, own_0, own_s, oi_0, oi_e, oi_v, isl_st, isl_leaf, isl_ls, Bool.not_false, Bool.not_true, List.nodup_cons, List.nodup_nil, List.not_mem_nil, not_false_eq_true, ↓w_seq, ↓w_skip, ↓w_brk, ↓w_cont, ↓w_retN, ↓w_set, ↓w_drop, ↓w_ret, ↓w_retV, ↓w_ifS, ↓w_fzS, ↓w_asg, ↓w_gN, ↓w_gT, ↓w_gNl, ↓w_gCn, ↓w_gSub, ↓w_par, ↓w_aug, ↓w_int, ↓w_slice, ↓w_rng1, ↓w_rng2, ↓w_seqI, ↓w_comp, ↓w_for,
  ↓sl_0, ↓sl_s, ↓fr_leaf, ↓fr_ls, ↓ok_t, ↓ok_l, ↓br_t, ↓br_f, decide_true, decide_false, Int.reduceEq, ↓bl_b, ↓il_b, ↓le_l, ↓gp_top, ↓cl_0, ↓cl_e, ↓cl_v, ↓nxt_nx, ↓nxt_rt, ↓nxt_bk, ↓nxt_ct, ↓sa_0, ↓sa_s, ↓rg1_i, ↓rg2_i, ↓itm_l, ↓itm_t, ↓itm_o, ↓fin_rt, ↓fin_nx, ↓lpk_nx, ↓lpk_ct, ↓lpk_bk, ↓lpk_rt, ↓wcl_nil, ↓wf_nil,
  ↓w_enum, ↓w_zip, ↓enm_l, ↓enm_o, ↓zp_ll, ↓zp_lo, ↓zp_ol, ↓zp_oo, ↓zp_tt, ↓p_isLTi, ↓p_isLTn, ↓p_isSi, ↓p_isBn, ↓p_extend, p_extendS, p_appendS, List.isEmpty_nil, ↓w_dicO, ↓dicO_list, zip_cc, zip_nn, ↓at_0, ↓at_1, ↓at_2, ↓at_3, ↓at_4, p_insertS, ↓p_mulO, ↓p_repB, ↓p_rep0, ↓p_rep1, ↓w_while, ↓p_insert, ↓at_last, ↓put_last, ↓p_inl, ↓p_inL, ↓p_ninl, ↓p_ninL, ↓p_eqP0, ↓p_neP0, ↓p_neA, ↓p_eq00, ↓p_ne00, ↓p_ixp0, ↓p_ixp1, ↓w_gTp, ↓p_isLTb, ↓p_isLTs, ↓p_isIb, ↓p_isBb, ↓p_isSb, ↓p_isLb, ↓p_isTb, ↓p_isIs, ↓p_isBs, ↓p_isSs, ↓p_isLs, ↓p_isTs, ↓p_isLi, ↓p_isTi, ↓p_isLn, ↓p_isTn, ↓p_isSn, ↓p_isNb, ↓p_isNs, ↓p_isNt, ↓p_isNl, ↓p_isNp, ↓p_eqTT, ↓p_eqTF, ↓p_eqFT, ↓p_eqFF, ↓p_neTT, ↓p_neTF, ↓p_neFT, ↓p_neFF, ↓p_eqBs, ↓p_eqSs, ↓p_eqIs, ↓w_chain4, ↓p_lrg1, ↓p_lrg2, ↓p_maxL, ↓p_maxl, ↓p_minL, ↓p_minl, ↓w_getE, ↓w_emptyK, ↓w_emptyT, ↓p_dixi, ↓p_dixs, ↓p_dini, ↓p_dins, ↓p_dgi, ↓p_dgs, ↓p_dputi, ↓p_dputs, ↓p_extA, ↓p_extAl, p_extAS, p_extASl, ↓w_bor, fl_b, fl_i, fl_n, fl_s, ↓w_enumA, ↓enma_l, ↓enma_t, ↓enma_o, eq_self, ↓w_strM, ↓sv_s, ↓p_eqS, ↓p_neS, ↓p_isTp, ↓p_lenp, ↓itm_p, ↓p_neBs, line_racks, racks_line, ↓p_sub, ↓p_add, ↓p_ipadd, ↓p_mul, ↓p_div, ↓p_mod, ↓p_pow, ↓p_neg, ↓p_eq, ↓p_ne, ↓p_lt, ↓p_gt, ↓p_le, ↓p_ge, ↓p_max, ↓p_min, ↓p_abs, ↓p_intI, ↓p_intB, ↓p_isaI, ↓p_isaB, ↓p_isaNI, ↓p_isNI, ↓p_isNN, ↓p_isNo, ↓p_eqo, ↓p_neo, ↓p_divmod, ↓p_catL, ↓p_catLl, ↓p_catlL, ↓p_catll, ↓p_len, ↓p_lenl, ↓p_lent, ↓p_list, ↓p_listl, ↓p_listt, ↓p_tuple, ↓p_tuplel, ↓p_tuplet, ↓p_rev, ↓p_revl, ↓p_ix, ↓p_ixl, ↓p_ixt, ↓p_append, ↓p_reverse, ↓p_sum, ↓p_suml, ↓p_any, ↓p_all, ↓p_eqLL, ↓p_eqLl, ↓p_eqlL, ↓p_eqll, ↓p_eqL0, ↓p_eql0, ↓p_neLL, ↓p_neLl, ↓p_nelL, ↓p_nell, ↓p_neL0, ↓p_nel0,
  ↓gp_cells, ↓gp_turn, ↓put_turn, ↓put_cells, ↓putP_top, wipeE, lv_0, lv_s,
  List.set_cons_zero, List.set_cons_succ, List.length_cons, List.length_nil, List.map_cons, List.map_nil, finR, List.replicate, List.replicate_succ, List.replicate_zero, List.cons_append, List.nil_append, true_and, and_true, List.tail_cons, List.head?_cons, Option.join_some, List.contains_nil, Bool.false_eq_true, if_false, if_true, List.all_nil, and_self, Int.reduceToNat, Int.reducePow, Nat.reduceSub, Nat.reduceAdd, Int.reduceAdd, Int.reduceMul, Int.reduceSub, Int.reduceNeg, Int.reduceLT, Int.reduceLE, Int.natAbs, Nat.reduceLT, Nat.reduceLeDiff, Nat.reducePow])
local macro_rules | `(tactic| walk_at "mv1") => `(tactic| try simp only [↓ok_t, ↓ok_l, ↓nxt_nx, ↓nxt_rt, ↓w_seq, ↓fin_rt, ↓fin_nx, ↓lpk_nx, ↓lpk_ct, ↓lpk_bk, ↓lpk_rt, wipeE, List.set_cons_zero, List.set_cons_succ, true_and, and_true])
local macro_rules | `(tactic| walk_at "mvs") => `(tactic| try simp only [↓sl_0, ↓sl_s, ↓fr_leaf, ↓fr_ls, ↓ok_t, ↓ok_l, ↓nxt_nx, ↓nxt_rt, ↓w_seq, ↓fin_rt, ↓fin_nx, ↓lpk_nx, ↓lpk_ct, ↓lpk_bk, ↓lpk_rt, wipeE, List.set_cons_zero, List.set_cons_succ, true_and, and_true])
local macro_rules | `(tactic| walk_at "mvp") => `(tactic| try simp only [↓w_cst, ↓w_var, ↓w_mv, ↓w_fz, ↓w_frz, ↓w_bin, ↓w_un, ↓w_binV, ↓w_if, ↓w_asB, ↓w_yes, ↓w_not, ↓w_and, ↓w_or, ↓w_andE, ↓w_orE, ↓w_notE, ↓w_chain, ↓w_nil, ↓w_cons, ↓w_tup, ↓w_lst, ↓w_pl, ↓w_mut, ↓w_c0, ↓w_ce, ↓w_cv, ↓w_call', ↓wb_0, ↓wb_e, ↓wb_v, wb_e', ↓wo_leaf, ↓wo_ls, ↓wo_dic, ↓wo_dct, ↓wo_st, ↓wo_s, own_0, own_s, oi_0, oi_e, oi_v, isl_st, isl_leaf, isl_ls, Bool.not_false, Bool.not_true, List.nodup_cons, List.nodup_nil, List.not_mem_nil, not_false_eq_true, ↓w_seq, ↓w_skip, ↓w_brk, ↓w_cont, ↓w_retN, ↓w_set, ↓w_drop, ↓w_ret, ↓w_retV, ↓w_fzS, ↓w_asg, ↓w_gN, ↓w_gT, ↓w_gNl, ↓w_gCn, ↓w_gSub, ↓w_par, ↓w_aug, ↓w_int, ↓w_slice, ↓w_rng1, ↓w_rng2, ↓w_seqI, ↓w_comp, ↓w_for,
  ↓sl_0, ↓sl_s, ↓fr_leaf, ↓fr_ls, ↓ok_t, ↓ok_l, ↓br_t, ↓br_f, decide_true, decide_false, Int.reduceEq, ↓bl_b, ↓il_b, ↓le_l, ↓gp_top, ↓cl_0, ↓cl_e, ↓cl_v, ↓nxt_nx, ↓nxt_rt, ↓nxt_bk, ↓nxt_ct, ↓sa_0, ↓sa_s, ↓rg1_i, ↓rg2_i, ↓itm_l, ↓itm_t, ↓itm_o, ↓fin_rt, ↓fin_nx, ↓lpk_nx, ↓lpk_ct, ↓lpk_bk, ↓lpk_rt, ↓wcl_nil, ↓wf_nil,
  ↓w_enum, ↓w_zip, ↓enm_l, ↓enm_o, ↓zp_ll, ↓zp_lo, ↓zp_ol, ↓zp_oo, ↓zp_tt, ↓p_isLTi, ↓p_isLTn, ↓p_isSi, ↓p_isBn, ↓p_extend, p_extendS, p_appendS, List.isEmpty_nil, ↓w_dicO, ↓dicO_list, zip_cc, zip_nn, ↓at_0, ↓at_1, ↓at_2, ↓at_3, ↓at_4, p_insertS, ↓p_mulO, ↓p_repB, ↓p_rep0, ↓p_rep1, ↓w_while, ↓p_insert, ↓at_last, ↓put_last, ↓p_inl, ↓p_inL, ↓p_ninl, ↓p_ninL, ↓p_eqP0, ↓p_neP0, ↓p_neA, ↓p_eq00, ↓p_ne00, ↓p_ixp0, ↓p_ixp1, ↓w_gTp, ↓p_isLTb, ↓p_isLTs, ↓p_isIb, ↓p_isBb, ↓p_isSb, ↓p_isLb, ↓p_isTb, ↓p_isIs, ↓p_isBs, ↓p_isSs, ↓p_isLs, ↓p_isTs, ↓p_isLi, ↓p_isTi, ↓p_isLn, ↓p_isTn, ↓p_isSn, ↓p_isNb, ↓p_isNs, ↓p_isNt, ↓p_isNl, ↓p_isNp, ↓p_eqTT, ↓p_eqTF, ↓p_eqFT, ↓p_eqFF, ↓p_neTT, ↓p_neTF, ↓p_neFT, ↓p_neFF, ↓p_eqBs, ↓p_eqSs, ↓p_eqIs, ↓w_chain4, ↓p_lrg1, ↓p_lrg2, ↓p_maxL, ↓p_maxl, ↓p_minL, ↓p_minl, ↓w_getE, ↓w_emptyK, ↓w_emptyT, ↓p_dixi, ↓p_dixs, ↓p_dini, ↓p_dins, ↓p_dgi, ↓p_dgs, ↓p_dputi, ↓p_dputs, ↓p_extA, ↓p_extAl, p_extAS, p_extASl, ↓w_bor, fl_b, fl_i, fl_n, fl_s, ↓w_enumA, ↓enma_l, ↓enma_t, ↓enma_o, eq_self, ↓w_strM, ↓sv_s, ↓p_eqS, ↓p_neS, ↓p_isTp, ↓p_lenp, ↓itm_p, ↓p_neBs, line_racks, racks_line, ↓p_sub, ↓p_add, ↓p_ipadd, ↓p_mul, ↓p_div, ↓p_mod, ↓p_pow, ↓p_neg, ↓p_eq, ↓p_ne, ↓p_lt, ↓p_gt, ↓p_le, ↓p_ge, ↓p_max, ↓p_min, ↓p_abs, ↓p_intI, ↓p_intB, ↓p_isaI, ↓p_isaB, ↓p_isaNI, ↓p_isNI, ↓p_isNN, ↓p_isNo, ↓p_eqo, ↓p_neo, ↓p_divmod, ↓p_catL, ↓p_catLl, ↓p_catlL, ↓p_catll, ↓p_len, ↓p_lenl, ↓p_lent, ↓p_list, ↓p_listl, ↓p_listt, ↓p_tuple, ↓p_tuplel, ↓p_tuplet, ↓p_rev, ↓p_revl, ↓p_ix, ↓p_ixl, ↓p_ixt, ↓p_append, ↓p_reverse, ↓p_sum, ↓p_suml, ↓p_any, ↓p_all, ↓p_eqLL, ↓p_eqLl, ↓p_eqlL, ↓p_eqll, ↓p_eqL0, ↓p_eql0, ↓p_neLL, ↓p_neLl, ↓p_nelL, ↓p_nell, ↓p_neL0, ↓p_nel0,
  ↓gp_cells, ↓gp_turn, ↓put_turn, ↓put_cells, ↓putP_top, wipeE, lv_0, lv_s,
  List.set_cons_zero, List.set_cons_succ, List.length_cons, List.length_nil, List.map_cons, List.map_nil, finR, List.replicate, List.replicate_succ, List.replicate_zero, List.cons_append, List.nil_append, true_and, and_true, List.tail_cons, List.head?_cons, Option.join_some, List.contains_nil, Bool.false_eq_true, if_false, if_true, List.all_nil, and_self, Int.reduceToNat, Int.reducePow, Nat.reduceSub, Nat.reduceAdd, Int.reduceAdd, Int.reduceMul, Int.reduceSub, Int.reduceNeg, Int.reduceLT, Int.reduceLE, Int.natAbs, Nat.reduceLT, Nat.reduceLeDiff, Nat.reducePow])
theorem sz100 {n : Nat} (h : n ≤ 100000) : n ≤ sizeLine := Nat.le_trans h (by decide)
theorem caL_len {sz B : Int} {ps : List Pa} {rows : List MRow} (hg : ∀ p ∈ ps, GoodPa B p) (ok : RowsOk rows) : (caL sz (plR ps 0) rows).length ≤ 1001 * ps.length := by
  have h := fmL (l := plR ps 0) (g := fun q => (wo [(q.1.f, q.1.l)] (mkS rows q.1.k)).map (shC sz q)) (n := 1001) fun q hq => by
    have h1 := (hg _ (plR_mem hg hq).1).2.1
    have h2 := (wo_ok (mkS_cn (rows := rows) (m := q.1.k)) (cn_one h1)).2.2
    have h3 := mkS_len ok (m := q.1.k)
    rw [List.length_map]
    simp only [List.length_cons, List.length_nil] at h2
    omega
  rw [plR_len] at h
  exact h
theorem cwL_len {sz B : Int} {ps : List Pa} {rows : List MRow} (hg : ∀ p ∈ ps, GoodPa B p) (ok : RowsOk rows) : (cwL sz (plR ps 0) rows).length ≤ 1001 * ps.length := by
  have h := fmL (l := plR ps 0) (g := fun q => (bo [(q.1.f, q.1.l)] (mkS rows q.1.k)).map (shC sz q)) (n := 1001) fun q hq => by
    have h1 := (hg _ (plR_mem hg hq).1).2.1
    have h2 := (bo_ok (cn_one h1) (mkS_cn (rows := rows) (m := q.1.k))).2.2
    have h3 := mkS_len ok (m := q.1.k)
    rw [List.length_map]
    simp only [List.length_cons, List.length_nil] at h2
    omega
  rw [plR_len] at h
  exact h
theorem cwL_bd {sz B c : Int} {ps : List Pa} {rows : List MRow} (hs : 0 < sz) (hg : ∀ p ∈ ps, GoodPa B p) (h : Has (cwL sz (plR ps 0) rows) c) : 0 ≤ c ∧ c < (paSum ps + sz - 1) / sz := by
  have hq : ∀ q ∈ plR ps 0, q.1.f ≤ q.1.l := fun q hq => (hg _ (plR_mem hg hq).1).2.1
  obtain ⟨q, hm, x, h1, _, h3⟩ := (cwL_has hs hq).mp h
  obtain ⟨k1, k2, k3⟩ := plR_mem hg hm
  unfold paN at k3
  have hc := ceil_le (t := paSum ps) (c := c) hs
  have h4 := (ediv_is hs).mp h3
  refine ⟨?_, ?_⟩
  · rw [← h3]
    exact Int.ediv_nonneg (by omega) (by omega)
  · have : ¬(paSum ps + sz - 1) / sz ≤ c := fun z => by
      have := hc.mp z
      omega
    omega
theorem set_bd {l : List Rg} {n : Int} (hc : Cn l) (h : ∀ x, Has l x → 0 ≤ x ∧ x < n) : ∀ p ∈ l, 0 ≤ p.1 ∧ p.2 < n := fun p hp => by
  have h1 := cn_le hc p hp
  have a := h p.1 ⟨p, hp, Int.le_refl _, h1⟩
  have b := h p.2 ⟨p, hp, h1, Int.le_refl _⟩
  omega
theorem rowsE1 {rows : List MRow} : (rows.map fun r => (mkD r, r)).map (·.1) = rows.map mkD := by rw [List.map_map]; rfl
theorem rowsE2 {rows : List MRow} : (rows.map fun r => (mkD r, r)).map (·.2) = rows := by rw [List.map_map]; exact List.map_id rows
theorem cases_withE {nm : Str} {sz B : Int} {ps : List Pa} {rows : List MRow} (hl : ps.length ≤ 50) (hg : ∀ p ∈ ps, GoodPa B p) (hs : 0 < sz) (hs2 : sz < 1000000000000000000000000000000000000000000000000000) (ok : RowsOk rows)
    {Q : O → List (Option O) → Prop} (k : ∀ os, Q (.ls ((setOf (cwL sz (plR ps 0) rows)).map pD)) os) : Wd g_cases_with [.leaf (encPk nm sz ps), .leaf (.list (rows.map mkD))] Q := by
  refine cases_with (hrs := rows.map fun r => (mkD r, r)) hpk_enc hl hg hs hs2 (.inl (by rw [rowsE1])) (fun y hy => ?_) (by rw [rowsE2]; exact ok) fun os => ?_
  · obtain ⟨r, _, rfl⟩ := List.mem_map.mp hy
    exact hrow_mk
  · rw [rowsE2]
    exact k os
theorem cases_allE {nm : Str} {sz B : Int} {ps : List Pa} {rows : List MRow} (hl : ps.length ≤ 50) (hg : ∀ p ∈ ps, GoodPa B p) (hs : 0 < sz) (hs2 : sz < 1000000000000000000000000000000000000000000000000000) (ok : RowsOk rows)
    {Q : O → List (Option O) → Prop} (k : ∀ os, Q (.ls ((wo (setOf [(0, (paSum ps + sz - 1) / sz - 1)]) (setOf (caL sz (plR ps 0) rows))).map pD)) os) : Wd g_cases_all [.leaf (encPk nm sz ps), .leaf (.list (rows.map mkD))] Q := by
  refine cases_all (hrs := rows.map fun r => (mkD r, r)) hpk_enc hl hg hs hs2 (.inl (by rw [rowsE1])) (fun y hy => ?_) (by rw [rowsE2]; exact ok) fun os => ?_
  · obtain ⟨r, _, rfl⟩ := List.mem_map.mp hy
    exact hrow_mk
  · rw [rowsE2]
    exact k os
theorem law_ok (ns : List Int) (hl : ns.length ≤ 63) : ∃ os', g_law [.leaf (.list (ns.map .int))] = some (.leaf (.bool true), os') := by
  have key : Wd g_law [.leaf (.list (ns.map .int))] fun r _ => r = .leaf (.bool true) := by
    unfold g_law
    rw [w_def]
    unfold b_law
    walk_at "mv"
    refine begin_ok (c := 7) hl fun st os h => ?_
    walk_at "mv"
    refine marks h (by omega) (by decide) (by decide) fun mks s1 os ml mnd h1 => ?_
    walk_at "mv"
    refine names h1 (by omega) (by decide) (by decide) fun nms s2 os nl _ h2 => ?_
    walk_at "mv"
    refine at_get (by decide) (by rw [List.length_map]; omega) fun t' ht' => ?_
    obtain ⟨nm, _, rfl⟩ := List.mem_map.mp (List.mem_of_getElem? ht')
    walk_at "mv"
    refine wf_inv (k := 0) (I := fun j e => ∃ (s : List Int × Int) (l : List (Option O)), e = some (.leaf (.list (ns.map .int))) :: some (stO s) :: some (.leaf (.list (mks.map .str))) :: some (.leaf (.str nm)) :: l ∧ l.length = 13 ∧ St s (100 + 1000 * j)) (fun j t e ht hi => ?_) ⟨s2, _, rfl, rfl, h2.le (by omega)⟩ fun e hi => ?_
    · obtain ⟨s, l, rfl, hle, h3⟩ := hi
      obtain ⟨rfl, hj⟩ := range_get ht
      rw [Nat.zero_add] at h3 ⊢
      obtain ⟨a1, a2, a3, a4, a5, a6, a7, a8, a9, a10, a11, a12, a13, rfl⟩ : ∃ a1 a2 a3 a4 a5 a6 a7 a8 a9 a10 a11 a12 a13, l = [a1, a2, a3, a4, a5, a6, a7, a8, a9, a10, a11, a12, a13] := by
        match l, hle with
        | [a1, a2, a3, a4, a5, a6, a7, a8, a9, a10, a11, a12, a13], _ => exact ⟨_, _, _, _, _, _, _, _, _, _, _, _, _, rfl⟩
      clear hle ht
      walk_at "mv"
      refine packing_by (g := 1) h3 (by omega) (.inr rfl) (by omega) (by omega) fun ps sz s3 os pl pg pk z0 z1 _ h4 => ?_
      have eB : bndP 1 12 = 26000000000000000000000000000000 := by decide
      rw [eB] at pg
      have sn := paSum_nn pg
      have sm := paSum_le pg
      have sz1 : sz < 1000000000000000000000000000000000000 := by omega
      have ix1 : ∀ {Q : O → Prop}, Op2 oIx (.leaf (encPk nm sz ps)) (.leaf (.int 1)) Q ↔ Q (.leaf (.int sz)) := Iff.rfl
      have ix2 : ∀ {Q : O → Prop}, Op2 oIx (.leaf (encPk nm sz ps)) (.leaf (.int 2)) Q ↔ Q (.leaf (.list (ps.map paT))) := Iff.rfl
      walk_at "mv"
      refine cases_n hpk_enc (by omega) z0 (by omega) fun os => ?_
      obtain ⟨many, hmany⟩ : ∃ many, many = (paSum ps + sz - 1) / sz := ⟨_, rfl⟩
      have m0 : 0 ≤ many := by
        rw [hmany]
        exact Int.ediv_nonneg (by omega) (by omega)
      have m1 : many ≤ paSum ps := by
        rw [hmany, ceil_le z0]
        have : paSum ps * 1 ≤ paSum ps * sz := Int.mul_le_mul_of_nonneg_left (by omega) sn
        omega
      have c1 := ceil_le (t := paSum ps) (c := many) z0
      have c2 := ceil_le (t := paSum ps) (c := many - 1) z0
      rw [← hmany] at c1 c2 ⊢
      walk_at "mv"
      rw [ix2]
      walk_at "mv"
      refine ⟨by rw [List.length_map]; omega, ?_⟩
      refine wcl_map (p := fun _ => true) (g := fun p => PyData.int (paN p)) (fun p hp => ?_) ?_
      · simp only [paT]
        walk_at "mv"
        rfl
      rw [List.filter_eq_self.mpr fun _ _ => rfl, sum_ints, ← paSum_eq]
      walk_at "mv"
      rw [ix1]
      walk_at "mv"
      refine ⟨mulOk (by omega) (by omega) (by omega) (by omega), ?_⟩
      refine br (fun _ => ?_) fun z => absurd (by omega) z
      walk_at "mv"
      rw [ix1]
      walk_at "mv"
      refine ⟨mulOk (by omega) (by omega) (by omega) (by omega), ?_⟩
      refine brn (fun _ => ?_) fun z => absurd (by omega) z
      walk_at "mv"
      refine marked_by h4 (by omega) (.inr rfl) (by omega) mnd pl z0 (by omega) fun rows s4 os rl rn rc h5 => ?_
      have ok : RowsOk rows := ⟨by omega, fun r hr => by have := (rc r hr).2; omega⟩
      walk_at "mv"
      refine cases_withE (by omega) pg z0 (by omega) ok fun os => ?_
      walk_at "mv"
      refine cases_allE (by omega) pg z0 (by omega) ok fun os => ?_
      have hS : ∀ c, hasB (setOf (cwL sz (plR ps 0) rows)) c = decide (0 < hasOf rows (tinsIn sz c (plR ps 0))) := fun c => by
        rw [Bool.eq_iff_iff, hasB_iff, decide_eq_true_iff]
        exact some_ok z0 fun q hq => (pg _ (plR_mem pg hq).1).2.1
      have hW : ∀ c, 0 ≤ c → hasB (wo (setOf [(0, (paSum ps + sz - 1) / sz - 1)]) (setOf (caL sz (plR ps 0) rows))) c = decide (0 < paSum (tinsIn sz c (plR ps 0)) ∧ hasOf rows (tinsIn sz c (plR ps 0)) = paSum (tinsIn sz c (plR ps 0))) := fun c hc => by
        rw [Bool.eq_iff_iff, hasB_iff, decide_eq_true_iff]
        exact whole_ok z0 pg hc
      have lS := Nat.le_trans (setOf_ok (cwL sz (plR ps 0) rows)).2.2 (cwL_len (sz := sz) pg ok)
      have cS := (setOf_ok (cwL sz (plR ps 0) rows)).1
      have bS : ∀ x, Has (setOf (cwL sz (plR ps 0) rows)) x → 0 ≤ x ∧ x < many := fun x hx => by
        rw [hmany]
        exact cwL_bd z0 pg ((setOf_ok _).2.1 x |>.mp hx)
      have wk := wo_ok (setOf_ok (caL sz (plR ps 0) rows)).1 (setOf_ok [((0 : Int), (paSum ps + sz - 1) / sz - 1)]).1
      have lW : (wo (setOf [((0 : Int), (paSum ps + sz - 1) / sz - 1)]) (setOf (caL sz (plR ps 0) rows))).length ≤ 1001 * ps.length + 1 := by
        have z1 := (setOf_ok [((0 : Int), (paSum ps + sz - 1) / sz - 1)]).2.2
        have z2 := Nat.le_trans (setOf_ok (caL sz (plR ps 0) rows)).2.2 (caL_len (sz := sz) pg ok)
        simp only [List.length_cons, List.length_nil] at z1
        have := Nat.mul_le_mul z1 (Nat.le_refl ((setOf (caL sz (plR ps 0) rows)).length + 1))
        have := wk.2.2
        omega
      have bW : ∀ x, Has (wo (setOf [((0 : Int), (paSum ps + sz - 1) / sz - 1)]) (setOf (caL sz (plR ps 0) rows))) x → 0 ≤ x ∧ x < many := fun x hx => by
        have := ((wk.2.1 x).mp hx).1
        rw [(setOf_ok _).2.1, has_one, ← hmany] at this
        omega
      obtain ⟨S, eS⟩ : ∃ S, S = setOf (cwL sz (plR ps 0) rows) := ⟨_, rfl⟩
      obtain ⟨W, eW⟩ : ∃ W, W = wo (setOf [((0 : Int), (paSum ps + sz - 1) / sz - 1)]) (setOf (caL sz (plR ps 0) rows)) := ⟨_, rfl⟩
      rw [← eS] at hS lS cS bS ⊢
      rw [← eW] at hW lW wk bW ⊢
      have cW := wk.1
      have pS := set_bd cS bS
      have pW := set_bd cW bW
      clear wk eS eW
      walk_at "mv"
      refine is_set cS pS (by omega) fun os => ?_
      walk_at "mv"
      refine is_set cW pW (by omega) fun os => ?_
      walk_at "mv"
      refine number h5 (by omega) (by decide) fun big s5 os b0 b1 _ _ h6 => ?_
      walk_at "mv"
      refine ⟨by omega, ?_⟩
      have q0 := Int.emod_nonneg big (show many + 1 ≠ 0 by omega)
      have q1 := Int.emod_lt_of_pos big (show 0 < many + 1 by omega)
      walk_at "mv"
      rw [← List.map_append]
      refine ⟨sz100 (by rw [List.length_map, List.length_map]; omega), ?_⟩
      have gSW : ∀ p ∈ S ++ W, 0 ≤ p.1 ∧ p.1 ≤ p.2 ∧ p.2 < many := fun p hp => by
        rcases List.mem_append.mp hp with z | z
        · have := pS p z
          have := cn_le cS p z
          omega
        · have := pW p z
          have := cn_le cW p z
          omega
      have lSW : (S ++ W).length ≤ 25000 := by
        rw [List.length_append]
        omega
      refine wf_fold (I := fun r e => ∃ (cs : List Int) (x13 x14 x15 : Option O), e = [some (.leaf (.list (ns.map .int))), some (stO s5), some (.leaf (.list (mks.map .str))), some (.leaf (.str nm)), some (.leaf (.int (j : Int))), some (.leaf (encPk nm sz ps)), some (.leaf (.int many)), some (.leaf (.int (paSum ps))), some (.leaf (.list (rows.map mkD))), some (.leaf (.list (S.map pD))), some (.leaf (.list (W.map pD))), some (.ls (cs.map .int)), some (.leaf (.int 0)), x13, x14, x15, a13] ∧ (∀ c ∈ cs, 0 ≤ c ∧ c ≤ many + 1) ∧ cs.length + 4 * r.length ≤ 100004 ∧ ∀ p ∈ r, p ∈ S ++ W) (fun p r e hi => ?_) (fun e hi => ?_) ⟨[0, many, many + 1, big % (many + 1)], _, _, _, rfl, fun c hc => ?_, by simp only [List.length_cons, List.length_nil]; omega, fun p h => h⟩
      · obtain ⟨cs, x13, x14, x15, rfl, k1, k2, k3⟩ := hi
        obtain ⟨g1, g2, g3⟩ := gSW p (k3 p List.mem_cons_self)
        rw [List.length_cons] at k2
        simp only [pD]
        walk_at "mv"
        rw [List.length_map]
        refine ⟨by omega, by omega, cs ++ [p.1, p.2, max 0 (p.1 - 1), p.2 + 1], _, _, _, by rw [List.map_append]; rfl, fun c hc => ?_, by rw [List.length_append]; simp only [List.length_cons, List.length_nil]; omega, fun q hq => k3 q (List.mem_cons_of_mem _ hq)⟩
        rcases List.mem_append.mp hc with z | z
        · exact k1 c z
        · simp only [List.mem_cons, List.not_mem_nil, or_false] at z
          omega
      · obtain ⟨cs, x13, x14, x15, rfl, k1, k2, k3⟩ := hi
        rw [List.length_nil] at k2
        walk_at "mv"
        rw [ix2]
        walk_at "mv"
        refine wf_fold (I := fun r e => ∃ (cs : List Int) (done : List Pa) (x13 x14 x15 : Option O), e = [some (.leaf (.list (ns.map .int))), some (stO s5), some (.leaf (.list (mks.map .str))), some (.leaf (.str nm)), some (.leaf (.int (j : Int))), some (.leaf (encPk nm sz ps)), some (.leaf (.int many)), some (.leaf (.int (paSum ps))), some (.leaf (.list (rows.map mkD))), some (.leaf (.list (S.map pD))), some (.leaf (.list (W.map pD))), some (.ls (cs.map .int)), some (.leaf (.int (paSum done))), x13, x14, x15, a13] ∧ (∀ c ∈ cs, 0 ≤ c ∧ c ≤ paSum ps + 1) ∧ cs.length + 2 * r.length ≤ 100100 ∧ done ++ r = ps) (fun p r e hi => ?_) (fun e hi => ?_) ⟨cs, [], _, _, _, rfl, fun c hc => (by have := k1 c hc; omega), by omega, rfl⟩
        · obtain ⟨cs, done, x13, x14, x15, rfl, k1, k2, k3⟩ := hi
          have gd : ∀ p ∈ done, GoodPa 26000000000000000000000000000000 p := fun p hp => pg p (by rw [← k3]; simp [hp])
          have gr : ∀ q ∈ p :: r, GoodPa 26000000000000000000000000000000 q := fun q hq => pg q (by rw [← k3]; exact List.mem_append_right _ hq)
          have n1 := paSum_nn gd
          have n2 := paSum_nn gr
          have n3 : paSum ps = paSum done + paSum (p :: r) := by rw [← k3, paSum_app]
          have d1 := Int.ediv_nonneg n1 (Int.le_of_lt z0)
          have d2 := Int.ediv_le_self sz n1
          have hd : done ++ [p] ++ r = ps := by rw [List.append_assoc]; exact k3
          have es : paSum (done ++ [p]) = paSum done + p.l - p.f + 1 := by
            rw [paSum_app]
            simp only [paSum, paN]
            omega
          rw [List.length_cons] at k2
          simp only [paT]
          walk_at "mv"
          rw [ix1]
          walk_at "mv"
          refine ⟨divOk z0 (by omega), ?_⟩
          rw [ix1]
          walk_at "mv"
          refine ⟨divOk z0 (by omega), ?_⟩
          rw [List.length_map]
          refine ⟨by omega, by omega, cs ++ [paSum done / sz, max 0 (paSum done / sz - 1)], done ++ [p], _, _, _, by rw [List.map_append, es]; rfl, fun c hc => ?_, by rw [List.length_append]; simp only [List.length_cons, List.length_nil]; omega, hd⟩
          rcases List.mem_append.mp hc with z | z
          · exact k1 c z
          · simp only [List.mem_cons, List.not_mem_nil, or_false] at z
            omega
        · obtain ⟨cs, done, x13, x14, x15, rfl, k1, k2, k3⟩ := hi
          rw [List.length_nil] at k2
          walk_at "mv"
          refine ⟨by rw [List.length_map]; omega, ?_⟩
          refine wcl_map (p := fun _ => true) (g := fun _ : Int => PyData.bool true) (fun c hc => ?_) ?_
          · obtain ⟨c0, c9⟩ := k1 c hc
            walk_at "mv"
            refine case_right (B := 26000000000000000000000000000000) (by omega) pg z0 (by omega) c0 (by omega) rn (fun r hr => (rc r hr).1) ok (hS c) (hW c c0) (by omega) (by omega) fun os => ?_
            walk_at "mv"
          · rw [List.filter_eq_self.mpr fun _ _ => rfl, all_bools]
            rw [show (cs.all fun _ => true) = true by simp]
            walk_at "mv"
            exact ⟨s5, _, rfl, rfl, h6.le (by omega)⟩
      · simp only [List.mem_cons, List.not_mem_nil, or_false] at hc
        omega
    · obtain ⟨s, l, rfl, hle, h3⟩ := hi
      walk_at "mv"
  obtain ⟨r, os', e, rfl⟩ := O2.ex key
  exact ⟨os', e⟩

end L26
end

theorem PySem.Challenge.cw_tinrecall_k26_cases_beyond_counting_holds : PySem.Challenge.rw_tinrecall_k26_cases_beyond_counting.Holds := by
  exact L26.holds L26.law_ok
