import PyProof.Rows.All
import PySem.Str
import Wide.All
import OpenK.AllK
import Wide.FinOn
import HandS.ForMost
import HandS.ForExc
import HandS.Lambda
import HandS.HeadHook4
import HandS.Sort
import HandS.SortInts
import HandS.WideBits
import HandS.IsInst
import HandS.Codes
import HandS.Style
import HandS.Flow
import HandS.TupAny
import KE.DataEq
import KE.DataIsa
import KE.DataAny
import KE.DataMinMax
import KE.SortData
import KE.SortKeyHeap
import KE.DataFind
import HandS.More
import HandS.Defaults
import HandS.Head0
import HandS.Head1
import HandS.Head2
import HandS.HeadEnd
import HandS.HeadHook1
import HandS.HeadHook2
import KE.IntBitsLaws
import HandS.Zip
import HandS.Iter
import HandS.Text
import KE.KDictPairs
import HandS.Conv
import KE.GoesMore
import HandS.SetFor
import PyProof.ReprRoads
import KE.SortUse
import PyProof.ListIndex
import PyProof.ListIndexNeg
import KE.KTupSum
import PyProof.ReprBulk
import PyProof.ReprLen
import KE.SortCalls
import PyProof.Rows.IntBool
import HandS.Deep
import KE.DataMinKey
import PyProof.DefCall
import HandS.StrMore
import HandS.SetTxtIn
import KE.GoesZip
import KE.GoesEnum
import HandS.Replace
import PyProof.StrOps2
import HandS.NoneIn
import HandS.Rev
import HandS.RevTup
import KE.BitLaws
import HandS.HeadHook3
import PySem.Challenge.RW_tinrecall_k02_sets_put_together
namespace Mv
open PySem
/-- the defs in which lambdas stand -/
def lams : List Str := []
end Mv

set_option Elab.async false
set_option linter.all false
set_option maxRecDepth 100000
set_option maxHeartbeats 4000000
namespace Mv
open PySem PySem.Spec PyProof.Rows L2
def apartT (K : PySem.W.Frag) : Bool := decide (((lams.map fun x => (He.cT K (x, none)).2)).Nodup)
abbrev lamF : List He.Defn := lams.map fun x => (x, none)
def clsBody : Stmt → List Stmt
  | .ClassDef _ _ _ b _ _ _ _ _ _ _ => b
  | _ => []
end Mv
noncomputable section
namespace L02
open PySem PySem.Spec PyProof.Rows L2 Mv
def top (i : Nat) : Stmt := PySem.Challenge.pw_tinrecall_k02_sets_put_together.main.body.getD i (.Pass ⟨0, 0, 0, 0⟩)
abbrev s_l_begin : Stmt := top 6
abbrev s_l_take : Stmt := top 7
abbrev s_l_number : Stmt := top 8
abbrev s_l_set : Stmt := top 9
abbrev s_l_near : Stmt := top 10
abbrev s_l_flags : Stmt := top 11
abbrev s_l_is_set : Stmt := top 12
abbrev s_l_probes : Stmt := top 13
abbrev s_both_of : Stmt := top 3
abbrev s_set_of : Stmt := top 1
abbrev s_either : Stmt := top 2
abbrev s_without : Stmt := top 4
abbrev s_l_right : Stmt := top 14
abbrev s_law : Stmt := top 15
def d_l_begin : He.DefD := ⟨("_law_begin", none), "_law_begin", "_law_begin", defArgs s_l_begin, defBody s_l_begin, defScope s_l_begin, [], []⟩
def d_l_take : He.DefD := ⟨("_law_take", none), "_law_take", "_law_take", defArgs s_l_take, defBody s_l_take, defScope s_l_take, [], []⟩
def d_l_number : He.DefD := ⟨("_law_number", none), "_law_number", "_law_number", defArgs s_l_number, defBody s_l_number, defScope s_l_number, [], []⟩
def d_l_set : He.DefD := ⟨("_law_set", none), "_law_set", "_law_set", defArgs s_l_set, defBody s_l_set, defScope s_l_set, [], []⟩
def d_l_near : He.DefD := ⟨("_law_near", none), "_law_near", "_law_near", defArgs s_l_near, defBody s_l_near, defScope s_l_near, [], []⟩
def d_l_flags : He.DefD := ⟨("_law_flags", none), "_law_flags", "_law_flags", defArgs s_l_flags, defBody s_l_flags, defScope s_l_flags, [], []⟩
def d_l_is_set : He.DefD := ⟨("_law_is_set", none), "_law_is_set", "_law_is_set", defArgs s_l_is_set, defBody s_l_is_set, defScope s_l_is_set, [], []⟩
def d_l_probes : He.DefD := ⟨("_law_probes", none), "_law_probes", "_law_probes", defArgs s_l_probes, defBody s_l_probes, defScope s_l_probes, [], []⟩
def d_both_of : He.DefD := ⟨("both_of", none), "both_of", "both_of", defArgs s_both_of, defBody s_both_of, defScope s_both_of, [], []⟩
def d_set_of : He.DefD := ⟨("set_of", none), "set_of", "set_of", defArgs s_set_of, defBody s_set_of, defScope s_set_of, [], []⟩
def d_either : He.DefD := ⟨("either", none), "either", "either", defArgs s_either, defBody s_either, defScope s_either, [], []⟩
def d_without : He.DefD := ⟨("without", none), "without", "without", defArgs s_without, defBody s_without, defScope s_without, [], []⟩
def d_l_right : He.DefD := ⟨("_law_right", none), "_law_right", "_law_right", defArgs s_l_right, defBody s_l_right, defScope s_l_right, [], []⟩
def d_law : He.DefD := ⟨("law", none), "law", "law", defArgs s_law, defBody s_law, defScope s_law, [], []⟩
def fn : List He.DefD := [d_l_begin, d_l_take, d_l_number, d_l_set, d_l_near, d_l_flags, d_l_is_set, d_l_probes, d_both_of, d_set_of, d_either, d_without, d_l_right, d_law]
def fa : List He.Fa := [.glo "_law_begin", .glo "_law_take", .glo "_law_number", .glo "_law_set", .glo "_law_near", .glo "_law_flags", .glo "_law_is_set", .glo "_law_probes", .glo "both_of", .glo "set_of", .glo "either", .glo "without", .glo "_law_right", .glo "law", .free "all", .free "bool", .free "divmod", .free "int", .free "isinstance", .free "len", .free "list", .free "max", .free "min", .free "range", .free "sorted", .free "str", .free "tuple", .free "zip"]
abbrev R : PySem.W.OpenRow := PySem.W.OpenLaw.row PySem.Challenge.rw_tinrecall_k02_sets_put_together
abbrev hk : PySem.W.Hook := He.hookD 4 fa fn
def ob (s : PySem.W.SharedT) : He.AlD := He.obsDG 4 fa fn (HandSHeadRun.getT s)
theorem ob_eq (s : PySem.W.SharedT) : ob s = hk.obs s.abs := He.obsDG_eq (HandSHeadRun.getT_eq s)
theorem run (w : World) : HandSHeadRun.RunEq R (PySem.W.view R.prog [15]) hk ob 1120 ["set_of", "either", "both_of", "without", "_law_begin", "_law_take", "_law_number", "_law_set", "_law_near", "_law_flags", "_law_is_set", "_law_probes", "_law_right"] w := by
  intro os
  kernel_rfl
end L02
end
set_option Elab.async false
set_option linter.all false
set_option maxRecDepth 100000
set_option maxHeartbeats 2000000
namespace Mv
open PySem PySem.Spec PyProof.Rows L2

abbrev D := PyData
/-- an owned tree: frozen data, a list of one's own of frozen data, a dict, an instance -/
inductive O where
  | leaf (t : D)
  | ls (ts : List D)
  | dic (kvs : List (Key × O))
  | dct (kvs : List (List Key × O))
  | obj (C : Addr) (fs : List (Str × O))
  | tup (os : List O)
  | lso (os : List O)

def keyD : Key → D
  | .inl i => .int i
  | .inr x => .str x
def tupD (ks : List Key) : D := .tuple (ks.map keyD)

/-- a list to be read: tracked, locked, or of the written part, bare -/
def LsAt (K : PySem.W.Frag) (S : Hp) (a : Addr) (vs : List V) : Prop :=
  Rd S a (.lst vs) ∨ ∃ (its : List Value) (n : Nat), Vals vs its ∧ vs.length ≤ sizeLine ∧ K.lookup a = some { cls := .type "list", data := .seq its.toArray n }
theorem LsAt.sq {K : PySem.W.Frag} {S : Hp} {a : Addr} {vs : List V} (h : LsAt K S a vs) : SqL K S a vs := by
  rcases h with h | ⟨its, n, r, z, h⟩
  · exact .inl h
  · exact .inr ⟨_, its.toArray, n, h, rfl, rfl, rfl, by rw [List.size_toArray, ← r.length]; exact z, by simpa using r⟩
theorem LsAt.of {K : PySem.W.Frag} {S : Hp} {a : Addr} {vs : List V} (h : S a = some (.lst vs)) : LsAt K S a vs := .inl (.inl h)
def fx : HO → Bool
  | .tbl _ => true
  | .ext _ => true
  | _ => false
/-- a tuple, a table, a code object: what no one owns -/
def fy : HO → Bool
  | .tbl _ => true
  | .ext _ => true
  | .tup _ => true
  | _ => false
def isTu : HO → Bool
  | .tup _ => true
  | _ => false
theorem fy_fx {u : HO} (h : fy u = false) : fx u = false := by
  cases u <;> first | rfl | cases h
theorem fy_tu {u : HO} (h : fy u = false) : isTu u = false := by
  cases u <;> first | rfl | cases h
theorem fx_tu {u : HO} (h : fx u = true) : isTu u = false := by
  cases u <;> first | rfl | cases h
/-- a thing that can be owned stands there -/
def Liv (H : Hp) (a : Addr) : Prop := ∃ u, H a = some u ∧ fy u = false
theorem Liv.ne {H : Hp} {a : Addr} (h : Liv H a) : H a ≠ none := by
  obtain ⟨u, e, _⟩ := h
  rw [e]
  exact fun z => nomatch z
theorem Liv.eq {H H' : Hp} {a : Addr} (h : Liv H a) (e : H' a = H a) : Liv H' a := by
  obtain ⟨u, e1, e2⟩ := h
  exact ⟨u, e.trans e1, e2⟩
theorem Liv.not {H : Hp} {a : Addr} {u : HO} (h : Liv H a) (e : H a = some u) : fx u = false := by
  obtain ⟨u', e1, e2⟩ := h
  rw [e1] at e
  cases e
  exact fy_fx e2
theorem liv_upd {H : Hp} {a : Addr} {o : HO} (h : fy o = false) : Liv (upd H a o) a := ⟨o, upd_same, h⟩
theorem lv_of {H : Hp} {a : Addr} {o : HO} (e : H a = some o) (h : fy o = false := by rfl) : Liv H a := ⟨o, e, h⟩
/-- what lives stays -/
def KS (H H' : Hp) : Prop := ∀ a u, H a = some u → fx u = false → H' a = some u
theorem KS.refl (H : Hp) : KS H H := fun _ _ e _ => e
theorem KS.trans {H H1 H2 : Hp} (a : KS H H1) (b : KS H1 H2) : KS H H2 := fun c u e f => b c u (a c u e f) f
theorem KS.at {H H' : Hp} (k : KS H H') {a : Addr} (h : Liv H a) : H' a = H a := by
  obtain ⟨u, e, f⟩ := h
  rw [e]
  exact k a u e (fy_fx f)
theorem _root_.L2.Same.ks {H H' : Hp} (e : Same H H') : KS H H' := fun a u h _ => e a u h
abbrev TupAt (_K : PySem.W.Frag) (S : Hp) (a : Addr) (vs : List V) : Prop := S a = some (.tup vs)
section
variable (K : PySem.W.Frag) (S : Hp)
mutual
/-- v stands for the frozen data t -/
def Fz : D → V → Prop
  | .none, v => v = .non
  | .bool b, v => v = .bl b
  | .int i, v => v = .int i
  | .str x, v => v = .str x
  | .list ts, v => ∃ a vs, v = .ref a ∧ LsAt K S a vs ∧ FzL ts vs
  | .tuple ts, v => ∃ a vs, v = .ref a ∧ TupAt K S a vs ∧ FzL ts vs
  | .dict kvs, v => ∃ a, v = .ref a ∧ ((∃ vs, FzK kvs vs ∧ Rd S a (.dK vs)) ∨ (∃ vs, FzT kvs vs ∧ Rd S a (.dT vs)))
def FzL : List D → List V → Prop
  | [], vs => vs = []
  | t :: ts, vs => ∃ v r, vs = v :: r ∧ Fz t v ∧ FzL ts r
def FzK : List (D × D) → List (Key × V) → Prop
  | [], vs => vs = []
  | (k, t) :: ts, vs => ∃ k' v r, vs = (k', v) :: r ∧ k = keyD k' ∧ Fz t v ∧ FzK ts r
def FzT : List (D × D) → List (List Key × V) → Prop
  | [], vs => vs = []
  | (k, t) :: ts, vs => ∃ k' v r, vs = (k', v) :: r ∧ k = tupD k' ∧ Fz t v ∧ FzT ts r
end
end

section
variable {K : PySem.W.Frag} {S S' H H' : Hp}
theorem rd_same (e : Same S S') {a : Addr} {u : HO} (h : Rd S a u) : Rd S' a u := by
  rcases h with h | ⟨o, h⟩
  · exact .inl (e _ _ h)
  · exact .inr ⟨o, e _ _ h⟩
theorem ls_same (e : Same S S') {a : Addr} {vs : List V} (h : LsAt K S a vs) : LsAt K S' a vs := by
  rcases h with h | h
  · exact .inl (rd_same e h)
  · exact .inr h
mutual
theorem Fz.same (e : Same S S') : ∀ {t : D} {v : V}, Fz K S t v → Fz K S' t v
  | .none, _, h => h
  | .bool _, _, h => h
  | .int _, _, h => h
  | .str _, _, h => h
  | .list ts, v, h => by
    simp only [Fz] at h ⊢
    obtain ⟨a, vs, e1, h1, h2⟩ := h
    exact ⟨a, vs, e1, ls_same e h1, FzL.same e h2⟩
  | .tuple ts, v, h => by
    simp only [Fz] at h ⊢
    obtain ⟨a, vs, e1, h1, h2⟩ := h
    exact ⟨a, vs, e1, e _ _ h1, FzL.same e h2⟩
  | .dict kvs, v, h => by
    simp only [Fz] at h ⊢
    obtain ⟨a, e1, h2⟩ := h
    refine ⟨a, e1, ?_⟩
    rcases h2 with ⟨ks, h2, h3⟩ | ⟨ks, h2, h3⟩
    · exact .inl ⟨ks, FzK.same e h2, rd_same e h3⟩
    · exact .inr ⟨ks, FzT.same e h2, rd_same e h3⟩
theorem FzL.same (e : Same S S') : ∀ {ts : List D} {vs : List V}, FzL K S ts vs → FzL K S' ts vs
  | [], _, h => h
  | t :: ts, vs, h => by
    simp only [FzL] at h ⊢
    obtain ⟨v, r, e1, h1, h2⟩ := h
    exact ⟨v, r, e1, Fz.same e h1, FzL.same e h2⟩
theorem FzK.same (e : Same S S') : ∀ {ts : List (D × D)} {vs : List (Key × V)}, FzK K S ts vs → FzK K S' ts vs
  | [], _, h => h
  | (k, t) :: ts, vs, h => by
    simp only [FzK] at h ⊢
    obtain ⟨k', v, r, e1, e2, h1, h2⟩ := h
    exact ⟨k', v, r, e1, e2, Fz.same e h1, FzK.same e h2⟩
theorem FzT.same (e : Same S S') : ∀ {ts : List (D × D)} {vs : List (List Key × V)}, FzT K S ts vs → FzT K S' ts vs
  | [], _, h => h
  | (k, t) :: ts, vs, h => by
    simp only [FzT] at h ⊢
    obtain ⟨k', v, r, e1, e2, h1, h2⟩ := h
    exact ⟨k', v, r, e1, e2, Fz.same e h1, FzT.same e h2⟩
end
theorem FzL.len : ∀ {ts : List D} {vs : List V}, FzL K S ts vs → vs.length = ts.length
  | [], vs, h => by simp only [FzL] at h; subst h; rfl
  | t :: ts, vs, h => by
    simp only [FzL] at h
    obtain ⟨v, r, e1, h1, h2⟩ := h
    subst e1
    simp [FzL.len h2]
theorem FzL.get : ∀ {ts : List D} {vs : List V} {i : Nat} {t : D}, FzL K S ts vs → ts[i]? = some t → ∃ v, vs[i]? = some v ∧ Fz K S t v
  | [], _, _, _, _, h => by simp at h
  | t :: ts, vs, 0, t', h, e => by
    simp only [FzL] at h
    obtain ⟨v, r, e1, h1, h2⟩ := h
    subst e1
    simp at e
    subst e
    exact ⟨v, rfl, h1⟩
  | t :: ts, vs, i + 1, t', h, e => by
    simp only [FzL] at h
    obtain ⟨v, r, e1, h1, h2⟩ := h
    subst e1
    simp only [List.getElem?_cons_succ] at e ⊢
    exact FzL.get h2 e
theorem FzL.cons {t : D} {ts : List D} {v : V} {vs : List V} (h : Fz K S t v) (h2 : FzL K S ts vs) : FzL K S (t :: ts) (v :: vs) := by
  simp only [FzL]
  exact ⟨v, vs, rfl, h, h2⟩
theorem FzL.nil : FzL K S [] [] := by simp only [FzL]
theorem FzL.inv {t : D} {ts : List D} {vs : List V} (h : FzL K S (t :: ts) vs) : ∃ v r, vs = v :: r ∧ Fz K S t v ∧ FzL K S ts r := by
  simp only [FzL] at h
  exact h
theorem FzL.nilE {vs : List V} (h : FzL K S [] vs) : vs = [] := by
  simp only [FzL] at h
  exact h
theorem FzL.append : ∀ {ts us : List D} {vs ws : List V}, FzL K S ts vs → FzL K S us ws → FzL K S (ts ++ us) (vs ++ ws)
  | [], _, vs, _, h, g => by
    have e := h.nilE
    subst e
    exact g
  | t :: ts, us, vs, ws, h, g => by
    obtain ⟨v, r, rfl, h1, h2⟩ := h.inv
    exact FzL.cons h1 (FzL.append h2 g)
theorem FzL.take : ∀ {ts : List D} {vs : List V} (n : Nat), FzL K S ts vs → FzL K S (ts.take n) (vs.take n)
  | [], vs, n, h => by
    have e := h.nilE
    subst e
    rw [List.take_nil, List.take_nil]
    exact FzL.nil
  | t :: ts, vs, 0, h => by exact FzL.nil
  | t :: ts, vs, n + 1, h => by
    obtain ⟨v, r, rfl, h1, h2⟩ := h.inv
    exact FzL.cons h1 (FzL.take n h2)
theorem FzL.drop : ∀ {ts : List D} {vs : List V} (n : Nat), FzL K S ts vs → FzL K S (ts.drop n) (vs.drop n)
  | [], vs, n, h => by
    have e := h.nilE
    subst e
    rw [List.drop_nil, List.drop_nil]
    exact FzL.nil
  | t :: ts, vs, 0, h => by exact h
  | t :: ts, vs, n + 1, h => by
    obtain ⟨v, r, rfl, h1, h2⟩ := h.inv
    exact FzL.drop n h2
theorem FzL.set : ∀ {ts : List D} {vs : List V} (n : Nat) {t : D} {v : V}, FzL K S ts vs → Fz K S t v → FzL K S (ts.set n t) (vs.set n v)
  | [], vs, n, t, v, h, g => by
    have e := h.nilE
    subst e
    exact FzL.nil
  | x :: ts, vs, 0, t, v, h, g => by
    obtain ⟨w, r, rfl, h1, h2⟩ := h.inv
    exact FzL.cons g h2
  | x :: ts, vs, n + 1, t, v, h, g => by
    obtain ⟨w, r, rfl, h1, h2⟩ := h.inv
    exact FzL.cons h1 (FzL.set n h2 g)
theorem FzL.eraseIdx : ∀ {ts : List D} {vs : List V} (n : Nat), FzL K S ts vs → FzL K S (ts.eraseIdx n) (vs.eraseIdx n)
  | [], vs, n, h => by
    have e := h.nilE
    subst e
    exact FzL.nil
  | x :: ts, vs, 0, h => by
    obtain ⟨w, r, rfl, h1, h2⟩ := h.inv
    exact h2
  | x :: ts, vs, n + 1, h => by
    obtain ⟨w, r, rfl, h1, h2⟩ := h.inv
    exact FzL.cons h1 (FzL.eraseIdx n h2)
theorem FzL.reverse : ∀ {ts : List D} {vs : List V}, FzL K S ts vs → FzL K S ts.reverse vs.reverse
  | [], vs, h => by
    have e := h.nilE
    subst e
    exact FzL.nil
  | x :: ts, vs, h => by
    obtain ⟨w, r, rfl, h1, h2⟩ := h.inv
    rw [List.reverse_cons, List.reverse_cons]
    exact (FzL.reverse h2).append (FzL.cons h1 FzL.nil)
theorem fz_ints' : ∀ {ns : List Int}, FzL K S (ns.map .int) (ns.map V.int)
  | [] => FzL.nil
  | n :: ns => FzL.cons (by simp only [Fz]) fz_ints'
theorem fz_bls : ∀ {ns : List Bool} {vs : List V}, FzL K S (ns.map .bool) vs → vs = ns.map V.bl
  | [], vs, h => h.nilE
  | n :: ns, vs, h => by
    obtain ⟨v, r, rfl, h1, h2⟩ := h.inv
    have e : v = .bl n := by simpa only [Fz] using h1
    rw [e, fz_bls h2]
    rfl
end

section
variable (K : PySem.W.Frag) (S H : Hp)
mutual
/-- v stands for the owned tree o, whose own objects are those at fp -/
def Ow : O → V → List Addr → Prop
  | .leaf t, v, fp => fp = [] ∧ Fz K S t v
  | .ls ts, v, fp => ∃ a vs, v = .ref a ∧ H a = some (.lst vs) ∧ fp = [a] ∧ FzL K S ts vs
  | .dic kvs, v, fp => ∃ a vs fr, v = .ref a ∧ fp = a :: fr ∧ OwK kvs vs fr ∧ H a = some (.dK vs)
  | .dct kvs, v, fp => ∃ a vs fr, v = .ref a ∧ fp = a :: fr ∧ OwT kvs vs fr ∧ H a = some (.dT vs)
  | .obj C fs, v, fp => ∃ a dx vs fr, v = .ref a ∧ fp = a :: dx :: fr ∧ OwF fs vs fr ∧ H a = some (.ins C dx vs) ∧ H dx = some (.own a)
  | .tup os, v, fp => ∃ a vs, v = .ref a ∧ S a = some (.tup vs) ∧ OwL os vs fp
  | .lso os, v, fp => ∃ a vs fr, v = .ref a ∧ fp = a :: fr ∧ OwL os vs fr ∧ H a = some (.lst vs)
def OwL : List O → List V → List Addr → Prop
  | [], vs, fr => vs = [] ∧ fr = []
  | o :: r, vs, fr => ∃ v vr f1 f2, vs = v :: vr ∧ fr = f1 ++ f2 ∧ Ow o v f1 ∧ OwL r vr f2
def OwK : List (Key × O) → List (Key × V) → List Addr → Prop
  | [], vs, fr => vs = [] ∧ fr = []
  | (k, o) :: r, vs, fr => ∃ v vr f1 f2, vs = (k, v) :: vr ∧ fr = f1 ++ f2 ∧ Ow o v f1 ∧ OwK r vr f2
def OwT : List (List Key × O) → List (List Key × V) → List Addr → Prop
  | [], vs, fr => vs = [] ∧ fr = []
  | (k, o) :: r, vs, fr => ∃ v vr f1 f2, vs = (k, v) :: vr ∧ fr = f1 ++ f2 ∧ Ow o v f1 ∧ OwT r vr f2
def OwF : List (Str × O) → List (Str × V) → List Addr → Prop
  | [], vs, fr => vs = [] ∧ fr = []
  | (k, o) :: r, vs, fr => ∃ v vr f1 f2, vs = (k, v) :: vr ∧ fr = f1 ++ f2 ∧ Ow o v f1 ∧ OwF r vr f2
end
end

section
variable {K : PySem.W.Frag} {S S' H H' : Hp}
mutual
/-- kept where its own objects stand and the frozen ones stay -/
theorem Ow.keep (es : Same S S') : ∀ {o : O} {v : V} {fp : List Addr}, (∀ a ∈ fp, H' a = H a) → Ow K S H o v fp → Ow K S' H' o v fp
  | .leaf t, v, fp, k, h => by
    simp only [Ow] at h ⊢
    exact ⟨h.1, h.2.same es⟩
  | .ls ts, v, fp, k, h => by
    simp only [Ow] at h ⊢
    obtain ⟨a, vs, e1, h1, e2, h2⟩ := h
    exact ⟨a, vs, e1, (k a (by rw [e2]; exact List.mem_cons_self)).trans h1, e2, h2.same es⟩
  | .dic kvs, v, fp, k, h => by
    simp only [Ow] at h ⊢
    obtain ⟨a, vs, fr, e1, e2, h1, h2⟩ := h
    exact ⟨a, vs, fr, e1, e2, OwK.keep es (fun b hb => k b (by rw [e2]; exact List.mem_cons_of_mem _ hb)) h1, (k a (by rw [e2]; exact List.mem_cons_self)).trans h2⟩
  | .dct kvs, v, fp, k, h => by
    simp only [Ow] at h ⊢
    obtain ⟨a, vs, fr, e1, e2, h1, h2⟩ := h
    exact ⟨a, vs, fr, e1, e2, OwT.keep es (fun b hb => k b (by rw [e2]; exact List.mem_cons_of_mem _ hb)) h1, (k a (by rw [e2]; exact List.mem_cons_self)).trans h2⟩
  | .obj C fs, v, fp, k, h => by
    simp only [Ow] at h ⊢
    obtain ⟨a, dx, vs, fr, e1, e2, h1, h2, h3⟩ := h
    exact ⟨a, dx, vs, fr, e1, e2, OwF.keep es (fun b hb => k b (by rw [e2]; exact List.mem_cons_of_mem _ (List.mem_cons_of_mem _ hb))) h1,
      (k a (by rw [e2]; exact List.mem_cons_self)).trans h2, (k dx (by rw [e2]; exact List.mem_cons_of_mem _ List.mem_cons_self)).trans h3⟩
  | .tup os, v, fp, k, h => by
    simp only [Ow] at h ⊢
    obtain ⟨a, vs, e1, h1, h2⟩ := h
    exact ⟨a, vs, e1, es _ _ h1, OwL.keep es k h2⟩
  | .lso os, v, fp, k, h => by
    simp only [Ow] at h ⊢
    obtain ⟨a, vs, fr, e1, e2, h1, h2⟩ := h
    exact ⟨a, vs, fr, e1, e2, OwL.keep es (fun b hb => k b (by rw [e2]; exact List.mem_cons_of_mem _ hb)) h1, (k a (by rw [e2]; exact List.mem_cons_self)).trans h2⟩
theorem OwL.keep (es : Same S S') : ∀ {os : List O} {vs : List V} {fp : List Addr}, (∀ a ∈ fp, H' a = H a) → OwL K S H os vs fp → OwL K S' H' os vs fp
  | [], vs, fp, k, h => by
    simp only [OwL] at h ⊢
    exact h
  | o :: r, vs, fp, k, h => by
    simp only [OwL] at h ⊢
    obtain ⟨v, vr, f1, f2, e1, e2, h1, h2⟩ := h
    exact ⟨v, vr, f1, f2, e1, e2, Ow.keep es (fun a ha => k a (by rw [e2]; exact List.mem_append_left _ ha)) h1, OwL.keep es (fun a ha => k a (by rw [e2]; exact List.mem_append_right _ ha)) h2⟩
theorem OwK.keep (es : Same S S') : ∀ {kvs : List (Key × O)} {vs : List (Key × V)} {fp : List Addr}, (∀ a ∈ fp, H' a = H a) → OwK K S H kvs vs fp → OwK K S' H' kvs vs fp
  | [], vs, fp, k, h => by
    simp only [OwK] at h ⊢
    exact h
  | (_, o) :: r, vs, fp, k, h => by
    simp only [OwK] at h ⊢
    obtain ⟨v, vr, f1, f2, e1, e2, h1, h2⟩ := h
    exact ⟨v, vr, f1, f2, e1, e2, Ow.keep es (fun a ha => k a (by rw [e2]; exact List.mem_append_left _ ha)) h1, OwK.keep es (fun a ha => k a (by rw [e2]; exact List.mem_append_right _ ha)) h2⟩
theorem OwT.keep (es : Same S S') : ∀ {kvs : List (List Key × O)} {vs : List (List Key × V)} {fp : List Addr}, (∀ a ∈ fp, H' a = H a) → OwT K S H kvs vs fp → OwT K S' H' kvs vs fp
  | [], vs, fp, k, h => by
    simp only [OwT] at h ⊢
    exact h
  | (_, o) :: r, vs, fp, k, h => by
    simp only [OwT] at h ⊢
    obtain ⟨v, vr, f1, f2, e1, e2, h1, h2⟩ := h
    exact ⟨v, vr, f1, f2, e1, e2, Ow.keep es (fun a ha => k a (by rw [e2]; exact List.mem_append_left _ ha)) h1, OwT.keep es (fun a ha => k a (by rw [e2]; exact List.mem_append_right _ ha)) h2⟩
theorem OwF.keep (es : Same S S') : ∀ {kvs : List (Str × O)} {vs : List (Str × V)} {fp : List Addr}, (∀ a ∈ fp, H' a = H a) → OwF K S H kvs vs fp → OwF K S' H' kvs vs fp
  | [], vs, fp, k, h => by
    simp only [OwF] at h ⊢
    exact h
  | (_, o) :: r, vs, fp, k, h => by
    simp only [OwF] at h ⊢
    obtain ⟨v, vr, f1, f2, e1, e2, h1, h2⟩ := h
    exact ⟨v, vr, f1, f2, e1, e2, Ow.keep es (fun a ha => k a (by rw [e2]; exact List.mem_append_left _ ha)) h1, OwF.keep es (fun a ha => k a (by rw [e2]; exact List.mem_append_right _ ha)) h2⟩
end
mutual
theorem Ow.some : ∀ {o : O} {v : V} {fp : List Addr}, Ow K S H o v fp → ∀ a ∈ fp, Liv H a
  | .leaf t, v, fp, h => by
    simp only [Ow] at h
    rw [h.1]
    intro a ha
    cases ha
  | .ls ts, v, fp, h => by
    simp only [Ow] at h
    obtain ⟨a, vs, e1, h1, e2, h2⟩ := h
    rw [e2]
    intro b hb
    rw [List.mem_singleton.mp hb]
    exact lv_of h1
  | .dic kvs, v, fp, h => by
    simp only [Ow] at h
    obtain ⟨a, vs, fr, e1, e2, h1, h2⟩ := h
    rw [e2]
    intro b hb
    rcases List.mem_cons.mp hb with rfl | hb
    · exact lv_of h2
    · exact OwK.some h1 b hb
  | .dct kvs, v, fp, h => by
    simp only [Ow] at h
    obtain ⟨a, vs, fr, e1, e2, h1, h2⟩ := h
    rw [e2]
    intro b hb
    rcases List.mem_cons.mp hb with rfl | hb
    · exact lv_of h2
    · exact OwT.some h1 b hb
  | .obj C fs, v, fp, h => by
    simp only [Ow] at h
    obtain ⟨a, dx, vs, fr, e1, e2, h1, h2, h3⟩ := h
    rw [e2]
    intro b hb
    rcases List.mem_cons.mp hb with rfl | hb
    · exact lv_of h2
    · rcases List.mem_cons.mp hb with rfl | hb
      · exact lv_of h3
      · exact OwF.some h1 b hb
  | .tup os, v, fp, h => by
    simp only [Ow] at h
    obtain ⟨a, vs, e1, h1, h2⟩ := h
    exact OwL.some h2
  | .lso os, v, fp, h => by
    simp only [Ow] at h
    obtain ⟨a, vs, fr, e1, e2, h1, h2⟩ := h
    rw [e2]
    intro b hb
    rcases List.mem_cons.mp hb with rfl | hb
    · exact lv_of h2
    · exact OwL.some h1 b hb
theorem OwL.some : ∀ {os : List O} {vs : List V} {fp : List Addr}, OwL K S H os vs fp → ∀ a ∈ fp, Liv H a
  | [], vs, fp, h => by
    simp only [OwL] at h
    rw [h.2]
    intro a ha
    cases ha
  | o :: r, vs, fp, h => by
    simp only [OwL] at h
    obtain ⟨v, vr, f1, f2, e1, e2, h1, h2⟩ := h
    rw [e2]
    intro a ha
    rcases List.mem_append.mp ha with ha | ha
    · exact Ow.some h1 a ha
    · exact OwL.some h2 a ha
theorem OwK.some : ∀ {kvs : List (Key × O)} {vs : List (Key × V)} {fp : List Addr}, OwK K S H kvs vs fp → ∀ a ∈ fp, Liv H a
  | [], vs, fp, h => by
    simp only [OwK] at h
    rw [h.2]
    intro a ha
    cases ha
  | (_, o) :: r, vs, fp, h => by
    simp only [OwK] at h
    obtain ⟨v, vr, f1, f2, e1, e2, h1, h2⟩ := h
    rw [e2]
    intro a ha
    rcases List.mem_append.mp ha with ha | ha
    · exact Ow.some h1 a ha
    · exact OwK.some h2 a ha
theorem OwT.some : ∀ {kvs : List (List Key × O)} {vs : List (List Key × V)} {fp : List Addr}, OwT K S H kvs vs fp → ∀ a ∈ fp, Liv H a
  | [], vs, fp, h => by
    simp only [OwT] at h
    rw [h.2]
    intro a ha
    cases ha
  | (_, o) :: r, vs, fp, h => by
    simp only [OwT] at h
    obtain ⟨v, vr, f1, f2, e1, e2, h1, h2⟩ := h
    rw [e2]
    intro a ha
    rcases List.mem_append.mp ha with ha | ha
    · exact Ow.some h1 a ha
    · exact OwT.some h2 a ha
theorem OwF.some : ∀ {kvs : List (Str × O)} {vs : List (Str × V)} {fp : List Addr}, OwF K S H kvs vs fp → ∀ a ∈ fp, Liv H a
  | [], vs, fp, h => by
    simp only [OwF] at h
    rw [h.2]
    intro a ha
    cases ha
  | (_, o) :: r, vs, fp, h => by
    simp only [OwF] at h
    obtain ⟨v, vr, f1, f2, e1, e2, h1, h2⟩ := h
    rw [e2]
    intro a ha
    rcases List.mem_append.mp ha with ha | ha
    · exact Ow.some h1 a ha
    · exact OwF.some h2 a ha
end
/-- .. where the heap only grows -/
theorem Ow.monoK (es : Same S S') (eh : KS H H') {o : O} {v : V} {fp : List Addr} (h : Ow K S H o v fp) : Ow K S' H' o v fp :=
  h.keep es fun a ha => eh.at (h.some a ha)
theorem Ow.mono (es : Same S S') (eh : Same H H') {o : O} {v : V} {fp : List Addr} (h : Ow K S H o v fp) : Ow K S' H' o v fp :=
  h.keep es fun a ha => by
    obtain ⟨o, q, _⟩ := h.some a ha
    rw [q]
    exact eh a o q
theorem ow_leaf {t : D} {v : V} (h : Fz K S t v) : Ow K S H (.leaf t) v [] := by
  simp only [Ow]
  exact ⟨trivial, h⟩
theorem ow_leafE {t : D} {v : V} {fp : List Addr} (h : Ow K S H (.leaf t) v fp) : fp = [] ∧ Fz K S t v := by
  simp only [Ow] at h
  exact h
theorem ow_lsE {ts : List D} {v : V} {fp : List Addr} (h : Ow K S H (.ls ts) v fp) : ∃ a vs, v = .ref a ∧ H a = some (.lst vs) ∧ fp = [a] ∧ FzL K S ts vs := by
  simp only [Ow] at h
  exact h
theorem ow_ls {ts : List D} {a : Addr} {vs : List V} (h : H a = some (.lst vs)) (h2 : FzL K S ts vs) : Ow K S H (.ls ts) (.ref a) [a] := by
  simp only [Ow]
  exact ⟨a, vs, rfl, h, rfl, h2⟩
end

/-! ### tables of code objects -/
/-- the tables of the defs in which lambdas stand, and the lambdas' names -/
def lamT (K : PySem.W.Frag) : List (Addr × Str) := lams.map fun x => ((He.cT K (x, none)).2, x ++ ".<locals>." ++ "<lambda>")
structure TbOk (K : PySem.W.Frag) (S H : Hp) : Prop where
  tabs : LamX.Tabs (lamT K) H
  out : ∀ p ∈ lamT K, S p.1 = none
theorem TbOk.mono {K : PySem.W.Frag} {S H S' H' : Hp} (t : TbOk K S H) (g : ∀ a u, H a = some u → fx u = true → H' a = some u ∧ S' a = S a) : TbOk K S' H' := by
  refine ⟨fun p hp => ?_, fun p hp => ?_⟩
  · obtain ⟨ps, h1, h2, h3⟩ := t.tabs p hp
    refine ⟨ps, (g _ _ h1 rfl).1, h2, fun pos cv hc => ?_⟩
    obtain ⟨c, e1, e2⟩ := h3 pos cv hc
    exact ⟨c, e1, (g _ _ e2 rfl).1⟩
  · obtain ⟨ps, h1, h2, h3⟩ := t.tabs p hp
    exact (g _ _ h1 rfl).2.trans (t.out p hp)
/-- where a live thing alone is written -/
theorem TbOk.upd {K : PySem.W.Frag} {S H : Hp} {a : Addr} {o : HO} (t : TbOk K S H) (h : H a = none ∨ Liv H a) : TbOk K S (upd H a o) := t.mono fun b u e f => ⟨by
  rw [upd_ne fun z => by
    rw [z] at e
    rcases h with h | h
    · rw [h] at e; cases e
    · rw [h.not e] at f; cases f]
  exact e, rfl⟩
/-! ### the state: what the slots hold -/
abbrev Env := List (Option O)
structure Rel (K : PySem.W.Frag) (env : Env) (σ : L2.St) (S H : Hp) (fp : Nat → List Addr) : Prop where
  le : Same S H
  len : env.length = σ.length
  sl : ∀ (i : Nat) (o : O), env[i]? = some (some o) → ∃ v, σ[i]? = some (some v) ∧ Ow K S H o v (fp i)
  nd : ∀ i, (fp i).Nodup
  dj : ∀ i j a, a ∈ fp i → a ∈ fp j → i = j
  un : ∀ i a, a ∈ fp i → S a = none
  ins : ∀ i a, a ∈ fp i → Liv H a
  tb : TbOk K S H
/-- what stands goes on standing, tuples as they are -/
def LV (H H' : Hp) : Prop := ∀ a, H a ≠ none → H' a ≠ none ∧ ∀ vs, H a = some (.tup vs) → H' a = some (.tup vs)
theorem LV.trans {H H1 H2 : Hp} (h : LV H H1) (h2 : LV H1 H2) : LV H H2 := fun a q => ⟨(h2 a (h a q).1).1, fun vs e => (h2 a (h a q).1).2 vs ((h a q).2 vs e)⟩
theorem LV.refl {H : Hp} : LV H H := fun _ h => ⟨h, fun _ e => e⟩
theorem LV.same {H H' : Hp} (g : Same H H') : LV H H' := fun a h => by
  refine ⟨fun z => ?_, fun vs e => g a _ e⟩
  cases q : H a with
  | none => exact h q
  | some u =>
    rw [g a u q] at z
    cases z
/-- where a live thing alone, or nothing, is written -/
theorem LV.upd {H : Hp} {a : Addr} {o : HO} (h : H a = none ∨ Liv H a) : LV H (upd H a o) := fun b hb => by
  by_cases q : b = a
  · subst q
    refine ⟨by rw [upd_same]; exact (fun z => nomatch z), fun vs e => ?_⟩
    rcases h with h | ⟨u, e2, f⟩
    · exact absurd h hb
    · rw [e2] at e
      cases e
      cases f
  · rw [upd_ne q]
    exact ⟨hb, fun _ e => e⟩
/-- what is not at some owned places stays -/
theorem LV.off {H H' : Hp} {fr : List Addr} (h : ∀ a, a ∉ fr → H' a = H a) (hl : ∀ a ∈ fr, Liv H a) (hl2 : ∀ a ∈ fr, Liv H' a) : LV H H' := fun a hb => by
  by_cases q : a ∈ fr
  · refine ⟨(hl2 a q).ne, fun vs e => ?_⟩
    obtain ⟨u, e2, f⟩ := hl a q
    rw [e2] at e
    cases e
    cases f
  · rw [h a q]
    exact ⟨hb, fun _ e => e⟩
/-- from one state to a later one -/
structure Evo (S H : Hp) (fp : Nat → List Addr) (S' H' : Hp) (fp' : Nat → List Addr) : Prop where
  sub : Same S S'
  keep : ∀ a, Liv H a → (∀ i, a ∉ fp i) → H' a = H a ∧ S' a = S a
  own : ∀ i a, a ∈ fp' i → H a = none ∨ ∃ j, a ∈ fp j
  live : LV H H'
structure Fresh (S H : Hp) (fp : Nat → List Addr) (S' : Hp) (fp' : Nat → List Addr) (fr : List Addr) : Prop where
  nd : fr.Nodup
  src : ∀ a ∈ fr, H a = none ∨ ∃ j, a ∈ fp j
  off : ∀ a ∈ fr, ∀ i, a ∉ fp' i
  un : ∀ a ∈ fr, S' a = none
/-- heap and frozen part grow, what stands stays -/
structure Gr (S H S' H' : Hp) : Prop where
  sub : Same S S'
  grow : Same H H'
  le : Same S' H'
  un : ∀ a u, H a = some u → isTu u = false → S' a = S a
theorem Gr.ks {S H S' H' : Hp} (g : Gr S H S' H') : KS H H' := g.grow.ks
structure New (H S' : Hp) (fr : List Addr) : Prop where
  nd : fr.Nodup
  src : ∀ a ∈ fr, H a = none
  un : ∀ a ∈ fr, S' a = none

section
variable {K : PySem.W.Frag} {S S1 S2 S' H H1 H2 H' : Hp} {fp fp1 fp2 fp' : Nat → List Addr} {fr : List Addr} {env env' : Env} {σ : L2.St}
theorem Evo.refl (S H : Hp) (fp : Nat → List Addr) : Evo S H fp S H fp := ⟨Same.refl _, fun _ _ _ => ⟨rfl, rfl⟩, fun i _ h => .inr ⟨i, h⟩, LV.refl⟩
theorem Evo.back (e : Evo S H fp S1 H1 fp1) {a : Addr} (h : H1 a = none ∨ ∃ j, a ∈ fp1 j) : H a = none ∨ ∃ j, a ∈ fp j := by
  rcases h with h | ⟨j, h⟩
  · by_cases q : H a = none
    · exact .inl q
    · exact absurd h (e.live a q).1
  · exact e.own j a h
theorem Evo.trans (e : Evo S H fp S1 H1 fp1) (e2 : Evo S1 H1 fp1 S2 H2 fp2) : Evo S H fp S2 H2 fp2 := by
  refine ⟨e.sub.trans e2.sub, fun a ha hn => ?_, fun i a h => e.back (e2.own i a h), e.live.trans e2.live⟩
  obtain ⟨h1, h2⟩ := e.keep a ha hn
  have hn1 : ∀ i, a ∉ fp1 i := fun i m => by
    rcases e.own i a m with z | ⟨j, z⟩
    · exact ha.ne z
    · exact hn j z
  obtain ⟨h3, h4⟩ := e2.keep a (ha.eq h1) hn1
  exact ⟨h3.trans h1, h4.trans h2⟩
theorem Gr.refl (h : Same S H) : Gr S H S H := ⟨Same.refl _, Same.refl _, h, fun _ _ _ _ => rfl⟩
theorem Gr.liv {a : Addr} (g : Gr S H S' H') (h : Liv H a) : S' a = S a := by
  obtain ⟨u, e, f⟩ := h
  exact g.un a u e (fy_tu f)
theorem same_ne (e : Same H H') {a : Addr} (h : H a ≠ none) : H' a = H a := by
  cases q : H a with
  | none => exact absurd q h
  | some o => exact e a o q
theorem Gr.trans (g : Gr S H S1 H1) (g2 : Gr S1 H1 S2 H2) : Gr S H S2 H2 :=
  ⟨g.sub.trans g2.sub, g.grow.trans g2.grow, g2.le, fun a u e t => (g2.un a u (g.grow a u e) t).trans (g.un a u e t)⟩
theorem Gr.evo (g : Gr S H S' H') : Evo S H fp S' H' fp :=
  ⟨g.sub, fun a h _ => ⟨same_ne g.grow h.ne, g.liv h⟩, fun i _ h => .inr ⟨i, h⟩, LV.same g.grow⟩
theorem Gr.tb (g : Gr S H S' H') (t : TbOk K S H) : TbOk K S' H' := t.mono fun a u e f => ⟨g.grow _ _ e, g.un a u e (fx_tu f)⟩
theorem Rel.gr (r : Rel K env σ S H fp) (g : Gr S H S' H') : Rel K env σ S' H' fp :=
  ⟨g.le, r.len, fun i o h => by
    obtain ⟨v, e, w⟩ := r.sl i o h
    exact ⟨v, e, w.mono g.sub g.grow⟩, r.nd, r.dj, fun i a h => (g.liv (r.ins i a h)).trans (r.un i a h), fun i a h => (r.ins i a h).eq (same_ne g.grow (r.ins i a h).ne), g.tb r.tb⟩
theorem New.fresh (n : New H S' fr) (r : ∀ i a, a ∈ fp i → Liv H a) : Fresh S H fp S' fp fr := ⟨n.nd, fun a h => .inl (n.src a h), fun a h i m => (r i a m).ne (n.src a h), n.un⟩
theorem Fresh.nil : Fresh S H fp S' fp' [] := ⟨List.nodup_nil, (by intro a h; cases h), (by intro a h; cases h), (by intro a h; cases h)⟩
theorem New.nil : New H S' [] := ⟨List.nodup_nil, (by intro a h; cases h), (by intro a h; cases h)⟩
/-- later: what was fresh ahead and lies apart is fresh behind -/
theorem Fresh.evo (f : Fresh S H fp S1 fp1 fr) (hin : ∀ a ∈ fr, Liv H1 a) (e2 : Evo S1 H1 fp1 S2 H2 fp2) : Fresh S H fp S2 fp2 fr :=
  ⟨f.nd, f.src, fun a h i m => by
    rcases e2.own i a m with z | ⟨j, z⟩
    · exact (hin a h).ne z
    · exact f.off a h j z, fun a h => ((e2.keep a (hin a h) (f.off a h)).2).trans (f.un a h)⟩
theorem Fresh.pre (e : Evo S H fp S1 H1 fp1) (f : Fresh S1 H1 fp1 S2 fp2 fr) : Fresh S H fp S2 fp2 fr := ⟨f.nd, fun a h => e.back (f.src a h), f.off, f.un⟩
theorem Ow.evo {o : O} {v : V} (h : Ow K S1 H1 o v fr) (off : ∀ a ∈ fr, ∀ i, a ∉ fp1 i) (e2 : Evo S1 H1 fp1 S2 H2 fp2) : Ow K S2 H2 o v fr :=
  h.keep e2.sub fun a ha => (e2.keep a (h.some a ha) (off a ha)).1
/-- a new object, frozen -/
theorem Gr.newS {p : Addr} {o : HO} (le : Same S H) (hp : H p = none) : Gr S H (upd S p o) (upd H p o) := by
  have sp : S p = none := le.free hp
  refine ⟨fun a u e => ?_, fun a u e => ?_, fun a u e => ?_, fun a u e _ => ?_⟩
  · rw [upd_ne (ne_of_none e sp)]; exact e
  · rw [upd_ne (ne_of_none e hp)]; exact e
  · by_cases q : a = p
    · subst q
      rw [upd_same] at e ⊢
      exact e
    · rw [upd_ne q] at e ⊢
      exact le _ _ e
  · exact upd_ne fun z => by rw [z, hp] at e; cases e
/-- a tuple that stands there, frozen -/
theorem Gr.tup {p : Addr} {vs : List V} (le : Same S H) (hp : H p = some (.tup vs)) : Gr S H (upd S p (.tup vs)) H := by
  refine ⟨fun a u e => ?_, Same.refl _, fun a u e => ?_, fun a u e t => ?_⟩
  · by_cases q : a = p
    · subst q
      have := le _ _ e
      rw [hp] at this
      cases this
      exact upd_same
    · rw [upd_ne q]; exact e
  · by_cases q : a = p
    · subst q
      rw [upd_same] at e
      cases e
      exact hp
    · rw [upd_ne q] at e
      exact le _ _ e
  · exact upd_ne fun z => by
      rw [z, hp] at e
      cases e
      cases t
/-- a new object, one's own -/
theorem Gr.newH {p : Addr} {o : HO} (le : Same S H) (hp : H p = none) : Gr S H S (upd H p o) := by
  have sp : S p = none := le.free hp
  refine ⟨Same.refl _, fun a u e => ?_, fun a u e => ?_, fun _ _ _ _ => rfl⟩
  · rw [upd_ne (ne_of_none e hp)]; exact e
  · rw [upd_ne (ne_of_none (le _ _ e) hp)]
    exact le _ _ e
theorem New.one {p : Addr} (hp : H p = none) (sp : S' p = none) : New H S' [p] := ⟨by simp, fun a h => by rw [List.mem_singleton.mp h]; exact hp, fun a h => by rw [List.mem_singleton.mp h]; exact sp⟩
end
end Mv

set_option Elab.async false
set_option linter.all false
set_option maxRecDepth 100000
set_option maxHeartbeats 2000000
namespace Mv
open PySem PySem.Spec PyProof.Rows L2

abbrev ESem := Env → Option (O × Env)
abbrev TSem := Env → Option (Bool × Env)
abbrev ASem := Env → Option (List O × Env)
inductive Out where
  | nx | bk | ct | rt (o : O)
abbrev SSem := Env → Option (Out × Env)
def O.isLeaf : O → Bool
  | .leaf _ => true
  | _ => false

/-! ### expressions -/
def tE (K : PySem.W.Frag) (f : ESem) (q m : Bool) : TE := fun σ H Q => ∃ env S fp r env', Rel K env σ S H fp ∧ f env = some (r, env') ∧
  ∀ v S' H' fp' fr, Rel K env' σ S' H' fp' → Evo S H fp S' H' fp' → Ow K S' H' r v fr → (q = true → fp' = fp ∧ KS H H') → (m = true → Fresh S H fp S' fp' fr) → Q v H'
structure SE (X : Cx) (e : Expr) (f : ESem) (q m : Bool) : Prop where
  pe : PE X e (tE X.K f q m)
  qf : q = true → ∀ env r env', f env = some (r, env') → env' = env
def tT (K : PySem.W.Frag) (f : TSem) (q : Bool) : TT := fun σ H Q => ∃ env S fp b env', Rel K env σ S H fp ∧ f env = some (b, env') ∧
  ∀ S' H' fp', Rel K env' σ S' H' fp' → Evo S H fp S' H' fp' → (q = true → fp' = fp ∧ KS H H') → Q b H'
structure ST (X : Cx) (e : Expr) (f : TSem) (q : Bool) : Prop where
  pt : PT X e (tT X.K f q)
  qf : q = true → ∀ env r env', f env = some (r, env') → env' = env

theorem PE.imp {X : Cx} {e : Expr} {t t' : TE} (h : PE X e t) (i : ∀ σ H Q, t' σ H Q → t σ H Q) : PE X e t' := ⟨fun pins s σ H Q I hw => h.run pins s σ H Q I (i _ _ _ hw)⟩
theorem PT.imp {X : Cx} {e : Expr} {t t' : TT} (h : PT X e t) (i : ∀ σ H Q, t' σ H Q → t σ H Q) : PT X e t' := ⟨fun pins s σ H Q I hw => h.run pins s σ H Q I (i _ _ _ hw)⟩
theorem PW.imp {X : Cx} {e : Expr} {t t' : TT} (h : PW X e t) (i : ∀ σ H Q, t' σ H Q → t σ H Q) : PW X e t' := ⟨fun wh pins s σ H Q I hw => h.run wh pins s σ H Q I (i _ _ _ hw)⟩
theorem PA.imp {X : Cx} {e : List Expr} {t t' : TA} (h : PA X e t) (i : ∀ σ H Q, t' σ H Q → t σ H Q) : PA X e t' := ⟨fun pos pins s σ H Q I hw => h.run pos pins s σ H Q I (i _ _ _ hw)⟩
theorem PS.imp {X : Cx} {e : Stmt} {t t' : TS} (h : PS X e t) (i : ∀ D σ H, t' D σ H → t D σ H) : PS X e t' := ⟨fun pins s σ H D I hw => h.run pins s σ H D I (i _ _ _ hw)⟩
theorem PSs.imp {X : Cx} {e : List Stmt} {t t' : TS} (h : PSs X e t) (i : ∀ D σ H, t' D σ H → t D σ H) : PSs X e t' := ⟨fun pins s σ H D I hw => h.run pins s σ H D I (i _ _ _ hw)⟩
theorem PG.imp {X : Cx} {e : Expr} {t t' : TG} (h : PG X e t) (i : ∀ v σ H Q, t' v σ H Q → t v σ H Q) : PG X e t' := ⟨fun pins s σ H v u Q I r hw => h.run pins s σ H v u Q I r (i _ _ _ _ hw)⟩
theorem PGs.imp {X : Cx} {e : List Expr} {t t' : TGs} (h : PGs X e t) (i : ∀ v σ H Q, t' v σ H Q → t v σ H Q) : PGs X e t' := ⟨fun pins s σ H v u Q I r hw => h.run pins s σ H v u Q I r (i _ _ _ _ hw)⟩

def cstE (t : D) : ESem := fun env => some (.leaf t, env)
def varE (i : Nat) : ESem := fun env => match env[i]? with
  | some (some o) => some (o, env)
  | _ => none
def bin (ok : Bool) (f1 f2 : ESem) (g : O → O → Option O) : ESem := fun env => (f1 env).bind fun p => (f2 p.2).bind fun r =>
  if (ok || p.1.isLeaf) = true then (g p.1 r.1).map fun z => (z, r.2) else none
/-- the first one a name, looked at when the second is there -/
def binV (i : Nat) (f2 : ESem) (g : O → O → Option O) : ESem := fun env => match env[i]? with
  | some (some _) => (f2 env).bind fun r => match r.2[i]? with
    | some (some o) => (g o r.1).map fun z => (z, r.2)
    | _ => none
  | _ => none
def un (f : ESem) (g : O → Option O) : ESem := fun env => (f env).bind fun p => (g p.1).map fun z => (z, p.2)

section
variable {X : Cx} {e a b : Expr} {f f1 f2 : ESem} {q q1 q2 m m1 m2 ok : Bool} {pos : Pos}

theorem tE_val {K : PySem.W.Frag} {t : D} {v : V} {σ : L2.St} {H : Hp} {Q : VK} (h : ∀ S, Fz K S t v) (hw : tE K (cstE t) true true σ H Q) : tC v σ H Q := by
  obtain ⟨env, S, fp, r, env', R, he, k⟩ := hw
  cases he
  exact k v S H fp [] R (Evo.refl _ _ _) (ow_leaf (h S)) (fun _ => ⟨rfl, KS.refl _⟩) (fun _ => Fresh.nil)
theorem cst_qf {t : D} : true = true → ∀ env r env', cstE t env = some (r, env') → env' = env := by
  intro _ env r env' h
  cases h
  rfl
theorem se_int {i : Int} {j} : SE X (.Constant (.int i) j pos) (cstE (.int i)) true true := ⟨PE.imp pe_int fun _ _ _ h => tE_val (fun _ => by simp only [Fz]) h, cst_qf⟩
theorem se_bl {i : Bool} {j} : SE X (.Constant (.bool i) j pos) (cstE (.bool i)) true true := ⟨PE.imp pe_bl fun _ _ _ h => tE_val (fun _ => by simp only [Fz]) h, cst_qf⟩
theorem se_str {i : Str} {j} : SE X (.Constant (.str i) j pos) (cstE (.str i)) true true := ⟨PE.imp pe_str fun _ _ _ h => tE_val (fun _ => by simp only [Fz]) h, cst_qf⟩
theorem varE_some {i : Nat} {env env' : Env} {o : O} (h : varE i env = some (o, env')) : env[i]? = some (some o) ∧ env' = env := by
  unfold varE at h
  split at h
  · rename_i o' e
    cases h
    exact ⟨e, rfl⟩
  · cases h
theorem se_pv {i : Nat} (hp : PE X e (tVar i)) : SE X e (varE i) true false := by
  refine ⟨PE.imp hp fun σ H Q h => ?_, fun _ env r env' h => (varE_some h).2⟩
  obtain ⟨env, S, fp, r, env', R, he, k⟩ := h
  obtain ⟨e1, rfl⟩ := varE_some he
  obtain ⟨v, e2, w⟩ := R.sl i r e1
  exact ⟨v, e2, k v S H fp (fp i) R (Evo.refl _ _ _) w (fun _ => ⟨rfl, KS.refl _⟩) (fun z => nomatch z)⟩

/-! ### two operands -/
/-- a reading over two values kept by a function of trees -/
def RO2 (K : PySem.W.Frag) (r : R2) (g : O → O → Option O) : Prop := ∀ S H x y o1 o2 fr1 fr2 z Q, Same S H → Ow K S H o1 x fr1 → Ow K S H o2 y fr2 → g o1 o2 = some z →
  (∀ v S' H' fr, Gr S H S' H' → Ow K S' H' z v fr → New H S' fr → Q v H') → r x y H Q
def RO1 (K : PySem.W.Frag) (r : V → Hp → VK → Prop) (g : O → Option O) : Prop := ∀ S H x o fr1 z Q, Same S H → Ow K S H o x fr1 → g o = some z →
  (∀ v S' H' fr, Gr S H S' H' → Ow K S' H' z v fr → New H S' fr → Q v H') → r x H Q
theorem bin_some {g : O → O → Option O} {env env' : Env} {z : O} (h : bin ok f1 f2 g env = some (z, env')) : ∃ r1 e1 r2, f1 env = some (r1, e1) ∧ f2 e1 = some (r2, env') ∧ (ok = true ∨ r1.isLeaf = true) ∧ g r1 r2 = some z := by
  unfold bin at h
  simp only [Option.bind_eq_some_iff] at h
  obtain ⟨⟨r1, e1⟩, h1, ⟨r2, e2⟩, h2, h3⟩ := h
  simp only at h1 h2 h3
  split at h3
  · rename_i hc
    simp only [Option.map_eq_some_iff, Prod.mk.injEq] at h3
    obtain ⟨z', h3, rfl, rfl⟩ := h3
    simp only [Bool.or_eq_true] at hc
    exact ⟨r1, e1, r2, h1, h2, hc, h3⟩
  · cases h3
theorem isLeaf_fr {K : PySem.W.Frag} {S H : Hp} {o : O} {v : V} {fr : List Addr} (h : o.isLeaf = true) (w : Ow K S H o v fr) : fr = [] := by
  cases o with
  | leaf t => exact (ow_leafE w).1
  | _ => cases h
theorem imp2 {K : PySem.W.Frag} {r : R2} {g : O → O → Option O} (hr : RO2 K r g) (hok : ok = true → m1 = true ∨ q2 = true) {σ : L2.St} {H : Hp} {Q : VK} (hq1 : q1 = true → ∀ env r env', f1 env = some (r, env') → env' = env) (hq2 : q2 = true → ∀ env r env', f2 env = some (r, env') → env' = env)
    (h : tE K (bin ok f1 f2 g) (q1 && q2) true σ H Q) : tOp r (tE K f1 q1 m1) (tE K f2 q2 m2) σ H Q := by
  obtain ⟨env, S, fp, z, env2, R, he, k⟩ := h
  obtain ⟨r1, e1, r2, h1, h2, hl, hg⟩ := bin_some he
  refine ⟨env, S, fp, r1, e1, R, h1, fun x S1 H1 fp1 fr1 R1 E1 w1 g1 n1 => ⟨e1, S1, fp1, r2, env2, R1, h2, fun y S2 H2 fp2 fr2 R2 E2 w2 g2 n2 => ?_⟩⟩
  have w1' : Ow K S2 H2 r1 x fr1 := by
    by_cases hl1 : r1.isLeaf = true
    · have e := isLeaf_fr hl1 w1
      subst e
      exact w1.keep E2.sub (fun a ha => nomatch ha)
    · rcases hok (hl.resolve_right hl1) with e | e
      · exact w1.evo (n1 e).off E2
      · exact w1.monoK E2.sub (g2 e).2
  refine hr S2 H2 x y r1 r2 fr1 fr2 z Q R2.le w1' w2 hg fun v S' H' fr gr w nw => ?_
  have EE := (E1.trans E2).trans (gr.evo (fp := fp2))
  refine k v S' H' fp2 fr (R2.gr gr) EE w (fun e => ?_) (fun _ => Fresh.pre (E1.trans E2) (nw.fresh R2.ins))
  rw [Bool.and_eq_true] at e
  exact ⟨(g2 e.2).1.trans (g1 e.1).1, ((g1 e.1).2.trans (g2 e.2).2).trans gr.ks⟩
theorem bin_qf {g : O → O → Option O} (h1 : q1 = true → ∀ env r env', f1 env = some (r, env') → env' = env) (h2 : q2 = true → ∀ env r env', f2 env = some (r, env') → env' = env) :
    (q1 && q2) = true → ∀ env r env', bin ok f1 f2 g env = some (r, env') → env' = env := by
  intro e env r env' h
  rw [Bool.and_eq_true] at e
  obtain ⟨r1, e1, r2, h3, h4, _, _⟩ := bin_some h
  rw [h2 e.2 _ _ _ h4, h1 e.1 _ _ _ h3]
theorem se_bin {op : Operator} {r : R2} {g : O → O → Option O} (ho : OpR X (binaryOp op) r) (hr : RO2 X.K r g) (h1 : SE X a f1 q1 m1) (h2 : SE X b f2 q2 m2) (hok : ok = true → m1 = true ∨ q2 = true) : SE X (.BinOp a op b pos) (bin ok f1 f2 g) (q1 && q2) true :=
  ⟨PE.imp (pe_op ho h1.pe h2.pe) fun _ _ _ h => imp2 hr hok h1.qf h2.qf h, bin_qf h1.qf h2.qf⟩
theorem se_cmp {op : CmpOp} {r : R2} {g : O → O → Option O} (ho : OpR X (compareOp op) r) (hr : RO2 X.K r g) (h1 : SE X a f1 q1 m1) (h2 : SE X b f2 q2 m2) (hok : ok = true → m1 = true ∨ q2 = true) (hm : behindInMarks op b = false) : SE X (.Compare a [op] [b] pos) (bin ok f1 f2 g) (q1 && q2) true :=
  ⟨PE.imp (pe_cmpR ho h1.pe h2.pe hm) fun _ _ _ h => imp2 hr hok h1.qf h2.qf h, bin_qf h1.qf h2.qf⟩
theorem se_ix {r : R2} {g : O → O → Option O} (ho : IxR X r) (hr : RO2 X.K r g) (h1 : SE X a f1 q1 m1) (h2 : SE X b f2 q2 m2) (hok : ok = true → m1 = true ∨ q2 = true) (hs : PlainIx b) : SE X (.Subscript a b pos) (bin ok f1 f2 g) (q1 && q2) true :=
  ⟨PE.imp (pe_ix ho h1.pe h2.pe hs) fun _ _ _ h => imp2 hr hok h1.qf h2.qf h, bin_qf h1.qf h2.qf⟩
/-- an ESem whose value is a bool -/
def asB (f : ESem) : TSem := fun env => (f env).bind fun p => match p.1 with
  | .leaf (.bool b) => some (b, p.2)
  | _ => none
theorem asB_some {env env' : Env} {b : Bool} (h : asB f env = some (b, env')) : f env = some (.leaf (.bool b), env') := by
  unfold asB at h
  simp only [Option.bind_eq_some_iff] at h
  obtain ⟨⟨r, e1⟩, h1, h2⟩ := h
  simp only at h2
  split at h2
  · cases h2
    exact h1
  · cases h2
theorem asB_qf (h1 : q = true → ∀ env r env', f env = some (r, env') → env' = env) : q = true → ∀ env r env', asB f env = some (r, env') → env' = env := fun e env r env' h => h1 e _ _ _ (asB_some h)
theorem tT_of {K : PySem.W.Frag} {σ : L2.St} {H : Hp} {Q : Bool → Hp → Prop} (h : tT K (asB f) q σ H Q) : tE K f q m σ H fun x H' => ∃ k, x = .bl k ∧ Q k H' := by
  obtain ⟨env, S, fp, b, env', R, he, k⟩ := h
  refine ⟨env, S, fp, _, env', R, asB_some he, fun v S' H' fp' fr R' E w g n => ?_⟩
  have e := (ow_leafE w).2
  simp only [Fz] at e
  exact ⟨b, e, k S' H' fp' R' E g⟩
theorem st_cmp {op : CmpOp} {r : R2} {g : O → O → Option O} (ho : OpR X (compareOp op) r) (hr : RO2 X.K r g) (h1 : SE X a f1 q1 m1) (h2 : SE X b f2 q2 m2) (hok : ok = true → m1 = true ∨ q2 = true) (hm : behindInMarks op b = false) : ST X (.Compare a [op] [b] pos) (asB (bin ok f1 f2 g)) (q1 && q2) :=
  ⟨PT.imp (pt_cmpR ho h1.pe h2.pe hm) fun σ H Q h => by
    have h' := tT_of (m := true) h
    exact imp2 hr hok h1.qf h2.qf h', asB_qf (bin_qf h1.qf h2.qf)⟩
/-- an expression that is a bool, as a test -/
theorem st_val (h : SE X e f q m) (he : ∀ whole, isTrue e X.env whole = (do let v ← whole; standAt e.pos; holding [v] (truthy v)) := by intro _; rfl) : ST X e (asB f) q :=
  ⟨PT.imp (pt_val h.pe he) fun σ H Q h => tT_of h, asB_qf h.qf⟩

theorem binV_some {i : Nat} {g : O → O → Option O} {env env' : Env} {z : O} (h : binV i f2 g env = some (z, env')) : ∃ o0 o r2, env[i]? = some (some o0) ∧ f2 env = some (r2, env') ∧ env'[i]? = some (some o) ∧ g o r2 = some z := by
  unfold binV at h
  split at h
  · rename_i o0 e0
    simp only [Option.bind_eq_some_iff] at h
    obtain ⟨⟨r2, e2⟩, h2, h3⟩ := h
    simp only at h2 h3
    split at h3
    · rename_i o e
      simp only [Option.map_eq_some_iff, Prod.mk.injEq] at h3
      obtain ⟨z', h3, rfl, rfl⟩ := h3
      exact ⟨o0, o, r2, e0, h2, e, h3⟩
    · cases h3
  · cases h
theorem imp2V {K : PySem.W.Frag} {r : R2} {i : Nat} {g : O → O → Option O} (hr : RO2 K r g) {σ : L2.St} {H : Hp} {Q : VK} (hq2 : q2 = true → ∀ env r env', f2 env = some (r, env') → env' = env)
    (h : tE K (binV i f2 g) q2 true σ H Q) : tOp r (tVar i) (tE K f2 q2 m2) σ H Q := by
  obtain ⟨env, S, fp, z, env2, R, he, k⟩ := h
  obtain ⟨o0, o, r2, hi0, h2, hi2, hg⟩ := binV_some he
  obtain ⟨x, hx, _⟩ := R.sl i o0 hi0
  refine ⟨x, hx, env, S, fp, r2, env2, R, h2, fun y S2 H2 fp2 fr2 R2 E2 w2 g2 n2 => ?_⟩
  obtain ⟨x', hx', w1⟩ := R2.sl i o hi2
  rw [hx] at hx'
  cases hx'
  refine hr S2 H2 x y o r2 (fp2 i) fr2 z Q R2.le w1 w2 hg fun v S' H' fr gr w nw => ?_
  refine k v S' H' fp2 fr (R2.gr gr) (E2.trans (gr.evo (fp := fp2))) w (fun e => ⟨(g2 e).1, (g2 e).2.trans gr.ks⟩) (fun _ => Fresh.pre E2 (nw.fresh R2.ins))
theorem binV_qf {i : Nat} {g : O → O → Option O} (h2 : q2 = true → ∀ env r env', f2 env = some (r, env') → env' = env) :
    q2 = true → ∀ env r env', binV i f2 g env = some (r, env') → env' = env := by
  intro e env r env' h
  obtain ⟨_, _, r2, _, h4, _, _⟩ := binV_some h
  exact h2 e _ _ _ h4
theorem se_binV {i : Nat} {op : Operator} {r : R2} {g : O → O → Option O} (ho : OpR X (binaryOp op) r) (hr : RO2 X.K r g) (h1 : PE X a (tVar i)) (h2 : SE X b f2 q2 m2) : SE X (.BinOp a op b pos) (binV i f2 g) q2 true :=
  ⟨PE.imp (pe_op ho h1 h2.pe) fun _ _ _ h => imp2V hr h2.qf h, binV_qf h2.qf⟩
/-! ### one operand -/
theorem un_some {g : O → Option O} {env env' : Env} {z : O} (h : un f g env = some (z, env')) : ∃ r1, f env = some (r1, env') ∧ g r1 = some z := by
  unfold un at h
  simp only [Option.bind_eq_some_iff, Option.map_eq_some_iff, Prod.mk.injEq] at h
  obtain ⟨⟨r1, e1⟩, h1, z', h2, rfl, rfl⟩ := h
  exact ⟨r1, h1, h2⟩
theorem un_qf {g : O → Option O} (h1 : q = true → ∀ env r env', f env = some (r, env') → env' = env) : q = true → ∀ env r env', un f g env = some (r, env') → env' = env := by
  intro e env r env' h
  obtain ⟨r1, h2, _⟩ := un_some h
  exact h1 e _ _ _ h2
theorem imp1 {K : PySem.W.Frag} {r : V → Hp → VK → Prop} {g : O → Option O} (hr : RO1 K r g) {σ : L2.St} {H : Hp} {Q : VK} (h : tE K (un f g) q true σ H Q) : tUn r (tE K f q m) σ H Q := by
  obtain ⟨env, S, fp, z, env2, R, he, k⟩ := h
  obtain ⟨r1, h1, hg⟩ := un_some he
  refine ⟨env, S, fp, r1, env2, R, h1, fun x S1 H1 fp1 fr1 R1 E1 w1 g1 n1 => ?_⟩
  refine hr S1 H1 x r1 fr1 z Q R1.le w1 hg fun v S' H' fr gr w nw => ?_
  exact k v S' H' fp1 fr (R1.gr gr) (E1.trans (gr.evo (fp := fp1))) w (fun e => ⟨(g1 e).1, (g1 e).2.trans gr.ks⟩) (fun _ => Fresh.pre E1 (nw.fresh R1.ins))
theorem se_un {op : UnaryOp} {r : V → Hp → VK → Prop} {g : O → Option O} (ho : UnR X (unaryOp op) r) (hr : RO1 X.K r g) (h1 : SE X a f q m) : SE X (.UnaryOp op a pos) (un f g) q true :=
  ⟨PE.imp (pe_un ho h1.pe) fun _ _ _ h => imp1 hr h, un_qf h1.qf⟩

/-! ### and, or, not, if-else -/
def andT (f1 f2 : TSem) : TSem := fun env => (f1 env).bind fun p => if p.1 = true then f2 p.2 else some (false, p.2)
def orT (f1 f2 : TSem) : TSem := fun env => (f1 env).bind fun p => if p.1 = true then some (true, p.2) else f2 p.2
def notT (f1 : TSem) : TSem := fun env => (f1 env).map fun p => (!p.1, p.2)
def ifE (c : TSem) (f1 f2 : ESem) : ESem := fun env => (c env).bind fun p => if p.1 = true then f1 p.2 else f2 p.2
/-- a test as a value -/
def ofT (c : TSem) : ESem := fun env => (c env).map fun p => (.leaf (.bool p.1), p.2)
variable {c1 c2 : TSem}
theorem tT_and {K : PySem.W.Frag} {σ : L2.St} {H : Hp} {Q : Bool → Hp → Prop} (h : tT K (andT c1 c2) (q1 && q2) σ H Q) : tAnd (tT K c1 q1) (tT K c2 q2) σ H Q := by
  obtain ⟨env, S, fp, b, env2, R, he, k⟩ := h
  unfold andT at he
  simp only [Option.bind_eq_some_iff] at he
  obtain ⟨⟨b1, e1⟩, h1, h2⟩ := he
  simp only at h1 h2
  refine ⟨env, S, fp, b1, e1, R, h1, fun S1 H1 fp1 R1 E1 g1 => ?_⟩
  cases b1 with
  | true =>
    rw [if_pos rfl] at h2 ⊢
    refine ⟨e1, S1, fp1, b, env2, R1, h2, fun S2 H2 fp2 R2 E2 g2 => k S2 H2 fp2 R2 (E1.trans E2) fun e => ?_⟩
    rw [Bool.and_eq_true] at e
    exact ⟨(g2 e.2).1.trans (g1 e.1).1, (g1 e.1).2.trans (g2 e.2).2⟩
  | false =>
    rw [if_neg Bool.false_ne_true] at h2 ⊢
    cases h2
    refine k S1 H1 fp1 R1 E1 fun e => ?_
    rw [Bool.and_eq_true] at e
    exact g1 e.1
theorem tT_or {K : PySem.W.Frag} {σ : L2.St} {H : Hp} {Q : Bool → Hp → Prop} (h : tT K (orT c1 c2) (q1 && q2) σ H Q) : tOr (tT K c1 q1) (tT K c2 q2) σ H Q := by
  obtain ⟨env, S, fp, b, env2, R, he, k⟩ := h
  unfold orT at he
  simp only [Option.bind_eq_some_iff] at he
  obtain ⟨⟨b1, e1⟩, h1, h2⟩ := he
  simp only at h1 h2
  refine ⟨env, S, fp, b1, e1, R, h1, fun S1 H1 fp1 R1 E1 g1 => ?_⟩
  cases b1 with
  | false =>
    rw [if_neg Bool.false_ne_true] at h2 ⊢
    refine ⟨e1, S1, fp1, b, env2, R1, h2, fun S2 H2 fp2 R2 E2 g2 => k S2 H2 fp2 R2 (E1.trans E2) fun e => ?_⟩
    rw [Bool.and_eq_true] at e
    exact ⟨(g2 e.2).1.trans (g1 e.1).1, (g1 e.1).2.trans (g2 e.2).2⟩
  | true =>
    rw [if_pos rfl] at h2 ⊢
    cases h2
    refine k S1 H1 fp1 R1 E1 fun e => ?_
    rw [Bool.and_eq_true] at e
    exact g1 e.1
theorem andT_qf (h1 : q1 = true → ∀ env r env', c1 env = some (r, env') → env' = env) (h2 : q2 = true → ∀ env r env', c2 env = some (r, env') → env' = env) : (q1 && q2) = true → ∀ env r env', andT c1 c2 env = some (r, env') → env' = env := by
  intro e env r env' h
  rw [Bool.and_eq_true] at e
  unfold andT at h
  simp only [Option.bind_eq_some_iff] at h
  obtain ⟨⟨b1, e1⟩, h3, h4⟩ := h
  simp only at h3 h4
  split at h4
  · rw [h2 e.2 _ _ _ h4, h1 e.1 _ _ _ h3]
  · cases h4
    exact h1 e.1 _ _ _ h3
theorem orT_qf (h1 : q1 = true → ∀ env r env', c1 env = some (r, env') → env' = env) (h2 : q2 = true → ∀ env r env', c2 env = some (r, env') → env' = env) : (q1 && q2) = true → ∀ env r env', orT c1 c2 env = some (r, env') → env' = env := by
  intro e env r env' h
  rw [Bool.and_eq_true] at e
  unfold orT at h
  simp only [Option.bind_eq_some_iff] at h
  obtain ⟨⟨b1, e1⟩, h3, h4⟩ := h
  simp only at h3 h4
  split at h4
  · cases h4
    exact h1 e.1 _ _ _ h3
  · rw [h2 e.2 _ _ _ h4, h1 e.1 _ _ _ h3]
theorem notT_qf (h1 : q = true → ∀ env r env', c1 env = some (r, env') → env' = env) : q = true → ∀ env r env', notT c1 env = some (r, env') → env' = env := by
  intro e env r env' h
  unfold notT at h
  simp only [Option.map_eq_some_iff, Prod.mk.injEq] at h
  obtain ⟨⟨b1, e1⟩, h3, rfl, rfl⟩ := h
  exact h1 e _ _ _ h3
/-- and, or of tests: whole tells nothing -/
structure SW (X : Cx) (e : Expr) (f : TSem) (q : Bool) : Prop where
  pw : PW X e (tT X.K f q)
  qf : q = true → ∀ env r env', f env = some (r, env') → env' = env
theorem SW.st (h : SW X e c1 q) : ST X e c1 q := ⟨h.pw.pt, h.qf⟩
variable {rest : List Expr}
theorem sw_and1 (h : ST X a c1 q) : SW X (.BoolOp .And [a] pos) c1 q := ⟨pw_and1 h.pt, h.qf⟩
theorem sw_or1 (h : ST X a c1 q) : SW X (.BoolOp .Or [a] pos) c1 q := ⟨pw_or1 h.pt, h.qf⟩
theorem sw_and (h1 : ST X a c1 q1) (h2 : SW X (.BoolOp .And (b :: rest) pos) c2 q2) : SW X (.BoolOp .And (a :: b :: rest) pos) (andT c1 c2) (q1 && q2) :=
  ⟨PW.imp (pw_and h1.pt h2.pw) fun _ _ _ h => tT_and h, andT_qf h1.qf h2.qf⟩
theorem sw_or (h1 : ST X a c1 q1) (h2 : SW X (.BoolOp .Or (b :: rest) pos) c2 q2) : SW X (.BoolOp .Or (a :: b :: rest) pos) (orT c1 c2) (q1 && q2) :=
  ⟨PW.imp (pw_or h1.pt h2.pw) fun _ _ _ h => tT_or h, orT_qf h1.qf h2.qf⟩
theorem st_not (h1 : ST X a c1 q) : ST X (.UnaryOp .Not a pos) (notT c1) q := by
  refine ⟨PT.imp (pt_not h1.pt) fun σ H Q h => ?_, notT_qf h1.qf⟩
  obtain ⟨env, S, fp, b, env2, R, he, k⟩ := h
  unfold notT at he
  simp only [Option.map_eq_some_iff, Prod.mk.injEq] at he
  obtain ⟨⟨b1, e1⟩, h3, rfl, rfl⟩ := he
  exact ⟨env, S, fp, b1, e1, R, h3, k⟩
/-! and, or, not of bools as values -/
def andE (f1 f2 : ESem) : ESem := fun env => (f1 env).bind fun p => match p.1 with
  | .leaf (.bool true) => f2 p.2
  | .leaf (.bool false) => some (.leaf (.bool false), p.2)
  | _ => none
def orE (f1 f2 : ESem) : ESem := fun env => (f1 env).bind fun p => match p.1 with
  | .leaf (.bool false) => f2 p.2
  | .leaf (.bool true) => some (.leaf (.bool true), p.2)
  | _ => none
def notE (f1 : ESem) : ESem := fun env => (f1 env).bind fun p => match p.1 with
  | .leaf (.bool b) => some (.leaf (.bool (!b)), p.2)
  | _ => none
theorem leafB {K : PySem.W.Frag} {S H : Hp} {b : Bool} {v : V} {fr : List Addr} (w : Ow K S H (.leaf (.bool b)) v fr) : v = .bl b ∧ fr = [] := by
  have e := ow_leafE w
  simp only [Fz] at e
  exact ⟨e.2, e.1⟩
theorem se_and1 (h : SE X a f q m) {op} : SE X (.BoolOp op [a] pos) f q m := ⟨pe_one h.pe, h.qf⟩
theorem se_and (h1 : SE X a f1 q1 m1) (h2 : SE X (.BoolOp .And (b :: rest) pos) f2 q2 m2) : SE X (.BoolOp .And (a :: b :: rest) pos) (andE f1 f2) (q1 && q2) m2 := by
  refine ⟨PE.imp (pe_and h1.pe h2.pe) fun σ H Q h => ?_, fun e env r env' h => ?_⟩
  · obtain ⟨env, S, fp, z, env2, R, he, k⟩ := h
    unfold andE at he
    simp only [Option.bind_eq_some_iff] at he
    obtain ⟨⟨r1, e1⟩, h3, h4⟩ := he
    simp only at h3 h4
    refine ⟨env, S, fp, r1, e1, R, h3, fun x S1 H1 fp1 fr1 R1 E1 w1 g1 n1 => ?_⟩
    split at h4
    · obtain ⟨rfl, rfl⟩ := leafB w1
      refine ⟨true, rfl, ?_⟩
      rw [if_pos rfl]
      refine ⟨e1, S1, fp1, z, env2, R1, h4, fun v S2 H2 fp2 fr R2 E2 w g2 n2 => k v S2 H2 fp2 fr R2 (E1.trans E2) w (fun e => ?_) (fun e => Fresh.pre E1 (n2 e))⟩
      simp only [Bool.and_eq_true] at e
      exact ⟨(g2 e.2).1.trans (g1 e.1).1, (g1 e.1).2.trans (g2 e.2).2⟩
    · obtain ⟨rfl, rfl⟩ := leafB w1
      cases h4
      refine ⟨false, rfl, ?_⟩
      rw [if_neg Bool.false_ne_true]
      refine k _ S1 H1 fp1 [] R1 E1 w1 (fun e => ?_) (fun _ => Fresh.nil)
      simp only [Bool.and_eq_true] at e
      exact g1 e.1
    · cases h4
  · simp only [Bool.and_eq_true] at e
    unfold andE at h
    simp only [Option.bind_eq_some_iff] at h
    obtain ⟨⟨r1, e1⟩, h3, h4⟩ := h
    simp only at h3 h4
    split at h4
    · rw [h2.qf e.2 _ _ _ h4, h1.qf e.1 _ _ _ h3]
    · cases h4
      exact h1.qf e.1 _ _ _ h3
    · cases h4
theorem se_or (h1 : SE X a f1 q1 m1) (h2 : SE X (.BoolOp .Or (b :: rest) pos) f2 q2 m2) : SE X (.BoolOp .Or (a :: b :: rest) pos) (orE f1 f2) (q1 && q2) m2 := by
  refine ⟨PE.imp (pe_or h1.pe h2.pe) fun σ H Q h => ?_, fun e env r env' h => ?_⟩
  · obtain ⟨env, S, fp, z, env2, R, he, k⟩ := h
    unfold orE at he
    simp only [Option.bind_eq_some_iff] at he
    obtain ⟨⟨r1, e1⟩, h3, h4⟩ := he
    simp only at h3 h4
    refine ⟨env, S, fp, r1, e1, R, h3, fun x S1 H1 fp1 fr1 R1 E1 w1 g1 n1 => ?_⟩
    split at h4
    · obtain ⟨rfl, rfl⟩ := leafB w1
      refine ⟨false, rfl, ?_⟩
      rw [if_neg Bool.false_ne_true]
      refine ⟨e1, S1, fp1, z, env2, R1, h4, fun v S2 H2 fp2 fr R2 E2 w g2 n2 => k v S2 H2 fp2 fr R2 (E1.trans E2) w (fun e => ?_) (fun e => Fresh.pre E1 (n2 e))⟩
      simp only [Bool.and_eq_true] at e
      exact ⟨(g2 e.2).1.trans (g1 e.1).1, (g1 e.1).2.trans (g2 e.2).2⟩
    · obtain ⟨rfl, rfl⟩ := leafB w1
      cases h4
      refine ⟨true, rfl, ?_⟩
      rw [if_pos rfl]
      refine k _ S1 H1 fp1 [] R1 E1 w1 (fun e => ?_) (fun _ => Fresh.nil)
      simp only [Bool.and_eq_true] at e
      exact g1 e.1
    · cases h4
  · simp only [Bool.and_eq_true] at e
    unfold orE at h
    simp only [Option.bind_eq_some_iff] at h
    obtain ⟨⟨r1, e1⟩, h3, h4⟩ := h
    simp only at h3 h4
    split at h4
    · rw [h2.qf e.2 _ _ _ h4, h1.qf e.1 _ _ _ h3]
    · cases h4
      exact h1.qf e.1 _ _ _ h3
    · cases h4
theorem se_not (h1 : SE X a f q m) : SE X (.UnaryOp .Not a pos) (notE f) q true := by
  refine ⟨PE.imp (pe_not h1.pe) fun σ H Q h => ?_, fun e env r env' h => ?_⟩
  · obtain ⟨env, S, fp, z, env2, R, he, k⟩ := h
    unfold notE at he
    simp only [Option.bind_eq_some_iff] at he
    obtain ⟨⟨r1, e1⟩, h3, h4⟩ := he
    simp only at h3 h4
    refine ⟨env, S, fp, r1, e1, R, h3, fun x S1 H1 fp1 fr1 R1 E1 w1 g1 n1 => ?_⟩
    split at h4
    · rename_i b
      obtain ⟨rfl, rfl⟩ := leafB w1
      cases h4
      exact ⟨b, rfl, k _ S1 H1 fp1 [] R1 E1 (ow_leaf (by simp only [Fz])) g1 (fun _ => Fresh.nil)⟩
    · cases h4
  · unfold notE at h
    simp only [Option.bind_eq_some_iff] at h
    obtain ⟨⟨r1, e1⟩, h3, h4⟩ := h
    simp only at h3 h4
    split at h4
    · cases h4
      exact h1.qf e _ _ _ h3
    · cases h4
end

/-! ### argument lists -/
def OwA (K : PySem.W.Frag) (S H : Hp) : List O → List V → List Addr → Prop
  | [], vs, fr => vs = [] ∧ fr = []
  | o :: r, vs, fr => ∃ v vr f1 f2, vs = v :: vr ∧ fr = f1 ++ f2 ∧ Ow K S H o v f1 ∧ OwA K S H r vr f2
section
variable {K : PySem.W.Frag} {S S' H H' : Hp}
theorem OwA.keep (es : Same S S') : ∀ {os : List O} {vs : List V} {fp : List Addr}, (∀ a ∈ fp, H' a = H a) → OwA K S H os vs fp → OwA K S' H' os vs fp
  | [], vs, fp, k, h => h
  | o :: r, vs, fp, k, h => by
    obtain ⟨v, vr, f1, f2, e1, e2, h1, h2⟩ := h
    exact ⟨v, vr, f1, f2, e1, e2, h1.keep es (fun a ha => k a (by rw [e2]; exact List.mem_append_left _ ha)), OwA.keep es (fun a ha => k a (by rw [e2]; exact List.mem_append_right _ ha)) h2⟩
theorem OwA.some : ∀ {os : List O} {vs : List V} {fp : List Addr}, OwA K S H os vs fp → ∀ a ∈ fp, Liv H a
  | [], vs, fp, h => by
    rw [h.2]
    intro a ha
    cases ha
  | o :: r, vs, fp, h => by
    obtain ⟨v, vr, f1, f2, e1, e2, h1, h2⟩ := h
    rw [e2]
    intro a ha
    rcases List.mem_append.mp ha with ha | ha
    · exact h1.some a ha
    · exact OwA.some h2 a ha
theorem OwA.len : ∀ {os : List O} {vs : List V} {fp : List Addr}, OwA K S H os vs fp → vs.length = os.length
  | [], vs, fp, h => by rw [h.1]; rfl
  | o :: r, vs, fp, h => by
    obtain ⟨v, vr, f1, f2, e1, e2, h1, h2⟩ := h
    rw [e1, List.length_cons, List.length_cons, OwA.len h2]
/-- the frozen ones alone -/
theorem OwA.leaves : ∀ {ts : List D} {vs : List V} {fp : List Addr}, OwA K S H (ts.map .leaf) vs fp → FzL K S ts vs ∧ fp = []
  | [], vs, fp, h => by
    rw [h.1, h.2]
    exact ⟨FzL.nil, rfl⟩
  | t :: r, vs, fp, h => by
    obtain ⟨v, vr, f1, f2, rfl, rfl, h1, h2⟩ := h
    obtain ⟨h3, rfl⟩ := OwA.leaves h2
    obtain ⟨rfl, h4⟩ := ow_leafE h1
    exact ⟨FzL.cons h4 h3, rfl⟩
end
def tAr (K : PySem.W.Frag) (f : ASem) (q : Bool) : TA := fun σ H Q => ∃ env S fp rs env', Rel K env σ S H fp ∧ f env = some (rs, env') ∧
  ∀ vs S' H' fp' fr, Rel K env' σ S' H' fp' → Evo S H fp S' H' fp' → OwA K S' H' rs vs fr → (q = true → fp' = fp ∧ KS H H') → Fresh S H fp S' fp' fr → Q vs H'
structure SA (X : Cx) (es : List Expr) (f : ASem) (q : Bool) : Prop where
  pa : PA X es (tAr X.K f q)
  qf : q = true → ∀ env r env', f env = some (r, env') → env' = env
def nilA : ASem := fun env => some ([], env)
def consA (m : Bool) (f : ESem) (g : ASem) : ASem := fun env => (f env).bind fun p => if (m || p.1.isLeaf) = true then (g p.2).map fun r => (p.1 :: r.1, r.2) else none
theorem consA_some {m : Bool} {f : ESem} {g : ASem} {env env' : Env} {z : List O} (h : consA m f g env = some (z, env')) : ∃ o e1 os, f env = some (o, e1) ∧ (m = true ∨ o.isLeaf = true) ∧ g e1 = some (os, env') ∧ z = o :: os := by
  unfold consA at h
  simp only [Option.bind_eq_some_iff] at h
  obtain ⟨⟨o, e1⟩, h1, h2⟩ := h
  simp only at h1 h2
  split at h2
  · rename_i hc
    simp only [Option.map_eq_some_iff, Prod.mk.injEq] at h2
    obtain ⟨⟨os, e2⟩, h3, rfl, rfl⟩ := h2
    simp only [Bool.or_eq_true] at hc
    exact ⟨o, e1, os, h1, hc, h3, rfl⟩
  · cases h2
theorem Fresh.app {S S1 S2 H H1 : Hp} {fp fp1 fp2 : Nat → List Addr} {f1 f2 : List Addr} (h1 : Fresh S H fp S2 fp2 f1) (h2 : Fresh S H fp S2 fp2 f2) (d : ∀ a ∈ f1, a ∉ f2) : Fresh S H fp S2 fp2 (f1 ++ f2) := by
  refine ⟨List.nodup_append.mpr ⟨h1.nd, h2.nd, fun a ha b hb e => d a ha (by rw [e]; exact hb)⟩, fun a h => ?_, fun a h => ?_, fun a h => ?_⟩
  · exact (List.mem_append.mp h).elim (h1.src a) (h2.src a)
  · exact (List.mem_append.mp h).elim (h1.off a) (h2.off a)
  · exact (List.mem_append.mp h).elim (h1.un a) (h2.un a)
section
variable {X : Cx} {e : Expr} {es : List Expr} {f : ESem} {g : ASem} {q q1 q2 m : Bool} {pos : Pos}
theorem sa_nil : SA X [] nilA true := by
  refine ⟨PA.imp pa_nil fun σ H Q h => ?_, fun _ env r env' h => by cases h; rfl⟩
  obtain ⟨env, S, fp, rs, env', R, he, k⟩ := h
  cases he
  exact k [] S H fp [] R (Evo.refl _ _ _) ⟨rfl, rfl⟩ (fun _ => ⟨rfl, KS.refl _⟩) Fresh.nil
theorem sa_cons (h1 : SE X e f q1 m) (h2 : SA X es g q2) (hs : starEach (e :: es) X.env = (false, eval e X.env) :: starEach es X.env := by rfl) : SA X (e :: es) (consA m f g) (q1 && q2) := by
  refine ⟨PA.imp (pa_cons h1.pe h2.pa hs) fun σ H Q h => ?_, fun e env r env' h => ?_⟩
  · obtain ⟨env, S, fp, rs, env', R, he, k⟩ := h
    obtain ⟨o, e1, os, h3, hl, h4, rfl⟩ := consA_some he
    refine ⟨env, S, fp, o, e1, R, h3, fun x S1 H1 fp1 fr1 R1 E1 w1 g1 n1 => ⟨e1, S1, fp1, os, env', R1, h4, fun vs S2 H2 fp2 fr2 R2 E2 w2 g2 n2 => ?_⟩⟩
    have F1 : Fresh S H fp S1 fp1 fr1 := by
      rcases hl with hl | hl
      · exact n1 hl
      · rw [isLeaf_fr hl w1]
        exact Fresh.nil
    have i1 : ∀ a ∈ fr1, Liv H1 a := w1.some
    refine k (x :: vs) S2 H2 fp2 (fr1 ++ fr2) R2 (E1.trans E2) ⟨x, vs, fr1, fr2, rfl, rfl, w1.evo F1.off E2, w2⟩ (fun e => ?_) (Fresh.app (S1 := S) (H1 := H) (fp1 := fp) (F1.evo i1 E2) (Fresh.pre E1 n2) fun a h1 h2 => ?_)
    · simp only [Bool.and_eq_true] at e
      exact ⟨(g2 e.2).1.trans (g1 e.1).1, (g1 e.1).2.trans (g2 e.2).2⟩
    · rcases n2.src a h2 with z | ⟨j, z⟩
      · exact (i1 a h1).ne z
      · exact F1.off a h1 j z
  · simp only [Bool.and_eq_true] at e
    obtain ⟨o, e1, os, h3, hl, h4, rfl⟩ := consA_some h
    rw [h2.qf e.2 _ _ _ h4, h1.qf e.1 _ _ _ h3]

end
end Mv

set_option Elab.async false
set_option linter.all false
set_option maxRecDepth 100000
set_option maxHeartbeats 2000000
namespace Mv
open PySem PySem.Spec PyProof.Rows L2

/-! ### what is one's own, frozen -/
def frzK : List (Key × O) → Option (List (D × D))
  | [] => some []
  | (k, .leaf t) :: r => (frzK r).map ((keyD k, t) :: ·)
  | _ => none
def frzT : List (List Key × O) → Option (List (D × D))
  | [] => some []
  | (k, .leaf t) :: r => (frzT r).map ((tupD k, t) :: ·)
  | _ => none
def O.frz1 : O → Option D
  | .leaf t => some t
  | .ls ts => some (.list ts)
  | _ => none
def frzL : List O → Option (List D)
  | [] => some []
  | o :: r => o.frz1.bind fun t => (frzL r).map (t :: ·)
def O.frz : O → Option D
  | .leaf t => some t
  | .ls ts => some (.list ts)
  | .dic kvs => (frzK kvs).map .dict
  | .dct kvs => (frzT kvs).map .dict
  | .obj _ _ => none
  | .tup os => (frzL os).map .tuple
  | .lso os => (frzL os).map .list
/-- the frozen part with these objects, too -/
def withF (S H : Hp) (fr : List Addr) : Hp := fun a => if a ∈ fr then H a else S a
section
variable {K : PySem.W.Frag} {S S' H H' : Hp} {fp fp' : Nat → List Addr} {fr : List Addr} {env : Env} {σ : L2.St}
theorem withF_sub (un : ∀ a ∈ fr, S a = none) : Same S (withF S H fr) := fun a o e => by
  unfold withF
  rw [if_neg]
  · exact e
  · intro m
    rw [un a m] at e
    cases e
theorem withF_le (le : Same S H) : Same (withF S H fr) H := fun a o e => by
  unfold withF at e
  split at e
  · exact e
  · exact le _ _ e
theorem withF_at {a : Addr} (m : a ∈ fr) : withF S H fr a = H a := if_pos m
theorem withF_off {a : Addr} (m : a ∉ fr) : withF S H fr a = S a := if_neg m
theorem frzK_fz : ∀ {kvs : List (Key × O)} {us : List (D × D)} {vs : List (Key × V)} {fr : List Addr}, frzK kvs = some us → OwK K S H kvs vs fr → FzK K S us vs ∧ fr = []
  | [], us, vs, fr, e, h => by
    cases e
    simp only [OwK] at h
    rw [h.1]
    exact ⟨by simp only [FzK], h.2⟩
  | (k, .leaf t) :: r, us, vs, fr, e, h => by
    simp only [frzK, Option.map_eq_some_iff] at e
    obtain ⟨u, e, rfl⟩ := e
    simp only [OwK] at h
    obtain ⟨v, vr, f1, f2, rfl, rfl, h1, h2⟩ := h
    obtain ⟨h3, rfl⟩ := frzK_fz e h2
    obtain ⟨rfl, h5⟩ := ow_leafE h1
    refine ⟨?_, rfl⟩
    simp only [FzK]
    exact ⟨k, v, vr, rfl, rfl, h5, h3⟩
  | (k, .ls t) :: r, us, vs, fr, e, h => by simp [frzK] at e
  | (k, .dic t) :: r, us, vs, fr, e, h => by simp [frzK] at e
  | (k, .dct t) :: r, us, vs, fr, e, h => by simp [frzK] at e
  | (k, .obj _ t) :: r, us, vs, fr, e, h => by simp [frzK] at e
  | (k, .tup _) :: r, us, vs, fr, e, h => by simp [frzK] at e
  | (k, .lso _) :: r, us, vs, fr, e, h => by simp [frzK] at e
theorem frzT_fz : ∀ {kvs : List (List Key × O)} {us : List (D × D)} {vs : List (List Key × V)} {fr : List Addr}, frzT kvs = some us → OwT K S H kvs vs fr → FzT K S us vs ∧ fr = []
  | [], us, vs, fr, e, h => by
    cases e
    simp only [OwT] at h
    rw [h.1]
    exact ⟨by simp only [FzT], h.2⟩
  | (k, .leaf t) :: r, us, vs, fr, e, h => by
    simp only [frzT, Option.map_eq_some_iff] at e
    obtain ⟨u, e, rfl⟩ := e
    simp only [OwT] at h
    obtain ⟨v, vr, f1, f2, rfl, rfl, h1, h2⟩ := h
    obtain ⟨h3, rfl⟩ := frzT_fz e h2
    obtain ⟨rfl, h5⟩ := ow_leafE h1
    refine ⟨?_, rfl⟩
    simp only [FzT]
    exact ⟨k, v, vr, rfl, rfl, h5, h3⟩
  | (k, .ls t) :: r, us, vs, fr, e, h => by simp [frzT] at e
  | (k, .dic t) :: r, us, vs, fr, e, h => by simp [frzT] at e
  | (k, .dct t) :: r, us, vs, fr, e, h => by simp [frzT] at e
  | (k, .obj _ t) :: r, us, vs, fr, e, h => by simp [frzT] at e
  | (k, .tup _) :: r, us, vs, fr, e, h => by simp [frzT] at e
  | (k, .lso _) :: r, us, vs, fr, e, h => by simp [frzT] at e
theorem frz1_fz {o : O} {t : D} {v : V} {f1 : List Addr} (un : ∀ a ∈ fr, S a = none) (w : Ow K S H o v f1) (sub : ∀ a ∈ f1, a ∈ fr) (e : o.frz1 = some t) : Fz K (withF S H fr) t v := by
  cases o with
  | leaf u =>
    cases e
    exact (ow_leafE w).2.same (withF_sub un)
  | ls ts =>
    cases e
    obtain ⟨a, vs, rfl, h1, rfl, h2⟩ := ow_lsE w
    simp only [Fz]
    exact ⟨a, vs, rfl, LsAt.of ((withF_at (sub a (List.mem_singleton.mpr rfl))).trans h1), h2.same (withF_sub un)⟩
  | _ => cases e
theorem frzL_fz : ∀ {os : List O} {us : List D} {vs : List V} {f1 : List Addr}, (∀ a ∈ fr, S a = none) → frzL os = some us → OwL K S H os vs f1 → (∀ a ∈ f1, a ∈ fr) → FzL K (withF S H fr) us vs
  | [], us, vs, f1, un, e, h, sub => by
    cases e
    simp only [OwL] at h
    rw [h.1]
    exact FzL.nil
  | o :: r, us, vs, f1, un, e, h, sub => by
    simp only [frzL, Option.bind_eq_some_iff, Option.map_eq_some_iff] at e
    obtain ⟨t, e1, ts, e2, rfl⟩ := e
    simp only [OwL] at h
    obtain ⟨v, vr, fa, fb, rfl, rfl, h1, h2⟩ := h
    exact FzL.cons (frz1_fz un h1 (fun a ha => sub a (List.mem_append_left _ ha)) e1) (frzL_fz un e2 h2 fun a ha => sub a (List.mem_append_right _ ha))
theorem frz_fz {o : O} {t : D} {v : V} (le : Same S H) (un : ∀ a ∈ fr, S a = none) (w : Ow K S H o v fr) (e : o.frz = some t) : Fz K (withF S H fr) t v := by
  cases o with
  | leaf u =>
    cases e
    exact (ow_leafE w).2.same (withF_sub un)
  | ls ts =>
    cases e
    obtain ⟨a, vs, rfl, h1, rfl, h2⟩ := ow_lsE w
    simp only [Fz]
    exact ⟨a, vs, rfl, LsAt.of ((withF_at (List.mem_singleton.mpr rfl)).trans h1), h2.same (withF_sub un)⟩
  | dic kvs =>
    simp only [O.frz, Option.map_eq_some_iff] at e
    obtain ⟨us, e, rfl⟩ := e
    simp only [Ow] at w
    obtain ⟨a, vs, fr', rfl, rfl, h1, h2⟩ := w
    obtain ⟨h3, rfl⟩ := frzK_fz e h1
    simp only [Fz]
    exact ⟨a, rfl, .inl ⟨vs, h3.same (withF_sub un), .inl ((withF_at List.mem_cons_self).trans h2)⟩⟩
  | dct kvs =>
    simp only [O.frz, Option.map_eq_some_iff] at e
    obtain ⟨us, e, rfl⟩ := e
    simp only [Ow] at w
    obtain ⟨a, vs, fr', rfl, rfl, h1, h2⟩ := w
    obtain ⟨h3, rfl⟩ := frzT_fz e h1
    simp only [Fz]
    exact ⟨a, rfl, .inr ⟨vs, h3.same (withF_sub un), .inl ((withF_at List.mem_cons_self).trans h2)⟩⟩
  | obj _ _ => cases e
  | tup os =>
    simp only [O.frz, Option.map_eq_some_iff] at e
    obtain ⟨us, e, rfl⟩ := e
    simp only [Ow] at w
    obtain ⟨a, vs, rfl, h1, h2⟩ := w
    simp only [Fz]
    exact ⟨a, vs, rfl, withF_sub un _ _ h1, frzL_fz un e h2 fun a ha => ha⟩
  | lso os =>
    simp only [O.frz, Option.map_eq_some_iff] at e
    obtain ⟨us, e, rfl⟩ := e
    simp only [Ow] at w
    obtain ⟨a, vs, fr', rfl, rfl, h1, h2⟩ := w
    simp only [Fz]
    exact ⟨a, vs, rfl, LsAt.of ((withF_at List.mem_cons_self).trans h2), frzL_fz un e h1 fun a ha => List.mem_cons_of_mem _ ha⟩
theorem TbOk.withF {S H : Hp} {fr : List Addr} (t : TbOk K S H) (lv : ∀ a ∈ fr, Liv H a) : TbOk K (Mv.withF S H fr) H := t.mono fun a u e f => ⟨e, withF_off fun m => by
  rw [(lv a m).not e] at f
  cases f⟩
theorem rel_withF (R : Rel K env σ S H fp) (un : ∀ a ∈ fr, S a = none) (off : ∀ a ∈ fr, ∀ i, a ∉ fp i) (lv : ∀ a ∈ fr, Liv H a) : Rel K env σ (withF S H fr) H fp :=
  ⟨withF_le R.le, R.len, fun i o h => by
    obtain ⟨v, e, w⟩ := R.sl i o h
    exact ⟨v, e, w.mono (withF_sub un) (Same.refl _)⟩, R.nd, R.dj, fun i a h => by
    rw [withF_off fun m => off a m i h]
    exact R.un i a h, R.ins, R.tb.withF lv⟩
theorem evo_withF {S1 H1 : Hp} {fp1 : Nat → List Addr} (E : Evo S H fp S1 H1 fp1) (src : ∀ a ∈ fr, H a = none ∨ ∃ j, a ∈ fp j) (un : ∀ a ∈ fr, S1 a = none) : Evo S H fp (withF S1 H1 fr) H1 fp1 :=
  ⟨E.sub.trans (withF_sub un), fun a h n => ⟨(E.keep a h n).1, by
    rw [withF_off]
    · exact (E.keep a h n).2
    · intro m
      rcases src a m with z | ⟨j, z⟩
      · exact h.ne z
      · exact n j z⟩, E.own, E.live⟩
end
def frzE (f : ESem) : ESem := fun env => (f env).bind fun p => p.1.frz.map fun t => (.leaf t, p.2)
section
variable {X : Cx} {e : Expr} {f : ESem} {q : Bool}
theorem frzE_some {env env' : Env} {z : O} (h : frzE f env = some (z, env')) : ∃ o t, f env = some (o, env') ∧ o.frz = some t ∧ z = .leaf t := by
  unfold frzE at h
  simp only [Option.bind_eq_some_iff, Option.map_eq_some_iff, Prod.mk.injEq] at h
  obtain ⟨⟨o, e1⟩, h1, t, h2, rfl, rfl⟩ := h
  exact ⟨o, t, h1, h2, rfl⟩
theorem tE_frz {K : PySem.W.Frag} {σ : L2.St} {H : Hp} {Q : VK} (h : tE K (frzE f) q true σ H Q) : tE K f q true σ H Q := by
  obtain ⟨env, S, fp, z, env', R, he, k⟩ := h
  obtain ⟨o, t, h1, h2, rfl⟩ := frzE_some he
  refine ⟨env, S, fp, o, env', R, h1, fun v S1 H1 fp1 fr R1 E1 w g n => ?_⟩
  have F := n rfl
  exact k v (withF S1 H1 fr) H1 fp1 [] (rel_withF R1 F.un F.off w.some) (evo_withF E1 F.src F.un) (ow_leaf (frz_fz R1.le F.un w h2)) g (fun _ => Fresh.nil)
theorem se_frz (h : SE X e f q true) : SE X e (frzE f) q true :=
  ⟨PE.imp h.pe fun _ _ _ h => tE_frz h, fun e env r env' hh => by
    obtain ⟨o, t, h1, h2, rfl⟩ := frzE_some hh
    exact h.qf e _ _ _ h1⟩
end

/-! ### displays -/
def leavesL : List O → Option (List D)
  | [] => some []
  | .leaf t :: r => (leavesL r).map (t :: ·)
  | _ :: _ => none
theorem leavesL_some : ∀ {os : List O} {ts : List D}, leavesL os = some ts → os = ts.map .leaf
  | [], ts, h => by cases h; rfl
  | .leaf t :: r, ts, h => by
    simp only [leavesL, Option.map_eq_some_iff] at h
    obtain ⟨u, h, rfl⟩ := h
    rw [leavesL_some h]
    rfl
  | .ls _ :: r, ts, h => by cases h
  | .dic _ :: r, ts, h => by cases h
  | .dct _ :: r, ts, h => by cases h
  | .obj _ _ :: r, ts, h => by cases h
  | .tup _ :: r, ts, h => by cases h
  | .lso _ :: r, ts, h => by cases h
def tupE (f : ASem) : ESem := fun env => (f env).bind fun p => (leavesL p.1).bind fun ts => if ts.length ≤ 1000 then some (.leaf (.tuple ts), p.2) else none
def lstE (f : ASem) : ESem := fun env => (f env).bind fun p => (leavesL p.1).bind fun ts => if ts.length ≤ 1000 then some (.ls ts, p.2) else none
theorem tupE_some {f : ASem} {env env' : Env} {z : O} (h : tupE f env = some (z, env')) : ∃ ts, f env = some (ts.map .leaf, env') ∧ ts.length ≤ 1000 ∧ z = .leaf (.tuple ts) := by
  unfold tupE at h
  simp only [Option.bind_eq_some_iff] at h
  obtain ⟨⟨os, e1⟩, h1, ts, h2, h3⟩ := h
  split at h3
  · rename_i hl
    cases h3
    have e2 := leavesL_some h2
    simp only at e2
    subst e2
    exact ⟨ts, h1, hl, rfl⟩
  · cases h3
theorem lstE_some {f : ASem} {env env' : Env} {z : O} (h : lstE f env = some (z, env')) : ∃ ts, f env = some (ts.map .leaf, env') ∧ ts.length ≤ 1000 ∧ z = .ls ts := by
  unfold lstE at h
  simp only [Option.bind_eq_some_iff] at h
  obtain ⟨⟨os, e1⟩, h1, ts, h2, h3⟩ := h
  split at h3
  · rename_i hl
    cases h3
    have e2 := leavesL_some h2
    simp only at e2
    subst e2
    exact ⟨ts, h1, hl, rfl⟩
  · cases h3
section
variable {X : Cx} {es : List Expr} {f : ASem} {q : Bool} {pos : Pos}
theorem se_tup {x1} (h : SA X es f q) : SE X (.Tuple es x1 pos) (tupE f) q true := by
  refine ⟨PE.imp (pe_tup h.pa) fun σ H Q hw => ?_, fun e env r env' hh => ?_⟩
  · obtain ⟨env, S, fp, z, env', R, he, k⟩ := hw
    obtain ⟨ts, h1, hl, rfl⟩ := tupE_some he
    refine ⟨env, S, fp, _, env', R, h1, fun vs S1 H1 fp1 fr R1 E1 w g F => ?_⟩
    obtain ⟨hz, rfl⟩ := w.leaves
    refine ⟨by rw [hz.len]; exact Nat.le_trans hl (by decide), fun p hp => ?_⟩
    have G := Gr.newS (o := .tup vs) R1.le hp
    refine k _ _ _ fp1 [] (R1.gr G) (E1.trans G.evo) (ow_leaf ?_) (fun e => ⟨(g e).1, (g e).2.trans G.ks⟩) (fun _ => Fresh.nil)
    simp only [Fz]
    exact ⟨p, vs, rfl, upd_same, hz.same G.sub⟩
  · obtain ⟨ts, h1, hl, rfl⟩ := tupE_some hh
    exact h.qf e _ _ _ h1
theorem se_lst (h : SA X es f q) : SE X (.List es pos) (lstE f) q true := by
  refine ⟨PE.imp (pe_lst h.pa) fun σ H Q hw => ?_, fun e env r env' hh => ?_⟩
  · obtain ⟨env, S, fp, z, env', R, he, k⟩ := hw
    obtain ⟨ts, h1, hl, rfl⟩ := lstE_some he
    refine ⟨env, S, fp, _, env', R, h1, fun vs S1 H1 fp1 fr R1 E1 w g F => ?_⟩
    obtain ⟨hz, rfl⟩ := w.leaves
    refine ⟨by rw [hz.len]; exact Nat.le_trans hl (by decide), fun p hp => ?_⟩
    have G := Gr.newH (o := .lst vs) R1.le hp
    exact k _ _ _ fp1 [p] (R1.gr G) (E1.trans G.evo) (ow_ls upd_same (hz.same G.sub)) (fun e => ⟨(g e).1, (g e).2.trans G.ks⟩) (fun _ => Fresh.pre E1 ((New.one hp (R1.le.free hp)).fresh R1.ins))
  · obtain ⟨ts, h1, hl, rfl⟩ := lstE_some hh
    exact h.qf e _ _ _ h1
end

/-! ### calls of defs -/
abbrev Def := List O → Option (O × List (Option O))
def spOf (K : PySem.W.Frag) (g : Def) : Sp := fun vs H Q _ => ∃ os S fp r os', Rel K (os.map some) (vs.map some) S H fp ∧ (∀ k, os.length ≤ k → fp k = []) ∧ g os = some (r, os') ∧
  ∀ v S' H' fp' fr, Rel K os' (vs.map some) S' H' fp' → Evo S H fp S' H' fp' → Ow K S' H' r v fr → Fresh S H fp S' fp' fr → Q v H'
inductive Arg where
  | e (m : Bool) (f : ESem)
  | v (i : Nat)
abbrev Item := O ⊕ Nat
def evA : List Arg → Env → Option (List Item × Env)
  | [], env => some ([], env)
  | .e m f :: r, env => (f env).bind fun p => if (m || p.1.isLeaf) = true then (evA r p.2).map fun z => (.inl p.1 :: z.1, z.2) else none
  | .v i :: r, env => match env[i]? with
    | some (some _) => (evA r env).map fun z => (.inr i :: z.1, z.2)
    | _ => none
def collect (env : Env) : List Item → Option (List O)
  | [] => some []
  | .inl o :: r => (collect env r).map (o :: ·)
  | .inr i :: r => match env[i]? with
    | some (some o) => (collect env r).map (o :: ·)
    | _ => none
def ownAt (env : Env) (j : Nat) : Bool := match env[j]? with
  | some (some o) => !o.isLeaf
  | _ => false
def isV (j : Nat) : Item → Bool
  | .inr i => i == j
  | .inl _ => false
def ownIx (env : Env) : List Item → List Nat
  | [] => []
  | .inl _ :: r => ownIx env r
  | .inr i :: r => if ownAt env i = true then i :: ownIx env r else ownIx env r
def posA (items : List Item) (env : Env) (j : Nat) : Option Nat := if ownAt env j = true then items.findIdx? (isV j) else none
def wb (items : List Item) (os' : List (Option O)) (env : Env) : Env := env.mapIdx fun j o => match posA items env j with
  | some k => (os'[k]?).join
  | none => o
def callF (g : Def) (args : List Arg) : ESem := fun env => (evA args env).bind fun p => (collect p.2 p.1).bind fun os =>
  if (ownIx p.2 p.1).Nodup then (g os).bind fun r => some (r.1, wb p.1 r.2 p.2) else none

def ItA (K : PySem.W.Frag) (S H : Hp) (σ : L2.St) : List Item → List V → List Addr → Prop
  | [], vs, fr => vs = [] ∧ fr = []
  | .inl o :: r, vs, fr => ∃ v vr f1 f2, vs = v :: vr ∧ fr = f1 ++ f2 ∧ Ow K S H o v f1 ∧ ItA K S H σ r vr f2
  | .inr i :: r, vs, fr => ∃ v vr, vs = v :: vr ∧ σ[i]? = some (some v) ∧ ItA K S H σ r vr fr
section
variable {K : PySem.W.Frag} {S S' H H' : Hp} {σ : L2.St}
def tCA (K : PySem.W.Frag) (f : Env → Option (List Item × Env)) : TA := fun σ H Q => ∃ env S fp items env', Rel K env σ S H fp ∧ f env = some (items, env') ∧
  ∀ vs S' H' fp' fr, Rel K env' σ S' H' fp' → Evo S H fp S' H' fp' → ItA K S' H' σ items vs fr → Fresh S H fp S' fp' fr → Q vs H'
structure SC (X : Cx) (es : List Expr) (args : List Arg) : Prop where
  pa : PA X es (tCA X.K (evA args))
theorem ItA.evo {S1 H1 S2 H2 : Hp} {fp1 fp2 : Nat → List Addr} : ∀ {items : List Item} {vs : List V} {fr : List Addr}, ItA K S1 H1 σ items vs fr → (∀ a ∈ fr, ∀ i, a ∉ fp1 i) → Evo S1 H1 fp1 S2 H2 fp2 → ItA K S2 H2 σ items vs fr
  | [], vs, fr, h, _, _ => h
  | .inl o :: r, vs, fr, h, n, E => by
    obtain ⟨v, vr, f1, f2, e1, e2, h1, h2⟩ := h
    exact ⟨v, vr, f1, f2, e1, e2, h1.evo (fun a m => n a (by rw [e2]; exact List.mem_append_left _ m)) E, h2.evo (fun a m => n a (by rw [e2]; exact List.mem_append_right _ m)) E⟩
  | .inr i :: r, vs, fr, h, n, E => by
    obtain ⟨v, vr, e1, e2, h2⟩ := h
    exact ⟨v, vr, e1, e2, h2.evo n E⟩
end
section
variable {X : Cx} {e : Expr} {es : List Expr} {f : ESem} {q m : Bool} {args : List Arg} {pos : Pos}
theorem sc_nil : SC X [] [] := by
  refine ⟨PA.imp pa_nil fun σ H Q h => ?_⟩
  obtain ⟨env, S, fp, rs, env', R, he, k⟩ := h
  cases he
  exact k [] S H fp [] R (Evo.refl _ _ _) ⟨rfl, rfl⟩ Fresh.nil
theorem sc_e (h1 : SE X e f q m) (h2 : SC X es args) (hs : starEach (e :: es) X.env = (false, eval e X.env) :: starEach es X.env := by rfl) : SC X (e :: es) (.e m f :: args) := by
  refine ⟨PA.imp (pa_cons h1.pe h2.pa hs) fun σ H Q h => ?_⟩
  obtain ⟨env, S, fp, rs, env', R, he, k⟩ := h
  unfold evA at he
  simp only [Option.bind_eq_some_iff] at he
  obtain ⟨⟨o, e1⟩, h3, h4⟩ := he
  simp only at h3 h4
  split at h4
  · rename_i hl
    simp only [Option.map_eq_some_iff, Prod.mk.injEq] at h4
    obtain ⟨⟨os, e2⟩, h4, rfl, rfl⟩ := h4
    simp only [Bool.or_eq_true] at hl
    refine ⟨env, S, fp, o, e1, R, h3, fun x S1 H1 fp1 fr1 R1 E1 w1 g1 n1 => ⟨e1, S1, fp1, os, e2, R1, h4, fun vs S2 H2 fp2 fr2 R2 E2 w2 n2 => ?_⟩⟩
    have F1 : Fresh S H fp S1 fp1 fr1 := by
      rcases hl with hl | hl
      · exact n1 hl
      · rw [isLeaf_fr hl w1]
        exact Fresh.nil
    have i1 : ∀ a ∈ fr1, Liv H1 a := w1.some
    refine k (x :: vs) S2 H2 fp2 (fr1 ++ fr2) R2 (E1.trans E2) ⟨x, vs, fr1, fr2, rfl, rfl, w1.evo F1.off E2, w2⟩ (Fresh.app (S1 := S) (H1 := H) (fp1 := fp) (F1.evo i1 E2) (Fresh.pre E1 n2) fun a h1 h2 => ?_)
    rcases n2.src a h2 with z | ⟨j, z⟩
    · exact (i1 a h1).ne z
    · exact F1.off a h1 j z
  · cases h4
theorem sc_v {i : Nat} (h1 : PE X e (tVar i)) (h2 : SC X es args) (hs : starEach (e :: es) X.env = (false, eval e X.env) :: starEach es X.env := by rfl) : SC X (e :: es) (.v i :: args) := by
  refine ⟨PA.imp (pa_cons h1 h2.pa hs) fun σ H Q h => ?_⟩
  obtain ⟨env, S, fp, rs, env', R, he, k⟩ := h
  unfold evA at he
  split at he
  · rename_i o0 e0
    simp only [Option.map_eq_some_iff, Prod.mk.injEq] at he
    obtain ⟨⟨os, e2⟩, h4, rfl, rfl⟩ := he
    obtain ⟨x, hx, _⟩ := R.sl i o0 e0
    exact ⟨x, hx, env, S, fp, os, e2, R, h4, fun vs S2 H2 fp2 fr2 R2 E2 w2 n2 => k (x :: vs) S2 H2 fp2 fr2 R2 E2 ⟨x, vs, rfl, hx, w2⟩ n2⟩
  · cases he
end

/-! the footprints of a call's arguments -/
def fpsA (env : Env) (fp : Nat → List Addr) : List Item → List (List Addr) → List (List Addr)
  | [], _ => []
  | .inl _ :: r, f :: fs => f :: fpsA env fp r fs
  | .inl _ :: r, [] => [] :: fpsA env fp r []
  | .inr i :: r, fs => (if ownAt env i = true then fp i else []) :: fpsA env fp r fs
theorem getD_flat {L : List (List Addr)} {i : Nat} {a : Addr} (h : a ∈ L.getD i []) : a ∈ L.flatten := by
  by_cases hi : i < L.length
  · rw [List.getD_eq_getElem?_getD, List.getElem?_eq_getElem hi] at h
    exact List.mem_flatten.mpr ⟨_, List.getElem_mem hi, h⟩
  · rw [List.getD_eq_getElem?_getD, List.getElem?_eq_none (by omega)] at h
    cases h
theorem flat_dj : ∀ {L : List (List Addr)} {i j : Nat} {a : Addr}, L.flatten.Nodup → a ∈ L.getD i [] → a ∈ L.getD j [] → i = j
  | [], i, j, a, _, h, _ => by simp at h
  | l :: L, 0, 0, a, _, _, _ => rfl
  | l :: L, 0, j + 1, a, n, h1, h2 => by
    rw [List.flatten_cons, List.nodup_append] at n
    exact absurd rfl (n.2.2 a (by simpa using h1) a (getD_flat (by simpa using h2)))
  | l :: L, i + 1, 0, a, n, h1, h2 => by
    rw [List.flatten_cons, List.nodup_append] at n
    exact absurd rfl (n.2.2 a (by simpa using h2) a (getD_flat (by simpa using h1)))
  | l :: L, i + 1, j + 1, a, n, h1, h2 => by
    rw [List.flatten_cons, List.nodup_append] at n
    exact congrArg (· + 1) (flat_dj (L := L) n.2.1 (by simpa using h1) (by simpa using h2))
theorem flat_nd {L : List (List Addr)} {i : Nat} (n : L.flatten.Nodup) : (L.getD i []).Nodup := by
  by_cases hi : i < L.length
  · rw [List.getD_eq_getElem?_getD, List.getElem?_eq_getElem hi]
    exact (List.pairwise_flatten.mp n).1 _ (List.getElem_mem hi)
  · rw [List.getD_eq_getElem?_getD, List.getElem?_eq_none (by omega)]
    exact List.nodup_nil

structure ArgsOk (K : PySem.W.Frag) (S H : Hp) (env : Env) (σ : L2.St) (fp : Nat → List Addr) (items : List Item) (os : List O) (vs : List V) (fr : List Addr) (L : List (List Addr)) : Prop where
  l1 : os.length = items.length
  l2 : vs.length = items.length
  l3 : L.length = items.length
  ow : ∀ (k : Nat) (o : O), os[k]? = some o → ∃ v, vs[k]? = some v ∧ Ow K S H o v (L.getD k [])
  nd : L.flatten.Nodup
  src : ∀ a ∈ L.flatten, a ∈ fr ∨ ∃ i ∈ ownIx env items, a ∈ fp i
  var : ∀ (k : Nat) (i : Nat), items[k]? = some (Sum.inr i : Item) → ∃ v, vs[k]? = some v ∧ σ[i]? = some (some v)
  fpv : ∀ (k : Nat) (i : Nat), items[k]? = some (Sum.inr i : Item) → ownAt env i = true → L.getD k [] = fp i
theorem args_ok {K : PySem.W.Frag} {S H : Hp} {env : Env} {σ : L2.St} {fp : Nat → List Addr} (R : Rel K env σ S H fp) : ∀ {items : List Item} {os : List O} {vs : List V} {fr : List Addr}, ItA K S H σ items vs fr → collect env items = some os → fr.Nodup → (∀ a ∈ fr, ∀ i, a ∉ fp i) → (ownIx env items).Nodup →
    ∃ L, ArgsOk K S H env σ fp items os vs fr L
  | [], os, vs, fr, h, c, n, off, od => by
    cases c
    obtain ⟨rfl, rfl⟩ := h
    exact ⟨[], rfl, rfl, rfl, by simp, by simp, by simp, by simp, by simp⟩
  | .inl o :: r, os, vs, fr, h, c, n, off, od => by
    simp only [collect, Option.map_eq_some_iff] at c
    obtain ⟨os, c, rfl⟩ := c
    obtain ⟨v, vr, f1, f2, rfl, rfl, h1, h2⟩ := h
    rw [List.nodup_append] at n
    obtain ⟨L, A⟩ := args_ok R h2 c n.2.1 (fun a m => off a (List.mem_append_right _ m)) od
    refine ⟨f1 :: L, by simp [A.l1], by simp [A.l2], by simp [A.l3], fun k o' e => ?_, ?_, fun a m => ?_, fun k i e => ?_, fun k i e => ?_⟩
    · cases k with
      | zero =>
        simp at e
        subst e
        exact ⟨v, rfl, by simpa using h1⟩
      | succ k => simpa using A.ow k o' (by simpa using e)
    · rw [List.flatten_cons, List.nodup_append]
      refine ⟨n.1, A.nd, fun a ha b hb e => ?_⟩
      subst e
      rcases A.src a hb with z | ⟨i, hi, z⟩
      · exact n.2.2 a ha a z rfl
      · exact off a (List.mem_append_left _ ha) i z
    · rw [List.flatten_cons, List.mem_append] at m
      rcases m with m | m
      · exact .inl (List.mem_append_left _ m)
      · rcases A.src a m with z | z
        · exact .inl (List.mem_append_right _ z)
        · exact .inr z
    · cases k with
      | zero => simp at e
      | succ k => simpa using A.var k i (by simpa using e)
    · cases k with
      | zero => simp at e
      | succ k => simpa using A.fpv k i (by simpa using e)
  | .inr i :: r, os, vs, fr, h, c, n, off, od => by
    unfold collect at c
    split at c
    · rename_i o e0
      simp only [Option.map_eq_some_iff] at c
      obtain ⟨os, c, rfl⟩ := c
      obtain ⟨v, vr, rfl, hv, h2⟩ := h
      obtain ⟨x, hx, w⟩ := R.sl i o e0
      rw [hv] at hx
      cases hx
      by_cases ho : ownAt env i = true
      · have eo : ownIx env (.inr i :: r) = i :: ownIx env r := by
          show (if ownAt env i = true then i :: ownIx env r else ownIx env r) = _
          rw [if_pos ho]
        rw [eo] at od
        obtain ⟨o1, o2⟩ := List.nodup_cons.mp od
        obtain ⟨L, A⟩ := args_ok R h2 c n off o2
        refine ⟨fp i :: L, by simp [A.l1], by simp [A.l2], by simp [A.l3], fun k o' e => ?_, ?_, fun a m => ?_, fun k j e => ?_, fun k j e hj => ?_⟩
        · cases k with
          | zero =>
            simp at e
            subst e
            exact ⟨v, rfl, by simpa using w⟩
          | succ k => simpa using A.ow k o' (by simpa using e)
        · rw [List.flatten_cons, List.nodup_append]
          refine ⟨R.nd i, A.nd, fun a ha b hb e => ?_⟩
          subst e
          rcases A.src a hb with z | ⟨j, hj, z⟩
          · exact off a z i ha
          · have := R.dj i j a ha z
            subst this
            exact o1 hj
        · rw [List.flatten_cons, List.mem_append] at m
          rw [eo]
          rcases m with m | m
          · exact .inr ⟨i, List.mem_cons_self, m⟩
          · rcases A.src a m with z | ⟨j, hj, z⟩
            · exact .inl z
            · exact .inr ⟨j, List.mem_cons_of_mem _ hj, z⟩
        · cases k with
          | zero =>
            simp at e
            subst e
            exact ⟨v, rfl, hv⟩
          | succ k => simpa using A.var k j (by simpa using e)
        · cases k with
          | zero =>
            simp at e
            subst e
            rfl
          | succ k => simpa using A.fpv k j (by simpa using e) hj
      · have eo : ownIx env (.inr i :: r) = ownIx env r := by
          show (if ownAt env i = true then i :: ownIx env r else ownIx env r) = _
          rw [if_neg ho]
        rw [eo] at od
        obtain ⟨L, A⟩ := args_ok R h2 c n off od
        have hl : o.isLeaf = true := by
          unfold ownAt at ho
          rw [e0] at ho
          simpa using ho
        have e1 := isLeaf_fr hl w
        rw [e1] at w
        refine ⟨[] :: L, by simp [A.l1], by simp [A.l2], by simp [A.l3], fun k o' e => ?_, by simpa using A.nd, fun a m => ?_, fun k j e => ?_, fun k j e hj => ?_⟩
        · cases k with
          | zero =>
            simp at e
            subst e
            exact ⟨v, rfl, by simpa using w⟩
          | succ k => simpa using A.ow k o' (by simpa using e)
        · rw [eo]
          exact A.src a (by simpa using m)
        · cases k with
          | zero =>
            simp at e
            subst e
            exact ⟨v, rfl, hv⟩
          | succ k => simpa using A.var k j (by simpa using e)
        · cases k with
          | zero =>
            simp at e
            subst e
            exact absurd hj ho
          | succ k => simpa using A.fpv k j (by simpa using e) hj
    · cases c
theorem posA_some {items : List Item} {env : Env} {j k : Nat} (h : posA items env j = some k) : ownAt env j = true ∧ items[k]? = some (Sum.inr j : Item) := by
  unfold posA at h
  split at h
  · rename_i ho
    refine ⟨ho, ?_⟩
    obtain ⟨hk, h1, _⟩ := List.findIdx?_eq_some_iff_getElem.mp h
    rw [List.getElem?_eq_getElem hk]
    cases q : items[k] with
    | inl o =>
      rw [q] at h1
      cases h1
    | inr i =>
      rw [q] at h1
      simp only [isV, beq_iff_eq] at h1
      rw [h1]
  · cases h
theorem posA_none {items : List Item} {env : Env} {j : Nat} (h : posA items env j = none) (ho : ownAt env j = true) : j ∉ ownIx env items := by
  unfold posA at h
  rw [if_pos ho] at h
  have h1 := List.findIdx?_eq_none_iff.mp h
  clear h
  induction items with
  | nil => simp [ownIx]
  | cons it r ih =>
    have h2 := ih fun x hx => h1 x (List.mem_cons_of_mem _ hx)
    cases it with
    | inl o => exact h2
    | inr i =>
      have h3 := h1 (.inr i) List.mem_cons_self
      simp only [isV, beq_eq_false_iff_ne] at h3
      unfold ownIx
      split
      · intro m
        rcases List.mem_cons.mp m with e | m
        · exact h3 e.symm
        · exact h2 m
      · exact h2
theorem ownIx_own {env : Env} : ∀ {items : List Item} {i : Nat}, i ∈ ownIx env items → ownAt env i = true ∧ ∃ k : Nat, items[k]? = some (Sum.inr i : Item)
  | [], i, h => by simp [ownIx] at h
  | .inl o :: r, i, h => by
    obtain ⟨h1, k, h2⟩ := ownIx_own (items := r) (i := i) h
    exact ⟨h1, k + 1, by simpa using h2⟩
  | .inr j :: r, i, h => by
    unfold ownIx at h
    split at h
    · rename_i ho
      rcases List.mem_cons.mp h with e | h
      · subst e
        exact ⟨ho, 0, rfl⟩
      · obtain ⟨h1, k, h2⟩ := ownIx_own (items := r) (i := i) h
        exact ⟨h1, k + 1, by simpa using h2⟩
    · obtain ⟨h1, k, h2⟩ := ownIx_own (items := r) (i := i) h
      exact ⟨h1, k + 1, by simpa using h2⟩
theorem join_some {α : Type} {x : Option (Option α)} {o : α} (h : x.join = some o) : x = some (some o) := by
  cases x with
  | none => cases h
  | some y => rw [show (some y).join = y from rfl] at h; rw [h]

/-- what a call of a def does to the state -/
theorem call_core {K : PySem.W.Frag} {g : Def} {args : List Arg} {σ : L2.St} {H : Hp} {Q : VK} {E : XK} (h : tE K (callF g args) false true σ H Q) : tCall (spOf K g) [] E (tCA K (evA args)) σ H Q := by
  obtain ⟨env, S, fp, z, env', R, he, k⟩ := h
  unfold callF at he
  simp only [Option.bind_eq_some_iff] at he
  obtain ⟨⟨items, e1⟩, h1, os, h2, h3⟩ := he
  simp only at h1 h2 h3
  split at h3
  · rename_i hod
    simp only [Option.bind_eq_some_iff, Option.some.injEq, Prod.mk.injEq] at h3
    obtain ⟨⟨r, os'⟩, h3, rfl, rfl⟩ := h3
    simp only at h3 k
    refine ⟨env, S, fp, items, e1, R, h1, fun vs S1 H1 fp1 fr R1 E1 I1 F1 => ?_⟩
    obtain ⟨L, A⟩ := args_ok R1 I1 h2 F1.nd F1.off hod
    have Lsome : ∀ a ∈ L.flatten, Liv H1 a := fun a m => by
      obtain ⟨l, hl, m2⟩ := List.mem_flatten.mp m
      obtain ⟨kk, hk⟩ := List.getElem?_of_mem hl
      have hlt : kk < L.length := (List.getElem?_eq_some_iff.mp hk).1
      have hlt2 : kk < os.length := by rw [A.l1, ← A.l3]; exact hlt
      obtain ⟨v, _, w⟩ := A.ow kk os[kk] (List.getElem?_eq_getElem hlt2)
      exact w.some a (by rw [List.getD_eq_getElem?_getD, hk]; exact m2)
    have Lun : ∀ a ∈ L.flatten, S1 a = none := fun a m => by
      rcases A.src a m with z | ⟨i, _, z⟩
      · exact F1.un a z
      · exact R1.un i a z
    rw [List.append_nil]
    refine ⟨os, S1, fun k => L.getD k [], r, os', ⟨R1.le, by simp [A.l1, A.l2], fun k o e => ?_, fun i => flat_nd A.nd, fun i j a m1 m2 => flat_dj A.nd m1 m2, fun i a m => Lun a (getD_flat m), fun i a m => Lsome a (getD_flat m), R1.tb⟩, fun kk hk => ?_, h3, fun v S2 H2 fp2 fr2 R2 E2 w2 F2 => ?_⟩
    · rw [List.getElem?_map] at e
      cases q : os[k]? with
      | none => rw [q] at e; cases e
      | some o' =>
        rw [q] at e
        have e' : o' = o := Option.some.inj (Option.some.inj e)
        obtain ⟨v, hv, w⟩ := A.ow k o' q
        exact ⟨v, by rw [List.getElem?_map, hv] <;> rfl, by rw [← e']; exact w⟩
    · show L.getD kk [] = []
      rw [List.getD_eq_getElem?_getD, List.getElem?_eq_none (by rw [A.l3, ← A.l1]; exact hk)]
      rfl
    · -- the new footprints
      have hfpc : ∀ j, posA items e1 j = none → ∀ a ∈ fp1 j, a ∉ L.flatten := fun j hp a m1 m2 => by
        rcases A.src a m2 with z | ⟨i, hi, z⟩
        · exact F1.off a z j m1
        · have e := R1.dj i j a z m1
          subst e
          exact posA_none hp (ownIx_own hi).1 hi
      have off1 : ∀ j, posA items e1 j = none → ∀ a ∈ fp1 j, ∀ i, a ∉ L.getD i [] := fun j hp a m i z => hfpc j hp a m (getD_flat z)
      have own2 : ∀ kk, ∀ a ∈ fp2 kk, H1 a = none ∨ a ∈ L.flatten := fun kk a m => by
        rcases E2.own kk a m with z | ⟨j, z⟩
        · exact .inl z
        · exact .inr (getD_flat z)
      let fpN : Nat → List Addr := fun j => match posA items e1 j with
        | some kk => fp2 kk
        | none => fp1 j
      have fpS : ∀ {j kk}, posA items e1 j = some kk → fpN j = fp2 kk := fun {j kk} h => by
        show (match posA items e1 j with | some kk => fp2 kk | none => fp1 j) = _
        rw [h]
      have fpO : ∀ {j}, posA items e1 j = none → fpN j = fp1 j := fun {j} h => by
        show (match posA items e1 j with | some kk => fp2 kk | none => fp1 j) = _
        rw [h]
      have RN : Rel K (wb items os' e1) σ S2 H2 fpN := by
        refine ⟨R2.le, by unfold wb; rw [List.length_mapIdx]; exact R1.len, fun j o e => ?_, fun j => ?_, fun i j a m1 m2 => ?_, fun j a m => ?_, fun j a m => ?_, R2.tb⟩
        · unfold wb at e
          rw [List.getElem?_mapIdx] at e
          cases q0 : e1[j]? with
          | none => rw [q0] at e; cases e
          | some oo =>
            rw [q0] at e
            have e' := Option.some.inj e
            clear e
            cases hp : posA items e1 j with
            | some kk =>
              rw [hp] at e'
              have e3 := join_some e'
              obtain ⟨v', hv', w'⟩ := R2.sl kk o e3
              obtain ⟨_, hit⟩ := posA_some hp
              obtain ⟨v'', hv'', hs⟩ := A.var kk j hit
              rw [List.getElem?_map, hv''] at hv'
              have ev : v'' = v' := Option.some.inj (Option.some.inj hv')
              exact ⟨v'', hs, by rw [fpS hp, ev]; exact w'⟩
            | none =>
              rw [hp] at e'
              simp only at e'
              subst e'
              obtain ⟨v', hv', w'⟩ := R1.sl j o q0
              refine ⟨v', hv', ?_⟩
              rw [fpO hp]
              exact w'.evo (off1 j hp) E2
        · cases hp : posA items e1 j with
          | some kk => rw [fpS hp]; exact R2.nd kk
          | none => rw [fpO hp]; exact R1.nd j
        · cases hp : posA items e1 i with
          | some k1 =>
            rw [fpS hp] at m1
            cases hq : posA items e1 j with
            | some k2 =>
              rw [fpS hq] at m2
              have e := R2.dj k1 k2 a m1 m2
              subst e
              have h4 := (posA_some hp).2.symm.trans (posA_some hq).2
              cases h4
              rfl
            | none =>
              rw [fpO hq] at m2
              rcases own2 k1 a m1 with z | z
              · exact absurd z (R1.ins j a m2).ne
              · exact absurd z (hfpc j hq a m2)
          | none =>
            rw [fpO hp] at m1
            cases hq : posA items e1 j with
            | some k2 =>
              rw [fpS hq] at m2
              rcases own2 k2 a m2 with z | z
              · exact absurd z (R1.ins i a m1).ne
              · exact absurd z (hfpc i hp a m1)
            | none =>
              rw [fpO hq] at m2
              exact R1.dj i j a m1 m2
        · cases hp : posA items e1 j with
          | some kk => rw [fpS hp] at m; exact R2.un kk a m
          | none =>
            rw [fpO hp] at m
            exact ((E2.keep a (R1.ins j a m) (off1 j hp a m)).2).trans (R1.un j a m)
        · cases hp : posA items e1 j with
          | some kk => rw [fpS hp] at m; exact R2.ins kk a m
          | none =>
            rw [fpO hp] at m
            exact (R1.ins j a m).eq (E2.keep a (R1.ins j a m) (off1 j hp a m)).1
      have back : ∀ a, (H1 a = none ∨ a ∈ L.flatten) → H a = none ∨ ∃ j, a ∈ fp j := fun a m => by
        rcases m with z | z
        · exact E1.back (.inl z)
        · rcases A.src a z with y | ⟨i, _, y⟩
          · exact F1.src a y
          · exact E1.own i a y
      have EN : Evo S H fp S2 H2 fpN := by
        refine ⟨E1.sub.trans E2.sub, fun a ha hn => ?_, fun j a m => ?_, E1.live.trans E2.live⟩
        · obtain ⟨h4, h5⟩ := E1.keep a ha hn
          have hn2 : ∀ i, a ∉ L.getD i [] := fun i m => by
            rcases back a (.inr (getD_flat m)) with z | ⟨j, z⟩
            · exact ha.ne z
            · exact hn j z
          obtain ⟨h6, h7⟩ := E2.keep a (ha.eq h4) hn2
          exact ⟨h6.trans h4, h7.trans h5⟩
        · cases hp : posA items e1 j with
          | some kk => rw [fpS hp] at m; exact back a (own2 kk a m)
          | none => rw [fpO hp] at m; exact E1.own j a m
      refine k v S2 H2 fpN fr2 RN EN w2 (fun z => nomatch z) fun _ => ⟨F2.nd, fun a m => ?_, fun a m j z => ?_, F2.un⟩
      · rcases F2.src a m with z | ⟨j, z⟩
        · exact back a (.inl z)
        · exact back a (.inr (getD_flat z))
      · cases hp : posA items e1 j with
        | some kk => rw [fpS hp] at z; exact F2.off a m kk z
        | none =>
          rw [fpO hp] at z
          rcases F2.src a m with y | ⟨i, y⟩
          · exact (R1.ins j a z).ne y
          · exact hfpc j hp a z (getD_flat y)
  · cases h3
end Mv

set_option Elab.async false
set_option linter.all false
set_option maxRecDepth 100000
set_option maxHeartbeats 2000000
namespace Mv
open PySem PySem.Spec PyProof.Rows L2

/-! ### room, and no call around that guards itself -/
structure Room (k : Nat) (A : Around) : Prop where
  hd : A.handled = none
  dp : A.depth + 3 * k + 5 < recursionLimit
  un : A.units + 16 * k + 200 < cLine
  gd : A.guards = some []
theorem Room.toL {k : Nat} {A : Around} (r : Mv.Room k A) : L2.Room k A := ⟨r.hd, r.dp, r.un⟩
theorem Room.mono {j k : Nat} {A : Around} (r : Mv.Room k A) (h : j ≤ k) : Mv.Room j A := ⟨r.hd, (r.toL.mono h).dp, (r.toL.mono h).un, r.gd⟩
theorem Room.deeper {k : Nat} {A : Around} (r : Mv.Room (k + 1) A) (env : PySem.Env) : Mv.Room k (A.deeper env) :=
  ⟨(r.toL.deeper env).hd, (r.toL.deeper env).dp, (r.toL.deeper env).un, r.gd⟩
theorem Room.units {k : Nat} {A : Around} (r : Mv.Room k A) : A.units + 64 < cLine := r.toL.units
/-- a def's promise, wherever there is such room -/
structure FnOk (P : Program) (w : World) (K : PySem.W.Frag) (mg : Str → Option Value) (base : Heap) (CX : CXT) (k : Nat) (f : Addr) (fd : FuncData) (ps : List Str) (sp : Sp) : Prop where
  len : ∀ vs H Q E, sp vs H Q E → vs.length = ps.length
  run : ∀ (A : Around) (outer : List PySem.Env) (s : Shared) (H : Hp) (args : Args) (us : List Value) (vs : List V) (Q : VK) (E : XK), Mv.Room k A → Env0 P w K mg base A outer s H → BindsTo s fd args (ps.zip us) → Vals vs us → sp vs H Q E →
    codeAny (model P w) A (.call (.ref f) args) (CR CX outer P w H s Q E) s
theorem FnOk.mono {P : Program} {w : World} {K : PySem.W.Frag} {mg : Str → Option Value} {base : Heap} {CX : CXT} {j k : Nat} {f : Addr} {fd : FuncData} {ps : List Str} {sp : Sp} (F : Mv.FnOk P w K mg base CX j f fd ps sp) (h : j ≤ k) :
    Mv.FnOk P w K mg base CX k f fd ps sp := ⟨F.len, fun A outer s H args us vs Q E r e b v q => F.run A outer s H args us vs Q E (r.mono h) e b v q⟩
theorem FnOk.imp {P : Program} {w : World} {K : PySem.W.Frag} {mg : Str → Option Value} {base : Heap} {CX : CXT} {k : Nat} {f : Addr} {fd : FuncData} {ps : List Str} {sp sp' : Sp} (F : Mv.FnOk P w K mg base CX k f fd ps sp)
    (h : ∀ vs H Q E, sp' vs H Q E → sp vs H Q E) : Mv.FnOk P w K mg base CX k f fd ps sp' :=
  ⟨fun vs H Q E q => F.len vs H Q E (h _ _ _ _ q), fun A outer s H args us vs Q E hr he hb hv hs => F.run A outer s H args us vs Q E hr he hb hv (h _ _ _ _ hs)⟩
section
variable {X : Cx} {CX : CXT} {k : Nat} {f : Addr} {fd : FuncData} {ps : List Str} {sp : Sp} {E : XK} {x : Str} {p pos : Pos} {e : Expr} {es : List Expr} {t : TA}
theorem run_g {pins : List (Addr × Obj)} {σ : L2.St} {H : Hp} {s : Shared} {Q : VK} {us : List Value} {vs : List V} (F : Mv.FnOk X.prog X.w X.K X.mg X.base CX k f fd ps sp) (hr : Mv.Room k X.A) (hb : Binds X.K fd ps []) (hx : Passes CX X E)
    (I : Inv X pins σ H s) (r : Vals vs us) (h : sp vs H Q E) : wpAny (model X.prog X.w) X.A (call (.ref f) us) (EP X pins σ Q) X.xe s := by
  have hl : us.length = ps.length := by rw [← r.length]; exact F.len _ _ _ _ h
  have hb' : BindsTo s fd ⟨us, []⟩ (ps.zip us) := by
    have := hb s us I.kIn (by rw [List.append_nil]; exact hl)
    rwa [List.append_nil] at this
  refine wpAny_call (codeAny_mono (F.run X.A X.stack s H ⟨us, []⟩ us vs Q E hr I.env0 hb' r h) fun z s' hq => ?_)
  match z, hq with
  | .error e, hq => exact hx pins σ H s e s' I hq
  | .ok (.ret u), hq => exact I.after hq
theorem pe_callG (F : Mv.FnOk X.prog X.w X.K X.mg X.base CX k f fd ps sp) (hr : Mv.Room k X.A) (hg : Gl X x) (hm : X.mg x = some (.ref f)) (hk : PySem.W.keepIn X.K (.ref f) = true) (hb : Binds X.K fd ps []) (hx : Passes CX X E)
    (ha : PA X (e :: es) t) (hdb : (x == ("__debug__" : Str)) = false := by decide) (he : starEach (e :: es) X.env = (false, eval e X.env) :: starEach es X.env := by rfl) (hpl : (backTo pos (starEach es X.env)).any (·.1) = false := by rfl) :
    PE X (.Call (.Name x p) (e :: es) [] pos) (tCall sp [] E t) :=
  ⟨fun pins s σ H Q I h => wpAny_Call_Name_kw (ld_glob I hg hm (PySem.W.callWith_K (h₀ := X.base) I.ok.mod.kin hk
    (thn (ha.run pos pins s σ H _ I h) fun us s1 ⟨vs, H1, I1, r, q⟩ => ⟨I1.kIn, run_g F hr hb hx I1 r (by have q' : sp (vs ++ []) H1 Q E := q; rwa [List.append_nil] at q')⟩) he hpl) hdb)⟩
end
/-- the code object that the def at f bears -/
def CdOf (K : PySem.W.Frag) (f : Addr) (cdv : Value) : Prop := ∃ oc od fd osl, K.lookup f = some ⟨oc, od, .func fd, osl⟩ ∧ fd.code = cdv ∧ ∃ c, cdv = .ref c
/-- a def of the text keeps its promise when its body does -/
theorem fn_g {P : Program} {w : World} {K : PySem.W.Frag} {mg : Str → Option Value} {base : Heap} {k : Nat} {f : Addr} {x qual : Str} {st : Stmt} {fd : FuncData} {N ps : List Str} {sp : Sp} (F : Fun K x qual st f fd) (S : FnScope N ps (defScope st))
    (len : ∀ vs H Q E, sp vs H Q E → vs.length = ps.length)
    (hbody : ∀ (cdv : Value) (A : Around) (outer : List PySem.Env) (s : Shared) (H : Hp) (vs : List V) (Q : VK) (E : XK), CdOf K f cdv → Mv.Room k (A.deeper (envOfC qual (defScope st) s.heap.objs.size f cdv)) → sp vs H Q E →
      ∃ t, PSs (cxOf CX0 P w K mg base N qual (defScope st) f cdv A outer s H E).nox (defBody st) t ∧ t { nx := fun _ H' => Q .non H', rt := Q } (L2.start N vs) H) :
    Mv.FnOk P w K mg base CX0 (k + 1) f fd ps sp := by
  obtain ⟨oc, od, kV, doc, pm, an, cdv, ct, osl, rfl, lk, hcd⟩ := F.ex
  refine ⟨len, fun A outer s H args us vs Q E hr e0 hb r hsp => ?_⟩
  have hl := len _ _ _ _ hsp
  have keep : ∀ b o, base.get? b = some o → s.heap.get? b = some o := fun b o e => (e0.bs b o e).1
  have KX : K.In s.heap := e0.mod.kin.keeps keep
  refine codeAny_call_function hr.toL.depth (KX _ _ lk) rfl S.co S.gen rfl (PySem.W.codeRec_of KX hcd) (hb _ _ _ _ (wpAny_newFunctionEnv_cells S.kind (fun ⟨n, v⟩ hy => ?_) fun env he s1 xx => ?_))
  · exact (S.par n (List.of_mem_zip hy).1).imp id fun q => ⟨q, PySem.W.cellsFrom_some _ _ _ (.inl q)⟩
  · subst he
    refine ⟨(e0.mod.nolimit.keeps keep).keeps xx.toInCall.keep, codeAny_func ?_⟩
    obtain ⟨t, ht, hq⟩ := hbody cdv A outer s H vs Q E ⟨oc, od, _, osl, lk, rfl, He.codeIn_ref hcd⟩ (hr.deeper _) hsp
    refine wpAny_mono (ht.nox.run [] s1 (L2.start N vs) H _ (inv_start S hr.hd e0 hl r xx) hq) (fun fl s' hs => ?_) fun _ _ hs => hs
    match fl, hs with
    | .ret u, ⟨v, σ', H', J, rv, q⟩ => exact ⟨v, H', J.os, J.bare, J.base, J.hok, rv, q⟩
    | .next, ⟨σ', H', J, q⟩ => exact ⟨V.non, H', J.os, J.bare, J.base, J.hok, rfl, q⟩
    | .brk, ⟨_, _, _, q⟩ => exact False.elim q
    | .cont, ⟨_, _, _, q⟩ => exact False.elim q

theorem se_call {X : Cx} {k : Nat} {f : Addr} {fd : FuncData} {ps : List Str} {x : Str} {p pos : Pos} {e : Expr} {es : List Expr} {g : Def} {args : List Arg} (F : FnOk X.prog X.w X.K X.mg X.base CX0 k f fd ps (spOf X.K g)) (hr : Room k X.A) (hg : Gl X x) (hm : X.mg x = some (.ref f)) (hk : PySem.W.keepIn X.K (.ref f) = true) (hb : Binds X.K fd ps [])
    (ha : SC X (e :: es) args) (hdb : (x == ("__debug__" : Str)) = false := by decide) (he : starEach (e :: es) X.env = (false, eval e X.env) :: starEach es X.env := by rfl) (hpl : (backTo pos (starEach es X.env)).any (·.1) = false := by rfl) :
    SE X (.Call (.Name x p) (e :: es) [] pos) (callF g args) false true :=
  ⟨PE.imp (pe_callG F hr hg hm hk hb pass0 ha.pa hdb he hpl) fun _ _ _ h => call_core h, fun z => nomatch z⟩

/-! ### statements -/
def EndsOk (K : PySem.W.Frag) (out : Out) (env' : Env) (asg : List Nat) (D : Ends) (σ : L2.St) (S H : Hp) (fp : Nat → List Addr) : Prop :=
  match out with
  | .nx => ∀ σ' S' H' fp', Rel K env' σ' S' H' fp' → Evo S H fp S' H' fp' → (∀ k, k ∉ asg → σ'[k]? = σ[k]?) → D.nx σ' H'
  | .bk => ∀ σ' S' H' fp', Rel K env' σ' S' H' fp' → Evo S H fp S' H' fp' → (∀ k, k ∉ asg → σ'[k]? = σ[k]?) → D.bk σ' H'
  | .ct => ∀ σ' S' H' fp', Rel K env' σ' S' H' fp' → Evo S H fp S' H' fp' → (∀ k, k ∉ asg → σ'[k]? = σ[k]?) → D.ct σ' H'
  | .rt o => ∀ v σ' S' H' fp' fr, Rel K env' σ' S' H' fp' → Evo S H fp S' H' fp' → (∀ k, k ∉ asg → σ'[k]? = σ[k]?) → Ow K S' H' o v fr → Fresh S H fp S' fp' fr → D.rt v H'
def tSS (K : PySem.W.Frag) (g : SSem) (asg : List Nat) : TS := fun D σ H => ∃ env S fp out env', Rel K env σ S H fp ∧ g env = some (out, env') ∧ EndsOk K out env' asg D σ S H fp
structure SS (X : Cx) (st : Stmt) (g : SSem) (asg : List Nat) : Prop where
  ps : PS X st (tSS X.K g asg)
structure SSs (X : Cx) (sts : List Stmt) (g : SSem) (asg : List Nat) : Prop where
  ps : PSs X sts (tSS X.K g asg)
def skip : SSem := fun env => some (.nx, env)
def seq (g1 g2 : SSem) : SSem := fun env => (g1 env).bind fun p => match p.1 with
  | .nx => g2 p.2
  | o => some (o, p.2)
section
variable {K : PySem.W.Frag} {out : Out} {env' : Env} {asg asg' : List Nat} {D : Ends} {σ σ1 : L2.St} {S H S1 H1 : Hp} {fp fp1 : Nat → List Addr}
/-- from a later start -/
theorem EndsOk.later (h : EndsOk K out env' (asg ++ asg') D σ S H fp) (E : Evo S H fp S1 H1 fp1) (ha : ∀ k, k ∉ asg → σ1[k]? = σ[k]?) : EndsOk K out env' asg' D σ1 S1 H1 fp1 := by
  have hk : ∀ {σ' : L2.St}, (∀ k, k ∉ asg' → σ'[k]? = σ1[k]?) → ∀ k, k ∉ asg ++ asg' → σ'[k]? = σ[k]? := fun q k m => by
    rw [List.mem_append, not_or] at m
    exact (q k m.2).trans (ha k m.1)
  cases out with
  | nx => exact fun σ' S' H' fp' R' E' q => h σ' S' H' fp' R' (E.trans E') (hk q)
  | bk => exact fun σ' S' H' fp' R' E' q => h σ' S' H' fp' R' (E.trans E') (hk q)
  | ct => exact fun σ' S' H' fp' R' E' q => h σ' S' H' fp' R' (E.trans E') (hk q)
  | rt o => exact fun v σ' S' H' fp' fr R' E' q w F => h v σ' S' H' fp' fr R' (E.trans E') (hk q) w (Fresh.pre E F)
theorem EndsOk.wk (h : EndsOk K out env' asg' D σ S H fp) (i : ∀ k, k ∈ asg → k ∈ asg') : EndsOk K out env' asg D σ S H fp := by
  cases out with
  | nx => exact fun σ' S' H' fp' R' E' q => h σ' S' H' fp' R' E' fun k m => q k fun z => m (i k z)
  | bk => exact fun σ' S' H' fp' R' E' q => h σ' S' H' fp' R' E' fun k m => q k fun z => m (i k z)
  | ct => exact fun σ' S' H' fp' R' E' q => h σ' S' H' fp' R' E' fun k m => q k fun z => m (i k z)
  | rt o => exact fun v σ' S' H' fp' fr R' E' q w F => h v σ' S' H' fp' fr R' E' (fun k m => q k fun z => m (i k z)) w F
end
section
variable {X : Cx} {st : Stmt} {sts : List Stmt} {g g1 g2 : SSem} {a1 a2 asg : List Nat} {e : Expr} {f : ESem} {q m : Bool} {pos : Pos}
theorem sss_imp (h : SSs X sts g a1) (i : ∀ k, k ∈ a1 → k ∈ asg) : SSs X sts g asg := ⟨PSs.imp h.ps fun D σ H ⟨env, S, fp, out, env', R, he, k⟩ => ⟨env, S, fp, out, env', R, he, EndsOk.wk k i⟩⟩
theorem sss_nil : SSs X [] skip [] := by
  refine ⟨PSs.imp pss_nil fun D σ H h => ?_⟩
  obtain ⟨env, S, fp, out, env', R, he, k⟩ := h
  cases he
  exact k σ S H fp R (Evo.refl _ _ _) fun _ _ => rfl
theorem seq_core {K : PySem.W.Frag} {D : Ends} {σ : L2.St} {H : Hp} (h : tSS K (seq g1 g2) (a1 ++ a2) D σ H) : tSeq (tSS K g1 a1) (tSS K g2 a2) D σ H := by
  obtain ⟨env, S, fp, out, env', R, he, k⟩ := h
  unfold seq at he
  simp only [Option.bind_eq_some_iff] at he
  obtain ⟨⟨o, e1⟩, h1, h2⟩ := he
  simp only at h1 h2
  refine ⟨env, S, fp, o, e1, R, h1, ?_⟩
  cases o with
  | nx => exact fun σ' S' H' fp' R' E' hk => ⟨e1, S', fp', out, env', R', h2, EndsOk.later k E' hk⟩
  | bk =>
    cases h2
    exact fun σ' S' H' fp' R' E' hk => k σ' S' H' fp' R' E' fun k m => hk k fun z => m (List.mem_append_left _ z)
  | ct =>
    cases h2
    exact fun σ' S' H' fp' R' E' hk => k σ' S' H' fp' R' E' fun k m => hk k fun z => m (List.mem_append_left _ z)
  | rt o =>
    cases h2
    exact fun v σ' S' H' fp' fr R' E' hk w F => k v σ' S' H' fp' fr R' E' (fun k m => hk k fun z => m (List.mem_append_left _ z)) w F
theorem sss_cons (h1 : SS X st g1 a1) (h2 : SSs X sts g2 a2) : SSs X (st :: sts) (seq g1 g2) (a1 ++ a2) := ⟨PSs.imp (pss_cons h1.ps h2.ps) fun _ _ _ h => seq_core h⟩
theorem sss_one (h1 : SS X st g1 a1) : SSs X [st] g1 a1 := ⟨pss_one h1.ps⟩
/-- freeze a slot's own thing: no code -/
def fzS (i : Nat) (g : SSem) : SSem := fun env => match env[i]? with
  | some (some o) => o.frz.bind fun t => g (env.set i (some (.leaf t)))
  | _ => none
theorem Rel.fz {K : PySem.W.Frag} {env : Env} {σ : L2.St} {S H : Hp} {fp : Nat → List Addr} {i : Nat} {o : O} {t : D} (R : Rel K env σ S H fp) (e : env[i]? = some (some o)) (h : o.frz = some t) :
    Rel K (env.set i (some (.leaf t))) σ (withF S H (fp i)) H (fun j => if j = i then [] else fp j) ∧ Evo S H fp (withF S H (fp i)) H (fun j => if j = i then [] else fp j) := by
  have un : ∀ a ∈ fp i, S a = none := R.un i
  refine ⟨⟨withF_le R.le, by rw [List.length_set]; exact R.len, fun j o' e' => ?_, fun j => ?_, fun j k a m1 m2 => ?_, fun j a m => ?_, fun j a m => ?_, R.tb.withF (R.ins i)⟩, ⟨withF_sub un, fun a ha hn => ⟨rfl, withF_off (hn i)⟩, fun j a m => ?_, LV.refl⟩⟩
  · by_cases hj : i = j
    · subst hj
      have hlt : i < env.length := (List.getElem?_eq_some_iff.mp e).1
      rw [List.getElem?_set_self hlt] at e'
      cases e'
      obtain ⟨v, e2, w⟩ := R.sl i o e
      rw [if_pos rfl]
      exact ⟨v, e2, ow_leaf (frz_fz R.le un w h)⟩
    · rw [List.getElem?_set_ne hj] at e'
      obtain ⟨v, e2, w⟩ := R.sl j o' e'
      rw [if_neg (fun z => hj z.symm)]
      exact ⟨v, e2, w.mono (withF_sub un) (Same.refl _)⟩
  · by_cases hj : j = i
    · rw [if_pos hj]; exact List.nodup_nil
    · rw [if_neg hj]; exact R.nd j
  · by_cases hj : j = i
    · rw [if_pos hj] at m1; cases m1
    · rw [if_neg hj] at m1
      by_cases hk : k = i
      · rw [if_pos hk] at m2; cases m2
      · rw [if_neg hk] at m2
        exact R.dj j k a m1 m2
  · by_cases hj : j = i
    · rw [if_pos hj] at m; cases m
    · rw [if_neg hj] at m
      rw [withF_off fun z => hj (R.dj j i a m z)]
      exact R.un j a m
  · by_cases hj : j = i
    · rw [if_pos hj] at m; cases m
    · rw [if_neg hj] at m
      exact R.ins j a m
  · by_cases hj : j = i
    · rw [if_pos hj] at m; cases m
    · rw [if_neg hj] at m
      exact .inr ⟨j, m⟩
theorem sss_fz (i : Nat) (h : SSs X sts g asg) : SSs X sts (fzS i g) asg := by
  refine ⟨PSs.imp h.ps fun D σ H h => ?_⟩
  obtain ⟨env, S, fp, out, env', R, he, k⟩ := h
  unfold fzS at he
  split at he
  · rename_i o e0
    simp only [Option.bind_eq_some_iff] at he
    obtain ⟨t, h1, h2⟩ := he
    obtain ⟨R1, E1⟩ := R.fz e0 h1
    exact ⟨_, _, _, out, env', R1, h2, EndsOk.later (asg := []) k E1 fun _ _ => rfl⟩
  · cases he

/-! ### stores -/
theorem Rel.set {K : PySem.W.Frag} {env : Env} {σ : L2.St} {S H : Hp} {fp : Nat → List Addr} {i : Nat} {o : O} {v : V} {fr : List Addr} (R : Rel K env σ S H fp) (w : Ow K S H o v fr) (nd : fr.Nodup) (off : ∀ a ∈ fr, ∀ j, a ∉ fp j) (un : ∀ a ∈ fr, S a = none) :
    Rel K (env.set i (some o)) (σ.set i (some v)) S H (fun j => if j = i then fr else fp j) := by
  refine ⟨R.le, by rw [List.length_set, List.length_set]; exact R.len, fun j o' e' => ?_, fun j => ?_, fun j k a m1 m2 => ?_, fun j a m => ?_, fun j a m => ?_, R.tb⟩
  · by_cases hj : i = j
    · subst hj
      have hlt : i < env.length := by
        have := (List.getElem?_eq_some_iff.mp e').1
        rw [List.length_set] at this
        exact this
      rw [List.getElem?_set_self hlt] at e'
      cases e'
      rw [if_pos rfl]
      exact ⟨v, List.getElem?_set_self (by rw [← R.len]; exact hlt), w⟩
    · rw [List.getElem?_set_ne hj] at e'
      obtain ⟨v', e2, w'⟩ := R.sl j o' e'
      rw [if_neg (fun z => hj z.symm)]
      exact ⟨v', by rw [List.getElem?_set_ne hj]; exact e2, w'⟩
  · by_cases hj : j = i
    · rw [if_pos hj]; exact nd
    · rw [if_neg hj]; exact R.nd j
  · by_cases hj : j = i
    · rw [if_pos hj] at m1
      by_cases hk : k = i
      · rw [hj, hk]
      · rw [if_neg hk] at m2
        exact absurd m2 (off a m1 k)
    · rw [if_neg hj] at m1
      by_cases hk : k = i
      · rw [if_pos hk] at m2
        exact absurd m1 (off a m2 j)
      · rw [if_neg hk] at m2
        exact R.dj j k a m1 m2
  · by_cases hj : j = i
    · rw [if_pos hj] at m; exact un a m
    · rw [if_neg hj] at m
      exact R.un j a m
  · by_cases hj : j = i
    · rw [if_pos hj] at m; exact w.some a m
    · rw [if_neg hj] at m
      exact R.ins j a m
theorem Evo.set {S H S' H' : Hp} {fp fp' : Nat → List Addr} {i : Nat} {fr : List Addr} (E : Evo S H fp S' H' fp') (F : ∀ a ∈ fr, H a = none ∨ ∃ j, a ∈ fp j) : Evo S H fp S' H' (fun j => if j = i then fr else fp' j) :=
  ⟨E.sub, E.keep, fun j a m => by
    by_cases hj : j = i
    · rw [if_pos hj] at m
      exact F a m
    · rw [if_neg hj] at m
      exact E.own j a m, E.live⟩
def setS (i : Nat) (m : Bool) (f : ESem) : SSem := fun env => (f env).bind fun p => if (m || p.1.isLeaf) = true then some (.nx, p.2.set i (some p.1)) else none
theorem setS_some {i : Nat} {env env' : Env} {out : Out} (h : setS i m f env = some (out, env')) : ∃ o e1, f env = some (o, e1) ∧ (m = true ∨ o.isLeaf = true) ∧ out = .nx ∧ env' = e1.set i (some o) := by
  unfold setS at h
  simp only [Option.bind_eq_some_iff] at h
  obtain ⟨⟨o, e1⟩, h1, h2⟩ := h
  split at h2
  · rename_i hc
    simp only [Bool.or_eq_true] at hc
    cases h2
    exact ⟨o, e1, h1, hc, rfl, rfl⟩
  · cases h2
theorem fresh_of {K : PySem.W.Frag} {S H S1 H1 : Hp} {fp fp1 : Nat → List Addr} {o : O} {v : V} {fr : List Addr} (hl : m = true ∨ o.isLeaf = true) (w : Ow K S1 H1 o v fr) (n : m = true → Fresh S H fp S1 fp1 fr) : Fresh S H fp S1 fp1 fr := by
  rcases hl with hl | hl
  · exact n hl
  · rw [isLeaf_fr hl w]
    exact Fresh.nil
theorem set_core {K : PySem.W.Frag} {i : Nat} {D : Ends} {σ : L2.St} {H : Hp} (h : tSS K (setS i m f) [i] D σ H) : tAsg (tE K f q m) (gName i) D σ H := by
  obtain ⟨env, S, fp, out, env', R, he, k⟩ := h
  obtain ⟨o, e1, h1, hl, rfl, rfl⟩ := setS_some he
  refine ⟨env, S, fp, o, e1, R, h1, fun v S1 H1 fp1 fr R1 E1 w g n => ?_⟩
  have F := fresh_of hl w n
  refine k _ _ _ _ (R1.set (i := i) w F.nd F.off F.un) (E1.set F.src) fun j hj => ?_
  rw [List.getElem?_set_ne]
  intro z
  exact hj (List.mem_singleton.mpr z.symm)
theorem ss_set {i : Nat} {x : Str} {pos' : Pos} (hN : X.N.Nodup) (hi : X.N[i]? = some x) (hx : Loc X.env.scope x) (h : SE X e f q m) (hs : swapsWith e (some (.Name x pos')) pos.line X.env = pure false := by rfl) (hf : X.fn x = true ∨ X.env.scope.names.lookup x = some .local := by first | exact .inl rfl | exact .inr rfl | assumption) :
    SS X (.Assign [.Name x pos'] e pos) (setS i m f) [i] := ⟨PS.imp (ps_set hN hi hx h.pe hs hf) fun _ _ _ h => set_core h⟩
/-- e; -/
def dropS (f : ESem) : SSem := fun env => (f env).map fun p => (.nx, p.2)
theorem ss_expr (h : SE X e f q m) (hs : swapsWith e none pos.line X.env = pure false := by rfl) : SS X (.Expr e pos) (dropS f) [] := by
  refine ⟨PS.imp (ps_expr h.pe hs) fun D σ H h => ?_⟩
  obtain ⟨env, S, fp, out, env', R, he, k⟩ := h
  unfold dropS at he
  simp only [Option.map_eq_some_iff, Prod.mk.injEq] at he
  obtain ⟨⟨o, e1⟩, h1, rfl, rfl⟩ := he
  exact ⟨env, S, fp, o, e1, R, h1, fun v S1 H1 fp1 fr R1 E1 w g n => k σ S1 H1 fp1 R1 E1 fun _ _ => rfl⟩
/-- return e -/
def retS (m : Bool) (f : ESem) : SSem := fun env => (f env).bind fun p => if (m || p.1.isLeaf) = true then some (.rt p.1, p.2) else none
theorem ss_ret (h : SE X e f q m) : SS X (.Return (some e) pos) (retS m f) [] := by
  refine ⟨PS.imp (ps_ret h.pe) fun D σ H h => ?_⟩
  obtain ⟨env, S, fp, out, env', R, he, k⟩ := h
  unfold retS at he
  simp only [Option.bind_eq_some_iff] at he
  obtain ⟨⟨o, e1⟩, h1, h2⟩ := he
  split at h2
  · rename_i hc
    simp only [Bool.or_eq_true] at hc
    cases h2
    exact ⟨env, S, fp, o, e1, R, h1, fun v S1 H1 fp1 fr R1 E1 w g n => k v σ S1 H1 fp1 fr R1 E1 (fun _ _ => rfl) w (fresh_of hc w n)⟩
  · cases h2
/-- return x, x one's own: it goes -/
def retV (i : Nat) : SSem := fun env => match env[i]? with
  | some (some o) => some (.rt o, env.set i none)
  | _ => none
theorem Rel.drop {K : PySem.W.Frag} {env : Env} {σ : L2.St} {S H : Hp} {fp : Nat → List Addr} {i : Nat} (R : Rel K env σ S H fp) : Rel K (env.set i none) σ S H (fun j => if j = i then [] else fp j) := by
  refine ⟨R.le, by rw [List.length_set]; exact R.len, fun j o' e' => ?_, fun j => ?_, fun j k a m1 m2 => ?_, fun j a m => ?_, fun j a m => ?_, R.tb⟩
  · by_cases hj : i = j
    · subst hj
      by_cases hlt : i < env.length
      · rw [List.getElem?_set_self hlt] at e'
        cases e'
      · rw [List.getElem?_eq_none (by rw [List.length_set]; omega)] at e'
        cases e'
    · rw [List.getElem?_set_ne hj] at e'
      rw [if_neg (fun z => hj z.symm)]
      exact R.sl j o' e'
  · by_cases hj : j = i
    · rw [if_pos hj]; exact List.nodup_nil
    · rw [if_neg hj]; exact R.nd j
  · by_cases hj : j = i
    · rw [if_pos hj] at m1; cases m1
    · rw [if_neg hj] at m1
      by_cases hk : k = i
      · rw [if_pos hk] at m2; cases m2
      · rw [if_neg hk] at m2
        exact R.dj j k a m1 m2
  · by_cases hj : j = i
    · rw [if_pos hj] at m; cases m
    · rw [if_neg hj] at m
      exact R.un j a m
  · by_cases hj : j = i
    · rw [if_pos hj] at m; cases m
    · rw [if_neg hj] at m
      exact R.ins j a m
theorem Evo.drop {S H : Hp} {fp : Nat → List Addr} {i : Nat} : Evo S H fp S H (fun j => if j = i then [] else fp j) :=
  ⟨Same.refl _, fun _ _ _ => ⟨rfl, rfl⟩, fun j a m => by
    by_cases hj : j = i
    · rw [if_pos hj] at m; cases m
    · rw [if_neg hj] at m
      exact .inr ⟨j, m⟩, LV.refl⟩
theorem ss_retV {i : Nat} (h : PE X e (tVar i)) : SS X (.Return (some e) pos) (retV i) [] := by
  refine ⟨PS.imp (ps_ret h) fun D σ H h => ?_⟩
  obtain ⟨env, S, fp, out, env', R, he, k⟩ := h
  unfold retV at he
  split at he
  · rename_i o e0
    cases he
    obtain ⟨v, e2, w⟩ := R.sl i o e0
    refine ⟨v, e2, k v σ S H _ (fp i) R.drop Evo.drop (fun _ _ => rfl) w ⟨R.nd i, fun a m => .inr ⟨i, m⟩, fun a m j z => ?_, R.un i⟩⟩
    by_cases hj : j = i
    · rw [if_pos hj] at z; cases z
    · rw [if_neg hj] at z
      exact hj (R.dj j i a z m)
  · cases he
def retN : SSem := fun env => some (.rt (.leaf .none), env)
def brkS : SSem := fun env => some (.bk, env)
def contS : SSem := fun env => some (.ct, env)
theorem ss_cont : SS X (.Continue pos) contS [] := by
  refine ⟨PS.imp ps_continue fun D σ H h => ?_⟩
  obtain ⟨env, S, fp, out, env', R, he, k⟩ := h
  cases he
  exact k σ S H fp R (Evo.refl _ _ _) (fun _ _ => rfl)
def failS : SSem := fun _ => none
def ifS (c : TSem) (g1 g2 : SSem) : SSem := fun env => (c env).bind fun p => if p.1 = true then g1 p.2 else g2 p.2
theorem ss_if {c : Expr} {fc : TSem} {qc : Bool} {s1 s2 : List Stmt} (hc : ST X c fc qc) (h1 : SSs X s1 g1 a1) (h2 : SSs X s2 g2 a2) : SS X (.If c s1 s2 pos) (ifS fc g1 g2) (a1 ++ a2) := by
  refine ⟨PS.imp (ps_if hc.pt h1.ps h2.ps) fun D σ H h => ?_⟩
  obtain ⟨env, S, fp, out, env', R, he, k⟩ := h
  unfold ifS at he
  simp only [Option.bind_eq_some_iff] at he
  obtain ⟨⟨b, e1⟩, h3, h4⟩ := he
  simp only at h3 h4
  refine ⟨env, S, fp, b, e1, R, h3, fun S1 H1 fp1 R1 E1 g => ?_⟩
  have k1 : EndsOk X.K out env' (a1 ++ a2) D σ S1 H1 fp1 := EndsOk.later (asg := []) k E1 fun _ _ => rfl
  cases b with
  | true =>
    rw [if_pos rfl] at h4
    show tSS X.K g1 a1 D σ H1
    exact ⟨e1, S1, fp1, out, env', R1, h4, EndsOk.wk k1 fun _ m => List.mem_append_left _ m⟩
  | false =>
    rw [if_neg Bool.false_ne_true] at h4
    show tSS X.K g2 a2 D σ H1
    exact ⟨e1, S1, fp1, out, env', R1, h4, EndsOk.wk k1 fun _ m => List.mem_append_right _ m⟩

/-! ### targets -/
abbrev GSem := D → Env → Option Env
def tGt (K : PySem.W.Frag) (g : GSem) (asg : List Nat) : TG := fun v σ H Q => ∃ env S fp t env', Rel K env σ S H fp ∧ Fz K S t v ∧ g t env = some env' ∧
  ∀ σ' S' H' fp', Rel K env' σ' S' H' fp' → Evo S H fp S' H' fp' → (∀ k, k ∉ asg → σ'[k]? = σ[k]?) → σ'.length = σ.length → Q σ' H'
structure SG (X : Cx) (tg : Expr) (g : GSem) (asg : List Nat) : Prop where
  pg : PG X tg (tGt X.K g asg)
abbrev GsSem := List D → Env → Option Env
def tGts (K : PySem.W.Frag) (g : GsSem) (asg : List Nat) : TGs := fun vs σ H Q => ∃ env S fp ts env', Rel K env σ S H fp ∧ FzL K S ts vs ∧ g ts env = some env' ∧
  ∀ σ' S' H' fp', Rel K env' σ' S' H' fp' → Evo S H fp S' H' fp' → (∀ k, k ∉ asg → σ'[k]? = σ[k]?) → σ'.length = σ.length → Q σ' H'
structure SGs (X : Cx) (tgs : List Expr) (g : GsSem) (asg : List Nat) : Prop where
  pg : PGs X tgs (tGts X.K g asg)
def gN (i : Nat) : GSem := fun t env => some (env.set i (some (.leaf t)))
theorem sg_name {i : Nat} {x : Str} (hN : X.N.Nodup) (hi : X.N[i]? = some x) (hx : Loc X.env.scope x) (hf : X.fn x = true ∨ X.env.scope.names.lookup x = some .local := by first | exact .inl rfl | exact .inr rfl | assumption) : SG X (.Name x pos) (gN i) [i] := by
  refine ⟨PG.imp (pg_name hN hi hx hf) fun v σ H Q h => ?_⟩
  obtain ⟨env, S, fp, t, env', R, w, he, k⟩ := h
  cases he
  refine k _ _ _ _ (R.set (i := i) (ow_leaf w) List.nodup_nil (by intro a h; cases h) (by intro a h; cases h)) Evo.drop (fun j hj => ?_) List.length_set
  · rw [List.getElem?_set_ne]
    intro z
    exact hj (List.mem_singleton.mpr z.symm)
def gNl : GsSem := fun ts env => match ts with
  | [] => some env
  | _ => none
def gCn (g : GSem) (gs : GsSem) : GsSem := fun ts env => match ts with
  | t :: r => (g t env).bind fun e1 => gs r e1
  | [] => none
theorem sgs_nil : SGs X [] gNl [] := by
  refine ⟨PGs.imp pgs_nil fun v σ H Q h => ?_⟩
  obtain ⟨env, S, fp, ts, env', R, w, he, k⟩ := h
  cases ts with
  | nil =>
    cases he
    exact ⟨w.nilE, k σ S H fp R (Evo.refl _ _ _) (fun _ _ => rfl) rfl⟩
  | cons t r => cases he
theorem sgs_cons {es : List Expr} {g : GSem} {gs : GsSem} (h1 : SG X e g a1) (h2 : SGs X es gs a2) (hs : (assignEach (e :: es) X.env).map (·.2) = assign e X.env :: (assignEach es X.env).map (·.2) := by rfl) : SGs X (e :: es) (gCn g gs) (a1 ++ a2) := by
  refine ⟨PGs.imp (pgs_cons h1.pg h2.pg hs) fun v σ H Q h => ?_⟩
  obtain ⟨env, S, fp, ts, env', R, w, he, k⟩ := h
  cases ts with
  | nil => cases he
  | cons t r =>
    obtain ⟨x, xs, rfl, w1, w2⟩ := w.inv
    have he : (g t env).bind (fun e1 => gs r e1) = some env' := he
    simp only [Option.bind_eq_some_iff] at he
    obtain ⟨e1, h3, h4⟩ := he
    refine ⟨x, xs, rfl, env, S, fp, t, e1, R, w1, h3, fun σ1 S1 H1 fp1 R1 i1 k1 l1 => ⟨e1, S1, fp1, r, env', R1, w2.same i1.sub, h4, fun σ2 S2 H2 fp2 R2 i2 k2 l2 => k σ2 S2 H2 fp2 R2 (i1.trans i2) (fun j hj => ?_) (l2.trans l1)⟩⟩
    rw [List.mem_append, not_or] at hj
    exact (k2 j hj.2).trans (k1 j hj.1)
def gT (n : Nat) (gs : GsSem) : GSem := fun t env => match t with
  | .tuple ts => if ts.length = n then gs ts env else none
  | _ => none
theorem sg_tup {es : List Expr} {kk : Nat} {n : Nat} {gs : GsSem} (hc : X.calm = true) (h : SGs X es gs asg)
    (hn : (assignEach es X.env).length = n := by rfl) (hst : (assignEach es X.env).findIdx? (·.1) = none := by rfl) : SG X (.Tuple es kk pos) (gT n gs) asg := by
  refine ⟨PG.imp (pg_tup hc h.pg hn hst) fun v σ H Q h => ?_⟩
  obtain ⟨env, S, fp, t, env', R, w, he, k⟩ := h
  cases t with
  | tuple ts =>
    have he : (if ts.length = n then gs ts env else none) = some env' := he
    split at he
    · rename_i hl
      simp only [Fz] at w
      obtain ⟨a, vs, rfl, w1, w2⟩ := w
      exact ⟨a, vs, rfl, SqT.of (R.le _ _ w1), by rw [w2.len]; exact hl, env, S, fp, ts, env', R, w2, he, k⟩
    · cases he
  | _ => cases he
/-- target = e, e frozen -/
def asgS (g : GSem) (f : ESem) : SSem := fun env => (f env).bind fun p => match p.1 with
  | .leaf t => (g t p.2).map fun e2 => (.nx, e2)
  | _ => none
theorem ss_asg {tg : Expr} {g : GSem} (h : SE X e f q m) (hg : SG X tg g asg) (hs : swapsWithSole [tg] e pos.line X.env = pure false := by rfl) (hw : swappedStores [tg] e X.env = pure none := by rfl)
    (h1 : (assignEach [tg] X.env).map (·.2) = [assign tg X.env] := by rfl) : SS X (.Assign [tg] e pos) (asgS g f) asg := by
  refine ⟨PS.imp (ps_asg h.pe hg.pg hs hw h1) fun D σ H h => ?_⟩
  obtain ⟨env, S, fp, out, env', R, he, k⟩ := h
  unfold asgS at he
  simp only [Option.bind_eq_some_iff] at he
  obtain ⟨⟨o, e1⟩, h3, h4⟩ := he
  simp only at h3 h4
  split at h4
  · rename_i t
    simp only [Option.map_eq_some_iff, Prod.mk.injEq] at h4
    obtain ⟨e2, h4, rfl, rfl⟩ := h4
    refine ⟨env, S, fp, _, e1, R, h3, fun v S1 H1 fp1 fr R1 E1 w g n => ⟨e1, S1, fp1, t, e2, R1, (ow_leafE w).2, h4, fun σ2 S2 H2 fp2 R2 i2 k2 _ => k σ2 S2 H2 fp2 R2 (E1.trans i2) k2⟩⟩
  · cases h4
end

/-! ### what a loop walks -/
structure ItOk (K : PySem.W.Frag) (J : It) (A : List Addr) (S0 H0 : Hp) (ts : List D) : Prop where
  go : ∀ S H i, Same S0 S → Same S H → (∀ a ∈ A, H a = H0 a) → i < ts.length → J.go i H
  stop : ∀ S H i, Same S0 S → Same S H → (∀ a ∈ A, H a = H0 a) → ts.length ≤ i → J.stop i H
  yld : ∀ S H i t x H', Same S0 S → Same S H → (∀ a ∈ A, H a = H0 a) → ts[i]? = some t → J.yld i H x H' → ∃ S', Gr S H S' H' ∧ Fz K S' t x
abbrev ISem := Env → Option (List D × Env)
def tIt (K : PySem.W.Frag) (f : ISem) : TI := fun σ H R => ∃ env S fp ts env', Rel K env σ S H fp ∧ f env = some (ts, env') ∧
  ∀ J S' H' fp' A, Rel K env' σ S' H' fp' → Evo S H fp S' H' fp' → ItOk K J A S' H' ts → (∀ a ∈ A, Liv H' a ∧ ∀ i, a ∉ fp' i) → R J H'
structure SI (X : Cx) (tg iter : Expr) (f : ISem) : Prop where
  pi : PI X tg iter (tIt X.K f)
theorem PI.imp {X : Cx} {tg e : Expr} {t t' : TI} (h : PI X tg e t) (i : ∀ σ H R, t' σ H R → t σ H R) : PI X tg e t' := ⟨fun pins s σ H R I hw => h.run pins s σ H R I (i _ _ _ hw)⟩
theorem PI.or {X : Cx} {tg e : Expr} {t t' : TI} (h : PI X tg e t) (h' : PI X tg e t') : PI X tg e (fun σ H R => t σ H R ∨ t' σ H R) :=
  ⟨fun pins s σ H R I hw => hw.elim (h.run pins s σ H R I) (h'.run pins s σ H R I)⟩
def itemsO : O → Option (List D)
  | .leaf (.list ts) => some ts
  | .leaf (.tuple ts) => some ts
  | .ls ts => some ts
  | _ => none
def seqI (m : Bool) (f : ESem) : ISem := fun env => (f env).bind fun p => if (m || p.1.isLeaf) = true then (itemsO p.1).map fun ts => (ts, p.2) else none
section
variable {K : PySem.W.Frag} {S0 H0 : Hp} {a : Addr} {ts : List D} {vs : List V}
theorem itl_ok {A : List Addr} (h : ∀ S H, Same S0 S → Same S H → (∀ b ∈ A, H b = H0 b) → SqL K H a vs) (w : FzL K S0 ts vs) : ItOk K (Itl K a) A S0 H0 ts := by
  refine ⟨fun S H i e1 e2 e3 hi => ?_, fun S H i e1 e2 e3 hi => ⟨vs, h S H e1 e2 e3, by rw [w.len]; exact hi⟩, fun S H i t x H' e1 e2 e3 hi y => ?_⟩
  · obtain ⟨v, hv, _⟩ := w.get (List.getElem?_eq_getElem hi)
    exact ⟨vs, v, h S H e1 e2 e3, hv⟩
  · obtain ⟨rfl, y⟩ := y
    obtain ⟨v, hv, hz⟩ := w.get hi
    have := (y vs (h S _ e1 e2 e3)).symm.trans hv
    cases this
    exact ⟨S, Gr.refl e2, hz.same e1⟩
theorem itt_ok {A : List Addr} (h : ∀ S H, Same S0 S → Same S H → (∀ b ∈ A, H b = H0 b) → SqT K H a vs) (w : FzL K S0 ts vs) : ItOk K (Itt K a) A S0 H0 ts := by
  refine ⟨fun S H i e1 e2 e3 hi => ?_, fun S H i e1 e2 e3 hi => ⟨vs, h S H e1 e2 e3, by rw [w.len]; exact hi⟩, fun S H i t x H' e1 e2 e3 hi y => ?_⟩
  · obtain ⟨v, hv, _⟩ := w.get (List.getElem?_eq_getElem hi)
    exact ⟨vs, v, h S H e1 e2 e3, hv⟩
  · obtain ⟨rfl, y⟩ := y
    obtain ⟨v, hv, hz⟩ := w.get hi
    have := (y vs (h S _ e1 e2 e3)).symm.trans hv
    cases this
    exact ⟨S, Gr.refl e2, hz.same e1⟩
end
section
variable {X : Cx} {tg e : Expr} {f : ESem} {q m : Bool} {pos : Pos}
theorem si_seq (h : SE X e f q m) : SI X tg e (seqI m f) := by
  refine ⟨PI.imp (PI.or (pi_list h.pe) (pi_tup h.pe)) fun σ H R h => ?_⟩
  obtain ⟨env, S, fp, ts, env', RR, he, k⟩ := h
  unfold seqI at he
  simp only [Option.bind_eq_some_iff] at he
  obtain ⟨⟨o, e1⟩, h1, h2⟩ := he
  simp only at h1 h2
  split at h2
  · rename_i hl
    simp only [Bool.or_eq_true] at hl
    simp only [Option.map_eq_some_iff, Prod.mk.injEq] at h2
    obtain ⟨ts', h2, rfl, rfl⟩ := h2
    cases o with
    | leaf t =>
      cases t with
      | list us =>
        cases h2
        refine .inl ⟨env, S, fp, _, e1, RR, h1, fun v S1 H1 fp1 fr R1 E1 w g n => ?_⟩
        obtain ⟨rfl, w0⟩ := ow_leafE w
        simp only [Fz] at w0
        obtain ⟨a, vs, rfl, w1, w2⟩ := w0
        exact ⟨a, rfl, ⟨vs, (ls_same R1.le w1).sq⟩, k _ S1 H1 fp1 [] R1 E1 (itl_ok (fun S H e1 e2 _ => (ls_same e2 (ls_same e1 w1)).sq) w2) (by intro a h; cases h)⟩
      | tuple us =>
        cases h2
        refine .inr ⟨env, S, fp, _, e1, RR, h1, fun v S1 H1 fp1 fr R1 E1 w g n => ?_⟩
        obtain ⟨rfl, w0⟩ := ow_leafE w
        simp only [Fz] at w0
        obtain ⟨a, vs, rfl, w1, w2⟩ := w0
        exact ⟨a, rfl, ⟨vs, SqT.of (R1.le _ _ w1)⟩, k _ S1 H1 fp1 [] R1 E1 (itt_ok (fun S H e1 e2 _ => SqT.of (e2 _ _ (e1 _ _ w1))) w2) (by intro a h; cases h)⟩
      | _ => cases h2
    | ls us =>
      cases h2
      refine .inl ⟨env, S, fp, _, e1, RR, h1, fun v S1 H1 fp1 fr R1 E1 w g n => ?_⟩
      have F := fresh_of hl w n
      have ws := w.some
      obtain ⟨a, vs, rfl, w1, rfl, w2⟩ := ow_lsE w
      exact ⟨a, rfl, ⟨vs, SqL.of w1⟩, k _ S1 H1 fp1 [a] R1 E1 (itl_ok (fun S H e1 e2 e3 => SqL.of ((e3 a (List.mem_singleton.mpr rfl)).trans w1)) w2) fun b m => ⟨ws b m, F.off b m⟩⟩
    | dic _ => cases h2
    | dct _ => cases h2
    | obj _ _ => cases h2
    | tup _ => cases h2
    | lso _ => cases h2
  · cases h2
def rangeD (lo : Int) (n : Nat) : List D := (List.range n).map fun (i : Nat) => PyData.int (lo + (i : Int))
theorem itr_ok {K : PySem.W.Frag} {S0 H0 : Hp} {lo : Int} {n : Nat} : ItOk K (Itr lo n) [] S0 H0 (rangeD lo n) := by
  have hl : (rangeD lo n).length = n := by simp [rangeD]
  refine ⟨fun S H i e1 e2 e3 hi => by rw [hl] at hi; exact hi, fun S H i e1 e2 e3 hi => by rw [hl] at hi; exact hi, fun S H i t x H' e1 e2 e3 hi y => ?_⟩
  obtain ⟨rfl, rfl⟩ := y
  refine ⟨S, Gr.refl e2, ?_⟩
  unfold rangeD at hi
  rw [List.getElem?_map] at hi
  have hlt : i < n := by
    apply Classical.byContradiction
    intro z
    rw [List.getElem?_eq_none (by simpa using z)] at hi
    cases hi
  rw [List.getElem?_eq_getElem (by simpa using hlt)] at hi
  have e := Option.some.inj hi
  rw [← e]
  simp only [Fz, List.getElem_range]
def rng1 (f : ASem) : ISem := fun env => (f env).bind fun p => match p.1 with
  | [.leaf (.int j)] => if -(2 ^ 62) ≤ j ∧ j < 2 ^ 62 then some (rangeD 0 j.toNat, p.2) else none
  | _ => none
def rng2 (f : ASem) : ISem := fun env => (f env).bind fun p => match p.1 with
  | [.leaf (.int i), .leaf (.int j)] => if (-(2 ^ 62) ≤ i ∧ i < 2 ^ 62) ∧ -(2 ^ 62) ≤ j ∧ j < 2 ^ 62 then some (rangeD i (j - i).toNat, p.2) else none
  | _ => none
theorem leaves1 {K : PySem.W.Frag} {S H : Hp} {t : D} {vs : List V} {fr : List Addr} (w : OwA K S H [.leaf t] vs fr) : ∃ v, vs = [v] ∧ Fz K S t v ∧ fr = [] := by
  obtain ⟨h1, h2⟩ := OwA.leaves (ts := [t]) w
  obtain ⟨v, r, rfl, h3, h4⟩ := h1.inv
  rw [h4.nilE]
  exact ⟨v, rfl, h3, h2⟩
theorem si_range1 {a : Expr} {fa : ASem} {p : Pos} (hg : Gl X "range") (hm : X.mg "range" = none) (ha : SA X [a] fa q) (hs : starEach [a] X.env = [(false, eval a X.env)] := by rfl) : SI X tg (.Call (.Name "range" p) [a] [] pos) (rng1 fa) := by
  refine ⟨PI.imp (pi_range1 hg hm ha.pa hs) fun σ H R h => ?_⟩
  obtain ⟨env, S, fp, ts, env', RR, he, k⟩ := h
  unfold rng1 at he
  simp only [Option.bind_eq_some_iff] at he
  obtain ⟨⟨os, e1⟩, h1, h2⟩ := he
  simp only at h1 h2
  split at h2
  · rename_i j
    split at h2
    · rename_i hb
      have e2 := Option.some.inj h2
      obtain ⟨rfl, rfl⟩ := Prod.mk.inj e2
      refine ⟨env, S, fp, _, _, RR, h1, fun vs S1 H1 fp1 fr R1 E1 w g n => ?_⟩
      obtain ⟨v, rfl, hv, rfl⟩ := leaves1 w
      simp only [Fz] at hv
      subst hv
      exact ⟨j, rfl, hb.1, hb.2, k _ S1 H1 fp1 [] R1 E1 itr_ok (by intro a h; cases h)⟩
    · cases h2
  · cases h2
end

/-! ### for -/
def forL (set : GSem) (body : SSem) : List D → Env → Option (Out × Env)
  | [], env => some (.nx, env)
  | t :: ts, env => (set t env).bind fun e1 => (body e1).bind fun p => match p.1 with
    | .nx => forL set body ts p.2
    | .ct => forL set body ts p.2
    | .bk => some (.nx, p.2)
    | .rt o => some (.rt o, p.2)
def forS (src : ISem) (set : GSem) (body : SSem) : SSem := fun env => (src env).bind fun p => forL set body p.1 p.2
theorem itA_keep {S1 H1 S H : Hp} {fp1 fp : Nat → List Addr} {A : List Addr} (hA : ∀ a ∈ A, Liv H1 a ∧ ∀ i, a ∉ fp1 i) (E : Evo S1 H1 fp1 S H fp) : ∀ a ∈ A, H a = H1 a := fun a m => (E.keep a (hA a m).1 (hA a m).2).1
theorem for_core {K : PySem.W.Frag} {J : It} {A : List Addr} {S1 H1 : Hp} {fp1 : Nat → List Addr} {ts : List D} {set : GSem} {body : SSem} {aT aB : List Nat} {e1 env' : Env} {out : Out} {D : Ends} {σ : L2.St} (R1 : Rel K e1 σ S1 H1 fp1) (hJ : ItOk K J A S1 H1 ts) (hA : ∀ a ∈ A, Liv H1 a ∧ ∀ i, a ∉ fp1 i)
    (he : forL set body ts e1 = some (out, env')) (k : EndsOk K out env' (aT ++ aB) D σ S1 H1 fp1) :
    ∃ W : Nat → Nat → L2.St → Hp → Prop, (∃ m, W 0 m σ H1) ∧ ∀ i m σ H, W i m σ H →
      (J.stop i H ∧ D.nx σ H) ∨ (J.go i H ∧ ∃ N : L2.St → Hp → Prop, (∀ σ' H', N σ' H' → ∃ m', m' < m ∧ W (i + 1) m' σ' H') ∧ ∀ x H', J.yld i H x H' → tGt K set aT x σ H' fun σ2 H2 => tSS K body aB { D with nx := N, ct := N, bk := D.nx } σ2 H2) := by
  refine ⟨fun i m σ' H => m = ts.length - i ∧ i ≤ ts.length ∧ ∃ env S fp, Rel K env σ' S H fp ∧ Evo S1 H1 fp1 S H fp ∧ (∀ k, k ∉ aT ++ aB → σ'[k]? = σ[k]?) ∧ forL set body (ts.drop i) env = some (out, env'), ⟨ts.length, rfl, Nat.zero_le _, e1, S1, fp1, R1, Evo.refl _ _ _, fun _ _ => rfl, he⟩, ?_⟩
  rintro i m σ' H ⟨rfl, hi, env, S, fp, R, E, hk, hf⟩
  have hA' := itA_keep hA E
  by_cases hlt : i < ts.length
  · refine .inr ⟨hJ.go S H i E.sub R.le hA' hlt, fun σ2 H2 => ∃ env S fp, Rel K env σ2 S H2 fp ∧ Evo S1 H1 fp1 S H2 fp ∧ (∀ k, k ∉ aT ++ aB → σ2[k]? = σ[k]?) ∧ forL set body (ts.drop (i + 1)) env = some (out, env'), ?_, fun x H' y => ?_⟩
    · rintro σ2 H2 h
      exact ⟨ts.length - (i + 1), by omega, rfl, hlt, h⟩
    · rw [List.drop_eq_getElem_cons hlt] at hf
      simp only [forL, Option.bind_eq_some_iff] at hf
      obtain ⟨e2, h2, ⟨o, e3⟩, h3, h4⟩ := hf
      simp only at h3 h4
      obtain ⟨S2, G, w⟩ := hJ.yld S H i _ x H' E.sub R.le hA' (List.getElem?_eq_getElem hlt) y
      have Eg := E.trans (G.evo (fp := fp))
      refine ⟨env, S2, fp, _, e2, R.gr G, w, h2, fun σ3 S3 H3 fp3 R3 i3 k3 _ => ⟨e2, S3, fp3, o, e3, R3, h3, ?_⟩⟩
      have E3 : Evo S1 H1 fp1 S3 H3 fp3 := Eg.trans i3
      have k4 : ∀ {σ4 : L2.St}, (∀ k, k ∉ aB → σ4[k]? = σ3[k]?) → ∀ k, k ∉ aT ++ aB → σ4[k]? = σ[k]? := fun z k hn => by
        have hn' := hn
        rw [List.mem_append, not_or] at hn'
        exact ((z k hn'.2).trans (k3 k hn'.1)).trans (hk k hn)
      cases o with
      | nx => exact fun σ4 S4 H4 fp4 R4 E4 z => ⟨e3, S4, fp4, R4, E3.trans E4, k4 z, h4⟩
      | ct => exact fun σ4 S4 H4 fp4 R4 E4 z => ⟨e3, S4, fp4, R4, E3.trans E4, k4 z, h4⟩
      | bk =>
        cases h4
        exact fun σ4 S4 H4 fp4 R4 E4 z => k σ4 S4 H4 fp4 R4 (E3.trans E4) (k4 z)
      | rt o =>
        cases h4
        exact fun v σ4 S4 H4 fp4 fr R4 E4 z w F => k v σ4 S4 H4 fp4 fr R4 (E3.trans E4) (k4 z) w (Fresh.pre E3 F)
  · have e : i = ts.length := by omega
    subst e
    rw [List.drop_length] at hf
    cases hf
    exact .inl ⟨hJ.stop S H _ E.sub R.le hA' (Nat.le_refl _), k σ' S H fp R E hk⟩
theorem ss_for {X : Cx} {tg iter : Expr} {body : List Stmt} {pos : Pos} {src : ISem} {set : GSem} {g : SSem} {aT aB : List Nat} (hp : PassesOwn (model X.prog X.w) X.A X.env X.xe) (hc : X.calm = true) (hi : SI X tg iter src) (hg : SG X tg set aT) (hb : SSs X body g aB)
    (hs : ∀ x, foldedSetIterable iter X.env x = pure x := by intro _; rfl) : SS X (.For tg iter body [] pos) (forS src set g) (aT ++ aB) := by
  refine ⟨PS.imp (ps_for hp hc hi.pi hg.pg hb.ps hs) fun D σ H h => ?_⟩
  obtain ⟨env, S, fp, out, env', R, he, k⟩ := h
  unfold forS at he
  simp only [Option.bind_eq_some_iff] at he
  obtain ⟨⟨ts, e1⟩, h1, h2⟩ := he
  exact ⟨env, S, fp, ts, e1, R, h1, fun J S1 H1 fp1 A R1 E1 hJ hA => for_core R1 hJ hA h2 (EndsOk.later (asg := []) k E1 fun _ _ => rfl)⟩

/-! ### while -/
def whileL (c : TSem) (body : SSem) : Nat → Env → Option (Out × Env)
  | 0, _ => none
  | n + 1, env => (c env).bind fun p => if p.1 = true then (body p.2).bind fun r => match r.1 with
      | .nx => whileL c body n r.2
      | .ct => whileL c body n r.2
      | .bk => some (.nx, r.2)
      | .rt o => some (.rt o, r.2)
    else some (.nx, p.2)
def whileS (n : Nat) (c : TSem) (body : SSem) : SSem := fun env => whileL c body n env
theorem ss_while {X : Cx} {c : Expr} {body : List Stmt} {pos : Pos} {fc : TSem} {g : SSem} {qc : Bool} {aB : List Nat} (n : Nat) (hp : PassesOwn (model X.prog X.w) X.A X.env X.xe) (hc : ST X c fc qc) (hb : SSs X body g aB) : SS X (.While c body [] pos) (whileS n fc g) aB := by
  refine ⟨PS.imp (ps_while hp hc.pt hb.ps) fun D σ H h => ?_⟩
  obtain ⟨env0, S0, fp0, out, env', R0, he0, k⟩ := h
  refine ⟨fun m σ' H' => ∃ env S fp, Rel X.K env σ' S H' fp ∧ Evo S0 H fp0 S H' fp ∧ (∀ k, k ∉ aB → σ'[k]? = σ[k]?) ∧ whileL fc g m env = some (out, env'), ⟨n, env0, S0, fp0, R0, Evo.refl _ _ _, fun _ _ => rfl, he0⟩, ?_⟩
  rintro m σ' H' ⟨env, S, fp, R, E, hk, hf⟩
  cases m with
  | zero => cases hf
  | succ m =>
    simp only [whileL, Option.bind_eq_some_iff] at hf
    obtain ⟨⟨b, e1⟩, h1, h2⟩ := hf
    simp only at h1 h2
    refine ⟨env, S, fp, b, e1, R, h1, fun S1 H1 fp1 R1 E1 g1 => ?_⟩
    cases b with
    | true =>
      rw [if_pos rfl] at h2
      rw [if_pos rfl]
      simp only [Option.bind_eq_some_iff] at h2
      obtain ⟨⟨o, e2⟩, h3, h4⟩ := h2
      simp only at h3 h4
      refine ⟨fun σ2 H2 => ∃ env S fp, Rel X.K env σ2 S H2 fp ∧ Evo S0 H fp0 S H2 fp ∧ (∀ k, k ∉ aB → σ2[k]? = σ[k]?) ∧ whileL fc g m env = some (out, env'), fun σ2 H2 h => ⟨m, by omega, h⟩, e1, S1, fp1, o, e2, R1, h3, ?_⟩
      have EE := E.trans E1
      have k4 : ∀ {σ4 : L2.St}, (∀ k, k ∉ aB → σ4[k]? = σ'[k]?) → ∀ k, k ∉ aB → σ4[k]? = σ[k]? := fun z k hn => (z k hn).trans (hk k hn)
      cases o with
      | nx => exact fun σ4 S4 H4 fp4 R4 E4 z => ⟨e2, S4, fp4, R4, EE.trans E4, k4 z, h4⟩
      | ct => exact fun σ4 S4 H4 fp4 R4 E4 z => ⟨e2, S4, fp4, R4, EE.trans E4, k4 z, h4⟩
      | bk =>
        cases h4
        exact fun σ4 S4 H4 fp4 R4 E4 z => k σ4 S4 H4 fp4 R4 (EE.trans E4) (k4 z)
      | rt o =>
        cases h4
        exact fun v σ4 S4 H4 fp4 fr R4 E4 z w F => k v σ4 S4 H4 fp4 fr R4 (EE.trans E4) (k4 z) w (Fresh.pre EE F)
    | false =>
      rw [if_neg Bool.false_ne_true] at h2
      rw [if_neg Bool.false_ne_true]
      cases h2
      exact k σ' S1 H1 fp1 R1 (E.trans E1) hk
end Mv

set_option Elab.async false
set_option linter.all false
set_option maxRecDepth 100000
set_option maxHeartbeats 2000000
namespace Mv
open PySem PySem.Spec PyProof.Rows L2

/-! ### list comprehensions -/
def wipeE (env : Env) : List Nat → Env
  | [] => env
  | v :: vs => (wipeE env vs).set v none
theorem wipeE_len (env : Env) : ∀ vs : List Nat, (wipeE env vs).length = env.length
  | [] => rfl
  | v :: vs => by unfold wipeE; rw [List.length_set, wipeE_len env vs]
theorem wipeE_some {env : Env} {i : Nat} {x : O} : ∀ {vs : List Nat}, (wipeE env vs)[i]? = some (some x) → env[i]? = some (some x) ∧ i ∉ vs
  | [], h => ⟨h, by simp⟩
  | v :: vs, h => by
    unfold wipeE at h
    by_cases hi : v = i
    · subst hi
      by_cases hv : v < (wipeE env vs).length
      · rw [List.getElem?_set_self hv] at h; cases h
      · rw [List.getElem?_eq_none (by simpa using hv)] at h; cases h
    · rw [List.getElem?_set_ne hi] at h
      obtain ⟨h1, h2⟩ := wipeE_some h
      exact ⟨h1, by simp only [List.mem_cons, not_or]; exact ⟨fun e => hi e.symm, h2⟩⟩
theorem wipe_at {σ : L2.St} {i : Nat} : ∀ {vs : List Nat}, i ∉ vs → (wipe σ vs)[i]? = σ[i]?
  | [], _ => rfl
  | v :: vs, h => by
    rw [List.mem_cons, not_or] at h
    unfold wipe
    rw [List.getElem?_set_ne (fun e => h.1 e.symm)]
    exact wipe_at h.2
theorem wipe_in {σ : L2.St} {i : Nat} : ∀ {vs : List Nat}, i ∈ vs → i < σ.length → (wipe σ vs)[i]? = some none
  | [], h, _ => by cases h
  | v :: vs, h, hl => by
    unfold wipe
    by_cases hv : v = i
    · subst hv
      rw [List.getElem?_set_self (by rw [wipe_length]; exact hl)]
    · rw [List.getElem?_set_ne hv]
      rcases List.mem_cons.mp h with e | h
      · exact absurd e.symm hv
      · exact wipe_in h hl
theorem wipe_eq {σ σ2 : L2.St} {vs : List Nat} (hl : σ2.length = σ.length) (h : ∀ k, k ∉ vs → σ2[k]? = (wipe σ vs)[k]?) : wipe σ2 vs = wipe σ vs := by
  apply List.ext_getElem?
  intro i
  by_cases hi : i ∈ vs
  · by_cases hlt : i < σ.length
    · rw [wipe_in hi hlt, wipe_in hi (by rw [hl]; exact hlt)]
    · rw [List.getElem?_eq_none (by rw [wipe_length, hl]; omega), List.getElem?_eq_none (by rw [wipe_length]; omega)]
  · rw [wipe_at hi, h i hi]
theorem Rel.wipe {K : PySem.W.Frag} {env : Env} {σ : L2.St} {S H : Hp} {fp : Nat → List Addr} (R : Rel K env σ S H fp) (vs : List Nat) : Rel K (wipeE env vs) (L2.wipe σ vs) S H fp :=
  ⟨R.le, by rw [wipeE_len, wipe_length]; exact R.len, fun i o e => by
    obtain ⟨e1, e2⟩ := wipeE_some e
    obtain ⟨v, e3, w⟩ := R.sl i o e1
    exact ⟨v, by rw [wipe_at e2]; exact e3, w⟩, R.nd, R.dj, R.un, R.ins, R.tb⟩
theorem Rel.unwipe {K : PySem.W.Frag} {env : Env} {σ : L2.St} {S H : Hp} {fp : Nat → List Addr} {vs : List Nat} (R : Rel K env (L2.wipe σ vs) S H fp) : Rel K env σ S H fp :=
  ⟨R.le, by rw [R.len, wipe_length], fun i o e => by
    obtain ⟨v, e3, w⟩ := R.sl i o e
    exact ⟨v, (wipe_some e3).1, w⟩, R.nd, R.dj, R.un, R.ins, R.tb⟩

def yesT : TSem := fun env => some (true, env)
/-- a comprehension's tests -/
structure SFs (X : Cx) (ifs : List Expr) (f : TSem) (q : Bool) : Prop where
  pts : PTs X ifs (tT X.K f q)
theorem sfs_nil {X : Cx} : SFs X [] yesT true := ⟨⟨fun pins s σ H Q I hw => by
  refine pts_nil.run pins s σ H Q I ?_
  obtain ⟨env, S, fp, b, env', R, he, k⟩ := hw
  cases he
  exact k S H fp R (Evo.refl _ _ _) fun _ => ⟨rfl, KS.refl _⟩⟩⟩
def compL (set : GSem) (cnd : TSem) (elt : ESem) (vs : List Nat) : List D → Env → Option (List D × Env)
  | [], env => some ([], env)
  | t :: ts, env => (set t env).bind fun e1 => (cnd e1).bind fun p => if p.1 = true then (elt p.2).bind fun r => match r.1 with
      | .leaf d => (compL set cnd elt vs ts (wipeE r.2 vs)).map fun z => (d :: z.1, z.2)
      | _ => none
    else compL set cnd elt vs ts (wipeE p.2 vs)
def compE (src : ISem) (set : GSem) (cnd : TSem) (elt : ESem) (vs : List Nat) : ESem := fun env => (src env).bind fun p =>
  if p.1.length ≤ 16000000 then (compL set cnd elt vs p.1 (wipeE p.2 vs)).map fun z => (.ls z.1, z.2) else none
theorem Rel.updN {K : PySem.W.Frag} {env : Env} {σ : L2.St} {S H : Hp} {fp : Nat → List Addr} {d : Addr} {o : HO} (R : Rel K env σ S H fp) (hS : S d = none) (hd : ∀ i, d ∉ fp i) (hl : H d = none ∨ Liv H d) : Rel K env σ S (upd H d o) fp :=
  ⟨fun a u e => by
    rw [upd_ne (ne_of_none e hS)]
    exact R.le a u e, R.len, fun i o' e => by
    obtain ⟨v, e1, w⟩ := R.sl i o' e
    exact ⟨v, e1, w.keep (Same.refl _) fun a m => upd_ne fun z => hd i (by rw [← z]; exact m)⟩, R.nd, R.dj, R.un, fun i a m => (R.ins i a m).eq (upd_ne fun z => hd i (by rw [← z]; exact m)), R.tb.upd hl⟩
theorem Evo.updN {S H S' H' : Hp} {fp fp' : Nat → List Addr} {d : Addr} {o : HO} (E : Evo S H fp S' H' fp') (hd : H d = none) : Evo S H fp S' (upd H' d o) fp' :=
  ⟨E.sub, fun a ha hn => ⟨(upd_ne (fun z => ha.ne (by rw [z]; exact hd))).trans (E.keep a ha hn).1, (E.keep a ha hn).2⟩, E.own, fun a h => by
    by_cases z : a = d
    · rw [z] at h
      exact absurd hd h
    · rw [upd_ne z]; exact E.live a h⟩
theorem comp_core {K : PySem.W.Frag} {src : ISem} {set : GSem} {cnd : TSem} {elt : ESem} {vs aT : List Nat} {q q1 m1 : Bool} (hv : ∀ k, k ∈ aT → k ∈ vs) {σ : L2.St} {H : Hp} {Q : VK} (h : tE K (compE src set cnd elt vs) false true σ H Q) : tLc (tIt K src) (tGt K set aT) (tT K cnd q) (tE K elt q1 m1) vs σ H Q := by
  obtain ⟨env, S, fp, z, env', R, he, k⟩ := h
  unfold compE at he
  simp only [Option.bind_eq_some_iff] at he
  obtain ⟨⟨ts, e1⟩, h1, h2⟩ := he
  simp only at h1 h2
  split at h2
  · rename_i hlen
    simp only [Option.map_eq_some_iff, Prod.mk.injEq] at h2
    obtain ⟨⟨ds, e2⟩, h2, rfl, rfl⟩ := h2
    simp only at k
    refine ⟨env, S, fp, ts, e1, R, h1, fun J S1 H1 fp1 A R1 E1 hJ hA => fun d hd => ?_⟩
    have hSd : S1 d = none := R1.le.free hd
    have hdn : ∀ i, d ∉ fp1 i := fun i m => (R1.ins i d m).ne hd
    -- the start, the new list within
    have RW := (R1.wipe vs).updN (o := .lst []) hSd hdn (.inl hd)
    have EW : Evo S1 H1 fp1 S1 (upd H1 d (.lst [])) fp1 := (Evo.refl S1 H1 fp1).updN hd
    refine ⟨fun i m H' => m = ts.length - i ∧ i ≤ ts.length ∧ ∃ en S' fp' acc vsA rest, Rel K en (L2.wipe σ vs) S' H' fp' ∧ Evo S1 H1 fp1 S' H' fp' ∧ H' d = some (.lst vsA) ∧ (∀ j, d ∉ fp' j) ∧ S' d = none ∧ FzL K S' acc vsA ∧ acc.length ≤ i ∧ compL set cnd elt vs (ts.drop i) en = some (rest, e2) ∧ ds = acc ++ rest,
      ⟨ts.length, rfl, Nat.zero_le _, _, S1, fp1, [], [], ds, RW, EW, upd_same, hdn, hSd, FzL.nil, Nat.le_refl _, h2, rfl⟩, ?_⟩
    rintro i m H' ⟨rfl, hi, en, S', fp', acc, vsA, rest, R', E', hD, hdn', hSd', wA, hAl, hc, hds⟩
    have hA' := itA_keep hA E'
    by_cases hlt : i < ts.length
    · refine .inr ⟨hJ.go S' H' i E'.sub R'.le hA' hlt, fun H2 => ∃ en S' fp' acc vsA rest, Rel K en (L2.wipe σ vs) S' H2 fp' ∧ Evo S1 H1 fp1 S' H2 fp' ∧ H2 d = some (.lst vsA) ∧ (∀ j, d ∉ fp' j) ∧ S' d = none ∧ FzL K S' acc vsA ∧ acc.length ≤ i + 1 ∧ compL set cnd elt vs (ts.drop (i + 1)) en = some (rest, e2) ∧ ds = acc ++ rest, ?_, fun x H2 y => ?_⟩
      · rintro H2 h
        exact ⟨ts.length - (i + 1), by omega, rfl, hlt, h⟩
      · rw [List.drop_eq_getElem_cons hlt] at hc
        simp only [compL, Option.bind_eq_some_iff] at hc
        obtain ⟨e3, h3, ⟨b, e4⟩, h4, h5⟩ := hc
        simp only at h3 h4 h5
        obtain ⟨S2, G, w⟩ := hJ.yld S' H' i _ x H2 E'.sub R'.le hA' (List.getElem?_eq_getElem hlt) y
        have Eg := E'.trans (G.evo (fp := fp'))
        have hd0 : H' d ≠ none := by rw [hD]; exact fun z => nomatch z
        have hD2 : H2 d = some (.lst vsA) := by rw [same_ne G.grow hd0]; exact hD
        have hS2 : S2 d = none := (G.un d _ hD rfl).trans hSd'
        refine ⟨en, S2, fp', _, e3, R'.gr G, w, h3, fun σ3 S3 H3 fp3 R3 i3 k3 l3 => ⟨wipe_eq (l3.trans (wipe_length σ vs)) fun j hj => k3 j fun z => hj (hv j z), ?_⟩⟩
        have hw3 : L2.wipe σ3 vs = L2.wipe σ vs := wipe_eq (l3.trans (wipe_length σ vs)) fun j hj => k3 j fun z => hj (hv j z)
        have E3 : Evo S1 H1 fp1 S3 H3 fp3 := Eg.trans i3
        have hdz : Liv H2 d := lv_of hD2
        have hD3 : H3 d = some (.lst vsA) := by rw [(i3.keep d hdz hdn').1]; exact hD2
        have hS3 : S3 d = none := by rw [(i3.keep d hdz hdn').2]; exact hS2
        have hd3 : ∀ j, d ∉ fp3 j := fun j m => by
          rcases i3.own j d m with z | ⟨jj, z⟩
          · exact hdz.ne z
          · exact hdn' jj z
        have wA2 : FzL K S3 acc vsA := wA.same (G.sub.trans i3.sub)
        refine ⟨e3, S3, fp3, b, e4, R3, h4, fun S4 H4 fp4 R4 E4 g4 => ?_⟩
        have hD4 : H4 d = some (.lst vsA) := by rw [(E4.keep d (lv_of hD3) hd3).1]; exact hD3
        have hS4 : S4 d = none := by rw [(E4.keep d (lv_of hD3) hd3).2]; exact hS3
        have hd4 : ∀ j, d ∉ fp4 j := fun j m => by
          rcases E4.own j d m with z | ⟨jj, z⟩
          · rw [hD3] at z; cases z
          · exact hd3 jj z
        cases b with
        | true =>
          rw [if_pos rfl] at h5
          dsimp only
          rw [if_pos rfl]
          simp only [Option.bind_eq_some_iff] at h5
          obtain ⟨⟨o, e5⟩, h6, h7⟩ := h5
          simp only at h6 h7
          split at h7
          · rename_i dd
            simp only [Option.map_eq_some_iff, Prod.mk.injEq] at h7
            obtain ⟨⟨rest', e6⟩, h8, rfl, rfl⟩ := h7
            refine ⟨e4, S4, fp4, _, e5, R4, h6, fun yv S5 H5 fp5 fr R5 E5 w5 g5 n5 => ?_⟩
            have hD5 : H5 d = some (.lst vsA) := by rw [(E5.keep d (lv_of hD4) hd4).1]; exact hD4
            have hS5 : S5 d = none := by rw [(E5.keep d (lv_of hD4) hd4).2]; exact hS4
            have hd5 : ∀ j, d ∉ fp5 j := fun j m => by
              rcases E5.own j d m with z | ⟨jj, z⟩
              · rw [hD4] at z; cases z
              · exact hd4 jj z
            have wA5 : FzL K S5 acc vsA := wA2.same (E4.sub.trans E5.sub)
            refine ⟨vsA, hD5, ?_, wipeE e5 vs, S5, fp5, acc ++ [dd], vsA ++ [yv], rest', ?_, ?_, upd_same, hd5, hS5, wA5.append (FzL.cons (ow_leafE w5).2 FzL.nil), by rw [List.length_append]; simp only [List.length_singleton]; omega, h8, by rw [hds, List.append_assoc]; rfl⟩
            · rw [wA5.len]
              exact Nat.lt_of_lt_of_le (by omega : acc.length < 16777216) (by decide)
            · rw [← hw3]
              exact (R5.wipe vs).updN hS5 hd5 (.inr (lv_of hD5))
            · exact (E3.trans (E4.trans E5)).updN hd
          · cases h7
        | false =>
          rw [if_neg Bool.false_ne_true] at h5
          dsimp only
          rw [if_neg Bool.false_ne_true]
          refine ⟨wipeE e4 vs, S4, fp4, acc, vsA, rest, ?_, E3.trans E4, hD4, hd4, hS4, wA2.same E4.sub, by omega, h5, hds⟩
          rw [← hw3]
          exact R4.wipe vs
    · have e : i = ts.length := by omega
      subst e
      rw [List.drop_length] at hc
      cases hc
      rw [List.append_nil] at hds
      subst hds
      exact .inl ⟨hJ.stop S' H' _ E'.sub R'.le hA' (Nat.le_refl _), k _ S' H' fp' [d] R'.unwipe (E1.trans E') (ow_ls hD wA) (fun z => nomatch z) fun _ => Fresh.pre E1 ⟨by simp, fun a m => .inl (by rw [List.mem_singleton.mp m]; exact hd), fun a m j => by rw [List.mem_singleton.mp m]; exact hdn' j, fun a m => by rw [List.mem_singleton.mp m]; exact hSd'⟩⟩
  · cases h2
section
variable {X : Cx} {tg iter elt : Expr} {ifs : List Expr} {src : ISem} {set : GSem} {cnd : TSem} {fe : ESem} {aT : List Nat} {q q1 m1 : Bool} {pos : Pos}
theorem se_lc {scope : Scope} {own : List (Str × Nat)} (hc : X.calm = true) (hN : X.N.Nodup) (hi : SI X tg iter src) (ok : BlkOk X.N X.env.scope scope own)
    (hg : ∀ (s : Shared) (H : Hp) (C : Addr) (cl : List (Str × Addr)) (fp : List Addr), SG (X.blk s H scope (compEnvC scope cl C X.env) fp) tg set aT)
    (ht : ∀ (s : Shared) (H : Hp) (C : Addr) (cl : List (Str × Addr)) (fp : List Addr), SFs (X.blk s H scope (compEnvC scope cl C X.env) fp) ifs cnd q)
    (he : ∀ (s : Shared) (H : Hp) (C : Addr) (cl : List (Str × Addr)) (fp : List Addr), SE (X.blk s H scope (compEnvC scope cl C X.env) fp) elt fe q1 m1)
    (hv : ∀ k, k ∈ aT → k ∈ own.map (·.2)) (hs : ∀ x, foldedSetIterable iter X.env x = pure x := by intro _; rfl) :
    SE X (.ListComp elt [⟨tg, iter, ifs, 0⟩] scope pos) (compE src set cnd fe (own.map (·.2))) false true :=
  ⟨PE.imp (pe_lc (te := tE X.K fe q1 m1) (tt := tT X.K cnd q) (g := tGt X.K set aT) hc hN hi.pi ok (fun s H C cl fp => (hg s H C cl fp).pg) (fun s H C cl fp => (ht s H C cl fp).pts) (fun s H C cl fp => (he s H C cl fp).pe) hs) fun _ _ _ h => comp_core hv h, fun z => nomatch z⟩
theorem ss_setLc {i : Nat} {y : Str} {py : Pos} {scope : Scope} {own : List (Str × Nat)} {spos : Pos} (hc : X.calm = true) (hN : X.N.Nodup) (hy : X.N[i]? = some y) (hyl : X.env.scope.names.lookup y = some .local)
    (hsw : swapsWith (.ListComp elt [⟨tg, iter, ifs, 0⟩] scope pos) (some (.Name y py)) spos.line X.env = pure true) (hi : SI X tg iter src) (ok : BlkOk X.N X.env.scope scope own)
    (hg : ∀ (s : Shared) (H : Hp) (C : Addr) (cl : List (Str × Addr)) (fp : List Addr), SG (X.blk s H scope (compEnvC scope cl C X.env) fp) tg set aT)
    (ht : ∀ (s : Shared) (H : Hp) (C : Addr) (cl : List (Str × Addr)) (fp : List Addr), SFs (X.blk s H scope (compEnvC scope cl C X.env) fp) ifs cnd q)
    (he : ∀ (s : Shared) (H : Hp) (C : Addr) (cl : List (Str × Addr)) (fp : List Addr), SE (X.blk s H scope (compEnvC scope cl C X.env) fp) elt fe q1 m1)
    (hv : ∀ k, k ∈ aT → k ∈ own.map (·.2)) (hs : ∀ x, foldedSetIterable iter X.env x = pure x := by intro _; rfl) :
    SS X (.Assign [.Name y py] (.ListComp elt [⟨tg, iter, ifs, 0⟩] scope pos) spos) (setS i true (compE src set cnd fe (own.map (·.2)))) [i] := by
  refine ⟨PS.imp (ps_setLc (te := tE X.K fe q1 m1) (tt := tT X.K cnd q) (g := tGt X.K set aT) hc hN hy hyl hsw hi.pi ok (fun s H C cl fp => (hg s H C cl fp).pg) (fun s H C cl fp => (ht s H C cl fp).pts) (fun s H C cl fp => (he s H C cl fp).pe) hs) fun D σ H h => ?_⟩
  obtain ⟨env, S, fp, out, env', R, he', k⟩ := set_core (q := false) h
  exact comp_core hv ⟨env, S, fp, out, env', R, he', k⟩
end

/-! ### a def -/
def finP (rb : List Nat) (os : List O) (env : Env) (n : Nat) : List (Option O) := (List.range n).map fun k => if rb.contains k then os[k]? else (env[k]?).join
def runDef (n size : Nat) (rb : List Nat) (body : SSem) : Def := fun os =>
  if os.length = n ∧ (rb.all fun k => match os[k]? with | some o => o.isLeaf | none => true) = true then
    (body (os.map some ++ List.replicate (size - n) none)).bind fun p => match p.1 with
      | .rt o => some (o, finP rb os p.2 n)
      | .nx => some (.leaf .none, finP rb os p.2 n)
      | _ => none
  else none
theorem fin_rel {K : PySem.W.Frag} {os : List O} {vs : List V} {S H S' H' : Hp} {fp fp' : Nat → List Addr} {env' : Env} {σ' : L2.St} {rb : List Nat} {n : Nat} (R : Rel K (os.map some) (vs.map some) S H fp) (hn : os.length = n) (hrb : ∀ k ∈ rb, ∀ o, os[k]? = some o → o.isLeaf = true)
    (R' : Rel K env' σ' S' H' fp') (E : Evo S H fp S' H' fp') (hk : ∀ k, k < n → k ∉ rb → σ'[k]? = (vs.map some)[k]?) :
    Rel K (finP rb os env' n) (vs.map some) S' H' (fun k => if k < n ∧ k ∉ rb then fp' k else []) ∧ Evo S H fp S' H' (fun k => if k < n ∧ k ∉ rb then fp' k else []) := by
  refine ⟨⟨R'.le, ?_, fun i o e => ?_, fun i => ?_, fun i j a m1 m2 => ?_, fun i a m => ?_, fun i a m => ?_, R'.tb⟩, ⟨E.sub, E.keep, fun i a m => ?_, E.live⟩⟩
  · have := R.len
    unfold finP
    rw [List.length_map, List.length_range, ← hn, ← this, List.length_map]
  · unfold finP at e
    rw [List.getElem?_map] at e
    have hlt : i < n := by
      apply Classical.byContradiction
      intro z
      rw [List.getElem?_eq_none (by simpa using z)] at e
      cases e
    rw [List.getElem?_eq_getElem (by simpa using hlt)] at e
    simp only [List.getElem_range, Option.map_some, Option.some.injEq] at e
    by_cases hr : i ∈ rb
    · rw [if_pos (by simpa using hr)] at e
      have e' : (os.map some)[i]? = some (some o) := by rw [List.getElem?_map, e] <;> rfl
      obtain ⟨v, hv, w⟩ := R.sl i o e'
      refine ⟨v, hv, ?_⟩
      rw [if_neg (fun z => z.2 hr)]
      have hl := hrb i hr o e
      rw [isLeaf_fr hl w] at w
      exact w.keep E.sub (by intro a h; cases h)
    · rw [if_neg (by simpa using hr)] at e
      obtain ⟨v, hv, w⟩ := R'.sl i o (join_some e)
      refine ⟨v, by rw [← hk i hlt hr]; exact hv, ?_⟩
      rw [if_pos ⟨hlt, hr⟩]
      exact w
  · by_cases hi : i < n ∧ i ∉ rb
    · rw [if_pos hi]; exact R'.nd i
    · rw [if_neg hi]; exact List.nodup_nil
  · by_cases hi : i < n ∧ i ∉ rb
    · rw [if_pos hi] at m1
      by_cases hj : j < n ∧ j ∉ rb
      · rw [if_pos hj] at m2; exact R'.dj i j a m1 m2
      · rw [if_neg hj] at m2; cases m2
    · rw [if_neg hi] at m1; cases m1
  · by_cases hi : i < n ∧ i ∉ rb
    · rw [if_pos hi] at m; exact R'.un i a m
    · rw [if_neg hi] at m; cases m
  · by_cases hi : i < n ∧ i ∉ rb
    · rw [if_pos hi] at m; exact R'.ins i a m
    · rw [if_neg hi] at m; cases m
  · by_cases hi : i < n ∧ i ∉ rb
    · rw [if_pos hi] at m; exact E.own i a m
    · rw [if_neg hi] at m; cases m
theorem Rel.start {K : PySem.W.Frag} {os : List O} {vs : List V} {S H : Hp} {fp : Nat → List Addr} {N : List Str} (R : Rel K (os.map some) (vs.map some) S H fp) : Rel K (os.map some ++ List.replicate (N.length - os.length) none) (L2.start N vs) S H fp := by
  have hl : os.length = vs.length := by simpa using R.len
  refine ⟨R.le, by unfold L2.start; simp [hl], fun i o e => ?_, R.nd, R.dj, R.un, R.ins, R.tb⟩
  by_cases hi : i < (os.map some).length
  · rw [List.getElem?_append_left hi] at e
    obtain ⟨v, hv, w⟩ := R.sl i o e
    refine ⟨v, ?_, w⟩
    unfold L2.start
    rw [List.getElem?_append_left (by simpa [hl] using hi)]
    exact hv
  · rw [List.getElem?_append_right (by omega)] at e
    obtain ⟨h1, h2⟩ := List.getElem?_eq_some_iff.mp e
    rw [List.getElem_replicate] at h2
    cases h2
theorem def_ok {P : Program} {w : World} {K : PySem.W.Frag} {mg : Str → Option Value} {base : Heap} {x qual : Str} {st : Stmt} {f : Addr} {fd : FuncData} {N ps : List Str} {k n size : Nat} {rb asg : List Nat} {body : SSem} (F : Fun K x qual st f fd) (Sc : FnScope N ps (defScope st)) (hn : ps.length = n) (hN : N.length = size) (hrb : ∀ i ∈ asg, i < n → i ∈ rb)
    (hb : ∀ (cdv : Value) (A : Around) (outer : List PySem.Env) (s : Shared) (H : Hp) (E : XK), CdOf K f cdv → Room k (A.deeper (envOfC qual (defScope st) s.heap.objs.size f cdv)) → SSs (cxOf CX0 P w K mg base N qual (defScope st) f cdv A outer s H E).nox (defBody st) body asg) :
    FnOk P w K mg base CX0 (k + 1) f fd ps (spOf K (runDef n size rb body)) := by
  refine fn_g F Sc (fun vs H Q E h => ?_) (fun cdv A outer s H vs Q E hcd hr h => ?_)
  · obtain ⟨os, S, fp, r, os', R, _, he, _⟩ := h
    unfold runDef at he
    split at he
    · rename_i hc
      have := R.len
      rw [List.length_map, List.length_map] at this
      rw [hn, ← hc.1, this]
    · cases he
  · obtain ⟨os, S, fp, r, os', R, hz, he, q⟩ := h
    unfold runDef at he
    split at he
    · rename_i hc
      obtain ⟨hc1, hc2⟩ := hc
      simp only [Option.bind_eq_some_iff] at he
      obtain ⟨⟨out, env'⟩, h1, h2⟩ := he
      have hleaf : ∀ k ∈ rb, ∀ o, os[k]? = some o → o.isLeaf = true := fun k hk o e => by
        have := List.all_eq_true.mp hc2 k hk
        rw [e] at this
        exact this
      have hvl : vs.length = n := by
        have := R.len
        rw [List.length_map, List.length_map] at this
        rw [← this, hc1]
      have hst : ∀ {σ' : L2.St}, (∀ k, k ∉ asg → σ'[k]? = (L2.start N vs)[k]?) → ∀ k, k < n → k ∉ rb → σ'[k]? = (vs.map some)[k]? := fun h k hk hr => by
        rw [h k fun z => hr (hrb k z hk)]
        unfold L2.start
        rw [List.getElem?_append_left (by simpa [hvl] using hk)]
      refine ⟨_, (hb cdv A outer s H E hcd hr).ps, os.map some ++ List.replicate (size - n) none, S, fp, out, env', ?_, h1, ?_⟩
      · rw [← hN, ← hc1]
        exact R.start
      · have offP : ∀ {fp' : Nat → List Addr} {fr : List Addr}, (∀ a ∈ fr, ∀ i, a ∉ fp' i) → ∀ a ∈ fr, ∀ i, a ∉ (if i < n ∧ i ∉ rb then fp' i else []) := fun h a m i z => by
          by_cases hi : i < n ∧ i ∉ rb
          · rw [if_pos hi] at z; exact h a m i z
          · rw [if_neg hi] at z; cases z
        cases out with
        | rt o =>
          cases h2
          intro v σ' S' H' fp' fr R' E' hk w F'
          obtain ⟨R2, E2⟩ := fin_rel R hc1 hleaf R' E' (hst hk)
          exact q v S' H' _ fr R2 E2 w ⟨F'.nd, F'.src, offP F'.off, F'.un⟩
        | nx =>
          cases h2
          intro σ' S' H' fp' R' E' hk
          obtain ⟨R2, E2⟩ := fin_rel R hc1 hleaf R' E' (hst hk)
          exact q .non S' H' _ [] R2 E2 (ow_leaf (by simp only [Fz])) Fresh.nil
        | bk => cases h2
        | ct => cases h2
    · cases he
end Mv

set_option Elab.async false
set_option linter.all false
set_option maxRecDepth 100000
set_option maxHeartbeats 2000000
namespace Mv
open PySem PySem.Spec PyProof.Rows L2

/-! ### frozen data, read off the machine's heap -/
/-- no dict within, at most so deep -/
def okd : Nat → D → Bool
  | _, .none => true
  | _, .bool _ => true
  | _, .int _ => true
  | _, .str _ => true
  | n + 1, .list ts => ts.all (okd n)
  | n + 1, .tuple ts => ts.all (okd n)
  | _, _ => false
theorem okd_all : ∀ {n : Nat} {ts : List D}, (∀ t ∈ ts, t.plain = true ∧ t.depth ≤ n) → PyData.plainAll ts = true ∧ PyData.depthAll ts ≤ n
  | n, [], _ => ⟨by simp [PyData.plainAll], by simp [PyData.depthAll]⟩
  | n, t :: ts, h => by
    have h1 := h t List.mem_cons_self
    have h2 := okd_all (n := n) fun u m => h u (List.mem_cons_of_mem _ m)
    refine ⟨by rw [PyData.plainAll, h1.1, h2.1]; rfl, ?_⟩
    rw [PyData.depthAll]
    exact Nat.max_le.mpr ⟨h1.2, h2.2⟩
theorem okd_spec : ∀ {n : Nat} {t : D}, okd n t = true → t.plain = true ∧ t.depth ≤ n
  | n, .none, _ => ⟨by simp [PyData.plain], by simp [PyData.depth]⟩
  | n, .bool _, _ => ⟨by simp [PyData.plain], by simp [PyData.depth]⟩
  | n, .int _, _ => ⟨by simp [PyData.plain], by simp [PyData.depth]⟩
  | n, .str _, _ => ⟨by simp [PyData.plain], by simp [PyData.depth]⟩
  | 0, .list ts, h => by simp [okd] at h
  | 0, .tuple ts, h => by simp [okd] at h
  | n + 1, .list ts, h => by
    rw [okd, List.all_eq_true] at h
    have h2 := okd_all (n := n) fun u m => okd_spec (h u m)
    rw [PyData.plain, PyData.depth]
    exact ⟨h2.1, Nat.succ_le_succ h2.2⟩
  | n + 1, .tuple ts, h => by
    rw [okd, List.all_eq_true] at h
    have h2 := okd_all (n := n) fun u m => okd_spec (h u m)
    rw [PyData.plain, PyData.depth]
    exact ⟨h2.1, Nat.succ_le_succ h2.2⟩
  | 0, .dict _, h => by simp [okd] at h
  | n + 1, .dict _, h => by simp [okd] at h
section
variable {X : Cx} {pins : List (Addr × Obj)} {σ : L2.St} {H : Hp} {s : Shared}
mutual
theorem fz_reads (I : Inv X pins σ H s) : ∀ {t : D} {v : V} {u : Value}, t.plain = true → Fz X.K H t v → RelV v u → ∃ as, Reads s.heap u t as
  | .none, v, u, _, h, r => by
    simp only [Fz] at h
    subst h
    cases r
    exact ⟨[], .none⟩
  | .bool b, v, u, _, h, r => by
    simp only [Fz] at h
    subst h
    cases r
    exact ⟨[], .bool b⟩
  | .int i, v, u, _, h, r => by
    simp only [Fz] at h
    subst h
    obtain ⟨t, rfl⟩ := r
    exact ⟨[], .int i t⟩
  | .str i, v, u, _, h, r => by
    simp only [Fz] at h
    subst h
    obtain ⟨t, rfl⟩ := r
    exact ⟨[], .str i t⟩
  | .list ts, v, u, hp, h, r => by
    simp only [Fz] at h
    obtain ⟨a, vs, rfl, h1, h2⟩ := h
    cases r
    obtain ⟨its, rv, ⟨o, n, e1, e2, e3, e4⟩, hz⟩ := I.list h1.sq
    obtain ⟨as, ra⟩ := fzL_reads I (by simpa [PyData.plain] using hp) h2 rv
    exact ⟨_, .list e1 e2 e4 ra⟩
  | .tuple ts, v, u, hp, h, r => by
    simp only [Fz] at h
    obtain ⟨a, vs, rfl, h1, h2⟩ := h
    cases r
    obtain ⟨its, rv, ⟨o, e1, e2, n, e4⟩, hz⟩ := I.tuple (SqT.of h1)
    obtain ⟨as, ra⟩ := fzL_reads I (by simpa [PyData.plain] using hp) h2 rv
    exact ⟨_, .tuple e1 e2 e4 ra⟩
  | .dict _, v, u, hp, h, r => by simp [PyData.plain] at hp
theorem fzL_reads (I : Inv X pins σ H s) : ∀ {ts : List D} {vs : List V} {us : List Value}, PyData.plainAll ts = true → FzL X.K H ts vs → Vals vs us → ∃ as, ReadsAll s.heap us ts as
  | [], vs, us, _, h, r => by
    have e := h.nilE
    subst e
    cases r
    exact ⟨[], .nil⟩
  | t :: ts, vs, us, hp, h, r => by
    obtain ⟨v, vr, rfl, h1, h2⟩ := h.inv
    rw [PyData.plainAll, Bool.and_eq_true] at hp
    cases r with
    | cons r1 r2 =>
      obtain ⟨as, ra⟩ := fz_reads I hp.1 h1 r1
      obtain ⟨bs, rb⟩ := fzL_reads I hp.2 h2 r2
      exact ⟨as ++ bs, .cons ra rb⟩
end
end
theorem view1 {K : PySem.W.Frag} {S H : Hp} {o : O} {t : D} {v : V} {f1 : List Addr} (le : Same S H) (w : Ow K S H o v f1) (e : o.frz1 = some t) : Fz K H t v := by
  cases o with
  | leaf u =>
    cases e
    exact (ow_leafE w).2.same le
  | ls ts =>
    cases e
    obtain ⟨a, vs, rfl, h1, rfl, h2⟩ := ow_lsE w
    simp only [Fz]
    exact ⟨a, vs, rfl, LsAt.of h1, h2.same le⟩
  | _ => cases e
theorem viewL {K : PySem.W.Frag} {S H : Hp} (le : Same S H) : ∀ {os : List O} {us : List D} {vs : List V} {f1 : List Addr}, frzL os = some us → OwL K S H os vs f1 → FzL K H us vs
  | [], us, vs, f1, e, h => by
    cases e
    simp only [OwL] at h
    rw [h.1]
    exact FzL.nil
  | o :: r, us, vs, f1, e, h => by
    simp only [frzL, Option.bind_eq_some_iff, Option.map_eq_some_iff] at e
    obtain ⟨t, e1, ts, e2, rfl⟩ := e
    simp only [OwL] at h
    obtain ⟨v, vr, fa, fb, rfl, rfl, h1, h2⟩ := h
    exact FzL.cons (view1 le h1 e1) (viewL le e2 h2)
/-- an own tree seen as data, where the whole heap stands -/
theorem ow_view {K : PySem.W.Frag} {S H : Hp} {o : O} {t : D} {v : V} {fr : List Addr} (le : Same S H) (w : Ow K S H o v fr) (e : o.frz = some t) : Fz K H t v := by
  cases o with
  | leaf u =>
    cases e
    exact (ow_leafE w).2.same le
  | ls ts =>
    cases e
    obtain ⟨a, vs, rfl, h1, rfl, h2⟩ := ow_lsE w
    simp only [Fz]
    exact ⟨a, vs, rfl, LsAt.of h1, h2.same le⟩
  | dic kvs =>
    simp only [O.frz, Option.map_eq_some_iff] at e
    obtain ⟨us, e, rfl⟩ := e
    simp only [Ow] at w
    obtain ⟨a, vs, fr', rfl, rfl, h1, h2⟩ := w
    obtain ⟨h3, rfl⟩ := frzK_fz e h1
    simp only [Fz]
    exact ⟨a, rfl, .inl ⟨vs, h3.same le, .inl h2⟩⟩
  | dct kvs =>
    simp only [O.frz, Option.map_eq_some_iff] at e
    obtain ⟨us, e, rfl⟩ := e
    simp only [Ow] at w
    obtain ⟨a, vs, fr', rfl, rfl, h1, h2⟩ := w
    obtain ⟨h3, rfl⟩ := frzT_fz e h1
    simp only [Fz]
    exact ⟨a, rfl, .inr ⟨vs, h3.same le, .inl h2⟩⟩
  | obj _ _ => cases e
  | tup os =>
    simp only [O.frz, Option.map_eq_some_iff] at e
    obtain ⟨us, e, rfl⟩ := e
    simp only [Ow] at w
    obtain ⟨a, vs, rfl, h1, h2⟩ := w
    simp only [Fz]
    exact ⟨a, vs, rfl, le _ _ h1, viewL le e h2⟩
  | lso os =>
    simp only [O.frz, Option.map_eq_some_iff] at e
    obtain ⟨us, e, rfl⟩ := e
    simp only [Ow] at w
    obtain ⟨a, vs, fr', rfl, rfl, h1, h2⟩ := w
    simp only [Fz]
    exact ⟨a, vs, rfl, LsAt.of h2, viewL le e h1⟩

/-! ### functions of two, of one view, whose value is plain -/
def flatD : D → Bool
  | .none => true
  | .bool _ => true
  | .int _ => true
  | .str _ => true
  | _ => false
def vw2 (c : D → D → Option D) : O → O → Option O := fun a b => a.frz.bind fun t => b.frz.bind fun u => (c t u).bind fun z => if flatD z = true then some (.leaf z) else none
def vw1 (c : D → Option D) : O → Option O := fun a => a.frz.bind fun t => (c t).bind fun z => if flatD z = true then some (.leaf z) else none
def valD : D → V
  | .bool b => .bl b
  | .int i => .int i
  | .str x => .str x
  | _ => .non
theorem fz_flat {K : PySem.W.Frag} {S : Hp} {z : D} (h : flatD z = true) : Fz K S z (valD z) := by
  cases z <;> first | (cases h; done) | (simp only [Fz, valD])
section
variable {K : PySem.W.Frag}
theorem ro2_vw {r : R2} {c : D → D → Option D} (h : ∀ H x y t u z Q, Fz K H t x → Fz K H u y → c t u = some z → flatD z = true → Q (valD z) H → r x y H Q) : RO2 K r (vw2 c) := by
  intro S H x y o1 o2 fr1 fr2 z Q le w1 w2 hg k
  unfold vw2 at hg
  simp only [Option.bind_eq_some_iff] at hg
  obtain ⟨t, h1, u, h2, zz, h3, h4⟩ := hg
  split at h4
  · rename_i hf
    cases h4
    exact h H x y t u zz Q (ow_view le w1 h1) (ow_view le w2 h2) h3 hf (k _ S H [] (Gr.refl le) (ow_leaf (fz_flat hf)) New.nil)
  · cases h4
theorem ro1_vw {r : V → Hp → VK → Prop} {c : D → Option D} (h : ∀ H x t z Q, Fz K H t x → c t = some z → flatD z = true → Q (valD z) H → r x H Q) : RO1 K r (vw1 c) := by
  intro S H x o fr1 z Q le w1 hg k
  unfold vw1 at hg
  simp only [Option.bind_eq_some_iff] at hg
  obtain ⟨t, h1, zz, h3, h4⟩ := hg
  split at h4
  · rename_i hf
    cases h4
    exact h H x t zz Q (ow_view le w1 h1) h3 hf (k _ S H [] (Gr.refl le) (ow_leaf (fz_flat hf)) New.nil)
  · cases h4
theorem RO2.or {r r' : R2} {g g' : O → O → Option O} (h : RO2 K r g) (h' : RO2 K r' g') : RO2 K (fun x y H Q => r x y H Q ∨ r' x y H Q) (fun a b => (g a b).or (g' a b)) := by
  intro S H x y o1 o2 fr1 fr2 z Q le w1 w2 e k
  dsimp only at e
  cases q : g o1 o2 with
  | some z1 =>
    rw [q] at e
    have e' : z1 = z := Option.some.inj e
    subst e'
    exact .inl (h S H x y o1 o2 fr1 fr2 _ Q le w1 w2 q k)
  | none =>
    rw [q] at e
    exact .inr (h' S H x y o1 o2 fr1 fr2 z Q le w1 w2 e k)
theorem RO2.imp {r r' : R2} {g : O → O → Option O} (h : RO2 K r g) (i : ∀ x y H Q, r x y H Q → r' x y H Q) : RO2 K r' g := fun S H x y o1 o2 fr1 fr2 z Q le w1 w2 e k => i _ _ _ _ (h S H x y o1 o2 fr1 fr2 z Q le w1 w2 e k)
theorem RO2.eq {r : R2} {g g' : O → O → Option O} (h : RO2 K r g) (i : ∀ a b z, g' a b = some z → g a b = some z) : RO2 K r g' := fun S H x y o1 o2 fr1 fr2 z Q le w1 w2 e k => h S H x y o1 o2 fr1 fr2 z Q le w1 w2 (i _ _ _ e) k
/-- whole numbers -/
theorem ro_int {C : Int → Int → Prop} {g : Int → Int → D} {gv : Int → Int → V} (hg : ∀ i j, flatD (g i j) = true ∧ valD (g i j) = gv i j) {c : D → D → Option D} (hc : ∀ t u z, c t u = some z → ∃ i j, t = .int i ∧ u = .int j ∧ C i j ∧ z = g i j) : RO2 K (rI C gv) (vw2 c) :=
  ro2_vw fun H x y t u z Q w1 w2 e hf q => by
    obtain ⟨i, j, rfl, rfl, h1, rfl⟩ := hc t u z e
    simp only [Fz] at w1 w2
    exact ⟨i, j, w1, w2, h1, by rw [← (hg i j).2]; exact q⟩
theorem ro_int0 {g : Int → Int → D} {gv : Int → Int → V} (hg : ∀ i j, flatD (g i j) = true ∧ valD (g i j) = gv i j) {c : D → D → Option D} (hc : ∀ t u z, c t u = some z → ∃ i j, t = .int i ∧ u = .int j ∧ z = g i j) : RO2 K (rI0 gv) (vw2 c) :=
  ro2_vw fun H x y t u z Q w1 w2 e hf q => by
    obtain ⟨i, j, rfl, rfl, rfl⟩ := hc t u z e
    simp only [Fz] at w1 w2
    exact ⟨i, j, w1, w2, by rw [← (hg i j).2]; exact q⟩
end
/-! the operators -/
def addI : D → D → Option D
  | .int i, .int j => some (.int (i + j))
  | .str i, .str j => if i.length + j.length ≤ sizeLine then some (.str (i ++ j)) else none
  | _, _ => none
def subI : D → D → Option D
  | .int i, .int j => some (.int (i - j))
  | _, _ => none
def mulI : D → D → Option D
  | .int i, .int j => if (Builtin.Int.intBits i : Int) + (Builtin.Int.intBits j : Int) ≤ 134217728 then some (.int (i * j)) else none
  | _, _ => none
def divI : D → D → Option D
  | .int i, .int j => if 0 < j ∧ j.natAbs.log2 < 9000 then some (.int (i / j)) else none
  | _, _ => none
def modI : D → D → Option D
  | .int i, .int j => if 0 < j then some (.int (i % j)) else none
  | _, _ => none
def powI : D → D → Option D
  | .int i, .int j => if 0 ≤ j ∧ j ≤ 1000000 ∧ i.natAbs < 2 ^ 64 then some (.int (i ^ j.toNat)) else none
  | _, _ => none
def negI : D → Option D
  | .int i => some (.int (-i))
  | _ => none
theorem ro_sub {K : PySem.W.Frag} : RO2 K (rI0 fun i j => .int (i - j)) (vw2 subI) := ro_int0 (g := fun i j => .int (i - j)) (fun _ _ => ⟨rfl, rfl⟩) fun t u z e => by
  unfold subI at e
  split at e
  · cases e
    exact ⟨_, _, rfl, rfl, rfl⟩
  · cases e
theorem ro_mul {K : PySem.W.Frag} : RO2 K (rI CMulX fun i j => .int (i * j)) (vw2 mulI) := ro_int (g := fun i j => .int (i * j)) (fun _ _ => ⟨rfl, rfl⟩) fun t u z e => by
  unfold mulI at e
  split at e
  · split at e
    · rename_i h
      cases e
      exact ⟨_, _, rfl, rfl, h, rfl⟩
    · cases e
  · cases e
theorem ro_div {K : PySem.W.Frag} : RO2 K (rI CDivW fun i j => .int (i / j)) (vw2 divI) := ro_int (g := fun i j => .int (i / j)) (fun _ _ => ⟨rfl, rfl⟩) fun t u z e => by
  unfold divI at e
  split at e
  · split at e
    · rename_i h
      cases e
      exact ⟨_, _, rfl, rfl, h, rfl⟩
    · cases e
  · cases e
theorem ro_mod {K : PySem.W.Frag} : RO2 K (rI (fun _ j => 0 < j) fun i j => .int (i % j)) (vw2 modI) := ro_int (g := fun i j => .int (i % j)) (fun _ _ => ⟨rfl, rfl⟩) fun t u z e => by
  unfold modI at e
  split at e
  · split at e
    · rename_i h
      cases e
      exact ⟨_, _, rfl, rfl, h, rfl⟩
    · cases e
  · cases e
theorem ro_pow {K : PySem.W.Frag} : RO2 K (rI CPow fun i j => .int (i ^ j.toNat)) (vw2 powI) := ro_int (g := fun i j => .int (i ^ j.toNat)) (fun _ _ => ⟨rfl, rfl⟩) fun t u z e => by
  unfold powI at e
  split at e
  · split at e
    · rename_i h
      cases e
      exact ⟨_, _, rfl, rfl, h, rfl⟩
    · cases e
  · cases e
theorem ro_neg {K : PySem.W.Frag} : RO1 K (rU fun i => .int (-i)) (vw1 negI) := ro1_vw fun H x t z Q w e hf q => by
  unfold negI at e
  split at e
  · cases e
    simp only [Fz] at w
    exact ⟨_, w, q⟩
  · cases e

/-! + : numbers, texts, lists, tuples -/
section
variable {X : Cx}
theorem rdL {pins : List (Addr × Obj)} {σ : L2.St} {H : Hp} {s : Shared} {a : Addr} {xs : List V} (I : Inv X pins σ H s) (h : LsAt X.K H a xs) :
    ∃ (its : List Value) (n : Nat), Vals xs its ∧ s.heap.get? a = some { cls := .type "list", data := .seq its.toArray n } ∧ xs.length ≤ sizeLine := by
  rcases h with h | ⟨its, n, r, z, e⟩
  · obtain ⟨z, its, n, r, e⟩ := h.ok I.hok
    exact ⟨its, n, r, e, z⟩
  · exact ⟨its, n, r, I.kIn _ _ e, z⟩
def rCatL (K : PySem.W.Frag) : R2 := fun x y H Q => ∃ a b xs ys, x = .ref a ∧ y = .ref b ∧ LsAt K H a xs ∧ LsAt K H b ys ∧ xs.length + ys.length ≤ sizeLine ∧ ∀ p, H p = none → Q (.ref p) (upd H p (.lst (xs ++ ys)))
theorem op_catL : OpR X (binaryOp .Add) (rCatL X.K) := by
  intro pins s σ H x y v u Q I rx ry h
  obtain ⟨l, b, xs, zs, rfl, rfl, hH, hB, hz, q⟩ := h
  cases rx
  cases ry
  obtain ⟨its, n, r, e, z⟩ := rdL I hH
  obtain ⟨its2, n2, r2, e2, z2⟩ := rdL I hB
  have hl := r.length
  have hl2 := r2.length
  refine PySem.P.add_list e e2 ?_ (by rw [List.size_toArray, List.size_toArray]; omega)
  have ea : its.toArray ++ its2.toArray = (its ++ its2).toArray := by simp
  rw [ea]
  exact ⟨.ref _, _, I.lnew (t' := s.toks) (r.append r2) (by rw [List.length_append]; omega), rfl, q _ I.fresh⟩
/-- the list's items, if it is one -/
def lstO : O → Option (List D)
  | .leaf (.list ts) => some ts
  | .ls ts => some ts
  | _ => none
def tupO : O → Option (List D)
  | .leaf (.tuple ts) => some ts
  | _ => none
theorem lstO_at {K : PySem.W.Frag} {S H : Hp} {o : O} {ts : List D} {v : V} {fr : List Addr} (le : Same S H) (w : Ow K S H o v fr) (e : lstO o = some ts) : ∃ a vs, v = .ref a ∧ LsAt K H a vs ∧ FzL K S ts vs := by
  cases o with
  | leaf t =>
    cases t with
    | list us =>
      cases e
      have w2 := (ow_leafE w).2
      simp only [Fz] at w2
      obtain ⟨a, vs, rfl, h1, h2⟩ := w2
      exact ⟨a, vs, rfl, ls_same le h1, h2⟩
    | _ => cases e
  | ls us =>
    cases e
    obtain ⟨a, vs, rfl, h1, rfl, h2⟩ := ow_lsE w
    exact ⟨a, vs, rfl, LsAt.of h1, h2⟩
  | _ => cases e
theorem tupO_at {K : PySem.W.Frag} {S H : Hp} {o : O} {ts : List D} {v : V} {fr : List Addr} (le : Same S H) (w : Ow K S H o v fr) (e : tupO o = some ts) : ∃ a vs, v = .ref a ∧ SqT K H a vs ∧ FzL K S ts vs := by
  cases o with
  | leaf t =>
    cases t with
    | tuple us =>
      cases e
      have w2 := (ow_leafE w).2
      simp only [Fz] at w2
      obtain ⟨a, vs, rfl, h1, h2⟩ := w2
      exact ⟨a, vs, rfl, SqT.of (le _ _ h1), h2⟩
    | _ => cases e
  | _ => cases e
/-- a new list of one's own, at any new place -/
theorem newL {K : PySem.W.Frag} {S H : Hp} {ts : List D} {vs : List V} {z : O} {Q : VK} (le : Same S H) (w : FzL K S ts vs) (hz : z = .ls ts) (k : ∀ v S' H' fr, Gr S H S' H' → Ow K S' H' z v fr → New H S' fr → Q v H') : ∀ p, H p = none → Q (.ref p) (upd H p (.lst vs)) := fun p hp => by
  subst hz
  exact k _ S _ [p] (Gr.newH le hp) (ow_ls upd_same w) (New.one hp (le.free hp))
theorem newT {K : PySem.W.Frag} {S H : Hp} {ts : List D} {vs : List V} {z : O} {Q : VK} (le : Same S H) (w : FzL K S ts vs) (hz : z = .leaf (.tuple ts)) (k : ∀ v S' H' fr, Gr S H S' H' → Ow K S' H' z v fr → New H S' fr → Q v H') : ∀ p, H p = none → Q (.ref p) (upd H p (.tup vs)) := fun p hp => by
  subst hz
  have G := Gr.newS (o := .tup vs) le hp
  refine k _ _ _ [] G (ow_leaf ?_) New.nil
  simp only [Fz]
  exact ⟨p, vs, rfl, upd_same, w.same G.sub⟩
def catL (a b : O) : Option O := (lstO a).bind fun ts => (lstO b).bind fun us => if ts.length + us.length ≤ sizeLine then some (.ls (ts ++ us)) else none
theorem ro_catL {K : PySem.W.Frag} : RO2 K (rCatL K) catL := by
  intro S H x y o1 o2 fr1 fr2 z Q le w1 w2 e k
  unfold catL at e
  simp only [Option.bind_eq_some_iff] at e
  obtain ⟨ts, h1, us, h2, h3⟩ := e
  split at h3
  · rename_i hl
    cases h3
    obtain ⟨a, vs, rfl, ha, za⟩ := lstO_at le w1 h1
    obtain ⟨b, ws, rfl, hb, zb⟩ := lstO_at le w2 h2
    exact ⟨a, b, vs, ws, rfl, rfl, ha, hb, by rw [za.len, zb.len]; exact hl, newL le (za.append zb) rfl k⟩
  · cases h3
def catT (a b : O) : Option O := (tupO a).bind fun ts => (tupO b).bind fun us => if ts.length + us.length ≤ sizeLine then some (.leaf (.tuple (ts ++ us))) else none
theorem FzL.ne {K : PySem.W.Frag} {S : Hp} {ts : List D} {vs : List V} (w : FzL K S ts vs) (h : ts ≠ []) : vs ≠ [] := by
  intro e
  have := w.len
  rw [e] at this
  exact h (List.length_eq_zero_iff.mp this.symm)
theorem FzL.emp {K : PySem.W.Frag} {S : Hp} {ts : List D} {vs : List V} (w : FzL K S ts vs) (h : vs = []) : ts = [] := by
  have := w.len
  rw [h] at this
  exact List.length_eq_zero_iff.mp this.symm
theorem tupO_S {K : PySem.W.Frag} {S H : Hp} {o : O} {ts : List D} {v : V} {fr : List Addr} (w : Ow K S H o v fr) (e : tupO o = some ts) : o = .leaf (.tuple ts) ∧ fr = [] ∧ Fz K S (.tuple ts) v := by
  cases o with
  | leaf t =>
    cases t with
    | tuple us =>
      cases e
      have w2 := ow_leafE w
      exact ⟨rfl, w2.1, w2.2⟩
    | _ => cases e
  | _ => cases e
theorem ro_catT {K : PySem.W.Frag} : RO2 K (L2.rCatA K) catT := by
  intro S H x y o1 o2 fr1 fr2 z Q le w1 w2 e k
  unfold catT at e
  simp only [Option.bind_eq_some_iff] at e
  obtain ⟨ts, h1, us, h2, h3⟩ := e
  split at h3
  · rename_i hl
    cases h3
    obtain ⟨rfl, rfl, f1⟩ := tupO_S w1 h1
    obtain ⟨rfl, rfl, f2⟩ := tupO_S w2 h2
    obtain ⟨a, vs, rfl, ha, za⟩ := tupO_at le w1 h1
    obtain ⟨b, ws, rfl, hb, zb⟩ := tupO_at le w2 h2
    refine ⟨a, b, vs, ws, rfl, rfl, ha, hb, by rw [za.len, zb.len]; exact hl, fun e => ?_, fun _ e => ?_, fun _ _ => newT le (za.append zb) rfl k⟩
    · have := za.emp e
      subst this
      exact k _ S H [] (Gr.refl le) (ow_leaf f2) New.nil
    · have := zb.emp e
      subst this
      exact k _ S H [] (Gr.refl le) (ow_leaf (by rw [List.append_nil]; exact f1)) New.nil
  · cases h3
def rAddS : R2 := fun x y H Q => ∃ i j, x = .str i ∧ y = .str j ∧ i.length + j.length ≤ sizeLine ∧ Q (.str (i ++ j)) H
/-- + -/
def oAdd (a b : O) : Option O := (vw2 addI a b).or ((catL a b).or (catT a b))
theorem op_addA : OpR X (binaryOp .Add) (fun x y H Q => (rI0 (fun i j => .int (i + j)) x y H Q ∨ rAddS x y H Q) ∨ (rCatL X.K x y H Q ∨ L2.rCatA X.K x y H Q)) := (op_add.or op_add_str).or (op_catL.or L2.op_catA)
theorem ro_add {K : PySem.W.Frag} : RO2 K (fun x y H Q => (rI0 (fun i j => .int (i + j)) x y H Q ∨ rAddS x y H Q) ∨ (rCatL K x y H Q ∨ L2.rCatA K x y H Q)) oAdd := by
  refine RO2.or (ro2_vw fun H x y t u z Q w1 w2 e hf q => ?_) (RO2.or ro_catL ro_catT)
  unfold addI at e
  split at e
  · cases e
    simp only [Fz] at w1 w2
    exact .inl ⟨_, _, w1, w2, q⟩
  · split at e
    · rename_i hl
      cases e
      simp only [Fz] at w1 w2
      exact .inr ⟨_, _, w1, w2, hl, q⟩
    · cases e
  · cases e

/-! ### comparisons -/
def rEqD (K : PySem.W.Frag) (neg : Bool) : R2 := fun x y H Q => ∃ t u, Fz K H t x ∧ Fz K H u y ∧ okd 50 t = true ∧ okd 50 u = true ∧ Q (.bl (if neg then !PyData.eqv t u else PyData.eqv t u)) H
theorem min_le' {a b : Nat} (h : a ≤ 50) : min a b ≤ 50 := Nat.le_trans (Nat.min_le_left _ _) h
theorem op_eqD (hu : X.A.units + 100 < cLine) : OpR X (compareOp .Eq) (rEqD X.K false) := by
  intro pins s σ H x y v u Q I rx ry h
  obtain ⟨t, t', w1, w2, k1, k2, q⟩ := h
  obtain ⟨p1, d1⟩ := okd_spec k1
  obtain ⟨p2, d2⟩ := okd_spec k2
  obtain ⟨as, r1⟩ := fz_reads I p1 w1 rx
  obtain ⟨bs, r2⟩ := fz_reads I p2 w2 ry
  exact PySem.SeqAt.eq_plain r1 r2 p1 p2 (by have := min_le' (b := t'.depth) d1; omega) ⟨.bl _, H, I, rfl, q⟩
theorem op_neD (hu : X.A.units + 100 < cLine) : OpR X (compareOp .NotEq) (rEqD X.K true) := by
  intro pins s σ H x y v u Q I rx ry h
  obtain ⟨t, t', w1, w2, k1, k2, q⟩ := h
  obtain ⟨p1, d1⟩ := okd_spec k1
  obtain ⟨p2, d2⟩ := okd_spec k2
  obtain ⟨as, r1⟩ := fz_reads I p1 w1 rx
  obtain ⟨bs, r2⟩ := fz_reads I p2 w2 ry
  exact PySem.SeqAt.ne_plain r1 r2 p1 p2 (by have := min_le' (b := t'.depth) d1; omega) ⟨.bl _, H, I, rfl, q⟩
def eqI (neg : Bool) (t u : D) : Option D := if (okd 50 t && okd 50 u) = true then some (.bool (if neg then !PyData.eqv t u else PyData.eqv t u)) else none
theorem ro_eq {K : PySem.W.Frag} {neg : Bool} : RO2 K (rEqD K neg) (vw2 (eqI neg)) := ro2_vw fun H x y t u z Q w1 w2 e hf q => by
  unfold eqI at e
  split at e
  · rename_i hk
    cases e
    rw [Bool.and_eq_true] at hk
    exact ⟨t, u, w1, w2, hk.1, hk.2, q⟩
  · cases e
inductive Ord4 where
  | lt | gt | le | ge
def ordB : Ord4 → D → D → Bool
  | .lt, t, u => PySem.W.dataLt t u
  | .gt, t, u => PySem.W.dataLt u t
  | .le, t, u => !PySem.W.dataLt u t
  | .ge, t, u => !PySem.W.dataLt t u
def nonN : D → Bool
  | .none => false
  | _ => true
def ordI (o : Ord4) (t u : D) : Option D := if (okd 50 t && okd 50 u && PySem.W.alike t u && nonN t) = true then some (.bool (ordB o t u)) else none
def rOrd (K : PySem.W.Frag) (o : Ord4) : R2 := fun x y H Q => ∃ t u, Fz K H t x ∧ Fz K H u y ∧ okd 50 t = true ∧ okd 50 u = true ∧ PySem.W.alike t u = true ∧ t ≠ .none ∧ Q (.bl (ordB o t u)) H
theorem ro_ord {K : PySem.W.Frag} {o : Ord4} : RO2 K (rOrd K o) (vw2 (ordI o)) := ro2_vw fun H x y t u z Q w1 w2 e hf q => by
  unfold ordI at e
  split at e
  · rename_i hk
    cases e
    simp only [Bool.and_eq_true] at hk
    exact ⟨t, u, w1, w2, hk.1.1.1, hk.1.1.2, hk.1.2, (by intro z; subst z; cases hk.2), q⟩
  · cases e
def opOf : Ord4 → CmpOp
  | .lt => .Lt
  | .gt => .Gt
  | .le => .LtE
  | .ge => .GtE
theorem op_ord {o : Ord4} (hu : X.A.units + 100 < cLine) : OpR X (compareOp (opOf o)) (rOrd X.K o) := by
  intro pins s σ H x y v u Q I rx ry h
  obtain ⟨t, t', w1, w2, k1, k2, al, nn, q⟩ := h
  obtain ⟨p1, d1⟩ := okd_spec k1
  obtain ⟨p2, d2⟩ := okd_spec k2
  obtain ⟨as, r1⟩ := fz_reads I p1 w1 rx
  obtain ⟨bs, r2⟩ := fz_reads I p2 w2 ry
  have hd : X.A.units + min t.depth t'.depth < cLine := by have := min_le' (b := t'.depth) d1; omega
  cases o with
  | lt => exact PySem.W.lt_data r1 r2 al nn hd ⟨.bl _, H, I, rfl, q⟩
  | gt => exact PySem.W.gt_data r1 r2 al nn hd ⟨.bl _, H, I, rfl, q⟩
  | le => exact PySem.W.le_data r1 r2 al nn hd ⟨.bl _, H, I, rfl, q⟩
  | ge => exact PySem.W.ge_data r1 r2 al nn hd ⟨.bl _, H, I, rfl, q⟩
end
end Mv

set_option Elab.async false
set_option linter.all false
set_option maxRecDepth 100000
set_option maxHeartbeats 2000000
namespace Mv
open PySem PySem.Spec PyProof.Rows L2
section
variable {X : Cx}

/-! ### in, not in -/
def rInD (K : PySem.W.Frag) (neg : Bool) : R2 := fun x y H Q => ∃ t ts a vs, Fz K H t x ∧ y = .ref a ∧ (LsAt K H a vs ∨ H a = some (.tup vs)) ∧ FzL K H ts vs ∧ okd 50 t = true ∧ ts.all (okd 49) = true ∧ Q (.bl (if neg then !(ts.any fun u => PyData.eqv u t) else ts.any fun u => PyData.eqv u t)) H
/-- a text in a text -/
def rInS (neg : Bool) : R2 := fun x y H Q => ∃ i j, x = .str i ∧ y = .str j ∧ Q (.bl (if neg then !(!(Builtin.Str.occurrences j i 0 j.length 1).isEmpty) else !(Builtin.Str.occurrences j i 0 j.length 1).isEmpty)) H
def inI (neg : Bool) : D → D → Option D
  | t, .list ts => if (okd 50 t && ts.all (okd 49)) = true then some (.bool (if neg then !(ts.any fun u => PyData.eqv u t) else ts.any fun u => PyData.eqv u t)) else none
  | t, .tuple ts => if (okd 50 t && ts.all (okd 49)) = true then some (.bool (if neg then !(ts.any fun u => PyData.eqv u t) else ts.any fun u => PyData.eqv u t)) else none
  | .str i, .str j => some (.bool (if neg then !(!(Builtin.Str.occurrences j i 0 j.length 1).isEmpty) else !(Builtin.Str.occurrences j i 0 j.length 1).isEmpty))
  | _, _ => none
/-! ### is None -/
def isNI (neg : Bool) : D → D → Option D
  | .none, .none => some (.bool (if neg then false else true))
  | _, .none => some (.bool (if neg then true else false))
  | _, _ => none
def rIsN (neg : Bool) : R2 := fun x y H Q => y = .non ∧ Q (.bl (if neg then !decide (x = .non) else decide (x = .non))) H
/-! ### x[i] -/
def ixL (ts : List D) (i : Int) : Option D := atI ts i
theorem atI_fz {K : PySem.W.Frag} {S : Hp} {ts : List D} {vs : List V} {i : Int} {t : D} (w : FzL K S ts vs) (h : atI ts i = some t) : ∃ v, atI vs i = some v ∧ Fz K S t v := by
  unfold atI at h ⊢
  rw [w.len]
  cases q : ixN ts.length i with
  | none => rw [q] at h; cases h
  | some j =>
    rw [q] at h
    obtain ⟨v, h1, h2⟩ := w.get (i := j) (t := t) h
    exact ⟨v, h1, h2⟩
/-- the items of a list or a tuple -/
def seqO (o : O) : Option (List D) := (lstO o).or (tupO o)
theorem seqO_S {K : PySem.W.Frag} {S H : Hp} {o : O} {ts : List D} {v : V} {fr : List Addr} (le : Same S H) (w : Ow K S H o v fr) (e : seqO o = some ts) : ∃ a vs, v = .ref a ∧ (LsAt K H a vs ∨ H a = some (.tup vs)) ∧ FzL K S ts vs := by
  cases o with
  | leaf t =>
    have w2 := (ow_leafE w).2
    cases t with
    | list us =>
      cases e
      simp only [Fz] at w2
      obtain ⟨a, vs, rfl, h1, h2⟩ := w2
      exact ⟨a, vs, rfl, .inl (ls_same le h1), h2⟩
    | tuple us =>
      cases e
      simp only [Fz] at w2
      obtain ⟨a, vs, rfl, h1, h2⟩ := w2
      exact ⟨a, vs, rfl, .inr (le _ _ h1), h2⟩
    | _ => cases e
  | ls us =>
    cases e
    obtain ⟨a, vs, rfl, h1, rfl, h2⟩ := ow_lsE w
    exact ⟨a, vs, rfl, .inl (LsAt.of h1), h2⟩
  | _ => cases e
def strIx (a : O) (i : Int) : Option O := match a with
  | .leaf (.str z) => if z.length ≤ sizeLine then (atI z.cps.toList i).map fun c => .leaf (.str ⟨#[c]⟩) else none
  | _ => none
def oIx (a b : O) : Option O := match b with
  | .leaf (.int i) => (((seqO a).bind fun ts => atI ts i).map .leaf).or (strIx a i)
  | _ => none
theorem ro_ix {K : PySem.W.Frag} : RO2 K (rIx K) oIx := by
  intro S H x y o1 o2 fr1 fr2 z Q le w1 w2 e k
  unfold oIx at e
  split at e
  · rename_i i
    have hy := (ow_leafE w2).2
    simp only [Fz] at hy
    cases q : ((seqO o1).bind fun ts => atI ts i).map O.leaf with
    | some zz =>
      rw [q] at e
      have e' : zz = z := Option.some.inj e
      subst e'
      simp only [Option.map_eq_some_iff, Option.bind_eq_some_iff] at q
      obtain ⟨t, ⟨ts, h1, h2⟩, rfl⟩ := q
      obtain ⟨a, vs, rfl, ha, za⟩ := seqO_S le w1 h1
      obtain ⟨v, hv, wv⟩ := atI_fz za h2
      have fin := k v S H [] (Gr.refl le) (ow_leaf wv) New.nil
      rcases ha with ha | ha
      · exact .inl ⟨a, vs, i, v, rfl, hy, ha.sq, hv, fin⟩
      · exact .inr (.inl ⟨a, vs, i, v, rfl, hy, SqT.of ha, hv, fin⟩)
    | none =>
      rw [q] at e
      have e' : strIx o1 i = some z := e
      unfold strIx at e'
      split at e'
      · split at e'
        · rename_i zz hl
          simp only [Option.map_eq_some_iff] at e'
          obtain ⟨c, hc, rfl⟩ := e'
          have hx := (ow_leafE w1).2
          simp only [Fz] at hx
          exact .inr (.inr ⟨zz, i, c, hx, hy, hl, hc, k _ S H [] (Gr.refl le) (ow_leaf (by simp only [Fz])) New.nil⟩)
        · cases e'
      · cases e'
  · cases e

/-! ### slices -/
structure SO (X : Cx) (o : Option Expr) (f : ESem) (q : Bool) : Prop where
  po : PO X o (fun σ H Q => tE X.K f q true σ H fun x H1 => (x = .non ∧ Q none H1) ∨ ∃ i, x = .int i ∧ Q (some i) H1)
  qf : q = true → ∀ env r env', f env = some (r, env') → env' = env
theorem so_none : SO X none (cstE .none) true := by
  refine ⟨⟨fun pins s σ H Q I h => ?_⟩, cst_qf⟩
  obtain ⟨env, S, fp, r, env', R, he, k⟩ := h
  cases he
  refine po_none.run pins s σ H Q I ?_
  rcases k .non S H fp [] R (Evo.refl _ _ _) (ow_leaf (by simp only [Fz])) (fun _ => ⟨rfl, KS.refl _⟩) (fun _ => Fresh.nil) with ⟨_, q⟩ | ⟨i, e, _⟩
  · exact q
  · cases e
def intE (f : ESem) : ESem := fun env => (f env).bind fun p => match p.1 with
  | .leaf (.int i) => some (.leaf (.int i), p.2)
  | _ => none
theorem intE_some {f : ESem} {env env' : Env} {z : O} (h : intE f env = some (z, env')) : ∃ i, f env = some (.leaf (.int i), env') ∧ z = .leaf (.int i) := by
  unfold intE at h
  simp only [Option.bind_eq_some_iff] at h
  obtain ⟨⟨o, e1⟩, h1, h2⟩ := h
  simp only at h2
  split at h2
  · cases h2
    exact ⟨_, h1, rfl⟩
  · cases h2
theorem so_some {e : Expr} {f : ESem} {q m : Bool} (h : SE X e f q m) : SO X (some e) (intE f) q := by
  refine ⟨⟨fun pins s σ H Q I hw => ?_⟩, fun e env r env' hh => by
    obtain ⟨i, h1, rfl⟩ := intE_some hh
    exact h.qf e _ _ _ h1⟩
  refine (po_some h.pe).run pins s σ H Q I ?_
  obtain ⟨env, S, fp, r, env', R, he, k⟩ := hw
  obtain ⟨i, h1, rfl⟩ := intE_some he
  refine ⟨env, S, fp, _, env', R, h1, fun v S1 H1 fp1 fr R1 E1 w g n => ?_⟩
  have hv := (ow_leafE w).2
  simp only [Fz] at hv
  rcases k v S1 H1 fp1 fr R1 E1 w g (fun _ => fresh_of (m := m) (.inr rfl) w n) with ⟨e, _⟩ | ⟨j, e, q⟩
  · rw [hv] at e
    cases e
  · rw [hv] at e
    cases e
    exact ⟨_, hv, q⟩
def optI : O → Option (Option Int)
  | .leaf .none => some none
  | .leaf (.int i) => some (some i)
  | _ => none
def cutD (ts : List D) (lo hi : Option Int) : List D := (ts.drop (HT.sIx ts.length 0 lo)).take (HT.sIx ts.length ts.length hi - HT.sIx ts.length 0 lo)
theorem FzL.cut {K : PySem.W.Frag} {S : Hp} {ts : List D} {vs : List V} (w : FzL K S ts vs) (lo hi : Option Int) : FzL K S (cutD ts lo hi) (cutV vs lo hi) := by
  unfold cutD cutV
  rw [w.len]
  exact (w.drop _).take _
def oSl (a : O) (lo hi : Option Int) : Option O := match a with
  | .leaf (.list ts) => some (.ls (cutD ts lo hi))
  | .ls ts => some (.ls (cutD ts lo hi))
  | .leaf (.str z) => if z.length ≤ sizeLine then some (.leaf (.str (cutS z lo hi))) else none
  | .leaf (.tuple ts) => some (.leaf (.tuple (cutD ts lo hi)))
  | _ => none
def rSlAll (K : PySem.W.Frag) : V → Option Int → Option Int → Hp → VK → Prop := fun x lo hi H Q => rSlL K x lo hi H Q ∨ (rSlS x lo hi H Q ∨ L2.rSlA K x lo hi H Q)
theorem sl_all : SlR X (rSlAll X.K) := sl_list.or (sl_str.or L2.sl_tupA)
theorem ro_sl {K : PySem.W.Frag} {S H : Hp} {x : V} {o z : O} {fr : List Addr} {lo hi : Option Int} {Q : VK} (le : Same S H) (w : Ow K S H o x fr) (e : oSl o lo hi = some z) (k : ∀ v S' H' fr, Gr S H S' H' → Ow K S' H' z v fr → New H S' fr → Q v H') : rSlAll K x lo hi H Q := by
  have lst : ∀ ts, lstO o = some ts → z = .ls (cutD ts lo hi) → rSlAll K x lo hi H Q := fun ts h1 hz => by
    have key : ∃ a vs, x = .ref a ∧ LsAt K H a vs ∧ FzL K S ts vs := lstO_at le w h1
    obtain ⟨a, vs, rfl, ha, za⟩ := key
    exact .inl ⟨a, vs, rfl, ha.sq, newL le (za.cut lo hi) hz k⟩
  unfold oSl at e
  split at e
  · cases e
    exact lst _ rfl rfl
  · cases e
    exact lst _ rfl rfl
  · split at e
    · rename_i hl
      cases e
      have hx := (ow_leafE w).2
      simp only [Fz] at hx
      exact .inr (.inl ⟨_, hx, hl, k _ S H [] (Gr.refl le) (ow_leaf (by simp only [Fz])) New.nil⟩)
    · cases e
  · rename_i ts
    cases e
    have hx := (ow_leafE w).2
    have hx' := hx
    simp only [Fz] at hx
    obtain ⟨a, vs, rfl, h1, h2⟩ := hx
    refine .inr (.inr ⟨a, vs, rfl, SqT.of (le _ _ h1), fun hw => ?_, fun _ => newT le (h2.cut lo hi) rfl k⟩)
    refine k _ S H [] (Gr.refl le) (ow_leaf ?_) New.nil
    have : cutD ts lo hi = ts := by
      unfold cutD
      rw [← h2.len, hw.1, hw.2, List.drop_zero, Nat.sub_zero, h2.len, List.take_length]
    rw [this]
    exact hx'
  · cases e
def sliceE (ok : Bool) (f fl fh : ESem) : ESem := fun env => (f env).bind fun p => (fl p.2).bind fun l => (fh l.2).bind fun h =>
  if (ok || p.1.isLeaf) = true then (optI l.1).bind fun lo => (optI h.1).bind fun hi => (oSl p.1 lo hi).map fun z => (z, h.2) else none
theorem sliceE_some {ok : Bool} {f fl fh : ESem} {env env' : Env} {z : O} (h : sliceE ok f fl fh env = some (z, env')) : ∃ o e1 l e2 hh lo hi, f env = some (o, e1) ∧ fl e1 = some (l, e2) ∧ fh e2 = some (hh, env') ∧ (ok = true ∨ o.isLeaf = true) ∧ optI l = some lo ∧ optI hh = some hi ∧ oSl o lo hi = some z := by
  unfold sliceE at h
  simp only [Option.bind_eq_some_iff] at h
  obtain ⟨⟨o, e1⟩, h1, ⟨l, e2⟩, h2, ⟨hh, e3⟩, h3, h4⟩ := h
  simp only at h1 h2 h3
  split at h4
  · rename_i hc
    simp only [Bool.or_eq_true] at hc
    simp only [Option.bind_eq_some_iff, Option.map_eq_some_iff, Prod.mk.injEq] at h4
    obtain ⟨lo, h5, hi, h6, zz, h7, rfl, rfl⟩ := h4
    exact ⟨o, e1, l, e2, hh, lo, hi, h1, h2, h3, hc, h5, h6, h7⟩
  · cases h4
theorem se_slice {e : Expr} {l h : Option Expr} {f fl fh : ESem} {q q1 q2 m ok : Bool} {pos p2 : Pos} (he : SE X e f q m) (hl : SO X l fl q1) (hh : SO X h fh q2) (hok : ok = true → m = true ∨ (q1 && q2) = true) :
    SE X (.Subscript e (.Slice l h none p2) pos) (sliceE ok f fl fh) (q && (q1 && q2)) true := by
  refine ⟨PE.imp (pe_slice sl_all he.pe hl.po hh.po) fun σ H Q hw => ?_, fun e env r env' hh' => ?_⟩
  · obtain ⟨env, S, fp, z, env', R, hf, k⟩ := hw
    obtain ⟨o, e1, l', e2, h', lo, hi, h1, h2, h3, hc, h5, h6, h7⟩ := sliceE_some hf
    refine ⟨env, S, fp, o, e1, R, h1, fun x S1 H1 fp1 fr1 R1 E1 w1 g1 n1 => ⟨e1, S1, fp1, l', e2, R1, h2, fun vl S2 H2 fp2 frl R2 E2 w2 g2 n2 => ?_⟩⟩
    have rest : ∀ (Q' : Option Int → Hp → Prop), (∀ H3, Q' hi H3 → Q' hi H3) → True := fun _ _ => trivial
    have second : tE X.K fh q2 true σ H2 fun y H3 => (y = .non ∧ rSlAll X.K x lo none H3 Q) ∨ ∃ i, y = .int i ∧ rSlAll X.K x lo (some i) H3 Q := by
      refine ⟨e2, S2, fp2, h', env', R2, h3, fun vh S3 H3 fp3 frh R3 E3 w3 g3 n3 => ?_⟩
      have w1' : Ow X.K S3 H3 o x fr1 := by
        by_cases hl1 : o.isLeaf = true
        · have e := isLeaf_fr hl1 w1
          subst e
          exact w1.keep (E2.sub.trans E3.sub) (fun a ha => nomatch ha)
        · rcases hok (hc.resolve_right hl1) with e | e
          · exact w1.evo (n1 e).off (E2.trans E3)
          · rw [Bool.and_eq_true] at e
            exact w1.monoK (E2.sub.trans E3.sub) ((g2 e.1).2.trans (g3 e.2).2)
      have fin : rSlAll X.K x lo hi H3 Q := ro_sl R3.le w1' h7 fun v S' H' fr gr w nw => by
        refine k v S' H' fp3 fr (R3.gr gr) (((E1.trans E2).trans E3).trans gr.evo) w (fun e => ?_) (fun _ => Fresh.pre ((E1.trans E2).trans E3) (nw.fresh R3.ins))
        simp only [Bool.and_eq_true] at e
        exact ⟨((g3 e.2.2).1.trans (g2 e.2.1).1).trans (g1 e.1).1, (((g1 e.1).2.trans (g2 e.2.1).2).trans (g3 e.2.2).2).trans gr.ks⟩
      unfold optI at h6
      split at h6
      · cases h6
        have hv := (ow_leafE w3).2
        simp only [Fz] at hv
        exact .inl ⟨hv, fin⟩
      · cases h6
        have hv := (ow_leafE w3).2
        simp only [Fz] at hv
        exact .inr ⟨_, hv, fin⟩
      · cases h6
    unfold optI at h5
    split at h5
    · cases h5
      have hv := (ow_leafE w2).2
      simp only [Fz] at hv
      exact .inl ⟨hv, second⟩
    · cases h5
      have hv := (ow_leafE w2).2
      simp only [Fz] at hv
      exact .inr ⟨_, hv, second⟩
    · cases h5
  · simp only [Bool.and_eq_true] at e
    obtain ⟨o, e1, l', e2, h', lo, hi, h1, h2, h3, hc, h5, h6, h7⟩ := sliceE_some hh'
    rw [hh.qf e.2.2 _ _ _ h3, hl.qf e.2.1 _ _ _ h2, he.qf e.1 _ _ _ h1]
/-- xs[::-1] -/
def revO (a : O) : Option O := match a with
  | .leaf (.list ts) => some (.ls ts.reverse)
  | .ls ts => some (.ls ts.reverse)
  | _ => none
/-! ### calls of built-ins with one argument, with two -/
theorem tCB1 {K : PySem.W.Frag} {r : List V → Hp → VK → Prop} {g : O → Option O} {f : ESem} {q m : Bool} (hr : RO1 K (fun x => r [x]) g) {σ : L2.St} {H : Hp} {Q : VK} (h : tE K (un f g) q true σ H Q) : tCB r (tCons (tE K f q m) tNil) σ H Q := imp1 (r := fun x => r [x]) hr h
theorem tCB2 {K : PySem.W.Frag} {r : List V → Hp → VK → Prop} {g : O → O → Option O} {f1 f2 : ESem} {q1 q2 m1 m2 ok : Bool} (hr : RO2 K (fun x y => r [x, y]) g) (hok : ok = true → m1 = true ∨ q2 = true) (hq1 : q1 = true → ∀ env r env', f1 env = some (r, env') → env' = env) (hq2 : q2 = true → ∀ env r env', f2 env = some (r, env') → env' = env)
    {σ : L2.St} {H : Hp} {Q : VK} (h : tE K (bin ok f1 f2 g) (q1 && q2) true σ H Q) : tCB r (tCons (tE K f1 q1 m1) (tCons (tE K f2 q2 m2) tNil)) σ H Q := imp2 (r := fun x y => r [x, y]) hr hok hq1 hq2 h
section
variable {e a b : Expr} {f f1 f2 : ESem} {q q1 q2 m m1 m2 ok : Bool} {pos p : Pos} {x : Str} {id T : String} {r : List V → Hp → VK → Prop}
theorem se_b1 {g : O → Option O} (hc : CallR X (.builtin id) r) (hr : RO1 X.K (fun x => r [x]) g) (hg : Gl X x) (hm : X.mg x = none) (hv : bootBuiltins x = some (.builtin id)) (h : SE X a f q m) (hn : x ≠ "__name__" := by decide) (hdb : (x == ("__debug__" : Str)) = false := by decide)
    (he : starEach [a] X.env = (false, eval a X.env) :: starEach [] X.env := by rfl) (hpl : (backTo pos (starEach [] X.env)).any (·.1) = false := by rfl) : SE X (.Call (.Name x p) [a] [] pos) (un f g) q true :=
  ⟨PE.imp (pe_callB hc hg hm hv (pa_cons h.pe pa_nil he) hn hdb he hpl) fun _ _ _ hw => tCB1 hr hw, un_qf h.qf⟩
theorem se_t1 {g : O → Option O} (hc : CallR X (.type T) r) (hr : RO1 X.K (fun x => r [x]) g) (hg : Gl X x) (hm : X.mg x = none) (hv : bootBuiltins x = some (.type T)) (h : SE X a f q m) (hn : x ≠ "__name__" := by decide) (hdb : (x == ("__debug__" : Str)) = false := by decide)
    (he : starEach [a] X.env = (false, eval a X.env) :: starEach [] X.env := by rfl) (hpl : (backTo pos (starEach [] X.env)).any (·.1) = false := by rfl) : SE X (.Call (.Name x p) [a] [] pos) (un f g) q true :=
  ⟨PE.imp (pe_callTy hc hg hm hv (pa_cons h.pe pa_nil he) hn hdb he hpl) fun _ _ _ hw => tCB1 hr hw, un_qf h.qf⟩
theorem se_b2 {g : O → O → Option O} (hc : CallR X (.builtin id) r) (hr : RO2 X.K (fun x y => r [x, y]) g) (hg : Gl X x) (hm : X.mg x = none) (hv : bootBuiltins x = some (.builtin id)) (h1 : SE X a f1 q1 m1) (h2 : SE X b f2 q2 m2) (hok : ok = true → m1 = true ∨ q2 = true) (hn : x ≠ "__name__" := by decide) (hdb : (x == ("__debug__" : Str)) = false := by decide)
    (he : starEach [a, b] X.env = (false, eval a X.env) :: starEach [b] X.env := by rfl) (he2 : starEach [b] X.env = (false, eval b X.env) :: starEach [] X.env := by rfl) (hpl : (backTo pos (starEach [b] X.env)).any (·.1) = false := by rfl) : SE X (.Call (.Name x p) [a, b] [] pos) (bin ok f1 f2 g) (q1 && q2) true :=
  ⟨PE.imp (pe_callB hc hg hm hv (pa_cons h1.pe (pa_cons h2.pe pa_nil he2) he) hn hdb he hpl) fun _ _ _ hw => tCB2 hr hok h1.qf h2.qf hw, bin_qf h1.qf h2.qf⟩
end
end
end Mv

set_option Elab.async false
set_option linter.all false
set_option maxRecDepth 100000
set_option maxHeartbeats 2000000
/-! sorted over a tuple: as the library's sorted over a list -/
namespace PyProof.Rows
open PySem
section
variable {prog : Program} {w : World} {A : Around} {E : Value → Shared → Prop} {s : Shared}
theorem mv_collect_tuple {l : Addr} {vs : List Value} {Q : List Value → Shared → Prop} (hl : s.heap.IsTuple l vs.toArray)
    (h : Q vs { s with heap := (s.heap.push (seqObj "list" #[] 0)).update s.heap.objs.size (Obj.mapSeq (· ++ vs.toArray)) }) (hsz : vs.length ≤ sizeLine) :
    wpAny (model prog w) A (collect (.ref l)) Q E s := by
  obtain ⟨o, ho, hc, n, hd⟩ := id hl
  unfold collect
  refine wpAny_bind (wpAny_runValue (codeAny_builtin entry_proto_collect' ?_))
  show wpAny _ _ (do again (.builtin "list.__iadd__" ⟨[← newList [], .ref l], []⟩)) _ _ s
  refine wpAny_bind (wpAny_newList (wpAny_pure ⟨Code.quiet_builtin _ (by decide +kernel), codeAny_builtin entry_list_iadd' ?_⟩))
  show wpAny _ _ (Builtin.List.listExtendWith (.ref s.heap.objs.size) (.ref l) (.ref s.heap.objs.size)) _ _ { s with heap := s.heap.push (seqObj "list" #[] 0) }
  unfold Builtin.List.listExtendWith
  have ho' : (s.heap.push (seqObj "list" #[] 0)).get? l = some o := Heap.get?_push_of_some _ ho
  refine wpAny_bind (wpAny_typeOf (T := "tuple") ⟨o, ho', hc⟩ ?_)
  have ht : (Value.type "tuple" == Value.type "tuple") = true := by rfl
  rw [if_pos (by rw [ht]; simp)]
  refine wpAny_bind (listItems_at ho' hd ?_)
  refine wpAny_bind (listItems_at (xs := #[]) (n := 0) (Heap.get?_push_size _ rfl) rfl ?_)
  rw [if_neg (by simp)]
  refine wpAny_bind (listUpdate_at (xs := #[]) (n := 0) (Heap.get?_push_size _ rfl) rfl ?_ (Nat.zero_le _) (by show (#[] ++ vs.toArray).size ≤ sizeLine + 1; simp only [Array.size_append, List.size_toArray, List.length_nil]; omega))
  refine wpAny_pure ?_
  show wpAny (model prog w) A (do
      let o ← load s.heap.objs.size
      match o.data with
      | .seq xs _ => pure xs.toList
      | _ => unsupported "internal:collect") Q E { s with heap := (s.heap.push (seqObj "list" #[] 0)).update s.heap.objs.size (Obj.mapSeq (· ++ vs.toArray)) }
  refine wpAny_bind (wpAny_load (get?_update_seq (Heap.get?_push_size _ rfl) _) ?_)
  show wpAny _ _ (pure ((#[] : Array Value) ++ vs.toArray).toList) Q E _
  rw [show ((#[] : Array Value) ++ vs.toArray).toList = vs by simp]
  exact wpAny_pure h
end
end PyProof.Rows
namespace PySem.W
open PySem PySem.Calls PyProof.Rows
section
variable {prog : Program} {w : World} {A : Around} {E : Value → Shared → Prop} {s : Shared} {κ : PyProof.Rows.KeyKind}
theorem mv_sorted_of_sortT {l : Addr} {vs : List Value} {kw : List (Str × Value)} {Q : Value → Shared → Prop} (hl : s.heap.IsTuple l vs.toArray) (hL : vs.length ≤ sizeLine) (ha1 : argsOk "sorted" ⟨[.ref l], kw⟩) (ha2 : ∀ x, argsOk "list.sort" ⟨[.ref x], kw⟩)
    (body : ∀ E' : Value → Shared → Prop, wpAny (model prog w) A.in1.in1 (Builtin.«list.sort» ⟨[.ref (s.heap.objs.size + 1)], kw⟩) (fun f s' => f = .done (.ret .none) ∧ Q (.ref (s.heap.objs.size + 1)) s') E' { s with heap := copyHeap s.heap vs }) :
    wpAny (model prog w) A (call (.builtin "sorted") [.ref l] kw) Q E s := by
  refine call_function_entry_kw kind_sorted plain_sorted entry_sorted ha1 ?_
  unfold Builtin.«sorted»
  refine wpAny_bind (m := checkCount "sorted" 1 1 _) (wpAny_pure ?_)
  refine wpAny_bind (mv_collect_tuple hl ?_ hL)
  refine wpAny_bind (wpAny_newList ?_ hL)
  have hsz : ((s.heap.push (seqObj "list" #[] 0)).update s.heap.objs.size (Obj.mapSeq (· ++ vs.toArray))).objs.size = s.heap.objs.size + 1 := by
    rw [Heap.size_update, size_push']
  show wpAny _ _ _ _ _ { s with heap := copyHeap s.heap vs }
  rw [hsz]
  refine wpAny_bind (wpAny_holding (wpAny_call_entry_kw slot_list_sort ⟨_, copyHeap_at s.heap vs, rfl⟩ entry_list_sort ?body (ha2 _)))
  case body =>
    show wpAny (model prog w) A.in1.in1 (Builtin.«list.sort» ⟨[.ref (s.heap.objs.size + 1)], kw⟩) _ _ _
    refine wpAny_mono (body _) (fun f s' hf => ?_) fun _ _ e => e
    obtain ⟨rfl, hq⟩ := hf
    exact ⟨_, rfl, wpAny_pure ⟨_, rfl, hq⟩⟩
theorem mv_sorted_valsT {l : Addr} {vs : List Value} {Q : Value → Shared → Prop} (hl : s.heap.IsTuple l vs.toArray) (S : SortsAt prog w A.in1.in1 { s with heap := sortingHeap (copyHeap s.heap vs) (s.heap.objs.size + 1) vs } κ vs) (hL : vs.length ≤ sizeLine)
    (h : Q (.ref (s.heap.objs.size + 1)) { s with heap := sortedAll s.heap vs (sortVals κ false vs vs).toArray }) : wpAny (model prog w) A (call (.builtin "sorted") [.ref l]) Q E s :=
  mv_sorted_of_sortT hl hL (args_sorted1 _) (fun _ => args_list_sort _) fun _ => list_sort_vals (s := { s with heap := copyHeap s.heap vs }) (copyHeap_at s.heap vs) S hL ⟨rfl, h⟩
theorem mv_sorted_any {β : Type} {vs : List Value} {bs : List β} {enc : β → PyData} {R : Value → β → Prop} {l : Addr} {Q : Value → Shared → Prop} (hl : s.heap.IsList l vs.toArray ∨ s.heap.IsTuple l vs.toArray) (e : EachIs R vs bs) (er : EachIs (fun v b => ∃ as, Reads s.heap v (enc b) as) vs bs) (hal : AllAlike (bs.map enc)) (hk : Sortable (bs.map enc)) (hL : bs.length ≤ sizeLine)
    (hu : ∀ b, b ∈ bs → A.units + 2 + (enc b).depth < cLine) (h : ∀ out, out.length = bs.length → EachIs R out (bs.mergeSort (dataLe false enc)) → Q (.ref (s.heap.objs.size + 1)) { s with heap := sortedAll s.heap vs (List.toArray out) }) :
    wpAny (model prog w) A (call (.builtin "sorted") [.ref l]) Q E s := by
  have er' : EachIs (fun v b => ∃ as, Reads (sortingHeap (copyHeap s.heap vs) (s.heap.objs.size + 1) vs) v (enc b) as) vs bs := er.mono fun _ _ ⟨as, r⟩ => ⟨as, PyProof.Rows.Reads.keeps (fun _ _ => sorting_copy_old) r⟩
  have S := SortsAt.data (prog := prog) (w := w) (A := A.in1.in1) (s := { s with heap := sortingHeap (copyHeap s.heap vs) (s.heap.objs.size + 1) vs }) (each_map (R := fun v d => ∃ as, Reads (sortingHeap (copyHeap s.heap vs) (s.heap.objs.size + 1) vs) v d as) enc er') hal hk (bound_map hu)
  have fin := h _ (by rw [sortVals_length false rfl]; exact e.length) (sortVals_data false e er' hal)
  rcases hl with hl | hl
  · exact sorted_vals hl S (by rw [e.length]; exact hL) fin
  · exact mv_sorted_valsT hl S (by rw [e.length]; exact hL) fin
end
end PySem.W
namespace Mv
open PySem PySem.Spec PyProof.Rows L2
section
variable {X : Cx}
/-! ### sorted -/
open PySem.W in
def sortOk (ts : List D) : Prop := AllAlike ts ∧ Sortable ts ∧ ts.all (okd 49) = true ∧ ts.length ≤ 1000000
def sortD (ts : List D) : List D := ts.mergeSort (PySem.W.dataLe false id)
def rSortA (K : PySem.W.Frag) : List V → Hp → VK → Prop := fun xs H Q => ∃ a vs ts, xs = [.ref a] ∧ (LsAt K H a vs ∨ H a = some (.tup vs)) ∧ FzL K H ts vs ∧ sortOk ts ∧
  ∀ p out, H p = none → (∃ z : List (V × D), z.map (·.2) = sortD ts ∧ z.map (·.1) = out ∧ z.Perm (vs.zip ts)) → Q (.ref p) (upd H p (.lst out))
theorem each_zip : ∀ {vs : List V} {us : List Value} {ts : List D}, Vals vs us → vs.length = ts.length → PySem.W.EachIs (fun u (p : V × D) => RelV p.1 u) us (vs.zip ts)
  | [], _, _, .nil, _ => .nil
  | v :: vs, u :: us, t :: ts, .cons r rr, h => .cons r (each_zip rr (by simpa using h))
  | v :: vs, u :: us, [], .cons r rr, h => by simp at h
theorem each_reads {h : Heap} {us : List Value} {ts : List D} {as : List Addr} (r : ReadsAll h us ts as) : ∀ {vs : List V}, vs.length = ts.length → PySem.W.EachIs (fun u (p : V × D) => ∃ as, Reads h u p.2 as) us (vs.zip ts) := by
  induction ts generalizing us as with
  | nil =>
    cases r
    intro vs h
    have : vs = [] := List.length_eq_zero_iff.mp h
    subst this
    exact .nil
  | cons t ts ih =>
    cases r with
    | cons r1 r2 =>
      intro vs h
      cases vs with
      | nil => simp at h
      | cons v vs => exact .cons ⟨_, r1⟩ (ih r2 (by simpa using h))
theorem each_vals : ∀ {out : List Value} {z : List (V × D)}, PySem.W.EachIs (fun u (p : V × D) => RelV p.1 u) out z → Vals (z.map (·.1)) out
  | _, _, .nil => .nil
  | _, _, .cons r t => .cons r (each_vals t)
theorem zip_snd {vs : List V} {ts : List D} (h : vs.length = ts.length) : (vs.zip ts).map (·.2) = ts := by
  rw [List.map_snd_zip]
  omega
theorem cr_sortA (hu : X.A.units + 100 < cLine) : CallR X (.builtin "sorted") (rSortA X.K) := by
  intro pins s σ H vs us Q I r h
  obtain ⟨a, xs, ts, rfl, hs, hz, ⟨h1, h2, h3, h4⟩, q⟩ := h
  obtain ⟨p1, d1⟩ := okd_all (n := 49) fun t m => okd_spec (List.all_eq_true.mp h3 t m)
  have hl := hz.len
  have hs' : ∃ its : List Value, Vals xs its ∧ (s.heap.IsList a its.toArray ∨ s.heap.IsTuple a its.toArray) := by
    rcases hs with hs | hs
    · obtain ⟨its, rv, hp, _⟩ := I.list hs.sq
      exact ⟨its, rv, .inl hp.isList⟩
    · obtain ⟨its, rv, hp, _⟩ := I.tuple (SqT.of hs)
      exact ⟨its, rv, .inr hp⟩
  obtain ⟨its, rv, hp⟩ := hs'
  rw [Vals.ref1 r]
  obtain ⟨as, ra⟩ := fzL_reads I p1 hz rv
  refine PySem.W.mv_sorted_any (bs := xs.zip ts) (enc := fun p => p.2) hp (each_zip rv hl) (each_reads ra hl) (by rw [zip_snd hl]; exact h1) (by rw [zip_snd hl]; exact h2) ?_ (fun b hb => ?_) fun out ho eo => ?_
  · rw [List.length_zip, hl, Nat.min_self]
    exact Nat.le_trans h4 (by decide)
  · have hb2 : b.2 ∈ ts := by
      have := List.mem_map_of_mem (f := (·.2)) hb
      rw [zip_snd hl] at this
      exact this
    have := (okd_spec (List.all_eq_true.mp h3 _ hb2)).2
    omega
  · obtain ⟨ep, he'⟩ := PyProof.Rows.sortedAll_at s.heap its out.toArray
    have hperm := List.mergeSort_perm (xs.zip ts) (PySem.W.dataLe false fun p => p.2)
    have hv := each_vals eo
    have hlen : ((List.mergeSort (xs.zip ts) (PySem.W.dataLe false fun p => p.2)).map (·.1)).length ≤ sizeLine := by
      rw [List.length_map, hperm.length_eq, List.length_zip, hl, Nat.min_self]
      exact Nat.le_trans h4 (by decide)
    refine ⟨.ref _, upd H (s.heap.objs.size + 1) (.lst ((List.mergeSort (xs.zip ts) (PySem.W.dataLe false fun p => p.2)).map (·.1))), I.laid (t' := s.toks) (fun _ _ => PyProof.Rows.sortedAll_old) (Nat.le_succ _) ⟨hlen, out, ep, hv, by simpa using he'⟩, rfl, q _ _ (I.hok.fresh (Nat.le_succ _)) ⟨_, ?_, rfl, hperm⟩⟩
    unfold sortD
    refine (PySem.W.sort_maps (r := PySem.W.dataLe false fun p : V × D => p.2) (s := PySem.W.dataLe false id) (fun p : V × D => p.2) (fun a _ b _ => rfl)).trans ?_
    rw [zip_snd hl]
open Classical in
noncomputable def oSort (a : O) : Option O := (seqO a).bind fun ts => if sortOk ts then some (.ls (sortD ts)) else none
theorem fz_perm {K : PySem.W.Frag} {S : Hp} : ∀ {z : List (V × D)}, (∀ p ∈ z, Fz K S p.2 p.1) → FzL K S (z.map (·.2)) (z.map (·.1))
  | [], _ => FzL.nil
  | p :: z, h => FzL.cons (h p List.mem_cons_self) (fz_perm fun q m => h q (List.mem_cons_of_mem _ m))
theorem fz_zip {K : PySem.W.Frag} {S : Hp} : ∀ {ts : List D} {vs : List V}, FzL K S ts vs → ∀ p ∈ vs.zip ts, Fz K S p.2 p.1
  | [], vs, h, p, m => by simp at m
  | t :: ts, vs, h, p, m => by
    obtain ⟨v, r, rfl, h1, h2⟩ := h.inv
    rw [List.zip_cons_cons] at m
    rcases List.mem_cons.mp m with rfl | m
    · exact h1
    · exact fz_zip h2 p m
theorem ro_sort {K : PySem.W.Frag} : RO1 K (fun x => rSortA K [x]) oSort := by
  intro S H x o fr1 z Q le w e k
  unfold oSort at e
  simp only [Option.bind_eq_some_iff] at e
  obtain ⟨ts, h1, h2⟩ := e
  split at h2
  · rename_i hok
    cases h2
    obtain ⟨a, vs, rfl, ha, za⟩ := seqO_S le w h1
    refine ⟨a, vs, ts, rfl, ha, za.same le, hok, fun p out hp ⟨zz, e1, e2, e3⟩ => ?_⟩
    have wz := fz_perm (K := K) (S := S) (z := zz) fun q m => fz_zip za q (e3.mem_iff.mp m)
    rw [e1, e2] at wz
    exact newL le wz rfl k p hp
  · cases h2

/-! ### len, list, tuple -/
def oLen (a : O) : Option O := ((seqO a).map fun ts => O.leaf (.int ts.length)).or (match a with
  | .leaf (.str z) => if z.length ≤ sizeLine then some (.leaf (.int z.length)) else none
  | _ => none)
def rLenA (K : PySem.W.Frag) : List V → Hp → VK → Prop := fun xs H Q => ∃ x n, xs = [x] ∧ LenV K x H n ∧ Q (.int n) H
theorem ro_len {K : PySem.W.Frag} : RO1 K (fun x => rLenA K [x]) oLen := by
  intro S H x o fr1 z Q le w e k
  unfold oLen at e
  cases q : seqO o with
  | some ts =>
    rw [q] at e
    have e' : O.leaf (.int ts.length) = z := Option.some.inj e
    subst e'
    obtain ⟨a, vs, rfl, ha, za⟩ := seqO_S le w q
    refine ⟨_, ts.length, rfl, ?_, k _ S H [] (Gr.refl le) (ow_leaf (by simp only [Fz])) New.nil⟩
    rw [← za.len]
    rcases ha with ha | ha
    · exact .inl ⟨vs, ha.sq, rfl⟩
    · exact .inr ⟨vs, SqT.of ha, rfl⟩
  | none =>
    rw [q] at e
    cases o with
    | leaf t =>
      cases t with
      | str zz =>
        have e' : (if zz.length ≤ sizeLine then some (O.leaf (.int zz.length)) else none) = some z := e
        split at e'
        · rename_i hl
          cases e'
          have hx := (ow_leafE w).2
          simp only [Fz] at hx
          subst hx
          exact ⟨_, zz.length, rfl, ⟨hl, rfl⟩, k _ S H [] (Gr.refl le) (ow_leaf (by simp only [Fz])) New.nil⟩
        · cases e'
      | _ => cases e
    | _ => cases e
def oList (a : O) : Option O := (seqO a).map .ls
theorem ro_list {K : PySem.W.Frag} : RO1 K (fun x => (fun xs H Q => ∃ p ys, xs = [.ref p] ∧ (SqL K H p ys ∨ SqT K H p ys) ∧ ∀ l, H l = none → Q (.ref l) (upd H l (.lst ys)) : List V → Hp → VK → Prop) [x]) oList := by
  intro S H x o fr1 z Q le w e k
  unfold oList at e
  simp only [Option.map_eq_some_iff] at e
  obtain ⟨ts, h1, rfl⟩ := e
  obtain ⟨a, vs, rfl, ha, za⟩ := seqO_S le w h1
  exact ⟨a, vs, rfl, ha.imp LsAt.sq SqT.of, newL le za rfl k⟩
def oTuple (a : O) : Option O := (seqO a).map fun ts => .leaf (.tuple ts)
theorem ro_tuple {K : PySem.W.Frag} : RO1 K (fun x => (fun xs H Q => ∃ p ys, xs = [.ref p] ∧ ((SqL K H p ys ∧ ∀ l, H l = none → Q (.ref l) (upd H l (.tup ys))) ∨ (SqT K H p ys ∧ Q (.ref p) H)) : List V → Hp → VK → Prop) [x]) oTuple := by
  intro S H x o fr1 z Q le w e k
  unfold oTuple at e
  simp only [Option.map_eq_some_iff] at e
  obtain ⟨ts, h1, rfl⟩ := e
  cases q : lstO o with
  | some us =>
    have : ts = us := by
      unfold seqO at h1
      rw [q] at h1
      exact (Option.some.inj h1).symm
    subst this
    obtain ⟨a, vs, rfl, ha, za⟩ := lstO_at le w q
    exact ⟨a, vs, rfl, .inl ⟨ha.sq, newT le za rfl k⟩⟩
  | none =>
    have : tupO o = some ts := by
      unfold seqO at h1
      rw [q] at h1
      exact h1
    obtain ⟨rfl, rfl, f1⟩ := tupO_S w this
    obtain ⟨a, vs, rfl, ha, za⟩ := tupO_at le w this
    exact ⟨a, vs, rfl, .inr ⟨ha, k _ S H [] (Gr.refl le) (ow_leaf f1) New.nil⟩⟩
end
end Mv

set_option Elab.async false
set_option linter.all false
set_option maxRecDepth 100000
set_option maxHeartbeats 2000000
namespace Mv
open PySem PySem.Spec PyProof.Rows L2

/-! ### a name's own thing goes; is frozen -/
def mvE (i : Nat) : ESem := fun env => match env[i]? with
  | some (some o) => some (o, env.set i none)
  | _ => none
def fzE (i : Nat) : ESem := fun env => match env[i]? with
  | some (some o) => o.frz.map fun t => (.leaf t, env.set i (some (.leaf t)))
  | _ => none
section
variable {X : Cx} {e : Expr} {i : Nat}
theorem se_mv (h : PE X e (tVar i)) : SE X e (mvE i) false true := by
  refine ⟨PE.imp h fun σ H Q hw => ?_, fun z => nomatch z⟩
  obtain ⟨env, S, fp, z, env', R, he, k⟩ := hw
  unfold mvE at he
  split at he
  · rename_i o e0
    cases he
    obtain ⟨v, e2, w⟩ := R.sl i z e0
    refine ⟨v, e2, k v S H _ (fp i) R.drop Evo.drop w (fun z => nomatch z) fun _ => ⟨R.nd i, fun a m => .inr ⟨i, m⟩, fun a m j z => ?_, R.un i⟩⟩
    by_cases hj : j = i
    · rw [if_pos hj] at z; cases z
    · rw [if_neg hj] at z
      exact hj (R.dj j i a z m)
  · cases he
end

/-! ### places: a name, or what a name's dict has at a key -/
inductive Pth where
  | top
  | key (k : Key)
  | ix (n : Int)
  | fld (C : Addr) (f : Str)
def lookF : List (Str × O) → Str → Option O
  | [], _ => none
  | (k', o) :: r, k => if k' = k then some o else lookF r k
def setF : List (Str × O) → Str → O → List (Str × O)
  | [], _, _ => []
  | (k', o) :: r, k, o' => if k' = k then (k', o') :: r else (k', o) :: setF r k o'
def lookO : List (Key × O) → Key → Option O
  | [], _ => none
  | (k', o) :: r, k => if k' = k then some o else lookO r k
def setK : List (Key × O) → Key → O → List (Key × O)
  | [], _, _ => []
  | (k', o) :: r, k, o' => if k' = k then (k', o') :: r else (k', o) :: setK r k o'
def putI (os : List O) (n : Int) (o' : O) : List O := match ixN os.length n with
  | some j => os.set j o'
  | none => os
def getP (o : O) : Pth → Option O
  | .top => some o
  | .key k => match o with
    | .dic kvs => lookO kvs k
    | _ => none
  | .ix n => match o with
    | .tup os => atI os n
    | .lso os => atI os n
    | _ => none
  | .fld C f => match o with
    | .obj C' fs => if C' = C then lookF fs f else none
    | _ => none
def putP (o : O) (p : Pth) (o' : O) : O := match p with
  | .top => o'
  | .key k => match o with
    | .dic kvs => .dic (setK kvs k o')
    | x => x
  | .ix n => match o with
    | .tup os => .tup (putI os n o')
    | .lso os => .lso (putI os n o')
    | x => x
  | .fld _ f => match o with
    | .obj C fs => .obj C (setF fs f o')
    | x => x
def PAt (σ : L2.St) (H : Hp) (i : Nat) (p : Pth) (v : V) : Prop := match p with
  | .top => σ[i]? = some (some v)
  | .key k => ∃ a kvs, σ[i]? = some (some (.ref a)) ∧ H a = some (.dK kvs) ∧ valV kvs k = some v
  | .ix n => ∃ a vs, σ[i]? = some (some (.ref a)) ∧ (H a = some (.tup vs) ∨ H a = some (.lst vs)) ∧ atI vs n = some v
  | .fld C f => ∃ a dx kvs, σ[i]? = some (some (.ref a)) ∧ H a = some (.ins C dx kvs) ∧ kvs.lookup f = some v
section
variable {K : PySem.W.Frag} {S S' H H' : Hp}
theorem lookO_at : ∀ {kvs : List (Key × O)} {vs : List (Key × V)} {fr : List Addr} {k : Key} {o : O}, OwK K S H kvs vs fr → fr.Nodup → lookO kvs k = some o →
    ∃ v f1, valV vs k = some v ∧ Ow K S H o v f1 ∧ (∀ a ∈ f1, a ∈ fr) ∧ f1.Nodup ∧ ∀ o' H', Ow K S H' o' v f1 → (∀ a ∈ fr, a ∉ f1 → H' a = H a) → OwK K S H' (setK kvs k o') vs fr
  | [], vs, fr, k, o, h, n, e => by cases e
  | (k', o1) :: r, vs, fr, k, o, h, n, e => by
    simp only [OwK] at h
    obtain ⟨v, vr, f1, f2, rfl, rfl, h1, h2⟩ := h
    rw [List.nodup_append] at n
    unfold lookO at e
    by_cases hk : k' = k
    · rw [if_pos hk] at e
      cases e
      refine ⟨v, f1, valV_pos hk, h1, fun a m => List.mem_append_left _ m, n.1, fun o' H' w kp => ?_⟩
      unfold setK
      rw [if_pos hk]
      simp only [OwK]
      exact ⟨v, vr, f1, f2, rfl, rfl, w, h2.keep (Same.refl _) fun a m => kp a (List.mem_append_right _ m) fun z => n.2.2 a z a m rfl⟩
    · rw [if_neg hk] at e
      obtain ⟨v', f', e1, w, sub, nd, lens⟩ := lookO_at h2 n.2.1 e
      refine ⟨v', f', by rw [valV_neg hk]; exact e1, w, fun a m => List.mem_append_right _ (sub a m), nd, fun o' H' w' kp => ?_⟩
      unfold setK
      rw [if_neg hk]
      simp only [OwK]
      exact ⟨v, vr, f1, f2, rfl, rfl, h1.keep (Same.refl _) fun a m => kp a (List.mem_append_left _ m) fun z => n.2.2 a m a (sub a z) rfl, lens o' H' w' fun a m z => kp a (List.mem_append_right _ m) z⟩
theorem lookV_pos {k k' : Str} {v : V} {r : List (Str × V)} (h : k' = k) : ((k', v) :: r).lookup k = some v := by
  subst h
  rw [List.lookup_cons, beq_self_eq_true]
theorem lookV_neg {k k' : Str} {v : V} {r : List (Str × V)} (h : ¬k' = k) : ((k', v) :: r).lookup k = r.lookup k := by
  have e : (k == k') = false := by
    rw [beq_eq_false_iff_ne]
    exact fun z => h z.symm
  rw [List.lookup_cons, e]
theorem lookF_at : ∀ {kvs : List (Str × O)} {vs : List (Str × V)} {fr : List Addr} {k : Str} {o : O}, OwF K S H kvs vs fr → fr.Nodup → lookF kvs k = some o →
    ∃ v f1, vs.lookup k = some v ∧ Ow K S H o v f1 ∧ (∀ a ∈ f1, a ∈ fr) ∧ f1.Nodup ∧ ∀ o' H', Ow K S H' o' v f1 → (∀ a ∈ fr, a ∉ f1 → H' a = H a) → OwF K S H' (setF kvs k o') vs fr
  | [], vs, fr, k, o, h, n, e => by cases e
  | (k', o1) :: r, vs, fr, k, o, h, n, e => by
    simp only [OwF] at h
    obtain ⟨v, vr, f1, f2, rfl, rfl, h1, h2⟩ := h
    rw [List.nodup_append] at n
    unfold lookF at e
    by_cases hk : k' = k
    · rw [if_pos hk] at e
      cases e
      refine ⟨v, f1, lookV_pos hk, h1, fun a m => List.mem_append_left _ m, n.1, fun o' H' w kp => ?_⟩
      unfold setF
      rw [if_pos hk]
      simp only [OwF]
      exact ⟨v, vr, f1, f2, rfl, rfl, w, h2.keep (Same.refl _) fun a m => kp a (List.mem_append_right _ m) fun z => n.2.2 a z a m rfl⟩
    · rw [if_neg hk] at e
      obtain ⟨v', f', e1, w, sub, nd, lens⟩ := lookF_at h2 n.2.1 e
      refine ⟨v', f', by rw [lookV_neg hk]; exact e1, w, fun a m => List.mem_append_right _ (sub a m), nd, fun o' H' w' kp => ?_⟩
      unfold setF
      rw [if_neg hk]
      simp only [OwF]
      exact ⟨v, vr, f1, f2, rfl, rfl, h1.keep (Same.refl _) fun a m => kp a (List.mem_append_left _ m) fun z => n.2.2 a m a (sub a z) rfl, lens o' H' w' fun a m z => kp a (List.mem_append_right _ m) z⟩
theorem owl_len : ∀ {os : List O} {vs : List V} {fr : List Addr}, OwL K S H os vs fr → vs.length = os.length
  | [], vs, fr, h => by
    simp only [OwL] at h
    rw [h.1]
    rfl
  | o :: r, vs, fr, h => by
    simp only [OwL] at h
    obtain ⟨v, vr, f1, f2, rfl, rfl, h1, h2⟩ := h
    rw [List.length_cons, List.length_cons, owl_len h2]
theorem nth_at : ∀ {os : List O} {vs : List V} {fr : List Addr} {j : Nat} {o : O}, OwL K S H os vs fr → fr.Nodup → os[j]? = some o →
    ∃ v f1, vs[j]? = some v ∧ Ow K S H o v f1 ∧ (∀ a ∈ f1, a ∈ fr) ∧ f1.Nodup ∧ ∀ o' H', Ow K S H' o' v f1 → (∀ a ∈ fr, a ∉ f1 → H' a = H a) → OwL K S H' (os.set j o') vs fr
  | [], vs, fr, j, o, h, n, e => by cases e
  | o1 :: r, vs, fr, 0, o, h, n, e => by
    simp only [OwL] at h
    obtain ⟨v, vr, f1, f2, rfl, rfl, h1, h2⟩ := h
    rw [List.nodup_append] at n
    cases e
    refine ⟨v, f1, rfl, h1, fun a m => List.mem_append_left _ m, n.1, fun o' H' w kp => ?_⟩
    simp only [List.set_cons_zero, OwL]
    exact ⟨v, vr, f1, f2, rfl, rfl, w, h2.keep (Same.refl _) fun a m => kp a (List.mem_append_right _ m) fun z => n.2.2 a z a m rfl⟩
  | o1 :: r, vs, fr, j + 1, o, h, n, e => by
    simp only [OwL] at h
    obtain ⟨v, vr, f1, f2, rfl, rfl, h1, h2⟩ := h
    rw [List.nodup_append] at n
    obtain ⟨v', f', e1, w, sub, nd, lens⟩ := nth_at h2 n.2.1 (j := j) (by simpa using e)
    refine ⟨v', f', by simpa using e1, w, fun a m => List.mem_append_right _ (sub a m), nd, fun o' H' w' kp => ?_⟩
    simp only [List.set_cons_succ, OwL]
    exact ⟨v, vr, f1, f2, rfl, rfl, h1.keep (Same.refl _) fun a m => kp a (List.mem_append_left _ m) fun z => n.2.2 a m a (sub a z) rfl, lens o' H' w' fun a m z => kp a (List.mem_append_right _ m) z⟩
theorem atI_at {os : List O} {vs : List V} {fr : List Addr} {n : Int} {o : O} (h : OwL K S H os vs fr) (nd : fr.Nodup) (e : atI os n = some o) :
    ∃ v f1, atI vs n = some v ∧ Ow K S H o v f1 ∧ (∀ a ∈ f1, a ∈ fr) ∧ f1.Nodup ∧ ∀ o' H', Ow K S H' o' v f1 → (∀ a ∈ fr, a ∉ f1 → H' a = H a) → OwL K S H' (putI os n o') vs fr := by
  unfold atI at e ⊢
  unfold putI
  rw [owl_len h]
  cases q : ixN os.length n with
  | none => rw [q] at e; cases e
  | some j =>
    rw [q] at e
    exact nth_at h nd (j := j) e
/-- a place, looked at and changed -/
theorem place {σ : L2.St} {env : Env} {fp : Nat → List Addr} {i : Nat} {root o : O} {p : Pth} (R : Rel K env σ S H fp) (e0 : env[i]? = some (some root)) (e1 : getP root p = some o) :
    ∃ v f1, PAt σ H i p v ∧ Ow K S H o v f1 ∧ (∀ a ∈ f1, a ∈ fp i) ∧ f1.Nodup ∧ ∀ o' H', Ow K S H' o' v f1 → (∀ a, a ∉ f1 → H' a = H a) → (∀ a ∈ f1, Liv H' a) → Rel K (env.set i (some (putP root p o'))) σ S H' fp ∧ Evo S H fp S H' fp := by
  obtain ⟨v0, e2, w0⟩ := R.sl i root e0
  have fin : ∀ (f1 : List Addr) (root' : O) (H' : Hp), (∀ a ∈ f1, a ∈ fp i) → Ow K S H' root' v0 (fp i) → (∀ a, a ∉ f1 → H' a = H a) → (∀ a ∈ f1, Liv H' a) → Rel K (env.set i (some root')) σ S H' fp ∧ Evo S H fp S H' fp := fun f1 root' H' sub w kp ns => by
    have hlt : i < env.length := (List.getElem?_eq_some_iff.mp e0).1
    refine ⟨⟨fun a u ha => ?_, by rw [List.length_set]; exact R.len, fun j o' ej => ?_, R.nd, R.dj, R.un, fun j a m => ?_, R.tb.mono fun a u e f => ⟨(kp a fun z => by rw [(R.ins i a (sub a z)).not e] at f; cases f).trans e, rfl⟩⟩, ⟨Same.refl _, fun a ha hn => ⟨kp a fun z => hn i (sub a z), rfl⟩, fun j a m => .inr ⟨j, m⟩, fun a h => ?_⟩⟩
    · rw [kp a fun z => by rw [R.un i a (sub a z)] at ha; cases ha]
      exact R.le a u ha
    · by_cases hj : i = j
      · subst hj
        rw [List.getElem?_set_self hlt] at ej
        cases ej
        exact ⟨v0, e2, w⟩
      · rw [List.getElem?_set_ne hj] at ej
        obtain ⟨v', e3, w'⟩ := R.sl j o' ej
        exact ⟨v', e3, w'.keep (Same.refl _) fun a m => kp a fun z => hj (R.dj i j a (sub a z) m)⟩
    · by_cases q : a ∈ f1
      · exact ns a q
      · exact (R.ins j a m).eq (kp a q)
    · by_cases q : a ∈ f1
      · refine ⟨(ns a q).ne, fun vs e => ?_⟩
        obtain ⟨u, e2, f⟩ := R.ins i a (sub a q)
        rw [e2] at e
        cases e
        cases f
      · rw [kp a q]
        exact ⟨h, fun _ e => e⟩
  cases p with
  | top =>
    cases e1
    exact ⟨v0, fp i, e2, w0, fun a m => m, R.nd i, fun o' H' w kp ns => fin (fp i) o' H' (fun a m => m) w kp ns⟩
  | key k =>
    cases root with
    | dic kvs =>
      simp only [Ow] at w0
      obtain ⟨a, vs, fr, rfl, ef, hk, hH⟩ := w0
      have nd := R.nd i
      rw [ef] at nd
      obtain ⟨n1, n2⟩ := List.nodup_cons.mp nd
      obtain ⟨v, f1, h1, h2, sub, nd1, lens⟩ := lookO_at hk n2 e1
      have sub' : ∀ b ∈ f1, b ∈ fp i := fun b m => by rw [ef]; exact List.mem_cons_of_mem _ (sub b m)
      refine ⟨v, f1, ⟨a, vs, e2, hH, h1⟩, h2, sub', nd1, fun o' H' w kp ns => fin f1 (.dic (setK kvs k o')) H' sub' ?_ kp ns⟩
      simp only [Ow]
      exact ⟨a, vs, fr, rfl, ef, lens o' H' w fun b m z => kp b z, by rw [kp a fun z => n1 (sub a z)]; exact hH⟩
    | _ => cases e1
  | ix n =>
    cases root with
    | tup os =>
      simp only [Ow] at w0
      obtain ⟨a, vs, rfl, hS, hL⟩ := w0
      obtain ⟨v, f1, h1, h2, sub, nd1, lens⟩ := atI_at hL (R.nd i) e1
      refine ⟨v, f1, ⟨a, vs, e2, .inl (R.le _ _ hS), h1⟩, h2, sub, nd1, fun o' H' w kp ns => fin f1 (.tup (putI os n o')) H' sub ?_ kp ns⟩
      simp only [Ow]
      exact ⟨a, vs, rfl, hS, lens o' H' w fun b m z => kp b z⟩
    | lso os =>
      simp only [Ow] at w0
      obtain ⟨a, vs, fr, rfl, ef, hL, hH⟩ := w0
      have nd := R.nd i
      rw [ef] at nd
      obtain ⟨n1, n2⟩ := List.nodup_cons.mp nd
      obtain ⟨v, f1, h1, h2, sub, nd1, lens⟩ := atI_at hL n2 e1
      have sub' : ∀ b ∈ f1, b ∈ fp i := fun b m => by rw [ef]; exact List.mem_cons_of_mem _ (sub b m)
      refine ⟨v, f1, ⟨a, vs, e2, .inr hH, h1⟩, h2, sub', nd1, fun o' H' w kp ns => fin f1 (.lso (putI os n o')) H' sub' ?_ kp ns⟩
      simp only [Ow]
      exact ⟨a, vs, fr, rfl, ef, lens o' H' w fun b m z => kp b z, by rw [kp a fun z => n1 (sub a z)]; exact hH⟩
    | _ => cases e1
  | fld C f =>
    cases root with
    | obj C' fs =>
      have e1 : (if C' = C then lookF fs f else none) = some o := e1
      by_cases hC : C' = C
      · subst hC
        rw [if_pos rfl] at e1
        simp only [Ow] at w0
        obtain ⟨a, dx, vs, fr, rfl, ef, hF, hH, hD⟩ := w0
        have nd := R.nd i
        rw [ef] at nd
        obtain ⟨n1, n2⟩ := List.nodup_cons.mp nd
        obtain ⟨n3, n4⟩ := List.nodup_cons.mp n2
        obtain ⟨v, f1, h1, h2, sub, nd1, lens⟩ := lookF_at hF n4 e1
        have sub' : ∀ b ∈ f1, b ∈ fp i := fun b m => by rw [ef]; exact List.mem_cons_of_mem _ (List.mem_cons_of_mem _ (sub b m))
        refine ⟨v, f1, ⟨a, dx, vs, e2, hH, h1⟩, h2, sub', nd1, fun o' H' w kp ns => fin f1 (.obj C' (setF fs f o')) H' sub' ?_ kp ns⟩
        simp only [Ow]
        exact ⟨a, dx, vs, fr, rfl, ef, lens o' H' w fun b m z => kp b z, by rw [kp a fun z => n1 (List.mem_cons_of_mem _ (sub a z))]; exact hH, by rw [kp dx fun z => n3 (sub dx z)]; exact hD⟩
      · rw [if_neg hC] at e1
        cases e1
    | _ => cases e1
theorem PAt.mono {σ : L2.St} {i : Nat} {p : Pth} {v : V} (h : PAt σ H i p v) (e : KS H H') : PAt σ H' i p v := by
  cases p with
  | top => exact h
  | key k =>
    obtain ⟨a, kvs, h1, h2, h3⟩ := h
    exact ⟨a, kvs, h1, e _ _ h2 rfl, h3⟩
  | ix n =>
    obtain ⟨a, vs, h1, h2, h3⟩ := h
    exact ⟨a, vs, h1, h2.imp (fun h => e _ _ h rfl) fun h => e _ _ h rfl, h3⟩
  | fld C f =>
    obtain ⟨a, dx, kvs, h1, h2, h3⟩ := h
    exact ⟨a, dx, kvs, h1, e _ _ h2 rfl, h3⟩
theorem PAt.inj {σ : L2.St} {i : Nat} {p : Pth} {v v' : V} (h : PAt σ H i p v) (h' : PAt σ H i p v') : v = v' := by
  cases p with
  | top =>
    have := h.symm.trans h'
    exact Option.some.inj (Option.some.inj this)
  | key k =>
    obtain ⟨a, kvs, h1, h2, h3⟩ := h
    obtain ⟨a', kvs', h1', h2', h3'⟩ := h'
    rw [h1] at h1'
    cases h1'
    rw [h2] at h2'
    cases h2'
    rw [h3] at h3'
    exact Option.some.inj h3'
  | ix n =>
    obtain ⟨a, vs, h1, h2, h3⟩ := h
    obtain ⟨a', vs', h1', h2', h3'⟩ := h'
    rw [h1] at h1'
    cases h1'
    have e : vs = vs' := by
      rcases h2 with h2 | h2 <;> rcases h2' with h2' | h2' <;> rw [h2] at h2' <;> cases h2' <;> rfl
    subst e
    rw [h3] at h3'
    exact Option.some.inj h3'
  | fld C f =>
    obtain ⟨a, dx, kvs, h1, h2, h3⟩ := h
    obtain ⟨a', dx', kvs', h1', h2', h3'⟩ := h'
    rw [h1] at h1'
    cases h1'
    rw [h2] at h2'
    cases h2'
    rw [h3] at h3'
    exact Option.some.inj h3'
end
/-- a place as an expression -/
structure SP (X : Cx) (e : Expr) (i : Nat) (p : Pth) : Prop where
  pe : PE X e (fun σ H Q => ∃ v, PAt σ H i p v ∧ Q v H)
def plE (i : Nat) (p : Pth) : ESem := fun env => match env[i]? with
  | some (some root) => (getP root p).map fun o => (o, env)
  | _ => none
section
variable {X : Cx} {e o : Expr} {i : Nat} {p : Pth} {pos : Pos}
theorem sp_top (h : PE X e (tVar i)) : SP X e i .top := ⟨h⟩
theorem sp_key {y : Str} {j} {p1 : Pos} (hu : X.A.units + 1 < cLine) (h : PE X o (tVar i)) (hs : NoSl (.Constant (.str y) j p1)) : SP X (.Subscript o (.Constant (.str y) j p1) pos) i (.key (.inr y)) := by
  refine ⟨PE.imp (pe_dget hu h pe_str hs) fun σ H Q hw => ?_⟩
  obtain ⟨v, ⟨a, kvs, h1, h2, h3⟩, q⟩ := hw
  exact ⟨.ref a, h1, a, v, rfl, by rw [← h3]; exact DGet.k (k := Sum.inr y) h2, q⟩
/-- a place read -/
theorem se_pl (h : SP X e i p) : SE X e (plE i p) true false := by
  refine ⟨PE.imp h.pe fun σ H Q hw => ?_, fun _ env r env' hh => ?_⟩
  · obtain ⟨env, S, fp, z, env', R, he, k⟩ := hw
    unfold plE at he
    split at he
    · rename_i root e0
      simp only [Option.map_eq_some_iff, Prod.mk.injEq] at he
      obtain ⟨o1, e1, rfl, rfl⟩ := he
      obtain ⟨v, f1, h1, h2, sub, _⟩ := place R e0 e1
      exact ⟨v, h1, k v S H fp f1 R (Evo.refl _ _ _) h2 (fun _ => ⟨rfl, KS.refl _⟩) (fun z => nomatch z)⟩
    · cases he
  · unfold plE at hh
    split at hh
    · simp only [Option.map_eq_some_iff, Prod.mk.injEq] at hh
      obtain ⟨_, _, _, rfl⟩ := hh
      rfl
    · cases hh
end

/-! ### methods that change a place -/
/-- what a method does to a thing of one's own: the thing behind, what it gives -/
def RM (K : PySem.W.Frag) (T : String) (r : V → List V → Hp → VK → Prop) (g : O → List O → Option (O × D)) : Prop :=
  (∀ S H x o fr os z, Same S H → Ow K S H o x fr → g o os = some z → tyV K T x H) ∧
  ∀ S H x o fr os vs fa o' z Q, Same S H → (∀ a ∈ fr, S a = none) → fr.Nodup → Ow K S H o x fr → OwA K S H os vs fa → g o os = some (o', z) →
    (∀ v H', (∀ a, a ∉ fr → H' a = H a) → (∀ a ∈ fr, Liv H' a) → Ow K S H' o' x fr → Fz K S z v → Q v H') → r x vs H Q
def mutE (i : Nat) (p : Pth) (fa : ASem) (g : O → List O → Option (O × D)) : ESem := fun env => match env[i]? with
  | some (some root0) => match getP root0 p with
    | some o0 => (fa env).bind fun a => match a.2[i]? with
      | some (some root) => (getP root p).bind fun o => if (g o0 a.1).isSome = true then (g o a.1).map fun r => (.leaf r.2, a.2.set i (some (putP root p r.1))) else none
      | _ => none
    | none => none
  | _ => none
theorem mutE_some {i : Nat} {p : Pth} {fa : ASem} {g : O → List O → Option (O × D)} {env env' : Env} {z : O} (h : mutE i p fa g env = some (z, env')) :
    ∃ root0 o0 os e1 root o o' t zz, env[i]? = some (some root0) ∧ getP root0 p = some o0 ∧ fa env = some (os, e1) ∧ e1[i]? = some (some root) ∧ getP root p = some o ∧ g o0 os = some zz ∧ g o os = some (o', t) ∧ z = .leaf t ∧ env' = e1.set i (some (putP root p o')) := by
  unfold mutE at h
  split at h
  · rename_i root0 e0
    split at h
    · rename_i o0 e1
      simp only [Option.bind_eq_some_iff] at h
      obtain ⟨⟨os, e2⟩, h1, h2⟩ := h
      simp only at h2
      split at h2
      · rename_i root e3
        simp only [Option.bind_eq_some_iff] at h2
        obtain ⟨o, h3, h4⟩ := h2
        split at h4
        · rename_i hs
          simp only [Option.map_eq_some_iff, Prod.mk.injEq] at h4
          obtain ⟨⟨o', t⟩, h5, rfl, rfl⟩ := h4
          obtain ⟨zz, hz⟩ := Option.isSome_iff_exists.mp hs
          exact ⟨root0, o0, os, e2, root, o, o', t, zz, e0, e1, h1, e3, h3, hz, h5, rfl, rfl⟩
        · cases h4
      · cases h2
    · cases h
  · cases h
theorem mut_core {K : PySem.W.Frag} {T : String} {i : Nat} {p : Pth} {fa : ASem} {q : Bool} {g : O → List O → Option (O × D)} {r : V → List V → Hp → VK → Prop} (hr : RM K T r g) (hp : p = .top ∨ q = true) {σ : L2.St} {H : Hp} {Q : VK} (hqf : q = true → ∀ env r env', fa env = some (r, env') → env' = env)
    (h : tE K (mutE i p fa g) false true σ H Q) : tBM K T r (fun σ H Q => ∃ v, PAt σ H i p v ∧ Q v H) (tAr K fa q) σ H Q := by
  obtain ⟨env, S, fp, z, env', R, he, k⟩ := h
  obtain ⟨root0, o0, os, e1, root, o, o', t, zz, h0, h1, h2, h3, h4, hg0, hg, rfl, rfl⟩ := mutE_some he
  obtain ⟨v, f1, pa, w0, sub, _⟩ := place R h0 h1
  refine ⟨v, pa, hr.1 S H v o0 f1 os zz R.le w0 hg0, env, S, fp, os, e1, R, h2, fun vs S1 H1 fp1 fr R1 E1 wa g1 F1 => ?_⟩
  obtain ⟨v', f2, pa', w1, sub2, nd2, lens⟩ := place R1 h3 h4
  have ev : v' = v := by
    rcases hp with rfl | hq
    · exact PAt.inj (p := Pth.top) (H := H1) pa' pa
    · exact pa'.inj (pa.mono (g1 hq).2)
  subst ev
  refine hr.2 S1 H1 v' o f2 os vs fr o' t Q R1.le (fun a m => R1.un i a (sub2 a m)) nd2 w1 wa hg fun y H2 kp ns w2 wz => ?_
  obtain ⟨R2, E2⟩ := lens o' H2 w2 kp ns
  exact k y S1 H2 fp1 [] R2 (E1.trans E2) (ow_leaf wz) (fun z => nomatch z) fun _ => Fresh.nil
section
variable {X : Cx} {o e : Expr} {es : List Expr} {i : Nat} {p : Pth} {fa : ASem} {q : Bool} {name : Str} {apos cpos : Pos} {T id : String} {r : V → List V → Hp → VK → Prop} {g : O → List O → Option (O × D)}
theorem se_mut (pa : PlainAttrs T) (slot : Slot T name id) (hty : typeOf (.builtin id) = pure (.type "method_descriptor")) (hm : MtR X id r) (hr : RM X.K T r g) (ho : SP X o i p) (ha : SA X (e :: es) fa q) (hp : p = .top ∨ q = true)
    (hbase : attributeBase o name X.env (eval o X.env) = eval o X.env := by rfl)
    (hfew : ((backTo cpos (starEach (e :: es) X.env)).all (fun x => !x.1) && (backToKw cpos (keywordEach [] X.env)).all (fun x => x.1.isSome)
      && decide ((e :: es).length + ([] : List Keyword).length + (if ([] : List Keyword).isEmpty then 0 else 1) < 30)) = true := by rfl)
    (hline : (apos.endLine == cpos.line) = true := by rfl) (hs : starEach (e :: es) X.env = (false, eval e X.env) :: starEach es X.env := by rfl) (hplain : (backTo cpos (starEach es X.env)).any (·.1) = false := by rfl) :
    SE X (.Call (.Attribute o name apos) (e :: es) [] cpos) (mutE i p fa g) false true :=
  ⟨PE.imp (pe_bm pa slot hty hm ho.pe ha.pa hbase hfew hline hs hplain) fun _ _ _ h => mut_core hr hp ha.qf h, fun z => nomatch z⟩
end
section
variable {K : PySem.W.Frag}
theorem ls_ty {S H : Hp} {x : V} {ts : List D} {fr : List Addr} (w : Ow K S H (.ls ts) x fr) : tyV K "list" x H := by
  obtain ⟨a, vs, rfl, h1, rfl, h2⟩ := ow_lsE w
  exact .inl ⟨rfl, vs, .inl (.inl h1)⟩
/-- the list's own object gets other items -/
theorem ls_upd {S H : Hp} {a : Addr} {ts' : List D} {vs' : List V} {t : D} {v : V} {o' : O} {Q : VK} (hw : FzL K S ts' vs') (hz : Fz K S t v) (ho : o' = .ls ts') (k : ∀ v H', (∀ b, b ∉ [a] → H' b = H b) → (∀ b ∈ [a], Liv H' b) → Ow K S H' o' (.ref a) [a] → Fz K S t v → Q v H') : Q v (upd H a (.lst vs')) := by
  subst ho
  exact k v _ (fun b hb => upd_ne fun z => hb (by rw [z]; exact List.mem_singleton.mpr rfl)) (fun b hb => by rw [List.mem_singleton.mp hb]; exact liv_upd rfl) (ow_ls upd_same hw) hz
def gAppend (o : O) (os : List O) : Option (O × D) := match o, os with
  | .ls ts, [.leaf t] => if ts.length < 16000000 then some (.ls (ts ++ [t]), .none) else none
  | _, _ => none
theorem rm_append : RM K "list" rAppend gAppend := by
  refine ⟨fun S H x o fr os z le w e => ?_, fun S H x o fr os vs fa o' z Q le un nd w wa e k => ?_⟩
  · unfold gAppend at e
    split at e
    · exact ls_ty w
    · cases e
  · unfold gAppend at e
    split at e
    · split at e
      · rename_i hl
        cases e
        obtain ⟨a, xs, rfl, h1, rfl, h2⟩ := ow_lsE w
        obtain ⟨v, rfl, hv, _⟩ := leaves1 wa
        exact ⟨a, xs, v, rfl, rfl, h1, by rw [h2.len]; exact Nat.lt_trans hl (by decide), ls_upd (h2.append (FzL.cons hv FzL.nil)) (by simp only [Fz]) rfl k⟩
      · cases e
    · cases e
def gReverse (o : O) (os : List O) : Option (O × D) := match o, os with
  | .ls ts, [] => some (.ls ts.reverse, .none)
  | _, _ => none
def gClear (o : O) (os : List O) : Option (O × D) := match o, os with
  | .ls ts, [] => some (.ls [], .none)
  | _, _ => none
/-- the place that an index of 64 bits names -/
def gPopAt (o : O) (os : List O) : Option (O × D) := match o, os with
  | .ls ts, [.leaf (.int i)] => if -(2 ^ 63) ≤ i ∧ i < 2 ^ 63 then (seqIndex? i ts.length).bind fun k => (ts[k]?).map fun t => (.ls (ts.eraseIdx k), t) else none
  | _, _ => none
def gPop (o : O) (os : List O) : Option (O × D) := match o, os with
  | .ls ts, [] => (ts[ts.length - 1]?).map fun t => (.ls ts.dropLast, t)
  | _, _ => none
theorem FzL.dropLast {S : Hp} {ts : List D} {vs : List V} (w : FzL K S ts vs) : FzL K S ts.dropLast vs.dropLast := by
  rw [List.dropLast_eq_take, List.dropLast_eq_take, w.len]
  exact w.take _
def gInsert (o : O) (os : List O) : Option (O × D) := match o, os with
  | .ls ts, [.leaf (.int i), .leaf t] => if ts.length < 16000000 ∧ 0 ≤ i ∧ i < 2 ^ 63 then some (.ls (ts.take i.toNat ++ [t] ++ ts.drop i.toNat), .none) else none
  | _, _ => none
end

/-! ### x[i] = v at a place -/
def RSet (K : PySem.W.Frag) (t : TSet) (g : O → O → D → Option O) : Prop :=
  ∀ S H x o fr y oi fi v d o' Q, Same S H → (∀ a ∈ fr, S a = none) → fr.Nodup → Ow K S H o x fr → Ow K S H oi y fi → Fz K S d v → g o oi d = some o' →
    (∀ H', (∀ a, a ∉ fr → H' a = H a) → (∀ a ∈ fr, Liv H' a) → Ow K S H' o' x fr → Q H') → t x y v H Q
theorem PSet.or {X : Cx} {t t' : TSet} (h : PSet X t) (h' : PSet X t') : PSet X (fun o i v H Q => t o i v H Q ∨ t' o i v H Q) := by
  intro pins s σ H o i v ov iv u Q I r1 r2 r3 q
  rcases q with q | q
  · exact h pins s σ H o i v ov iv u Q I r1 r2 r3 q
  · exact h' pins s σ H o i v ov iv u Q I r1 r2 r3 q
def rSetD : TSet := fun o i v H Q => ∃ a H4, o = .ref a ∧ DPut H a i v H4 ∧ Q H4
theorem set_dict {X : Cx} (hu : X.A.units + 1 < cLine) : PSet X rSetD := by
  intro pins s σ H o i v ov iv u Q I r1 r2 r3 q
  obtain ⟨a, H4, rfl, h1, h2⟩ := q
  cases r1
  exact d_setItem hu I h1 r2 r3 fun s' I' => ⟨H4, I', h2⟩
def putO {κ : Type} [DecidableEq κ] (kvs : List (κ × O)) (k : κ) (o : O) : List (κ × O) :=
  if (kvs.any fun kv => decide (kv.1 = k)) = true then kvs.map (fun kv => if kv.1 = k then (kv.1, o) else kv) else kvs ++ [(k, o)]
/-- what stands at the key, if anything, is frozen -/
def leafAt {κ : Type} [DecidableEq κ] (kvs : List (κ × O)) (k : κ) : Bool := kvs.all fun kv => if kv.1 = k then kv.2.isLeaf else true
def keyOf : O → Option Key
  | .leaf (.int i) => some (.inl i)
  | .leaf (.str x) => some (.inr x)
  | _ => none
def keysOf : List D → Option (List Key)
  | [] => some []
  | .int i :: r => (keysOf r).map (Sum.inl i :: ·)
  | .str x :: r => (keysOf r).map (Sum.inr x :: ·)
  | _ => none
def tupOf : O → Option (List Key)
  | .leaf (.tuple ts) => keysOf ts
  | _ => none
def gSet (o oi : O) (d : D) : Option O := match o with
  | .ls ts => match oi with
    | .leaf (.int k) => (ixN ts.length k).map fun j => .ls (ts.set j d)
    | _ => none
  | .dic kvs => (keyOf oi).bind fun k => if leafAt kvs k = true ∧ kvs.length < 16000000 then some (.dic (putO kvs k (.leaf d))) else none
  | .dct kvs => (tupOf oi).bind fun k => if leafAt kvs k = true ∧ kvs.length < 16000000 then some (.dct (putO kvs k (.leaf d))) else none
  | _ => none
section
variable {K : PySem.W.Frag} {S H : Hp}
theorem owK_keys : ∀ {kvs : List (Key × O)} {vs : List (Key × V)} {fr : List Addr}, OwK K S H kvs vs fr → vs.map (·.1) = kvs.map (·.1)
  | [], vs, fr, h => by simp only [OwK] at h; rw [h.1]; rfl
  | (k, o) :: r, vs, fr, h => by
    simp only [OwK] at h
    obtain ⟨v, vr, f1, f2, rfl, rfl, h1, h2⟩ := h
    simp [owK_keys h2]
theorem owT_keys : ∀ {kvs : List (List Key × O)} {vs : List (List Key × V)} {fr : List Addr}, OwT K S H kvs vs fr → vs.map (·.1) = kvs.map (·.1)
  | [], vs, fr, h => by simp only [OwT] at h; rw [h.1]; rfl
  | (k, o) :: r, vs, fr, h => by
    simp only [OwT] at h
    obtain ⟨v, vr, f1, f2, rfl, rfl, h1, h2⟩ := h
    simp [owT_keys h2]
theorem any_keys {κ α β : Type} [DecidableEq κ] {xs : List (κ × α)} {ys : List (κ × β)} {k : κ} (h : xs.map (·.1) = ys.map (·.1)) : (xs.any fun p => decide (p.1 = k)) = ys.any fun p => decide (p.1 = k) := by
  have e1 : (xs.any fun p => decide (p.1 = k)) = (xs.map (·.1)).any fun q => decide (q = k) := by rw [List.any_map]; rfl
  have e2 : (ys.any fun p => decide (p.1 = k)) = (ys.map (·.1)).any fun q => decide (q = k) := by rw [List.any_map]; rfl
  rw [e1, e2, h]
theorem owK_map {k : Key} {d : D} {v : V} (hd : Fz K S d v) : ∀ {kvs : List (Key × O)} {vs : List (Key × V)} {fr : List Addr}, OwK K S H kvs vs fr → leafAt kvs k = true →
    OwK K S H (kvs.map (fun kv => if kv.1 = k then (kv.1, .leaf d) else kv)) (vs.map (fun kv => if kv.1 = k then (kv.1, v) else kv)) fr
  | [], vs, fr, h, _ => by
    simp only [OwK] at h
    rw [h.1, h.2]
    simp only [List.map_nil, OwK]
    exact ⟨trivial, trivial⟩
  | (k', o) :: r, vs, fr, h, hl => by
    simp only [OwK] at h
    obtain ⟨v1, vr, f1, f2, rfl, rfl, h1, h2⟩ := h
    unfold leafAt at hl
    rw [List.all_cons, Bool.and_eq_true] at hl
    have ih := owK_map hd h2 hl.2
    simp only [List.map_cons]
    by_cases hk : k' = k
    · rw [if_pos hk, if_pos hk]
      have hl1 := hl.1
      simp only [hk, if_true] at hl1
      have e := isLeaf_fr hl1 h1
      subst e
      simp only [OwK]
      exact ⟨v, _, [], f2, rfl, rfl, ow_leaf hd, ih⟩
    · rw [if_neg hk, if_neg hk]
      simp only [OwK]
      exact ⟨v1, _, f1, f2, rfl, rfl, h1, ih⟩
theorem owT_map {k : List Key} {d : D} {v : V} (hd : Fz K S d v) : ∀ {kvs : List (List Key × O)} {vs : List (List Key × V)} {fr : List Addr}, OwT K S H kvs vs fr → leafAt kvs k = true →
    OwT K S H (kvs.map (fun kv => if kv.1 = k then (kv.1, .leaf d) else kv)) (vs.map (fun kv => if kv.1 = k then (kv.1, v) else kv)) fr
  | [], vs, fr, h, _ => by
    simp only [OwT] at h
    rw [h.1, h.2]
    simp only [List.map_nil, OwT]
    exact ⟨trivial, trivial⟩
  | (k', o) :: r, vs, fr, h, hl => by
    simp only [OwT] at h
    obtain ⟨v1, vr, f1, f2, rfl, rfl, h1, h2⟩ := h
    unfold leafAt at hl
    rw [List.all_cons, Bool.and_eq_true] at hl
    have ih := owT_map hd h2 hl.2
    simp only [List.map_cons]
    by_cases hk : k' = k
    · rw [if_pos hk, if_pos hk]
      have hl1 := hl.1
      simp only [hk, if_true] at hl1
      have e := isLeaf_fr hl1 h1
      subst e
      simp only [OwT]
      exact ⟨v, _, [], f2, rfl, rfl, ow_leaf hd, ih⟩
    · rw [if_neg hk, if_neg hk]
      simp only [OwT]
      exact ⟨v1, _, f1, f2, rfl, rfl, h1, ih⟩
theorem owK_snoc {k : Key} {d : D} {v : V} (hd : Fz K S d v) : ∀ {kvs : List (Key × O)} {vs : List (Key × V)} {fr : List Addr}, OwK K S H kvs vs fr → OwK K S H (kvs ++ [(k, .leaf d)]) (vs ++ [(k, v)]) fr
  | [], vs, fr, h => by
    simp only [OwK] at h
    rw [h.1, h.2]
    simp only [List.nil_append, OwK]
    exact ⟨v, [], [], [], rfl, rfl, ow_leaf hd, rfl, rfl⟩
  | (k', o) :: r, vs, fr, h => by
    simp only [OwK] at h
    obtain ⟨v1, vr, f1, f2, rfl, rfl, h1, h2⟩ := h
    simp only [List.cons_append, OwK]
    exact ⟨v1, _, f1, f2, rfl, rfl, h1, owK_snoc hd h2⟩
theorem owT_snoc {k : List Key} {d : D} {v : V} (hd : Fz K S d v) : ∀ {kvs : List (List Key × O)} {vs : List (List Key × V)} {fr : List Addr}, OwT K S H kvs vs fr → OwT K S H (kvs ++ [(k, .leaf d)]) (vs ++ [(k, v)]) fr
  | [], vs, fr, h => by
    simp only [OwT] at h
    rw [h.1, h.2]
    simp only [List.nil_append, OwT]
    exact ⟨v, [], [], [], rfl, rfl, ow_leaf hd, rfl, rfl⟩
  | (k', o) :: r, vs, fr, h => by
    simp only [OwT] at h
    obtain ⟨v1, vr, f1, f2, rfl, rfl, h1, h2⟩ := h
    simp only [List.cons_append, OwT]
    exact ⟨v1, _, f1, f2, rfl, rfl, h1, owT_snoc hd h2⟩
theorem owK_put {k : Key} {d : D} {v : V} {kvs : List (Key × O)} {vs : List (Key × V)} {fr : List Addr} (hd : Fz K S d v) (h : OwK K S H kvs vs fr) (hl : leafAt kvs k = true) : OwK K S H (putO kvs k (.leaf d)) (putK vs k v) fr := by
  unfold putO putK
  rw [any_keys (owK_keys h)]
  split
  · exact owK_map hd h hl
  · exact owK_snoc hd h
theorem owT_put {k : List Key} {d : D} {v : V} {kvs : List (List Key × O)} {vs : List (List Key × V)} {fr : List Addr} (hd : Fz K S d v) (h : OwT K S H kvs vs fr) (hl : leafAt kvs k = true) : OwT K S H (putO kvs k (.leaf d)) (putK vs k v) fr := by
  unfold putO putK
  rw [any_keys (owT_keys h)]
  split
  · exact owT_map hd h hl
  · exact owT_snoc hd h
theorem keysOf_fz : ∀ {ts : List D} {ks : List Key} {vs : List V}, keysOf ts = some ks → FzL K S ts vs → vs = ks.map kV
  | [], ks, vs, e, h => by
    cases e
    exact h.nilE
  | .int i :: r, ks, vs, e, h => by
    simp only [keysOf, Option.map_eq_some_iff] at e
    obtain ⟨kr, e, rfl⟩ := e
    obtain ⟨v, vr, rfl, h1, h2⟩ := h.inv
    simp only [Fz] at h1
    rw [h1, keysOf_fz e h2]
    rfl
  | .str i :: r, ks, vs, e, h => by
    simp only [keysOf, Option.map_eq_some_iff] at e
    obtain ⟨kr, e, rfl⟩ := e
    obtain ⟨v, vr, rfl, h1, h2⟩ := h.inv
    simp only [Fz] at h1
    rw [h1, keysOf_fz e h2]
    rfl
  | .none :: r, ks, vs, e, h => by cases e
  | .bool _ :: r, ks, vs, e, h => by cases e
  | .list _ :: r, ks, vs, e, h => by cases e
  | .tuple _ :: r, ks, vs, e, h => by cases e
  | .dict _ :: r, ks, vs, e, h => by cases e
theorem keyOf_V {o : O} {k : Key} {y : V} {fi : List Addr} (e : keyOf o = some k) (w : Ow K S H o y fi) : y = kV k := by
  unfold keyOf at e
  split at e
  · cases e
    have := (ow_leafE w).2
    simp only [Fz] at this
    exact this
  · cases e
    have := (ow_leafE w).2
    simp only [Fz] at this
    exact this
  · cases e
end
end Mv

set_option Elab.async false
set_option linter.all false
set_option maxRecDepth 100000
set_option maxHeartbeats 2000000
namespace Mv
open PySem PySem.Spec PyProof.Rows L2

theorem upd_keep {H : Hp} {a : Addr} {u : HO} {fr : List Addr} (ha : a ∈ fr) : ∀ b, b ∉ fr → upd H a u b = H b := fun b hb => upd_ne fun z => hb (by rw [z]; exact ha)
theorem upd_some {H : Hp} {a : Addr} {u : HO} {fr : List Addr} (hs : ∀ b ∈ fr, Liv H b) (hu : fy u = false := by rfl) : ∀ b ∈ fr, Liv (upd H a u) b := fun b hb => by
  by_cases h : b = a
  · rw [h]
    exact liv_upd hu
  · refine Liv.eq ?_ (upd_ne h)
    exact hs b hb
theorem keysOf_tup {K : PySem.W.Frag} {S H : Hp} {o : O} {ks : List Key} {y : V} {fi : List Addr} (le : Same S H) (e : tupOf o = some ks) (w : Ow K S H o y fi) : ∃ b, y = .ref b ∧ H b = some (.tup (ks.map kV)) := by
  unfold tupOf at e
  split at e
  · have h := (ow_leafE w).2
    simp only [Fz] at h
    obtain ⟨a, vs, rfl, h1, h2⟩ := h
    rw [keysOf_fz e h2] at h1
    exact ⟨a, rfl, le _ _ h1⟩
  · cases e
theorem rset {K : PySem.W.Frag} : RSet K (fun o i v H Q => rSetL o i v H Q ∨ rSetD o i v H Q) gSet := by
  intro S H x o fr y oi fi v d o' Q le un nd w wi hd e k
  unfold gSet at e
  split at e
  · rename_i ts
    split at e
    · rename_i kk
      simp only [Option.map_eq_some_iff] at e
      obtain ⟨j, h3, rfl⟩ := e
      obtain ⟨a, xs, rfl, h1, rfl, h2⟩ := ow_lsE w
      have hy := (ow_leafE wi).2
      simp only [Fz] at hy
      subst hy
      refine .inl ⟨a, xs, kk, j, rfl, rfl, h1, by rw [h2.len]; exact h3, k _ (upd_keep (List.mem_singleton.mpr rfl)) (upd_some w.some) (ow_ls upd_same (h2.set j hd))⟩
    · cases e
  · rename_i kvs
    simp only [Option.bind_eq_some_iff] at e
    obtain ⟨kk, h3, h4⟩ := e
    split at h4
    · rename_i hl
      cases h4
      have hs := w.some
      have wy := keyOf_V h3 wi
      subst wy
      simp only [Ow] at w
      obtain ⟨a, vs, f, rfl, rfl, hk, hH⟩ := w
      have hlen : vs.length = kvs.length := by
        have := congrArg List.length (owK_keys hk)
        simpa using this
      refine .inr ⟨a, _, rfl, DPut.k hH (by rw [hlen]; exact Nat.lt_trans hl.2 (by decide)), k _ (upd_keep List.mem_cons_self) (upd_some hs) ?_⟩
      simp only [Ow]
      exact ⟨a, _, f, rfl, rfl, (owK_put hd hk hl.1).keep (Same.refl _) fun b hb => upd_ne fun z => (List.nodup_cons.mp nd).1 (by rw [← z]; exact hb), upd_same⟩
    · cases h4
  · rename_i kvs
    simp only [Option.bind_eq_some_iff] at e
    obtain ⟨kk, h3, h4⟩ := e
    split at h4
    · rename_i hl
      cases h4
      have hs := w.some
      obtain ⟨b, rfl, hb⟩ := keysOf_tup le h3 wi
      simp only [Ow] at w
      obtain ⟨a, vs, f, rfl, rfl, hk, hH⟩ := w
      have hlen : vs.length = kvs.length := by
        have := congrArg List.length (owT_keys hk)
        simpa using this
      refine .inr ⟨a, _, rfl, DPut.t hH hb (by rw [hlen]; exact Nat.lt_trans hl.2 (by decide)), k _ (upd_keep List.mem_cons_self) (upd_some hs) ?_⟩
      simp only [Ow]
      exact ⟨a, _, f, rfl, rfl, (owT_put hd hk hl.1).keep (Same.refl _) fun b hb => upd_ne fun z => (List.nodup_cons.mp nd).1 (by rw [← z]; exact hb), upd_same⟩
    · cases h4
  · cases e
/-- the target x[i], x a place -/
def gSubP (i : Nat) (p : Pth) (fi : ESem) (g : O → O → D → Option O) : GSem := fun t env => match env[i]? with
  | some (some root) => (getP root p).bind fun o => (fi env).bind fun a => (g o a.1 t).map fun o' => env.set i (some (putP root p o'))
  | _ => none
section
variable {X : Cx} {o e : Expr} {i : Nat} {p : Pth} {fi : ESem} {m : Bool} {pos : Pos}
theorem sg_sub {t : TSet} {g : O → O → D → Option O} (hp : PSet X t) (hr : RSet X.K t g) (ho : SP X o i p) (hi : SE X e fi true m)
    (ha : ∀ v, assign (.Subscript o e pos) X.env v = (do
      let ov ← holding [v] (eval o X.env)
      let iv ← holding [v, ov] (eval e X.env)
      standAt pos
      holding [v, ov, iv] (setItem ov iv v)
      release [v, ov, iv] []) := by intro _; rfl) : SG X (.Subscript o e pos) (gSubP i p fi g) [] := by
  refine ⟨PG.imp (pg_sub ho.pe hi.pe hp ha) fun v σ H Q h => ?_⟩
  obtain ⟨env, S, fp, d, env', R, wd, he, k⟩ := h
  unfold gSubP at he
  split at he
  · rename_i root e0
    simp only [Option.bind_eq_some_iff, Option.map_eq_some_iff] at he
    obtain ⟨o1, h1, ⟨oi, e1⟩, h2, o', h3, rfl⟩ := he
    simp only at h3
    have ee := hi.qf rfl _ _ _ h2
    subst ee
    obtain ⟨x, f1, pa, w1, sub, nd, lens⟩ := place R e0 h1
    refine ⟨x, pa, e1, S, fp, oi, e1, R, h2, fun y S1 H1 fp1 fr R1 E1 wi g1 n1 => ?_⟩
    obtain ⟨hfp, hS⟩ := g1 rfl
    subst hfp
    obtain ⟨x', f2, pa', w2, sub2, nd2, lens2⟩ := place R1 e0 h1
    have ex := pa'.inj (pa.mono hS)
    subst ex
    refine hr S1 H1 x' o1 f2 y oi fr v d o' _ R1.le (fun a m => R1.un i a (sub2 a m)) nd2 w2 wi (wd.same E1.sub) h3 fun H2 kp ns w3 => ?_
    obtain ⟨R2, E2⟩ := lens2 o' H2 w3 kp ns
    exact k σ S1 H2 _ R2 (E1.trans E2) (fun _ _ => rfl) rfl
  · cases he
end

/-! ### {k: v, ..} with texts as keys -/
structure DItem where
  key : Key
  m : Bool
  f : ESem
def evD : List DItem → Env → Option (List (Key × O) × Env)
  | [], env => some ([], env)
  | d :: r, env => (d.f env).bind fun p => if (d.m || p.1.isLeaf) = true then (evD r p.2).map fun z => ((d.key, p.1) :: z.1, z.2) else none
def dispE (ds : List DItem) : ESem := fun env => if (ds.map (·.key)).Nodup ∧ ds.length ≤ 15 then (evD ds env).map fun p => (.dic p.1, p.2) else none
inductive SD (X : Cx) (pos : Pos) : List (Option Expr) → List Expr → List DItem → List (TE × TE) → Prop where
  | nil : SD X pos [] [] [] []
  | cons {y : Str} {j} {p1 : Pos} {v : Expr} {ks : List (Option Expr)} {vs : List Expr} {f : ESem} {q m : Bool} {ds : List DItem} {trs : List (TE × TE)} : SE X v f q m → SD X pos ks vs ds trs →
      SD X pos (some (.Constant (.str y) j p1) :: ks) (v :: vs) (⟨.inr y, m, f⟩ :: ds) ((tC (.str y), tE X.K f q m) :: trs)
  | consI {i : Int} {j} {p1 : Pos} {v : Expr} {ks : List (Option Expr)} {vs : List Expr} {f : ESem} {q m : Bool} {ds : List DItem} {trs : List (TE × TE)} : SE X v f q m → SD X pos ks vs ds trs →
      SD X pos (some (.Constant (.int i) j p1) :: ks) (v :: vs) (⟨.inl i, m, f⟩ :: ds) ((tC (.int i), tE X.K f q m) :: trs)
theorem SD.pps {X : Cx} {pos : Pos} : ∀ {ks : List (Option Expr)} {vs : List Expr} {ds : List DItem} {trs : List (TE × TE)}, SD X pos ks vs ds trs → PPs X pos ks vs trs ∧ ks.all (·.isSome) = true ∧ ks.length = vs.length ∧ ks.length = ds.length
  | _, _, _, _, .nil => ⟨pps_nil, rfl, rfl, rfl⟩
  | _, _, _, _, .cons h t => by
    obtain ⟨h1, h2, h3, h4⟩ := t.pps
    exact ⟨pps_cons pe_str h.pe h1, by simp [h2], by simp [h3], by simp [h4]⟩
  | _, _, _, _, .consI h t => by
    obtain ⟨h1, h2, h3, h4⟩ := t.pps
    exact ⟨pps_cons pe_int h.pe h1, by simp [h2], by simp [h3], by simp [h4]⟩
theorem evD_keys : ∀ {ds : List DItem} {env env' : Env} {kos : List (Key × O)}, evD ds env = some (kos, env') → kos.map (·.1) = ds.map (·.key)
  | [], env, env', kos, h => by cases h; rfl
  | d :: r, env, env', kos, h => by
    simp only [evD, Option.bind_eq_some_iff] at h
    obtain ⟨⟨o, e1⟩, h1, h2⟩ := h
    split at h2
    · simp only [Option.map_eq_some_iff, Prod.mk.injEq] at h2
      obtain ⟨⟨z, e2⟩, h3, rfl, rfl⟩ := h2
      simp [evD_keys h3]
    · cases h2
theorem mergeK_nodup : ∀ {kvs acc : List (Key × V)}, ((acc ++ kvs).map (·.1)).Nodup → mergeK acc kvs = acc ++ kvs
  | [], acc, _ => by simp [mergeK]
  | kv :: kvs, acc, h => by
    have hnew : valV acc kv.1 = none := by
      have : (acc.any fun p => decide (p.1 = kv.1)) = false := by
        rw [List.any_eq_false]
        intro p hp
        rw [List.map_append, List.map_cons, List.nodup_append] at h
        have := h.2.2 p.1 (List.mem_map_of_mem (f := (·.1)) hp) kv.1 List.mem_cons_self
        simpa using this
      rw [valV_any] at this
      simpa using this
    show mergeK (putK acc kv.1 kv.2) kvs = _
    rw [putK_new _ hnew, mergeK_nodup (by rw [List.append_assoc]; exact h), List.append_assoc]
    rfl
theorem disp_pairs {X : Cx} {pos : Pos} {σ : L2.St} : ∀ {ks : List (Option Expr)} {vs : List Expr} {ds : List DItem} {trs : List (TE × TE)} {env env' : Env} {S H : Hp} {fp : Nat → List Addr} {kos : List (Key × O)} {Q : List (V × V) → Hp → Prop}, SD X pos ks vs ds trs → Rel X.K env σ S H fp → evD ds env = some (kos, env') →
    (∀ kvs S' H' fp' fr, Rel X.K env' σ S' H' fp' → Evo S H fp S' H' fp' → OwK X.K S' H' kos kvs fr → Fresh S H fp S' fp' fr → Q (kvs.map fun kv => (kV kv.1, kv.2)) H') → tPairs trs σ H Q
  | _, _, _, _, env, env', S, H, fp, kos, Q, .nil, R, e, k => by
    cases e
    refine k [] S H fp [] R (Evo.refl _ _ _) ?_ Fresh.nil
    simp only [OwK]
    exact ⟨trivial, trivial⟩
  | _, _, _, _, env, env', S, H, fp, kos, Q, .cons (y := y) (m := m) h t, R, e, k => by
    simp only [evD, Option.bind_eq_some_iff] at e
    obtain ⟨⟨o, e1⟩, h1, h2⟩ := e
    split at h2
    · rename_i hl
      simp only [Bool.or_eq_true] at hl
      simp only [Option.map_eq_some_iff, Prod.mk.injEq] at h2
      obtain ⟨⟨z, e2⟩, h3, rfl, rfl⟩ := h2
      refine ⟨env, S, fp, o, e1, R, h1, fun v S1 H1 fp1 fr1 R1 E1 w1 g1 n1 => ?_⟩
      have F1 := fresh_of hl w1 n1
      have i1 : ∀ a ∈ fr1, Liv H1 a := w1.some
      refine disp_pairs t R1 h3 fun kvs S2 H2 fp2 fr2 R2 E2 w2 n2 => ?_
      refine k ((.inr y, v) :: kvs) S2 H2 fp2 (fr1 ++ fr2) R2 (E1.trans E2) ?_ (Fresh.app (S1 := S) (H1 := H) (fp1 := fp) (F1.evo i1 E2) (Fresh.pre E1 n2) fun a h1 h2 => ?_)
      · simp only [OwK]
        exact ⟨v, kvs, fr1, fr2, rfl, rfl, w1.evo F1.off E2, w2⟩
      · rcases n2.src a h2 with z | ⟨j, z⟩
        · exact (i1 a h1).ne z
        · exact F1.off a h1 j z
    · cases h2
  | _, _, _, _, env, env', S, H, fp, kos, Q, .consI (i := y) (m := m) h t, R, e, k => by
    simp only [evD, Option.bind_eq_some_iff] at e
    obtain ⟨⟨o, e1⟩, h1, h2⟩ := e
    split at h2
    · rename_i hl
      simp only [Bool.or_eq_true] at hl
      simp only [Option.map_eq_some_iff, Prod.mk.injEq] at h2
      obtain ⟨⟨z, e2⟩, h3, rfl, rfl⟩ := h2
      refine ⟨env, S, fp, o, e1, R, h1, fun v S1 H1 fp1 fr1 R1 E1 w1 g1 n1 => ?_⟩
      have F1 := fresh_of hl w1 n1
      have i1 : ∀ a ∈ fr1, Liv H1 a := w1.some
      refine disp_pairs t R1 h3 fun kvs S2 H2 fp2 fr2 R2 E2 w2 n2 => ?_
      refine k ((.inl y, v) :: kvs) S2 H2 fp2 (fr1 ++ fr2) R2 (E1.trans E2) ?_ (Fresh.app (S1 := S) (H1 := H) (fp1 := fp) (F1.evo i1 E2) (Fresh.pre E1 n2) fun a h1 h2 => ?_)
      · simp only [OwK]
        exact ⟨v, kvs, fr1, fr2, rfl, rfl, w1.evo F1.off E2, w2⟩
      · rcases n2.src a h2 with z | ⟨j, z⟩
        · exact (i1 a h1).ne z
        · exact F1.off a h1 j z
    · cases h2
theorem se_disp {X : Cx} {pos : Pos} {ks : List (Option Expr)} {vs : List Expr} {ds : List DItem} {trs : List (TE × TE)} (h : SD X pos ks vs ds trs) (h0 : ks ≠ []) : SE X (.Dict ks vs pos) (dispE ds) false true := by
  obtain ⟨h1, h2, h3, h4⟩ := h.pps
  refine ⟨⟨fun pins s σ H Q I hw => ?_⟩, fun z => nomatch z⟩
  obtain ⟨env, S, fp, z, env', R, he, k⟩ := hw
  unfold dispE at he
  split at he
  · rename_i hc
    simp only [Option.map_eq_some_iff, Prod.mk.injEq] at he
    obtain ⟨⟨kos, e1⟩, he, rfl, rfl⟩ := he
    refine (pe_disp h1 h2 h3 h0 (by rw [h4]; exact hc.2)).run pins s σ H Q I fun p hp => ?_
    have hS : S p = none := R.le.free hp
    have hn : ∀ i, p ∉ fp i := fun i m => (R.ins i p m).ne hp
    have R1 := R.updN (o := .dK []) hS hn (.inl hp)
    have E1 : Evo S H fp S (upd H p (.dK [])) fp := (Evo.refl S H fp).updN hp
    have e0 : upd H p (.dK []) p = some (.dK []) := upd_same
    refine disp_pairs h R1 he fun kvs S2 H2 fp2 fr R2 E2 w2 F2 => ?_
    have hz : Liv (upd H p (.dK [])) p := lv_of e0
    obtain ⟨h5, h6⟩ := E2.keep p hz hn
    have hp2 : ∀ i, p ∉ fp2 i := fun i m => by
      rcases E2.own i p m with z | ⟨j, z⟩
      · exact hz.ne z
      · exact hn j z
    have hpf : p ∉ fr := fun m => by
      rcases F2.src p m with z | ⟨j, z⟩
      · exact hz.ne z
      · exact hn j z
    refine ⟨h5.trans e0, kvs, rfl, ?_, ?_⟩
    · have e1 := congrArg List.length (owK_keys w2)
      have e2 := congrArg List.length (evD_keys he)
      simp only [List.length_map] at e1 e2
      rw [e1, e2]
      exact hc.2
    · have e3 : mergeK [] kvs = kvs := by
        rw [mergeK_nodup]
        · rfl
        · rw [List.nil_append, owK_keys w2, evD_keys he]
          exact hc.1
      rw [e3]
      have hS2 : S2 p = none := h6.trans hS
      refine k (.ref p) S2 _ fp2 (p :: fr) (R2.updN hS2 hp2 (.inr (hz.eq h5))) ((E1.trans E2).updN hp) ?_ (fun z => nomatch z) fun _ => ⟨List.nodup_cons.mpr ⟨hpf, F2.nd⟩, fun a m => ?_, fun a m i => ?_, fun a m => ?_⟩
      · simp only [Ow]
        exact ⟨p, kvs, fr, rfl, rfl, w2.keep (Same.refl _) fun b hb => upd_ne fun z => hpf (by rw [← z]; exact hb), upd_same⟩
      · rcases List.mem_cons.mp m with rfl | m
        · exact .inl hp
        · exact E1.back (F2.src a m)
      · rcases List.mem_cons.mp m with rfl | m
        · exact hp2 i
        · exact F2.off a m i
      · rcases List.mem_cons.mp m with rfl | m
        · exact hS2
        · exact F2.un a m
  · cases he
def emptyK : ESem := fun env => some (.dic [], env)
def emptyT : ESem := fun env => some (.dct [], env)
/-! ### more built-ins -/
section
variable {K : PySem.W.Frag}
def absI : D → Option D
  | .int i => some (.int (if i < 0 then -i else i))
  | _ => none
def intI : D → Option D
  | .int i => some (.int i)
  | .bool b => some (.int (if b then 1 else 0))
  | _ => none
def max2I : D → D → Option D
  | .int i, .int j => some (.int (if j > i then j else i))
  | _, _ => none
theorem ro_max2 : RO2 K (fun x y => (fun xs H Q => ∃ i j, xs = [.int i, .int j] ∧ Q (.int (if j > i then j else i)) H : List V → Hp → VK → Prop) [x, y]) (vw2 max2I) := ro2_vw fun H x y t u z Q w1 w2 e hf q => by
  unfold max2I at e
  split at e
  · cases e
    simp only [Fz] at w1 w2
    exact ⟨_, _, by rw [w1, w2], q⟩
  · cases e
def min2I : D → D → Option D
  | .int i, .int j => some (.int (if j < i then j else i))
  | _, _ => none
theorem ro_min2 : RO2 K (fun x y => (fun xs H Q => ∃ i j, xs = [.int i, .int j] ∧ Q (.int (if j < i then j else i)) H : List V → Hp → VK → Prop) [x, y]) (vw2 min2I) := ro2_vw fun H x y t u z Q w1 w2 e hf q => by
  unfold min2I at e
  split at e
  · cases e
    simp only [Fz] at w1 w2
    exact ⟨_, _, by rw [w1, w2], q⟩
  · cases e
/-! divmod -/
def oDivmod (a b : O) : Option O := match a, b with
  | .leaf (.int i), .leaf (.int j) => if 0 < j ∧ j.natAbs.log2 < 9000 then some (.leaf (.tuple [.int (i / j), .int (i % j)])) else none
  | _, _ => none
theorem ro_divmod : RO2 K (fun x y => (fun xs H Q => ∃ i j, xs = [.int i, .int j] ∧ CDivP i j ∧ ∀ p, H p = none → Q (.ref p) (upd H p (.tup [.int (i / j), .int (i % j)])) : List V → Hp → VK → Prop) [x, y]) oDivmod := by
  intro S H x y o1 o2 fr1 fr2 z Q le w1 w2 e k
  unfold oDivmod at e
  split at e
  · split at e
    · rename_i i j h
      cases e
      have h1 := (ow_leafE w1).2
      have h2 := (ow_leafE w2).2
      simp only [Fz] at h1 h2
      subst h1
      subst h2
      exact ⟨i, j, rfl, ⟨h.1, PyProof.noPylong_of_log2 h.2⟩, newT (ts := [.int (i / j), .int (i % j)]) le (FzL.cons (by simp only [Fz]) (FzL.cons (by simp only [Fz]) FzL.nil)) rfl k⟩
    · cases e
  · cases e
/-! sum, any, all: of lists of numbers, of bools -/
def intsD : List D → Option (List Int)
  | [] => some []
  | .int i :: r => (intsD r).map (i :: ·)
  | _ => none
def boolsD : List D → Option (List Bool)
  | [] => some []
  | .bool i :: r => (boolsD r).map (i :: ·)
  | _ => none
theorem boolsD_some : ∀ {ts : List D} {ns : List Bool}, boolsD ts = some ns → ts = ns.map .bool
  | [], ns, h => by cases h; rfl
  | .bool i :: r, ns, h => by
    simp only [boolsD, Option.map_eq_some_iff] at h
    obtain ⟨m, h, rfl⟩ := h
    rw [boolsD_some h]
    rfl
  | .none :: r, ns, h => by cases h
  | .int _ :: r, ns, h => by cases h
  | .str _ :: r, ns, h => by cases h
  | .list _ :: r, ns, h => by cases h
  | .tuple _ :: r, ns, h => by cases h
  | .dict _ :: r, ns, h => by cases h
def oSum (a : O) : Option O := (lstO a).bind fun ts => (intsD ts).map fun ns => .leaf (.int ns.sum)
def oAny (a : O) : Option O := (lstO a).bind fun ts => (boolsD ts).map fun ns => .leaf (.bool (ns.any id))
def oAll (a : O) : Option O := (lstO a).bind fun ts => (boolsD ts).map fun ns => .leaf (.bool (ns.all id))
theorem ro_all : RO1 K (fun x => rAll K [x]) oAll := by
  intro S H x o fr1 z Q le w e k
  unfold oAll at e
  simp only [Option.bind_eq_some_iff, Option.map_eq_some_iff] at e
  obtain ⟨ts, h1, ns, h2, rfl⟩ := e
  obtain ⟨a, vs, rfl, ha, za⟩ := lstO_at le w h1
  rw [boolsD_some h2] at za
  rw [fz_bls za] at ha
  exact ⟨a, ns, rfl, ha.sq, k _ S H [] (Gr.refl le) (ow_leaf (by simp only [Fz])) New.nil⟩
end
/-! isinstance(x, T) -/
inductive Tyk where
  | int | bool | str | list | tuple
def Tyk.name : Tyk → String
  | .int => "int"
  | .bool => "bool"
  | .str => "str"
  | .list => "list"
  | .tuple => "tuple"
def Tyk.is : Tyk → D → Bool
  | .int, t => t.isInt
  | .bool, t => t.isBool
  | .str, t => t.isStr
  | .list, t => t.isList
  | .tuple, t => t.isTuple
def isaI (k : Tyk) (t : D) : Option D := if okd 50 t = true then some (.bool (k.is t)) else none
section
variable {X : Cx}
theorem cr_isa (k : Tyk) : CallR X (.builtin "isinstance") (fun xs H Q => ∃ x t, xs = [x, .ty k.name] ∧ Fz X.K H t x ∧ okd 50 t = true ∧ Q (.bl (k.is t)) H) := by
  intro pins s σ H xs us Q I r h
  obtain ⟨x, t, rfl, w, ok, q⟩ := h
  obtain ⟨u1, u2, rfl, r1, r2⟩ := vals2 r
  have e2 : u2 = Value.type k.name := r2
  subst e2
  obtain ⟨as, ra⟩ := fz_reads I (okd_spec ok).1 w r1
  cases k with
  | int => exact PySem.W.isinstance_int_data ra fun tk _ => ⟨.bl _, H, I.tok tk, rfl, q⟩
  | bool => exact PySem.W.isinstance_bool_data ra fun tk _ => ⟨.bl _, H, I.tok tk, rfl, q⟩
  | str => exact PySem.W.isinstance_str_data ra fun tk _ => ⟨.bl _, H, I.tok tk, rfl, q⟩
  | list => exact PySem.W.isinstance_list_data ra fun tk _ => ⟨.bl _, H, I.tok tk, rfl, q⟩
  | tuple => exact PySem.W.isinstance_tuple_data ra fun tk _ => ⟨.bl _, H, I.tok tk, rfl, q⟩
theorem se_isa (k : Tyk) {a : Expr} {f : ESem} {q m : Bool} {pos p p2 : Pos} {T : Str} (hg : Gl X "isinstance") (hm : X.mg "isinstance" = none) (hgT : Gl X T) (hmT : X.mg T = none) (hv : bootBuiltins T = some (.type k.name)) (h : SE X a f q m) (hvI : bootBuiltins "isinstance" = some (.builtin "isinstance") := by decide +kernel)
    (hn : T ≠ "__name__" := by decide) (hd : (T == ("__debug__" : Str)) = false := by decide)
    (he : starEach [a, .Name T p2] X.env = (false, eval a X.env) :: starEach [.Name T p2] X.env := by rfl) (he2 : starEach [.Name T p2] X.env = (false, eval (.Name T p2) X.env) :: starEach [] X.env := by rfl) (hpl : (backTo pos (starEach [.Name T p2] X.env)).any (·.1) = false := by rfl) :
    SE X (.Call (.Name "isinstance" p) [a, .Name T p2] [] pos) (un f (vw1 (isaI k))) q true := by
  refine ⟨PE.imp (pe_callB (cr_isa k) hg hm hvI (pa_cons h.pe (pa_cons (pe_bltn (v := .ty k.name) hgT hmT hv rfl hn hd) pa_nil he2) he) (by decide) (by decide) he hpl) fun σ H Q hw => ?_, un_qf h.qf⟩
  refine imp1 (r := fun x H Q => ∃ x' t, [x, V.ty k.name] = [x', .ty k.name] ∧ Fz X.K H t x' ∧ okd 50 t = true ∧ Q (.bl (k.is t)) H) (ro1_vw fun H x t z Q w e hf q => ?_) hw
  unfold isaI at e
  split at e
  · rename_i ok
    cases e
    exact ⟨x, t, rfl, w, ok, q⟩
  · cases e
end
end Mv

set_option Elab.async false
set_option linter.all false
set_option maxRecDepth 100000
set_option maxHeartbeats 2000000
namespace Mv
open PySem PySem.Spec PyProof.Rows L2
section
variable {X : Cx} {a b c e : Expr} {f1 f2 f3 f : ESem} {q1 q2 q3 q m1 m2 m3 m : Bool} {pos : Pos}
/-! ### a < b < c, all plain -/
def chainE (f1 f2 f3 : ESem) (g g' : O → O → Option O) : ESem := fun env => (f1 env).bind fun p => (f2 p.2).bind fun r =>
  if (p.1.isLeaf && r.1.isLeaf) = true then (g p.1 r.1).bind fun z => match z with
    | .leaf (.bool true) => (f3 r.2).bind fun t => (g' r.1 t.1).map fun w => (w, t.2)
    | .leaf (.bool false) => some (.leaf (.bool false), r.2)
    | _ => none
  else none
/-! ### a, b = x, y -/
def setAll : List Nat → List O → Env → Option Env
  | [], [], env => some env
  | i :: is, o :: os, env => setAll is os (env.set i (some o))
  | _, _, _ => none
def parS (is : List Nat) (f : ASem) : SSem := fun env => (f env).bind fun p => (setAll is p.1 p.2).map fun e => (.nx, e)
theorem setAll_rel {K : PySem.W.Frag} {S H : Hp} {S0 H0 : Hp} {fp0 : Nat → List Addr} : ∀ {is : List Nat} {os : List O} {vs : List V} {fr : List Addr} {env env' : Env} {σ : L2.St} {fp : Nat → List Addr}, Rel K env σ S H fp → Evo S0 H0 fp0 S H fp → OwA K S H os vs fr → fr.Nodup → (∀ a ∈ fr, ∀ j, a ∉ fp j) → (∀ a ∈ fr, S a = none) → (∀ a ∈ fr, H0 a = none ∨ ∃ j, a ∈ fp0 j) → setAll is os env = some env' →
    ∃ σ' fp', Rel K env' σ' S H fp' ∧ Evo S0 H0 fp0 S H fp' ∧ (∀ k, k ∉ is → σ'[k]? = σ[k]?) ∧ σ' = (is.zip vs).foldl (fun σ p => σ.set p.1 (some p.2)) σ
  | [], [], vs, fr, env, env', σ, fp, R, E, w, n, off, un, src, e => by
    cases e
    rw [w.1]
    exact ⟨σ, fp, R, E, fun _ _ => rfl, rfl⟩
  | [], _ :: _, vs, fr, env, env', σ, fp, R, E, w, n, off, un, src, e => by cases e
  | _ :: _, [], vs, fr, env, env', σ, fp, R, E, w, n, off, un, src, e => by cases e
  | i :: is, o :: os, vs, fr, env, env', σ, fp, R, E, w, n, off, un, src, e => by
    obtain ⟨v, vr, f1, f2, rfl, rfl, h1, h2⟩ := w
    rw [List.nodup_append] at n
    have R1 := R.set (i := i) h1 n.1 (fun a m j => off a (List.mem_append_left _ m) j) (fun a m => un a (List.mem_append_left _ m))
    have E1 : Evo S0 H0 fp0 S H (fun j => if j = i then f1 else fp j) := E.set (fun a m => src a (List.mem_append_left _ m))
    obtain ⟨σ', fp', h3, h4, h5, h6⟩ := setAll_rel R1 E1 h2 n.2.1 (fun a m j z => by
      by_cases hj : j = i
      · rw [if_pos hj] at z
        exact n.2.2 a z a m rfl
      · rw [if_neg hj] at z
        exact off a (List.mem_append_right _ m) j z) (fun a m => un a (List.mem_append_right _ m)) (fun a m => src a (List.mem_append_right _ m)) e
    refine ⟨σ', fp', h3, h4, fun k hk => ?_, by rw [h6]; rfl⟩
    rw [List.mem_cons, not_or] at hk
    rw [h5 k hk.2, List.getElem?_set_ne (fun z => hk.1 z.symm)]
theorem evA_len {is : List Nat} {os : List O} {env env' : Env} (h : setAll is os env = some env') : is.length = os.length := by
  induction is generalizing os env with
  | nil =>
    cases os with
    | nil => rfl
    | cons _ _ => cases h
  | cons i is ih =>
    cases os with
    | nil => cases h
    | cons o os => simp [ih (os := os) h]
theorem tAr_len {K : PySem.W.Frag} {is : List Nat} {f : ASem} {q : Bool} {D : Ends} {σ : L2.St} {H : Hp} (h : tSS K (parS is f) is D σ H) : tAr K f q σ H fun vs H1 => vs.length = is.length ∧ D.nx ((is.zip vs).foldl (fun σ p => σ.set p.1 (some p.2)) σ) H1 := by
  have h0 := h
  obtain ⟨env, S, fp, out, env', R, he, k⟩ := h
  unfold parS at he
  simp only [Option.bind_eq_some_iff, Option.map_eq_some_iff, Prod.mk.injEq] at he
  obtain ⟨⟨os, e1⟩, h1, e2, h2, rfl, rfl⟩ := he
  refine ⟨env, S, fp, os, e1, R, h1, fun vs S1 H1 fp1 fr R1 E1 w g F => ?_⟩
  obtain ⟨σ', fp', h3, h4, h5, h6⟩ := setAll_rel R1 E1 w F.nd F.off F.un F.src h2
  refine ⟨by rw [w.len, evA_len h2], ?_⟩
  rw [← h6]
  exact k σ' S1 H1 fp' h3 h4 h5
theorem len2 {vs : List V} (h : vs.length = 2) : ∃ v w, vs = [v, w] := by
  match vs, h with
  | [v, w], _ => exact ⟨v, w, rfl⟩
theorem len3 {vs : List V} (h : vs.length = 3) : ∃ u v w, vs = [u, v, w] := by
  match vs, h with
  | [u, v, w], _ => exact ⟨u, v, w, rfl⟩
theorem tAr_mono {K : PySem.W.Frag} {f : ASem} {q : Bool} {σ : L2.St} {H : Hp} {Q Q' : List V → Hp → Prop} (h : tAr K f q σ H Q) (i : ∀ vs H, Q vs H → Q' vs H) : tAr K f q σ H Q' := by
  obtain ⟨env, S, fp, os, e1, R, h1, k⟩ := h
  exact ⟨env, S, fp, os, e1, R, h1, fun vs S1 H1 fp1 fr R1 E1 w g F => i _ _ (k vs S1 H1 fp1 fr R1 E1 w g F)⟩
theorem ss_par {i j : Nat} {x y : Str} {fa : ASem} {px py pt : Pos} {kt k2 pt2} (hc : X.calm = true) (hN : X.N.Nodup) (hi : X.N[i]? = some x) (hj : X.N[j]? = some y) (hij : i ≠ j)
    (hx : X.env.scope.names.lookup x = some .local) (hy : X.env.scope.names.lookup y = some .local) (ha : SA X [a, b] fa q)
    (hw : swappedStores [.Tuple [.Name x px, .Name y py] kt pt] (.Tuple [a, b] k2 pt2) X.env = pure (some [x, y]))
    (hs : swapsWithSole [.Tuple [.Name x px, .Name y py] kt pt] (.Tuple [a, b] k2 pt2) pos.line X.env = pure false := by rfl) :
    SS X (.Assign [.Tuple [.Name x px, .Name y py] kt pt] (.Tuple [a, b] k2 pt2) pos) (parS [i, j] fa) [i, j] :=
  ⟨PS.imp (ps_par hc hN hi hj hij hx hy ha.pa hw hs) fun D σ H h => tAr_mono (tAr_len h) fun vs H1 ⟨hl, hn⟩ => by
    obtain ⟨v, w, rfl⟩ := len2 hl
    exact ⟨v, w, rfl, hn⟩⟩
theorem ss_par3 {i j l : Nat} {x y z : Str} {fa : ASem} {px py pz pt : Pos} {kt k2 pt2} (hc : X.calm = true) (hN : X.N.Nodup) (hi : X.N[i]? = some x) (hj : X.N[j]? = some y) (hl : X.N[l]? = some z) (hij : i ≠ j) (hil : i ≠ l) (hjl : j ≠ l)
    (hx : X.env.scope.names.lookup x = some .local) (hy : X.env.scope.names.lookup y = some .local) (hz : X.env.scope.names.lookup z = some .local) (ha : SA X [a, b, c] fa q)
    (hw : swappedStores [.Tuple [.Name x px, .Name y py, .Name z pz] kt pt] (.Tuple [a, b, c] k2 pt2) X.env = pure (some [x, y, z]))
    (hs : swapsWithSole [.Tuple [.Name x px, .Name y py, .Name z pz] kt pt] (.Tuple [a, b, c] k2 pt2) pos.line X.env = pure false := by rfl) :
    SS X (.Assign [.Tuple [.Name x px, .Name y py, .Name z pz] kt pt] (.Tuple [a, b, c] k2 pt2) pos) (parS [i, j, l] fa) [i, j, l] :=
  ⟨PS.imp (ps_par3 hc hN hi hj hl hij hil hjl hx hy hz ha.pa hw hs) fun D σ H h => tAr_mono (tAr_len h) fun vs H1 ⟨hl, hn⟩ => by
    obtain ⟨u, v, w, rfl⟩ := len3 hl
    exact ⟨u, v, w, rfl, hn⟩⟩
/-- the pair made, then unpacked (a name that an inner block sees) -/
def gNames : List Nat → TGs
  | [] => gNil
  | i :: r => gCons (gName i) (gNames r)
/-- x op= e, numbers -/
def augS (i : Nat) (f : ESem) (g : O → O → Option O) : SSem := fun env => match env[i]? with
  | some (some o) => if o.isLeaf = true then (f env).bind fun p => (g o p.1).bind fun z => if z.isLeaf = true then some (.nx, p.2.set i (some z)) else none else none
  | _ => none
theorem ss_aug {i : Nat} {x : Str} {op : Operator} {ti : TIp} {g : O → O → Option O} {pos' : Pos} (hN : X.N.Nodup) (hi : X.N[i]? = some x) (hx : Loc X.env.scope x) (h : SE X e f q m) (ho : PIp X op ti) (hr : RO2 X.K ti g) (hf : X.fn x = true ∨ X.env.scope.names.lookup x = some .local := by first | exact .inl rfl | exact .inr rfl | assumption) :
    SS X (.AugAssign (.Name x pos') op e pos) (augS i f g) [i] := by
  refine ⟨PS.imp (ps_aug hN hi hx h.pe ho hf) fun D σ H hw => ?_⟩
  obtain ⟨env, S, fp, out, env', R, he, k⟩ := hw
  unfold augS at he
  split at he
  · rename_i o e0
    split at he
    · rename_i hl
      simp only [Option.bind_eq_some_iff] at he
      obtain ⟨⟨y, e1⟩, h1, z, h2, h3⟩ := he
      split at h3
      · rename_i hz
        cases h3
        obtain ⟨x0, hx0, w0⟩ := R.sl i o e0
        have ef := isLeaf_fr hl w0
        rw [ef] at w0
        refine ⟨x0, hx0, env, S, fp, y, e1, R, h1, fun v S1 H1 fp1 fr R1 E1 w g1 n => ?_⟩
        refine hr S1 H1 x0 v o y [] fr z _ R1.le (w0.keep E1.sub (by intro a h; cases h)) w h2 fun v2 S2 H2 fr2 gr w2 nw => ?_
        have ez := isLeaf_fr hz w2
        subst ez
        refine k _ _ _ _ ((R1.gr gr).set (i := i) w2 List.nodup_nil (by intro a h; cases h) (by intro a h; cases h)) ((E1.trans gr.evo).set (by intro a h; cases h)) fun j hj => ?_
        rw [List.getElem?_set_ne]
        intro z
        exact hj (List.mem_singleton.mpr z.symm)
      · cases h3
    · cases he
  · cases he
end
def addII : D → D → Option D
  | .int i, .int j => some (.int (i + j))
  | _, _ => none
theorem ro_ipadd {K : PySem.W.Frag} : RO2 K (ipI fun i j => i + j) (vw2 addII) := ro2_vw fun H x y t u z Q w1 w2 e hf q => by
  unfold addII at e
  split at e
  · cases e
    simp only [Fz] at w1 w2
    exact ⟨_, _, w1, w2, q⟩
  · cases e
/-! ### a def, by the head's facts -/
theorem defD_ok {P : Program} {w : World} {K : PySem.W.Frag} {mg : Str → Option Value} {base : Heap} {x qual : Str} {st : Stmt} {f : Addr} {fd : FuncData} {N ps : List Str} {k n size : Nat} {rb asg : List Nat} {body : SSem} (F : FunD K x qual (defArgs st) (defBody st) (defScope st) [] [] f fd) (Sc : FnScope N ps (defScope st)) (hn : ps.length = n) (hN : N.length = size) (hrb : (asg.all fun i => decide (n ≤ i) || rb.contains i) = true)
    (hb : ∀ (cdv : Value) (A : Around) (outer : List PySem.Env) (s : Shared) (H : Hp) (E : XK), CdOf K f cdv → Room k (A.deeper (envOfC qual (defScope st) s.heap.objs.size f cdv)) → SSs (cxOf CX0 P w K mg base N qual (defScope st) f cdv A outer s H E).nox (defBody st) body asg) :
    FnOk P w K mg base CX0 (k + 1) f fd ps (spOf K (runDef n size rb body)) := by
  obtain ⟨oc, od, dV, kV, doc, pm, an, cdv, ct, osl, rfl, lk, hcd, hD, hK⟩ := F.ex
  rcases hD with ⟨_, rfl⟩ | ⟨e, _⟩
  · exact def_ok ⟨⟨oc, od, kV, doc, pm, an, cdv, ct, osl, rfl, lk, hcd⟩, F.kp⟩ Sc hn hN (fun i hi hl => by
      have := List.all_eq_true.mp hrb i hi
      rw [Bool.or_eq_true, decide_eq_true_eq] at this
      rcases this with z | z
      · omega
      · simpa using z) hb
  · exact absurd rfl e

/-! ### the law's end -/
/-- the defs' code objects and their tables -/
def lamC (K : PySem.W.Frag) : List (Addr × Addr) := lams.map fun x => He.cT K (x, none)
theorem lamC_at {K : PySem.W.Frag} {p : Addr × Str} (h : p ∈ lamT K) : ∃ c, (c, p.1) ∈ lamC K := by
  unfold lamT at h
  obtain ⟨x, hx, rfl⟩ := List.mem_map.mp h
  exact ⟨(He.cT K (x, none)).1, List.mem_map.mpr ⟨x, hx, rfl⟩⟩
/-- the tables left out -/
def noT (H : Hp) : Hp := fun b => match H b with
  | some (.tbl _) => none
  | x => x
theorem noT_le {H : Hp} : Same (noT H) H := fun b u e => by
  unfold noT at e
  split at e
  · cases e
  · exact e
theorem noT_at {H : Hp} {b : Addr} {u : HO} (e : H b = some u) (h : fx u = false) : noT H b = some u := by
  unfold noT
  rw [e]
  cases u <;> first | rfl | cases h
theorem law_sp {K : PySem.W.Frag} {g : Def} {H : Hp} {a : Addr} {ns : List Int} (hg : ∃ os', g [.leaf (.list (ns.map .int))] = some (.leaf (.bool true), os')) (h : LsAt K H a (ns.map V.int)) (hT : ∀ p ∈ lamC K, H p.2 = some (.tbl #[])) :
    spOf K g [.ref a] H (fun v _ => v = .bl true) fun _ _ _ => False := by
  obtain ⟨os', hg⟩ := hg
  have h' : LsAt K (noT H) a (ns.map V.int) := by
    rcases h with (h | ⟨o, h⟩) | h
    · exact .inl (.inl (noT_at h rfl))
    · exact .inl (.inr ⟨o, noT_at h rfl⟩)
    · exact .inr h
  refine ⟨[.leaf (.list (ns.map .int))], noT H, fun _ => [], _, os', ⟨noT_le, rfl, fun i o e => ?_, fun _ => List.nodup_nil, (by intro i j a h; cases h), (by intro i a h; cases h), (by intro i a h; cases h), ⟨fun p hp => ?_, fun p hp => ?_⟩⟩, fun _ _ => rfl, hg, fun v S' H' fp' fr R' E' w F => ?_⟩
  · cases i with
    | zero =>
      simp at e
      subst e
      refine ⟨.ref a, rfl, ow_leaf ?_⟩
      simp only [Fz]
      exact ⟨a, _, rfl, h', fz_ints'⟩
    | succ i => simp at e
  · obtain ⟨c, hc⟩ := lamC_at hp
    exact LamX.TabS.nil (hT _ hc)
  · obtain ⟨c, hc⟩ := lamC_at hp
    show noT H p.1 = none
    unfold noT
    rw [show H p.1 = some (.tbl #[]) from hT _ hc]
  · exact (leafB w).1
/-- the law's call, from an abstract heap in which nothing but the script and the tables may be tracked -/
theorem law_run {P : Program} {w : World} {K : PySem.W.Frag} {mg mb : Str → Option Value} {k : Nat} {fa a : Addr} {fd : FuncData} {x : Str} {sp : Sp} {s₁ : Shared} {o : Obj} {H : Hp} {cs : List (Addr × Addr)}
    (KX : K.In s₁.heap) (hns : s₁.heap.Ns mainGlobals mg) (hb : s₁.heap.Ns builtinsNs mb) (hbb : ∀ x : Str, x ≠ "__name__" → mb x = bootBuiltins x) (hlim : s₁.heap.NoLimit) (hg : s₁.gens = #[])
    (hT : ∀ p ∈ cs, s₁.heap.get? p.2 = some { cls := .none, data := .fields #[] }) (nT : ∀ p ∈ cs, K.lookup p.2 = none) (C : ∀ p ∈ cs, PySem.W.CodeHd s₁.heap p.1 p.2)
    (hbm : ∃ (bm : Addr) (ob : Obj), mg "__builtins__" = some (.ref bm) ∧ bm ≠ builtinsNs ∧ s₁.heap.get? bm = some ob ∧ ob.cls = .type "module" ∧ ob.dict = some builtinsNs ∧ ob.data = .plain)
    (ha : s₁.heap.get? a = some o) (hod : ∃ vs n, o.data = .seq vs n) (hr : Mv.Room k callerA)
    (F : ∀ base : Heap, K.In base → base.Ns mainGlobals mg → (∀ p ∈ cs, LamX.TabB base mg p.1 p.2) → Mv.FnOk P w K mg base CX0 k fa fd [x] sp) (hbind : ∀ (s : Shared) (u : Value), BindsTo s fd ⟨[u], []⟩ [(x, u)])
    (hO : ∀ b, H b = none ∨ (∃ p ∈ cs, b = p.2) ∨ ∃ o xs, b = a ∧ H b = some (.frz o (.lst xs))) (hH : ∀ p ∈ cs, H p.2 = some (.tbl #[])) (hok : HOk P w H s₁.heap) (hK : H a ≠ none → K.lookup a = none) (hsp : sp [.ref a] H (fun v _ => v = .bl true) fun _ _ _ => False) :
    codeAny (model P w) callerA (.call (.ref fa) ⟨[.ref a], []⟩) (fun r s' => r = .ok (.ret (.bool true)) ∧ OldK s₁.heap s'.heap ∧ s'.os = s₁.os ∧ AllBare s'.gens) s₁ := by
  -- what is neither a sequence nor an empty table is not tracked
  have unt : ∀ {b : Addr} {u : Obj}, s₁.heap.get? b = some u → (∀ vs n, u.data ≠ .seq vs n) → u.data ≠ .fields #[] → H b = none := fun {b u} e n1 n2 => by
    rcases hO b with z | ⟨p, hp, rfl⟩ | ⟨_, _, rfl, _⟩
    · exact z
    · rw [hT p hp] at e
      cases e
      exact absurd rfl n2
    · rw [ha] at e
      cases e
      obtain ⟨vs, n, z⟩ := hod
      exact absurd z (n1 vs n)
  have untD : ∀ {b : Addr} {u : Obj} {es : Array DictEntry} {ep : Nat}, s₁.heap.get? b = some u → u.data = .dict es ep → H b = none := fun e d => unt e (fun vs n z => by rw [d] at z; cases z) fun z => by rw [d] at z; cases z
  have nsK : ∀ {b : Addr} {m : Str → Option Value}, s₁.heap.Ns b m → (hidT s₁.heap H).Ns b m := fun ⟨o, es, ep, e, d, r⟩ => ⟨o, es, ep, hidT_get e (untD e d), d, r⟩
  have inK : K.In (hidT s₁.heap H) := fun b u e => hidT_get (KX b u e) (by
    rcases hO b with z | ⟨p, hp, rfl⟩ | ⟨_, _, rfl, q⟩
    · exact z
    · rw [nT p hp] at e
      cases e
    · rw [hK (by rw [q]; exact fun z => nomatch z)] at e
      cases e)
  have TB : ∀ p ∈ cs, LamX.TabB (hidT s₁.heap H) mg p.1 p.2 := fun p hp => by
    have hTp := hT p hp
    refine ⟨?_, ?_, fun z => ?_⟩
    · obtain ⟨o, us, file, tf, flags, tg, inF, text, tt, e1, r1, r2, r3, r4, r5, r6, r7, r8, hne⟩ := C p hp
      refine ⟨o, us, file, tf, flags, tg, inF, text, tt, hidT_get e1 (unt e1 (fun vs n z => ?_) fun z => ?_), r1, r2, r3, r4, r5, r6, r7, r8, hne⟩
      · rw [r2] at z
        cases z
      · rw [r2] at z
        cases z
        simp at r3
    · obtain ⟨bm, ob, b1, b2, b3, b4, b5, b6⟩ := hbm
      refine ⟨bm, ob, b1, b2, fun q => ?_, fun q => ?_, hidT_get b3 (unt b3 (fun vs n z => ?_) fun z => ?_), b4, b5, b6⟩
      · obtain ⟨o, es, ep, e, hd, _⟩ := hns
        rw [q, e] at b3
        cases b3
        rw [hd] at b6
        cases b6
      · rw [q, hTp] at b3
        cases b3
        cases b6
      · rw [b6] at z
        cases z
      · rw [b6] at z
        cases z
    · obtain ⟨o, es, ep, e, hd, _⟩ := hns
      rw [z, hTp] at e
      cases e
      cases hd
  have e0 : Env0 P w K mg (hidT s₁.heap H) callerA [] s₁ H := ⟨rfl, ⟨inK, nsK hns, ⟨mb, nsK hb, hbb⟩, hlim.imp fun _ h => ⟨nsK h.1, h.2⟩⟩, fun b u e => of_hidT e, Nat.le_of_eq (hidT_size _ _), trivial, (fun b z => nomatch z), hok, .of_eq hg⟩
  refine codeAny_mono ((F _ inK (nsK hns) TB).run callerA [] s₁ H ⟨[.ref a], []⟩ [.ref a] [.ref a] _ _ hr e0 (hbind s₁ (.ref a)) (.cons rfl .nil) hsp) fun r s' h => ?_
  match r, h with
  | .error e, h => exact False.elim h
  | .ok (.ret u), ⟨v, H', os, bare, un, hok', r', q⟩ =>
    subst q
    obtain rfl : u = Value.bool true := r'
    have grown : ∀ p ∈ cs, ∃ more : Array Value, s'.heap.get? p.2 = some { cls := .none, data := .fields more } := fun p hp => by
      obtain ⟨more, z⟩ := un.tbls p.2 #[] (hH p hp)
      exact ⟨_, hok' p.2 _ z⟩
    have key : ∀ b u, s₁.heap.get? b = some u → (∃ p ∈ cs, b = p.2) ∨ s'.heap.get? b = some u := fun b u e => by
      rcases hO b with z | z | ⟨ob, xs, rfl, z⟩
      · exact .inr (un.keep b u e z (fun z => nomatch z) (fun z => nomatch z))
      · exact .inl z
      · have e1 := (hok _ _ z).1
        rw [e] at e1
        cases e1
        exact .inr (hok' _ _ (un.frzs _ _ _ z)).1
    refine ⟨rfl, ⟨fun b u e => ?_, fun b u e => ?_⟩, os, bare⟩
    · rcases key b u e with ⟨p, hp, rfl⟩ | z
      · obtain ⟨more, hm⟩ := grown p hp
        rw [hT p hp] at e
        cases e
        exact .inr (.inl ⟨((C p hp).tab (hT p hp)).isCodeTable, rfl, #[], more, rfl, by rw [Array.empty_append]; exact hm⟩)
      · exact .inl z
    · rcases key b u e with ⟨p, hp, rfl⟩ | z
      · obtain ⟨more, hm⟩ := grown p hp
        exact ⟨_, hm⟩
      · exact ⟨u, z⟩
theorem law_callG {P : Program} {w : World} {K : PySem.W.Frag} {mg mb : Str → Option Value} {k : Nat} {fa a : Addr} {fd : FuncData} {x : Str} {sp : Sp} {s₁ : Shared} {vs : List Value} {ns : List Int} {cs : List (Addr × Addr)}
    (KX : K.In s₁.heap) (hns : s₁.heap.Ns mainGlobals mg) (hb : s₁.heap.Ns builtinsNs mb) (hbb : ∀ x : Str, x ≠ "__name__" → mb x = bootBuiltins x) (hlim : s₁.heap.NoLimit) (hg : s₁.gens = #[])
    (hT : ∀ p ∈ cs, s₁.heap.get? p.2 = some { cls := .none, data := .fields #[] }) (nT : ∀ p ∈ cs, K.lookup p.2 = none) (C : ∀ p ∈ cs, PySem.W.CodeHd s₁.heap p.1 p.2)
    (hbm : ∃ (bm : Addr) (ob : Obj), mg "__builtins__" = some (.ref bm) ∧ bm ≠ builtinsNs ∧ s₁.heap.get? bm = some ob ∧ ob.cls = .type "module" ∧ ob.dict = some builtinsNs ∧ ob.data = .plain)
    (ha : s₁.heap.get? a = some { cls := .type "list", data := .seq vs.toArray }) (hi : IntsAre vs ns) (hl : ns.length ≤ sizeLine) (hr : Mv.Room k callerA)
    (F : ∀ base : Heap, K.In base → base.Ns mainGlobals mg → (∀ p ∈ cs, LamX.TabB base mg p.1 p.2) → Mv.FnOk P w K mg base CX0 k fa fd [x] sp) (hbind : ∀ (s : Shared) (u : Value), BindsTo s fd ⟨[u], []⟩ [(x, u)])
    (hsp : ∀ H : Hp, (∀ p ∈ cs, H p.2 = some (.tbl #[])) → SqL K H a (ns.map V.int) → sp [.ref a] H (fun v _ => v = .bl true) fun _ _ _ => False) :
    codeAny (model P w) callerA (.call (.ref fa) ⟨[.ref a], []⟩) (fun r s' => r = .ok (.ret (.bool true)) ∧ OldK s₁.heap s'.heap ∧ s'.os = s₁.os ∧ AllBare s'.gens) s₁ := by
  have rv := vals_ints hi
  have dz : ∃ (v : Array Value) (n : Nat), ({ cls := .type "list", data := .seq vs.toArray } : Obj).data = .seq v n := ⟨_, _, rfl⟩
  let T : Hp := fun b => if b ∈ cs.map (·.2) then some (.tbl #[]) else none
  have Tat : ∀ p ∈ cs, T p.2 = some (.tbl #[]) := fun p hp => if_pos (List.mem_map.mpr ⟨p, hp, rfl⟩)
  have Tno : ∀ b, T b = none ∨ ∃ p ∈ cs, b = p.2 := fun b => by
    by_cases h : b ∈ cs.map (·.2)
    · obtain ⟨p, hp, e⟩ := List.mem_map.mp h
      exact .inr ⟨p, hp, e.symm⟩
    · exact .inl (if_neg h)
  have Tok : HOk P w T s₁.heap := fun b u z => by
    rcases Tno b with h | ⟨p, hp, rfl⟩
    · rw [h] at z
      cases z
    · rw [Tat p hp] at z
      cases z
      exact hT p hp
  have aT : ∀ p ∈ cs, p.2 ≠ a := fun p hp z => by
    have q := hT p hp
    rw [z, ha] at q
    cases q
  have Ta : T a = none := (Tno a).elim id fun ⟨p, hp, z⟩ => absurd z.symm (aT p hp)
  by_cases hk : K.lookup a = none
  · have Ha : upd T a (.frz { cls := .type "list", data := .seq vs.toArray } (.lst (ns.map V.int))) a = some (.frz { cls := .type "list", data := .seq vs.toArray } (.lst (ns.map V.int))) := upd_same
    have HT : ∀ p ∈ cs, upd T a (.frz { cls := .type "list", data := .seq vs.toArray } (.lst (ns.map V.int))) p.2 = some (.tbl #[]) := fun p hp => (upd_ne (aT p hp)).trans (Tat p hp)
    refine law_run KX hns hb hbb hlim hg hT nT C hbm ha dz hr F hbind (fun b => ?_) HT (fun b u z => ?_) (fun _ => hk) (hsp _ HT (.inl (.inr ⟨_, Ha⟩)))
    · by_cases hb : b = a
      · exact .inr (.inr ⟨_, _, hb, by rw [hb]; exact Ha⟩)
      · rw [upd_ne hb]
        exact (Tno b).imp id .inl
    · by_cases hb : b = a
      · subst hb
        rw [Ha] at z
        cases z
        exact ⟨ha, by rw [List.length_map]; exact hl, vs, _, rv, ha⟩
      · rw [upd_ne hb] at z
        rcases Tno b with h | ⟨p, hp, rfl⟩
        · rw [h] at z
          cases z
        · rw [Tat p hp] at z
          cases z
          exact hT p hp
  · obtain ⟨o, ho⟩ := Option.ne_none_iff_exists'.mp hk
    have e := KX a o ho
    rw [ha] at e
    cases e
    exact law_run (H := T) KX hns hb hbb hlim hg hT nT C hbm ha dz hr F hbind (fun b => (Tno b).imp id .inl) Tat Tok (fun z => absurd Ta z)
      (hsp _ Tat (.inr ⟨_, vs.toArray, _, ho, rfl, rfl, rfl, by rw [List.size_toArray, hi.length]; exact hl, by simpa using rv⟩))
theorem walk_law {l : PySem.W.OpenLaw} {k : Nat} {q : Program} {loose : List Str} {XP : (Str → Option Value) → Heap → Prop} {YP : World → Heap → Prop} {d : DefRec} {x : Str} {g : Def}
    (hn : l.most = some 63) (hdf : d.params.defaults = []) (hr : Mv.Room k callerA)
    (F : ∀ (w : World) (mg : Str → Option Value) (fa : Addr) (h : Heap), YP w h → h.Ns mainGlobals mg → mg d.name = some (.ref fa) →
      ∃ (K : PySem.W.Frag) (fd : FuncData), K.In h ∧ (∀ p ∈ lamC K, h.get? p.2 = some { cls := .none, data := .fields #[] }) ∧ (∀ p ∈ lamC K, K.lookup p.2 = none) ∧ (∀ p ∈ lamC K, PySem.W.CodeHd h p.1 p.2) ∧ (∀ (s : Shared) (u : Value), BindsTo s fd ⟨[u], []⟩ [(x, u)]) ∧
        ∀ base : Heap, K.In base → base.Ns mainGlobals mg → (∀ p ∈ lamC K, LamX.TabB base mg p.1 p.2) → Mv.FnOk l.prog w K mg base CX0 k fa fd [x] (spOf K g))
    (hg : ∀ ns : List Int, ns.length ≤ 63 → ∃ os', g [.leaf (.list (ns.map .int))] = some (.leaf (.bool true), os')) :
    PySem.W.WalkO q loose XP YP l.row.toRowW d [] (fun f vs => PySem.call f vs) := by
  refine Att.attach_call hn hdf fun w s₀ s₁ mg mb fa o pm cd doc a vs ns G Y ho hd hcd hmg hobj hints hlen hgn => ?_
  obtain ⟨K, fd, KX, hT, nT, hC, hb, hF⟩ := F w mg fa _ Y G.T.g hmg
  refine law_callG KX G.T.g G.T.b G.T.builtins G.T.nolimit hgn hT nT hC G.T.bmain hobj hints (Nat.le_trans hlen (by decide)) hr hF hb fun H hH hS => law_sp (hg ns hlen) ?_ hH
  rcases hS with hS | ⟨ob, its, n, lk, hc, hdd, hdat, hz, rv⟩
  · exact .inl hS
  · have e := KX _ _ lk
    rw [hobj] at e
    cases e
    refine .inr ⟨vs, 0, vals_ints hints, ?_, lk⟩
    rw [List.length_map]
    exact Nat.le_trans hlen (by decide)
end Mv

set_option Elab.async false
set_option linter.all false
set_option maxRecDepth 100000
set_option maxHeartbeats 2000000
namespace Mv
open PySem PySem.Spec PyProof.Rows L2
/-! ### a def that keeps its promise, by name -/
structure Cal (P : Program) (w : World) (K : PySem.W.Frag) (mg : Str → Option Value) (base : Heap) (k : Nat) (x : Str) (ps : List Str) (g : Def) : Prop where
  ex : ∃ f fd, mg x = some (.ref f) ∧ PySem.W.keepIn K (.ref f) = true ∧ Binds K fd ps [] ∧ FnOk P w K mg base CX0 k f fd ps (spOf K g)
theorem se_cal {X : Cx} {k : Nat} {ps : List Str} {x : Str} {p pos : Pos} {e : Expr} {es : List Expr} {g : Def} {args : List Arg} (C : Cal X.prog X.w X.K X.mg X.base k x ps g) (hr : Room k X.A) (hg : Gl X x)
    (ha : SC X (e :: es) args) (hdb : (x == ("__debug__" : Str)) = false := by decide) (he : starEach (e :: es) X.env = (false, eval e X.env) :: starEach es X.env := by rfl) (hpl : (backTo pos (starEach es X.env)).any (·.1) = false := by rfl) :
    SE X (.Call (.Name x p) (e :: es) [] pos) (callF g args) false true := by
  obtain ⟨f, fd, hm, hk, hb, F⟩ := C.ex
  exact se_call F hr hg hm hk hb ha hdb he hpl
theorem cal_mk {P : Program} {w : World} {K : PySem.W.Frag} {mg : Str → Option Value} {base : Heap} {x qual : Str} {st : Stmt} {f : Addr} {fd : FuncData} {N ps : List Str} {k n size : Nat} {rb asg : List Nat} {body : SSem} (F : FunD K x qual (defArgs st) (defBody st) (defScope st) [] [] f fd) (hm : mg x = some (.ref f)) (hbd : Binds K fd ps []) (Sc : FnScope N ps (defScope st)) (hn : ps.length = n) (hN : N.length = size) (hrb : (asg.all fun i => decide (n ≤ i) || rb.contains i) = true)
    (hb : ∀ (cdv : Value) (A : Around) (outer : List PySem.Env) (s : Shared) (H : Hp) (E : XK), CdOf K f cdv → Room k (A.deeper (envOfC qual (defScope st) s.heap.objs.size f cdv)) → SSs (cxOf CX0 P w K mg base N qual (defScope st) f cdv A outer s H E).nox (defBody st) body asg) :
    Cal P w K mg base (k + 1) x ps (runDef n size rb body) := ⟨f, fd, hm, F.kp, hbd, defD_ok F Sc hn hN hrb hb⟩
end Mv

set_option Elab.async false
set_option linter.all false
set_option maxRecDepth 100000
set_option maxHeartbeats 2000000
namespace Mv
open PySem PySem.Spec PyProof.Rows L2
/-! ### the plain side: what a function of slots answers, with a promise behind it -/
universe u
/-- keeps simp out of what comes later -/
structure Hold {α : Sort u} (a : α) : Type where
/-- one way or the other: no way is gone before it is known -/
def Br (b : Bool) (A B : Prop) (_h : Hold A := ⟨⟩) (_h2 : Hold B := ⟨⟩) : Prop := if b = true then A else B
theorem br_t {A B : Prop} : Br true A B ↔ A := Iff.rfl
theorem br_f {A B : Prop} : Br false A B ↔ B := Iff.rfl
theorem br {p : Prop} [Decidable p] {A B : Prop} (h : p → A) (h2 : ¬p → B) : Br (decide p) A B := by
  by_cases hp : p
  · rw [decide_eq_true hp]
    exact h hp
  · rw [decide_eq_false hp]
    exact h2 hp
theorem brb {b : Bool} {A B : Prop} (h : b = true → A) (h2 : b = false → B) : Br b A B := by
  cases b
  · exact h2 rfl
  · exact h rfl
def O1 {α : Type} (x : Option α) (Q : α → Prop) : Prop := match x with
  | some a => Q a
  | none => False
def O2 {α β : Type} (x : Option (α × β)) (Q : α → β → Prop) : Prop := match x with
  | some p => Q p.1 p.2
  | none => False
theorem O1.ex {α : Type} {x : Option α} {Q : α → Prop} (h : O1 x Q) : ∃ a, x = some a ∧ Q a := by
  cases x with
  | none => exact h.elim
  | some a => exact ⟨a, rfl, h⟩
theorem O2.ex {α β : Type} {x : Option (α × β)} {Q : α → β → Prop} (h : O2 x Q) : ∃ a b, x = some (a, b) ∧ Q a b := by
  cases x with
  | none => exact h.elim
  | some p => exact ⟨p.1, p.2, rfl, h⟩
theorem O1.mono {α : Type} {x : Option α} {Q Q' : α → Prop} (h : O1 x Q) (i : ∀ a, Q a → Q' a) : O1 x Q' := by
  cases x with
  | none => exact h.elim
  | some a => exact i _ h
theorem O2.mono {α β : Type} {x : Option (α × β)} {Q Q' : α → β → Prop} (h : O2 x Q) (i : ∀ a b, Q a b → Q' a b) : O2 x Q' := by
  cases x with
  | none => exact h.elim
  | some p => exact i _ _ h
theorem o1_s {α : Type} {a : α} {Q : α → Prop} : O1 (some a) Q = Q a := rfl
theorem o1_n {α : Type} {Q : α → Prop} : O1 none Q = False := rfl
theorem o2_s {α β : Type} {p : α × β} {Q : α → β → Prop} : O2 (some p) Q = Q p.1 p.2 := rfl
theorem o2_n {α β : Type} {Q : α → β → Prop} : O2 none Q = False := rfl
def We (f : ESem) (env : Env) (Q : O → Env → Prop) (_h : Hold Q := ⟨⟩) : Prop := O2 (f env) Q
def Wt (f : TSem) (env : Env) (Q : Bool → Env → Prop) (_h : Hold Q := ⟨⟩) : Prop := O2 (f env) Q
def Wa (f : ASem) (env : Env) (Q : List O → Env → Prop) (_h : Hold Q := ⟨⟩) : Prop := O2 (f env) Q
def Ws (f : SSem) (env : Env) (Q : Out → Env → Prop) (_h : Hold Q := ⟨⟩) : Prop := O2 (f env) Q
def Wi (f : ISem) (env : Env) (Q : List D → Env → Prop) (_h : Hold Q := ⟨⟩) : Prop := O2 (f env) Q
def Wg (g : GSem) (t : D) (env : Env) (Q : Env → Prop) (_h : Hold Q := ⟨⟩) : Prop := O1 (g t env) Q
def Wgs (g : GsSem) (ts : List D) (env : Env) (Q : Env → Prop) (_h : Hold Q := ⟨⟩) : Prop := O1 (g ts env) Q
def Wd (g : Def) (os : List O) (Q : O → List (Option O) → Prop) (_h : Hold Q := ⟨⟩) : Prop := O2 (g os) Q
def Op1 (g : O → Option O) (a : O) (Q : O → Prop) (_h : Hold Q := ⟨⟩) : Prop := O1 (g a) Q
def Op2 (g : O → O → Option O) (a b : O) (Q : O → Prop) (_h : Hold Q := ⟨⟩) : Prop := O1 (g a b) Q
def OpM (g : O → List O → Option (O × D)) (a : O) (os : List O) (Q : O → D → Prop) (_h : Hold Q := ⟨⟩) : Prop := O2 (g a os) Q
def Sl (env : Env) (i : Nat) (Q : O → Prop) (_h : Hold Q := ⟨⟩) : Prop := O1 (env[i]?).join Q
def Fr (o : O) (Q : D → Prop) (_h : Hold Q := ⟨⟩) : Prop := O1 o.frz Q
def Ok (ok : Bool) (o : O) : Prop := (ok || o.isLeaf) = true
def Bl (o : O) (Q : Bool → Prop) (_h : Hold Q := ⟨⟩) : Prop := match o with
  | .leaf (.bool b) => Q b
  | _ => False
def Il (o : O) (Q : Int → Prop) (_h : Hold Q := ⟨⟩) : Prop := match o with
  | .leaf (.int b) => Q b
  | _ => False
def Le (o : O) (Q : D → Prop) (_h : Hold Q := ⟨⟩) : Prop := match o with
  | .leaf b => Q b
  | _ => False
def Lv (os : List O) (Q : List D → Prop) (_h : Hold Q := ⟨⟩) : Prop := O1 (leavesL os) fun ts => ts.length ≤ 1000 ∧ Q ts
def Gp (o : O) (p : Pth) (Q : O → Prop) (_h : Hold Q := ⟨⟩) : Prop := O1 (getP o p) Q
def Wc (args : List Arg) (env : Env) (Q : List Item → Env → Prop) (_h : Hold Q := ⟨⟩) : Prop := O2 (evA args env) Q
def Cl (env : Env) (is : List Item) (Q : List O → Prop) (_h : Hold Q := ⟨⟩) : Prop := O1 (collect env is) Q
def Sa (is : List Nat) (os : List O) (e : Env) (Q : Env → Prop) (_h : Hold Q := ⟨⟩) : Prop := O1 (setAll is os e) Q
def Itm (o : O) (Q : List D → Prop) (_h : Hold Q := ⟨⟩) : Prop := O1 (itemsO o) Q
def Rg1 (os : List O) (Q : List D → Prop) (_h : Hold Q := ⟨⟩) : Prop := match os with
  | [.leaf (.int n)] => (-(2 ^ 62) ≤ n ∧ n < 2 ^ 62) ∧ Q (rangeD 0 n.toNat)
  | _ => False
def Rg2 (os : List O) (Q : List D → Prop) (_h : Hold Q := ⟨⟩) : Prop := match os with
  | [.leaf (.int i), .leaf (.int j)] => ((-(2 ^ 62) ≤ i ∧ i < 2 ^ 62) ∧ -(2 ^ 62) ≤ j ∧ j < 2 ^ 62) ∧ Q (rangeD i (j - i).toNat)
  | _ => False
section
variable {env : Env} {i n : Nat} {f f1 f2 f3 : ESem} {c c1 c2 : TSem} {t d : D} {m ok : Bool}
theorem sl_0 {o : O} {r : Env} {Q : O → Prop} : Sl (some o :: r) 0 Q ↔ Q o := Iff.rfl
theorem sl_s {o : Option O} {r : Env} {Q : O → Prop} : Sl (o :: r) (n + 1) Q ↔ Sl r n Q := by simp [Sl]
theorem w_cst {Q : O → Env → Prop} : We (cstE t) env Q ↔ Q (.leaf t) env := Iff.rfl
theorem w_var {Q : O → Env → Prop} : We (varE i) env Q ↔ Sl env i fun o => Q o env := by
  unfold We varE Sl
  cases h : env[i]? with
  | none => rfl
  | some o => cases o <;> rfl
theorem w_mv {Q : O → Env → Prop} : We (mvE i) env Q ↔ Sl env i fun o => Q o (env.set i none) := by
  unfold We mvE Sl
  cases h : env[i]? with
  | none => rfl
  | some o => cases o <;> rfl
theorem fr_leaf {Q : D → Prop} : Fr (.leaf t) Q ↔ Q t := Iff.rfl
theorem fr_ls {ts : List D} {Q : D → Prop} : Fr (.ls ts) Q ↔ Q (.list ts) := Iff.rfl
theorem w_fz {Q : O → Env → Prop} : We (fzE i) env Q ↔ Sl env i fun o => Fr o fun t => Q (.leaf t) (env.set i (some (.leaf t))) := by
  unfold We fzE Sl Fr
  cases h : env[i]? with
  | none => rfl
  | some o =>
    cases o with
    | none => rfl
    | some o =>
      simp only [Option.join_some, o1_s]
      cases h2 : o.frz <;> rfl
theorem w_frz {Q : O → Env → Prop} : We (frzE f) env Q ↔ We f env fun o e => Fr o fun t => Q (.leaf t) e := by
  unfold We frzE Fr
  cases h : f env with
  | none => rfl
  | some p =>
    simp only [Option.bind_some, o2_s]
    cases h2 : p.1.frz <;> rfl
theorem ok_t {o : O} : Ok true o ↔ True := by simp [Ok]
theorem ok_l : Ok ok (.leaf t) ↔ True := by simp [Ok, O.isLeaf]
theorem w_bin {g : O → O → Option O} {Q : O → Env → Prop} : We (bin ok f1 f2 g) env Q ↔ We f1 env fun a e1 => We f2 e1 fun b e2 => Ok ok a ∧ Op2 g a b fun z => Q z e2 := by
  unfold We bin Op2 Ok
  cases h : f1 env with
  | none => rfl
  | some p =>
    simp only [Option.bind_some, o2_s]
    cases h2 : f2 p.2 with
    | none => rfl
    | some r =>
      simp only [Option.bind_some, o2_s]
      by_cases h3 : (ok || p.1.isLeaf) = true
      · simp only [h3, if_true, true_and]
        cases h4 : g p.1 r.1 <;> rfl
      · simp [h3, o1_n, o2_n]
theorem w_un {g : O → Option O} {Q : O → Env → Prop} : We (un f g) env Q ↔ We f env fun a e1 => Op1 g a fun z => Q z e1 := by
  unfold We un Op1
  cases h : f env with
  | none => rfl
  | some p =>
    simp only [Option.bind_some, o2_s]
    cases h4 : g p.1 <;> rfl
theorem w_binV {g : O → O → Option O} {Q : O → Env → Prop} : We (binV i f2 g) env Q ↔ Sl env i fun _ => We f2 env fun b e2 => Sl e2 i fun a => Op2 g a b fun z => Q z e2 := by
  unfold We binV Op2 Sl
  cases h0 : env[i]? with
  | none => rfl
  | some o =>
    cases o with
    | none => rfl
    | some o =>
      simp only [Option.join_some, o1_s]
      cases h2 : f2 env with
      | none => rfl
      | some p =>
        simp only [Option.bind_some, o2_s]
        cases h3 : p.2[i]? with
        | none => rfl
        | some o =>
          cases o with
          | none => rfl
          | some o =>
            simp only [Option.join_some, o1_s]
            cases h4 : g o p.1 <;> rfl
theorem w_if {Q : O → Env → Prop} : We (ifE c f1 f2) env Q ↔ Wt c env fun b e => Br b (We f1 e Q) (We f2 e Q) := by
  unfold We Wt ifE
  cases h : c env with
  | none => rfl
  | some p =>
    simp only [Option.bind_some, o2_s]
    cases p.1 <;> rfl
theorem bl_b {b : Bool} {Q : Bool → Prop} : Bl (.leaf (.bool b)) Q ↔ Q b := Iff.rfl
theorem il_b {b : Int} {Q : Int → Prop} : Il (.leaf (.int b)) Q ↔ Q b := Iff.rfl
theorem le_l {Q : D → Prop} : Le (.leaf t) Q ↔ Q t := Iff.rfl
theorem w_asB {Q : Bool → Env → Prop} : Wt (asB f) env Q ↔ We f env fun o e => Bl o fun b => Q b e := by
  unfold Wt asB We Bl
  cases h : f env with
  | none => rfl
  | some p =>
    simp only [Option.bind_some, o2_s]
    split <;> rename_i h2
    · first | exact Iff.rfl | (rw [h2]; exact Iff.rfl)
    · cases p with
      | mk o e =>
        cases o with
        | leaf t => cases t <;> first | rfl | exact absurd rfl (h2 _)
        | _ => rfl
theorem w_yes {Q : Bool → Env → Prop} : Wt yesT env Q ↔ Q true env := Iff.rfl
theorem w_not {Q : Bool → Env → Prop} : Wt (notT c) env Q ↔ Wt c env fun b e => Q (!b) e := by
  unfold Wt notT
  cases h : c env <;> rfl
theorem w_and {Q : Bool → Env → Prop} : Wt (andT c1 c2) env Q ↔ Wt c1 env fun b e => Br b (Wt c2 e Q) (Q false e) := by
  unfold Wt andT
  cases h : c1 env with
  | none => rfl
  | some p =>
    simp only [Option.bind_some, o2_s]
    cases p.1 <;> rfl
theorem w_or {Q : Bool → Env → Prop} : Wt (orT c1 c2) env Q ↔ Wt c1 env fun b e => Br b (Q true e) (Wt c2 e Q) := by
  unfold Wt orT
  cases h : c1 env with
  | none => rfl
  | some p =>
    simp only [Option.bind_some, o2_s]
    cases p.1 <;> rfl
theorem w_andE {Q : O → Env → Prop} : We (andE f1 f2) env Q ↔ We f1 env fun o e => Bl o fun b => Br b (We f2 e Q) (Q (.leaf (.bool false)) e) := by
  unfold We andE Bl
  cases h : f1 env with
  | none => rfl
  | some p =>
    obtain ⟨o, e⟩ := p
    simp only [Option.bind_some, o2_s]
    cases o with
    | leaf t =>
      cases t with
      | bool b => cases b <;> rfl
      | _ => rfl
    | _ => rfl
theorem w_orE {Q : O → Env → Prop} : We (orE f1 f2) env Q ↔ We f1 env fun o e => Bl o fun b => Br b (Q (.leaf (.bool true)) e) (We f2 e Q) := by
  unfold We orE Bl
  cases h : f1 env with
  | none => rfl
  | some p =>
    obtain ⟨o, e⟩ := p
    simp only [Option.bind_some, o2_s]
    cases o with
    | leaf t =>
      cases t with
      | bool b => cases b <;> rfl
      | _ => rfl
    | _ => rfl
theorem w_notE {Q : O → Env → Prop} : We (notE f) env Q ↔ We f env fun o e => Bl o fun b => Q (.leaf (.bool !b)) e := by
  unfold We notE Bl
  cases h : f env with
  | none => rfl
  | some p =>
    obtain ⟨o, e⟩ := p
    simp only [Option.bind_some, o2_s]
    cases o with
    | leaf t =>
      cases t with
      | bool b => cases b <;> rfl
      | _ => rfl
    | _ => rfl
theorem w_chain {g g' : O → O → Option O} {Q : O → Env → Prop} : We (chainE f1 f2 f3 g g') env Q ↔ We f1 env fun a e1 => We f2 e1 fun b e2 => (Ok false a ∧ Ok false b) ∧ Op2 g a b fun z => Bl z fun k => Br k (We f3 e2 fun t e3 => Op2 g' b t fun w => Q w e3) (Q (.leaf (.bool false)) e2) := by
  unfold We chainE Op2 Bl Ok Br
  cases h : f1 env with
  | none => rfl
  | some p =>
    simp only [Option.bind_some, o2_s]
    cases h2 : f2 p.2 with
    | none => rfl
    | some r =>
      simp only [Option.bind_some, o2_s, Bool.false_or]
      by_cases h3 : (p.1.isLeaf && r.1.isLeaf) = true
      · have h3' : p.1.isLeaf = true ∧ r.1.isLeaf = true := by simpa using h3
        simp only [h3, h3'.1, h3'.2, if_true, true_and, and_self]
        cases h4 : g p.1 r.1 with
        | none => rfl
        | some z =>
          simp only [Option.bind_some, o1_s]
          cases z with
          | leaf t =>
            cases t with
            | bool b =>
              cases b
              · rfl
              · simp only [if_true]
                cases h5 : f3 r.2 with
                | none => rfl
                | some q =>
                  simp only [Option.bind_some, o2_s]
                  cases h6 : g' r.1 q.1 <;> rfl
            | _ => rfl
          | _ => rfl
      · have h3' : ¬(p.1.isLeaf = true ∧ r.1.isLeaf = true) := by simpa using h3
        simp [h3, h3', o1_n, o2_n]
/-! lists of expressions -/
theorem w_nil {Q : List O → Env → Prop} : Wa nilA env Q ↔ Q [] env := Iff.rfl
theorem w_cons {g : ASem} {Q : List O → Env → Prop} : Wa (consA m f g) env Q ↔ We f env fun o e => Ok m o ∧ Wa g e fun os e2 => Q (o :: os) e2 := by
  unfold Wa We consA Ok
  cases h : f env with
  | none => rfl
  | some p =>
    simp only [Option.bind_some, o2_s]
    by_cases h3 : (m || p.1.isLeaf) = true
    · simp only [h3, if_true, true_and]
      cases h4 : g p.2 <;> rfl
    · simp [h3, o1_n, o2_n]
theorem w_tup {g : ASem} {Q : O → Env → Prop} : We (tupE g) env Q ↔ Wa g env fun os e => Lv os fun ts => Q (.leaf (.tuple ts)) e := by
  unfold Wa We tupE Lv
  cases h : g env with
  | none => rfl
  | some p =>
    simp only [Option.bind_some, o2_s]
    cases h4 : leavesL p.1 with
    | none => rfl
    | some ts => by_cases h5 : ts.length ≤ 1000 <;> simp [h5, o1_s, o2_s, o2_n]
theorem w_lst {g : ASem} {Q : O → Env → Prop} : We (lstE g) env Q ↔ Wa g env fun os e => Lv os fun ts => Q (.ls ts) e := by
  unfold Wa We lstE Lv
  cases h : g env with
  | none => rfl
  | some p =>
    simp only [Option.bind_some, o2_s]
    cases h4 : leavesL p.1 with
    | none => rfl
    | some ts => by_cases h5 : ts.length ≤ 1000 <;> simp [h5, o1_s, o2_s, o2_n]
theorem lv_0 {Q : List D → Prop} : Lv [] Q ↔ Q [] := by simp [Lv, leavesL, O1]
theorem lv_s {os : List O} {Q : List D → Prop} (h : os.length < 1000) : Lv (.leaf t :: os) Q ↔ Lv os fun ts => Q (t :: ts) := by
  unfold Lv
  simp only [leavesL]
  cases h2 : leavesL os with
  | none => exact Iff.rfl
  | some ts =>
    have : ∀ {os : List O} {ts : List D}, leavesL os = some ts → ts.length = os.length := by
      intro os
      induction os with
      | nil => intro ts h; cases h; rfl
      | cons o r ih =>
        intro ts h
        cases o with
        | leaf t =>
          simp only [leavesL, Option.map_eq_some_iff] at h
          obtain ⟨z, h, rfl⟩ := h
          simp [ih h]
        | _ => simp [leavesL] at h
    have hl := this h2
    simp only [Option.map_some, o1_s, List.length_cons]
    have e1 : (ts.length + 1 ≤ 1000) ↔ True := iff_true_intro (by omega)
    have e2 : (ts.length ≤ 1000) ↔ True := iff_true_intro (by omega)
    rw [e1, e2]
/-! places -/
theorem gp_top {o : O} {Q : O → Prop} : Gp o .top Q ↔ Q o := Iff.rfl
theorem w_pl {p : Pth} {Q : O → Env → Prop} : We (plE i p) env Q ↔ Sl env i fun o => Gp o p fun z => Q z env := by
  unfold We plE Sl Gp
  cases h : env[i]? with
  | none => rfl
  | some o =>
    cases o with
    | none => rfl
    | some o =>
      simp only [Option.join_some, o1_s]
      cases h2 : getP o p <;> rfl
theorem w_mut {p : Pth} {fa : ASem} {g : O → List O → Option (O × D)} {Q : O → Env → Prop} : We (mutE i p fa g) env Q ↔ Sl env i fun r0 => Gp r0 p fun o0 => Wa fa env fun os e => Sl e i fun r => Gp r p fun o => (g o0 os).isSome = true ∧ OpM g o os fun z d => Q (.leaf d) (e.set i (some (putP r p z))) := by
  unfold We mutE Sl Gp Wa OpM
  cases h : env[i]? with
  | none => rfl
  | some o =>
    cases o with
    | none => rfl
    | some o =>
      simp only [Option.join_some, o1_s]
      cases h2 : getP o p with
      | none => rfl
      | some o0 =>
        simp only [o1_s]
        cases h3 : fa env with
        | none => rfl
        | some a =>
          simp only [Option.bind_some, o2_s]
          cases h4 : a.2[i]? with
          | none => rfl
          | some r =>
            cases r with
            | none => rfl
            | some r =>
              simp only [Option.join_some, o1_s]
              cases h5 : getP r p with
              | none => rfl
              | some o1 =>
                simp only [Option.bind_some, o1_s]
                by_cases h6 : (g o0 a.1).isSome = true
                · simp only [h6, if_true, true_and]
                  cases h7 : g o1 a.1 <;> rfl
                · simp [h6, o1_n, o2_n]
/-! calls -/
theorem w_c0 {Q : List Item → Env → Prop} : Wc [] env Q ↔ Q [] env := Iff.rfl
theorem w_ce {r : List Arg} {Q : List Item → Env → Prop} : Wc (.e m f :: r) env Q ↔ We f env fun o e => Ok m o ∧ Wc r e fun is e2 => Q (.inl o :: is) e2 := by
  unfold Wc We Ok
  simp only [evA]
  cases h : f env with
  | none => rfl
  | some p =>
    simp only [Option.bind_some, o2_s]
    by_cases h3 : (m || p.1.isLeaf) = true
    · simp only [h3, if_true, true_and]
      cases h4 : evA r p.2 <;> rfl
    · simp [h3, o1_n, o2_n]
theorem w_cv {r : List Arg} {Q : List Item → Env → Prop} : Wc (.v i :: r) env Q ↔ Sl env i fun _ => Wc r env fun is e2 => Q (.inr i :: is) e2 := by
  unfold Wc Sl
  simp only [evA]
  cases h : env[i]? with
  | none => rfl
  | some o =>
    cases o with
    | none => rfl
    | some o =>
      simp only [Option.join_some, o1_s]
      cases h4 : evA r env <;> rfl
theorem cl_0 {Q : List O → Prop} : Cl env [] Q ↔ Q [] := Iff.rfl
theorem cl_e {o : O} {is : List Item} {Q : List O → Prop} : Cl env (.inl o :: is) Q ↔ Cl env is fun os => Q (o :: os) := by
  unfold Cl
  simp only [collect]
  cases h : collect env is <;> rfl
theorem cl_v {is : List Item} {Q : List O → Prop} : Cl env (.inr i :: is) Q ↔ Sl env i fun o => Cl env is fun os => Q (o :: os) := by
  unfold Cl Sl
  simp only [collect]
  cases h : env[i]? with
  | none => rfl
  | some o =>
    cases o with
    | none => rfl
    | some o =>
      simp only [Option.join_some, o1_s]
      cases h4 : collect env is <;> rfl
theorem w_call {g : Def} {args : List Arg} {Q : O → Env → Prop} : We (callF g args) env Q ↔ Wc args env fun is e => Cl e is fun os => (ownIx e is).Nodup ∧ Wd g os fun r os' => Q r (wb is os' e) := by
  unfold We callF Wc Cl Wd
  cases h : evA args env with
  | none => rfl
  | some p =>
    simp only [Option.bind_some, o2_s]
    cases h2 : collect p.2 p.1 with
    | none => rfl
    | some os =>
      simp only [Option.bind_some, o1_s]
      by_cases h3 : (ownIx p.2 p.1).Nodup
      · simp only [h3, if_true, true_and]
        cases h4 : g os <;> rfl
      · simp [h3, o1_n, o2_n]
/-! statements -/
def nxt (g2 : SSem) (Q : Out → Env → Prop) (o : Out) (e : Env) : Prop := match o with
  | .nx => Ws g2 e Q
  | o => Q o e
theorem nxt_nx {g2 : SSem} {Q : Out → Env → Prop} : nxt g2 Q .nx env ↔ Ws g2 env Q := Iff.rfl
theorem nxt_rt {g2 : SSem} {Q : Out → Env → Prop} {o : O} : nxt g2 Q (.rt o) env ↔ Q (.rt o) env := Iff.rfl
theorem nxt_bk {g2 : SSem} {Q : Out → Env → Prop} : nxt g2 Q .bk env ↔ Q .bk env := Iff.rfl
theorem nxt_ct {g2 : SSem} {Q : Out → Env → Prop} : nxt g2 Q .ct env ↔ Q .ct env := Iff.rfl
theorem w_seq {g1 g2 : SSem} {Q : Out → Env → Prop} : Ws (seq g1 g2) env Q ↔ Ws g1 env (nxt g2 Q) := by
  unfold Ws seq nxt
  cases h : g1 env with
  | none => rfl
  | some p =>
    obtain ⟨o, e⟩ := p
    cases o <;> rfl
theorem w_skip {Q : Out → Env → Prop} : Ws skip env Q ↔ Q .nx env := Iff.rfl
theorem w_brk {Q : Out → Env → Prop} : Ws brkS env Q ↔ Q .bk env := Iff.rfl
theorem w_cont {Q : Out → Env → Prop} : Ws contS env Q ↔ Q .ct env := Iff.rfl
theorem w_retN {Q : Out → Env → Prop} : Ws retN env Q ↔ Q (.rt (.leaf .none)) env := Iff.rfl
theorem w_set {Q : Out → Env → Prop} : Ws (setS i m f) env Q ↔ We f env fun o e => Ok m o ∧ Q .nx (e.set i (some o)) := by
  unfold Ws We setS Ok
  cases h : f env with
  | none => rfl
  | some p =>
    simp only [Option.bind_some, o2_s]
    by_cases h3 : (m || p.1.isLeaf) = true <;> simp [h3, o2_s, o2_n]
theorem w_drop {Q : Out → Env → Prop} : Ws (dropS f) env Q ↔ We f env fun o e => Q .nx e := by
  unfold Ws We dropS
  cases h : f env <;> rfl
theorem w_ret {Q : Out → Env → Prop} : Ws (retS m f) env Q ↔ We f env fun o e => Ok m o ∧ Q (.rt o) e := by
  unfold Ws We retS Ok
  cases h : f env with
  | none => rfl
  | some p =>
    simp only [Option.bind_some, o2_s]
    by_cases h3 : (m || p.1.isLeaf) = true <;> simp [h3, o2_s, o2_n]
theorem w_retV {Q : Out → Env → Prop} : Ws (retV i) env Q ↔ Sl env i fun o => Q (.rt o) (env.set i none) := by
  unfold Ws retV Sl
  cases h : env[i]? with
  | none => rfl
  | some o => cases o <;> rfl
theorem w_ifS {g1 g2 : SSem} {Q : Out → Env → Prop} : Ws (ifS c g1 g2) env Q ↔ Wt c env fun b e => Br b (Ws g1 e Q) (Ws g2 e Q) := by
  unfold Ws Wt ifS
  cases h : c env with
  | none => rfl
  | some p =>
    simp only [Option.bind_some, o2_s]
    cases p.1 <;> rfl
theorem w_fzS {g : SSem} {Q : Out → Env → Prop} : Ws (fzS i g) env Q ↔ Sl env i fun o => Fr o fun t => Ws g (env.set i (some (.leaf t))) Q := by
  unfold Ws fzS Sl Fr
  cases h : env[i]? with
  | none => rfl
  | some o =>
    cases o with
    | none => rfl
    | some o =>
      simp only [Option.join_some, o1_s]
      cases h2 : o.frz <;> rfl
theorem w_asg {g : GSem} {Q : Out → Env → Prop} : Ws (asgS g f) env Q ↔ We f env fun o e => Le o fun t => Wg g t e fun e2 => Q .nx e2 := by
  unfold Ws We asgS Wg Le
  cases h : f env with
  | none => rfl
  | some p =>
    obtain ⟨o, e⟩ := p
    simp only [Option.bind_some, o2_s]
    cases o with
    | leaf t =>
      dsimp only
      cases h2 : g t e <;> rfl
    | _ => rfl
theorem w_gN {Q : Env → Prop} : Wg (gN i) t env Q ↔ Q (env.set i (some (.leaf t))) := Iff.rfl
theorem w_gT {gs : GsSem} {ts : List D} {Q : Env → Prop} : Wg (gT n gs) (.tuple ts) env Q ↔ ts.length = n ∧ Wgs gs ts env Q := by
  unfold Wg gT Wgs
  by_cases h : ts.length = n <;> simp [h, o1_n]
theorem w_gNl {Q : Env → Prop} : Wgs gNl [] env Q ↔ Q env := Iff.rfl
theorem w_gCn {g : GSem} {gs : GsSem} {ts : List D} {Q : Env → Prop} : Wgs (gCn g gs) (t :: ts) env Q ↔ Wg g t env fun e => Wgs gs ts e Q := by
  unfold Wgs Wg gCn
  dsimp only
  cases h : g t env <;> rfl
def Op3 (g : O → O → D → Option O) (o a : O) (t : D) (Q : O → Prop) (_h : Hold Q := ⟨⟩) : Prop := O1 (g o a t) Q
theorem w_gSub {p : Pth} {fi : ESem} {g : O → O → D → Option O} {Q : Env → Prop} : Wg (gSubP i p fi g) t env Q ↔ Sl env i fun r => Gp r p fun o => We fi env fun a _ => Op3 g o a t fun o' => Q (env.set i (some (putP r p o'))) := by
  unfold Wg gSubP Sl Gp We Op3
  cases h : env[i]? with
  | none => rfl
  | some o =>
    cases o with
    | none => rfl
    | some o =>
      simp only [Option.join_some, o1_s]
      cases h2 : getP o p with
      | none => rfl
      | some z =>
        simp only [Option.bind_some, o1_s]
        cases h3 : fi env with
        | none => rfl
        | some a =>
          simp only [Option.bind_some, o2_s]
          cases h4 : g z a.1 t <;> rfl
theorem w_par {is : List Nat} {g : ASem} {Q : Out → Env → Prop} : Ws (parS is g) env Q ↔ Wa g env fun os e => Sa is os e fun e2 => Q .nx e2 := by
  unfold Ws Wa parS Sa
  cases h : g env with
  | none => rfl
  | some p =>
    simp only [Option.bind_some, o2_s]
    cases h2 : setAll is p.1 p.2 <;> rfl
theorem sa_0 {Q : Env → Prop} : Sa [] [] env Q ↔ Q env := Iff.rfl
theorem sa_s {is : List Nat} {o : O} {os : List O} {Q : Env → Prop} : Sa (i :: is) (o :: os) env Q ↔ Sa is os (env.set i (some o)) Q := Iff.rfl
theorem w_aug {g : O → O → Option O} {Q : Out → Env → Prop} : Ws (augS i f g) env Q ↔ Sl env i fun o => Ok false o ∧ We f env fun a e => Op2 g o a fun z => Ok false z ∧ Q .nx (e.set i (some z)) := by
  unfold Ws augS Sl We Op2 Ok
  cases h : env[i]? with
  | none => rfl
  | some o =>
    cases o with
    | none => rfl
    | some o =>
      simp only [Option.join_some, o1_s, Bool.false_or]
      by_cases h1 : o.isLeaf = true
      · simp only [h1, if_true, true_and]
        cases h2 : f env with
        | none => rfl
        | some a =>
          simp only [Option.bind_some, o2_s]
          cases h3 : g o a.1 with
          | none => rfl
          | some z => by_cases h4 : z.isLeaf = true <;> simp [h4, o1_s, o2_s, o2_n]
      · simp [h1, o1_n, o2_n]
/-! slices -/
theorem w_int {Q : O → Env → Prop} : We (intE f) env Q ↔ We f env fun o e => Il o fun i => Q (.leaf (.int i)) e := by
  unfold We intE Il
  cases h : f env with
  | none => rfl
  | some p =>
    obtain ⟨o, e⟩ := p
    simp only [Option.bind_some, o2_s]
    cases o with
    | leaf t => cases t <;> rfl
    | _ => rfl
def Slc (o l h : O) (Q : O → Prop) (_h : Hold Q := ⟨⟩) : Prop := O1 (optI l) fun lo => O1 (optI h) fun hi => O1 (oSl o lo hi) Q
theorem w_slice {fl fh : ESem} {Q : O → Env → Prop} : We (sliceE ok f fl fh) env Q ↔ We f env fun o e => We fl e fun l e2 => We fh e2 fun h e3 => Ok ok o ∧ Slc o l h fun z => Q z e3 := by
  unfold We sliceE Ok Slc
  cases h : f env with
  | none => rfl
  | some p =>
    simp only [Option.bind_some, o2_s]
    cases h2 : fl p.2 with
    | none => rfl
    | some l =>
      simp only [Option.bind_some, o2_s]
      cases h3 : fh l.2 with
      | none => rfl
      | some hh =>
        simp only [Option.bind_some, o2_s]
        by_cases h4 : (ok || p.1.isLeaf) = true
        · simp only [h4, if_true, true_and]
          cases h5 : optI l.1 with
          | none => rfl
          | some lo =>
            cases h6 : optI hh.1 with
            | none => rfl
            | some hi =>
              simp only [Option.bind_some, o1_s]
              cases h7 : oSl p.1 lo hi <;> rfl
        · simp [h4, o1_n, o2_n]
/-! sources -/
theorem rg1_i {n : Int} {Q : List D → Prop} : Rg1 [.leaf (.int n)] Q ↔ (-(2 ^ 62) ≤ n ∧ n < 2 ^ 62) ∧ Q (rangeD 0 n.toNat) := Iff.rfl
theorem rg2_i {i j : Int} {Q : List D → Prop} : Rg2 [.leaf (.int i), .leaf (.int j)] Q ↔ ((-(2 ^ 62) ≤ i ∧ i < 2 ^ 62) ∧ -(2 ^ 62) ≤ j ∧ j < 2 ^ 62) ∧ Q (rangeD i (j - i).toNat) := Iff.rfl
theorem w_rng1 {g : ASem} {Q : List D → Env → Prop} : Wi (rng1 g) env Q ↔ Wa g env fun os e => Rg1 os fun ts => Q ts e := by
  unfold Wi Wa rng1 Rg1
  cases h : g env with
  | none => rfl
  | some p =>
    obtain ⟨os, e⟩ := p
    simp only [Option.bind_some, o2_s]
    split
    · rename_i n
      by_cases hb : -(2 ^ 62) ≤ n ∧ n < 2 ^ 62
      · simp only [hb, and_self, if_true, true_and]
        rfl
      · rw [if_neg hb]
        exact ⟨fun z => z.elim, fun z => absurd z.1 hb⟩
    · rename_i hz
      first
        | exact Iff.rfl
        | (split
           · rename_i n
             exact absurd rfl (hz n)
           · rfl)
theorem w_rng2 {g : ASem} {Q : List D → Env → Prop} : Wi (rng2 g) env Q ↔ Wa g env fun os e => Rg2 os fun ts => Q ts e := by
  unfold Wi Wa rng2 Rg2
  cases h : g env with
  | none => rfl
  | some p =>
    obtain ⟨os, e⟩ := p
    simp only [Option.bind_some, o2_s]
    split
    · rename_i i j
      by_cases hb : (-(2 ^ 62) ≤ i ∧ i < 2 ^ 62) ∧ -(2 ^ 62) ≤ j ∧ j < 2 ^ 62
      · simp only [hb, and_self, if_true, true_and]
        rfl
      · rw [if_neg hb]
        exact ⟨fun z => z.elim, fun z => absurd z.1 hb⟩
    · rename_i hz
      first
        | exact Iff.rfl
        | (split
           · rename_i i j
             exact absurd rfl (hz i j)
           · rfl)
theorem itm_l {ts : List D} {Q : List D → Prop} : Itm (.leaf (.list ts)) Q ↔ Q ts := Iff.rfl
theorem itm_t {ts : List D} {Q : List D → Prop} : Itm (.leaf (.tuple ts)) Q ↔ Q ts := Iff.rfl
theorem itm_o {ts : List D} {Q : List D → Prop} : Itm (.ls ts) Q ↔ Q ts := Iff.rfl
theorem w_seqI {Q : List D → Env → Prop} : Wi (seqI m f) env Q ↔ We f env fun o e => Ok m o ∧ Itm o fun ts => Q ts e := by
  unfold Wi We seqI Ok Itm
  cases h : f env with
  | none => rfl
  | some p =>
    simp only [Option.bind_some, o2_s]
    by_cases h3 : (m || p.1.isLeaf) = true
    · simp only [h3, if_true, true_and]
      cases h4 : itemsO p.1 <;> rfl
    · simp [h3, o1_n, o2_n]
/-! defs -/
def finR : List Nat → Nat → List O → Env → Nat → List (Option O)
  | _, _, _, _, 0 => []
  | rb, k, os, env, n + 1 => (if rb.contains k then os.head? else env.head?.join) :: finR rb (k + 1) os.tail env.tail n
theorem finR_eq : ∀ {n k : Nat} {rb : List Nat} {os : List O} {env : Env}, finR rb k os env n = (List.range n).map fun j => if rb.contains (k + j) then os[j]? else (env[j]?).join
  | 0, _, _, _, _ => rfl
  | n + 1, k, rb, os, env => by
    rw [finR, finR_eq, List.range_succ_eq_map, List.map_cons, List.map_map]
    congr 1
    · cases os <;> cases env <;> simp
    · apply List.map_congr_left
      intro j _
      simp only [Function.comp_apply, Nat.add_assoc, Nat.add_comm 1 j, List.getElem?_tail]
theorem finP_eq {rb : List Nat} {os : List O} {env : Env} {n : Nat} : finP rb os env n = finR rb 0 os env n := by
  rw [finR_eq]
  unfold finP
  simp
def fin (n : Nat) (rb : List Nat) (os : List O) (Q : O → List (Option O) → Prop) (o : Out) (e : Env) : Prop := match o with
  | .rt r => Q r (finR rb 0 os e n)
  | .nx => Q (.leaf .none) (finR rb 0 os e n)
  | _ => False
theorem fin_rt {rb : List Nat} {os : List O} {Q : O → List (Option O) → Prop} {r : O} : fin n rb os Q (.rt r) env ↔ Q r (finR rb 0 os env n) := Iff.rfl
theorem fin_nx {rb : List Nat} {os : List O} {Q : O → List (Option O) → Prop} : fin n rb os Q .nx env ↔ Q (.leaf .none) (finR rb 0 os env n) := Iff.rfl
theorem w_def {size : Nat} {rb : List Nat} {body : SSem} {os : List O} {Q : O → List (Option O) → Prop} : Wd (runDef n size rb body) os Q ↔ (os.length = n ∧ (rb.all fun k => match os[k]? with | some o => o.isLeaf | none => true) = true) ∧ Ws body (os.map some ++ List.replicate (size - n) none) (fin n rb os Q) := by
  unfold Wd runDef
  split
  · rename_i h
    refine Iff.trans ?_ (and_iff_right h).symm
    unfold Ws fin
    cases h2 : body (os.map some ++ List.replicate (size - n) none) with
    | none => exact Iff.rfl
    | some p =>
      obtain ⟨o, e⟩ := p
      cases o <;> simp only [finP_eq, o2_s, o2_n, Option.bind_some]
  · rename_i h
    exact ⟨fun z => z.elim, fun z => absurd z.1 h⟩
end
end Mv

set_option Elab.async false
set_option linter.all false
set_option maxRecDepth 100000
set_option maxHeartbeats 2000000
namespace Mv
open PySem PySem.Spec PyProof.Rows L2
/-! ### the operators on numbers -/
def MulOk (i j : Int) : Prop := (Builtin.Int.intBits i : Int) + (Builtin.Int.intBits j : Int) ≤ 134217728
def DivOk (j : Int) : Prop := 0 < j ∧ j.natAbs.log2 < 9000
theorem bits_of {i : Int} {n : Nat} (h : i.natAbs < 2 ^ n) : Builtin.Int.intBits i ≤ n := PySem.intBits_le_iff.mpr h
theorem lb_bits {i : Int} (h : -1000000000000000000000000000000000000000000000000000000000000 < i) (h2 : i < 1000000000000000000000000000000000000000000000000000000000000) : Builtin.Int.intBits i ≤ 240 := bits_of (by
  have e : (2 : Nat) ^ 240 = 1766847064778384329583297500742918515827483896875618958121606201292619776 := by decide
  rw [e]
  omega)
theorem mulOk {i j : Int} (h : -1000000000000000000000000000000000000000000000000000000000000 < i) (h2 : i < 1000000000000000000000000000000000000000000000000000000000000) (h3 : -1000000000000000000000000000000000000000000000000000000000000 < j) (h4 : j < 1000000000000000000000000000000000000000000000000000000000000) : MulOk i j := by
  have := lb_bits h h2
  have := lb_bits h3 h4
  unfold MulOk
  omega
theorem divOk {j : Int} (h : 0 < j) (h2 : j < 1000000000000000000000000000000000000000000000000000000000000) : DivOk j := by
  refine ⟨h, ?_⟩
  have := lb_bits (Int.lt_trans (by decide) h) h2
  unfold Builtin.Int.intBits at this
  rw [if_neg (by simp; omega)] at this
  omega
section
variable {i j : Int} {Q : O → Prop}
theorem p_sub : Op2 (vw2 subI) (.leaf (.int i)) (.leaf (.int j)) Q ↔ Q (.leaf (.int (i - j))) := Iff.rfl
theorem p_add : Op2 oAdd (.leaf (.int i)) (.leaf (.int j)) Q ↔ Q (.leaf (.int (i + j))) := Iff.rfl
theorem p_ipadd : Op2 (vw2 addII) (.leaf (.int i)) (.leaf (.int j)) Q ↔ Q (.leaf (.int (i + j))) := Iff.rfl
theorem o1_if {α : Type} {p : Prop} [Decidable p] {a : α} {Q : α → Prop} : O1 (if p then some a else none) Q ↔ p ∧ Q a := by
  by_cases h : p
  · rw [if_pos h]
    exact (and_iff_right h).symm
  · rw [if_neg h]
    exact ⟨fun z => z.elim, fun z => absurd z.1 h⟩
theorem o1_ifF {p : Prop} [Decidable p] {a : D} {Q : O → Prop} (hf : flatD a = true) : O1 ((if p then some a else none).bind fun z => if flatD z = true then some (O.leaf z) else none) Q ↔ p ∧ Q (.leaf a) := by
  by_cases h : p
  · rw [if_pos h, Option.bind_some, if_pos hf]
    exact (and_iff_right h).symm
  · rw [if_neg h]
    exact ⟨fun z => z.elim, fun z => absurd z.1 h⟩
theorem p_mul : Op2 (vw2 mulI) (.leaf (.int i)) (.leaf (.int j)) Q ↔ MulOk i j ∧ Q (.leaf (.int (i * j))) := o1_ifF (a := .int (i * j)) rfl
theorem p_div : Op2 (vw2 divI) (.leaf (.int i)) (.leaf (.int j)) Q ↔ DivOk j ∧ Q (.leaf (.int (i / j))) := o1_ifF (a := .int (i / j)) rfl
theorem p_mod : Op2 (vw2 modI) (.leaf (.int i)) (.leaf (.int j)) Q ↔ 0 < j ∧ Q (.leaf (.int (i % j))) := o1_ifF (a := .int (i % j)) rfl
theorem p_pow : Op2 (vw2 powI) (.leaf (.int i)) (.leaf (.int j)) Q ↔ (0 ≤ j ∧ j ≤ 1000000 ∧ i.natAbs < 2 ^ 64) ∧ Q (.leaf (.int (i ^ j.toNat))) := o1_ifF (a := .int (i ^ j.toNat)) rfl
theorem p_neg : Op1 (vw1 negI) (.leaf (.int i)) Q ↔ Q (.leaf (.int (-i))) := Iff.rfl
theorem p_eq : Op2 (vw2 (eqI false)) (.leaf (.int i)) (.leaf (.int j)) Q ↔ Q (.leaf (.bool (decide (i = j)))) := by
  show Q (.leaf (.bool (PyData.eqv (.int i) (.int j)))) ↔ _
  have : PyData.eqv (.int i) (.int j) = decide (i = j) := by
    show (i == j) = _
    by_cases h : i = j
    · subst h; simp
    · simp [h]
  rw [this]
theorem p_ne : Op2 (vw2 (eqI true)) (.leaf (.int i)) (.leaf (.int j)) Q ↔ Q (.leaf (.bool (!decide (i = j)))) := by
  show Q (.leaf (.bool (!PyData.eqv (.int i) (.int j)))) ↔ _
  have : PyData.eqv (.int i) (.int j) = decide (i = j) := by
    show (i == j) = _
    by_cases h : i = j
    · subst h; simp
    · simp [h]
  rw [this]
theorem p_lt : Op2 (vw2 (ordI .lt)) (.leaf (.int i)) (.leaf (.int j)) Q ↔ Q (.leaf (.bool (decide (i < j)))) := by
  show Q (.leaf (.bool (PySem.W.dataLt (.int i) (.int j)))) ↔ _
  rw [PySem.W.dataLt_int]
theorem p_gt : Op2 (vw2 (ordI .gt)) (.leaf (.int i)) (.leaf (.int j)) Q ↔ Q (.leaf (.bool (decide (j < i)))) := by
  show Q (.leaf (.bool (PySem.W.dataLt (.int j) (.int i)))) ↔ _
  rw [PySem.W.dataLt_int]
theorem p_le : Op2 (vw2 (ordI .le)) (.leaf (.int i)) (.leaf (.int j)) Q ↔ Q (.leaf (.bool (decide (i ≤ j)))) := by
  show Q (.leaf (.bool (!PySem.W.dataLt (.int j) (.int i)))) ↔ _
  rw [PySem.W.dataLt_int]
  have : (!decide (j < i)) = decide (i ≤ j) := by
    by_cases h : i ≤ j
    · rw [decide_eq_true h, decide_eq_false (by omega)]; rfl
    · rw [decide_eq_false h, decide_eq_true (by omega)]; rfl
  rw [this]
theorem p_ge : Op2 (vw2 (ordI .ge)) (.leaf (.int i)) (.leaf (.int j)) Q ↔ Q (.leaf (.bool (decide (j ≤ i)))) := by
  show Q (.leaf (.bool (!PySem.W.dataLt (.int i) (.int j)))) ↔ _
  rw [PySem.W.dataLt_int]
  have : (!decide (i < j)) = decide (j ≤ i) := by
    by_cases h : j ≤ i
    · rw [decide_eq_true h, decide_eq_false (by omega)]; rfl
    · rw [decide_eq_false h, decide_eq_true (by omega)]; rfl
  rw [this]
theorem p_max : Op2 (vw2 max2I) (.leaf (.int i)) (.leaf (.int j)) Q ↔ Q (.leaf (.int (max i j))) := by
  show Q (.leaf (.int (if j > i then j else i))) ↔ _
  have : (if j > i then j else i) = max i j := by split <;> omega
  rw [this]
theorem p_min : Op2 (vw2 min2I) (.leaf (.int i)) (.leaf (.int j)) Q ↔ Q (.leaf (.int (min i j))) := by
  show Q (.leaf (.int (if j < i then j else i))) ↔ _
  have : (if j < i then j else i) = min i j := by split <;> omega
  rw [this]
theorem p_abs : Op1 (vw1 absI) (.leaf (.int i)) Q ↔ Q (.leaf (.int (if i < 0 then -i else i))) := Iff.rfl
theorem p_intI : Op1 (vw1 intI) (.leaf (.int i)) Q ↔ Q (.leaf (.int i)) := Iff.rfl
theorem p_intB {b : Bool} : Op1 (vw1 intI) (.leaf (.bool b)) Q ↔ Q (.leaf (.int (if b then 1 else 0))) := Iff.rfl
theorem p_isaI : Op1 (vw1 (isaI .int)) (.leaf (.int i)) Q ↔ Q (.leaf (.bool true)) := Iff.rfl
theorem p_isaB : Op1 (vw1 (isaI .bool)) (.leaf (.int i)) Q ↔ Q (.leaf (.bool false)) := Iff.rfl
theorem p_isaNI : Op1 (vw1 (isaI .int)) (.leaf .none) Q ↔ Q (.leaf (.bool false)) := Iff.rfl
theorem p_isNI {neg : Bool} : Op2 (vw2 (isNI neg)) (.leaf (.int i)) (.leaf .none) Q ↔ Q (.leaf (.bool neg)) := by
  cases neg <;> exact Iff.rfl
theorem p_isNN {neg : Bool} : Op2 (vw2 (isNI neg)) (.leaf .none) (.leaf .none) Q ↔ Q (.leaf (.bool !neg)) := by
  cases neg <;> exact Iff.rfl
theorem p_divmod : Op2 oDivmod (.leaf (.int i)) (.leaf (.int j)) Q ↔ DivOk j ∧ Q (.leaf (.tuple [.int (i / j), .int (i % j)])) := o1_if
/-! lists -/
variable {ts us : List D}
theorem p_catL : Op2 oAdd (.ls ts) (.ls us) Q ↔ ts.length + us.length ≤ sizeLine ∧ Q (.ls (ts ++ us)) := by
  by_cases h : ts.length + us.length ≤ sizeLine <;> simp [Op2, oAdd, vw2, O.frz, addI, catL, catT, lstO, tupO, h, O1]
theorem p_catLl : Op2 oAdd (.leaf (.list ts)) (.ls us) Q ↔ ts.length + us.length ≤ sizeLine ∧ Q (.ls (ts ++ us)) := by
  by_cases h : ts.length + us.length ≤ sizeLine <;> simp [Op2, oAdd, vw2, O.frz, addI, catL, catT, lstO, tupO, h, O1]
theorem p_catlL : Op2 oAdd (.ls ts) (.leaf (.list us)) Q ↔ ts.length + us.length ≤ sizeLine ∧ Q (.ls (ts ++ us)) := by
  by_cases h : ts.length + us.length ≤ sizeLine <;> simp [Op2, oAdd, vw2, O.frz, addI, catL, catT, lstO, tupO, h, O1]
theorem p_catll : Op2 oAdd (.leaf (.list ts)) (.leaf (.list us)) Q ↔ ts.length + us.length ≤ sizeLine ∧ Q (.ls (ts ++ us)) := by
  by_cases h : ts.length + us.length ≤ sizeLine <;> simp [Op2, oAdd, vw2, O.frz, addI, catL, catT, lstO, tupO, h, O1]
theorem p_len : Op1 oLen (.ls ts) Q ↔ Q (.leaf (.int ts.length)) := Iff.rfl
theorem p_lenl : Op1 oLen (.leaf (.list ts)) Q ↔ Q (.leaf (.int ts.length)) := Iff.rfl
theorem p_lent : Op1 oLen (.leaf (.tuple ts)) Q ↔ Q (.leaf (.int ts.length)) := Iff.rfl
theorem p_list : Op1 oList (.ls ts) Q ↔ Q (.ls ts) := Iff.rfl
theorem p_listl : Op1 oList (.leaf (.list ts)) Q ↔ Q (.ls ts) := Iff.rfl
theorem p_listt : Op1 oList (.leaf (.tuple ts)) Q ↔ Q (.ls ts) := Iff.rfl
theorem p_tuple : Op1 oTuple (.ls ts) Q ↔ Q (.leaf (.tuple ts)) := Iff.rfl
theorem p_tuplel : Op1 oTuple (.leaf (.list ts)) Q ↔ Q (.leaf (.tuple ts)) := Iff.rfl
theorem p_tuplet : Op1 oTuple (.leaf (.tuple ts)) Q ↔ Q (.leaf (.tuple ts)) := Iff.rfl
theorem p_rev : Op1 revO (.ls ts) Q ↔ Q (.ls ts.reverse) := Iff.rfl
theorem p_revl : Op1 revO (.leaf (.list ts)) Q ↔ Q (.ls ts.reverse) := Iff.rfl
def At (ts : List D) (i : Int) (Q : D → Prop) (_h : Hold Q := ⟨⟩) : Prop := O1 (atI ts i) Q
theorem p_ix : Op2 oIx (.ls ts) (.leaf (.int i)) Q ↔ At ts i fun d => Q (.leaf d) := by
  unfold Op2 oIx At
  simp only [seqO, lstO, tupO, Option.or_none, Option.bind_some, strIx]
  cases atI ts i <;> simp [O1]
theorem p_ixl : Op2 oIx (.leaf (.list ts)) (.leaf (.int i)) Q ↔ At ts i fun d => Q (.leaf d) := by
  unfold Op2 oIx At
  simp only [seqO, lstO, tupO, Option.or_none, Option.bind_some, strIx]
  cases atI ts i <;> simp [O1]
theorem p_ixt : Op2 oIx (.leaf (.tuple ts)) (.leaf (.int i)) Q ↔ At ts i fun d => Q (.leaf d) := by
  unfold Op2 oIx At
  simp only [seqO, lstO, tupO, Option.none_or, Option.bind_some, strIx]
  cases atI ts i <;> simp [O1]
theorem at_nat {i : Nat} {P : D → Prop} : At ts (i : Int) P ↔ O1 ts[i]? P := by
  unfold At atI
  by_cases h : i < ts.length
  · have : ixN ts.length (i : Int) = some i := by
      unfold ixN
      split <;> simp_all <;> omega
    rw [this]
    rfl
  · rw [List.getElem?_eq_none (by omega)]
    have : ixN ts.length (i : Int) = none := by
      unfold ixN
      split <;> simp_all <;> omega
    rw [this]
    rfl
theorem at_int {P : D → Prop} (h : 0 ≤ i) : At ts i P ↔ O1 ts[i.toNat]? P := by
  obtain ⟨n, rfl⟩ := Int.eq_ofNat_of_zero_le h
  exact at_nat
theorem p_append {t : D} {P : O → D → Prop} : OpM gAppend (.ls ts) [.leaf t] P ↔ ts.length < 16000000 ∧ P (.ls (ts ++ [t])) .none := by
  by_cases h : ts.length < 16000000 <;> simp [OpM, gAppend, h, O2]
theorem p_reverse {P : O → D → Prop} : OpM gReverse (.ls ts) [] P ↔ P (.ls ts.reverse) .none := Iff.rfl
end
/-! ### comprehensions and loops -/
def Wcl (set : GSem) (cnd : TSem) (elt : ESem) (vs : List Nat) (ts : List D) (e : Env) (Q : List D → Env → Prop) (_h : Hold Q := ⟨⟩) : Prop := O2 (compL set cnd elt vs ts e) Q
def Wf (set : GSem) (body : SSem) (ts : List D) (e : Env) (Q : Out → Env → Prop) (_h : Hold Q := ⟨⟩) : Prop := O2 (forL set body ts e) Q
section
variable {set : GSem} {cnd : TSem} {elt : ESem} {vs : List Nat} {src : ISem} {body : SSem} {env : Env}
theorem w_comp {Q : O → Env → Prop} : We (compE src set cnd elt vs) env Q ↔ Wi src env fun ts e => ts.length ≤ 16000000 ∧ Wcl set cnd elt vs ts (wipeE e vs) fun ds e => Q (.ls ds) e := by
  unfold We compE Wi Wcl
  cases h : src env with
  | none => exact Iff.rfl
  | some p =>
    simp only [Option.bind_some, o2_s]
    by_cases h2 : p.1.length ≤ 16000000
    · rw [if_pos h2]
      refine Iff.trans ?_ (and_iff_right h2).symm
      cases h3 : compL set cnd elt vs p.1 (wipeE p.2 vs) <;> exact Iff.rfl
    · rw [if_neg h2]
      exact ⟨fun z => z.elim, fun z => absurd z.1 h2⟩
theorem wcl_nil {Q : List D → Env → Prop} : Wcl set cnd elt vs [] env Q ↔ Q [] env := Iff.rfl
theorem wcl_cons {t : D} {ts : List D} {Q : List D → Env → Prop} : Wcl set cnd elt vs (t :: ts) env Q ↔ Wg set t env fun e1 => Wt cnd e1 fun b e2 => Br b (We elt e2 fun r e3 => Le r fun d => Wcl set cnd elt vs ts (wipeE e3 vs) (fun ds e => Q (d :: ds) e)) (Wcl set cnd elt vs ts (wipeE e2 vs) Q) := by
  unfold Br
  unfold Wcl Wg Wt We Le
  rw [compL]
  cases h1 : set t env with
  | none => exact Iff.rfl
  | some e1 =>
    simp only [Option.bind_some, o1_s]
    cases h2 : cnd e1 with
    | none => exact Iff.rfl
    | some p =>
      simp only [Option.bind_some, o2_s]
      by_cases h3 : p.1 = true
      · rw [if_pos h3, if_pos h3]
        cases h4 : elt p.2 with
        | none => exact Iff.rfl
        | some r =>
          simp only [Option.bind_some, o2_s]
          cases r.1 with
          | leaf d =>
            simp only
            cases h5 : compL set cnd elt vs ts (wipeE r.2 vs) <;> exact Iff.rfl
          | _ => exact Iff.rfl
      · rw [if_neg h3, if_neg h3]
/-- nothing but its own names changes -/
theorem wcl_map {α : Type} {h : α → D} {p : α → Bool} {g : α → D} {e0 : Env} {Q : List D → Env → Prop} : ∀ {as : List α},
    (∀ a ∈ as, Wg set (h a) e0 fun e1 => Wt cnd e1 fun b e2 => b = p a ∧ if p a = true then We elt e2 fun r e3 => r = .leaf (g a) ∧ wipeE e3 vs = e0 else wipeE e2 vs = e0) →
    Q ((as.filter p).map g) e0 → Wcl set cnd elt vs (as.map h) e0 Q
  | [], _, hq => hq
  | a :: as, hs, hq => by
    rw [List.map_cons, wcl_cons]
    unfold Br
    refine O1.mono (hs a List.mem_cons_self) fun e1 h1 => O2.mono h1 fun b e2 ⟨h2, h3⟩ => ?_
    subst h2
    rw [List.filter_cons] at hq
    split
    · rename_i hp
      rw [if_pos hp] at h3 hq
      refine O2.mono h3 fun r e3 ⟨h4, h5⟩ => ?_
      subst h4
      rw [h5]
      exact wcl_map (fun a m => hs a (List.mem_cons_of_mem _ m)) hq
    · rename_i hp
      rw [if_neg hp] at h3 hq
      rw [h3]
      exact wcl_map (fun a m => hs a (List.mem_cons_of_mem _ m)) hq
theorem w_for {Q : Out → Env → Prop} : Ws (forS src set body) env Q ↔ Wi src env fun ts e => Wf set body ts e Q := by
  unfold Ws forS Wi Wf
  cases h : src env <;> exact Iff.rfl
def lpk (N : Env → Prop) (Q : Out → Env → Prop) (o : Out) (e : Env) : Prop := match o with
  | .nx => N e
  | .ct => N e
  | .bk => Q .nx e
  | .rt r => Q (.rt r) e
section
variable {N : Env → Prop} {Q : Out → Env → Prop}
theorem lpk_nx : lpk N Q .nx env ↔ N env := Iff.rfl
theorem lpk_ct : lpk N Q .ct env ↔ N env := Iff.rfl
theorem lpk_bk : lpk N Q .bk env ↔ Q .nx env := Iff.rfl
theorem lpk_rt {r : O} : lpk N Q (.rt r) env ↔ Q (.rt r) env := Iff.rfl
end
theorem wf_nil {Q : Out → Env → Prop} : Wf set body [] env Q ↔ Q .nx env := Iff.rfl
theorem wf_cons {t : D} {ts : List D} {Q : Out → Env → Prop} : Wf set body (t :: ts) env Q ↔ Wg set t env fun e1 => Ws body e1 (lpk (fun e => Wf set body ts e Q) Q) := by
  unfold Wf Wg Ws
  rw [forL]
  cases h1 : set t env with
  | none => exact Iff.rfl
  | some e1 =>
    simp only [Option.bind_some, o1_s]
    cases h2 : body e1 with
    | none => exact Iff.rfl
    | some p =>
      obtain ⟨o, e2⟩ := p
      cases o <;> exact Iff.rfl
theorem wf_inv {I : Nat → Env → Prop} {Q : Out → Env → Prop} : ∀ {ts : List D} {k : Nat} {env : Env},
    (∀ j t e, ts[j]? = some t → I (k + j) e → Wg set t e fun e1 => Ws body e1 (lpk (I (k + j + 1)) Q)) →
    I k env → (∀ e, I (k + ts.length) e → Q .nx e) → Wf set body ts env Q
  | [], k, env, hs, h0, hq => hq env (by simpa using h0)
  | t :: ts, k, env, hs, h0, hq => by
    rw [wf_cons]
    refine O1.mono (hs 0 t env rfl h0) fun e1 h1 => O2.mono h1 fun o e2 h2 => ?_
    have rest : ∀ e', I (k + 1) e' → Wf set body ts e' Q := fun e' h =>
      wf_inv (I := I) (k := k + 1) (fun j t e ht hi => by
        have e1 : k + 1 + j = k + (j + 1) := by omega
        rw [e1] at hi ⊢
        exact hs (j + 1) t e (by simpa using ht) hi) h fun e h => hq e (by simpa [Nat.add_assoc, Nat.add_comm 1] using h)
    cases o with
    | nx => exact rest _ h2
    | ct => exact rest _ h2
    | bk => exact h2
    | rt r => exact h2
end
/-! ### the state of the draws -/
def stO (s : List Int × Int) : O := .dic [(.inr "cells", .ls (s.1.map .int)), (.inr "turn", .leaf (.int s.2))]
/-- a state after at most n draws -/
def St (s : List Int × Int) (n : Int) : Prop := s.1 ≠ [] ∧ s.1.length ≤ 63 ∧ 0 ≤ s.2 ∧ s.2 ≤ n
theorem St.le {s : List Int × Int} {n m : Int} (h : St s n) (l : n ≤ m) : St s m := ⟨h.1, h.2.1, h.2.2.1, Int.le_trans h.2.2.2 l⟩
theorem isl_st {s : List Int × Int} : (stO s).isLeaf = false := rfl
theorem isl_leaf {t : D} : (O.leaf t).isLeaf = true := rfl
theorem isl_ls {ts : List D} : (O.ls ts).isLeaf = false := rfl
theorem key_ne : ¬((Sum.inr ("cells" : Str) : Key) = Sum.inr ("turn" : Str)) := by
  decide +kernel
section
variable {s : List Int × Int}
theorem gp_cells {Q : O → Prop} : Gp (stO s) (.key (.inr "cells")) Q ↔ Q (.ls (s.1.map .int)) := by
  unfold Gp stO getP
  simp only [lookO, if_true]
  exact Iff.rfl
theorem gp_turn {Q : O → Prop} : Gp (stO s) (.key (.inr "turn")) Q ↔ Q (.leaf (.int s.2)) := by
  unfold Gp stO getP
  simp only [lookO, if_true, if_neg key_ne]
  exact Iff.rfl
theorem put_turn {i : Int} {Q : O → Prop} : Op3 gSet (stO s) (.leaf (.str "turn")) (.int i) Q ↔ Q (stO (s.1, i)) := by
  obtain ⟨cs, k⟩ := s
  unfold Op3 gSet stO
  simp only [keyOf, Option.bind_some]
  have h1 : leafAt [((.inr "cells" : Key), O.ls (cs.map PyData.int)), (.inr "turn", .leaf (.int k))] (.inr "turn") = true := by
    simp only [leafAt, List.all_cons, List.all_nil, if_neg key_ne, if_true, O.isLeaf]
    rfl
  rw [h1]
  have h2 : putO [((.inr "cells" : Key), O.ls (cs.map PyData.int)), (.inr "turn", .leaf (.int k))] (.inr "turn") (.leaf (.int i)) = [((.inr "cells" : Key), O.ls (cs.map PyData.int)), (.inr "turn", .leaf (.int i))] := by
    unfold putO
    simp only [List.any_cons, List.any_nil, decide_eq_false key_ne, decide_true, Bool.or_false, Bool.or_true, if_true, List.map_cons, List.map_nil, if_neg key_ne]
  rw [h2]
  simp [O1]
theorem put_cells {ds : List Int} : putP (stO s) (.key (.inr "cells")) (.ls (ds.map .int)) = stO (ds, s.2) := by
  unfold putP stO
  simp only [setK, if_true]
end
theorem putP_top {o o' : O} : putP o .top o' = o' := rfl
theorem at_ints {ns : List Int} {i : Int} {P : D → Prop} (h : 0 ≤ i) (h2 : i < ns.length) (k : ∀ x, ns[i.toNat]? = some x → P (.int x)) : At (ns.map .int) i P := by
  rw [at_int h, List.getElem?_map]
  have : i.toNat < ns.length := by omega
  rw [List.getElem?_eq_getElem this]
  exact k _ (List.getElem?_eq_getElem this)
theorem put_ints {ns : List Int} {i d : Int} {P : O → Prop} (h : 0 ≤ i) (h2 : i < ns.length) (k : P (.ls ((ns.set i.toNat d).map .int))) : Op3 gSet (.ls (ns.map .int)) (.leaf (.int i)) (.int d) P := by
  unfold Op3 gSet
  have : ixN (ns.map PyData.int).length i = some i.toNat := by
    unfold ixN
    rw [List.length_map]
    split <;> simp_all <;> omega
  simp only [this, Option.map_some]
  rw [List.map_set] at k
  exact k
/-! ### what a call leaves in the caller's slots -/
def WbR : List Item → List (Option O) → Env → Env → (Env → Prop) → Prop
  | [], _, _, acc, Q => Q acc
  | .inl _ :: r, os', orig, acc, Q => WbR r os'.tail orig acc Q
  | .inr i :: r, os', orig, acc, Q => WbR r os'.tail orig (if ownAt orig i = true then acc.set i os'.head?.join else acc) Q
def Wb (is : List Item) (os' : List (Option O)) (orig acc : Env) (Q : Env → Prop) (_h : Hold Q := ⟨⟩) : Prop := WbR is os' orig acc Q
theorem wb_0 {os' : List (Option O)} {e acc : Env} {Q : Env → Prop} : Wb [] os' e acc Q ↔ Q acc := Iff.rfl
theorem wb_e {o : O} {x : Option O} {r : List Item} {os' : List (Option O)} {e acc : Env} {Q : Env → Prop} : Wb (.inl o :: r) (x :: os') e acc Q ↔ Wb r os' e acc Q := Iff.rfl
theorem wb_e' {o : O} {r : List Item} {os' : List (Option O)} {e acc : Env} {Q : Env → Prop} : Wb (.inl o :: r) os' e acc Q ↔ Wb r os'.tail e acc Q := Iff.rfl
/-- one's own or frozen -/
def Wo (e : Env) (i : Nat) (A B : Prop) (_h : Hold A := ⟨⟩) (_h2 : Hold B := ⟨⟩) : Prop := if ownAt e i = true then A else B
section
variable {r : Env} {A B : Prop}
theorem wo_leaf {t : D} : Wo (some (.leaf t) :: r) 0 A B ↔ B := Iff.rfl
theorem wo_ls {ts : List D} : Wo (some (.ls ts) :: r) 0 A B ↔ A := Iff.rfl
theorem wo_dic {ts : List (Key × O)} : Wo (some (.dic ts) :: r) 0 A B ↔ A := Iff.rfl
theorem wo_dct {ts : List (List Key × O)} : Wo (some (.dct ts) :: r) 0 A B ↔ A := Iff.rfl
theorem wo_st {s : List Int × Int} : Wo (some (stO s) :: r) 0 A B ↔ A := Iff.rfl
theorem wo_s {o : Option O} {n : Nat} : Wo (o :: r) (n + 1) A B ↔ Wo r n A B := by
  unfold Wo ownAt
  rw [List.getElem?_cons_succ]
end
theorem wb_v {i : Nat} {x : Option O} {r : List Item} {os' : List (Option O)} {e acc : Env} {Q : Env → Prop} : Wb (.inr i :: r) (x :: os') e acc Q ↔ Wo e i (Wb r os' e (acc.set i x) Q) (Wb r os' e acc Q) := by
  unfold Wo Wb
  rw [WbR]
  split <;> cases x <;> exact Iff.rfl
theorem own_0 {o : O} {r : Env} : ownAt (some o :: r) 0 = !o.isLeaf := rfl
theorem own_s {o : Option O} {r : Env} {n : Nat} : ownAt (o :: r) (n + 1) = ownAt r n := by
  unfold ownAt
  rw [List.getElem?_cons_succ]
theorem oi_0 {e : Env} : ownIx e [] = [] := rfl
theorem oi_e {e : Env} {o : O} {r : List Item} : ownIx e (.inl o :: r) = ownIx e r := rfl
theorem oi_v {e : Env} {i : Nat} {r : List Item} : ownIx e (.inr i :: r) = if ownAt e i = true then i :: ownIx e r else ownIx e r := rfl
/-- the pure fold behind Wb -/
def wbF : List Item → List (Option O) → Env → Env → Env
  | [], _, _, acc => acc
  | .inl _ :: r, os', orig, acc => wbF r os'.tail orig acc
  | .inr i :: r, os', orig, acc => wbF r os'.tail orig (if ownAt orig i = true then acc.set i os'.head?.join else acc)
theorem wb_wbF : ∀ {is : List Item} {os' : List (Option O)} {e acc : Env} {Q : Env → Prop}, WbR is os' e acc Q ↔ Q (wbF is os' e acc)
  | [], _, _, _, _ => Iff.rfl
  | .inl _ :: r, os', e, acc, Q => by rw [WbR, wbF]; exact wb_wbF
  | .inr i :: r, os', e, acc, Q => by rw [WbR, wbF]; exact wb_wbF
theorem wbF_off : ∀ {is : List Item} {os' : List (Option O)} {e acc : Env} {j : Nat}, j ∉ ownIx e is → (wbF is os' e acc)[j]? = acc[j]?
  | [], _, _, _, _, _ => rfl
  | .inl _ :: r, os', e, acc, j, h => by rw [wbF]; exact wbF_off h
  | .inr i :: r, os', e, acc, j, h => by
    rw [wbF]
    rw [oi_v] at h
    split
    · rename_i ho
      rw [if_pos ho, List.mem_cons, not_or] at h
      rw [wbF_off h.2, List.getElem?_set_ne (fun z => h.1 z.symm)]
    · rename_i ho
      rw [if_neg ho] at h
      exact wbF_off h
theorem wbF_on : ∀ {is : List Item} {os' : List (Option O)} {e acc : Env} {j k : Nat}, (ownIx e is).Nodup → ownAt e j = true → j < acc.length → is.findIdx? (isV j) = some k → (wbF is os' e acc)[j]? = some (os'[k]?).join
  | [], _, _, _, _, _, _, _, _, h => by simp at h
  | .inl o :: r, os', e, acc, j, k, n, ho, hl, h => by
    rw [wbF]
    rw [List.findIdx?_cons] at h
    simp only [isV, Bool.false_eq_true, if_false, Option.map_eq_some_iff] at h
    obtain ⟨k', h1, rfl⟩ := h
    rw [wbF_on (is := r) n ho hl h1]
    cases os' <;> simp
  | .inr i :: r, os', e, acc, j, k, n, ho, hl, h => by
    rw [wbF]
    rw [oi_v] at n
    rw [List.findIdx?_cons] at h
    by_cases hij : i = j
    · subst hij
      simp only [isV, beq_self_eq_true, if_true, Option.some.injEq] at h
      subst h
      rw [if_pos ho] at n ⊢
      rw [wbF_off (List.nodup_cons.mp n).1, List.getElem?_set_self hl]
      cases os' <;> rfl
    · have hb : (i == j) = false := by simpa using hij
      simp only [isV, hb, Bool.false_eq_true, if_false, Option.map_eq_some_iff] at h
      obtain ⟨k', h1, rfl⟩ := h
      have n' : (ownIx e r).Nodup := by
        split at n
        · exact (List.nodup_cons.mp n).2
        · exact n
      rw [wbF_on n' ho (by split <;> simpa using hl) h1]
      cases os' <;> simp
theorem ownIx_mem : ∀ {is : List Item} {e : Env} {j : Nat}, j ∈ ownIx e is → ownAt e j = true ∧ ∃ k, is.findIdx? (isV j) = some k
  | [], _, _, h => by simp [ownIx] at h
  | .inl o :: r, e, j, h => by
    obtain ⟨h1, k, h2⟩ := ownIx_mem (is := r) h
    exact ⟨h1, k + 1, by rw [List.findIdx?_cons]; simp [isV, h2]⟩
  | .inr i :: r, e, j, h => by
    rw [oi_v] at h
    by_cases hij : i = j
    · subst hij
      refine ⟨?_, 0, by rw [List.findIdx?_cons]; simp [isV]⟩
      split at h
      · assumption
      · exact (ownIx_mem h).1
    · have h' : j ∈ ownIx e r := by
        split at h
        · rcases List.mem_cons.mp h with z | z
          · exact absurd z.symm hij
          · exact z
        · exact h
      obtain ⟨h1, k, h2⟩ := ownIx_mem h'
      exact ⟨h1, k + 1, by rw [List.findIdx?_cons]; simp [isV, h2, hij]⟩
theorem wb_eq {is : List Item} {os' : List (Option O)} {e : Env} (n : (ownIx e is).Nodup) : wb is os' e = wbF is os' e e := by
  apply List.ext_getElem?
  intro j
  unfold wb
  rw [List.getElem?_mapIdx]
  by_cases hj : j ∈ ownIx e is
  · obtain ⟨ho, k, hk⟩ := ownIx_mem hj
    have hl : j < e.length := by
      apply Classical.byContradiction
      intro z
      unfold ownAt at ho
      rw [List.getElem?_eq_none (by omega)] at ho
      cases ho
    rw [wbF_on n ho hl hk, List.getElem?_eq_getElem hl]
    simp only [Option.map_some, posA, ho, if_true, hk]
  · rw [wbF_off hj]
    cases he : e[j]? with
    | none => rfl
    | some o =>
      have : posA is e j = none := by
        cases h : posA is e j with
        | none => rfl
        | some k =>
          obtain ⟨h1, h2⟩ := posA_some h
          exfalso
          apply hj
          have : ∀ {is : List Item} {k : Nat}, is[k]? = some (Sum.inr j : Item) → j ∈ ownIx e is := by
            intro is
            induction is with
            | nil => intro k h; simp at h
            | cons a r ih =>
              intro k h
              cases k with
              | zero =>
                simp only [List.getElem?_cons_zero, Option.some.injEq] at h
                subst h
                rw [oi_v, if_pos h1]
                exact List.mem_cons_self
              | succ k =>
                have := ih (k := k) (by simpa using h)
                cases a with
                | inl o => exact this
                | inr i =>
                  rw [oi_v]
                  split
                  · exact List.mem_cons_of_mem _ this
                  · exact this
          exact this h2
      simp only [Option.map_some, this]
theorem w_call' {g : Def} {args : List Arg} {env : Env} {Q : O → Env → Prop} : We (callF g args) env Q ↔ Wc args env fun is e => Cl e is fun os => (ownIx e is).Nodup ∧ Wd g os fun r os' => Wb is os' e e fun e2 => Q r e2 := by
  rw [w_call]
  refine ⟨fun h => O2.mono h fun is e h => O1.mono h fun os ⟨n, h⟩ => ⟨n, O2.mono h fun r os' h => ?_⟩, fun h => O2.mono h fun is e h => O1.mono h fun os ⟨n, h⟩ => ⟨n, O2.mono h fun r os' h => ?_⟩⟩
  · unfold Wb
    rw [wb_wbF, ← wb_eq n]
    exact h
  · unfold Wb at h
    rw [wb_wbF, ← wb_eq n] at h
    exact h
end Mv

set_option Elab.async false
set_option linter.all false
set_option maxRecDepth 100000
set_option maxHeartbeats 2000000
namespace Mv
open PySem PySem.Spec PyProof.Rows L2
local macro_rules | `(tactic| walk_at "mv") => `(tactic| try simp only [↓w_cst, ↓w_var, ↓w_mv, ↓w_fz, ↓w_frz, ↓w_bin, ↓w_un, ↓w_binV, ↓w_if, ↓w_asB, ↓w_yes, ↓w_not, ↓w_and, ↓w_or, ↓w_andE, ↓w_orE, ↓w_notE, ↓w_chain, ↓w_nil, ↓w_cons, ↓w_tup, ↓w_lst, ↓w_pl, ↓w_mut, ↓w_c0, ↓w_ce, ↓w_cv, ↓w_call', ↓wb_0, ↓wb_e, ↓wb_v, wb_e', ↓wo_leaf, ↓wo_ls, ↓wo_dic, ↓wo_dct, ↓wo_st, ↓wo_s, own_0, own_s, oi_0, oi_e, oi_v, isl_st, isl_leaf, isl_ls, Bool.not_false, Bool.not_true, List.nodup_cons, List.nodup_nil, List.not_mem_nil, not_false_eq_true, ↓w_seq, ↓w_skip, ↓w_brk, ↓w_cont, ↓w_retN, ↓w_set, ↓w_drop, ↓w_ret, ↓w_retV, ↓w_ifS, ↓w_fzS, ↓w_asg, ↓w_gN, ↓w_gT, ↓w_gNl, ↓w_gCn, ↓w_gSub, ↓w_par, ↓w_aug, ↓w_int, ↓w_slice, ↓w_rng1, ↓w_rng2, ↓w_seqI, ↓w_comp, ↓w_for,
  ↓sl_0, ↓sl_s, ↓fr_leaf, ↓fr_ls, ↓ok_t, ↓ok_l, ↓br_t, ↓br_f, decide_true, decide_false, Int.reduceEq, ↓bl_b, ↓il_b, ↓le_l, ↓gp_top, ↓cl_0, ↓cl_e, ↓cl_v, ↓nxt_nx, ↓nxt_rt, ↓nxt_bk, ↓nxt_ct, ↓sa_0, ↓sa_s, ↓rg1_i, ↓rg2_i, ↓itm_l, ↓itm_t, ↓itm_o, ↓fin_rt, ↓fin_nx, ↓lpk_nx, ↓lpk_ct, ↓lpk_bk, ↓lpk_rt, ↓wcl_nil, ↓wf_nil,
  ↓p_sub, ↓p_add, ↓p_ipadd, ↓p_mul, ↓p_div, ↓p_mod, ↓p_pow, ↓p_neg, ↓p_eq, ↓p_ne, ↓p_lt, ↓p_gt, ↓p_le, ↓p_ge, ↓p_max, ↓p_min, ↓p_abs, ↓p_intI, ↓p_intB, ↓p_isaI, ↓p_isaB, ↓p_isaNI, ↓p_isNI, ↓p_isNN, ↓p_divmod, ↓p_catL, ↓p_catLl, ↓p_catlL, ↓p_catll, ↓p_len, ↓p_lenl, ↓p_lent, ↓p_list, ↓p_listl, ↓p_listt, ↓p_tuple, ↓p_tuplel, ↓p_tuplet, ↓p_rev, ↓p_revl, ↓p_ix, ↓p_ixl, ↓p_ixt, ↓p_append, ↓p_reverse,
  ↓gp_cells, ↓gp_turn, ↓put_turn, ↓put_cells, ↓putP_top, wipeE, lv_0, lv_s,
  List.set_cons_zero, List.set_cons_succ, List.length_cons, List.length_nil, List.map_cons, List.map_nil, finR, List.replicate, List.replicate_succ, List.replicate_zero, List.cons_append, List.nil_append, true_and, and_true, List.tail_cons, List.head?_cons, Option.join_some, List.contains_nil, Bool.false_eq_true, if_false, if_true, List.all_nil, and_self, Int.reduceToNat, Int.reducePow, Nat.reduceSub, Nat.reduceAdd, Int.reduceAdd, Int.reduceMul, Int.reduceSub, Int.reduceNeg, Int.reduceLT, Int.reduceLE, Int.natAbs, Nat.reduceLT, Nat.reduceLeDiff, Nat.reducePow])
local macro_rules | `(tactic| walk_at "mv1") => `(tactic| try simp only [↓ok_t, ↓ok_l, ↓nxt_nx, ↓nxt_rt, ↓w_seq, ↓fin_rt, ↓fin_nx, ↓lpk_nx, ↓lpk_ct, ↓lpk_bk, ↓lpk_rt, wipeE, List.set_cons_zero, List.set_cons_succ, true_and, and_true])
def takeB (c : Int) : SSem := (seq (setS 2 true (bin true (plE 0 (.key (.inr "turn"))) (cstE (.int 1)) oAdd))
  (seq (asgS (gSubP 0 .top (cstE (.str "turn")) gSet) (varE 2))
  (seq (setS 3 true (bin true (varE 2) (un (plE 0 (.key (.inr "cells"))) oLen) (vw2 modI)))
  (seq (setS 4 true (bin true (plE 0 (.key (.inr "cells"))) (varE 3) oIx))
  (seq (ifS (asB (bin true (varE 4) (bin true (cstE (.int 10)) (cstE (.int 18)) (vw2 powI)) (vw2 (ordI .ge)))) (seq (asgS (gT 2 (gCn (gSubP 0 (.key (.inr "cells")) (varE 3) gSet) (gCn (gN 5) gNl))) (bin true (varE 4) (varE 1) oDivmod))
  (retS false (varE 5))) skip)
  (seq (setS 6 true (bin true (bin true (bin true (bin true (bin true (varE 4) (cstE (.int 2147483629)) (vw2 modI)) (bin true (bin true (varE 2) (varE 2) (vw2 mulI)) (cstE (.int 7919)) (vw2 mulI)) oAdd) (cstE (.int 11)) oAdd) (cstE (.int 48271)) (vw2 mulI)) (cstE (.int 2147483647)) (vw2 modI)))
  (seq (setS 6 true (bin true (bin true (varE 6) (varE 6) (vw2 mulI)) (cstE (.int 2147483587)) (vw2 modI)))
  (retS true (bin true (bin true (bin true (bin true (bin true (varE 6) (bin true (varE 2) (cstE (.int 104729)) (vw2 mulI)) oAdd) (cstE (.int c)) (vw2 mulI)) (cstE (.int 2147483629)) (vw2 modI)) (cstE (.int 64)) (vw2 divI)) (varE 1) (vw2 modI))))))))))
theorem take_ok {c : Int} (hc : 0 ≤ c ∧ c < 1000000) {st : List Int × Int} {n m : Int} (h : St st n) (hn : n ≤ 1000000000000000000) (hm : 0 < m) (hm2 : m < 1000000000000000000000000000000000000000000000000000000000000) {Q : O → List (Option O) → Prop}
    (k : ∀ d st', 0 ≤ d → d < m → St st' (n + 1) → Q (.leaf (.int d)) [some (stO st'), some (.leaf (.int m))]) : Wd (runDef 2 7 [] (takeB c)) [stO st, .leaf (.int m)] Q := by
  obtain ⟨cs, t⟩ := st
  obtain ⟨h1, h2, h3, h4⟩ := h
  simp only at h1 h2 h3 h4
  rw [w_def]
  unfold takeB
  walk_at "mv"
  have hl : 0 < cs.length := List.length_pos_iff.mpr h1
  rw [List.length_map]
  refine ⟨by omega, at_ints (Int.emod_nonneg _ (by omega)) (Int.emod_lt_of_pos _ (by omega)) fun x hx => ?_⟩
  have hj : 0 ≤ (t + 1) % (cs.length : Int) := Int.emod_nonneg _ (by omega)
  have hj2 : (t + 1) % (cs.length : Int) < cs.length := Int.emod_lt_of_pos _ (by omega)
  walk_at "mv"
  refine br (fun _ => ?_) fun _ => ?_
  · walk_at "mv"
    refine ⟨divOk hm hm2, ?_⟩
    refine put_ints hj hj2 ?_
    walk_at "mv"
    refine k _ _ (Int.emod_nonneg _ (by omega)) (Int.emod_lt_of_pos _ hm) ⟨?_, ?_, by simp only; omega, by simp only; omega⟩
    · intro z
      simp only at z
      have := congrArg List.length z
      rw [List.length_set, List.length_nil] at this
      omega
    · simp only [List.length_set]
      exact h2
  · walk_at "mv"
    have e1 : 0 ≤ (t + 1) * (t + 1) := Int.mul_nonneg (by omega) (by omega)
    have e2 : (t + 1) * (t + 1) ≤ 1000000000000000001 * 1000000000000000001 := Int.mul_le_mul (by omega) (by omega) (by omega) (by omega)
    have e3 : 0 ≤ x % 2147483629 := Int.emod_nonneg _ (by decide)
    have e4 : x % 2147483629 < 2147483629 := Int.emod_lt_of_pos _ (by decide)
    have e5 : 0 ≤ (x % 2147483629 + (t + 1) * (t + 1) * 7919 + 11) * 48271 % 2147483647 := Int.emod_nonneg _ (by decide)
    have e6 : (x % 2147483629 + (t + 1) * (t + 1) * 7919 + 11) * 48271 % 2147483647 < 2147483647 := Int.emod_lt_of_pos _ (by decide)
    generalize hy : (x % 2147483629 + (t + 1) * (t + 1) * 7919 + 11) * 48271 % 2147483647 = y at e5 e6
    have e7 : 0 ≤ y * y % 2147483587 := Int.emod_nonneg _ (by decide)
    have e8 : y * y % 2147483587 < 2147483587 := Int.emod_lt_of_pos _ (by decide)
    refine ⟨mulOk (by omega) (by omega) (by omega) (by omega), mulOk (by omega) (by omega) (by decide) (by decide), mulOk (by omega) (by omega) (by decide) (by decide), mulOk (by omega) (by omega) (by omega) (by omega), mulOk (by omega) (by omega) (by decide) (by decide), mulOk (by omega) (by omega) (by omega) (by omega), divOk (by decide) (by decide), hm, ?_⟩
    exact k _ _ (Int.emod_nonneg _ (by omega)) (Int.emod_lt_of_pos _ hm) ⟨h1, h2, by simp only; omega, by simp only; omega⟩
end Mv
set_option Elab.async false
set_option linter.all false
set_option maxRecDepth 100000
set_option maxHeartbeats 2000000
namespace Mv
open PySem PySem.Spec PyProof.Rows L2
/-! ### lists of numbers -/
def isort (ns : List Int) : List Int := ns.mergeSort fun a b => decide (a ≤ b)
theorem isort_perm (ns : List Int) : (isort ns).Perm ns := List.mergeSort_perm _ _
theorem isort_len (ns : List Int) : (isort ns).length = ns.length := (isort_perm ns).length_eq
theorem isort_sorted (ns : List Int) : (isort ns).Pairwise (· ≤ ·) := by
  have := List.pairwise_mergeSort (le := fun (a b : Int) => decide (a ≤ b)) (fun a b c h1 h2 => by simp at *; omega) (fun a b => by simp; omega) ns
  exact this.imp fun h => by simpa using h
theorem sortD_ints (ns : List Int) : sortD (ns.map .int) = (isort ns).map .int := by
  unfold sortD isort
  have h := PySem.W.dataLe_int (β := Int) id
  symm
  apply List.map_mergeSort
  intro a _ b _
  have h2 := congrFun (congrFun h a) b
  exact h2.symm
theorem sortOk_ints {ns : List Int} (h : ns.length ≤ 1000000) : sortOk (ns.map .int) := by
  refine ⟨?_, .inr ?_, ?_, by simpa using h⟩
  · intro d hd d' hd'
    obtain ⟨i, _, rfl⟩ := List.mem_map.mp hd
    obtain ⟨j, _, rfl⟩ := List.mem_map.mp hd'
    rfl
  · intro d hd
    obtain ⟨i, _, rfl⟩ := List.mem_map.mp hd
    exact ⟨(by intro z; cases z), (by intro xs z; cases z)⟩
  · rw [List.all_eq_true]
    intro d hd
    obtain ⟨i, _, rfl⟩ := List.mem_map.mp hd
    rfl
section
variable {ns ms : List Int} {Q : O → Prop}
open Classical in
theorem sort_core {o : O} (h : ns.length ≤ 1000000) (e : seqO o = some (ns.map .int)) : oSort o = some (O.ls ((isort ns).map .int)) := by
  unfold oSort
  rw [e, Option.bind_some, if_pos (sortOk_ints h), sortD_ints]
theorem p_sort (h : ns.length ≤ 1000000) : Op1 oSort (.ls (ns.map .int)) Q ↔ Q (.ls ((isort ns).map .int)) := by
  unfold Op1
  rw [sort_core h rfl]
  exact Iff.rfl
theorem p_sortl (h : ns.length ≤ 1000000) : Op1 oSort (.leaf (.list (ns.map .int))) Q ↔ Q (.ls ((isort ns).map .int)) := by
  unfold Op1
  rw [sort_core h rfl]
  exact Iff.rfl
theorem p_sortt (h : ns.length ≤ 1000000) : Op1 oSort (.leaf (.tuple (ns.map .int))) Q ↔ Q (.ls ((isort ns).map .int)) := by
  unfold Op1
  rw [sort_core h rfl]
  exact Iff.rfl
theorem intsD_map : intsD (ns.map .int) = some ns := by
  induction ns with
  | nil => rfl
  | cons a r ih => simp [intsD, ih]
theorem boolsD_map {bs : List Bool} : boolsD (bs.map .bool) = some bs := by
  induction bs with
  | nil => rfl
  | cons a r ih => simp [boolsD, ih]
theorem p_sum : Op1 oSum (.ls (ns.map .int)) Q ↔ Q (.leaf (.int ns.sum)) := by
  simp [Op1, oSum, lstO, intsD_map, O1]
theorem p_suml : Op1 oSum (.leaf (.list (ns.map .int))) Q ↔ Q (.leaf (.int ns.sum)) := by
  simp [Op1, oSum, lstO, intsD_map, O1]
theorem p_any {bs : List Bool} : Op1 oAny (.ls (bs.map .bool)) Q ↔ Q (.leaf (.bool (bs.any id))) := by
  simp [Op1, oAny, lstO, boolsD_map, O1]
theorem p_all {bs : List Bool} : Op1 oAll (.ls (bs.map .bool)) Q ↔ Q (.leaf (.bool (bs.all id))) := by
  simp [Op1, oAll, lstO, boolsD_map, O1]
theorem eqv_ints : ∀ {ns ms : List Int}, PyData.eqvAll (ns.map .int) (ms.map .int) = decide (ns = ms)
  | [], [] => rfl
  | [], b :: ms => rfl
  | a :: ns, [] => rfl
  | a :: ns, b :: ms => by
    show (a == b && PyData.eqvAll (ns.map .int) (ms.map .int)) = _
    rw [eqv_ints]
    by_cases h1 : a = b <;> by_cases h2 : ns = ms <;> simp [h1, h2]
theorem okd_ints {n : Nat} : okd (n + 1) (.list (ns.map .int)) = true := by
  show (ns.map PyData.int).all (okd n) = true
  rw [List.all_eq_true]
  intro d hd
  obtain ⟨i, _, rfl⟩ := List.mem_map.mp hd
  cases n <;> rfl
theorem eqI_ints : eqI false (.list (ns.map .int)) (.list (ms.map .int)) = some (.bool (decide (ns = ms))) := by
  unfold eqI
  rw [okd_ints, okd_ints]
  show some (PyData.bool (PyData.eqvAll (ns.map .int) (ms.map .int))) = _
  rw [eqv_ints]
theorem neI_ints : eqI true (.list (ns.map .int)) (.list (ms.map .int)) = some (.bool (!decide (ns = ms))) := by
  unfold eqI
  rw [okd_ints, okd_ints]
  show some (PyData.bool (!PyData.eqvAll (ns.map .int) (ms.map .int))) = _
  rw [eqv_ints]
theorem vw2_of {c : D → D → Option D} {a b : O} {t u z : D} (ha : a.frz = some t) (hb : b.frz = some u) (h : c t u = some z) (hz : flatD z = true) : Op2 (vw2 c) a b Q ↔ Q (.leaf z) := by
  unfold Op2 vw2
  simp [ha, hb, h, hz, O1]
theorem p_eqLL : Op2 (vw2 (eqI false)) (.ls (ns.map .int)) (.ls (ms.map .int)) Q ↔ Q (.leaf (.bool (decide (ns = ms)))) := vw2_of rfl rfl eqI_ints rfl
theorem p_eqLl : Op2 (vw2 (eqI false)) (.ls (ns.map .int)) (.leaf (.list (ms.map .int))) Q ↔ Q (.leaf (.bool (decide (ns = ms)))) := vw2_of rfl rfl eqI_ints rfl
theorem p_eqlL : Op2 (vw2 (eqI false)) (.leaf (.list (ns.map .int))) (.ls (ms.map .int)) Q ↔ Q (.leaf (.bool (decide (ns = ms)))) := vw2_of rfl rfl eqI_ints rfl
theorem p_eqll : Op2 (vw2 (eqI false)) (.leaf (.list (ns.map .int))) (.leaf (.list (ms.map .int))) Q ↔ Q (.leaf (.bool (decide (ns = ms)))) := vw2_of rfl rfl eqI_ints rfl
theorem p_eqL0 : Op2 (vw2 (eqI false)) (.ls (ns.map .int)) (.ls []) Q ↔ Q (.leaf (.bool (decide (ns = [])))) := p_eqLL (ms := [])
theorem p_eql0 : Op2 (vw2 (eqI false)) (.leaf (.list (ns.map .int))) (.ls []) Q ↔ Q (.leaf (.bool (decide (ns = [])))) := p_eqlL (ms := [])
theorem p_neLL : Op2 (vw2 (eqI true)) (.ls (ns.map .int)) (.ls (ms.map .int)) Q ↔ Q (.leaf (.bool (!decide (ns = ms)))) := vw2_of rfl rfl neI_ints rfl
theorem p_neLl : Op2 (vw2 (eqI true)) (.ls (ns.map .int)) (.leaf (.list (ms.map .int))) Q ↔ Q (.leaf (.bool (!decide (ns = ms)))) := vw2_of rfl rfl neI_ints rfl
theorem p_nelL : Op2 (vw2 (eqI true)) (.leaf (.list (ns.map .int))) (.ls (ms.map .int)) Q ↔ Q (.leaf (.bool (!decide (ns = ms)))) := vw2_of rfl rfl neI_ints rfl
theorem p_nell : Op2 (vw2 (eqI true)) (.leaf (.list (ns.map .int))) (.leaf (.list (ms.map .int))) Q ↔ Q (.leaf (.bool (!decide (ns = ms)))) := vw2_of rfl rfl neI_ints rfl
theorem p_neL0 : Op2 (vw2 (eqI true)) (.ls (ns.map .int)) (.ls []) Q ↔ Q (.leaf (.bool (!decide (ns = [])))) := p_neLL (ms := [])
theorem p_nel0 : Op2 (vw2 (eqI true)) (.leaf (.list (ns.map .int))) (.ls []) Q ↔ Q (.leaf (.bool (!decide (ns = [])))) := p_nelL (ms := [])
end
/-! ### a number or None -/
def optD : Option Int → D
  | none => .none
  | some i => .int i
section
variable {a b : Option Int} {Q : O → Prop}
theorem p_isNo {neg : Bool} : Op2 (vw2 (isNI neg)) (.leaf (optD a)) (.leaf .none) Q ↔ Q (.leaf (.bool (if neg then a.isSome else a.isNone))) := by
  cases a <;> cases neg <;> exact Iff.rfl
theorem p_eqo : Op2 (vw2 (eqI false)) (.leaf (optD a)) (.leaf (optD b)) Q ↔ Q (.leaf (.bool (decide (a = b)))) := by
  refine vw2_of rfl rfl ?_ rfl
  cases a <;> cases b
  · rfl
  · rfl
  · rfl
  · rename_i i j
    show some (PyData.bool (i == j)) = _
    by_cases h : i = j <;> simp [h]
theorem p_neo : Op2 (vw2 (eqI true)) (.leaf (optD a)) (.leaf (optD b)) Q ↔ Q (.leaf (.bool (!decide (a = b)))) := by
  refine vw2_of rfl rfl ?_ rfl
  cases a <;> cases b
  · rfl
  · rfl
  · rfl
  · rename_i i j
    show some (PyData.bool (!(i == j))) = _
    by_cases h : i = j <;> simp [h]
end
theorem range_ints {lo : Int} {n : Nat} : rangeD lo n = ((List.range n).map fun (i : Nat) => lo + (i : Int)).map .int := by
  unfold rangeD
  rw [List.map_map]
  rfl
end Mv

set_option Elab.async false
set_option linter.all false
set_option maxRecDepth 100000
set_option maxHeartbeats 4000000
namespace Mv
open PySem PySem.Spec PyProof.Rows L2
local macro_rules | `(tactic| walk_at "mv") => `(tactic| try simp only [↓w_cst, ↓w_var, ↓w_mv, ↓w_fz, ↓w_frz, ↓w_bin, ↓w_un, ↓w_binV, ↓w_if, ↓w_asB, ↓w_yes, ↓w_not, ↓w_and, ↓w_or, ↓w_andE, ↓w_orE, ↓w_notE, ↓w_chain, ↓w_nil, ↓w_cons, ↓w_tup, ↓w_lst, ↓w_pl, ↓w_mut, ↓w_c0, ↓w_ce, ↓w_cv, ↓w_call', ↓wb_0, ↓wb_e, ↓wb_v, wb_e', ↓wo_leaf, ↓wo_ls, ↓wo_dic, ↓wo_dct, ↓wo_st, ↓wo_s, own_0, own_s, oi_0, oi_e, oi_v, isl_st, isl_leaf, isl_ls, Bool.not_false, Bool.not_true, List.nodup_cons, List.nodup_nil, List.not_mem_nil, not_false_eq_true, ↓w_seq, ↓w_skip, ↓w_brk, ↓w_cont, ↓w_retN, ↓w_set, ↓w_drop, ↓w_ret, ↓w_retV, ↓w_ifS, ↓w_fzS, ↓w_asg, ↓w_gN, ↓w_gT, ↓w_gNl, ↓w_gCn, ↓w_gSub, ↓w_par, ↓w_aug, ↓w_int, ↓w_slice, ↓w_rng1, ↓w_rng2, ↓w_seqI, ↓w_comp, ↓w_for,
  ↓sl_0, ↓sl_s, ↓fr_leaf, ↓fr_ls, ↓ok_t, ↓ok_l, ↓br_t, ↓br_f, decide_true, decide_false, Int.reduceEq, ↓bl_b, ↓il_b, ↓le_l, ↓gp_top, ↓cl_0, ↓cl_e, ↓cl_v, ↓nxt_nx, ↓nxt_rt, ↓nxt_bk, ↓nxt_ct, ↓sa_0, ↓sa_s, ↓rg1_i, ↓rg2_i, ↓itm_l, ↓itm_t, ↓itm_o, ↓fin_rt, ↓fin_nx, ↓lpk_nx, ↓lpk_ct, ↓lpk_bk, ↓lpk_rt, ↓wcl_nil, ↓wf_nil,
  ↓p_sub, ↓p_add, ↓p_ipadd, ↓p_mul, ↓p_div, ↓p_mod, ↓p_pow, ↓p_neg, ↓p_eq, ↓p_ne, ↓p_lt, ↓p_gt, ↓p_le, ↓p_ge, ↓p_max, ↓p_min, ↓p_abs, ↓p_intI, ↓p_intB, ↓p_isaI, ↓p_isaB, ↓p_isaNI, ↓p_isNI, ↓p_isNN, ↓p_isNo, ↓p_eqo, ↓p_neo, ↓p_divmod, ↓p_catL, ↓p_catLl, ↓p_catlL, ↓p_catll, ↓p_len, ↓p_lenl, ↓p_lent, ↓p_list, ↓p_listl, ↓p_listt, ↓p_tuple, ↓p_tuplel, ↓p_tuplet, ↓p_rev, ↓p_revl, ↓p_ix, ↓p_ixl, ↓p_ixt, ↓p_append, ↓p_reverse, ↓p_sum, ↓p_suml, ↓p_any, ↓p_all, ↓p_eqLL, ↓p_eqLl, ↓p_eqlL, ↓p_eqll, ↓p_eqL0, ↓p_eql0, ↓p_neLL, ↓p_neLl, ↓p_nelL, ↓p_nell, ↓p_neL0, ↓p_nel0,
  ↓gp_cells, ↓gp_turn, ↓put_turn, ↓put_cells, ↓putP_top, wipeE, lv_0, lv_s,
  List.set_cons_zero, List.set_cons_succ, List.length_cons, List.length_nil, List.map_cons, List.map_nil, finR, List.replicate, List.replicate_succ, List.replicate_zero, List.cons_append, List.nil_append, true_and, and_true, List.tail_cons, List.head?_cons, Option.join_some, List.contains_nil, Bool.false_eq_true, if_false, if_true, List.all_nil, and_self, Int.reduceToNat, Int.reducePow, Nat.reduceSub, Nat.reduceAdd, Int.reduceAdd, Int.reduceMul, Int.reduceSub, Int.reduceNeg, Int.reduceLT, Int.reduceLE, Int.natAbs, Nat.reduceLT, Nat.reduceLeDiff, Nat.reducePow])
local macro_rules | `(tactic| walk_at "mv1") => `(tactic| try simp only [↓ok_t, ↓ok_l, ↓nxt_nx, ↓nxt_rt, ↓w_seq, ↓fin_rt, ↓fin_nx, ↓lpk_nx, ↓lpk_ct, ↓lpk_bk, ↓lpk_rt, wipeE, List.set_cons_zero, List.set_cons_succ, true_and, and_true])
/-! ### the draws that many laws share -/
def TakeSpec (g : Def) : Prop := ∀ {st : List Int × Int} {n m : Int} {Q : O → List (Option O) → Prop}, St st n → n ≤ 1000000000000000000 → 0 < m → m < 1000000000000000000000000000000000000000000000000000000000000 →
    (∀ d st', 0 ≤ d → d < m → St st' (n + 1) → Q (.leaf (.int d)) [some (stO st'), some (.leaf (.int m))]) → Wd g [stO st, .leaf (.int m)] Q
def beginB (c : Int) : SSem := (seq (setS 1 true (un (sliceE true (varE 0) (cstE .none) (intE (cstE (.int 63)))) oList))
  (seq (ifS (asB (bin true (varE 1) (lstE nilA) (vw2 (eqI false)))) (setS 1 true (lstE (consA true (cstE (.int c)) nilA))) skip)
  (retS true (dispE (⟨.inr "cells", true, (mvE 1)⟩ :: (⟨.inr "turn", true, (cstE (.int 0))⟩ :: []))))))
theorem w_disp2 {x : O} {cs : List Int} {Q : O → Env → Prop} : We (dispE [⟨.inr "cells", true, (mvE 1)⟩, ⟨.inr "turn", true, (cstE (.int 0))⟩]) [some x, some (.ls (cs.map .int))] Q ↔ Q (stO (cs, 0)) [some x, none] := by
  unfold We dispE
  have h : ([⟨.inr "cells", true, (mvE 1)⟩, ⟨.inr "turn", true, (cstE (.int 0))⟩].map DItem.key).Nodup ∧ [(⟨.inr "cells", true, (mvE 1)⟩ : DItem), ⟨.inr "turn", true, (cstE (.int 0))⟩].length ≤ 15 := by
    refine ⟨?_, by decide⟩
    simp only [List.map_cons, List.map_nil, List.nodup_cons, List.mem_singleton, List.not_mem_nil, not_false_eq_true, List.nodup_nil, and_true]
    exact key_ne
  rw [if_pos h]
  exact Iff.rfl
theorem cut_lo {ns : List Int} {n : Nat} {P : O → Prop} (h : P (.ls ((ns.take n).map .int))) : Slc (.leaf (.list (ns.map .int))) (.leaf .none) (.leaf (.int n)) P := by
  have e : cutD (ns.map PyData.int) none (some (n : Int)) = (ns.take n).map .int := by
    unfold cutD
    rw [List.length_map]
    have h1 : HT.sIx ns.length 0 none = 0 := rfl
    have h2 : HT.sIx ns.length ns.length (some (n : Int)) = min n ns.length := by
      unfold HT.sIx
      simp
      try omega
    rw [h1, h2]
    simp only [List.drop_zero, Nat.sub_zero, ← List.map_take]
    congr 1
    rw [List.take_eq_take_iff]
    omega
  show O1 (some (O.ls (cutD (ns.map PyData.int) none (some (n : Int))))) P
  rw [e]
  exact h
theorem begin_ok {c : Int} {ns : List Int} (hl : ns.length ≤ 63) {Q : O → List (Option O) → Prop} (k : ∀ st os, St st 0 → Q (stO st) os) : Wd (runDef 1 2 [] (beginB c)) [.leaf (.list (ns.map .int))] Q := by
  rw [w_def]
  unfold beginB
  walk_at "mv"
  refine cut_lo (n := 63) ?_
  walk_at "mv"
  refine br (fun _ => ?_) fun h => ?_
  · walk_at "mv"
    refine (w_disp2 (cs := [c])).mpr ?_
    walk_at "mv"
    exact k _ _ ⟨by simp, by simp, by simp, by simp⟩
  · walk_at "mv"
    refine w_disp2.mpr ?_
    walk_at "mv"
    exact k _ _ ⟨h, by simp only [List.length_take]; omega, by simp, by simp⟩
def greatB (g : Def) : SSem := (seq (setS 1 true (compE (rng1 (consA true (cstE (.int 3)) nilA)) (gN 2) yesT (callF g (.v 0 :: (.e true (bin true (cstE (.int 10)) (cstE (.int 10)) (vw2 powI)) :: []))) [2]))
  (fzS 1 (retS true (bin true (bin true (bin true (bin true (varE 1) (cstE (.int 0)) oIx) (bin true (cstE (.int 10)) (cstE (.int 20)) (vw2 powI)) (vw2 mulI)) (bin true (bin true (varE 1) (cstE (.int 1)) oIx) (bin true (cstE (.int 10)) (cstE (.int 10)) (vw2 powI)) (vw2 mulI)) oAdd) (bin true (varE 1) (cstE (.int 2)) oIx) oAdd))))
theorem sIx_lo {n : Nat} {i : Int} (h : 0 ≤ i) : HT.sIx n n (some i) = min i.toNat n := by
  unfold HT.sIx
  simp
  try omega
theorem sIx_lo0 {n : Nat} {i : Int} (h : 0 ≤ i) : HT.sIx n 0 (some i) = min i.toNat n := by
  unfold HT.sIx
  simp
  try omega
end Mv
set_option Elab.async false
set_option linter.all false
set_option maxRecDepth 100000
set_option maxHeartbeats 2000000
namespace Mv
open PySem PySem.Spec PyProof.Rows L2 RZ
/-! ### enumerate, zip -/
def enumD (ts : List D) : List D := ts.zipIdx.map fun p => .tuple [.int (p.2 : Nat), p.1]
def zipD (ts us : List D) : List D := (ts.zip us).map fun p => .tuple [p.1, p.2]
def enumI (g : ASem) : ISem := fun env => (g env).bind fun p => match p.1 with
  | [o] => (lstO o).map fun ts => (enumD ts, p.2)
  | _ => none
def zipO (a b : O) : Option (List D) := ((lstO a).bind fun ts => (lstO b).map fun us => zipD ts us).or ((tupO a).bind fun ts => (tupO b).map fun us => zipD ts us)
def zipI (g : ASem) : ISem := fun env => (g env).bind fun p => match p.1 with
  | [a, b] => (zipO a b).map fun ts => (ts, p.2)
  | _ => none
section
variable {K : PySem.W.Frag} {S0 H0 : Hp} {a b : Addr} {ts us : List D} {vs ws : List V}
/-- a list that stays, one's own or frozen -/
def Keeps (K : PySem.W.Frag) (S0 H0 : Hp) (A : List Addr) (a : Addr) (vs : List V) : Prop := ∀ S H, Same S0 S → Same S H → (∀ b ∈ A, H b = H0 b) → SqL K H a vs
theorem lstO_keeps {o : O} {v : V} {fr A : List Addr} (le : Same S0 H0) (w : Ow K S0 H0 o v fr) (e : lstO o = some ts) (hA : ∀ b ∈ fr, b ∈ A) : ∃ a vs, v = .ref a ∧ FzL K S0 ts vs ∧ Keeps K S0 H0 A a vs := by
  cases o with
  | leaf t =>
    cases t with
    | list us =>
      cases e
      obtain ⟨rfl, w0⟩ := ow_leafE w
      simp only [Fz] at w0
      obtain ⟨a, vs, rfl, w1, w2⟩ := w0
      exact ⟨a, vs, rfl, w2, fun S H e1 e2 _ => (ls_same e2 (ls_same e1 w1)).sq⟩
    | _ => cases e
  | ls us =>
    cases e
    obtain ⟨a, vs, rfl, w1, rfl, w2⟩ := ow_lsE w
    exact ⟨a, vs, rfl, w2, fun S H e1 e2 e3 => SqL.of ((e3 a (hA a (List.mem_singleton.mpr rfl))).trans w1)⟩
  | dic _ => cases e
  | dct _ => cases e
  | obj _ _ => cases e
  | tup _ => cases e
  | lso _ => cases e
theorem fz_pair {S H : Hp} {T : Addr} {x y : V} {t u : D} (le : Same S H) (hT : H T = none) (hx : Fz K S t x) (hy : Fz K S u y) : Gr S H (upd S T (.tup [x, y])) (upd H T (.tup [x, y])) ∧ Fz K (upd S T (.tup [x, y])) (.tuple [t, u]) (.ref T) := by
  have G := Gr.newS (o := .tup [x, y]) le hT
  refine ⟨G, ?_⟩
  simp only [Fz]
  exact ⟨T, [x, y], rfl, upd_same, FzL.cons (hx.same G.sub) (FzL.cons (hy.same G.sub) FzL.nil)⟩
theorem zipD_len : (zipD ts us).length = min ts.length us.length := by simp [zipD]
theorem zipD_get {i : Nat} {t : D} (h : (zipD ts us)[i]? = some t) : ∃ x y, ts[i]? = some x ∧ us[i]? = some y ∧ t = .tuple [x, y] := by
  unfold zipD at h
  rw [List.getElem?_map] at h
  simp only [Option.map_eq_some_iff] at h
  obtain ⟨⟨x, y⟩, h, rfl⟩ := h
  rw [List.getElem?_zip_eq_some] at h
  exact ⟨x, y, h.1, h.2, rfl⟩
theorem itz_ok {A : List Addr} (h : Keeps K S0 H0 A a vs) (w : FzL K S0 ts vs) (h2 : Keeps K S0 H0 A b ws) (w2 : FzL K S0 us ws) : ItOk K (Itz K a b) A S0 H0 (zipD ts us) := by
  refine ⟨fun S H i e1 e2 e3 hi => ?_, fun S H i e1 e2 e3 hi => ⟨vs, ws, h S H e1 e2 e3, h2 S H e1 e2 e3, ?_⟩, fun S H i t x H' e1 e2 e3 hi y => ?_⟩
  · rw [zipD_len] at hi
    obtain ⟨v, hv, _⟩ := w.get (List.getElem?_eq_getElem (by omega : i < ts.length))
    obtain ⟨v2, hv2, _⟩ := w2.get (List.getElem?_eq_getElem (by omega : i < us.length))
    exact ⟨vs, ws, v, v2, h S H e1 e2 e3, h2 S H e1 e2 e3, hv, hv2⟩
  · rw [zipD_len] at hi
    rw [w.len, w2.len]
    omega
  · obtain ⟨T, x', y', rfl, hT, rfl, y1, y2⟩ := y
    obtain ⟨t0, u0, hi1, hi2, rfl⟩ := zipD_get hi
    obtain ⟨v, hv, hz⟩ := w.get hi1
    obtain ⟨v2, hv2, hz2⟩ := w2.get hi2
    have := (y1 vs (h S _ e1 e2 e3)).symm.trans hv
    cases this
    have := (y2 ws (h2 S _ e1 e2 e3)).symm.trans hv2
    cases this
    have := fz_pair (K := K) e2 hT (hz.same e1) (hz2.same e1)
    exact ⟨_, this.1, this.2⟩
theorem itzt_ok {A : List Addr} (h : ∀ S H, Same S0 S → Same S H → SqT K H a vs) (w : FzL K S0 ts vs) (h2 : ∀ S H, Same S0 S → Same S H → SqT K H b ws) (w2 : FzL K S0 us ws) : ItOk K (ItzT K a b) A S0 H0 (zipD ts us) := by
  refine ⟨fun S H i e1 e2 e3 hi => ?_, fun S H i e1 e2 e3 hi => ⟨vs, ws, h S H e1 e2, h2 S H e1 e2, ?_⟩, fun S H i t x H' e1 e2 e3 hi y => ?_⟩
  · rw [zipD_len] at hi
    obtain ⟨v, hv, _⟩ := w.get (List.getElem?_eq_getElem (by omega : i < ts.length))
    obtain ⟨v2, hv2, _⟩ := w2.get (List.getElem?_eq_getElem (by omega : i < us.length))
    exact ⟨vs, ws, v, v2, h S H e1 e2, h2 S H e1 e2, hv, hv2⟩
  · rw [zipD_len] at hi
    rw [w.len, w2.len]
    omega
  · obtain ⟨T, x', y', rfl, hT, rfl, y1, y2⟩ := y
    obtain ⟨t0, u0, hi1, hi2, rfl⟩ := zipD_get hi
    obtain ⟨v, hv, hz⟩ := w.get hi1
    obtain ⟨v2, hv2, hz2⟩ := w2.get hi2
    have := (y1 vs (h S _ e1 e2)).symm.trans hv
    cases this
    have := (y2 ws (h2 S _ e1 e2)).symm.trans hv2
    cases this
    have := fz_pair (K := K) e2 hT (hz.same e1) (hz2.same e1)
    exact ⟨_, this.1, this.2⟩
end
section
variable {X : Cx} {e e2 : Expr} {g : ASem} {q : Bool} {pos p tpos : Pos} {elts : List Expr} {kk : Nat}
theorem si_zip (hg : Gl X "zip") (hm : X.mg "zip" = none) (h : SA X [e, e2] g q) (hs : starEach [e, e2] X.env = (false, eval e X.env) :: starEach [e2] X.env := by rfl) (hpl : (backTo pos (starEach [e2] X.env)).any (·.1) = false := by rfl) :
    SI X (.Tuple elts kk tpos) (.Call (.Name "zip" p) [e, e2] [] pos) (zipI g) := by
  refine ⟨PI.imp (pi_zipA hg hm h.pa hs hpl) fun σ H R hh => ?_⟩
  obtain ⟨env, S, fp, ts, env', RR, he, k⟩ := hh
  unfold zipI at he
  simp only [Option.bind_eq_some_iff] at he
  obtain ⟨⟨os, e1⟩, h1, h2⟩ := he
  simp only at h1 h2
  split at h2
  · rename_i o o2
    simp only [Option.map_eq_some_iff, Prod.mk.injEq] at h2
    obtain ⟨ts', h2, rfl, rfl⟩ := h2
    refine ⟨env, S, fp, [o, o2], e1, RR, h1, fun vs S1 H1 fp1 fr R1 E1 w g n => ?_⟩
    obtain ⟨v, vr, f1, f2, rfl, rfl, w1, w2⟩ := w
    obtain ⟨v2, vr2, f3, f4, rfl, rfl, w3, w4⟩ := w2
    obtain ⟨rfl, rfl⟩ := w4
    rw [List.append_nil] at n
    unfold zipO at h2
    cases hz : ((lstO o).bind fun ts => (lstO o2).map fun us => zipD ts us) with
    | some z =>
      rw [hz] at h2
      simp only [Option.some_or, Option.some.injEq] at h2
      subst h2
      simp only [Option.bind_eq_some_iff, Option.map_eq_some_iff] at hz
      obtain ⟨t1, q1, t2, q2, rfl⟩ := hz
      obtain ⟨a, xs, rfl, w5, kp⟩ := lstO_keeps (A := f1 ++ f3) R1.le w1 q1 fun _ m => List.mem_append_left _ m
      obtain ⟨b, ys, rfl, w6, kp2⟩ := lstO_keeps (A := f1 ++ f3) R1.le w3 q2 fun _ m => List.mem_append_right _ m
      refine ⟨a, b, xs, ys, rfl, .inl ⟨kp S1 H1 (Same.refl _) R1.le fun _ _ => rfl, kp2 S1 H1 (Same.refl _) R1.le fun _ _ => rfl, k _ S1 H1 fp1 (f1 ++ f3) R1 E1 (itz_ok kp w5 kp2 w6) fun b m => ⟨?_, n.off b m⟩⟩⟩
      rcases List.mem_append.mp m with z | z
      · exact w1.some b z
      · exact w3.some b z
    | none =>
      rw [hz] at h2
      simp only [Option.none_or, Option.bind_eq_some_iff, Option.map_eq_some_iff] at h2
      obtain ⟨t1, q1, t2, q2, rfl⟩ := h2
      obtain ⟨rfl, rfl, w5⟩ := tupO_S w1 q1
      obtain ⟨rfl, rfl, w6⟩ := tupO_S w3 q2
      simp only [Fz] at w5 w6
      obtain ⟨a, xs, rfl, w5, w7⟩ := w5
      obtain ⟨b, ys, rfl, w6, w8⟩ := w6
      exact ⟨a, b, xs, ys, rfl, .inr ⟨SqT.of (R1.le _ _ w5), SqT.of (R1.le _ _ w6), k _ S1 H1 fp1 [] R1 E1 (itzt_ok (fun S H e1 e2 => SqT.of (e2 _ _ (e1 _ _ w5))) w7 (fun S H e1 e2 => SqT.of (e2 _ _ (e1 _ _ w6))) w8) (by intro b m; cases m)⟩⟩
  · cases h2
end
/-! the plain side -/
def Enm (os : List O) (Q : List D → Prop) (_h : Hold Q := ⟨⟩) : Prop := match os with
  | [o] => O1 (lstO o) fun ts => Q (enumD ts)
  | _ => False
def Zp (os : List O) (Q : List D → Prop) (_h : Hold Q := ⟨⟩) : Prop := match os with
  | [a, b] => O1 (zipO a b) Q
  | _ => False
section
variable {env : Env} {g : ASem} {ts us : List D}
theorem w_enum {Q : List D → Env → Prop} : Wi (enumI g) env Q ↔ Wa g env fun os e => Enm os fun ts => Q ts e := by
  unfold Wi Wa enumI Enm
  cases h : g env with
  | none => exact Iff.rfl
  | some p =>
    obtain ⟨os, e⟩ := p
    simp only [Option.bind_some, o2_s]
    match os with
    | [] => exact Iff.rfl
    | [o] =>
      simp only
      cases lstO o <;> exact Iff.rfl
    | _ :: _ :: _ => exact Iff.rfl
theorem w_zip {Q : List D → Env → Prop} : Wi (zipI g) env Q ↔ Wa g env fun os e => Zp os fun ts => Q ts e := by
  unfold Wi Wa zipI Zp
  cases h : g env with
  | none => exact Iff.rfl
  | some p =>
    obtain ⟨os, e⟩ := p
    simp only [Option.bind_some, o2_s]
    match os with
    | [] => exact Iff.rfl
    | [o] => exact Iff.rfl
    | [a, b] =>
      simp only
      cases zipO a b <;> exact Iff.rfl
    | _ :: _ :: _ :: _ => exact Iff.rfl
theorem enm_l {Q : List D → Prop} : Enm [.leaf (.list ts)] Q ↔ Q (enumD ts) := Iff.rfl
theorem enm_o {Q : List D → Prop} : Enm [.ls ts] Q ↔ Q (enumD ts) := Iff.rfl
theorem zp_ll {Q : List D → Prop} : Zp [.leaf (.list ts), .leaf (.list us)] Q ↔ Q (zipD ts us) := Iff.rfl
theorem zp_lo {Q : List D → Prop} : Zp [.leaf (.list ts), .ls us] Q ↔ Q (zipD ts us) := Iff.rfl
theorem zp_ol {Q : List D → Prop} : Zp [.ls ts, .leaf (.list us)] Q ↔ Q (zipD ts us) := Iff.rfl
theorem zp_oo {Q : List D → Prop} : Zp [.ls ts, .ls us] Q ↔ Q (zipD ts us) := Iff.rfl
theorem zp_tt {Q : List D → Prop} : Zp [.leaf (.tuple ts), .leaf (.tuple us)] Q ↔ Q (zipD ts us) := Iff.rfl
end
end Mv

set_option Elab.async false
set_option linter.all false
set_option maxRecDepth 100000
set_option maxHeartbeats 2000000
namespace Mv
open PySem PySem.Spec PyProof.Rows L2
theorem se_andI {X : Cx} {op : BoolOp} {a : Expr} {f : ESem} {q m : Bool} {pos : Pos} (h : SE X a f q m) : SE X (.BoolOp op [a] pos) f q m := se_and1 h
/-! ### isinstance(x, (list, tuple)) -/
def seqD : D → Bool
  | .list _ => true
  | .tuple _ => true
  | _ => false
def isaLT (t : D) : Option D := if okd 50 t = true then some (.bool (seqD t)) else none
section
variable {X : Cx}
end
/-! ### extend by a list of one's own -/
def gExtend (o : O) (os : List O) : Option (O × D) := match o, os with
  | .ls ts, [.ls us] => if ts.length + us.length ≤ 16000000 then some (.ls (ts ++ us), .none) else none
  | _, _ => none
/-! ### a def that calls itself: as deep as asked -/
def fuel (F : Def → Def) : Nat → Def
  | 0 => fun _ => none
  | n + 1 => F (fuel F n)
/-! the plain side -/
section
variable {Q : O → Prop} {i : Int} {ts us : List D} {a : Option Int}
theorem p_isLTi : Op1 (vw1 isaLT) (.leaf (.int i)) Q ↔ Q (.leaf (.bool false)) := Iff.rfl
theorem p_isLTn : Op1 (vw1 isaLT) (.leaf .none) Q ↔ Q (.leaf (.bool false)) := Iff.rfl
theorem p_isSi : Op1 (vw1 (isaI .str)) (.leaf (.int i)) Q ↔ Q (.leaf (.bool false)) := Iff.rfl
theorem p_isBn : Op1 (vw1 (isaI .bool)) (.leaf .none) Q ↔ Q (.leaf (.bool false)) := Iff.rfl
theorem p_extend {P : O → D → Prop} : OpM gExtend (.ls ts) [.ls us] P ↔ ts.length + us.length ≤ 16000000 ∧ P (.ls (ts ++ us)) .none := by
  by_cases h : ts.length + us.length ≤ 16000000 <;> simp [OpM, gExtend, h, O2]
theorem p_extendS : (gExtend (.ls ts) [.ls us]).isSome = true ↔ ts.length + us.length ≤ 16000000 := by
  by_cases h : ts.length + us.length ≤ 16000000 <;> simp [gExtend, h]
theorem p_appendS {t : D} : (gAppend (.ls ts) [.leaf t]).isSome = true ↔ ts.length < 16000000 := by
  by_cases h : ts.length < 16000000 <;> simp [gAppend, h]
end
/-- a pair of numbers -/
def pD (p : Int × Int) : D := .tuple [.int p.1, .int p.2]
end Mv

set_option Elab.async false
set_option linter.all false
set_option maxRecDepth 100000
set_option maxHeartbeats 2000000
namespace Mv
open PySem PySem.Spec PyProof.Rows L2
/-! ### a text's method of one argument -/
def strM (f1 f2 : ESem) (g : Str → O → Option D) : ESem := fun env => (f1 env).bind fun p => match p.1 with
  | .leaf (.str a) => (f2 p.2).bind fun r => (g a r.1).bind fun z => if flatD z = true then some (.leaf z, r.2) else none
  | _ => none
def RMS (K : PySem.W.Frag) (r : V → List V → Hp → VK → Prop) (g : Str → O → Option D) : Prop :=
  ∀ S H a y o fr z Q, Same S H → Ow K S H o y fr → g a o = some z → flatD z = true → Q (valD z) H → r (.str a) [y] H Q
def strsD : List D → Option (List Str)
  | [] => some []
  | .str i :: r => (strsD r).map (i :: ·)
  | _ => none
def gJoin (a : Str) (o : O) : Option D := (seqO o).bind fun ts => (strsD ts).bind fun ys => if (ys.map (·.length)).sum + ys.length * a.length ≤ 16777216 then some (.str (Txt.join a ys)) else none
section
variable {X : Cx} {o e : Expr} {f1 f2 : ESem} {q1 q2 m1 m2 : Bool}
end
end Mv

set_option Elab.async false
set_option linter.all false
set_option maxRecDepth 100000
set_option maxHeartbeats 2000000
namespace Mv
open PySem PySem.Spec PyProof.Rows L2
/-! ### a list times a number -/
def repN : O → Option Int
  | .leaf (.int k) => some k
  | _ => none
def repL (a b : O) : Option O := match a with
  | .ls ts => (repN b).bind fun k => if -(2 ^ 63) ≤ k ∧ k < 2 ^ 63 ∧ ts.length * k.toNat ≤ sizeLine then some (.ls (List.replicate k.toNat ts).flatten) else none
  | _ => none
theorem FzL.flat {K : PySem.W.Frag} {S : Hp} {ts : List D} {vs : List V} (w : FzL K S ts vs) : ∀ n : Nat, FzL K S (List.replicate n ts).flatten (List.replicate n vs).flatten
  | 0 => FzL.nil
  | n + 1 => by
    rw [List.replicate_succ, List.replicate_succ, List.flatten_cons, List.flatten_cons]
    exact w.append (FzL.flat w n)
theorem ro_rep {K : PySem.W.Frag} : RO2 K rRep repL := by
  intro S H x y o1 o2 fr1 fr2 z Q le w1 w2 e k
  unfold repL at e
  split at e
  · simp only [Option.bind_eq_some_iff] at e
    obtain ⟨j, h1, h3⟩ := e
    split at h3
    · rename_i hl
      cases h3
      obtain ⟨a, vs, rfl, ha, rfl, za⟩ := ow_lsE w1
      have hy : y = .int j := by
        unfold repN at h1
        split at h1
        · cases h1
          have := (ow_leafE w2).2
          simpa only [Fz] using this
        · cases h1
      exact ⟨a, j, vs, rfl, hy, ha, hl.1, hl.2.1, by rw [za.len]; exact hl.2.2, newL le (za.flat _) rfl k⟩
    · cases h3
  · cases e
def oMul (a b : O) : Option O := (vw2 mulI a b).or (repL a b)
theorem op_mulA {X : Cx} : OpR X (binaryOp .Mult) (fun x y H Q => rI CMulX (fun i j => .int (i * j)) x y H Q ∨ rRep x y H Q) := op_mulX.or op_rep
theorem ro_mulA {K : PySem.W.Frag} : RO2 K (fun x y H Q => rI CMulX (fun i j => .int (i * j)) x y H Q ∨ rRep x y H Q) oMul := RO2.or ro_mul ro_rep
section
variable {i j : Int} {ts us : List D} {t : D} {Q : O → Prop}
theorem p_mulO : Op2 oMul (.leaf (.int i)) (.leaf (.int j)) Q ↔ MulOk i j ∧ Q (.leaf (.int (i * j))) := by
  have : oMul (.leaf (.int i)) (.leaf (.int j)) = vw2 mulI (.leaf (.int i)) (.leaf (.int j)) := by
    unfold oMul
    cases vw2 mulI (.leaf (.int i)) (.leaf (.int j)) <;> rfl
  unfold Op2
  rw [this]
  exact p_mul
theorem p_rep : Op2 oMul (.ls ts) (.leaf (.int j)) Q ↔ (-(2 ^ 63) ≤ j ∧ j < 2 ^ 63 ∧ ts.length * j.toNat ≤ sizeLine) ∧ Q (.ls (List.replicate j.toNat ts).flatten) := by
  unfold Op2
  exact o1_if (p := -(2 ^ 63) ≤ j ∧ j < 2 ^ 63 ∧ ts.length * j.toNat ≤ sizeLine)
theorem p_rep0 : Op2 oMul (.ls ts) (.leaf (.int 0)) Q ↔ Q (.ls []) := by
  rw [p_rep]
  simp
theorem p_rep1 : Op2 oMul (.ls ts) (.leaf (.int 1)) Q ↔ ts.length ≤ sizeLine ∧ Q (.ls ts) := by
  rw [p_rep]
  simp
theorem p_repB {b : Bool} : Op2 oMul (.ls ts) (.leaf (.int (if b then 1 else 0))) Q ↔ (b = true → ts.length ≤ sizeLine) ∧ Q (.ls (if b then ts else [])) := by
  rw [p_rep]
  cases b <;> simp
end
/-! ### while -/
def Ww (n : Nat) (c : TSem) (b : SSem) (env : Env) (Q : Out → Env → Prop) (_h : Hold Q := ⟨⟩) : Prop := O2 (whileL c b n env) Q
section
variable {n : Nat} {c : TSem} {b : SSem} {env : Env} {Q : Out → Env → Prop}
theorem w_while : Ws (whileS n c b) env Q ↔ Ww n c b env Q := Iff.rfl
theorem ww_succ : Ww (n + 1) c b env Q ↔ Wt c env fun t e => Br t (Ws b e (lpk (fun e => Ww n c b e Q) Q)) (Q .nx e) := by
  unfold Ww Wt Ws
  rw [whileL]
  cases h1 : c env with
  | none => exact Iff.rfl
  | some p =>
    obtain ⟨t, e1⟩ := p
    simp only [Option.bind_some, o2_s]
    cases t
    · exact Iff.rfl
    · simp only [if_true, br_t]
      cases h2 : b e1 with
      | none => exact Iff.rfl
      | some r =>
        obtain ⟨o, e2⟩ := r
        cases o <;> exact Iff.rfl
theorem ww_inv {I : Nat → Env → Prop} (hs : ∀ m e, I m e → Wt c e fun t e1 => Br t (Ws b e1 (lpk (fun e2 => ∃ m', m' < m ∧ I m' e2) Q)) (Q .nx e1)) : ∀ {n m : Nat} {env : Env}, m < n → I m env → Ww n c b env Q
  | 0, _, _, h, _ => absurd h (Nat.not_lt_zero _)
  | n + 1, m, env, h, h0 => by
    rw [ww_succ]
    refine O2.mono (hs m env h0) fun t e1 h1 => ?_
    cases t
    · exact h1
    · refine O2.mono (show O2 (b e1) _ from h1) fun o e2 h2 => ?_
      have rest : (∃ m', m' < m ∧ I m' e2) → Ww n c b e2 Q := fun ⟨m', h3, h4⟩ => ww_inv hs (by omega) h4
      cases o with
      | nx => exact rest h2
      | ct => exact rest h2
      | bk => exact h2
      | rt r => exact h2
end
/-! ### more operators -/
theorem okd_le : ∀ {n m : Nat} {t : D}, n ≤ m → okd n t = true → okd m t = true
  | n, m, .none, _, _ => by cases m <;> rfl
  | n, m, .bool _, _, _ => by cases m <;> rfl
  | n, m, .int _, _, _ => by cases m <;> rfl
  | n, m, .str _, _, _ => by cases m <;> rfl
  | 0, m, .list ts, _, h => by simp [okd] at h
  | 0, m, .tuple ts, _, h => by simp [okd] at h
  | n + 1, 0, .list ts, l, h => absurd l (by omega)
  | n + 1, 0, .tuple ts, l, h => absurd l (by omega)
  | n + 1, m + 1, .list ts, l, h => by
    rw [okd, List.all_eq_true] at h ⊢
    exact fun t ht => okd_le (by omega) (h t ht)
  | n + 1, m + 1, .tuple ts, l, h => by
    rw [okd, List.all_eq_true] at h ⊢
    exact fun t ht => okd_le (by omega) (h t ht)
  | 0, m, .dict _, _, h => by simp [okd] at h
  | n + 1, m, .dict _, _, h => by simp [okd] at h
/-- plain data of lists and tuples that are not too long -/
def okz : Nat → D → Bool
  | _, .none => true
  | _, .bool _ => true
  | _, .int _ => true
  | _, .str _ => true
  | n + 1, .list ts => decide (ts.length ≤ 1000000) && ts.all (okz n)
  | n + 1, .tuple ts => decide (ts.length ≤ 1000000) && ts.all (okz n)
  | _, _ => false
theorem okz_okd : ∀ {n : Nat} {t : D}, okz n t = true → okd n t = true
  | n, .none, _ => by cases n <;> rfl
  | n, .bool _, _ => by cases n <;> rfl
  | n, .int _, _ => by cases n <;> rfl
  | n, .str _, _ => by cases n <;> rfl
  | 0, .list ts, h => by simp [okz] at h
  | 0, .tuple ts, h => by simp [okz] at h
  | n + 1, .list ts, h => by
    rw [okz, Bool.and_eq_true, List.all_eq_true] at h
    rw [okd, List.all_eq_true]
    exact fun t ht => okz_okd (h.2 t ht)
  | n + 1, .tuple ts, h => by
    rw [okz, Bool.and_eq_true, List.all_eq_true] at h
    rw [okd, List.all_eq_true]
    exact fun t ht => okz_okd (h.2 t ht)
  | 0, .dict _, h => by simp [okz] at h
  | n + 1, .dict _, h => by simp [okz] at h
theorem okz_list {n : Nat} {ts : List D} : okz (n + 1) (.list ts) = true ↔ ts.length ≤ 1000000 ∧ ∀ t ∈ ts, okz n t = true := by
  rw [okz, Bool.and_eq_true, decide_eq_true_iff, List.all_eq_true]
theorem okz_tuple {n : Nat} {ts : List D} : okz (n + 1) (.tuple ts) = true ↔ ts.length ≤ 1000000 ∧ ∀ t ∈ ts, okz n t = true := by
  rw [okz, Bool.and_eq_true, decide_eq_true_iff, List.all_eq_true]
theorem okz_int {n : Nat} {i : Int} : okz n (.int i) = true := by cases n <;> rfl
theorem okz_pair {n : Nat} {p : Int × Int} : okz (n + 1) (pD p) = true := by
  rw [pD, okz_tuple]
  refine ⟨by simp, fun t ht => ?_⟩
  rcases List.mem_cons.mp ht with rfl | ht
  · exact okz_int
  · rw [List.mem_singleton.mp ht]
    exact okz_int
theorem okz_pairs {n : Nat} {ps : List (Int × Int)} (h : ps.length ≤ 1000000) : okz (n + 2) (.list (ps.map pD)) = true := by
  rw [okz_list]
  refine ⟨by simpa using h, fun t ht => ?_⟩
  obtain ⟨i, _, rfl⟩ := List.mem_map.mp ht
  exact okz_pair
mutual
theorem eqv_refl : ∀ {n : Nat} {t : D}, okd n t = true → PyData.eqv t t = true
  | n, .none, _ => rfl
  | n, .bool b, _ => by simp [PyData.eqv]
  | n, .int b, _ => by simp [PyData.eqv]
  | n, .str b, _ => by simp [PyData.eqv]
  | 0, .list ts, h => by simp [okd] at h
  | 0, .tuple ts, h => by simp [okd] at h
  | n + 1, .list ts, h => by
    rw [okd, List.all_eq_true] at h
    rw [PyData.eqv]
    exact eqv_reflA h
  | n + 1, .tuple ts, h => by
    rw [okd, List.all_eq_true] at h
    rw [PyData.eqv]
    exact eqv_reflA h
  | 0, .dict _, h => by simp [okd] at h
  | n + 1, .dict _, h => by simp [okd] at h
theorem eqv_reflA : ∀ {n : Nat} {ts : List D}, (∀ t ∈ ts, okd n t = true) → PyData.eqvAll ts ts = true
  | n, [], _ => rfl
  | n, t :: ts, h => by
    rw [PyData.eqvAll, eqv_refl (h t List.mem_cons_self), eqv_reflA fun u hu => h u (List.mem_cons_of_mem _ hu)]
    rfl
end
section
variable {i j : Int} {ts us : List D} {t : D} {Q : O → Prop}
theorem eqI_self {n : Nat} {neg : Bool} (hn : n ≤ 50) (h : okz n t = true) : eqI neg t t = some (.bool !neg) := by
  have h2 := okd_le hn (okz_okd h)
  unfold eqI
  rw [h2]
  simp only [Bool.and_self, if_true]
  rw [eqv_refl h2]
  cases neg <;> rfl
theorem frz_eqE {a b : O} (ha : a.frz = some t) (hb : b.frz = some t) {n : Nat} {neg : Bool} (hn : n ≤ 50) (h : okz n t = true) (k : Q (.leaf (.bool !neg))) : Op2 (vw2 (eqI neg)) a b Q :=
  (vw2_of ha hb (eqI_self hn h) rfl).mpr k
theorem p_isa {k : Tyk} {n : Nat} (hn : n ≤ 50) (h : okz n t = true) : Op1 (vw1 (isaI k)) (.leaf t) Q ↔ Q (.leaf (.bool (k.is t))) := by
  unfold Op1 vw1 isaI
  have h2 := okd_le hn (okz_okd h)
  simp [O.frz, h2, flatD, O1]
theorem p_insert {P : O → D → Prop} : OpM gInsert (.ls ts) [.leaf (.int i), .leaf t] P ↔ (ts.length < 16000000 ∧ 0 ≤ i ∧ i < 2 ^ 63) ∧ P (.ls (ts.take i.toNat ++ [t] ++ ts.drop i.toNat)) .none := by
  by_cases h : ts.length < 16000000 ∧ 0 ≤ i ∧ i < 2 ^ 63 <;> simp only [OpM, gInsert, h, O2, if_true, if_false, true_and, false_and]
theorem p_insertS : (gInsert (.ls ts) [.leaf (.int i), .leaf t]).isSome = true ↔ (ts.length < 16000000 ∧ 0 ≤ i ∧ i < 2 ^ 63) := by
  by_cases h : ts.length < 16000000 ∧ 0 ≤ i ∧ i < 2 ^ 63 <;> simp [gInsert, h]
theorem at_last {P : D → Prop} : At (ts ++ [t]) (-1) P ↔ P t := by
  unfold At atI
  have : ixN (ts ++ [t]).length (-1) = some ts.length := by
    unfold ixN
    rw [List.length_append, List.length_singleton]
    split <;> simp_all <;> omega
  rw [this]
  simp [O1]
theorem put_last {P : O → Prop} {d : D} : Op3 gSet (.ls (ts ++ [t])) (.leaf (.int (-1))) d P ↔ P (.ls (ts ++ [d])) := by
  unfold Op3 gSet
  have : ixN (ts ++ [t]).length (-1) = some ts.length := by
    unfold ixN
    rw [List.length_append, List.length_singleton]
    split <;> simp_all <;> omega
  simp only [this, Option.map_some, List.set_append_right _ _ (Nat.le_refl _), Nat.sub_self, List.set_cons_zero]
  exact Iff.rfl
theorem any_eqv {ns : List Int} : ((ns.map PyData.int).any fun u => PyData.eqv u (.int i)) = decide (i ∈ ns) := by
  induction ns with
  | nil => rfl
  | cons a r ih =>
    rw [List.map_cons, List.any_cons, ih]
    have : PyData.eqv (.int a) (.int i) = decide (a = i) := by
      show (a == i) = _
      by_cases h : a = i <;> simp [h]
    rw [this]
    by_cases h : a = i
    · simp [h]
    · have h' : ¬ i = a := fun z => h z.symm
      simp [h, h']
theorem inI_ints {neg : Bool} {ns : List Int} : inI neg (.int i) (.list (ns.map .int)) = some (.bool (if neg then !decide (i ∈ ns) else decide (i ∈ ns))) := by
  unfold inI
  have h : (ns.map PyData.int).all (okd 49) = true := by
    have := okd_ints (ns := ns) (n := 49)
    rwa [okd] at this
  show (if (okd 50 (.int i) && (ns.map PyData.int).all (okd 49)) = true then some (PyData.bool (if neg = true then !((ns.map PyData.int).any fun u => PyData.eqv u (.int i)) else (ns.map PyData.int).any fun u => PyData.eqv u (.int i))) else none) = _
  rw [h, any_eqv]
  rfl
theorem p_inl {ns : List Int} : Op2 (vw2 (inI false)) (.leaf (.int i)) (.leaf (.list (ns.map .int))) Q ↔ Q (.leaf (.bool (decide (i ∈ ns)))) := vw2_of rfl rfl inI_ints rfl
theorem p_inL {ns : List Int} : Op2 (vw2 (inI false)) (.leaf (.int i)) (.ls (ns.map .int)) Q ↔ Q (.leaf (.bool (decide (i ∈ ns)))) := vw2_of rfl rfl inI_ints rfl
theorem p_ninl {ns : List Int} : Op2 (vw2 (inI true)) (.leaf (.int i)) (.leaf (.list (ns.map .int))) Q ↔ Q (.leaf (.bool (!decide (i ∈ ns)))) := vw2_of rfl rfl inI_ints rfl
theorem p_ninL {ns : List Int} : Op2 (vw2 (inI true)) (.leaf (.int i)) (.ls (ns.map .int)) Q ↔ Q (.leaf (.bool (!decide (i ∈ ns)))) := vw2_of rfl rfl inI_ints rfl
/-- a list beside the empty one -/
theorem eqI_nil {neg : Bool} (h : ts.all (okd 49) = true) : eqI neg (.list ts) (.list []) = some (.bool (if neg then !ts.isEmpty else ts.isEmpty)) := by
  unfold eqI
  have h1 : okd 50 (.list ts) = true := by rw [okd]; exact h
  have h2 : okd 50 (.list []) = true := rfl
  rw [h1, h2]
  simp only [Bool.and_self, if_true]
  have : PyData.eqv (.list ts) (.list []) = ts.isEmpty := by
    cases ts <;> simp [PyData.eqv, PyData.eqvAll]
  rw [this]
theorem okd_pairs {ps : List (Int × Int)} : (ps.map pD).all (okd 49) = true := by
  rw [List.all_eq_true]
  intro d hd
  obtain ⟨i, _, rfl⟩ := List.mem_map.mp hd
  rfl
theorem p_eqP0 {ps : List (Int × Int)} : Op2 (vw2 (eqI false)) (.ls (ps.map pD)) (.ls []) Q ↔ Q (.leaf (.bool ps.isEmpty)) := by
  rw [vw2_of rfl rfl (eqI_nil okd_pairs) rfl]
  simp
theorem p_neP0 {ps : List (Int × Int)} : Op2 (vw2 (eqI true)) (.ls (ps.map pD)) (.ls []) Q ↔ Q (.leaf (.bool (!ps.isEmpty))) := by
  rw [vw2_of rfl rfl (eqI_nil okd_pairs) rfl]
  simp
end
/-! ### pairs in order -/
def lexle (p q : Int × Int) : Bool := decide (p.1 < q.1 ∨ (p.1 = q.1 ∧ p.2 ≤ q.2))
def psort (ps : List (Int × Int)) : List (Int × Int) := ps.mergeSort lexle
theorem psort_perm (ps : List (Int × Int)) : (psort ps).Perm ps := List.mergeSort_perm _ _
theorem psort_len (ps : List (Int × Int)) : (psort ps).length = ps.length := (psort_perm ps).length_eq
theorem psort_sorted (ps : List (Int × Int)) : (psort ps).Pairwise (fun p q => p.1 < q.1 ∨ (p.1 = q.1 ∧ p.2 ≤ q.2)) := by
  have := List.pairwise_mergeSort (le := lexle) (fun a b c h1 h2 => by simp only [lexle, decide_eq_true_eq] at *; omega) (fun a b => by simp only [lexle, Bool.or_eq_true, decide_eq_true_eq]; omega) ps
  exact this.imp fun h => by simpa [lexle] using h
theorem sortD_pairs (ps : List (Int × Int)) : sortD (ps.map pD) = (psort ps).map pD := by
  unfold sortD psort
  have h := PySem.W.dataLe_ii (β := Int × Int) (fun p => p.1) (fun p => p.2)
  symm
  apply List.map_mergeSort
  intro a _ b _
  have h2 := congrFun (congrFun h a) b
  exact h2.symm
theorem sortOk_pairs {ps : List (Int × Int)} (h : ps.length ≤ 1000000) : sortOk (ps.map pD) := by
  refine ⟨?_, .inl ?_, okd_pairs, by simpa using h⟩
  · intro d hd d' hd'
    obtain ⟨i, _, rfl⟩ := List.mem_map.mp hd
    obtain ⟨j, _, rfl⟩ := List.mem_map.mp hd'
    rfl
  · intro d hd
    obtain ⟨i, _, rfl⟩ := List.mem_map.mp hd
    exact ⟨_, _, rfl⟩
open Classical in
theorem sortP_core {ps : List (Int × Int)} {o : O} (h : ps.length ≤ 1000000) (e : seqO o = some (ps.map pD)) : oSort o = some (O.ls ((psort ps).map pD)) := by
  unfold oSort
  rw [e, Option.bind_some, if_pos (sortOk_pairs h), sortD_pairs]
/-- a list or a tuple of pairs -/
def SqP (o : D) (ps : List (Int × Int)) : Prop := o = .list (ps.map pD) ∨ o = .tuple (ps.map pD)
theorem SqP.items {o : D} {ps : List (Int × Int)} (h : SqP o ps) : itemsO (.leaf o) = some (ps.map pD) := by
  rcases h with rfl | rfl <;> rfl
theorem SqP.seq {o : D} {ps : List (Int × Int)} (h : SqP o ps) : seqO (.leaf o) = some (ps.map pD) := by
  rcases h with rfl | rfl <;> rfl
theorem SqP.itm {o : D} {ps : List (Int × Int)} (h : SqP o ps) {P : List D → Prop} : Itm (.leaf o) P ↔ P (ps.map pD) := by
  unfold Itm
  rw [h.items]
  exact Iff.rfl
theorem SqP.sort {o : D} {ps : List (Int × Int)} (h : SqP o ps) (hl : ps.length ≤ 1000000) {Q : O → Prop} : Op1 oSort (.leaf o) Q ↔ Q (.ls ((psort ps).map pD)) := by
  unfold Op1
  rw [sortP_core hl h.seq]
  exact Iff.rfl
theorem SqP.list {o : D} {ps : List (Int × Int)} (h : SqP o ps) {Q : O → Prop} : Op1 oList (.leaf o) Q ↔ Q (.ls (ps.map pD)) := by
  rcases h with rfl | rfl
  · exact p_listl
  · exact p_listt
theorem SqP.len {o : D} {ps : List (Int × Int)} (h : SqP o ps) {Q : O → Prop} : Op1 oLen (.leaf o) Q ↔ Q (.leaf (.int ps.length)) := by
  rcases h with rfl | rfl
  · rw [p_lenl, List.length_map]
  · rw [p_lent, List.length_map]
theorem SqP.ix {o : D} {ps : List (Int × Int)} (h : SqP o ps) {i : Int} {Q : O → Prop} : Op2 oIx (.leaf o) (.leaf (.int i)) Q ↔ At (ps.map pD) i fun d => Q (.leaf d) := by
  rcases h with rfl | rfl
  · exact p_ixl
  · exact p_ixt
section
variable {α : Type} {set : GSem} {body : SSem} {h : α → D} {cnd : TSem} {elt : ESem} {vs : List Nat}
/-- a loop by what is left -/
theorem wf_fold {I : List α → Env → Prop} {Q : Out → Env → Prop} (hs : ∀ a r e, I (a :: r) e → Wg set (h a) e fun e1 => Ws body e1 (lpk (I r) Q)) (hq : ∀ e, I [] e → Q .nx e) : ∀ {as : List α} {env : Env}, I as env → Wf set body (as.map h) env Q
  | [], env, h0 => hq env h0
  | a :: as, env, h0 => by
    rw [List.map_cons, wf_cons]
    refine O1.mono (hs a as env h0) fun e1 h1 => O2.mono h1 fun o e2 h2 => ?_
    cases o with
    | nx => exact wf_fold hs hq h2
    | ct => exact wf_fold hs hq h2
    | bk => exact h2
    | rt r => exact h2
end
section
variable {ts us : List D} {Q : O → Prop} {b : Bool} {x : Str} {p : Int × Int} {ps : List (Int × Int)}
theorem p_isLTb : Op1 (vw1 isaLT) (.leaf (.bool b)) Q ↔ Q (.leaf (.bool false)) := Iff.rfl
theorem p_isLTs : Op1 (vw1 isaLT) (.leaf (.str x)) Q ↔ Q (.leaf (.bool false)) := Iff.rfl
theorem p_isIb : Op1 (vw1 (isaI .int)) (.leaf (.bool b)) Q ↔ Q (.leaf (.bool true)) := Iff.rfl
theorem p_isBb : Op1 (vw1 (isaI .bool)) (.leaf (.bool b)) Q ↔ Q (.leaf (.bool true)) := Iff.rfl
theorem p_isSb : Op1 (vw1 (isaI .str)) (.leaf (.bool b)) Q ↔ Q (.leaf (.bool false)) := Iff.rfl
theorem p_isLb : Op1 (vw1 (isaI .list)) (.leaf (.bool b)) Q ↔ Q (.leaf (.bool false)) := Iff.rfl
theorem p_isTb : Op1 (vw1 (isaI .tuple)) (.leaf (.bool b)) Q ↔ Q (.leaf (.bool false)) := Iff.rfl
theorem p_isIs : Op1 (vw1 (isaI .int)) (.leaf (.str x)) Q ↔ Q (.leaf (.bool false)) := Iff.rfl
theorem p_isBs : Op1 (vw1 (isaI .bool)) (.leaf (.str x)) Q ↔ Q (.leaf (.bool false)) := Iff.rfl
theorem p_isSs : Op1 (vw1 (isaI .str)) (.leaf (.str x)) Q ↔ Q (.leaf (.bool true)) := Iff.rfl
theorem p_isLs : Op1 (vw1 (isaI .list)) (.leaf (.str x)) Q ↔ Q (.leaf (.bool false)) := Iff.rfl
theorem p_isTs : Op1 (vw1 (isaI .tuple)) (.leaf (.str x)) Q ↔ Q (.leaf (.bool false)) := Iff.rfl
theorem p_isLi {i : Int} : Op1 (vw1 (isaI .list)) (.leaf (.int i)) Q ↔ Q (.leaf (.bool false)) := Iff.rfl
theorem p_isTi {i : Int} : Op1 (vw1 (isaI .tuple)) (.leaf (.int i)) Q ↔ Q (.leaf (.bool false)) := Iff.rfl
theorem p_isLn : Op1 (vw1 (isaI .list)) (.leaf .none) Q ↔ Q (.leaf (.bool false)) := Iff.rfl
theorem p_isTn : Op1 (vw1 (isaI .tuple)) (.leaf .none) Q ↔ Q (.leaf (.bool false)) := Iff.rfl
theorem p_isSn : Op1 (vw1 (isaI .str)) (.leaf .none) Q ↔ Q (.leaf (.bool false)) := Iff.rfl
theorem p_isNb {neg : Bool} : Op2 (vw2 (isNI neg)) (.leaf (.bool b)) (.leaf .none) Q ↔ Q (.leaf (.bool neg)) := by cases neg <;> exact Iff.rfl
theorem p_isNs {neg : Bool} : Op2 (vw2 (isNI neg)) (.leaf (.str x)) (.leaf .none) Q ↔ Q (.leaf (.bool neg)) := by cases neg <;> exact Iff.rfl
theorem p_isNt {neg : Bool} : Op2 (vw2 (isNI neg)) (.leaf (.tuple ts)) (.leaf .none) Q ↔ Q (.leaf (.bool neg)) := by cases neg <;> exact Iff.rfl
theorem p_isNl {neg : Bool} : Op2 (vw2 (isNI neg)) (.leaf (.list ts)) (.leaf .none) Q ↔ Q (.leaf (.bool neg)) := by cases neg <;> exact Iff.rfl
theorem p_isNp {neg : Bool} : Op2 (vw2 (isNI neg)) (.leaf (pD p)) (.leaf .none) Q ↔ Q (.leaf (.bool neg)) := by cases neg <;> exact Iff.rfl
theorem p_eqTT : Op2 (vw2 (eqI false)) (.leaf (.bool true)) (.leaf (.bool true)) Q ↔ Q (.leaf (.bool true)) := Iff.rfl
theorem p_eqTF : Op2 (vw2 (eqI false)) (.leaf (.bool true)) (.leaf (.bool false)) Q ↔ Q (.leaf (.bool false)) := Iff.rfl
theorem p_eqFT : Op2 (vw2 (eqI false)) (.leaf (.bool false)) (.leaf (.bool true)) Q ↔ Q (.leaf (.bool false)) := Iff.rfl
theorem p_eqFF : Op2 (vw2 (eqI false)) (.leaf (.bool false)) (.leaf (.bool false)) Q ↔ Q (.leaf (.bool true)) := Iff.rfl
theorem p_neTT : Op2 (vw2 (eqI true)) (.leaf (.bool true)) (.leaf (.bool true)) Q ↔ Q (.leaf (.bool false)) := Iff.rfl
theorem p_neTF : Op2 (vw2 (eqI true)) (.leaf (.bool true)) (.leaf (.bool false)) Q ↔ Q (.leaf (.bool true)) := Iff.rfl
theorem p_neFT : Op2 (vw2 (eqI true)) (.leaf (.bool false)) (.leaf (.bool true)) Q ↔ Q (.leaf (.bool true)) := Iff.rfl
theorem p_neFF : Op2 (vw2 (eqI true)) (.leaf (.bool false)) (.leaf (.bool false)) Q ↔ Q (.leaf (.bool false)) := Iff.rfl
theorem p_eqBs : Op2 (vw2 (eqI false)) (.leaf (.bool b)) (.leaf (.bool b)) Q ↔ Q (.leaf (.bool true)) := by cases b <;> exact Iff.rfl
theorem p_eqSs : Op2 (vw2 (eqI false)) (.leaf (.str x)) (.leaf (.str x)) Q ↔ Q (.leaf (.bool true)) := vw2_of rfl rfl (eqI_self (n := 0) (by decide) rfl) rfl
theorem p_eqIs {i : Int} : Op2 (vw2 (eqI false)) (.leaf (.int i)) (.leaf (.int i)) Q ↔ Q (.leaf (.bool true)) := vw2_of rfl rfl (eqI_self (n := 0) (by decide) rfl) rfl
theorem p_eq00 : Op2 (vw2 (eqI false)) (.ls []) (.ls []) Q ↔ Q (.leaf (.bool true)) := Iff.rfl
theorem p_ne00 : Op2 (vw2 (eqI true)) (.ls []) (.ls []) Q ↔ Q (.leaf (.bool false)) := Iff.rfl
theorem okd_pairsA : (ps.map pD ++ [pD p]).all (okd 49) = true := by
  rw [List.all_append, okd_pairs]
  rfl
theorem p_neA : Op2 (vw2 (eqI true)) (.ls (ps.map pD ++ [pD p])) (.ls []) Q ↔ Q (.leaf (.bool true)) := by
  rw [vw2_of rfl rfl (eqI_nil okd_pairsA) rfl]
  have : (ps.map pD ++ [pD p]).isEmpty = false := by cases ps <;> rfl
  rw [this]
  exact Iff.rfl
theorem p_ixp0 : Op2 oIx (.leaf (pD p)) (.leaf (.int 0)) Q ↔ Q (.leaf (.int p.1)) := Iff.rfl
theorem p_ixp1 : Op2 oIx (.leaf (pD p)) (.leaf (.int 1)) Q ↔ Q (.leaf (.int p.2)) := Iff.rfl
theorem w_gTp {n : Nat} {gs : GsSem} {env : Env} {Q : Env → Prop} : Wg (gT n gs) (pD p) env Q ↔ Wg (gT n gs) (.tuple [.int p.1, .int p.2]) env Q := Iff.rfl
theorem map_snoc {i j : Int} : ps.map pD ++ [PyData.tuple [.int i, .int j]] = (ps ++ [(i, j)]).map pD := by
  rw [List.map_append]
  rfl
theorem at_psE {i : Nat} {P : D → Prop} (h : ps[i]? = some p) : At (ps.map pD) (i : Int) P ↔ P (pD p) := by
  rw [at_nat, List.getElem?_map, h]
  exact Iff.rfl
theorem at_0 {t : D} {P : D → Prop} : At (t :: ts) 0 P ↔ P t := (at_nat (i := 0)).trans Iff.rfl
theorem at_1 {t u : D} {P : D → Prop} : At (t :: u :: ts) 1 P ↔ P u := (at_nat (i := 1)).trans Iff.rfl
theorem at_2 {t u v : D} {P : D → Prop} : At (t :: u :: v :: ts) 2 P ↔ P v := (at_nat (i := 2)).trans Iff.rfl
theorem at_3 {t u v w : D} {P : D → Prop} : At (t :: u :: v :: w :: ts) 3 P ↔ P w := (at_nat (i := 3)).trans Iff.rfl
theorem at_4 {t u v w x : D} {P : D → Prop} : At (t :: u :: v :: w :: x :: ts) 4 P ↔ P x := (at_nat (i := 4)).trans Iff.rfl
theorem zip_cc {t u : D} : zipD (t :: ts) (u :: us) = .tuple [t, u] :: zipD ts us := by
  unfold zipD
  rw [List.zip_cons_cons, List.map_cons]
theorem zip_nn : zipD [] us = [] := rfl
end
end Mv

set_option Elab.async false
set_option linter.all false
set_option maxRecDepth 100000
set_option maxHeartbeats 2000000
namespace Mv
/-! ### sets of numbers as pairs: plain mathematics -/
abbrev Rg := Int × Int
/-- a stretch has the number -/
def Has (l : List Rg) (x : Int) : Prop := ∃ p ∈ l, p.1 ≤ x ∧ x ≤ p.2
/-- in order, none empty, none touching -/
def Cn : List Rg → Prop
  | [] => True
  | p :: r => p.1 ≤ p.2 ∧ (∀ q ∈ r, p.2 + 1 < q.1) ∧ Cn r
theorem has_nil {x : Int} : Has [] x ↔ False := by simp [Has]
theorem has_cons {p : Rg} {r : List Rg} {x : Int} : Has (p :: r) x ↔ (p.1 ≤ x ∧ x ≤ p.2) ∨ Has r x := by simp [Has]
theorem has_app {l m : List Rg} {x : Int} : Has (l ++ m) x ↔ Has l x ∨ Has m x := by
  simp only [Has, List.mem_append]
  constructor
  · rintro ⟨p, h | h, k⟩
    · exact .inl ⟨p, h, k⟩
    · exact .inr ⟨p, h, k⟩
  · rintro (⟨p, h, k⟩ | ⟨p, h, k⟩)
    · exact ⟨p, .inl h, k⟩
    · exact ⟨p, .inr h, k⟩
theorem has_perm {l m : List Rg} (h : l.Perm m) {x : Int} : Has l x ↔ Has m x := by
  simp only [Has, h.mem_iff]
theorem cn_le {l : List Rg} (h : Cn l) : ∀ p ∈ l, p.1 ≤ p.2 := by
  induction l with
  | nil => intro p hp; cases hp
  | cons q r ih =>
    intro p hp
    rcases List.mem_cons.mp hp with rfl | hp
    · exact h.1
    · exact ih h.2.2 p hp
theorem cn_ext : ∀ {l m : List Rg}, Cn l → Cn m → (∀ x, Has l x ↔ Has m x) → l = m
  | [], [], _, _, _ => rfl
  | [], q :: m, _, hm, h => by
    have := (h q.1).mpr (has_cons.mpr (.inl ⟨Int.le_refl _, hm.1⟩))
    exact (has_nil.mp this).elim
  | p :: l, [], hl, _, h => by
    have := (h p.1).mp (has_cons.mpr (.inl ⟨Int.le_refl _, hl.1⟩))
    exact (has_nil.mp this).elim
  | p :: l, q :: m, hl, hm, h => by
    have e1 : p.1 = q.1 := by
      have a := (h p.1).mp (has_cons.mpr (.inl ⟨Int.le_refl _, hl.1⟩))
      have b := (h q.1).mpr (has_cons.mpr (.inl ⟨Int.le_refl _, hm.1⟩))
      have a' : q.1 ≤ p.1 := by
        rcases has_cons.mp a with z | ⟨t, ht, z⟩
        · exact z.1
        · have := hm.2.1 t ht
          have := hm.1
          omega
      have b' : p.1 ≤ q.1 := by
        rcases has_cons.mp b with z | ⟨t, ht, z⟩
        · exact z.1
        · have := hl.2.1 t ht
          have := hl.1
          omega
      omega
    have e2 : p.2 = q.2 := by
      rcases Int.lt_trichotomy p.2 q.2 with z | z | z
      · have a := (h (p.2 + 1)).mpr (has_cons.mpr (.inl ⟨by have := hl.1; omega, by omega⟩))
        rcases has_cons.mp a with y | ⟨t, ht, y⟩
        · omega
        · have := hl.2.1 t ht
          omega
      · exact z
      · have a := (h (q.2 + 1)).mp (has_cons.mpr (.inl ⟨by have := hm.1; omega, by omega⟩))
        rcases has_cons.mp a with y | ⟨t, ht, y⟩
        · omega
        · have := hm.2.1 t ht
          omega
    have e3 : l = m := by
      refine cn_ext hl.2.2 hm.2.2 fun x => ⟨fun a => ?_, fun a => ?_⟩
      · obtain ⟨t, ht, y⟩ := a
        have g := hl.2.1 t ht
        have := (h x).mp (has_cons.mpr (.inr ⟨t, ht, y⟩))
        rcases has_cons.mp this with w | w
        · omega
        · exact w
      · obtain ⟨t, ht, y⟩ := a
        have g := hm.2.1 t ht
        have := (h x).mpr (has_cons.mpr (.inr ⟨t, ht, y⟩))
        rcases has_cons.mp this with w | w
        · omega
        · exact w
    rw [e3]
    congr 1
    exact Prod.ext e1 e2
theorem cn_app : ∀ {l m : List Rg}, Cn l → Cn m → (∀ p ∈ l, ∀ q ∈ m, p.2 + 1 < q.1) → Cn (l ++ m)
  | [], _, _, hm, _ => hm
  | p :: l, m, hl, hm, h => by
    refine ⟨hl.1, fun q hq => ?_, cn_app hl.2.2 hm fun a ha b hb => h a (List.mem_cons_of_mem _ ha) b hb⟩
    rcases List.mem_append.mp hq with z | z
    · exact hl.2.1 q z
    · exact h p List.mem_cons_self q z
/-- backwards -/
def Cr : List Rg → Prop
  | [] => True
  | p :: r => p.1 ≤ p.2 ∧ (∀ q ∈ r, q.2 + 1 < p.1) ∧ Cr r
theorem cr_rev : ∀ {l : List Rg}, Cr l → Cn l.reverse
  | [], _ => trivial
  | p :: l, h => by
    rw [List.reverse_cons]
    refine cn_app (cr_rev h.2.2) ⟨h.1, (by intro q hq; cases hq), trivial⟩ fun a ha b hb => ?_
    rw [List.mem_singleton.mp hb]
    exact h.2.1 a (List.mem_reverse.mp ha)
/-! set_of -/
def soR : List Rg → List Rg → List Rg
  | [], acc => acc
  | p :: r, acc => if p.2 < p.1 then soR r acc else match acc with
    | [] => soR r [p]
    | q :: a => if p.1 ≤ q.2 + 1 then soR r ((q.1, max p.2 q.2) :: a) else soR r (p :: q :: a)
theorem soR_nil {acc : List Rg} : soR [] acc = acc := by rw [soR.eq_def]
theorem soR_cE {p : Rg} {r acc : List Rg} : soR (p :: r) acc = if p.2 < p.1 then soR r acc else match acc with
    | [] => soR r [p]
    | q :: a => if p.1 ≤ q.2 + 1 then soR r ((q.1, max p.2 q.2) :: a) else soR r (p :: q :: a) := by rw [soR.eq_def]
theorem soR_ok : ∀ {l acc : List Rg}, Cr acc → l.Pairwise (fun p q => p.1 ≤ q.1) → (∀ p ∈ l, ∀ q ∈ acc, q.1 ≤ p.1) → Cr (soR l acc) ∧ ∀ x, Has (soR l acc) x ↔ Has l x ∨ Has acc x
  | [], acc, h, _, _ => ⟨h, fun x => by simp [soR, has_nil]⟩
  | p :: r, acc, h, hs, hb => by
    obtain ⟨s1, s2⟩ := List.pairwise_cons.mp hs
    rw [soR_cE]
    by_cases hp : p.2 < p.1
    · rw [if_pos hp]
      obtain ⟨a, b⟩ := soR_ok h s2 fun a ha => hb a (List.mem_cons_of_mem _ ha)
      refine ⟨a, fun x => ?_⟩
      rw [b, has_cons]
      constructor
      · rintro (z | z)
        · exact .inl (.inr z)
        · exact .inr z
      · rintro ((z | z) | z)
        · omega
        · exact .inl z
        · exact .inr z
    · rw [if_neg hp]
      cases acc with
      | nil =>
        simp only
        obtain ⟨a, b⟩ := soR_ok (l := r) (acc := [p]) ⟨by omega, by simp, trivial⟩ s2 fun a ha q hq => by
          rw [List.mem_singleton.mp hq]
          exact s1 a ha
        refine ⟨a, fun x => ?_⟩
        rw [b, has_cons, has_cons, has_nil]
        constructor
        · rintro (z | z | z)
          · exact .inl (.inr z)
          · exact .inl (.inl z)
          · exact .inr z
        · rintro ((z | z) | z)
          · exact .inr (.inl z)
          · exact .inl z
          · exact .inr (.inr z)
      | cons q a =>
        simp only
        have hq := hb p List.mem_cons_self q List.mem_cons_self
        have h1 := h.1
        by_cases hc : p.1 ≤ q.2 + 1
        · rw [if_pos hc]
          obtain ⟨c, b⟩ := soR_ok (l := r) (acc := (q.1, max p.2 q.2) :: a) ⟨by simp only; omega, h.2.1, h.2.2⟩ s2 fun t ht u hu => by
            rcases List.mem_cons.mp hu with rfl | hu
            · exact hb t (List.mem_cons_of_mem _ ht) q List.mem_cons_self
            · exact hb t (List.mem_cons_of_mem _ ht) u (List.mem_cons_of_mem _ hu)
          refine ⟨c, fun x => ?_⟩
          rw [b, has_cons, has_cons, has_cons]
          simp only
          constructor
          · rintro (z | z | z)
            · exact .inl (.inr z)
            · by_cases y : x ≤ q.2
              · exact .inr (.inl ⟨z.1, y⟩)
              · exact .inl (.inl (by omega))
            · exact .inr (.inr z)
          · rintro ((z | z) | z | z)
            · exact .inr (.inl (by omega))
            · exact .inl z
            · exact .inr (.inl (by omega))
            · exact .inr (.inr z)
        · rw [if_neg hc]
          obtain ⟨c, b⟩ := soR_ok (l := r) (acc := p :: q :: a) ⟨by omega, (by
            intro t ht
            rcases List.mem_cons.mp ht with rfl | ht
            · omega
            · have := h.2.1 t ht
              omega), h⟩ s2 fun t ht u hu => by
            rcases List.mem_cons.mp hu with rfl | hu
            · exact s1 t ht
            · exact hb t (List.mem_cons_of_mem _ ht) u hu
          refine ⟨c, fun x => ?_⟩
          rw [b, has_cons (p := p), has_cons (p := p)]
          constructor
          · rintro (z | z | z)
            · exact .inl (.inr z)
            · exact .inl (.inl z)
            · exact .inr z
          · rintro ((z | z) | z)
            · exact .inr (.inl z)
            · exact .inl z
            · exact .inr (.inr z)
theorem soR_len : ∀ {l acc : List Rg}, (soR l acc).length ≤ l.length + acc.length
  | [], acc => by simp [soR]
  | p :: r, acc => by
    rw [soR_cE]
    by_cases hp : p.2 < p.1
    · rw [if_pos hp]
      have := soR_len (l := r) (acc := acc)
      simp only [List.length_cons]
      omega
    · rw [if_neg hp]
      cases acc with
      | nil =>
        simp only
        have := soR_len (l := r) (acc := [p])
        simp only [List.length_cons, List.length_nil] at *
        omega
      | cons q a =>
        simp only
        by_cases hc : p.1 ≤ q.2 + 1
        · rw [if_pos hc]
          have := soR_len (l := r) (acc := (q.1, max p.2 q.2) :: a)
          simp only [List.length_cons] at *
          omega
        · rw [if_neg hc]
          have := soR_len (l := r) (acc := p :: q :: a)
          simp only [List.length_cons] at *
          omega
def setOf (l : List Rg) : List Rg := (soR (psort l) []).reverse
theorem setOf_ok (l : List Rg) : Cn (setOf l) ∧ (∀ x, Has (setOf l) x ↔ Has l x) ∧ (setOf l).length ≤ l.length := by
  obtain ⟨a, b⟩ := soR_ok (l := psort l) (acc := []) trivial ((psort_sorted l).imp fun h => by omega) fun p _ q hq => by cases hq
  refine ⟨cr_rev a, fun x => ?_, ?_⟩
  · rw [setOf, has_perm (List.reverse_perm _), b, has_perm (psort_perm l), has_nil]
    simp
  · have := soR_len (l := psort l) (acc := [])
    rw [psort_len] at this
    rw [setOf, List.length_reverse]
    simpa using this
/-! both_of -/
def bo : List Rg → List Rg → List Rg
  | p :: a, q :: b => (if max p.1 q.1 ≤ min p.2 q.2 then [(max p.1 q.1, min p.2 q.2)] else []) ++ if p.2 < q.2 then bo a (q :: b) else bo (p :: a) b
  | [], _ => []
  | _ :: _, [] => []
termination_by l m => l.length + m.length
theorem bo_ok : ∀ {l m : List Rg}, Cn l → Cn m → Cn (bo l m) ∧ (∀ x, Has (bo l m) x ↔ Has l x ∧ Has m x) ∧ (bo l m).length ≤ l.length + m.length
  | [], m, _, _ => by
    rw [bo]
    exact ⟨trivial, fun x => by simp [has_nil], by simp⟩
  | p :: a, [], _, _ => by
    rw [bo]
    exact ⟨trivial, fun x => by simp [has_nil], by simp⟩
  | p :: a, q :: b, hl, hm => by
    rw [bo]
    by_cases hc : p.2 < q.2
    · simp only [if_pos hc]
      obtain ⟨h1, h2, h3⟩ := bo_ok (l := a) (m := q :: b) hl.2.2 hm
      refine ⟨?_, fun x => ?_, ?_⟩
      · split
        · rename_i ho
          refine ⟨ho, fun t ht => ?_, h1⟩
          have hle := cn_le h1 t ht
          obtain ⟨u, hu, z⟩ := ((h2 t.1).mp ⟨t, ht, Int.le_refl _, hle⟩).1
          have := hl.2.1 u hu
          simp only
          omega
        · exact h1
      · rw [has_app, h2, has_cons (p := p), has_cons (p := q)]
        have e1 : Has (if max p.1 q.1 ≤ min p.2 q.2 then [(max p.1 q.1, min p.2 q.2)] else []) x ↔ (p.1 ≤ x ∧ x ≤ p.2) ∧ (q.1 ≤ x ∧ x ≤ q.2) := by
          split
          · rw [has_cons, has_nil]
            simp only
            constructor
            · rintro (z | z)
              · omega
              · exact z.elim
            · intro z
              exact .inl (by omega)
          · rw [has_nil]
            constructor
            · intro z
              exact z.elim
            · intro z
              omega
        rw [e1]
        constructor
        · rintro (z | z)
          · exact ⟨.inl z.1, .inl z.2⟩
          · exact ⟨.inr z.1, z.2⟩
        · rintro ⟨z | z, y | y⟩
          · exact .inl ⟨z, y⟩
          · obtain ⟨u, hu, w⟩ := y
            have := hm.2.1 u hu
            omega
          · exact .inr ⟨z, .inl y⟩
          · exact .inr ⟨z, .inr y⟩
      · rw [List.length_append]
        simp only [List.length_cons] at h3 ⊢
        split <;> simp only [List.length_cons, List.length_nil] <;> omega
    · simp only [if_neg hc]
      obtain ⟨h1, h2, h3⟩ := bo_ok (l := p :: a) (m := b) hl hm.2.2
      refine ⟨?_, fun x => ?_, ?_⟩
      · split
        · rename_i ho
          refine ⟨ho, fun t ht => ?_, h1⟩
          have hle := cn_le h1 t ht
          obtain ⟨u, hu, z⟩ := ((h2 t.1).mp ⟨t, ht, Int.le_refl _, hle⟩).2
          have := hm.2.1 u hu
          simp only
          omega
        · exact h1
      · rw [has_app, h2, has_cons (p := p), has_cons (p := q)]
        have e1 : Has (if max p.1 q.1 ≤ min p.2 q.2 then [(max p.1 q.1, min p.2 q.2)] else []) x ↔ (p.1 ≤ x ∧ x ≤ p.2) ∧ (q.1 ≤ x ∧ x ≤ q.2) := by
          split
          · rw [has_cons, has_nil]
            simp only
            constructor
            · rintro (z | z)
              · omega
              · exact z.elim
            · intro z
              exact .inl (by omega)
          · rw [has_nil]
            constructor
            · intro z
              exact z.elim
            · intro z
              omega
        rw [e1]
        constructor
        · rintro (z | z)
          · exact ⟨.inl z.1, .inl z.2⟩
          · exact ⟨z.1, .inr z.2⟩
        · rintro ⟨z | z, y | y⟩
          · exact .inl ⟨z, y⟩
          · exact .inr ⟨.inl z, y⟩
          · obtain ⟨u, hu, w⟩ := z
            have := hl.2.1 u hu
            omega
          · exact .inr ⟨.inr z, y⟩
      · rw [List.length_append]
        simp only [List.length_cons] at h3 ⊢
        split <;> simp only [List.length_cons, List.length_nil] <;> omega
termination_by l m => l.length + m.length
/-! without -/
def wi (l : Int) : Int → List Rg → List Rg
  | f, [] => if f ≤ l then [(f, l)] else []
  | f, q :: m => if q.1 ≤ l ∧ f ≤ q.2 then (if f < q.1 then [(f, q.1 - 1)] else []) ++ wi l (q.2 + 1) m else wi l f m
theorem wi_ok {l : Int} : ∀ {m : List Rg} {f : Int}, Cn m → Cn (wi l f m) ∧ (∀ x, Has (wi l f m) x ↔ (f ≤ x ∧ x ≤ l) ∧ ¬Has m x) ∧ (wi l f m).length ≤ m.length + 1
  | [], f, _ => by
    rw [wi]
    split
    · rename_i h
      refine ⟨⟨h, by simp, trivial⟩, fun x => ?_, by simp⟩
      rw [has_cons, has_nil]
      simp [has_nil]
    · rename_i h
      refine ⟨trivial, fun x => ?_, by simp⟩
      simp only [has_nil]
      constructor
      · intro z
        exact z.elim
      · intro z
        omega
  | q :: m, f, hm => by
    rw [wi]
    split
    · rename_i hc
      obtain ⟨h1, h2, h3⟩ := wi_ok (l := l) (m := m) (f := q.2 + 1) hm.2.2
      have hq := hm.1
      refine ⟨?_, fun x => ?_, ?_⟩
      · split
        · rename_i ho
          refine ⟨by simp only; omega, fun t ht => ?_, h1⟩
          have hle := cn_le h1 t ht
          have := ((h2 t.1).mp ⟨t, ht, Int.le_refl _, hle⟩).1
          simp only
          omega
        · exact h1
      · rw [has_app, h2, has_cons]
        have e1 : Has (if f < q.1 then [(f, q.1 - 1)] else []) x ↔ f ≤ x ∧ x < q.1 := by
          split
          · rw [has_cons, has_nil]
            simp only
            constructor
            · rintro (z | z)
              · omega
              · exact z.elim
            · intro z
              exact .inl (by omega)
          · rw [has_nil]
            constructor
            · intro z
              exact z.elim
            · intro z
              omega
        rw [e1]
        constructor
        · rintro (z | ⟨z, y⟩)
          · refine ⟨by omega, ?_⟩
            rintro (w | ⟨u, hu, w⟩)
            · omega
            · have := hm.2.1 u hu
              omega
          · refine ⟨by omega, ?_⟩
            rintro (w | w)
            · omega
            · exact y w
        · rintro ⟨z, y⟩
          by_cases w : x < q.1
          · exact .inl ⟨z.1, w⟩
          · by_cases v : x ≤ q.2
            · exact absurd (.inl ⟨by omega, v⟩) y
            · exact .inr ⟨by omega, fun u => y (.inr u)⟩
      · rw [List.length_append]
        simp only [List.length_cons]
        split <;> simp only [List.length_cons, List.length_nil] <;> omega
    · rename_i hc
      obtain ⟨h1, h2, h3⟩ := wi_ok (l := l) (m := m) (f := f) hm.2.2
      refine ⟨h1, fun x => ?_, by simp only [List.length_cons]; omega⟩
      rw [h2, has_cons]
      constructor
      · rintro ⟨z, y⟩
        refine ⟨z, ?_⟩
        rintro (w | w)
        · omega
        · exact y w
      · rintro ⟨z, y⟩
        exact ⟨z, fun u => y (.inr u)⟩
def wo (l m : List Rg) : List Rg := l.flatMap fun p => wi p.2 p.1 m
theorem wo_ok {m : List Rg} (hm : Cn m) : ∀ {l : List Rg}, Cn l → Cn (wo l m) ∧ (∀ x, Has (wo l m) x ↔ Has l x ∧ ¬Has m x) ∧ (wo l m).length ≤ l.length * (m.length + 1)
  | [], _ => ⟨trivial, fun x => by simp [wo, has_nil], by simp [wo]⟩
  | p :: l, hl => by
    obtain ⟨h1, h2, h3⟩ := wo_ok hm hl.2.2
    obtain ⟨k1, k2, k3⟩ := wi_ok (l := p.2) (m := m) (f := p.1) hm
    have e : wo (p :: l) m = wi p.2 p.1 m ++ wo l m := by rw [wo, List.flatMap_cons]; rfl
    rw [e]
    refine ⟨cn_app k1 h1 fun a ha b hb => ?_, fun x => ?_, ?_⟩
    · have a1 := cn_le k1 a ha
      have b1 := cn_le h1 b hb
      have a2 := ((k2 a.2).mp ⟨a, ha, a1, Int.le_refl _⟩).1
      obtain ⟨t, ht, b2⟩ := ((h2 b.1).mp ⟨b, hb, Int.le_refl _, b1⟩).1
      have := hl.2.1 t ht
      omega
    · rw [has_app, k2, h2, has_cons]
      constructor
      · rintro (z | z)
        · exact ⟨.inl z.1, z.2⟩
        · exact ⟨.inr z.1, z.2⟩
      · rintro ⟨z | z, y⟩
        · exact .inl ⟨z, y⟩
        · exact .inr ⟨z, y⟩
    · rw [List.length_append, List.length_cons, Nat.succ_mul]
      omega
/-! all its numbers -/
def run (p : Rg) : List Int := (List.range (p.2 - p.1 + 1).toNat).map fun (i : Nat) => p.1 + (i : Int)
def fl (l : List Rg) : List Int := l.flatMap run
/-! counts and places -/
def cnt : List Rg → Int
  | [] => 0
  | p :: r => (p.2 - p.1 + 1) + cnt r
def nf : List Rg → Int → Option Int
  | [], _ => none
  | p :: r, l => if l ≤ p.2 - p.1 then some (p.1 + l) else nf r (l - (p.2 - p.1 + 1))
def lss (n : Int) : List Rg → Int
  | [] => 0
  | p :: r => max 0 (min (p.2 + 1) n - p.1) + lss n r
def hasB (l : List Rg) (x : Int) : Bool := l.any fun p => decide (p.1 ≤ x ∧ x ≤ p.2)
theorem hasB_iff {l : List Rg} {x : Int} : hasB l x = true ↔ Has l x := by
  unfold hasB Has
  rw [List.any_eq_true]
  simp only [decide_eq_true_eq]
end Mv

set_option Elab.async false
set_option linter.all false
set_option maxRecDepth 100000
set_option maxHeartbeats 2000000
namespace Mv
open PySem PySem.Spec PyProof.Rows L2
/-! ### d.update(a list of pairs) -/
/-- the pairs of a list, as values that stand on the heap -/
theorem pairs_val {X : Cx} {pins : List (Addr × Obj)} {σ : L2.St} {H : Hp} {s : Shared} (I : Inv X pins σ H s) : ∀ {ps : List Addr} {kvs : List (Key × V)}, Paired (fun p kv => SqT X.K H p [kV kv.1, kv.2]) ps kvs →
    ∃ (prs : List (Key × Value)) (us : List (Value × Value)), KV kvs prs ∧ prs.length = ps.length ∧ us.length = ps.length ∧ ∀ (j : Nat) (k v : Value), us[j]? = some (k, v) → ∃ (b : Addr) (q : Key), ps[j]? = some b ∧ s.heap.IsTuple b #[k, v] ∧ prs[j]? = some (q, v) ∧ keyIs q k = true
  | _, _, .nil => ⟨[], [], .nil, rfl, rfl, fun j k v e => by simp at e⟩
  | _, _, .cons (a := p) (b := kv) h t => by
    obtain ⟨prs, us, r, hl, hl2, hp⟩ := pairs_val I t
    obtain ⟨its, rv, ht, _⟩ := I.tuple h
    obtain ⟨u, y, ei, ru, ry⟩ := vals2 rv
    subst ei
    refine ⟨(kv.1, y) :: prs, (u, y) :: us, .cons ⟨rfl, ry⟩ r, by rw [List.length_cons, List.length_cons, hl], by rw [List.length_cons, List.length_cons, hl2], fun j k v e => ?_⟩
    cases j with
    | zero =>
      have e' : (u, y) = (k, v) := Option.some.inj e
      cases e'
      exact ⟨p, kv.1, rfl, ht, rfl, kV_is (P := X.prog) (w := X.w) ru⟩
    | succ j =>
      obtain ⟨b, q, h1, h2, h3, h4⟩ := hp j k v (by simpa using e)
      exact ⟨b, q, by simpa using h1, h2, by simpa using h3, h4⟩
def rUpd (K : PySem.W.Frag) : V → List V → Hp → VK → Prop := fun x xs H Q => ∃ (d a : Addr) (kvs : List (Key × V)) (ps : List Addr) (more : List (Key × V)), x = .ref d ∧ xs = [.ref a] ∧ H d = some (.dK kvs) ∧ SqL K H a (ps.map V.ref) ∧ Paired (fun p kv => SqT K H p [kV kv.1, kv.2]) ps more ∧
  kvs.length + more.length ≤ sizeLine ∧ Q .non (upd H d (.dK (mergeK kvs more)))
theorem mtd_update {X : Cx} (hcalm : X.calm = true) : MtR X "dict.update" (rUpd X.K) := by
  intro pins s σ H x xs v us Q I rx rv h
  obtain ⟨d, a, kvs, ps, more, ex, ev, hd, hq, hp, hsz, q⟩ := h
  subst ex ev
  obtain rfl : v = Value.ref d := rx
  obtain ⟨u, eu, ru⟩ := vals1 rv
  subst eu
  cases ru
  obtain ⟨its, rvs, pl, hz⟩ := I.list hq
  have ei := refs_at rvs
  subst ei
  rw [List.length_map] at hz
  obtain ⟨prs, vus, rel, hl, hl2, hpr⟩ := pairs_val I hp
  obtain ⟨z, hdm, vs, relv, dd⟩ := dk_of I.hok hd
  have hcls : ∃ o, s.heap.get? d = some o ∧ o.cls = .type "dict" := by
    obtain ⟨o, ho, hc⟩ := dd.typeIs (s := s)
    exact ⟨o, ho, hc⟩
  obtain ⟨od, hod, hcd⟩ := hcls
  have hTs : ∃ Ts : Nat → Addr, ∀ (j : Nat) (k v : Value), vus[j]? = some (k, v) → ps[j]? = some (Ts j) ∧ s.heap.IsTuple (Ts j) #[k, v] := by
    refine ⟨fun j => (ps[j]?).getD 0, fun j k v e => ?_⟩
    obtain ⟨b, q, h1, h2, _⟩ := hpr j k v e
    simp only [h1, Option.getD_some]
    exact ⟨trivial, h2⟩
  obtain ⟨Ts, hTs⟩ := hTs
  have P := PySem.PairArg.list (prog := X.prog) (w := X.w) a (ps.map Value.ref).toArray Ts vus
  have hmore : more.length = prs.length := rel.length
  refine PySem.call_update_pairs (knd := mixKind X.prog X.w) (acc := vs) (kvs := prs) P (I.ok.hd hcalm) ⟨pl, ?_, fun j k v e => ?_⟩ ?_ ⟨by rw [hl, hl2], fun i key v e => ?_⟩ dd (by rw [← relv.length, hl2, ← hl, ← hmore]; exact hsz) fun h' tk dd' hk => ?_
  · simp [hl2]
  · obtain ⟨h1, h2⟩ := hTs j k v e
    exact ⟨by simp [h1], .inl h2⟩
  · intro hm
    rcases List.mem_cons.mp hm with rfl | hm
    · obtain ⟨o, n, ho, hc, _⟩ := pl
      rw [hod] at ho
      cases ho
      rw [hcd] at hc
      injection hc with hc
      exact absurd hc (by decide)
    · obtain ⟨j, hj, rfl⟩ := List.mem_map.mp hm
      have hj' : j < vus.length := List.mem_range.mp hj
      obtain ⟨⟨k, v⟩, e⟩ : ∃ p, vus[j]? = some p := ⟨vus[j], List.getElem?_eq_getElem hj'⟩
      obtain ⟨o, ho, hc, _⟩ := (hTs j k v e).2
      rw [hod] at ho
      cases ho
      rw [hcd] at hc
      injection hc with hc
      exact absurd hc (by decide)
  · obtain ⟨b, q, h1, h2, h3, h4⟩ := hpr i key v e
    exact ⟨q, h3, h4⟩
  · have hlen : (mergeK kvs more).length ≤ sizeLine := Nat.le_trans (length_mergeK more kvs) hsz
    have he : ∃ q, h'.get? d = some q := let ⟨q, _, _, hq, _⟩ := dd'; ⟨q, hq⟩
    refine ⟨.non, _, I.write (t' := tk) (x := d) (e := d) (by rw [hd]; exact True.intro) (.inl rfl) (fun b o hb e => hk b o hb (fun z => nomatch z) e) he (dk_new hlen hdm (KV.merge rel relv) dd'), rfl, q⟩
/-- the pairs of a list's rows -/
def rowsK : List D → Option (List (Key × D))
  | [] => some []
  | .tuple [.int i, d] :: r => (rowsK r).map ((Sum.inl i, d) :: ·)
  | .tuple [.str i, d] :: r => (rowsK r).map ((Sum.inr i, d) :: ·)
  | _ => none
def updO : List (Key × O) → List (Key × D) → Option (List (Key × O))
  | kvs, [] => some kvs
  | kvs, (k, d) :: r => if leafAt kvs k = true then updO (putO kvs k (.leaf d)) r else none
def gUpdate (o : O) (os : List O) : Option (O × D) := match o, os with
  | .dic kvs, [.ls ts] => (rowsK ts).bind fun more => if kvs.length + more.length ≤ sizeLine then (updO kvs more).map fun kvs' => (.dic kvs', .none) else none
  | _, _ => none
section
variable {K : PySem.W.Frag} {S H : Hp}
theorem rowsK_fz (le : Same S H) : ∀ {ts : List D} {more : List (Key × D)} {vs : List V}, rowsK ts = some more → FzL K S ts vs → ∃ (ps : List Addr) (mv : List (Key × V)), vs = ps.map V.ref ∧ Paired (fun p kv => SqT K H p [kV kv.1, kv.2]) ps mv ∧ Paired (fun a b => a.1 = b.1 ∧ Fz K S a.2 b.2) more mv
  | [], more, vs, e, h => by
    cases e
    have := h.nilE
    subst this
    exact ⟨[], [], rfl, .nil, .nil⟩
  | .tuple [.int i, d] :: r, more, vs, e, h => by
    simp only [rowsK, Option.map_eq_some_iff] at e
    obtain ⟨m, e, rfl⟩ := e
    obtain ⟨v, vr, rfl, h1, h2⟩ := h.inv
    obtain ⟨ps, mv, rfl, h3, h4⟩ := rowsK_fz le e h2
    simp only [Fz] at h1
    obtain ⟨a, ws, rfl, h5, h6⟩ := h1
    obtain ⟨x, wr, rfl, h7, h8⟩ := h6.inv
    obtain ⟨y, wr2, rfl, h9, h10⟩ := h8.inv
    have := h10.nilE
    subst this
    simp only [Fz] at h7
    subst h7
    exact ⟨a :: ps, (Sum.inl i, y) :: mv, rfl, .cons (SqT.of (le _ _ h5)) h3, .cons ⟨rfl, h9⟩ h4⟩
  | .tuple [.str i, d] :: r, more, vs, e, h => by
    simp only [rowsK, Option.map_eq_some_iff] at e
    obtain ⟨m, e, rfl⟩ := e
    obtain ⟨v, vr, rfl, h1, h2⟩ := h.inv
    obtain ⟨ps, mv, rfl, h3, h4⟩ := rowsK_fz le e h2
    simp only [Fz] at h1
    obtain ⟨a, ws, rfl, h5, h6⟩ := h1
    obtain ⟨x, wr, rfl, h7, h8⟩ := h6.inv
    obtain ⟨y, wr2, rfl, h9, h10⟩ := h8.inv
    have := h10.nilE
    subst this
    simp only [Fz] at h7
    subst h7
    exact ⟨a :: ps, (Sum.inr i, y) :: mv, rfl, .cons (SqT.of (le _ _ h5)) h3, .cons ⟨rfl, h9⟩ h4⟩
theorem updO_ow : ∀ {more : List (Key × D)} {mv : List (Key × V)} {kvs kvs' : List (Key × O)} {vs : List (Key × V)} {fr : List Addr}, Paired (fun a b => a.1 = b.1 ∧ Fz K S a.2 b.2) more mv → OwK K S H kvs vs fr → updO kvs more = some kvs' → OwK K S H kvs' (mergeK vs mv) fr
  | [], _, kvs, kvs', vs, fr, .nil, h, e => by
    cases e
    exact h
  | (k, d) :: r, _, kvs, kvs', vs, fr, .cons (b := b) h1 h2, h, e => by
    rw [updO] at e
    split at e
    · rename_i hl
      obtain ⟨e1, e2⟩ := h1
      simp only at e1 e2
      subst e1
      show OwK K S H kvs' (mergeK (putK vs b.1 b.2) _) fr
      exact updO_ow h2 (owK_put e2 h hl) e
    · cases e
theorem rm_update : RM K "dict" (rUpd K) gUpdate := by
  refine ⟨fun S H x o fr os z le w e => ?_, fun S H x o fr os vs fa o' z Q le un nd w wa e k => ?_⟩
  · unfold gUpdate at e
    split at e
    · simp only [Ow] at w
      obtain ⟨a, vs, fr', rfl, rfl, h1, h2⟩ := w
      exact .inr (.inr (.inl ⟨rfl, .inl ⟨vs, h2⟩⟩))
    · cases e
  · unfold gUpdate at e
    split at e
    · simp only [Option.bind_eq_some_iff] at e
      obtain ⟨more, h3, h4⟩ := e
      split at h4
      · rename_i hsz
        simp only [Option.map_eq_some_iff, Prod.mk.injEq] at h4
        obtain ⟨kvs', h5, rfl, rfl⟩ := h4
        simp only [Ow] at w
        obtain ⟨a, kv, fr', rfl, rfl, h1, h2⟩ := w
        obtain ⟨y, yr, f1, f2, rfl, rfl, w1, w2⟩ := wa
        obtain ⟨rfl, rfl⟩ := w2
        obtain ⟨b, ws, rfl, h6, rfl, h7⟩ := ow_lsE w1
        obtain ⟨ps, mv, rfl, h8, h9⟩ := rowsK_fz le h3 h7
        have hlen : mv.length = more.length := h9.length.symm
        have hna : a ∉ fr' := (List.nodup_cons.mp nd).1
        refine ⟨a, b, kv, ps, mv, rfl, rfl, h2, SqL.of h6, h8, ?_, ?_⟩
        · have e1 := congrArg List.length (owK_keys h1)
          rw [List.length_map, List.length_map] at e1
          rw [e1, hlen]
          exact hsz
        · refine k _ _ (fun c hc => upd_ne fun z => hc (by rw [z]; exact List.mem_cons_self)) (fun c hc => ?_) ?_ (by simp only [Fz])
          · by_cases hca : c = a
            · subst hca
              exact liv_upd rfl
            · refine Liv.eq ?_ (upd_ne hca)
              rcases List.mem_cons.mp hc with z | z
              · exact absurd z hca
              · exact h1.some c z
          · simp only [Ow]
            exact ⟨a, _, fr', rfl, rfl, (updO_ow h9 h1 h5).keep (Same.refl _) (fun c hc => upd_ne fun z => hna (by rw [← z]; exact hc)), upd_same⟩
      · cases h4
    · cases e
end
/-! ### the keys of a dict as a list -/
def keyT : Key → D
  | .inl i => .int i
  | .inr x => .str x
def oListK : O → Option O
  | .dic kvs => some (.ls (kvs.map fun kv => keyT kv.1))
  | _ => none
theorem keys_fz {K : PySem.W.Frag} {S H : Hp} : ∀ {kvs : List (Key × O)} {vs : List (Key × V)} {fr : List Addr}, OwK K S H kvs vs fr → FzL K S (kvs.map fun kv => keyT kv.1) (vs.map fun kv => kV kv.1)
  | [], vs, fr, h => by
    simp only [OwK] at h
    rw [h.1]
    exact FzL.nil
  | (k, o) :: r, vs, fr, h => by
    simp only [OwK] at h
    obtain ⟨v, vr, f1, f2, rfl, rfl, h1, h2⟩ := h
    refine FzL.cons ?_ (keys_fz h2)
    cases k <;> simp only [keyT, kV, Fz]
theorem ro_listK {K : PySem.W.Frag} : RO1 K (fun x => rListD [x]) oListK := by
  intro S H x o fr z Q le w e k
  unfold oListK at e
  split at e
  · cases e
    simp only [Ow] at w
    obtain ⟨a, vs, fr', rfl, rfl, h1, h2⟩ := w
    exact ⟨a, vs, rfl, h2, newL le (keys_fz h1) rfl k⟩
  · cases e
section
variable {kvs : List (Key × O)} {Q : O → Prop}
theorem p_listK : Op1 oListK (.dic kvs) Q ↔ Q (.ls (kvs.map fun kv => keyT kv.1)) := Iff.rfl
end
/-! a dict of numbers that are there -/
def dicO (ns : List Int) : O := .dic (ns.map fun i => ((Sum.inl i : Key), O.leaf (.bool true)))
theorem putO_dic {ns : List Int} {i : Int} : putO (ns.map fun i => ((Sum.inl i : Key), O.leaf (.bool true))) (.inl i) (.leaf (.bool true)) = (if i ∈ ns then ns else ns ++ [i]).map fun i => ((Sum.inl i : Key), O.leaf (.bool true)) := by
  unfold putO
  have e : ((ns.map fun i => ((Sum.inl i : Key), O.leaf (.bool true))).any fun kv => decide (kv.1 = (Sum.inl i : Key))) = decide (i ∈ ns) := by
    rw [List.any_map]
    induction ns with
    | nil => rfl
    | cons a r ih =>
      rw [List.any_cons, ih]
      by_cases h : a = i
      · simp [h]
      · have h' : ¬ i = a := fun z => h z.symm
        simp [h, h']
  rw [e]
  by_cases h : i ∈ ns
  · simp only [h, decide_true, if_true]
    rw [List.map_map]
    apply List.map_congr_left
    intro a ha
    simp only [Function.comp_apply]
    split
    · rfl
    · rfl
  · simp only [h, decide_false, Bool.false_eq_true, if_false]
    rw [List.map_append]
    rfl
def addN (ns : List Int) (i : Int) : List Int := if i ∈ ns then ns else ns ++ [i]
theorem addN_len {ns : List Int} {i : Int} : (addN ns i).length ≤ ns.length + 1 := by
  unfold addN
  split
  · omega
  · rw [List.length_append]
    exact Nat.le_refl _
theorem leafAt_dic {ns : List Int} {k : Key} : leafAt (ns.map fun i => ((Sum.inl i : Key), O.leaf (.bool true))) k = true := by
  unfold leafAt
  rw [List.all_eq_true]
  intro kv hkv
  obtain ⟨i, _, rfl⟩ := List.mem_map.mp hkv
  split <;> rfl
theorem updO_dic : ∀ {is : List Int} {ns : List Int}, updO (ns.map fun i => ((Sum.inl i : Key), O.leaf (.bool true))) (is.map fun i => ((Sum.inl i : Key), PyData.bool true)) = some ((is.foldl addN ns).map fun i => ((Sum.inl i : Key), O.leaf (.bool true)))
  | [], ns => rfl
  | i :: r, ns => by
    rw [List.map_cons, updO, if_pos leafAt_dic, putO_dic, List.foldl_cons]
    exact updO_dic
theorem rowsK_dic : ∀ {is : List Int}, rowsK (is.map fun i => PyData.tuple [.int i, .bool true]) = some (is.map fun i => ((Sum.inl i : Key), PyData.bool true))
  | [] => rfl
  | i :: r => by
    rw [List.map_cons, rowsK, rowsK_dic]
    rfl
theorem foldl_addN_len : ∀ {is ns : List Int}, (is.foldl addN ns).length ≤ ns.length + is.length
  | [], ns => by simp
  | i :: r, ns => by
    have h1 := foldl_addN_len (is := r) (ns := addN ns i)
    have h2 := addN_len (ns := ns) (i := i)
    rw [List.foldl_cons, List.length_cons]
    omega
theorem upd_core {is ns : List Int} (h : ns.length + is.length ≤ 1000000) : gUpdate (dicO ns) [.ls (is.map fun i => PyData.tuple [.int i, .bool true])] = some (dicO (is.foldl addN ns), .none) := by
  unfold gUpdate dicO
  simp only [rowsK_dic, Option.bind_some, List.length_map, updO_dic, Option.map_some]
  rw [if_pos (Nat.le_trans h (by decide))]
theorem p_update {is ns : List Int} {P : O → D → Prop} (h : ns.length + is.length ≤ 1000000) (k : P (dicO (is.foldl addN ns)) .none) : OpM gUpdate (dicO ns) [.ls (is.map fun i => PyData.tuple [.int i, .bool true])] P := by
  unfold OpM
  rw [upd_core h]
  exact k
theorem p_updateS {is ns : List Int} (h : ns.length + is.length ≤ 1000000) : (gUpdate (dicO ns) [.ls (is.map fun i => PyData.tuple [.int i, .bool true])]).isSome = true := by
  rw [upd_core h]
  rfl
theorem dicO_list {ns : List Int} {Q : O → Prop} : Op1 oListK (dicO ns) Q ↔ Q (.ls (ns.map .int)) := by
  unfold dicO
  rw [p_listK, List.map_map]
  exact Iff.rfl
theorem w_dicO {i : Int} {env : Mv.Env} {Q : O → Mv.Env → Prop} : We (dispE [⟨.inl i, true, (cstE (.bool true))⟩]) env Q ↔ Q (dicO [i]) env := by
  unfold We dispE
  rw [if_pos (by simp)]
  exact Iff.rfl
end Mv

set_option Elab.async false
set_option linter.all false
set_option maxRecDepth 100000
set_option maxHeartbeats 2000000
namespace Mv
open PySem PySem.Spec PyProof.Rows L2
theorem cutG_to {ts : List D} {i : Int} (h : 0 ≤ i) : Mv.cutD ts none (some i) = ts.take i.toNat := by
  unfold Mv.cutD
  have h1 : HT.sIx ts.length 0 none = 0 := rfl
  rw [h1, sIx_lo h]
  simp only [List.drop_zero, Nat.sub_zero]
  rw [List.take_eq_take_iff]
  omega
theorem cutG_from {ts : List D} {i : Int} (h : 0 ≤ i) : Mv.cutD ts (some i) none = ts.drop i.toNat := by
  unfold Mv.cutD
  have h1 : HT.sIx ts.length ts.length none = ts.length := rfl
  rw [h1, sIx_lo0 h]
  by_cases hn : i.toNat ≤ ts.length
  · rw [Nat.min_eq_left hn]
    rw [List.take_of_length_le (by rw [List.length_drop]; omega)]
  · rw [Nat.min_eq_right (by omega), Nat.sub_self, List.take_zero, List.drop_eq_nil_of_le (by omega)]
theorem slc_toG {ts : List D} {i : Int} {P : O → Prop} (h : 0 ≤ i) (k : P (.ls (ts.take i.toNat))) : Slc (.leaf (.list ts)) (.leaf .none) (.leaf (.int i)) P := by
  show O1 (some (O.ls (Mv.cutD ts none (some i)))) P
  rw [cutG_to h]
  exact k
theorem slc_fromG {ts : List D} {i : Int} {P : O → Prop} (h : 0 ≤ i) (k : P (.ls (ts.drop i.toNat))) : Slc (.leaf (.list ts)) (.leaf (.int i)) (.leaf .none) P := by
  show O1 (some (O.ls (Mv.cutD ts (some i) none))) P
  rw [cutG_from h]
  exact k
theorem at2 {i : Int} {a b : D} {P : D → Prop} (h : 0 ≤ i) (h2 : i < 2) (k : ∀ d, d = a ∨ d = b → P d) : At [a, b] i P := by
  have : i = 0 ∨ i = 1 := by omega
  rcases this with rfl | rfl
  · exact k a (.inl rfl)
  · exact k b (.inr rfl)
section
variable {p : Int × Int} {Q : O → Prop} {a b : Str}
theorem p_isTp : Op1 (vw1 (isaI .tuple)) (.leaf (pD p)) Q ↔ Q (.leaf (.bool true)) := p_isa (n := 1) (by decide) okz_pair
theorem p_lenp : Op1 oLen (.leaf (pD p)) Q ↔ Q (.leaf (.int 2)) := Iff.rfl
theorem itm_p {P : List D → Prop} : Itm (.leaf (pD p)) P ↔ P ([p.1, p.2].map .int) := Iff.rfl
theorem p_neBs {b : Bool} : Op2 (vw2 (eqI true)) (.leaf (.bool b)) (.leaf (.bool b)) Q ↔ Q (.leaf (.bool false)) := by cases b <;> exact Iff.rfl
/-- lists of pairs that are the same -/
theorem eqP {neg : Bool} {a b : O} {l m : List Rg} (ha : a.frz = some (.list (l.map pD))) (hb : b.frz = some (.list (m.map pD))) (e : l = m) (hl : l.length ≤ 1000000) (k : Q (.leaf (.bool !neg))) : Op2 (vw2 (eqI neg)) a b Q := by
  subst e
  exact frz_eqE ha hb (n := 2) (by decide) (okz_pairs hl) k
theorem sz {n : Nat} (h : n ≤ 100000) : n ≤ sizeLine := Nat.le_trans h (by decide)
theorem eqv_str : PyData.eqv (.str a) (.str b) = decide (a = b) := by
  show (a == b) = _
  rw [Bool.eq_iff_iff, decide_eq_true_iff]
  exact beq_iff_eq
theorem p_eqS : Op2 (vw2 (eqI false)) (.leaf (.str a)) (.leaf (.str b)) Q ↔ Q (.leaf (.bool (decide (a = b)))) := by
  refine vw2_of rfl rfl ?_ rfl
  unfold eqI
  rw [show (okd 50 (.str a) && okd 50 (.str b)) = true from rfl, if_pos rfl, eqv_str]
  rfl
theorem p_neS : Op2 (vw2 (eqI true)) (.leaf (.str a)) (.leaf (.str b)) Q ↔ Q (.leaf (.bool (!decide (a = b)))) := by
  refine vw2_of rfl rfl ?_ rfl
  unfold eqI
  rw [show (okd 50 (.str a) && okd 50 (.str b)) = true from rfl, if_pos rfl, eqv_str]
  rfl
theorem line_racks : decide (("line" : Str) = ("racks" : Str)) = false := by decide +kernel
theorem racks_line : decide (("racks" : Str) = ("line" : Str)) = false := by decide +kernel
end
/-! ''.join -/
def Jn (g : Str → O → Option D) (a : Str) (r : O) (Q : D → Prop) (_h : Hold Q := ⟨⟩) : Prop := O1 (g a r) fun z => flatD z = true ∧ Q z
def Sv (o : O) (Q : Str → Prop) (_h : Hold Q := ⟨⟩) : Prop := match o with
  | .leaf (.str a) => Q a
  | _ => False
theorem sv_s {a : Str} {Q : Str → Prop} : Sv (.leaf (.str a)) Q ↔ Q a := Iff.rfl
theorem w_strM {f1 f2 : ESem} {g : Str → O → Option D} {env : Mv.Env} {Q : O → Mv.Env → Prop} : We (strM f1 f2 g) env Q ↔ We f1 env fun o e => Sv o fun a => We f2 e fun r e2 => Jn g a r fun z => Q (.leaf z) e2 := by
  unfold We strM Sv Jn
  cases h : f1 env with
  | none => exact Iff.rfl
  | some p =>
    obtain ⟨o, e⟩ := p
    simp only [Option.bind_some, o2_s]
    cases o with
    | leaf t =>
      cases t with
      | str a =>
        simp only
        cases h2 : f2 e with
        | none => exact Iff.rfl
        | some r =>
          simp only [Option.bind_some, o2_s]
          cases h3 : g a r.1 with
          | none => exact Iff.rfl
          | some z =>
            simp only [Option.bind_some, o1_s]
            by_cases h4 : flatD z = true
            · rw [if_pos h4]
              simp only [h4, true_and]
              exact Iff.rfl
            · rw [if_neg h4, o2_n]
              exact ⟨fun z => z.elim, fun z => h4 z.1⟩
      | _ => exact Iff.rfl
    | _ => exact Iff.rfl
end Mv

set_option Elab.async false
set_option linter.all false
set_option maxRecDepth 100000
set_option maxHeartbeats 2000000
namespace Mv
open PySem PySem.Spec PyProof.Rows L2
/-! ### batches: plain data -/
inductive Ps where
  | ln (pl : Str) (st lg dv : Int)
  | rk (pl : Str) (per : Int) (ss : List Rg)
def Ps.pl : Ps → Str
  | .ln p _ _ _ => p
  | .rk p _ _ => p
def Ps.kd : Ps → Str
  | .ln _ _ _ _ => "line"
  | .rk _ _ _ => "racks"
def encP : Ps → D
  | .ln p s l d => .tuple [.str "line", .str p, .int s, .int l, .int d]
  | .rk p per ss => .tuple [.str "racks", .str p, .int per, .list (ss.map pD)]
/-- a pass as it is handed in: its stays a list or a tuple -/
def HandP (t : D) : Ps → Prop
  | .ln p s l d => t = .tuple [.str "line", .str p, .int s, .int l, .int d]
  | .rk p per ss => t = .tuple [.str "racks", .str p, .int per, .list (ss.map pD)] ∨ t = .tuple [.str "racks", .str p, .int per, .tuple (ss.map pD)]
def GoodP (tins : Int) : Ps → Prop
  | .ln _ s l d => 0 ≤ s ∧ s < 1000000000000000000000000000000 ∧ 0 ≤ l ∧ l < 1000000000000000000000000000000 ∧ 0 < d ∧ d ≤ 1000000000000000000000000000000
  | .rk _ per ss => 0 < per ∧ per ≤ 10000000000000000000000000000000 ∧ (ss.length : Int) = (tins + per - 1) / per ∧ ss.length ≤ 12 ∧ ∀ p ∈ ss, 0 ≤ p.1 ∧ p.1 ≤ p.2 ∧ p.2 < 2000000000000000000000000000000000000000
def fnd (pl : Str) (ps : List Ps) : Option Ps := ps.find? fun p => decide (p.pl = pl)
/-- the minutes of a tin at a pass -/
def winP (tin : Int) : Ps → Option Rg
  | .ln _ s l d => some (s + tin * l / d, s + tin * l / d)
  | .rk _ per ss => ss[(tin / per).toNat]?
def win (pl : Str) (ps : List Ps) (tin : Int) : Option Rg := (fnd pl ps).bind (winP tin)
def ogD : Option Rg → D
  | none => .none
  | some p => pD p
/-! lists for tuples, throughout -/
mutual
def lsD : D → D
  | .list ts => .list (lsDA ts)
  | .tuple ts => .list (lsDA ts)
  | t => t
def lsDA : List D → List D
  | [] => []
  | t :: r => lsD t :: lsDA r
end
end Mv

set_option Elab.async false
set_option linter.all false
set_option maxRecDepth 100000
set_option maxHeartbeats 2000000
namespace Mv
open PySem PySem.Spec PyProof.Rows L2 RZ
open Sem (wp)
open AutoSeq1 (wpAny_loadPart')
/-! ### enumerate over a tuple -/
/-- the tuple at a, each item in a new pair -/
def IteT (K : PySem.W.Frag) (a : Addr) : It :=
  ⟨fun i H => ∃ (xs : List V) (x : V), SqT K H a xs ∧ xs[i]? = some x, fun i H v H' => ∃ T x, v = .ref T ∧ H T = none ∧ H' = upd H T (.tup [.int (i : Nat), x]) ∧ ∀ xs, SqT K H a xs → xs[i]? = some x, fun i H => ∃ xs : List V, SqT K H a xs ∧ xs.length ≤ i⟩
def iEnumA (K : PySem.W.Frag) (ta : TA) : TI := fun σ H R => ta σ H fun vs H1 => ∃ a xs, vs = [.ref a] ∧ ((SqL K H1 a xs ∧ R (Ite K a) H1) ∨ (SqT K H1 a xs ∧ R (IteT K a) H1))
def enumA (g : ASem) : ISem := fun env => (g env).bind fun p => match p.1 with
  | [o] => (seqO o).map fun ts => (enumD ts, p.2)
  | _ => none
section
variable {K : PySem.W.Frag} {S0 H0 : Hp} {a : Addr} {ts : List D} {vs : List V}
end
section
variable {X : Cx} {e : Expr} {g : ASem} {q : Bool} {pos p tpos : Pos} {elts : List Expr} {kk : Nat}
end
/-! the plain side -/
def EnmA (os : List O) (Q : List D → Prop) (_h : Hold Q := ⟨⟩) : Prop := match os with
  | [o] => O1 (seqO o) fun ts => Q (enumD ts)
  | _ => False
theorem w_enumA {g : ASem} {env : Mv.Env} {Q : List D → Mv.Env → Prop} : Wi (enumA g) env Q ↔ Wa g env fun os e => EnmA os fun ts => Q ts e := by
  unfold Wi Wa enumA EnmA
  cases h : g env with
  | none => exact Iff.rfl
  | some p =>
    obtain ⟨os, e⟩ := p
    simp only [Option.bind_some, o2_s]
    cases os with
    | nil => exact Iff.rfl
    | cons o r =>
      cases r with
      | nil =>
        simp only
        cases h2 : seqO o <;> exact Iff.rfl
      | cons _ _ => exact Iff.rfl
theorem enma_l {ts : List D} {Q : List D → Prop} : EnmA [.leaf (.list ts)] Q ↔ Q (enumD ts) := Iff.rfl
theorem enma_t {ts : List D} {Q : List D → Prop} : EnmA [.leaf (.tuple ts)] Q ↔ Q (enumD ts) := Iff.rfl
theorem enma_o {ts : List D} {Q : List D → Prop} : EnmA [.ls ts] Q ↔ Q (enumD ts) := Iff.rfl
end Mv

set_option Elab.async false
set_option linter.all false
set_option maxRecDepth 100000
set_option maxHeartbeats 2000000
namespace Mv
open PySem PySem.Spec PyProof.Rows L2
/-! ### calls whose arguments are frozen change nothing; a thing of one's own that is lent -/
def tCQ (K : PySem.W.Frag) (f : Mv.Env → Option (List Item × Mv.Env)) : TA := fun σ H Q => ∃ env S fp items env', Rel K env σ S H fp ∧ f env = some (items, env') ∧
  ∀ vs S' H', Rel K env σ S' H' fp → Evo S H fp S' H' fp → KS H H' → ItA K S' H' σ items vs [] → Q vs H'
structure SCQ (X : Cx) (es : List Expr) (args : List Arg) : Prop where
  pa : PA X es (tCQ X.K (evA args))
  qf : ∀ env items env', evA args env = some (items, env') → env' = env ∧ ∀ it ∈ items, ∃ t, it = .inl (.leaf t)
section
variable {X : Cx} {e : Expr} {es : List Expr} {f : ESem} {m : Bool} {args : List Arg} {pos : Pos}
end
/-! a thing of one's own, lent to what changes nothing -/
def flatO : O → Bool
  | .leaf t => flatD t
  | _ => false
def borE (i : Nat) (f : ESem) : ESem := fun env => match env[i]? with
  | some (some o) => o.frz.bind fun t => (f (env.set i (some (.leaf t)))).bind fun p => if flatO p.1 = true then some (p.1, env) else none
  | _ => none
theorem w_bor {i : Nat} {f : ESem} {env : Mv.Env} {Q : O → Mv.Env → Prop} : We (borE i f) env Q ↔ Sl env i fun o => Mv.Fr o fun t => We f (env.set i (some (.leaf t))) fun r _ => flatO r = true ∧ Q r env := by
  unfold We borE Sl
  cases q : env[i]? with
  | none => exact Iff.rfl
  | some oo =>
    cases oo with
    | none => exact Iff.rfl
    | some o =>
      simp only [Option.join_some, o1_s]
      unfold Mv.Fr
      cases q2 : o.frz with
      | none => exact Iff.rfl
      | some t =>
        simp only [Option.bind_some, o1_s]
        cases q3 : f (env.set i (some (.leaf t))) with
        | none => exact Iff.rfl
        | some p =>
          simp only [Option.bind_some, o2_s]
          by_cases h : flatO p.1 = true
          · rw [if_pos h]
            exact ⟨fun z => ⟨h, z⟩, fun z => z.2⟩
          · rw [if_neg h]
            exact ⟨fun z => z.elim, fun z => h z.1⟩
theorem fl_b {b : Bool} : flatO (.leaf (.bool b)) = true ↔ True := by simp [flatO, flatD]
theorem fl_i {b : Int} : flatO (.leaf (.int b)) = true ↔ True := by simp [flatO, flatD]
theorem fl_n : flatO (.leaf .none) = true ↔ True := by simp [flatO, flatD]
theorem fl_s {b : Str} : flatO (.leaf (.str b)) = true ↔ True := by simp [flatO, flatD]
end Mv

set_option Elab.async false
set_option linter.all false
set_option maxRecDepth 100000
set_option maxHeartbeats 2000000
namespace Mv
open PySem PySem.Spec PyProof.Rows L2
/-! ### the tins that are there within minutes: plain mathematics -/
/-- the window meets the minutes -/
def mtW (w : Option Rg) (first : Int) (last : Option Int) : Bool := match w with
  | none => false
  | some w => (match last with | none => true | some l => decide (first ≤ l) && decide (w.1 ≤ l)) && decide (first ≤ w.2)
/-- the first tin that is there at a minute or behind it -/
def fta (tins s l d m : Int) : Int := if m ≤ s then 0 else if l = 0 then tins else ((m - s) * d + l - 1) / l
def behind (tins s l d : Int) : Option Int → Int
  | none => tins
  | some m => min tins (fta tins s l d (m + 1))
/-- the tins of the racks that meet the minutes -/
def rkL (tins per first : Int) (last : Option Int) : Nat → List Rg → List Rg
  | _, [] => []
  | k, p :: r => if mtW (some p) first last = true then ((k : Int) * per, min tins ((k : Int) * per + per) - 1) :: rkL tins per first last (k + 1) r else rkL tins per first last (k + 1) r
/-- a set of the tins that meet -/
def Ta (S : List Rg) (tins : Int) (pl : Str) (ps : List Ps) (first : Int) (last : Option Int) : Prop := Cn S ∧ (∀ x, Has S x ↔ (0 ≤ x ∧ x < tins) ∧ mtW (win pl ps x) first last = true) ∧ S.length ≤ 100
theorem Ta.eq {S T : List Rg} {tins : Int} {pl : Str} {ps : List Ps} {first : Int} {last : Option Int} (h : Ta S tins pl ps first last) (h2 : Ta T tins pl ps first last) : S = T := cn_ext h.1 h2.1 fun x => by rw [h.2.1, h2.2.1]
end Mv

set_option Elab.async false
set_option linter.all false
set_option maxRecDepth 100000
set_option maxHeartbeats 2000000
namespace Mv
open PySem PySem.Spec PyProof.Rows L2
local macro_rules | `(tactic| walk_at "mv") => `(tactic| try simp only [↓w_cst, ↓w_var, ↓w_mv, ↓w_fz, ↓w_frz, ↓w_bin, ↓w_un, ↓w_binV, ↓w_if, ↓w_asB, ↓w_yes, ↓w_not, ↓w_and, ↓w_or, ↓w_andE, ↓w_orE, ↓w_notE, ↓w_chain, ↓w_nil, ↓w_cons, ↓w_tup, ↓w_lst, ↓w_pl, ↓w_mut, ↓w_c0, ↓w_ce, ↓w_cv, ↓w_call', ↓wb_0, ↓wb_e, ↓wb_v, wb_e', ↓wo_leaf, ↓wo_ls, ↓wo_dic, ↓wo_dct, ↓wo_st, ↓wo_s, own_0, own_s, oi_0, oi_e, oi_v, isl_st, isl_leaf, isl_ls, Bool.not_false, Bool.not_true, List.nodup_cons, List.nodup_nil, List.not_mem_nil, not_false_eq_true, ↓w_seq, ↓w_skip, ↓w_brk, ↓w_cont, ↓w_retN, ↓w_set, ↓w_drop, ↓w_ret, ↓w_retV, ↓w_ifS, ↓w_fzS, ↓w_asg, ↓w_gN, ↓w_gT, ↓w_gNl, ↓w_gCn, ↓w_gSub, ↓w_par, ↓w_aug, ↓w_int, ↓w_slice, ↓w_rng1, ↓w_rng2, ↓w_seqI, ↓w_comp, ↓w_for,
  ↓sl_0, ↓sl_s, ↓fr_leaf, ↓fr_ls, ↓ok_t, ↓ok_l, ↓br_t, ↓br_f, decide_true, decide_false, Int.reduceEq, ↓bl_b, ↓il_b, ↓le_l, ↓gp_top, ↓cl_0, ↓cl_e, ↓cl_v, ↓nxt_nx, ↓nxt_rt, ↓nxt_bk, ↓nxt_ct, ↓sa_0, ↓sa_s, ↓rg1_i, ↓rg2_i, ↓itm_l, ↓itm_t, ↓itm_o, ↓fin_rt, ↓fin_nx, ↓lpk_nx, ↓lpk_ct, ↓lpk_bk, ↓lpk_rt, ↓wcl_nil, ↓wf_nil,
  ↓p_sub, ↓p_add, ↓p_ipadd, ↓p_mul, ↓p_div, ↓p_mod, ↓p_pow, ↓p_neg, ↓p_eq, ↓p_ne, ↓p_lt, ↓p_gt, ↓p_le, ↓p_ge, ↓p_max, ↓p_min, ↓p_abs, ↓p_intI, ↓p_intB, ↓p_isaI, ↓p_isaB, ↓p_isaNI, ↓p_isNI, ↓p_isNN, ↓p_divmod, ↓p_catL, ↓p_catLl, ↓p_catlL, ↓p_catll, ↓p_len, ↓p_lenl, ↓p_lent, ↓p_list, ↓p_listl, ↓p_listt, ↓p_tuple, ↓p_tuplel, ↓p_tuplet, ↓p_rev, ↓p_revl, ↓p_ix, ↓p_ixl, ↓p_ixt, ↓p_append, ↓p_reverse,
  ↓gp_cells, ↓gp_turn, ↓put_turn, ↓put_cells, ↓putP_top, wipeE, lv_0, lv_s,
  List.set_cons_zero, List.set_cons_succ, List.length_cons, List.length_nil, List.map_cons, List.map_nil, finR, List.replicate, List.replicate_succ, List.replicate_zero, List.cons_append, List.nil_append, true_and, and_true, List.tail_cons, List.head?_cons, Option.join_some, List.contains_nil, Bool.false_eq_true, if_false, if_true, List.all_nil, and_self, Int.reduceToNat, Int.reducePow, Nat.reduceSub, Nat.reduceAdd, Int.reduceAdd, Int.reduceMul, Int.reduceSub, Int.reduceNeg, Int.reduceLT, Int.reduceLE, Int.natAbs, Nat.reduceLT, Nat.reduceLeDiff, Nat.reducePow])
local macro_rules | `(tactic| walk_at "mv1") => `(tactic| try simp only [↓ok_t, ↓ok_l, ↓nxt_nx, ↓nxt_rt, ↓w_seq, ↓fin_rt, ↓fin_nx, ↓lpk_nx, ↓lpk_ct, ↓lpk_bk, ↓lpk_rt, wipeE, List.set_cons_zero, List.set_cons_succ, true_and, and_true])
/-! ### greater numbers -/
/-! a batch moved in time -/
def GoodT : Ps → Prop
  | .ln _ s l d => 0 ≤ s ∧ s < 10000000000000000000000000000000 ∧ 0 ≤ l ∧ l < 1000000000000000000000000000000 ∧ 0 < d ∧ d ≤ 1000000000000000000000000000000
  | .rk _ per ss => 0 < per ∧ per ≤ 10000000000000000000000000000000 ∧ ss.length ≤ 12
theorem GoodP.t {tins : Int} {p : Ps} (h : GoodP tins p) : GoodT p := by
  cases p with
  | ln a s l d =>
    obtain ⟨h1, h2, h3, h4, h5, h6⟩ := h
    exact ⟨h1, by omega, h3, h4, h5, h6⟩
  | rk a per ss =>
    obtain ⟨h1, h2, h3, h4, h5⟩ := h
    exact ⟨h1, h2, h4⟩
def shR (by' : Int) (p : Rg) : Rg := (p.1 + by', p.2 + by')
def shP (by' : Int) : Ps → Ps
  | .ln a s l d => .ln a (s + by') l d
  | .rk a per ss => .rk a per (ss.map (shR by'))
end Mv
set_option Elab.async false
set_option linter.all false
set_option maxRecDepth 100000
set_option maxHeartbeats 2000000
namespace Mv
open PySem PySem.Spec PyProof.Rows L2
/-! ### extend by a list or a tuple, its own or frozen -/
def rExtA (K : PySem.W.Frag) : V → List V → Hp → VK → Prop := fun x vs H Q => ∃ l b xs zs, x = .ref l ∧ vs = [.ref b] ∧ H l = some (.lst xs) ∧ (SqL K H b zs ∨ SqT K H b zs) ∧ xs.length + zs.length ≤ sizeLine ∧ Q .non (upd H l (.lst (xs ++ zs)))
def gExtA (o : O) (os : List O) : Option (O × D) := match o, os with
  | .ls ts, [p] => (seqO p).bind fun us => if ts.length + us.length ≤ 16000000 then some (.ls (ts ++ us), .none) else none
  | _, _ => none
section
variable {ts us : List D} {P : O → D → Prop} {p : O}
theorem p_extA {P : O → D → Prop} : OpM gExtA (.ls ts) [.ls us] P ↔ ts.length + us.length ≤ 16000000 ∧ P (.ls (ts ++ us)) .none := by
  have e : seqO (.ls us) = some us := rfl
  by_cases h : ts.length + us.length ≤ 16000000 <;> simp [OpM, gExtA, h, O2, e]
theorem p_extAl {P : O → D → Prop} : OpM gExtA (.ls ts) [.leaf (.list us)] P ↔ ts.length + us.length ≤ 16000000 ∧ P (.ls (ts ++ us)) .none := by
  have e : seqO (.leaf (.list us)) = some us := rfl
  by_cases h : ts.length + us.length ≤ 16000000 <;> simp [OpM, gExtA, h, O2, e]
theorem p_extAS : (gExtA (.ls ts) [.ls us]).isSome = true ↔ ts.length + us.length ≤ 16000000 := by
  have e : seqO (.ls us) = some us := rfl
  by_cases h : ts.length + us.length ≤ 16000000 <;> simp [gExtA, h, e]
theorem p_extASl : (gExtA (.ls ts) [.leaf (.list us)]).isSome = true ↔ ts.length + us.length ≤ 16000000 := by
  have e : seqO (.leaf (.list us)) = some us := rfl
  by_cases h : ts.length + us.length ≤ 16000000 <;> simp [gExtA, h, e]
end
end Mv

set_option Elab.async false
set_option linter.all false
set_option maxRecDepth 100000
set_option maxHeartbeats 2000000
namespace Mv
open PySem PySem.Spec PyProof.Rows L2
/-! ### faults: what they reach, plain mathematics -/
structure Fa where
  pl : Str
  first : Int
  last : Int
  racks : List Int
def encF (f : Fa) : D := .tuple [.str f.pl, .int f.first, .int f.last, .list (f.racks.map .int)]
def HandF (t : D) (f : Fa) : Prop := ∃ o, (o = .list (f.racks.map .int) ∨ o = .tuple (f.racks.map .int)) ∧ t = .tuple [.str f.pl, .int f.first, .int f.last, o]
def GoodF (f : Fa) : Prop := (0 ≤ f.first ∧ f.first < 100000000000000000000000000000000000000000000000000000000000000000000000) ∧ (0 ≤ f.last ∧ f.last < 100000000000000000000000000000000000000000000000000000000000000000000000) ∧ f.racks.length ≤ 100 ∧ ∀ r ∈ f.racks, 0 ≤ r
def behd (first : Int) : Option Int → Bool
  | none => false
  | some m => decide (m < first)
def taS (tins : Int) (pl : Str) (ps : List Ps) (first : Int) (last : Option Int) : List Rg := if behd first last = true then [] else match fnd pl ps with
  | none => []
  | some (.ln _ s l d) => setOf [(fta tins s l d first, behind tins s l d last - 1)]
  | some (.rk _ per ss) => setOf (rkL tins per first last 0 ss)
def tor (tins per : Int) (n : Nat) (rs : List Int) : List Rg := (rs.filter fun r => decide (r < (n : Int))).map fun r => (r * per, min tins (r * per + per) - 1)
def torS (tins : Int) (pl : Str) (ps : List Ps) (rs : List Int) : List Rg := match fnd pl ps with
  | some (.rk _ per ss) => setOf (tor tins per ss.length rs)
  | _ => []
def RackOk (ps : List Ps) (f : Fa) (x : Int) : Prop := f.racks = [] ∨ ∃ a per ss, fnd f.pl ps = some (.rk a per ss) ∧ x / per ∈ f.racks
def FR (tins : Int) (ps : List Ps) (f : Fa) (x : Int) : Prop := (0 ≤ x ∧ x < tins) ∧ mtW (win f.pl ps x) f.first (some f.last) = true ∧ RackOk ps f x
def rb (tins : Int) (ps : List Ps) (f : Fa) : List Rg := if f.racks = [] then taS tins f.pl ps f.first (some f.last) else bo (taS tins f.pl ps f.first (some f.last)) (torS tins f.pl ps f.racks)
/-- what faults reach of a batch -/
def fset (tins : Int) (ps : List Ps) (fs : List Fa) : List Rg := setOf (fs.flatMap (rb tins ps))
def encB (mk : Str) (tins : Int) (ps : List Ps) : D := .tuple [.str mk, .int tins, .list (ps.map encP)]
/-- a batch as it is handed in -/
def HB (t : D) (mk : Str) (tins : Int) (ps : List Ps) : Prop := ∃ (o : D) (hs : List (D × Ps)), t = .tuple [.str mk, .int tins, o] ∧ (o = .list (hs.map (·.1)) ∨ o = .tuple (hs.map (·.1))) ∧ (∀ y ∈ hs, HandP y.1 y.2) ∧ hs.map (·.2) = ps
def RF (r : D) (f : Option Ps) : Prop := match f with
  | none => r = .none
  | some p => HandP r p
/-- a batch as plain data -/
structure Ba where
  nm : Str
  tins : Int
  ps : List Ps
def encBa (b : Ba) : D := encB b.nm b.tins b.ps
def HBa (t : D) (b : Ba) : Prop := HB t b.nm b.tins b.ps
def GoodBa (b : Ba) : Prop := 0 < b.tins ∧ b.tins ≤ 1000000000000000000000000000000 ∧ ∀ p ∈ b.ps, GoodP b.tins p
/-- the rows of what faults reach -/
def rrows (fs : List Fa) : List Ba → List (Str × List Rg)
  | [] => []
  | b :: r => if fset b.tins b.ps fs = [] then rrows fs r else (b.nm, fset b.tins b.ps fs) :: rrows fs r
def mkD (p : Str × List Rg) : D := .tuple [.str p.1, .list (p.2.map pD)]
end Mv

set_option Elab.async false
set_option linter.all false
set_option maxRecDepth 100000
set_option maxHeartbeats 4000000
namespace Mv
open PySem PySem.Spec PyProof.Rows L2
local macro_rules | `(tactic| walk_at "mv") => `(tactic| try simp only [↓w_cst, ↓w_var, ↓w_mv, ↓w_fz, ↓w_frz, ↓w_bin, ↓w_un, ↓w_binV, ↓w_if, ↓w_asB, ↓w_yes, ↓w_not, ↓w_and, ↓w_or, ↓w_andE, ↓w_orE, ↓w_notE, ↓w_chain, ↓w_nil, ↓w_cons, ↓w_tup, ↓w_lst, ↓w_pl, ↓w_mut, ↓w_c0, ↓w_ce, ↓w_cv, ↓w_call', ↓wb_0, ↓wb_e, ↓wb_v, wb_e', ↓wo_leaf, ↓wo_ls, ↓wo_dic, ↓wo_dct, ↓wo_st, ↓wo_s, own_0, own_s, oi_0, oi_e, oi_v, isl_st, isl_leaf, isl_ls, Bool.not_false, Bool.not_true, List.nodup_cons, List.nodup_nil, List.not_mem_nil, not_false_eq_true, ↓w_seq, ↓w_skip, ↓w_brk, ↓w_cont, ↓w_retN, ↓w_set, ↓w_drop, ↓w_ret, ↓w_retV, ↓w_ifS, ↓w_fzS, ↓w_asg, ↓w_gN, ↓w_gT, ↓w_gNl, ↓w_gCn, ↓w_gSub, ↓w_par, ↓w_aug, ↓w_int, ↓w_slice, ↓w_rng1, ↓w_rng2, ↓w_seqI, ↓w_comp, ↓w_for,
  ↓sl_0, ↓sl_s, ↓fr_leaf, ↓fr_ls, ↓ok_t, ↓ok_l, ↓br_t, ↓br_f, decide_true, decide_false, Int.reduceEq, ↓bl_b, ↓il_b, ↓le_l, ↓gp_top, ↓cl_0, ↓cl_e, ↓cl_v, ↓nxt_nx, ↓nxt_rt, ↓nxt_bk, ↓nxt_ct, ↓sa_0, ↓sa_s, ↓rg1_i, ↓rg2_i, ↓itm_l, ↓itm_t, ↓itm_o, ↓fin_rt, ↓fin_nx, ↓lpk_nx, ↓lpk_ct, ↓lpk_bk, ↓lpk_rt, ↓wcl_nil, ↓wf_nil,
  ↓w_enum, ↓w_zip, ↓enm_l, ↓enm_o, ↓zp_ll, ↓zp_lo, ↓zp_ol, ↓zp_oo, ↓zp_tt, ↓p_isLTi, ↓p_isLTn, ↓p_isSi, ↓p_isBn, ↓p_extend, p_extendS, p_appendS, List.isEmpty_nil, ↓w_dicO, ↓dicO_list, zip_cc, zip_nn, ↓at_0, ↓at_1, ↓at_2, ↓at_3, ↓at_4, p_insertS, ↓p_mulO, ↓p_repB, ↓p_rep0, ↓p_rep1, ↓w_while, ↓p_insert, ↓at_last, ↓put_last, ↓p_inl, ↓p_inL, ↓p_ninl, ↓p_ninL, ↓p_eqP0, ↓p_neP0, ↓p_neA, ↓p_eq00, ↓p_ne00, ↓p_ixp0, ↓p_ixp1, ↓w_gTp, ↓p_isLTb, ↓p_isLTs, ↓p_isIb, ↓p_isBb, ↓p_isSb, ↓p_isLb, ↓p_isTb, ↓p_isIs, ↓p_isBs, ↓p_isSs, ↓p_isLs, ↓p_isTs, ↓p_isLi, ↓p_isTi, ↓p_isLn, ↓p_isTn, ↓p_isSn, ↓p_isNb, ↓p_isNs, ↓p_isNt, ↓p_isNl, ↓p_isNp, ↓p_eqTT, ↓p_eqTF, ↓p_eqFT, ↓p_eqFF, ↓p_neTT, ↓p_neTF, ↓p_neFT, ↓p_neFF, ↓p_eqBs, ↓p_eqSs, ↓p_eqIs, ↓p_extA, ↓p_extAl, p_extAS, p_extASl, ↓w_bor, fl_b, fl_i, fl_n, fl_s, ↓w_enumA, ↓enma_l, ↓enma_t, ↓enma_o, eq_self, ↓w_strM, ↓sv_s, ↓p_eqS, ↓p_neS, ↓p_isTp, ↓p_lenp, ↓itm_p, ↓p_neBs, line_racks, racks_line, ↓p_sub, ↓p_add, ↓p_ipadd, ↓p_mul, ↓p_div, ↓p_mod, ↓p_pow, ↓p_neg, ↓p_eq, ↓p_ne, ↓p_lt, ↓p_gt, ↓p_le, ↓p_ge, ↓p_max, ↓p_min, ↓p_abs, ↓p_intI, ↓p_intB, ↓p_isaI, ↓p_isaB, ↓p_isaNI, ↓p_isNI, ↓p_isNN, ↓p_isNo, ↓p_eqo, ↓p_neo, ↓p_divmod, ↓p_catL, ↓p_catLl, ↓p_catlL, ↓p_catll, ↓p_len, ↓p_lenl, ↓p_lent, ↓p_list, ↓p_listl, ↓p_listt, ↓p_tuple, ↓p_tuplel, ↓p_tuplet, ↓p_rev, ↓p_revl, ↓p_ix, ↓p_ixl, ↓p_ixt, ↓p_append, ↓p_reverse, ↓p_sum, ↓p_suml, ↓p_any, ↓p_all, ↓p_eqLL, ↓p_eqLl, ↓p_eqlL, ↓p_eqll, ↓p_eqL0, ↓p_eql0, ↓p_neLL, ↓p_neLl, ↓p_nelL, ↓p_nell, ↓p_neL0, ↓p_nel0,
  ↓gp_cells, ↓gp_turn, ↓put_turn, ↓put_cells, ↓putP_top, wipeE, lv_0, lv_s,
  List.set_cons_zero, List.set_cons_succ, List.length_cons, List.length_nil, List.map_cons, List.map_nil, finR, List.replicate, List.replicate_succ, List.replicate_zero, List.cons_append, List.nil_append, true_and, and_true, List.tail_cons, List.head?_cons, Option.join_some, List.contains_nil, Bool.false_eq_true, if_false, if_true, List.all_nil, and_self, Int.reduceToNat, Int.reducePow, Nat.reduceSub, Nat.reduceAdd, Int.reduceAdd, Int.reduceMul, Int.reduceSub, Int.reduceNeg, Int.reduceLT, Int.reduceLE, Int.natAbs, Nat.reduceLT, Nat.reduceLeDiff, Nat.reducePow])
local macro_rules | `(tactic| walk_at "mv1") => `(tactic| try simp only [↓ok_t, ↓ok_l, ↓nxt_nx, ↓nxt_rt, ↓w_seq, ↓fin_rt, ↓fin_nx, ↓lpk_nx, ↓lpk_ct, ↓lpk_bk, ↓lpk_rt, wipeE, List.set_cons_zero, List.set_cons_succ, true_and, and_true])
local macro_rules | `(tactic| walk_at "mvs") => `(tactic| try simp only [↓sl_0, ↓sl_s, ↓fr_leaf, ↓fr_ls, ↓ok_t, ↓ok_l, ↓nxt_nx, ↓nxt_rt, ↓w_seq, ↓fin_rt, ↓fin_nx, ↓lpk_nx, ↓lpk_ct, ↓lpk_bk, ↓lpk_rt, wipeE, List.set_cons_zero, List.set_cons_succ, true_and, and_true])
local macro_rules | `(tactic| walk_at "mvp") => `(tactic| try simp only [↓w_cst, ↓w_var, ↓w_mv, ↓w_fz, ↓w_frz, ↓w_bin, ↓w_un, ↓w_binV, ↓w_if, ↓w_asB, ↓w_yes, ↓w_not, ↓w_and, ↓w_or, ↓w_andE, ↓w_orE, ↓w_notE, ↓w_chain, ↓w_nil, ↓w_cons, ↓w_tup, ↓w_lst, ↓w_pl, ↓w_mut, ↓w_c0, ↓w_ce, ↓w_cv, ↓w_call', ↓wb_0, ↓wb_e, ↓wb_v, wb_e', ↓wo_leaf, ↓wo_ls, ↓wo_dic, ↓wo_dct, ↓wo_st, ↓wo_s, own_0, own_s, oi_0, oi_e, oi_v, isl_st, isl_leaf, isl_ls, Bool.not_false, Bool.not_true, List.nodup_cons, List.nodup_nil, List.not_mem_nil, not_false_eq_true, ↓w_seq, ↓w_skip, ↓w_brk, ↓w_cont, ↓w_retN, ↓w_set, ↓w_drop, ↓w_ret, ↓w_retV, ↓w_fzS, ↓w_asg, ↓w_gN, ↓w_gT, ↓w_gNl, ↓w_gCn, ↓w_gSub, ↓w_par, ↓w_aug, ↓w_int, ↓w_slice, ↓w_rng1, ↓w_rng2, ↓w_seqI, ↓w_comp, ↓w_for,
  ↓sl_0, ↓sl_s, ↓fr_leaf, ↓fr_ls, ↓ok_t, ↓ok_l, ↓br_t, ↓br_f, decide_true, decide_false, Int.reduceEq, ↓bl_b, ↓il_b, ↓le_l, ↓gp_top, ↓cl_0, ↓cl_e, ↓cl_v, ↓nxt_nx, ↓nxt_rt, ↓nxt_bk, ↓nxt_ct, ↓sa_0, ↓sa_s, ↓rg1_i, ↓rg2_i, ↓itm_l, ↓itm_t, ↓itm_o, ↓fin_rt, ↓fin_nx, ↓lpk_nx, ↓lpk_ct, ↓lpk_bk, ↓lpk_rt, ↓wcl_nil, ↓wf_nil,
  ↓w_enum, ↓w_zip, ↓enm_l, ↓enm_o, ↓zp_ll, ↓zp_lo, ↓zp_ol, ↓zp_oo, ↓zp_tt, ↓p_isLTi, ↓p_isLTn, ↓p_isSi, ↓p_isBn, ↓p_extend, p_extendS, p_appendS, List.isEmpty_nil, ↓w_dicO, ↓dicO_list, zip_cc, zip_nn, ↓at_0, ↓at_1, ↓at_2, ↓at_3, ↓at_4, p_insertS, ↓p_mulO, ↓p_repB, ↓p_rep0, ↓p_rep1, ↓w_while, ↓p_insert, ↓at_last, ↓put_last, ↓p_inl, ↓p_inL, ↓p_ninl, ↓p_ninL, ↓p_eqP0, ↓p_neP0, ↓p_neA, ↓p_eq00, ↓p_ne00, ↓p_ixp0, ↓p_ixp1, ↓w_gTp, ↓p_isLTb, ↓p_isLTs, ↓p_isIb, ↓p_isBb, ↓p_isSb, ↓p_isLb, ↓p_isTb, ↓p_isIs, ↓p_isBs, ↓p_isSs, ↓p_isLs, ↓p_isTs, ↓p_isLi, ↓p_isTi, ↓p_isLn, ↓p_isTn, ↓p_isSn, ↓p_isNb, ↓p_isNs, ↓p_isNt, ↓p_isNl, ↓p_isNp, ↓p_eqTT, ↓p_eqTF, ↓p_eqFT, ↓p_eqFF, ↓p_neTT, ↓p_neTF, ↓p_neFT, ↓p_neFF, ↓p_eqBs, ↓p_eqSs, ↓p_eqIs, ↓p_extA, ↓p_extAl, p_extAS, p_extASl, ↓w_bor, fl_b, fl_i, fl_n, fl_s, ↓w_enumA, ↓enma_l, ↓enma_t, ↓enma_o, eq_self, ↓w_strM, ↓sv_s, ↓p_eqS, ↓p_neS, ↓p_isTp, ↓p_lenp, ↓itm_p, ↓p_neBs, line_racks, racks_line, ↓p_sub, ↓p_add, ↓p_ipadd, ↓p_mul, ↓p_div, ↓p_mod, ↓p_pow, ↓p_neg, ↓p_eq, ↓p_ne, ↓p_lt, ↓p_gt, ↓p_le, ↓p_ge, ↓p_max, ↓p_min, ↓p_abs, ↓p_intI, ↓p_intB, ↓p_isaI, ↓p_isaB, ↓p_isaNI, ↓p_isNI, ↓p_isNN, ↓p_isNo, ↓p_eqo, ↓p_neo, ↓p_divmod, ↓p_catL, ↓p_catLl, ↓p_catlL, ↓p_catll, ↓p_len, ↓p_lenl, ↓p_lent, ↓p_list, ↓p_listl, ↓p_listt, ↓p_tuple, ↓p_tuplel, ↓p_tuplet, ↓p_rev, ↓p_revl, ↓p_ix, ↓p_ixl, ↓p_ixt, ↓p_append, ↓p_reverse, ↓p_sum, ↓p_suml, ↓p_any, ↓p_all, ↓p_eqLL, ↓p_eqLl, ↓p_eqlL, ↓p_eqll, ↓p_eqL0, ↓p_eql0, ↓p_neLL, ↓p_neLl, ↓p_nelL, ↓p_nell, ↓p_neL0, ↓p_nel0,
  ↓gp_cells, ↓gp_turn, ↓put_turn, ↓put_cells, ↓putP_top, wipeE, lv_0, lv_s,
  List.set_cons_zero, List.set_cons_succ, List.length_cons, List.length_nil, List.map_cons, List.map_nil, finR, List.replicate, List.replicate_succ, List.replicate_zero, List.cons_append, List.nil_append, true_and, and_true, List.tail_cons, List.head?_cons, Option.join_some, List.contains_nil, Bool.false_eq_true, if_false, if_true, List.all_nil, and_self, Int.reduceToNat, Int.reducePow, Nat.reduceSub, Nat.reduceAdd, Int.reduceAdd, Int.reduceMul, Int.reduceSub, Int.reduceNeg, Int.reduceLT, Int.reduceLE, Int.natAbs, Nat.reduceLT, Nat.reduceLeDiff, Nat.reducePow])
/-! ### the laws' own comparison, of a thing with itself -/
/-- numbers, texts, None, and lists and tuples of these -/
def smz : Nat → D → Bool
  | _, .none => true
  | _, .int _ => true
  | _, .str _ => true
  | n + 1, .list ts => decide (ts.length ≤ 1000000) && ts.all (smz n)
  | n + 1, .tuple ts => decide (ts.length ≤ 1000000) && ts.all (smz n)
  | _, _ => false
def sameB (gself : Def) : SSem := (seq (ifS (asB (bin true (varE 1) (cstE .none) (vw2 (isNI false)))) (retS true (bin true (varE 0) (cstE .none) (vw2 (isNI false)))) skip)
  (seq (ifS (orT (asB (un (varE 1) (vw1 (isaI .list)))) (asB (un (varE 1) (vw1 (isaI .tuple))))) (seq (ifS (asB (bin true (un (varE 0) (vw1 (isaI .list))) (un (varE 1) (vw1 (isaI .list))) (vw2 (eqI true)))) (retS true (cstE (.bool false))) skip)
  (seq (ifS (orT (asB (bin true (un (varE 0) (vw1 (isaI .tuple))) (un (varE 1) (vw1 (isaI .tuple))) (vw2 (eqI true)))) (asB (bin true (un (varE 0) oLen) (un (varE 1) oLen) (vw2 (eqI true))))) (retS true (cstE (.bool false))) skip)
  (retS true (un (compE (zipI (consA false (varE 0) (consA false (varE 1) nilA))) (gT 2 (gCn (gN 2) (gCn (gN 3) gNl))) yesT (callF gself (.e false (varE 2) :: (.e false (varE 3) :: []))) [2, 3]) oAll)))) skip)
  (seq (ifS (asB (un (varE 1) (vw1 (isaI .str)))) (retS true (andE (un (varE 0) (vw1 (isaI .str))) (bin true (varE 0) (varE 1) (vw2 (eqI false))))) skip)
  (retS true (andE (un (varE 0) (vw1 (isaI .int))) (andE (notE (un (varE 0) (vw1 (isaI .bool)))) (bin true (varE 0) (varE 1) (vw2 (eqI false)))))))))
def sameF (gself : Def) : Def := runDef 2 4 [] (sameB gself)
/-! ### list(range(..)) -/
def rgD (a b : Int) : List D := (List.range (b - a).toNat).map fun (i : Nat) => PyData.int (a + (i : Nat))
def rgI (a b : Int) : List Int := (List.range (b - a).toNat).map fun (i : Nat) => a + (i : Nat)
theorem rgD_I (a b : Int) : rgD a b = (rgI a b).map .int := by unfold rgD rgI; rw [List.map_map]; rfl
def rgOk (a b : Int) : Bool := decide (-(2 ^ 62) ≤ a ∧ a < 2 ^ 62 ∧ -(2 ^ 62) ≤ b ∧ b < 2 ^ 62 ∧ (b - a).toNat ≤ 2 ^ 24)
def oLrg (a b : O) : Option O := match a, b with
  | .leaf (.int i), .leaf (.int j) => if rgOk i j = true then some (.ls (rgD i j)) else none
  | _, _ => none
section
variable {X : Cx} {e1 e2 : Expr} {f f1 f2 : ESem} {q q1 q2 m m1 m2 : Bool} {p pos rp rpos : Pos}
end
theorem p_lrg1 {n : Int} {Q : O → Prop} : Op1 (oLrg (.leaf (.int 0))) (.leaf (.int n)) Q ↔ rgOk 0 n = true ∧ Q (.ls ((rgI 0 n).map .int)) := by
  rw [← rgD_I]
  by_cases h : rgOk 0 n = true <;> simp [Op1, O1, oLrg, h]
theorem p_lrg2 {a b : Int} {Q : O → Prop} : Op2 oLrg (.leaf (.int a)) (.leaf (.int b)) Q ↔ rgOk a b = true ∧ Q (.ls ((rgI a b).map .int)) := by
  rw [← rgD_I]
  by_cases h : rgOk a b = true <;> simp [Op2, O1, oLrg, h]

/-! ### max, min of a list of numbers -/
def mxI : List Int → Int
  | [] => 0
  | i :: r => r.foldl max i
def mnI : List Int → Int
  | [] => 0
  | i :: r => r.foldl min i
def oMax (a : O) : Option O := (lstO a).bind fun ts => (intsD ts).bind fun ns => if ns = [] then none else some (.leaf (.int (mxI ns)))
def oMin (a : O) : Option O := (lstO a).bind fun ts => (intsD ts).bind fun ns => if ns = [] then none else some (.leaf (.int (mnI ns)))
section
variable {ns : List Int} {Q : O → Prop}
theorem p_maxL : Op1 oMax (.ls (ns.map .int)) Q ↔ ns ≠ [] ∧ Q (.leaf (.int (mxI ns))) := by
  by_cases h : ns = [] <;> simp [Op1, O1, oMax, lstO, intsD_map, h, intsD]
theorem p_maxl : Op1 oMax (.leaf (.list (ns.map .int))) Q ↔ ns ≠ [] ∧ Q (.leaf (.int (mxI ns))) := by
  by_cases h : ns = [] <;> simp [Op1, O1, oMax, lstO, intsD_map, h, intsD]
theorem p_minL : Op1 oMin (.ls (ns.map .int)) Q ↔ ns ≠ [] ∧ Q (.leaf (.int (mnI ns))) := by
  by_cases h : ns = [] <;> simp [Op1, O1, oMin, lstO, intsD_map, h, intsD]
theorem p_minl : Op1 oMin (.leaf (.list (ns.map .int))) Q ↔ ns ≠ [] ∧ Q (.leaf (.int (mnI ns))) := by
  by_cases h : ns = [] <;> simp [Op1, O1, oMin, lstO, intsD_map, h, intsD]
end

/-! ### dicts read -/
def lkG {κ : Type} [DecidableEq κ] : List (κ × O) → κ → Option (Option D)
  | [], _ => some none
  | (k', o) :: r, k => if k' = k then (match o with | .leaf t => some (some t) | _ => none) else lkG r k
/-- what d holds at k -/
def dgO (d k : O) : Option (Option D) := match d with
  | .dic kvs => (keyOf k).bind (lkG kvs)
  | .dct kvs => (tupOf k).bind (lkG kvs)
  | _ => none
section
variable {K : PySem.W.Frag} {S H : Hp}
def DgR (K : PySem.W.Frag) (S : Hp) (r : Option D) (o : Option V) : Prop := match r with
  | none => o = none
  | some t => ∃ v, o = some v ∧ Fz K S t v
end
/-! d[k] -/
def oDIx (d k : O) : Option O := (dgO d k).bind fun r => r.map O.leaf
/-- k in d -/
def oDIn (neg : Bool) (k d : O) : Option O := (dgO d k).map fun r => .leaf (.bool (r.isSome != neg))
def rDIx : R2 := fun x y H Q => ∃ a v, x = .ref a ∧ DGet H a y (some v) ∧ Q v H
def rDIn (neg : Bool) : R2 := fun y x H Q => ∃ a o, x = .ref a ∧ DGet H a y o ∧ Q (.bl (o.isSome != neg)) H
section
variable {X : Cx} {a b c : Expr} {f1 f2 f3 : ESem} {q1 q2 q3 m1 m2 m3 ok : Bool} {pos apos : Pos}
/-- d.get(k, x) -/
def getE (fd fk fx : ESem) : ESem := fun env => (fd env).bind fun p => (fk p.2).bind fun r => (fx r.2).bind fun s =>
  (dgO p.1 r.1).bind fun o => match s.1 with
    | .leaf z => some (.leaf (o.getD z), s.2)
    | _ => none
end
/-! the plain rules -/
theorem w_getE {f1 f2 f3 : ESem} {env : Mv.Env} {Q : O → Mv.Env → Prop} : We (getE f1 f2 f3) env Q ↔ We f1 env fun a e1 => We f2 e1 fun b e2 => We f3 e2 fun c e3 => Op1 (fun c => (dgO a b).bind fun o => match c with | .leaf z => some (.leaf (o.getD z)) | _ => none) c fun z => Q z e3 := by
  unfold We getE Op1 O1 O2
  cases h1 : f1 env with
  | none => exact Iff.rfl
  | some p =>
    simp only [Option.bind_some]
    cases h2 : f2 p.2 with
    | none => exact Iff.rfl
    | some r =>
      simp only [Option.bind_some]
      cases h3 : f3 r.2 with
      | none => exact Iff.rfl
      | some s =>
        simp only [Option.bind_some]
        cases dgO p.1 r.1 with
        | none => exact Iff.rfl
        | some o =>
          obtain ⟨s1, s2⟩ := s
          cases s1 <;> exact Iff.rfl
/-- a dict of frozen things, keys text or numbers; keys tuples -/
def dicS (kvs : List (Key × D)) : O := .dic (kvs.map fun kv => (kv.1, .leaf kv.2))
def dctS (kvs : List (List Key × D)) : O := .dct (kvs.map fun kv => (kv.1, .leaf kv.2))
def lkK {κ : Type} [DecidableEq κ] : List (κ × D) → κ → Option D
  | [], _ => none
  | (k', t) :: r, k => if k' = k then some t else lkK r k
theorem lkG_S {κ : Type} [DecidableEq κ] {k : κ} : ∀ {kvs : List (κ × D)}, lkG (kvs.map fun kv => (kv.1, O.leaf kv.2)) k = some (lkK kvs k)
  | [] => rfl
  | (k', t) :: r => by
    rw [List.map_cons, lkG, lkK]
    by_cases h : k' = k
    · simp [h]
    · simp only [h, if_false]
      exact lkG_S
def putL {κ : Type} [DecidableEq κ] (kvs : List (κ × D)) (k : κ) (d : D) : List (κ × D) :=
  if (kvs.any fun kv => decide (kv.1 = k)) = true then kvs.map (fun kv => if kv.1 = k then (kv.1, d) else kv) else kvs ++ [(k, d)]
theorem putO_S {κ : Type} [DecidableEq κ] {k : κ} {d : D} {kvs : List (κ × D)} : putO (kvs.map fun kv => (kv.1, O.leaf kv.2)) k (.leaf d) = (putL kvs k d).map fun kv => (kv.1, O.leaf kv.2) := by
  unfold putO putL
  have e : ((kvs.map fun kv => (kv.1, O.leaf kv.2)).any fun kv => decide (kv.1 = k)) = kvs.any fun kv => decide (kv.1 = k) := by rw [List.any_map]; rfl
  rw [e]
  split
  · rw [List.map_map, List.map_map]
    apply List.map_congr_left
    intro kv _
    simp only [Function.comp]
    split <;> rfl
  · simp
theorem leafAt_S {κ : Type} [DecidableEq κ] {k : κ} {kvs : List (κ × D)} : leafAt (kvs.map fun kv => (kv.1, O.leaf kv.2)) k = true := by
  unfold leafAt
  rw [List.all_eq_true]
  intro kv h
  obtain ⟨p, _, rfl⟩ := List.mem_map.mp h
  split <;> rfl
theorem lkK_put {κ : Type} [DecidableEq κ] {k k2 : κ} {d : D} : ∀ {kvs : List (κ × D)}, lkK (putL kvs k d) k2 = if k = k2 then some d else lkK kvs k2
  | [] => by unfold putL; simp [lkK]
  | (k', t) :: r => by
    have ih := lkK_put (k := k) (k2 := k2) (d := d) (kvs := r)
    unfold putL at ih ⊢
    rw [List.any_cons]
    by_cases h : k' = k
    · subst h
      simp only [decide_true, Bool.true_or, if_true, List.map_cons, lkK]
      by_cases h2 : k' = k2
      · simp [h2]
      · simp only [h2, if_false]
        by_cases h3 : (r.any fun kv => decide (kv.1 = k')) = true
        · rw [if_pos h3] at ih
          rw [ih, if_neg h2]
        · have e : r.map (fun kv => if kv.1 = k' then (kv.1, d) else kv) = r := by
            conv => rhs; rw [← List.map_id r]
            apply List.map_congr_left
            intro kv hkv
            by_cases h4 : kv.1 = k'
            · exact absurd (List.any_eq_true.mpr ⟨kv, hkv, by simpa using h4⟩) h3
            · simp [h4]
          rw [e]
    · simp only [h, decide_false, Bool.false_or]
      by_cases h3 : (r.any fun kv => decide (kv.1 = k)) = true
      · rw [if_pos h3] at ih ⊢
        rw [List.map_cons, if_neg h, lkK, lkK, ih]
        by_cases h2 : k' = k2
        · subst h2; simp [Ne.symm h]
        · simp [h2]
      · rw [if_neg h3] at ih ⊢
        rw [List.cons_append, lkK, lkK, ih]
        by_cases h2 : k' = k2
        · subst h2; simp [Ne.symm h]
        · simp [h2]
section
variable {kvs : List (Key × D)} {kts : List (List Key × D)} {i : Int} {x : Str} {ts : List D} {ks : List Key} {d z : D} {Q : O → Prop} {neg : Bool}
theorem w_emptyK {env : Mv.Env} {Q : O → Mv.Env → Prop} : We emptyK env Q ↔ Q (dicS []) env := Iff.rfl
theorem w_emptyT {env : Mv.Env} {Q : O → Mv.Env → Prop} : We emptyT env Q ↔ Q (dctS []) env := Iff.rfl
theorem dg_i : dgO (dicS kvs) (.leaf (.int i)) = some (lkK kvs (.inl i)) := by unfold dgO dicS keyOf; exact lkG_S
theorem dg_s : dgO (dicS kvs) (.leaf (.str x)) = some (lkK kvs (.inr x)) := by unfold dgO dicS keyOf; exact lkG_S
theorem dg_t (h : keysOf ts = some ks) : dgO (dctS kts) (.leaf (.tuple ts)) = some (lkK kts ks) := by unfold dgO dctS tupOf; simp only [h, Option.bind_some]; exact lkG_S
theorem p_dixi : Op2 oDIx (dicS kvs) (.leaf (.int i)) Q ↔ ∃ t, lkK kvs (.inl i) = some t ∧ Q (.leaf t) := by
  unfold Op2 oDIx; rw [dg_i]; cases lkK kvs (.inl i) <;> simp [O1]
theorem p_dixs : Op2 oDIx (dicS kvs) (.leaf (.str x)) Q ↔ ∃ t, lkK kvs (.inr x) = some t ∧ Q (.leaf t) := by
  unfold Op2 oDIx; rw [dg_s]; cases lkK kvs (.inr x) <;> simp [O1]
theorem p_dini : Op2 (oDIn neg) (.leaf (.int i)) (dicS kvs) Q ↔ Q (.leaf (.bool ((lkK kvs (.inl i)).isSome != neg))) := by
  unfold Op2 oDIn; rw [dg_i]; exact Iff.rfl
theorem p_dins : Op2 (oDIn neg) (.leaf (.str x)) (dicS kvs) Q ↔ Q (.leaf (.bool ((lkK kvs (.inr x)).isSome != neg))) := by
  unfold Op2 oDIn; rw [dg_s]; exact Iff.rfl
theorem p_dgi : Op1 (fun c => (dgO (dicS kvs) (.leaf (.int i))).bind fun o => match c with | .leaf z => some (.leaf (o.getD z)) | _ => none) (.leaf z) Q ↔ Q (.leaf ((lkK kvs (.inl i)).getD z)) := by
  unfold Op1; rw [dg_i]; exact Iff.rfl
theorem p_dgs : Op1 (fun c => (dgO (dicS kvs) (.leaf (.str x))).bind fun o => match c with | .leaf z => some (.leaf (o.getD z)) | _ => none) (.leaf z) Q ↔ Q (.leaf ((lkK kvs (.inr x)).getD z)) := by
  unfold Op1; rw [dg_s]; exact Iff.rfl
theorem p_dgt (h : keysOf ts = some ks) : Op1 (fun c => (dgO (dctS kts) (.leaf (.tuple ts))).bind fun o => match c with | .leaf z => some (.leaf (o.getD z)) | _ => none) (.leaf z) Q ↔ Q (.leaf ((lkK kts ks).getD z)) := by
  unfold Op1; rw [dg_t h]; exact Iff.rfl
theorem p_dputi : Op3 gSet (dicS kvs) (.leaf (.int i)) d Q ↔ kvs.length < 16000000 ∧ Q (dicS (putL kvs (.inl i) d)) := by
  unfold Op3 gSet dicS keyOf
  simp only [Option.bind_some, leafAt_S, true_and, List.length_map, putO_S]
  by_cases h : kvs.length < 16000000 <;> simp [h, O1]
theorem p_dputs : Op3 gSet (dicS kvs) (.leaf (.str x)) d Q ↔ kvs.length < 16000000 ∧ Q (dicS (putL kvs (.inr x) d)) := by
  unfold Op3 gSet dicS keyOf
  simp only [Option.bind_some, leafAt_S, true_and, List.length_map, putO_S]
  by_cases h : kvs.length < 16000000 <;> simp [h, O1]
theorem p_dputt (h : keysOf ts = some ks) : Op3 gSet (dctS kts) (.leaf (.tuple ts)) d Q ↔ kts.length < 16000000 ∧ Q (dctS (putL kts ks d)) := by
  unfold Op3 gSet dctS tupOf
  simp only [h, Option.bind_some, leafAt_S, true_and, List.length_map, putO_S]
  by_cases h : kts.length < 16000000 <;> simp [h, O1]
end
/-! ### dict(a list of pairs) -/
def oDictP (a : O) : Option O := (lstO a).bind fun ts => (rowsK ts).bind fun more => (updO [] more).map O.dic
def mergeL (kvs : List (Key × D)) (more : List (Key × D)) : List (Key × D) := more.foldl (fun acc kv => putL acc kv.1 kv.2) kvs
def rowT (kv : Key × D) : D := .tuple [keyT kv.1, kv.2]
end Mv
set_option Elab.async false
set_option linter.all false
set_option maxRecDepth 100000
set_option maxHeartbeats 4000000
namespace Mv
open PySem PySem.Spec PyProof.Rows L2
local macro_rules | `(tactic| walk_at "mv") => `(tactic| try simp only [↓w_cst, ↓w_var, ↓w_mv, ↓w_fz, ↓w_frz, ↓w_bin, ↓w_un, ↓w_binV, ↓w_if, ↓w_asB, ↓w_yes, ↓w_not, ↓w_and, ↓w_or, ↓w_andE, ↓w_orE, ↓w_notE, ↓w_chain, ↓w_nil, ↓w_cons, ↓w_tup, ↓w_lst, ↓w_pl, ↓w_mut, ↓w_c0, ↓w_ce, ↓w_cv, ↓w_call', ↓wb_0, ↓wb_e, ↓wb_v, wb_e', ↓wo_leaf, ↓wo_ls, ↓wo_dic, ↓wo_dct, ↓wo_st, ↓wo_s, own_0, own_s, oi_0, oi_e, oi_v, isl_st, isl_leaf, isl_ls, Bool.not_false, Bool.not_true, List.nodup_cons, List.nodup_nil, List.not_mem_nil, not_false_eq_true, ↓w_seq, ↓w_skip, ↓w_brk, ↓w_cont, ↓w_retN, ↓w_set, ↓w_drop, ↓w_ret, ↓w_retV, ↓w_ifS, ↓w_fzS, ↓w_asg, ↓w_gN, ↓w_gT, ↓w_gNl, ↓w_gCn, ↓w_gSub, ↓w_par, ↓w_aug, ↓w_int, ↓w_slice, ↓w_rng1, ↓w_rng2, ↓w_seqI, ↓w_comp, ↓w_for,
  ↓sl_0, ↓sl_s, ↓fr_leaf, ↓fr_ls, ↓ok_t, ↓ok_l, ↓br_t, ↓br_f, decide_true, decide_false, Int.reduceEq, ↓bl_b, ↓il_b, ↓le_l, ↓gp_top, ↓cl_0, ↓cl_e, ↓cl_v, ↓nxt_nx, ↓nxt_rt, ↓nxt_bk, ↓nxt_ct, ↓sa_0, ↓sa_s, ↓rg1_i, ↓rg2_i, ↓itm_l, ↓itm_t, ↓itm_o, ↓fin_rt, ↓fin_nx, ↓lpk_nx, ↓lpk_ct, ↓lpk_bk, ↓lpk_rt, ↓wcl_nil, ↓wf_nil,
  ↓w_enum, ↓w_zip, ↓enm_l, ↓enm_o, ↓zp_ll, ↓zp_lo, ↓zp_ol, ↓zp_oo, ↓zp_tt, ↓p_isLTi, ↓p_isLTn, ↓p_isSi, ↓p_isBn, ↓p_extend, p_extendS, p_appendS, List.isEmpty_nil, ↓w_dicO, ↓dicO_list, zip_cc, zip_nn, ↓at_0, ↓at_1, ↓at_2, ↓at_3, ↓at_4, p_insertS, ↓p_mulO, ↓p_repB, ↓p_rep0, ↓p_rep1, ↓w_while, ↓p_insert, ↓at_last, ↓put_last, ↓p_inl, ↓p_inL, ↓p_ninl, ↓p_ninL, ↓p_eqP0, ↓p_neP0, ↓p_neA, ↓p_eq00, ↓p_ne00, ↓p_ixp0, ↓p_ixp1, ↓w_gTp, ↓p_isLTb, ↓p_isLTs, ↓p_isIb, ↓p_isBb, ↓p_isSb, ↓p_isLb, ↓p_isTb, ↓p_isIs, ↓p_isBs, ↓p_isSs, ↓p_isLs, ↓p_isTs, ↓p_isLi, ↓p_isTi, ↓p_isLn, ↓p_isTn, ↓p_isSn, ↓p_isNb, ↓p_isNs, ↓p_isNt, ↓p_isNl, ↓p_isNp, ↓p_eqTT, ↓p_eqTF, ↓p_eqFT, ↓p_eqFF, ↓p_neTT, ↓p_neTF, ↓p_neFT, ↓p_neFF, ↓p_eqBs, ↓p_eqSs, ↓p_eqIs, ↓p_lrg1, ↓p_lrg2, ↓p_maxL, ↓p_maxl, ↓p_minL, ↓p_minl, ↓w_getE, ↓w_emptyK, ↓w_emptyT, ↓p_dixi, ↓p_dixs, ↓p_dini, ↓p_dins, ↓p_dgi, ↓p_dgs, ↓p_dputi, ↓p_dputs, ↓p_extA, ↓p_extAl, p_extAS, p_extASl, ↓w_bor, fl_b, fl_i, fl_n, fl_s, ↓w_enumA, ↓enma_l, ↓enma_t, ↓enma_o, eq_self, ↓w_strM, ↓sv_s, ↓p_eqS, ↓p_neS, ↓p_isTp, ↓p_lenp, ↓itm_p, ↓p_neBs, line_racks, racks_line, ↓p_sub, ↓p_add, ↓p_ipadd, ↓p_mul, ↓p_div, ↓p_mod, ↓p_pow, ↓p_neg, ↓p_eq, ↓p_ne, ↓p_lt, ↓p_gt, ↓p_le, ↓p_ge, ↓p_max, ↓p_min, ↓p_abs, ↓p_intI, ↓p_intB, ↓p_isaI, ↓p_isaB, ↓p_isaNI, ↓p_isNI, ↓p_isNN, ↓p_isNo, ↓p_eqo, ↓p_neo, ↓p_divmod, ↓p_catL, ↓p_catLl, ↓p_catlL, ↓p_catll, ↓p_len, ↓p_lenl, ↓p_lent, ↓p_list, ↓p_listl, ↓p_listt, ↓p_tuple, ↓p_tuplel, ↓p_tuplet, ↓p_rev, ↓p_revl, ↓p_ix, ↓p_ixl, ↓p_ixt, ↓p_append, ↓p_reverse, ↓p_sum, ↓p_suml, ↓p_any, ↓p_all, ↓p_eqLL, ↓p_eqLl, ↓p_eqlL, ↓p_eqll, ↓p_eqL0, ↓p_eql0, ↓p_neLL, ↓p_neLl, ↓p_nelL, ↓p_nell, ↓p_neL0, ↓p_nel0,
  ↓gp_cells, ↓gp_turn, ↓put_turn, ↓put_cells, ↓putP_top, wipeE, lv_0, lv_s,
  List.set_cons_zero, List.set_cons_succ, List.length_cons, List.length_nil, List.map_cons, List.map_nil, finR, List.replicate, List.replicate_succ, List.replicate_zero, List.cons_append, List.nil_append, true_and, and_true, List.tail_cons, List.head?_cons, Option.join_some, List.contains_nil, Bool.false_eq_true, if_false, if_true, List.all_nil, and_self, Int.reduceToNat, Int.reducePow, Nat.reduceSub, Nat.reduceAdd, Int.reduceAdd, Int.reduceMul, Int.reduceSub, Int.reduceNeg, Int.reduceLT, Int.reduceLE, Int.natAbs, Nat.reduceLT, Nat.reduceLeDiff, Nat.reducePow])
local macro_rules | `(tactic| walk_at "mv1") => `(tactic| try simp only [↓ok_t, ↓ok_l, ↓nxt_nx, ↓nxt_rt, ↓w_seq, ↓fin_rt, ↓fin_nx, ↓lpk_nx, ↓lpk_ct, ↓lpk_bk, ↓lpk_rt, wipeE, List.set_cons_zero, List.set_cons_succ, true_and, and_true])
local macro_rules | `(tactic| walk_at "mvs") => `(tactic| try simp only [↓sl_0, ↓sl_s, ↓fr_leaf, ↓fr_ls, ↓ok_t, ↓ok_l, ↓nxt_nx, ↓nxt_rt, ↓w_seq, ↓fin_rt, ↓fin_nx, ↓lpk_nx, ↓lpk_ct, ↓lpk_bk, ↓lpk_rt, wipeE, List.set_cons_zero, List.set_cons_succ, true_and, and_true])
local macro_rules | `(tactic| walk_at "mvp") => `(tactic| try simp only [↓w_cst, ↓w_var, ↓w_mv, ↓w_fz, ↓w_frz, ↓w_bin, ↓w_un, ↓w_binV, ↓w_if, ↓w_asB, ↓w_yes, ↓w_not, ↓w_and, ↓w_or, ↓w_andE, ↓w_orE, ↓w_notE, ↓w_chain, ↓w_nil, ↓w_cons, ↓w_tup, ↓w_lst, ↓w_pl, ↓w_mut, ↓w_c0, ↓w_ce, ↓w_cv, ↓w_call', ↓wb_0, ↓wb_e, ↓wb_v, wb_e', ↓wo_leaf, ↓wo_ls, ↓wo_dic, ↓wo_dct, ↓wo_st, ↓wo_s, own_0, own_s, oi_0, oi_e, oi_v, isl_st, isl_leaf, isl_ls, Bool.not_false, Bool.not_true, List.nodup_cons, List.nodup_nil, List.not_mem_nil, not_false_eq_true, ↓w_seq, ↓w_skip, ↓w_brk, ↓w_cont, ↓w_retN, ↓w_set, ↓w_drop, ↓w_ret, ↓w_retV, ↓w_fzS, ↓w_asg, ↓w_gN, ↓w_gT, ↓w_gNl, ↓w_gCn, ↓w_gSub, ↓w_par, ↓w_aug, ↓w_int, ↓w_slice, ↓w_rng1, ↓w_rng2, ↓w_seqI, ↓w_comp, ↓w_for,
  ↓sl_0, ↓sl_s, ↓fr_leaf, ↓fr_ls, ↓ok_t, ↓ok_l, ↓br_t, ↓br_f, decide_true, decide_false, Int.reduceEq, ↓bl_b, ↓il_b, ↓le_l, ↓gp_top, ↓cl_0, ↓cl_e, ↓cl_v, ↓nxt_nx, ↓nxt_rt, ↓nxt_bk, ↓nxt_ct, ↓sa_0, ↓sa_s, ↓rg1_i, ↓rg2_i, ↓itm_l, ↓itm_t, ↓itm_o, ↓fin_rt, ↓fin_nx, ↓lpk_nx, ↓lpk_ct, ↓lpk_bk, ↓lpk_rt, ↓wcl_nil, ↓wf_nil,
  ↓w_enum, ↓w_zip, ↓enm_l, ↓enm_o, ↓zp_ll, ↓zp_lo, ↓zp_ol, ↓zp_oo, ↓zp_tt, ↓p_isLTi, ↓p_isLTn, ↓p_isSi, ↓p_isBn, ↓p_extend, p_extendS, p_appendS, List.isEmpty_nil, ↓w_dicO, ↓dicO_list, zip_cc, zip_nn, ↓at_0, ↓at_1, ↓at_2, ↓at_3, ↓at_4, p_insertS, ↓p_mulO, ↓p_repB, ↓p_rep0, ↓p_rep1, ↓w_while, ↓p_insert, ↓at_last, ↓put_last, ↓p_inl, ↓p_inL, ↓p_ninl, ↓p_ninL, ↓p_eqP0, ↓p_neP0, ↓p_neA, ↓p_eq00, ↓p_ne00, ↓p_ixp0, ↓p_ixp1, ↓w_gTp, ↓p_isLTb, ↓p_isLTs, ↓p_isIb, ↓p_isBb, ↓p_isSb, ↓p_isLb, ↓p_isTb, ↓p_isIs, ↓p_isBs, ↓p_isSs, ↓p_isLs, ↓p_isTs, ↓p_isLi, ↓p_isTi, ↓p_isLn, ↓p_isTn, ↓p_isSn, ↓p_isNb, ↓p_isNs, ↓p_isNt, ↓p_isNl, ↓p_isNp, ↓p_eqTT, ↓p_eqTF, ↓p_eqFT, ↓p_eqFF, ↓p_neTT, ↓p_neTF, ↓p_neFT, ↓p_neFF, ↓p_eqBs, ↓p_eqSs, ↓p_eqIs, ↓p_lrg1, ↓p_lrg2, ↓p_maxL, ↓p_maxl, ↓p_minL, ↓p_minl, ↓w_getE, ↓w_emptyK, ↓w_emptyT, ↓p_dixi, ↓p_dixs, ↓p_dini, ↓p_dins, ↓p_dgi, ↓p_dgs, ↓p_dputi, ↓p_dputs, ↓p_extA, ↓p_extAl, p_extAS, p_extASl, ↓w_bor, fl_b, fl_i, fl_n, fl_s, ↓w_enumA, ↓enma_l, ↓enma_t, ↓enma_o, eq_self, ↓w_strM, ↓sv_s, ↓p_eqS, ↓p_neS, ↓p_isTp, ↓p_lenp, ↓itm_p, ↓p_neBs, line_racks, racks_line, ↓p_sub, ↓p_add, ↓p_ipadd, ↓p_mul, ↓p_div, ↓p_mod, ↓p_pow, ↓p_neg, ↓p_eq, ↓p_ne, ↓p_lt, ↓p_gt, ↓p_le, ↓p_ge, ↓p_max, ↓p_min, ↓p_abs, ↓p_intI, ↓p_intB, ↓p_isaI, ↓p_isaB, ↓p_isaNI, ↓p_isNI, ↓p_isNN, ↓p_isNo, ↓p_eqo, ↓p_neo, ↓p_divmod, ↓p_catL, ↓p_catLl, ↓p_catlL, ↓p_catll, ↓p_len, ↓p_lenl, ↓p_lent, ↓p_list, ↓p_listl, ↓p_listt, ↓p_tuple, ↓p_tuplel, ↓p_tuplet, ↓p_rev, ↓p_revl, ↓p_ix, ↓p_ixl, ↓p_ixt, ↓p_append, ↓p_reverse, ↓p_sum, ↓p_suml, ↓p_any, ↓p_all, ↓p_eqLL, ↓p_eqLl, ↓p_eqlL, ↓p_eqll, ↓p_eqL0, ↓p_eql0, ↓p_neLL, ↓p_neLl, ↓p_nelL, ↓p_nell, ↓p_neL0, ↓p_nel0,
  ↓gp_cells, ↓gp_turn, ↓put_turn, ↓put_cells, ↓putP_top, wipeE, lv_0, lv_s,
  List.set_cons_zero, List.set_cons_succ, List.length_cons, List.length_nil, List.map_cons, List.map_nil, finR, List.replicate, List.replicate_succ, List.replicate_zero, List.cons_append, List.nil_append, true_and, and_true, List.tail_cons, List.head?_cons, Option.join_some, List.contains_nil, Bool.false_eq_true, if_false, if_true, List.all_nil, and_self, Int.reduceToNat, Int.reducePow, Nat.reduceSub, Nat.reduceAdd, Int.reduceAdd, Int.reduceMul, Int.reduceSub, Int.reduceNeg, Int.reduceLT, Int.reduceLE, Int.natAbs, Nat.reduceLT, Nat.reduceLeDiff, Nat.reducePow])
/-! ### equality, general -/
section
variable {Q : O → Prop}
theorem at_end {ts : List D} {t : D} {P : D → Prop} (h : ts.getLast? = some t) (k : P t) : At ts (-1) P := by
  obtain ⟨ys, rfl⟩ := List.getLast?_eq_some_iff.mp h
  exact at_last.mpr k
end
/-! ### packings: mark, first, last -/
structure Pa where
  k : Str
  f : Int
  l : Int
def paT (p : Pa) : D := .tuple [.str p.k, .int p.f, .int p.l]
def paN (p : Pa) : Int := p.l - p.f + 1
def paSum : List Pa → Int
  | [] => 0
  | p :: r => paN p + paSum r
def GoodPa (B : Int) (p : Pa) : Prop := 0 ≤ p.f ∧ p.f ≤ p.l ∧ p.l ≤ B
def plR : List Pa → Int → List (Pa × Int)
  | [], _ => []
  | p :: r, b => (p, b) :: plR r (b + paN p)
def plT (q : Pa × Int) : D := .tuple [.str q.1.k, .int q.1.f, .int q.1.l, .int q.2]
def lowP (sz c : Int) (q : Pa × Int) : Int := max q.1.f (q.1.f + c * sz - q.2)
def highP (sz c : Int) (q : Pa × Int) : Int := min q.1.l (q.1.f + c * sz + sz - 1 - q.2)
def inC (sz c : Int) (q : Pa × Int) : Bool := decide (lowP sz c q ≤ highP sz c q)
def ptC (sz c : Int) (q : Pa × Int) : Pa := ⟨q.1.k, lowP sz c q, highP sz c q⟩
def tinsIn (sz c : Int) (qs : List (Pa × Int)) : List Pa := (qs.filter (inC sz c)).map (ptC sz c)
/-! numbers between -/
/-! a packing as it is handed -/
def HPk (t : D) (nm : Str) (sz : Int) (ps : List Pa) : Prop := ∃ o, t = .tuple [.str nm, .int sz, o] ∧ (o = .list (ps.map paT) ∨ o = .tuple (ps.map paT))
def encPk (nm : Str) (sz : Int) (ps : List Pa) : D := .tuple [.str nm, .int sz, .list (ps.map paT)]
/-! ### words of single signs -/
def chS (c : Nat) : Str := ⟨#[c]⟩
section
variable {Q : O → Prop}
end
end Mv
set_option Elab.async false
set_option linter.all false
set_option maxRecDepth 100000
set_option maxHeartbeats 4000000
namespace Mv
open PySem PySem.Spec PyProof.Rows L2
local macro_rules | `(tactic| walk_at "mv") => `(tactic| try simp only [↓w_cst, ↓w_var, ↓w_mv, ↓w_fz, ↓w_frz, ↓w_bin, ↓w_un, ↓w_binV, ↓w_if, ↓w_asB, ↓w_yes, ↓w_not, ↓w_and, ↓w_or, ↓w_andE, ↓w_orE, ↓w_notE, ↓w_chain, ↓w_nil, ↓w_cons, ↓w_tup, ↓w_lst, ↓w_pl, ↓w_mut, ↓w_c0, ↓w_ce, ↓w_cv, ↓w_call', ↓wb_0, ↓wb_e, ↓wb_v, wb_e', ↓wo_leaf, ↓wo_ls, ↓wo_dic, ↓wo_dct, ↓wo_st, ↓wo_s, own_0, own_s, oi_0, oi_e, oi_v, isl_st, isl_leaf, isl_ls, Bool.not_false, Bool.not_true, List.nodup_cons, List.nodup_nil, List.not_mem_nil, not_false_eq_true, ↓w_seq, ↓w_skip, ↓w_brk, ↓w_cont, ↓w_retN, ↓w_set, ↓w_drop, ↓w_ret, ↓w_retV, ↓w_ifS, ↓w_fzS, ↓w_asg, ↓w_gN, ↓w_gT, ↓w_gNl, ↓w_gCn, ↓w_gSub, ↓w_par, ↓w_aug, ↓w_int, ↓w_slice, ↓w_rng1, ↓w_rng2, ↓w_seqI, ↓w_comp, ↓w_for,
  ↓sl_0, ↓sl_s, ↓fr_leaf, ↓fr_ls, ↓ok_t, ↓ok_l, ↓br_t, ↓br_f, decide_true, decide_false, Int.reduceEq, ↓bl_b, ↓il_b, ↓le_l, ↓gp_top, ↓cl_0, ↓cl_e, ↓cl_v, ↓nxt_nx, ↓nxt_rt, ↓nxt_bk, ↓nxt_ct, ↓sa_0, ↓sa_s, ↓rg1_i, ↓rg2_i, ↓itm_l, ↓itm_t, ↓itm_o, ↓fin_rt, ↓fin_nx, ↓lpk_nx, ↓lpk_ct, ↓lpk_bk, ↓lpk_rt, ↓wcl_nil, ↓wf_nil,
  ↓w_enum, ↓w_zip, ↓enm_l, ↓enm_o, ↓zp_ll, ↓zp_lo, ↓zp_ol, ↓zp_oo, ↓zp_tt, ↓p_isLTi, ↓p_isLTn, ↓p_isSi, ↓p_isBn, ↓p_extend, p_extendS, p_appendS, List.isEmpty_nil, ↓w_dicO, ↓dicO_list, zip_cc, zip_nn, ↓at_0, ↓at_1, ↓at_2, ↓at_3, ↓at_4, p_insertS, ↓p_mulO, ↓p_repB, ↓p_rep0, ↓p_rep1, ↓w_while, ↓p_insert, ↓at_last, ↓put_last, ↓p_inl, ↓p_inL, ↓p_ninl, ↓p_ninL, ↓p_eqP0, ↓p_neP0, ↓p_neA, ↓p_eq00, ↓p_ne00, ↓p_ixp0, ↓p_ixp1, ↓w_gTp, ↓p_isLTb, ↓p_isLTs, ↓p_isIb, ↓p_isBb, ↓p_isSb, ↓p_isLb, ↓p_isTb, ↓p_isIs, ↓p_isBs, ↓p_isSs, ↓p_isLs, ↓p_isTs, ↓p_isLi, ↓p_isTi, ↓p_isLn, ↓p_isTn, ↓p_isSn, ↓p_isNb, ↓p_isNs, ↓p_isNt, ↓p_isNl, ↓p_isNp, ↓p_eqTT, ↓p_eqTF, ↓p_eqFT, ↓p_eqFF, ↓p_neTT, ↓p_neTF, ↓p_neFT, ↓p_neFF, ↓p_eqBs, ↓p_eqSs, ↓p_eqIs, ↓w_chain4, ↓p_lrg1, ↓p_lrg2, ↓p_maxL, ↓p_maxl, ↓p_minL, ↓p_minl, ↓w_getE, ↓w_emptyK, ↓w_emptyT, ↓p_dixi, ↓p_dixs, ↓p_dini, ↓p_dins, ↓p_dgi, ↓p_dgs, ↓p_dputi, ↓p_dputs, ↓p_extA, ↓p_extAl, p_extAS, p_extASl, ↓w_bor, fl_b, fl_i, fl_n, fl_s, ↓w_enumA, ↓enma_l, ↓enma_t, ↓enma_o, eq_self, ↓w_strM, ↓sv_s, ↓p_eqS, ↓p_neS, ↓p_isTp, ↓p_lenp, ↓itm_p, ↓p_neBs, line_racks, racks_line, ↓p_sub, ↓p_add, ↓p_ipadd, ↓p_mul, ↓p_div, ↓p_mod, ↓p_pow, ↓p_neg, ↓p_eq, ↓p_ne, ↓p_lt, ↓p_gt, ↓p_le, ↓p_ge, ↓p_max, ↓p_min, ↓p_abs, ↓p_intI, ↓p_intB, ↓p_isaI, ↓p_isaB, ↓p_isaNI, ↓p_isNI, ↓p_isNN, ↓p_isNo, ↓p_eqo, ↓p_neo, ↓p_divmod, ↓p_catL, ↓p_catLl, ↓p_catlL, ↓p_catll, ↓p_len, ↓p_lenl, ↓p_lent, ↓p_list, ↓p_listl, ↓p_listt, ↓p_tuple, ↓p_tuplel, ↓p_tuplet, ↓p_rev, ↓p_revl, ↓p_ix, ↓p_ixl, ↓p_ixt, ↓p_append, ↓p_reverse, ↓p_sum, ↓p_suml, ↓p_any, ↓p_all, ↓p_eqLL, ↓p_eqLl, ↓p_eqlL, ↓p_eqll, ↓p_eqL0, ↓p_eql0, ↓p_neLL, ↓p_neLl, ↓p_nelL, ↓p_nell, ↓p_neL0, ↓p_nel0,
  ↓gp_cells, ↓gp_turn, ↓put_turn, ↓put_cells, ↓putP_top, wipeE, lv_0, lv_s,
  List.set_cons_zero, List.set_cons_succ, List.length_cons, List.length_nil, List.map_cons, List.map_nil, finR, List.replicate, List.replicate_succ, List.replicate_zero, List.cons_append, List.nil_append, true_and, and_true, List.tail_cons, List.head?_cons, Option.join_some, List.contains_nil, Bool.false_eq_true, if_false, if_true, List.all_nil, and_self, Int.reduceToNat, Int.reducePow, Nat.reduceSub, Nat.reduceAdd, Int.reduceAdd, Int.reduceMul, Int.reduceSub, Int.reduceNeg, Int.reduceLT, Int.reduceLE, Int.natAbs, Nat.reduceLT, Nat.reduceLeDiff, Nat.reducePow])
local macro_rules | `(tactic| walk_at "mve") => `(tactic| try simp only [↓w_cst, ↓w_var, ↓w_mv, ↓w_fz, ↓w_frz, ↓w_bin, ↓w_un, ↓w_binV, ↓w_asB, ↓w_yes, ↓w_not, ↓w_and, ↓w_or, ↓w_andE, ↓w_orE, ↓w_notE, ↓w_chain, ↓w_nil, ↓w_cons, ↓w_tup, ↓w_lst, ↓w_pl, ↓w_mut, ↓w_c0, ↓w_ce, ↓w_cv, ↓w_call', ↓wb_0, ↓wb_e, ↓wb_v, wb_e', ↓wo_leaf, ↓wo_ls, ↓wo_dic, ↓wo_dct, ↓wo_st, ↓wo_s, own_0, own_s, oi_0, oi_e, oi_v, isl_st, isl_leaf, isl_ls, Bool.not_false, Bool.not_true, List.nodup_cons, List.nodup_nil, List.not_mem_nil, not_false_eq_true, ↓w_seq, ↓w_skip, ↓w_brk, ↓w_cont, ↓w_retN, ↓w_set, ↓w_drop, ↓w_ret, ↓w_retV, ↓w_ifS, ↓w_fzS, ↓w_asg, ↓w_gN, ↓w_gT, ↓w_gNl, ↓w_gCn, ↓w_gSub, ↓w_par, ↓w_aug, ↓w_int, ↓w_slice, ↓w_rng1, ↓w_rng2, ↓w_seqI, ↓w_comp, ↓w_for,
  ↓sl_0, ↓sl_s, ↓fr_leaf, ↓fr_ls, ↓ok_t, ↓ok_l, ↓br_t, ↓br_f, decide_true, decide_false, Int.reduceEq, ↓bl_b, ↓il_b, ↓le_l, ↓gp_top, ↓cl_0, ↓cl_e, ↓cl_v, ↓nxt_nx, ↓nxt_rt, ↓nxt_bk, ↓nxt_ct, ↓sa_0, ↓sa_s, ↓rg1_i, ↓rg2_i, ↓itm_l, ↓itm_t, ↓itm_o, ↓fin_rt, ↓fin_nx, ↓lpk_nx, ↓lpk_ct, ↓lpk_bk, ↓lpk_rt, ↓wcl_nil, ↓wf_nil,
  ↓w_enum, ↓w_zip, ↓enm_l, ↓enm_o, ↓zp_ll, ↓zp_lo, ↓zp_ol, ↓zp_oo, ↓zp_tt, ↓p_isLTi, ↓p_isLTn, ↓p_isSi, ↓p_isBn, ↓p_extend, p_extendS, p_appendS, List.isEmpty_nil, ↓w_dicO, ↓dicO_list, zip_cc, zip_nn, ↓at_0, ↓at_1, ↓at_2, ↓at_3, ↓at_4, p_insertS, ↓p_mulO, ↓p_repB, ↓p_rep0, ↓p_rep1, ↓w_while, ↓p_insert, ↓at_last, ↓put_last, ↓p_inl, ↓p_inL, ↓p_ninl, ↓p_ninL, ↓p_eqP0, ↓p_neP0, ↓p_neA, ↓p_eq00, ↓p_ne00, ↓p_ixp0, ↓p_ixp1, ↓w_gTp, ↓p_isLTb, ↓p_isLTs, ↓p_isIb, ↓p_isBb, ↓p_isSb, ↓p_isLb, ↓p_isTb, ↓p_isIs, ↓p_isBs, ↓p_isSs, ↓p_isLs, ↓p_isTs, ↓p_isLi, ↓p_isTi, ↓p_isLn, ↓p_isTn, ↓p_isSn, ↓p_isNb, ↓p_isNs, ↓p_isNt, ↓p_isNl, ↓p_isNp, ↓p_eqTT, ↓p_eqTF, ↓p_eqFT, ↓p_eqFF, ↓p_neTT, ↓p_neTF, ↓p_neFT, ↓p_neFF, ↓p_eqBs, ↓p_eqSs, ↓p_eqIs, ↓w_chain4, ↓p_lrg1, ↓p_lrg2, ↓p_maxL, ↓p_maxl, ↓p_minL, ↓p_minl, ↓w_getE, ↓w_emptyK, ↓w_emptyT, ↓p_dixi, ↓p_dixs, ↓p_dini, ↓p_dins, ↓p_dgi, ↓p_dgs, ↓p_dputi, ↓p_dputs, ↓p_extA, ↓p_extAl, p_extAS, p_extASl, ↓w_bor, fl_b, fl_i, fl_n, fl_s, ↓w_enumA, ↓enma_l, ↓enma_t, ↓enma_o, eq_self, ↓w_strM, ↓sv_s, ↓p_eqS, ↓p_neS, ↓p_isTp, ↓p_lenp, ↓itm_p, ↓p_neBs, line_racks, racks_line, ↓p_sub, ↓p_add, ↓p_ipadd, ↓p_mul, ↓p_div, ↓p_mod, ↓p_pow, ↓p_neg, ↓p_eq, ↓p_ne, ↓p_lt, ↓p_gt, ↓p_le, ↓p_ge, ↓p_max, ↓p_min, ↓p_abs, ↓p_intI, ↓p_intB, ↓p_isaI, ↓p_isaB, ↓p_isaNI, ↓p_isNI, ↓p_isNN, ↓p_isNo, ↓p_eqo, ↓p_neo, ↓p_divmod, ↓p_catL, ↓p_catLl, ↓p_catlL, ↓p_catll, ↓p_len, ↓p_lenl, ↓p_lent, ↓p_list, ↓p_listl, ↓p_listt, ↓p_tuple, ↓p_tuplel, ↓p_tuplet, ↓p_rev, ↓p_revl, ↓p_ix, ↓p_ixl, ↓p_ixt, ↓p_append, ↓p_reverse, ↓p_sum, ↓p_suml, ↓p_any, ↓p_all, ↓p_eqLL, ↓p_eqLl, ↓p_eqlL, ↓p_eqll, ↓p_eqL0, ↓p_eql0, ↓p_neLL, ↓p_neLl, ↓p_nelL, ↓p_nell, ↓p_neL0, ↓p_nel0,
  ↓gp_cells, ↓gp_turn, ↓put_turn, ↓put_cells, ↓putP_top, wipeE, lv_0, lv_s,
  List.set_cons_zero, List.set_cons_succ, List.length_cons, List.length_nil, List.map_cons, List.map_nil, finR, List.replicate, List.replicate_succ, List.replicate_zero, List.cons_append, List.nil_append, true_and, and_true, List.tail_cons, List.head?_cons, Option.join_some, List.contains_nil, Bool.false_eq_true, if_false, if_true, List.all_nil, and_self, Int.reduceToNat, Int.reducePow, Nat.reduceSub, Nat.reduceAdd, Int.reduceAdd, Int.reduceMul, Int.reduceSub, Int.reduceNeg, Int.reduceLT, Int.reduceLE, Int.natAbs, Nat.reduceLT, Nat.reduceLeDiff, Nat.reducePow])
local macro_rules | `(tactic| walk_at "mv1") => `(tactic| try simp only [↓ok_t, ↓ok_l, ↓nxt_nx, ↓nxt_rt, ↓w_seq, ↓fin_rt, ↓fin_nx, ↓lpk_nx, ↓lpk_ct, ↓lpk_bk, ↓lpk_rt, wipeE, List.set_cons_zero, List.set_cons_succ, true_and, and_true])
local macro_rules | `(tactic| walk_at "mvs") => `(tactic| try simp only [↓sl_0, ↓sl_s, ↓fr_leaf, ↓fr_ls, ↓ok_t, ↓ok_l, ↓nxt_nx, ↓nxt_rt, ↓w_seq, ↓fin_rt, ↓fin_nx, ↓lpk_nx, ↓lpk_ct, ↓lpk_bk, ↓lpk_rt, wipeE, List.set_cons_zero, List.set_cons_succ, true_and, and_true])
local macro_rules | `(tactic| walk_at "mvp") => `(tactic| try simp only [↓w_cst, ↓w_var, ↓w_mv, ↓w_fz, ↓w_frz, ↓w_bin, ↓w_un, ↓w_binV, ↓w_if, ↓w_asB, ↓w_yes, ↓w_not, ↓w_and, ↓w_or, ↓w_andE, ↓w_orE, ↓w_notE, ↓w_chain, ↓w_nil, ↓w_cons, ↓w_tup, ↓w_lst, ↓w_pl, ↓w_mut, ↓w_c0, ↓w_ce, ↓w_cv, ↓w_call', ↓wb_0, ↓wb_e, ↓wb_v, wb_e', ↓wo_leaf, ↓wo_ls, ↓wo_dic, ↓wo_dct, ↓wo_st, ↓wo_s, own_0, own_s, oi_0, oi_e, oi_v, isl_st, isl_leaf, isl_ls, Bool.not_false, Bool.not_true, List.nodup_cons, List.nodup_nil, List.not_mem_nil, not_false_eq_true, ↓w_seq, ↓w_skip, ↓w_brk, ↓w_cont, ↓w_retN, ↓w_set, ↓w_drop, ↓w_ret, ↓w_retV, ↓w_fzS, ↓w_asg, ↓w_gN, ↓w_gT, ↓w_gNl, ↓w_gCn, ↓w_gSub, ↓w_par, ↓w_aug, ↓w_int, ↓w_slice, ↓w_rng1, ↓w_rng2, ↓w_seqI, ↓w_comp, ↓w_for,
  ↓sl_0, ↓sl_s, ↓fr_leaf, ↓fr_ls, ↓ok_t, ↓ok_l, ↓br_t, ↓br_f, decide_true, decide_false, Int.reduceEq, ↓bl_b, ↓il_b, ↓le_l, ↓gp_top, ↓cl_0, ↓cl_e, ↓cl_v, ↓nxt_nx, ↓nxt_rt, ↓nxt_bk, ↓nxt_ct, ↓sa_0, ↓sa_s, ↓rg1_i, ↓rg2_i, ↓itm_l, ↓itm_t, ↓itm_o, ↓fin_rt, ↓fin_nx, ↓lpk_nx, ↓lpk_ct, ↓lpk_bk, ↓lpk_rt, ↓wcl_nil, ↓wf_nil,
  ↓w_enum, ↓w_zip, ↓enm_l, ↓enm_o, ↓zp_ll, ↓zp_lo, ↓zp_ol, ↓zp_oo, ↓zp_tt, ↓p_isLTi, ↓p_isLTn, ↓p_isSi, ↓p_isBn, ↓p_extend, p_extendS, p_appendS, List.isEmpty_nil, ↓w_dicO, ↓dicO_list, zip_cc, zip_nn, ↓at_0, ↓at_1, ↓at_2, ↓at_3, ↓at_4, p_insertS, ↓p_mulO, ↓p_repB, ↓p_rep0, ↓p_rep1, ↓w_while, ↓p_insert, ↓at_last, ↓put_last, ↓p_inl, ↓p_inL, ↓p_ninl, ↓p_ninL, ↓p_eqP0, ↓p_neP0, ↓p_neA, ↓p_eq00, ↓p_ne00, ↓p_ixp0, ↓p_ixp1, ↓w_gTp, ↓p_isLTb, ↓p_isLTs, ↓p_isIb, ↓p_isBb, ↓p_isSb, ↓p_isLb, ↓p_isTb, ↓p_isIs, ↓p_isBs, ↓p_isSs, ↓p_isLs, ↓p_isTs, ↓p_isLi, ↓p_isTi, ↓p_isLn, ↓p_isTn, ↓p_isSn, ↓p_isNb, ↓p_isNs, ↓p_isNt, ↓p_isNl, ↓p_isNp, ↓p_eqTT, ↓p_eqTF, ↓p_eqFT, ↓p_eqFF, ↓p_neTT, ↓p_neTF, ↓p_neFT, ↓p_neFF, ↓p_eqBs, ↓p_eqSs, ↓p_eqIs, ↓w_chain4, ↓p_lrg1, ↓p_lrg2, ↓p_maxL, ↓p_maxl, ↓p_minL, ↓p_minl, ↓w_getE, ↓w_emptyK, ↓w_emptyT, ↓p_dixi, ↓p_dixs, ↓p_dini, ↓p_dins, ↓p_dgi, ↓p_dgs, ↓p_dputi, ↓p_dputs, ↓p_extA, ↓p_extAl, p_extAS, p_extASl, ↓w_bor, fl_b, fl_i, fl_n, fl_s, ↓w_enumA, ↓enma_l, ↓enma_t, ↓enma_o, eq_self, ↓w_strM, ↓sv_s, ↓p_eqS, ↓p_neS, ↓p_isTp, ↓p_lenp, ↓itm_p, ↓p_neBs, line_racks, racks_line, ↓p_sub, ↓p_add, ↓p_ipadd, ↓p_mul, ↓p_div, ↓p_mod, ↓p_pow, ↓p_neg, ↓p_eq, ↓p_ne, ↓p_lt, ↓p_gt, ↓p_le, ↓p_ge, ↓p_max, ↓p_min, ↓p_abs, ↓p_intI, ↓p_intB, ↓p_isaI, ↓p_isaB, ↓p_isaNI, ↓p_isNI, ↓p_isNN, ↓p_isNo, ↓p_eqo, ↓p_neo, ↓p_divmod, ↓p_catL, ↓p_catLl, ↓p_catlL, ↓p_catll, ↓p_len, ↓p_lenl, ↓p_lent, ↓p_list, ↓p_listl, ↓p_listt, ↓p_tuple, ↓p_tuplel, ↓p_tuplet, ↓p_rev, ↓p_revl, ↓p_ix, ↓p_ixl, ↓p_ixt, ↓p_append, ↓p_reverse, ↓p_sum, ↓p_suml, ↓p_any, ↓p_all, ↓p_eqLL, ↓p_eqLl, ↓p_eqlL, ↓p_eqll, ↓p_eqL0, ↓p_eql0, ↓p_neLL, ↓p_neLl, ↓p_nelL, ↓p_nell, ↓p_neL0, ↓p_nel0,
  ↓gp_cells, ↓gp_turn, ↓put_turn, ↓put_cells, ↓putP_top, wipeE, lv_0, lv_s,
  List.set_cons_zero, List.set_cons_succ, List.length_cons, List.length_nil, List.map_cons, List.map_nil, finR, List.replicate, List.replicate_succ, List.replicate_zero, List.cons_append, List.nil_append, true_and, and_true, List.tail_cons, List.head?_cons, Option.join_some, List.contains_nil, Bool.false_eq_true, if_false, if_true, List.all_nil, and_self, Int.reduceToNat, Int.reducePow, Nat.reduceSub, Nat.reduceAdd, Int.reduceAdd, Int.reduceMul, Int.reduceSub, Int.reduceNeg, Int.reduceLT, Int.reduceLE, Int.natAbs, Nat.reduceLT, Nat.reduceLeDiff, Nat.reducePow])
/-! ### a < b < c < d -/
section
variable {X : Cx} {a b c d : Expr} {f1 f2 f3 f4 : ESem} {q1 q2 q3 q4 m1 m2 m3 m4 : Bool} {pos : Pos}
def tChain4 (r r' r'' : R2) (ta tb tc td : TE) : TE := fun σ H Q => ta σ H fun x H1 => tb σ H1 fun y H2 => r x y H2 fun z H3 => ∃ k, z = .bl k ∧
  (if k = true then tc σ H3 fun w' H4 => r' y w' H4 fun z' H5 => ∃ k', z' = .bl k' ∧ (if k' = true then td σ H5 fun u H6 => r'' w' u H6 Q else Q (.bl false) H5) else Q (.bl false) H3)
/-- all four quiet and plain -/
def chain4E (f1 f2 f3 f4 : ESem) (g g' g'' : O → O → Option O) : ESem := fun env => (f1 env).bind fun p => (f2 p.2).bind fun r =>
  if (p.1.isLeaf && r.1.isLeaf) = true then (g p.1 r.1).bind fun z => match z with
    | .leaf (.bool true) => (f3 r.2).bind fun t => if t.1.isLeaf = true then (g' r.1 t.1).bind fun z' => match z' with
      | .leaf (.bool true) => (f4 t.2).bind fun u => if u.1.isLeaf = true then (g'' t.1 u.1).bind fun w => if w.isLeaf = true then some (w, u.2) else none else none
      | .leaf (.bool false) => some (.leaf (.bool false), t.2)
      | _ => none else none
    | .leaf (.bool false) => some (.leaf (.bool false), r.2)
    | _ => none
  else none
/-- the plain rule -/
theorem w_chain4 {g g' g'' : O → O → Option O} {env : Mv.Env} {Q : O → Mv.Env → Prop} : We (chain4E f1 f2 f3 f4 g g' g'') env Q ↔ We f1 env fun a e1 => We f2 e1 fun b e2 => (Ok false a ∧ Ok false b) ∧ Op2 g a b fun z => Bl z fun k => Br k
    (We f3 e2 fun c e3 => Ok false c ∧ Op2 g' b c fun z' => Bl z' fun k' => Br k' (We f4 e3 fun d e4 => Ok false d ∧ Op2 g'' c d fun w => Ok false w ∧ Q w e4) (Q (.leaf (.bool false)) e3)) (Q (.leaf (.bool false)) e2) := by
  unfold We chain4E Op2 Bl Ok Br
  cases h : f1 env with
  | none => rfl
  | some p =>
    simp only [Option.bind_some, o2_s]
    cases h2 : f2 p.2 with
    | none => rfl
    | some r =>
      simp only [Option.bind_some, o2_s, Bool.false_or]
      by_cases h3 : (p.1.isLeaf && r.1.isLeaf) = true
      · have h3' : p.1.isLeaf = true ∧ r.1.isLeaf = true := by simpa using h3
        simp only [h3, h3'.1, h3'.2, if_true, true_and, and_self]
        cases h4 : g p.1 r.1 with
        | none => rfl
        | some z =>
          simp only [Option.bind_some, o1_s]
          cases z with
          | leaf t =>
            cases t with
            | bool b =>
              cases b
              · rfl
              · simp only [if_true]
                cases h5 : f3 r.2 with
                | none => rfl
                | some q =>
                  simp only [Option.bind_some, o2_s]
                  by_cases h6 : q.1.isLeaf = true
                  · simp only [h6, if_true, true_and]
                    cases h7 : g' r.1 q.1 with
                    | none => rfl
                    | some z' =>
                      simp only [Option.bind_some, o1_s]
                      cases z' with
                      | leaf t' =>
                        cases t' with
                        | bool b' =>
                          cases b'
                          · rfl
                          · simp only [if_true]
                            cases h8 : f4 q.2 with
                            | none => rfl
                            | some u =>
                              simp only [Option.bind_some, o2_s]
                              by_cases h9 : u.1.isLeaf = true
                              · simp only [h9, if_true, true_and]
                                cases h10 : g'' q.1 u.1 with
                                | none => rfl
                                | some w =>
                                  simp only [Option.bind_some, o1_s]
                                  by_cases h11 : w.isLeaf = true
                                  · simp only [h11, if_true, true_and]; exact Iff.rfl
                                  · simp [h11, o2_n]
                              · simp [h9, o2_n]
                        | _ => rfl
                      | _ => rfl
                  · simp [h6, o2_n]
            | _ => rfl
          | _ => rfl
      · have h3' : ¬(p.1.isLeaf = true ∧ r.1.isLeaf = true) := by simpa using h3
        simp [h3, h3', o1_n, o2_n]
end

end Mv

set_option Elab.async false
set_option linter.all false
set_option maxRecDepth 100000
set_option maxHeartbeats 4000000
namespace Mv
open PySem PySem.Spec PyProof.Rows L2
local macro_rules | `(tactic| walk_at "mv") => `(tactic| try simp only [↓w_cst, ↓w_var, ↓w_mv, ↓w_fz, ↓w_frz, ↓w_bin, ↓w_un, ↓w_binV, ↓w_if, ↓w_asB, ↓w_yes, ↓w_not, ↓w_and, ↓w_or, ↓w_andE, ↓w_orE, ↓w_notE, ↓w_chain, ↓w_nil, ↓w_cons, ↓w_tup, ↓w_lst, ↓w_pl, ↓w_mut, ↓w_c0, ↓w_ce, ↓w_cv, ↓w_call', ↓wb_0, ↓wb_e, ↓wb_v, wb_e', ↓wo_leaf, ↓wo_ls, ↓wo_dic, ↓wo_dct, ↓wo_st, ↓wo_s, own_0, own_s, oi_0, oi_e, oi_v, isl_st, isl_leaf, isl_ls, Bool.not_false, Bool.not_true, List.nodup_cons, List.nodup_nil, List.not_mem_nil, not_false_eq_true, ↓w_seq, ↓w_skip, ↓w_brk, ↓w_cont, ↓w_retN, ↓w_set, ↓w_drop, ↓w_ret, ↓w_retV, ↓w_ifS, ↓w_fzS, ↓w_asg, ↓w_gN, ↓w_gT, ↓w_gNl, ↓w_gCn, ↓w_gSub, ↓w_par, ↓w_aug, ↓w_int, ↓w_slice, ↓w_rng1, ↓w_rng2, ↓w_seqI, ↓w_comp, ↓w_for,
  ↓sl_0, ↓sl_s, ↓fr_leaf, ↓fr_ls, ↓ok_t, ↓ok_l, ↓br_t, ↓br_f, decide_true, decide_false, Int.reduceEq, ↓bl_b, ↓il_b, ↓le_l, ↓gp_top, ↓cl_0, ↓cl_e, ↓cl_v, ↓nxt_nx, ↓nxt_rt, ↓nxt_bk, ↓nxt_ct, ↓sa_0, ↓sa_s, ↓rg1_i, ↓rg2_i, ↓itm_l, ↓itm_t, ↓itm_o, ↓fin_rt, ↓fin_nx, ↓lpk_nx, ↓lpk_ct, ↓lpk_bk, ↓lpk_rt, ↓wcl_nil, ↓wf_nil,
  ↓w_enum, ↓w_zip, ↓enm_l, ↓enm_o, ↓zp_ll, ↓zp_lo, ↓zp_ol, ↓zp_oo, ↓zp_tt, ↓p_isLTi, ↓p_isLTn, ↓p_isSi, ↓p_isBn, ↓p_extend, p_extendS, p_appendS, List.isEmpty_nil, ↓w_dicO, ↓dicO_list, zip_cc, zip_nn, ↓at_0, ↓at_1, ↓at_2, ↓at_3, ↓at_4, p_insertS, ↓p_mulO, ↓p_repB, ↓p_rep0, ↓p_rep1, ↓w_while, ↓p_insert, ↓at_last, ↓put_last, ↓p_inl, ↓p_inL, ↓p_ninl, ↓p_ninL, ↓p_eqP0, ↓p_neP0, ↓p_neA, ↓p_eq00, ↓p_ne00, ↓p_ixp0, ↓p_ixp1, ↓w_gTp, ↓p_isLTb, ↓p_isLTs, ↓p_isIb, ↓p_isBb, ↓p_isSb, ↓p_isLb, ↓p_isTb, ↓p_isIs, ↓p_isBs, ↓p_isSs, ↓p_isLs, ↓p_isTs, ↓p_isLi, ↓p_isTi, ↓p_isLn, ↓p_isTn, ↓p_isSn, ↓p_isNb, ↓p_isNs, ↓p_isNt, ↓p_isNl, ↓p_isNp, ↓p_eqTT, ↓p_eqTF, ↓p_eqFT, ↓p_eqFF, ↓p_neTT, ↓p_neTF, ↓p_neFT, ↓p_neFF, ↓p_eqBs, ↓p_eqSs, ↓p_eqIs, ↓w_chain4, ↓p_lrg1, ↓p_lrg2, ↓p_maxL, ↓p_maxl, ↓p_minL, ↓p_minl, ↓w_getE, ↓w_emptyK, ↓w_emptyT, ↓p_dixi, ↓p_dixs, ↓p_dini, ↓p_dins, ↓p_dgi, ↓p_dgs, ↓p_dputi, ↓p_dputs, ↓p_extA, ↓p_extAl, p_extAS, p_extASl, ↓w_bor, fl_b, fl_i, fl_n, fl_s, ↓w_enumA, ↓enma_l, ↓enma_t, ↓enma_o, eq_self, ↓w_strM, ↓sv_s, ↓p_eqS, ↓p_neS, ↓p_isTp, ↓p_lenp, ↓itm_p, ↓p_neBs, line_racks, racks_line, ↓p_sub, ↓p_add, ↓p_ipadd, ↓p_mul, ↓p_div, ↓p_mod, ↓p_pow, ↓p_neg, ↓p_eq, ↓p_ne, ↓p_lt, ↓p_gt, ↓p_le, ↓p_ge, ↓p_max, ↓p_min, ↓p_abs, ↓p_intI, ↓p_intB, ↓p_isaI, ↓p_isaB, ↓p_isaNI, ↓p_isNI, ↓p_isNN, ↓p_isNo, ↓p_eqo, ↓p_neo, ↓p_divmod, ↓p_catL, ↓p_catLl, ↓p_catlL, ↓p_catll, ↓p_len, ↓p_lenl, ↓p_lent, ↓p_list, ↓p_listl, ↓p_listt, ↓p_tuple, ↓p_tuplel, ↓p_tuplet, ↓p_rev, ↓p_revl, ↓p_ix, ↓p_ixl, ↓p_ixt, ↓p_append, ↓p_reverse, ↓p_sum, ↓p_suml, ↓p_any, ↓p_all, ↓p_eqLL, ↓p_eqLl, ↓p_eqlL, ↓p_eqll, ↓p_eqL0, ↓p_eql0, ↓p_neLL, ↓p_neLl, ↓p_nelL, ↓p_nell, ↓p_neL0, ↓p_nel0,
  ↓gp_cells, ↓gp_turn, ↓put_turn, ↓put_cells, ↓putP_top, wipeE, lv_0, lv_s,
  List.set_cons_zero, List.set_cons_succ, List.length_cons, List.length_nil, List.map_cons, List.map_nil, finR, List.replicate, List.replicate_succ, List.replicate_zero, List.cons_append, List.nil_append, true_and, and_true, List.tail_cons, List.head?_cons, Option.join_some, List.contains_nil, Bool.false_eq_true, if_false, if_true, List.all_nil, and_self, Int.reduceToNat, Int.reducePow, Nat.reduceSub, Nat.reduceAdd, Int.reduceAdd, Int.reduceMul, Int.reduceSub, Int.reduceNeg, Int.reduceLT, Int.reduceLE, Int.natAbs, Nat.reduceLT, Nat.reduceLeDiff, Nat.reducePow])
local macro_rules | `(tactic| walk_at "mve") => `(tactic| try simp only [↓w_cst, ↓w_var, ↓w_mv, ↓w_fz, ↓w_frz, ↓w_bin, ↓w_un, ↓w_binV, ↓w_asB, ↓w_yes, ↓w_not, ↓w_and, ↓w_or, ↓w_andE, ↓w_orE, ↓w_notE, ↓w_chain, ↓w_nil, ↓w_cons, ↓w_tup, ↓w_lst, ↓w_pl, ↓w_mut, ↓w_c0, ↓w_ce, ↓w_cv, ↓w_call', ↓wb_0, ↓wb_e, ↓wb_v, wb_e', ↓wo_leaf, ↓wo_ls, ↓wo_dic, ↓wo_dct, ↓wo_st, ↓wo_s, own_0, own_s, oi_0, oi_e, oi_v, isl_st, isl_leaf, isl_ls, Bool.not_false, Bool.not_true, List.nodup_cons, List.nodup_nil, List.not_mem_nil, not_false_eq_true, ↓w_seq, ↓w_skip, ↓w_brk, ↓w_cont, ↓w_retN, ↓w_set, ↓w_drop, ↓w_ret, ↓w_retV, ↓w_ifS, ↓w_fzS, ↓w_asg, ↓w_gN, ↓w_gT, ↓w_gNl, ↓w_gCn, ↓w_gSub, ↓w_par, ↓w_aug, ↓w_int, ↓w_slice, ↓w_rng1, ↓w_rng2, ↓w_seqI, ↓w_comp, ↓w_for,
  ↓sl_0, ↓sl_s, ↓fr_leaf, ↓fr_ls, ↓ok_t, ↓ok_l, ↓br_t, ↓br_f, decide_true, decide_false, Int.reduceEq, ↓bl_b, ↓il_b, ↓le_l, ↓gp_top, ↓cl_0, ↓cl_e, ↓cl_v, ↓nxt_nx, ↓nxt_rt, ↓nxt_bk, ↓nxt_ct, ↓sa_0, ↓sa_s, ↓rg1_i, ↓rg2_i, ↓itm_l, ↓itm_t, ↓itm_o, ↓fin_rt, ↓fin_nx, ↓lpk_nx, ↓lpk_ct, ↓lpk_bk, ↓lpk_rt, ↓wcl_nil, ↓wf_nil,
  ↓w_enum, ↓w_zip, ↓enm_l, ↓enm_o, ↓zp_ll, ↓zp_lo, ↓zp_ol, ↓zp_oo, ↓zp_tt, ↓p_isLTi, ↓p_isLTn, ↓p_isSi, ↓p_isBn, ↓p_extend, p_extendS, p_appendS, List.isEmpty_nil, ↓w_dicO, ↓dicO_list, zip_cc, zip_nn, ↓at_0, ↓at_1, ↓at_2, ↓at_3, ↓at_4, p_insertS, ↓p_mulO, ↓p_repB, ↓p_rep0, ↓p_rep1, ↓w_while, ↓p_insert, ↓at_last, ↓put_last, ↓p_inl, ↓p_inL, ↓p_ninl, ↓p_ninL, ↓p_eqP0, ↓p_neP0, ↓p_neA, ↓p_eq00, ↓p_ne00, ↓p_ixp0, ↓p_ixp1, ↓w_gTp, ↓p_isLTb, ↓p_isLTs, ↓p_isIb, ↓p_isBb, ↓p_isSb, ↓p_isLb, ↓p_isTb, ↓p_isIs, ↓p_isBs, ↓p_isSs, ↓p_isLs, ↓p_isTs, ↓p_isLi, ↓p_isTi, ↓p_isLn, ↓p_isTn, ↓p_isSn, ↓p_isNb, ↓p_isNs, ↓p_isNt, ↓p_isNl, ↓p_isNp, ↓p_eqTT, ↓p_eqTF, ↓p_eqFT, ↓p_eqFF, ↓p_neTT, ↓p_neTF, ↓p_neFT, ↓p_neFF, ↓p_eqBs, ↓p_eqSs, ↓p_eqIs, ↓w_chain4, ↓p_lrg1, ↓p_lrg2, ↓p_maxL, ↓p_maxl, ↓p_minL, ↓p_minl, ↓w_getE, ↓w_emptyK, ↓w_emptyT, ↓p_dixi, ↓p_dixs, ↓p_dini, ↓p_dins, ↓p_dgi, ↓p_dgs, ↓p_dputi, ↓p_dputs, ↓p_extA, ↓p_extAl, p_extAS, p_extASl, ↓w_bor, fl_b, fl_i, fl_n, fl_s, ↓w_enumA, ↓enma_l, ↓enma_t, ↓enma_o, eq_self, ↓w_strM, ↓sv_s, ↓p_eqS, ↓p_neS, ↓p_isTp, ↓p_lenp, ↓itm_p, ↓p_neBs, line_racks, racks_line, ↓p_sub, ↓p_add, ↓p_ipadd, ↓p_mul, ↓p_div, ↓p_mod, ↓p_pow, ↓p_neg, ↓p_eq, ↓p_ne, ↓p_lt, ↓p_gt, ↓p_le, ↓p_ge, ↓p_max, ↓p_min, ↓p_abs, ↓p_intI, ↓p_intB, ↓p_isaI, ↓p_isaB, ↓p_isaNI, ↓p_isNI, ↓p_isNN, ↓p_isNo, ↓p_eqo, ↓p_neo, ↓p_divmod, ↓p_catL, ↓p_catLl, ↓p_catlL, ↓p_catll, ↓p_len, ↓p_lenl, ↓p_lent, ↓p_list, ↓p_listl, ↓p_listt, ↓p_tuple, ↓p_tuplel, ↓p_tuplet, ↓p_rev, ↓p_revl, ↓p_ix, ↓p_ixl, ↓p_ixt, ↓p_append, ↓p_reverse, ↓p_sum, ↓p_suml, ↓p_any, ↓p_all, ↓p_eqLL, ↓p_eqLl, ↓p_eqlL, ↓p_eqll, ↓p_eqL0, ↓p_eql0, ↓p_neLL, ↓p_neLl, ↓p_nelL, ↓p_nell, ↓p_neL0, ↓p_nel0,
  ↓gp_cells, ↓gp_turn, ↓put_turn, ↓put_cells, ↓putP_top, wipeE, lv_0, lv_s,
  List.set_cons_zero, List.set_cons_succ, List.length_cons, List.length_nil, List.map_cons, List.map_nil, finR, List.replicate, List.replicate_succ, List.replicate_zero, List.cons_append, List.nil_append, true_and, and_true, List.tail_cons, List.head?_cons, Option.join_some, List.contains_nil, Bool.false_eq_true, if_false, if_true, List.all_nil, and_self, Int.reduceToNat, Int.reducePow, Nat.reduceSub, Nat.reduceAdd, Int.reduceAdd, Int.reduceMul, Int.reduceSub, Int.reduceNeg, Int.reduceLT, Int.reduceLE, Int.natAbs, Nat.reduceLT, Nat.reduceLeDiff, Nat.reducePow])
local macro_rules | `(tactic| walk_at "mv1") => `(tactic| try simp only [↓ok_t, ↓ok_l, ↓nxt_nx, ↓nxt_rt, ↓w_seq, ↓fin_rt, ↓fin_nx, ↓lpk_nx, ↓lpk_ct, ↓lpk_bk, ↓lpk_rt, wipeE, List.set_cons_zero, List.set_cons_succ, true_and, and_true])
local macro_rules | `(tactic| walk_at "mvs") => `(tactic| try simp only [↓sl_0, ↓sl_s, ↓fr_leaf, ↓fr_ls, ↓ok_t, ↓ok_l, ↓nxt_nx, ↓nxt_rt, ↓w_seq, ↓fin_rt, ↓fin_nx, ↓lpk_nx, ↓lpk_ct, ↓lpk_bk, ↓lpk_rt, wipeE, List.set_cons_zero, List.set_cons_succ, true_and, and_true])
local macro_rules | `(tactic| walk_at "mvp") => `(tactic| try simp only [↓w_cst, ↓w_var, ↓w_mv, ↓w_fz, ↓w_frz, ↓w_bin, ↓w_un, ↓w_binV, ↓w_if, ↓w_asB, ↓w_yes, ↓w_not, ↓w_and, ↓w_or, ↓w_andE, ↓w_orE, ↓w_notE, ↓w_chain, ↓w_nil, ↓w_cons, ↓w_tup, ↓w_lst, ↓w_pl, ↓w_mut, ↓w_c0, ↓w_ce, ↓w_cv, ↓w_call', ↓wb_0, ↓wb_e, ↓wb_v, wb_e', ↓wo_leaf, ↓wo_ls, ↓wo_dic, ↓wo_dct, ↓wo_st, ↓wo_s, own_0, own_s, oi_0, oi_e, oi_v, isl_st, isl_leaf, isl_ls, Bool.not_false, Bool.not_true, List.nodup_cons, List.nodup_nil, List.not_mem_nil, not_false_eq_true, ↓w_seq, ↓w_skip, ↓w_brk, ↓w_cont, ↓w_retN, ↓w_set, ↓w_drop, ↓w_ret, ↓w_retV, ↓w_fzS, ↓w_asg, ↓w_gN, ↓w_gT, ↓w_gNl, ↓w_gCn, ↓w_gSub, ↓w_par, ↓w_aug, ↓w_int, ↓w_slice, ↓w_rng1, ↓w_rng2, ↓w_seqI, ↓w_comp, ↓w_for,
  ↓sl_0, ↓sl_s, ↓fr_leaf, ↓fr_ls, ↓ok_t, ↓ok_l, ↓br_t, ↓br_f, decide_true, decide_false, Int.reduceEq, ↓bl_b, ↓il_b, ↓le_l, ↓gp_top, ↓cl_0, ↓cl_e, ↓cl_v, ↓nxt_nx, ↓nxt_rt, ↓nxt_bk, ↓nxt_ct, ↓sa_0, ↓sa_s, ↓rg1_i, ↓rg2_i, ↓itm_l, ↓itm_t, ↓itm_o, ↓fin_rt, ↓fin_nx, ↓lpk_nx, ↓lpk_ct, ↓lpk_bk, ↓lpk_rt, ↓wcl_nil, ↓wf_nil,
  ↓w_enum, ↓w_zip, ↓enm_l, ↓enm_o, ↓zp_ll, ↓zp_lo, ↓zp_ol, ↓zp_oo, ↓zp_tt, ↓p_isLTi, ↓p_isLTn, ↓p_isSi, ↓p_isBn, ↓p_extend, p_extendS, p_appendS, List.isEmpty_nil, ↓w_dicO, ↓dicO_list, zip_cc, zip_nn, ↓at_0, ↓at_1, ↓at_2, ↓at_3, ↓at_4, p_insertS, ↓p_mulO, ↓p_repB, ↓p_rep0, ↓p_rep1, ↓w_while, ↓p_insert, ↓at_last, ↓put_last, ↓p_inl, ↓p_inL, ↓p_ninl, ↓p_ninL, ↓p_eqP0, ↓p_neP0, ↓p_neA, ↓p_eq00, ↓p_ne00, ↓p_ixp0, ↓p_ixp1, ↓w_gTp, ↓p_isLTb, ↓p_isLTs, ↓p_isIb, ↓p_isBb, ↓p_isSb, ↓p_isLb, ↓p_isTb, ↓p_isIs, ↓p_isBs, ↓p_isSs, ↓p_isLs, ↓p_isTs, ↓p_isLi, ↓p_isTi, ↓p_isLn, ↓p_isTn, ↓p_isSn, ↓p_isNb, ↓p_isNs, ↓p_isNt, ↓p_isNl, ↓p_isNp, ↓p_eqTT, ↓p_eqTF, ↓p_eqFT, ↓p_eqFF, ↓p_neTT, ↓p_neTF, ↓p_neFT, ↓p_neFF, ↓p_eqBs, ↓p_eqSs, ↓p_eqIs, ↓w_chain4, ↓p_lrg1, ↓p_lrg2, ↓p_maxL, ↓p_maxl, ↓p_minL, ↓p_minl, ↓w_getE, ↓w_emptyK, ↓w_emptyT, ↓p_dixi, ↓p_dixs, ↓p_dini, ↓p_dins, ↓p_dgi, ↓p_dgs, ↓p_dputi, ↓p_dputs, ↓p_extA, ↓p_extAl, p_extAS, p_extASl, ↓w_bor, fl_b, fl_i, fl_n, fl_s, ↓w_enumA, ↓enma_l, ↓enma_t, ↓enma_o, eq_self, ↓w_strM, ↓sv_s, ↓p_eqS, ↓p_neS, ↓p_isTp, ↓p_lenp, ↓itm_p, ↓p_neBs, line_racks, racks_line, ↓p_sub, ↓p_add, ↓p_ipadd, ↓p_mul, ↓p_div, ↓p_mod, ↓p_pow, ↓p_neg, ↓p_eq, ↓p_ne, ↓p_lt, ↓p_gt, ↓p_le, ↓p_ge, ↓p_max, ↓p_min, ↓p_abs, ↓p_intI, ↓p_intB, ↓p_isaI, ↓p_isaB, ↓p_isaNI, ↓p_isNI, ↓p_isNN, ↓p_isNo, ↓p_eqo, ↓p_neo, ↓p_divmod, ↓p_catL, ↓p_catLl, ↓p_catlL, ↓p_catll, ↓p_len, ↓p_lenl, ↓p_lent, ↓p_list, ↓p_listl, ↓p_listt, ↓p_tuple, ↓p_tuplel, ↓p_tuplet, ↓p_rev, ↓p_revl, ↓p_ix, ↓p_ixl, ↓p_ixt, ↓p_append, ↓p_reverse, ↓p_sum, ↓p_suml, ↓p_any, ↓p_all, ↓p_eqLL, ↓p_eqLl, ↓p_eqlL, ↓p_eqll, ↓p_eqL0, ↓p_eql0, ↓p_neLL, ↓p_neLl, ↓p_nelL, ↓p_nell, ↓p_neL0, ↓p_nel0,
  ↓gp_cells, ↓gp_turn, ↓put_turn, ↓put_cells, ↓putP_top, wipeE, lv_0, lv_s,
  List.set_cons_zero, List.set_cons_succ, List.length_cons, List.length_nil, List.map_cons, List.map_nil, finR, List.replicate, List.replicate_succ, List.replicate_zero, List.cons_append, List.nil_append, true_and, and_true, List.tail_cons, List.head?_cons, Option.join_some, List.contains_nil, Bool.false_eq_true, if_false, if_true, List.all_nil, and_self, Int.reduceToNat, Int.reducePow, Nat.reduceSub, Nat.reduceAdd, Int.reduceAdd, Int.reduceMul, Int.reduceSub, Int.reduceNeg, Int.reduceLT, Int.reduceLE, Int.natAbs, Nat.reduceLT, Nat.reduceLeDiff, Nat.reducePow])
/-! ### cases of a packing against marked tins -/
def inB (l : List Rg) (f la : Int) : Int := match l with
  | [] => 0
  | p :: r => max 0 (min p.2 la - max p.1 f + 1) + inB r f la
/-! the marked tins -/
abbrev MRow := Str × List Rg
def mkS (rows : List MRow) (m : Str) : List Rg := setOf ((rows.filter fun p => decide (p.1 = m)).flatMap (·.2))
def shC (sz : Int) (q : Pa × Int) (r : Rg) : Rg := ((r.1 - q.1.f + q.2) / sz, (r.2 - q.1.f + q.2) / sz)
def cwL (sz : Int) (qs : List (Pa × Int)) (rows : List MRow) : List Rg := qs.flatMap fun q => (bo [(q.1.f, q.1.l)] (mkS rows q.1.k)).map (shC sz q)
def caL (sz : Int) (qs : List (Pa × Int)) (rows : List MRow) : List Rg := qs.flatMap fun q => (wo [(q.1.f, q.1.l)] (mkS rows q.1.k)).map (shC sz q)
def hasOf (rows : List MRow) : List Pa → Int
  | [] => 0
  | p :: r => inB (mkS rows p.k) p.f p.l + hasOf rows r
/-! ### a product with a small factor -/
instance {i j : Int} : Decidable (IntMulOk i j) := by unfold IntMulOk; exact inferInstance
def mulJ : D → D → Option D
  | .int i, .int j => if IntMulOk i j then some (.int (i * j)) else none
  | _, _ => none
section
variable {i j : Int} {Q : O → Prop}
theorem p_mulJ : Op2 (vw2 mulJ) (.leaf (.int i)) (.leaf (.int j)) Q ↔ IntMulOk i j ∧ Q (.leaf (.int (i * j))) := by
  by_cases h : IntMulOk i j <;> simp [Op2, O1, vw2, O.frz, mulJ, h, flatD]
end
/-! ### texts in order -/
def leS (a b : Str) : Bool := !ltCps b.cps.toList a.cps.toList
def sortS (ks : List Str) : List Str := ks.mergeSort leS
/-! ### sorted(d): the keys, texts -/
def strKs : List (Key × O) → Option (List Str)
  | [] => some []
  | (.inr x, _) :: r => (strKs r).map (x :: ·)
  | _ => none
def oSortD : O → Option O
  | .dic kvs => (strKs kvs).bind fun ks => if ks.length < 64 then some (.ls ((sortS ks).map .str)) else none
  | _ => none
end Mv
set_option Elab.async false
set_option linter.all false
set_option maxRecDepth 100000
set_option maxHeartbeats 4000000
namespace Mv
open PySem PySem.Spec PyProof.Rows L2
local macro_rules | `(tactic| walk_at "mv") => `(tactic| try simp only [↓w_cst, ↓w_var, ↓w_mv, ↓w_fz, ↓w_frz, ↓w_bin, ↓w_un, ↓w_binV, ↓w_if, ↓w_asB, ↓w_yes, ↓w_not, ↓w_and, ↓w_or, ↓w_andE, ↓w_orE, ↓w_notE, ↓w_chain, ↓w_nil, ↓w_cons, ↓w_tup, ↓w_lst, ↓w_pl, ↓w_mut, ↓w_c0, ↓w_ce, ↓w_cv, ↓w_call', ↓wb_0, ↓wb_e, ↓wb_v, wb_e', ↓wo_leaf, ↓wo_ls, ↓wo_dic, ↓wo_dct, ↓wo_st, ↓wo_s, own_0, own_s, oi_0, oi_e, oi_v, isl_st, isl_leaf, isl_ls, Bool.not_false, Bool.not_true, List.nodup_cons, List.nodup_nil, List.not_mem_nil, not_false_eq_true, ↓w_seq, ↓w_skip, ↓w_brk, ↓w_cont, ↓w_retN, ↓w_set, ↓w_drop, ↓w_ret, ↓w_retV, ↓w_ifS, ↓w_fzS, ↓w_asg, ↓w_gN, ↓w_gT, ↓w_gNl, ↓w_gCn, ↓w_gSub, ↓w_par, ↓w_aug, ↓w_int, ↓w_slice, ↓w_rng1, ↓w_rng2, ↓w_seqI, ↓w_comp, ↓w_for,
  ↓sl_0, ↓sl_s, ↓fr_leaf, ↓fr_ls, ↓ok_t, ↓ok_l, ↓br_t, ↓br_f, decide_true, decide_false, Int.reduceEq, ↓bl_b, ↓il_b, ↓le_l, ↓gp_top, ↓cl_0, ↓cl_e, ↓cl_v, ↓nxt_nx, ↓nxt_rt, ↓nxt_bk, ↓nxt_ct, ↓sa_0, ↓sa_s, ↓rg1_i, ↓rg2_i, ↓itm_l, ↓itm_t, ↓itm_o, ↓fin_rt, ↓fin_nx, ↓lpk_nx, ↓lpk_ct, ↓lpk_bk, ↓lpk_rt, ↓wcl_nil, ↓wf_nil,
  ↓w_enum, ↓w_zip, ↓enm_l, ↓enm_o, ↓zp_ll, ↓zp_lo, ↓zp_ol, ↓zp_oo, ↓zp_tt, ↓p_isLTi, ↓p_isLTn, ↓p_isSi, ↓p_isBn, ↓p_extend, p_extendS, p_appendS, List.isEmpty_nil, ↓w_dicO, ↓dicO_list, zip_cc, zip_nn, ↓at_0, ↓at_1, ↓at_2, ↓at_3, ↓at_4, p_insertS, ↓p_mulO, ↓p_repB, ↓p_rep0, ↓p_rep1, ↓w_while, ↓p_insert, ↓at_last, ↓put_last, ↓p_inl, ↓p_inL, ↓p_ninl, ↓p_ninL, ↓p_eqP0, ↓p_neP0, ↓p_neA, ↓p_eq00, ↓p_ne00, ↓p_ixp0, ↓p_ixp1, ↓w_gTp, ↓p_isLTb, ↓p_isLTs, ↓p_isIb, ↓p_isBb, ↓p_isSb, ↓p_isLb, ↓p_isTb, ↓p_isIs, ↓p_isBs, ↓p_isSs, ↓p_isLs, ↓p_isTs, ↓p_isLi, ↓p_isTi, ↓p_isLn, ↓p_isTn, ↓p_isSn, ↓p_isNb, ↓p_isNs, ↓p_isNt, ↓p_isNl, ↓p_isNp, ↓p_eqTT, ↓p_eqTF, ↓p_eqFT, ↓p_eqFF, ↓p_neTT, ↓p_neTF, ↓p_neFT, ↓p_neFF, ↓p_eqBs, ↓p_eqSs, ↓p_eqIs, ↓p_mulJ, ↓w_chain4, ↓p_lrg1, ↓p_lrg2, ↓p_maxL, ↓p_maxl, ↓p_minL, ↓p_minl, ↓w_getE, ↓w_emptyK, ↓w_emptyT, ↓p_dixi, ↓p_dixs, ↓p_dini, ↓p_dins, ↓p_dgi, ↓p_dgs, ↓p_dputi, ↓p_dputs, ↓p_extA, ↓p_extAl, p_extAS, p_extASl, ↓w_bor, fl_b, fl_i, fl_n, fl_s, ↓w_enumA, ↓enma_l, ↓enma_t, ↓enma_o, eq_self, ↓w_strM, ↓sv_s, ↓p_eqS, ↓p_neS, ↓p_isTp, ↓p_lenp, ↓itm_p, ↓p_neBs, line_racks, racks_line, ↓p_sub, ↓p_add, ↓p_ipadd, ↓p_mul, ↓p_div, ↓p_mod, ↓p_pow, ↓p_neg, ↓p_eq, ↓p_ne, ↓p_lt, ↓p_gt, ↓p_le, ↓p_ge, ↓p_max, ↓p_min, ↓p_abs, ↓p_intI, ↓p_intB, ↓p_isaI, ↓p_isaB, ↓p_isaNI, ↓p_isNI, ↓p_isNN, ↓p_isNo, ↓p_eqo, ↓p_neo, ↓p_divmod, ↓p_catL, ↓p_catLl, ↓p_catlL, ↓p_catll, ↓p_len, ↓p_lenl, ↓p_lent, ↓p_list, ↓p_listl, ↓p_listt, ↓p_tuple, ↓p_tuplel, ↓p_tuplet, ↓p_rev, ↓p_revl, ↓p_ix, ↓p_ixl, ↓p_ixt, ↓p_append, ↓p_reverse, ↓p_sum, ↓p_suml, ↓p_any, ↓p_all, ↓p_eqLL, ↓p_eqLl, ↓p_eqlL, ↓p_eqll, ↓p_eqL0, ↓p_eql0, ↓p_neLL, ↓p_neLl, ↓p_nelL, ↓p_nell, ↓p_neL0, ↓p_nel0,
  ↓gp_cells, ↓gp_turn, ↓put_turn, ↓put_cells, ↓putP_top, wipeE, lv_0, lv_s,
  List.set_cons_zero, List.set_cons_succ, List.length_cons, List.length_nil, List.map_cons, List.map_nil, finR, List.replicate, List.replicate_succ, List.replicate_zero, List.cons_append, List.nil_append, true_and, and_true, List.tail_cons, List.head?_cons, Option.join_some, List.contains_nil, Bool.false_eq_true, if_false, if_true, List.all_nil, and_self, Int.reduceToNat, Int.reducePow, Nat.reduceSub, Nat.reduceAdd, Int.reduceAdd, Int.reduceMul, Int.reduceSub, Int.reduceNeg, Int.reduceLT, Int.reduceLE, Int.natAbs, Nat.reduceLT, Nat.reduceLeDiff, Nat.reducePow])
local macro_rules | `(tactic| walk_at "mve") => `(tactic| try simp only [↓w_cst, ↓w_var, ↓w_mv, ↓w_fz, ↓w_frz, ↓w_bin, ↓w_un, ↓w_binV, ↓w_asB, ↓w_yes, ↓w_not, ↓w_and, ↓w_or, ↓w_andE, ↓w_orE, ↓w_notE, ↓w_chain, ↓w_nil, ↓w_cons, ↓w_tup, ↓w_lst, ↓w_pl, ↓w_mut, ↓w_c0, ↓w_ce, ↓w_cv, ↓w_call', ↓wb_0, ↓wb_e, ↓wb_v, wb_e', ↓wo_leaf, ↓wo_ls, ↓wo_dic, ↓wo_dct, ↓wo_st, ↓wo_s, own_0, own_s, oi_0, oi_e, oi_v, isl_st, isl_leaf, isl_ls, Bool.not_false, Bool.not_true, List.nodup_cons, List.nodup_nil, List.not_mem_nil, not_false_eq_true, ↓w_seq, ↓w_skip, ↓w_brk, ↓w_cont, ↓w_retN, ↓w_set, ↓w_drop, ↓w_ret, ↓w_retV, ↓w_ifS, ↓w_fzS, ↓w_asg, ↓w_gN, ↓w_gT, ↓w_gNl, ↓w_gCn, ↓w_gSub, ↓w_par, ↓w_aug, ↓w_int, ↓w_slice, ↓w_rng1, ↓w_rng2, ↓w_seqI, ↓w_comp, ↓w_for,
  ↓sl_0, ↓sl_s, ↓fr_leaf, ↓fr_ls, ↓ok_t, ↓ok_l, ↓br_t, ↓br_f, decide_true, decide_false, Int.reduceEq, ↓bl_b, ↓il_b, ↓le_l, ↓gp_top, ↓cl_0, ↓cl_e, ↓cl_v, ↓nxt_nx, ↓nxt_rt, ↓nxt_bk, ↓nxt_ct, ↓sa_0, ↓sa_s, ↓rg1_i, ↓rg2_i, ↓itm_l, ↓itm_t, ↓itm_o, ↓fin_rt, ↓fin_nx, ↓lpk_nx, ↓lpk_ct, ↓lpk_bk, ↓lpk_rt, ↓wcl_nil, ↓wf_nil,
  ↓w_enum, ↓w_zip, ↓enm_l, ↓enm_o, ↓zp_ll, ↓zp_lo, ↓zp_ol, ↓zp_oo, ↓zp_tt, ↓p_isLTi, ↓p_isLTn, ↓p_isSi, ↓p_isBn, ↓p_extend, p_extendS, p_appendS, List.isEmpty_nil, ↓w_dicO, ↓dicO_list, zip_cc, zip_nn, ↓at_0, ↓at_1, ↓at_2, ↓at_3, ↓at_4, p_insertS, ↓p_mulO, ↓p_repB, ↓p_rep0, ↓p_rep1, ↓w_while, ↓p_insert, ↓at_last, ↓put_last, ↓p_inl, ↓p_inL, ↓p_ninl, ↓p_ninL, ↓p_eqP0, ↓p_neP0, ↓p_neA, ↓p_eq00, ↓p_ne00, ↓p_ixp0, ↓p_ixp1, ↓w_gTp, ↓p_isLTb, ↓p_isLTs, ↓p_isIb, ↓p_isBb, ↓p_isSb, ↓p_isLb, ↓p_isTb, ↓p_isIs, ↓p_isBs, ↓p_isSs, ↓p_isLs, ↓p_isTs, ↓p_isLi, ↓p_isTi, ↓p_isLn, ↓p_isTn, ↓p_isSn, ↓p_isNb, ↓p_isNs, ↓p_isNt, ↓p_isNl, ↓p_isNp, ↓p_eqTT, ↓p_eqTF, ↓p_eqFT, ↓p_eqFF, ↓p_neTT, ↓p_neTF, ↓p_neFT, ↓p_neFF, ↓p_eqBs, ↓p_eqSs, ↓p_eqIs, ↓p_mulJ, ↓w_chain4, ↓p_lrg1, ↓p_lrg2, ↓p_maxL, ↓p_maxl, ↓p_minL, ↓p_minl, ↓w_getE, ↓w_emptyK, ↓w_emptyT, ↓p_dixi, ↓p_dixs, ↓p_dini, ↓p_dins, ↓p_dgi, ↓p_dgs, ↓p_dputi, ↓p_dputs, ↓p_extA, ↓p_extAl, p_extAS, p_extASl, ↓w_bor, fl_b, fl_i, fl_n, fl_s, ↓w_enumA, ↓enma_l, ↓enma_t, ↓enma_o, eq_self, ↓w_strM, ↓sv_s, ↓p_eqS, ↓p_neS, ↓p_isTp, ↓p_lenp, ↓itm_p, ↓p_neBs, line_racks, racks_line, ↓p_sub, ↓p_add, ↓p_ipadd, ↓p_mul, ↓p_div, ↓p_mod, ↓p_pow, ↓p_neg, ↓p_eq, ↓p_ne, ↓p_lt, ↓p_gt, ↓p_le, ↓p_ge, ↓p_max, ↓p_min, ↓p_abs, ↓p_intI, ↓p_intB, ↓p_isaI, ↓p_isaB, ↓p_isaNI, ↓p_isNI, ↓p_isNN, ↓p_isNo, ↓p_eqo, ↓p_neo, ↓p_divmod, ↓p_catL, ↓p_catLl, ↓p_catlL, ↓p_catll, ↓p_len, ↓p_lenl, ↓p_lent, ↓p_list, ↓p_listl, ↓p_listt, ↓p_tuple, ↓p_tuplel, ↓p_tuplet, ↓p_rev, ↓p_revl, ↓p_ix, ↓p_ixl, ↓p_ixt, ↓p_append, ↓p_reverse, ↓p_sum, ↓p_suml, ↓p_any, ↓p_all, ↓p_eqLL, ↓p_eqLl, ↓p_eqlL, ↓p_eqll, ↓p_eqL0, ↓p_eql0, ↓p_neLL, ↓p_neLl, ↓p_nelL, ↓p_nell, ↓p_neL0, ↓p_nel0,
  ↓gp_cells, ↓gp_turn, ↓put_turn, ↓put_cells, ↓putP_top, wipeE, lv_0, lv_s,
  List.set_cons_zero, List.set_cons_succ, List.length_cons, List.length_nil, List.map_cons, List.map_nil, finR, List.replicate, List.replicate_succ, List.replicate_zero, List.cons_append, List.nil_append, true_and, and_true, List.tail_cons, List.head?_cons, Option.join_some, List.contains_nil, Bool.false_eq_true, if_false, if_true, List.all_nil, and_self, Int.reduceToNat, Int.reducePow, Nat.reduceSub, Nat.reduceAdd, Int.reduceAdd, Int.reduceMul, Int.reduceSub, Int.reduceNeg, Int.reduceLT, Int.reduceLE, Int.natAbs, Nat.reduceLT, Nat.reduceLeDiff, Nat.reducePow])
local macro_rules | `(tactic| walk_at "mv1") => `(tactic| try simp only [↓ok_t, ↓ok_l, ↓nxt_nx, ↓nxt_rt, ↓w_seq, ↓fin_rt, ↓fin_nx, ↓lpk_nx, ↓lpk_ct, ↓lpk_bk, ↓lpk_rt, wipeE, List.set_cons_zero, List.set_cons_succ, true_and, and_true])
local macro_rules | `(tactic| walk_at "mvs") => `(tactic| try simp only [↓sl_0, ↓sl_s, ↓fr_leaf, ↓fr_ls, ↓ok_t, ↓ok_l, ↓nxt_nx, ↓nxt_rt, ↓w_seq, ↓fin_rt, ↓fin_nx, ↓lpk_nx, ↓lpk_ct, ↓lpk_bk, ↓lpk_rt, wipeE, List.set_cons_zero, List.set_cons_succ, true_and, and_true])
local macro_rules | `(tactic| walk_at "mvp") => `(tactic| try simp only [↓w_cst, ↓w_var, ↓w_mv, ↓w_fz, ↓w_frz, ↓w_bin, ↓w_un, ↓w_binV, ↓w_if, ↓w_asB, ↓w_yes, ↓w_not, ↓w_and, ↓w_or, ↓w_andE, ↓w_orE, ↓w_notE, ↓w_chain, ↓w_nil, ↓w_cons, ↓w_tup, ↓w_lst, ↓w_pl, ↓w_mut, ↓w_c0, ↓w_ce, ↓w_cv, ↓w_call', ↓wb_0, ↓wb_e, ↓wb_v, wb_e', ↓wo_leaf, ↓wo_ls, ↓wo_dic, ↓wo_dct, ↓wo_st, ↓wo_s, own_0, own_s, oi_0, oi_e, oi_v, isl_st, isl_leaf, isl_ls, Bool.not_false, Bool.not_true, List.nodup_cons, List.nodup_nil, List.not_mem_nil, not_false_eq_true, ↓w_seq, ↓w_skip, ↓w_brk, ↓w_cont, ↓w_retN, ↓w_set, ↓w_drop, ↓w_ret, ↓w_retV, ↓w_fzS, ↓w_asg, ↓w_gN, ↓w_gT, ↓w_gNl, ↓w_gCn, ↓w_gSub, ↓w_par, ↓w_aug, ↓w_int, ↓w_slice, ↓w_rng1, ↓w_rng2, ↓w_seqI, ↓w_comp, ↓w_for,
  ↓sl_0, ↓sl_s, ↓fr_leaf, ↓fr_ls, ↓ok_t, ↓ok_l, ↓br_t, ↓br_f, decide_true, decide_false, Int.reduceEq, ↓bl_b, ↓il_b, ↓le_l, ↓gp_top, ↓cl_0, ↓cl_e, ↓cl_v, ↓nxt_nx, ↓nxt_rt, ↓nxt_bk, ↓nxt_ct, ↓sa_0, ↓sa_s, ↓rg1_i, ↓rg2_i, ↓itm_l, ↓itm_t, ↓itm_o, ↓fin_rt, ↓fin_nx, ↓lpk_nx, ↓lpk_ct, ↓lpk_bk, ↓lpk_rt, ↓wcl_nil, ↓wf_nil,
  ↓w_enum, ↓w_zip, ↓enm_l, ↓enm_o, ↓zp_ll, ↓zp_lo, ↓zp_ol, ↓zp_oo, ↓zp_tt, ↓p_isLTi, ↓p_isLTn, ↓p_isSi, ↓p_isBn, ↓p_extend, p_extendS, p_appendS, List.isEmpty_nil, ↓w_dicO, ↓dicO_list, zip_cc, zip_nn, ↓at_0, ↓at_1, ↓at_2, ↓at_3, ↓at_4, p_insertS, ↓p_mulO, ↓p_repB, ↓p_rep0, ↓p_rep1, ↓w_while, ↓p_insert, ↓at_last, ↓put_last, ↓p_inl, ↓p_inL, ↓p_ninl, ↓p_ninL, ↓p_eqP0, ↓p_neP0, ↓p_neA, ↓p_eq00, ↓p_ne00, ↓p_ixp0, ↓p_ixp1, ↓w_gTp, ↓p_isLTb, ↓p_isLTs, ↓p_isIb, ↓p_isBb, ↓p_isSb, ↓p_isLb, ↓p_isTb, ↓p_isIs, ↓p_isBs, ↓p_isSs, ↓p_isLs, ↓p_isTs, ↓p_isLi, ↓p_isTi, ↓p_isLn, ↓p_isTn, ↓p_isSn, ↓p_isNb, ↓p_isNs, ↓p_isNt, ↓p_isNl, ↓p_isNp, ↓p_eqTT, ↓p_eqTF, ↓p_eqFT, ↓p_eqFF, ↓p_neTT, ↓p_neTF, ↓p_neFT, ↓p_neFF, ↓p_eqBs, ↓p_eqSs, ↓p_eqIs, ↓p_mulJ, ↓w_chain4, ↓p_lrg1, ↓p_lrg2, ↓p_maxL, ↓p_maxl, ↓p_minL, ↓p_minl, ↓w_getE, ↓w_emptyK, ↓w_emptyT, ↓p_dixi, ↓p_dixs, ↓p_dini, ↓p_dins, ↓p_dgi, ↓p_dgs, ↓p_dputi, ↓p_dputs, ↓p_extA, ↓p_extAl, p_extAS, p_extASl, ↓w_bor, fl_b, fl_i, fl_n, fl_s, ↓w_enumA, ↓enma_l, ↓enma_t, ↓enma_o, eq_self, ↓w_strM, ↓sv_s, ↓p_eqS, ↓p_neS, ↓p_isTp, ↓p_lenp, ↓itm_p, ↓p_neBs, line_racks, racks_line, ↓p_sub, ↓p_add, ↓p_ipadd, ↓p_mul, ↓p_div, ↓p_mod, ↓p_pow, ↓p_neg, ↓p_eq, ↓p_ne, ↓p_lt, ↓p_gt, ↓p_le, ↓p_ge, ↓p_max, ↓p_min, ↓p_abs, ↓p_intI, ↓p_intB, ↓p_isaI, ↓p_isaB, ↓p_isaNI, ↓p_isNI, ↓p_isNN, ↓p_isNo, ↓p_eqo, ↓p_neo, ↓p_divmod, ↓p_catL, ↓p_catLl, ↓p_catlL, ↓p_catll, ↓p_len, ↓p_lenl, ↓p_lent, ↓p_list, ↓p_listl, ↓p_listt, ↓p_tuple, ↓p_tuplel, ↓p_tuplet, ↓p_rev, ↓p_revl, ↓p_ix, ↓p_ixl, ↓p_ixt, ↓p_append, ↓p_reverse, ↓p_sum, ↓p_suml, ↓p_any, ↓p_all, ↓p_eqLL, ↓p_eqLl, ↓p_eqlL, ↓p_eqll, ↓p_eqL0, ↓p_eql0, ↓p_neLL, ↓p_neLl, ↓p_nelL, ↓p_nell, ↓p_neL0, ↓p_nel0,
  ↓gp_cells, ↓gp_turn, ↓put_turn, ↓put_cells, ↓putP_top, wipeE, lv_0, lv_s,
  List.set_cons_zero, List.set_cons_succ, List.length_cons, List.length_nil, List.map_cons, List.map_nil, finR, List.replicate, List.replicate_succ, List.replicate_zero, List.cons_append, List.nil_append, true_and, and_true, List.tail_cons, List.head?_cons, Option.join_some, List.contains_nil, Bool.false_eq_true, if_false, if_true, List.all_nil, and_self, Int.reduceToNat, Int.reducePow, Nat.reduceSub, Nat.reduceAdd, Int.reduceAdd, Int.reduceMul, Int.reduceSub, Int.reduceNeg, Int.reduceLT, Int.reduceLE, Int.natAbs, Nat.reduceLT, Nat.reduceLeDiff, Nat.reducePow])
/-! ### the box that numbers are drawn from -/
abbrev Bx := Int × Int × Int
def bxO (s : Bx) : O := .ls [.int s.1, .int s.2.1, .int s.2.2]
def Sb (s : Bx) (n : Int) : Prop := 0 ≤ s.1 ∧ (0 ≤ s.2.1 ∧ s.2.1 < 4611686018427387904) ∧ 0 ≤ s.2.2 ∧ s.2.2 ≤ n
theorem Sb.le {s : Bx} {n m : Int} (h : Sb s n) (hm : n ≤ m) : Sb s m := ⟨h.1, h.2.1, h.2.2.1, Int.le_trans h.2.2.2 hm⟩
def takeX : SSem := (seq (ifS (asB (bin true (bin true (varE 0) (cstE (.int 0)) oIx) (cstE (.int 0)) (vw2 (ordI .gt)))) (seq (asgS (gT 2 (gCn (gSubP 0 .top (cstE (.int 0)) gSet) (gCn (gN 2) gNl))) (bin true (bin true (varE 0) (cstE (.int 0)) oIx) (varE 1) oDivmod))
  (retS false (varE 2))) skip)
  (seq (asgS (gSubP 0 .top (cstE (.int 2)) gSet) (bin true (bin true (varE 0) (cstE (.int 2)) oIx) (cstE (.int 1)) oAdd))
  (seq (setS 3 true (bin true (bin true (bin true (bin true (varE 0) (cstE (.int 1)) oIx) (bin true (cstE (.int 39373)) (bin true (varE 0) (cstE (.int 2)) oIx) (vw2 mulI)) oAdd) (cstE (.int 3)) (vw2 powI)) (cstE (.int 2147483647)) (vw2 modI)))
  (seq (setS 4 true (bin true (bin true (bin true (varE 3) (bin true (varE 0) (cstE (.int 2)) oIx) oAdd) (bin true (bin true (bin true (varE 3) (cstE (.int 40009)) (vw2 modI)) (cstE (.int 7)) oAdd) (bin true (varE 0) (cstE (.int 2)) oIx) oAdd) (vw2 mulI)) (cstE (.int 2147483629)) (vw2 modI)))
  (retS true (bin true (bin true (bin true (bin true (bin true (varE 4) (cstE (.int 48271)) (vw2 mulI)) (varE 3) oAdd) (cstE (.int 2147483587)) (vw2 modI)) (cstE (.int 32)) (vw2 divI)) (varE 1) (vw2 modI)))))))
def TakeX (g : Def) : Prop := ∀ {s : Bx} {n m : Int} {Q : O → List (Option O) → Prop}, Sb s n → n ≤ 1000000000000 → 0 < m → m < 1000000000000000000000000000000000000000000000000000000000000 →
    (∀ d s', 0 ≤ d → d < m → Sb s' (n + 1) → Q (.leaf (.int d)) [some (bxO s'), some (.leaf (.int m))]) → Wd g [bxO s, .leaf (.int m)] Q
/-! slices of texts, of tuples -/
/-! texts put together -/
theorem str_cat {a b : Str} : (a ++ b).cps.toList = a.cps.toList ++ b.cps.toList := Array.toList_append
theorem str_len {a : Str} : a.length = a.cps.toList.length := by rw [Array.length_toList]; rfl
theorem p_catS {a b : Str} {Q : O → Prop} : Op2 oAdd (.leaf (.str a)) (.leaf (.str b)) Q ↔ a.length + b.length ≤ sizeLine ∧ Q (.leaf (.str (a ++ b))) := by
  by_cases h : a.length + b.length ≤ sizeLine <;> simp [Op2, oAdd, vw2, O.frz, addI, catL, catT, lstO, tupO, h, O1, flatD]
theorem p_catT {ts us : List D} {Q : O → Prop} : Op2 oAdd (.leaf (.tuple ts)) (.leaf (.tuple us)) Q ↔ ts.length + us.length ≤ sizeLine ∧ Q (.leaf (.tuple (ts ++ us))) := by
  by_cases h : ts.length + us.length ≤ sizeLine <;> simp [Op2, oAdd, vw2, O.frz, addI, catL, catT, lstO, tupO, h, O1, flatD]
end Mv
set_option Elab.async false
set_option linter.all false
set_option maxRecDepth 100000
set_option maxHeartbeats 4000000
namespace Mv
open PySem PySem.Spec PyProof.Rows L2
local macro_rules | `(tactic| walk_at "mv") => `(tactic| try simp only [↓w_cst, ↓w_var, ↓w_mv, ↓w_fz, ↓w_frz, ↓w_bin, ↓w_un, ↓w_binV, ↓w_if, ↓w_asB, ↓w_yes, ↓w_not, ↓w_and, ↓w_or, ↓w_andE, ↓w_orE, ↓w_notE, ↓w_chain, ↓w_nil, ↓w_cons, ↓w_tup, ↓w_lst, ↓w_pl, ↓w_mut, ↓w_c0, ↓w_ce, ↓w_cv, ↓w_call', ↓wb_0, ↓wb_e, ↓wb_v, wb_e', ↓wo_leaf, ↓wo_ls, ↓wo_dic, ↓wo_dct, ↓wo_st, ↓wo_s, own_0, own_s, oi_0, oi_e, oi_v, isl_st, isl_leaf, isl_ls, Bool.not_false, Bool.not_true, List.nodup_cons, List.nodup_nil, List.not_mem_nil, not_false_eq_true, ↓w_seq, ↓w_skip, ↓w_brk, ↓w_cont, ↓w_retN, ↓w_set, ↓w_drop, ↓w_ret, ↓w_retV, ↓w_ifS, ↓w_fzS, ↓w_asg, ↓w_gN, ↓w_gT, ↓w_gNl, ↓w_gCn, ↓w_gSub, ↓w_par, ↓w_aug, ↓w_int, ↓w_slice, ↓w_rng1, ↓w_rng2, ↓w_seqI, ↓w_comp, ↓w_for,
  ↓sl_0, ↓sl_s, ↓fr_leaf, ↓fr_ls, ↓ok_t, ↓ok_l, ↓br_t, ↓br_f, decide_true, decide_false, Int.reduceEq, ↓bl_b, ↓il_b, ↓le_l, ↓gp_top, ↓cl_0, ↓cl_e, ↓cl_v, ↓nxt_nx, ↓nxt_rt, ↓nxt_bk, ↓nxt_ct, ↓sa_0, ↓sa_s, ↓rg1_i, ↓rg2_i, ↓itm_l, ↓itm_t, ↓itm_o, ↓fin_rt, ↓fin_nx, ↓lpk_nx, ↓lpk_ct, ↓lpk_bk, ↓lpk_rt, ↓wcl_nil, ↓wf_nil,
  ↓w_enum, ↓w_zip, ↓enm_l, ↓enm_o, ↓zp_ll, ↓zp_lo, ↓zp_ol, ↓zp_oo, ↓zp_tt, ↓p_isLTi, ↓p_isLTn, ↓p_isSi, ↓p_isBn, ↓p_extend, p_extendS, p_appendS, List.isEmpty_nil, ↓w_dicO, ↓dicO_list, zip_cc, zip_nn, ↓at_0, ↓at_1, ↓at_2, ↓at_3, ↓at_4, p_insertS, ↓p_mulO, ↓p_repB, ↓p_rep0, ↓p_rep1, ↓w_while, ↓p_insert, ↓at_last, ↓put_last, ↓p_inl, ↓p_inL, ↓p_ninl, ↓p_ninL, ↓p_eqP0, ↓p_neP0, ↓p_neA, ↓p_eq00, ↓p_ne00, ↓p_ixp0, ↓p_ixp1, ↓w_gTp, ↓p_isLTb, ↓p_isLTs, ↓p_isIb, ↓p_isBb, ↓p_isSb, ↓p_isLb, ↓p_isTb, ↓p_isIs, ↓p_isBs, ↓p_isSs, ↓p_isLs, ↓p_isTs, ↓p_isLi, ↓p_isTi, ↓p_isLn, ↓p_isTn, ↓p_isSn, ↓p_isNb, ↓p_isNs, ↓p_isNt, ↓p_isNl, ↓p_isNp, ↓p_eqTT, ↓p_eqTF, ↓p_eqFT, ↓p_eqFF, ↓p_neTT, ↓p_neTF, ↓p_neFT, ↓p_neFF, ↓p_eqBs, ↓p_eqSs, ↓p_eqIs, ↓wo_bx, isl_bx, ↓p_catS, ↓p_catT, ↓p_mulJ, ↓w_chain4, ↓p_lrg1, ↓p_lrg2, ↓p_maxL, ↓p_maxl, ↓p_minL, ↓p_minl, ↓w_getE, ↓w_emptyK, ↓w_emptyT, ↓p_dixi, ↓p_dixs, ↓p_dini, ↓p_dins, ↓p_dgi, ↓p_dgs, ↓p_dputi, ↓p_dputs, ↓p_extA, ↓p_extAl, p_extAS, p_extASl, ↓w_bor, fl_b, fl_i, fl_n, fl_s, ↓w_enumA, ↓enma_l, ↓enma_t, ↓enma_o, eq_self, ↓w_strM, ↓sv_s, ↓p_eqS, ↓p_neS, ↓p_isTp, ↓p_lenp, ↓itm_p, ↓p_neBs, line_racks, racks_line, ↓p_sub, ↓p_add, ↓p_ipadd, ↓p_mul, ↓p_div, ↓p_mod, ↓p_pow, ↓p_neg, ↓p_eq, ↓p_ne, ↓p_lt, ↓p_gt, ↓p_le, ↓p_ge, ↓p_max, ↓p_min, ↓p_abs, ↓p_intI, ↓p_intB, ↓p_isaI, ↓p_isaB, ↓p_isaNI, ↓p_isNI, ↓p_isNN, ↓p_isNo, ↓p_eqo, ↓p_neo, ↓p_divmod, ↓p_catL, ↓p_catLl, ↓p_catlL, ↓p_catll, ↓p_len, ↓p_lenl, ↓p_lent, ↓p_list, ↓p_listl, ↓p_listt, ↓p_tuple, ↓p_tuplel, ↓p_tuplet, ↓p_rev, ↓p_revl, ↓p_ix, ↓p_ixl, ↓p_ixt, ↓p_append, ↓p_reverse, ↓p_sum, ↓p_suml, ↓p_any, ↓p_all, ↓p_eqLL, ↓p_eqLl, ↓p_eqlL, ↓p_eqll, ↓p_eqL0, ↓p_eql0, ↓p_neLL, ↓p_neLl, ↓p_nelL, ↓p_nell, ↓p_neL0, ↓p_nel0,
  ↓gp_cells, ↓gp_turn, ↓put_turn, ↓put_cells, ↓putP_top, wipeE, lv_0, lv_s,
  List.set_cons_zero, List.set_cons_succ, List.length_cons, List.length_nil, List.map_cons, List.map_nil, finR, List.replicate, List.replicate_succ, List.replicate_zero, List.cons_append, List.nil_append, true_and, and_true, List.tail_cons, List.head?_cons, Option.join_some, List.contains_nil, Bool.false_eq_true, if_false, if_true, List.all_nil, and_self, Int.reduceToNat, Int.reducePow, Nat.reduceSub, Nat.reduceAdd, Int.reduceAdd, Int.reduceMul, Int.reduceSub, Int.reduceNeg, Int.reduceLT, Int.reduceLE, Int.natAbs, Nat.reduceLT, Nat.reduceLeDiff, Nat.reducePow])
local macro_rules | `(tactic| walk_at "mve") => `(tactic| try simp only [↓w_cst, ↓w_var, ↓w_mv, ↓w_fz, ↓w_frz, ↓w_bin, ↓w_un, ↓w_binV, ↓w_asB, ↓w_yes, ↓w_not, ↓w_and, ↓w_or, ↓w_andE, ↓w_orE, ↓w_notE, ↓w_chain, ↓w_nil, ↓w_cons, ↓w_tup, ↓w_lst, ↓w_pl, ↓w_mut, ↓w_c0, ↓w_ce, ↓w_cv, ↓w_call', ↓wb_0, ↓wb_e, ↓wb_v, wb_e', ↓wo_leaf, ↓wo_ls, ↓wo_dic, ↓wo_dct, ↓wo_st, ↓wo_s, own_0, own_s, oi_0, oi_e, oi_v, isl_st, isl_leaf, isl_ls, Bool.not_false, Bool.not_true, List.nodup_cons, List.nodup_nil, List.not_mem_nil, not_false_eq_true, ↓w_seq, ↓w_skip, ↓w_brk, ↓w_cont, ↓w_retN, ↓w_set, ↓w_drop, ↓w_ret, ↓w_retV, ↓w_ifS, ↓w_fzS, ↓w_asg, ↓w_gN, ↓w_gT, ↓w_gNl, ↓w_gCn, ↓w_gSub, ↓w_par, ↓w_aug, ↓w_int, ↓w_slice, ↓w_rng1, ↓w_rng2, ↓w_seqI, ↓w_comp, ↓w_for,
  ↓sl_0, ↓sl_s, ↓fr_leaf, ↓fr_ls, ↓ok_t, ↓ok_l, ↓br_t, ↓br_f, decide_true, decide_false, Int.reduceEq, ↓bl_b, ↓il_b, ↓le_l, ↓gp_top, ↓cl_0, ↓cl_e, ↓cl_v, ↓nxt_nx, ↓nxt_rt, ↓nxt_bk, ↓nxt_ct, ↓sa_0, ↓sa_s, ↓rg1_i, ↓rg2_i, ↓itm_l, ↓itm_t, ↓itm_o, ↓fin_rt, ↓fin_nx, ↓lpk_nx, ↓lpk_ct, ↓lpk_bk, ↓lpk_rt, ↓wcl_nil, ↓wf_nil,
  ↓w_enum, ↓w_zip, ↓enm_l, ↓enm_o, ↓zp_ll, ↓zp_lo, ↓zp_ol, ↓zp_oo, ↓zp_tt, ↓p_isLTi, ↓p_isLTn, ↓p_isSi, ↓p_isBn, ↓p_extend, p_extendS, p_appendS, List.isEmpty_nil, ↓w_dicO, ↓dicO_list, zip_cc, zip_nn, ↓at_0, ↓at_1, ↓at_2, ↓at_3, ↓at_4, p_insertS, ↓p_mulO, ↓p_repB, ↓p_rep0, ↓p_rep1, ↓w_while, ↓p_insert, ↓at_last, ↓put_last, ↓p_inl, ↓p_inL, ↓p_ninl, ↓p_ninL, ↓p_eqP0, ↓p_neP0, ↓p_neA, ↓p_eq00, ↓p_ne00, ↓p_ixp0, ↓p_ixp1, ↓w_gTp, ↓p_isLTb, ↓p_isLTs, ↓p_isIb, ↓p_isBb, ↓p_isSb, ↓p_isLb, ↓p_isTb, ↓p_isIs, ↓p_isBs, ↓p_isSs, ↓p_isLs, ↓p_isTs, ↓p_isLi, ↓p_isTi, ↓p_isLn, ↓p_isTn, ↓p_isSn, ↓p_isNb, ↓p_isNs, ↓p_isNt, ↓p_isNl, ↓p_isNp, ↓p_eqTT, ↓p_eqTF, ↓p_eqFT, ↓p_eqFF, ↓p_neTT, ↓p_neTF, ↓p_neFT, ↓p_neFF, ↓p_eqBs, ↓p_eqSs, ↓p_eqIs, ↓wo_bx, isl_bx, ↓p_catS, ↓p_catT, ↓p_mulJ, ↓w_chain4, ↓p_lrg1, ↓p_lrg2, ↓p_maxL, ↓p_maxl, ↓p_minL, ↓p_minl, ↓w_getE, ↓w_emptyK, ↓w_emptyT, ↓p_dixi, ↓p_dixs, ↓p_dini, ↓p_dins, ↓p_dgi, ↓p_dgs, ↓p_dputi, ↓p_dputs, ↓p_extA, ↓p_extAl, p_extAS, p_extASl, ↓w_bor, fl_b, fl_i, fl_n, fl_s, ↓w_enumA, ↓enma_l, ↓enma_t, ↓enma_o, eq_self, ↓w_strM, ↓sv_s, ↓p_eqS, ↓p_neS, ↓p_isTp, ↓p_lenp, ↓itm_p, ↓p_neBs, line_racks, racks_line, ↓p_sub, ↓p_add, ↓p_ipadd, ↓p_mul, ↓p_div, ↓p_mod, ↓p_pow, ↓p_neg, ↓p_eq, ↓p_ne, ↓p_lt, ↓p_gt, ↓p_le, ↓p_ge, ↓p_max, ↓p_min, ↓p_abs, ↓p_intI, ↓p_intB, ↓p_isaI, ↓p_isaB, ↓p_isaNI, ↓p_isNI, ↓p_isNN, ↓p_isNo, ↓p_eqo, ↓p_neo, ↓p_divmod, ↓p_catL, ↓p_catLl, ↓p_catlL, ↓p_catll, ↓p_len, ↓p_lenl, ↓p_lent, ↓p_list, ↓p_listl, ↓p_listt, ↓p_tuple, ↓p_tuplel, ↓p_tuplet, ↓p_rev, ↓p_revl, ↓p_ix, ↓p_ixl, ↓p_ixt, ↓p_append, ↓p_reverse, ↓p_sum, ↓p_suml, ↓p_any, ↓p_all, ↓p_eqLL, ↓p_eqLl, ↓p_eqlL, ↓p_eqll, ↓p_eqL0, ↓p_eql0, ↓p_neLL, ↓p_neLl, ↓p_nelL, ↓p_nell, ↓p_neL0, ↓p_nel0,
  ↓gp_cells, ↓gp_turn, ↓put_turn, ↓put_cells, ↓putP_top, wipeE, lv_0, lv_s,
  List.set_cons_zero, List.set_cons_succ, List.length_cons, List.length_nil, List.map_cons, List.map_nil, finR, List.replicate, List.replicate_succ, List.replicate_zero, List.cons_append, List.nil_append, true_and, and_true, List.tail_cons, List.head?_cons, Option.join_some, List.contains_nil, Bool.false_eq_true, if_false, if_true, List.all_nil, and_self, Int.reduceToNat, Int.reducePow, Nat.reduceSub, Nat.reduceAdd, Int.reduceAdd, Int.reduceMul, Int.reduceSub, Int.reduceNeg, Int.reduceLT, Int.reduceLE, Int.natAbs, Nat.reduceLT, Nat.reduceLeDiff, Nat.reducePow])
local macro_rules | `(tactic| walk_at "mv1") => `(tactic| try simp only [↓ok_t, ↓ok_l, ↓nxt_nx, ↓nxt_rt, ↓w_seq, ↓fin_rt, ↓fin_nx, ↓lpk_nx, ↓lpk_ct, ↓lpk_bk, ↓lpk_rt, wipeE, List.set_cons_zero, List.set_cons_succ, true_and, and_true])
local macro_rules | `(tactic| walk_at "mvs") => `(tactic| try simp only [↓sl_0, ↓sl_s, ↓fr_leaf, ↓fr_ls, ↓ok_t, ↓ok_l, ↓nxt_nx, ↓nxt_rt, ↓w_seq, ↓fin_rt, ↓fin_nx, ↓lpk_nx, ↓lpk_ct, ↓lpk_bk, ↓lpk_rt, wipeE, List.set_cons_zero, List.set_cons_succ, true_and, and_true])
local macro_rules | `(tactic| walk_at "mvp") => `(tactic| try simp only [↓w_cst, ↓w_var, ↓w_mv, ↓w_fz, ↓w_frz, ↓w_bin, ↓w_un, ↓w_binV, ↓w_if, ↓w_asB, ↓w_yes, ↓w_not, ↓w_and, ↓w_or, ↓w_andE, ↓w_orE, ↓w_notE, ↓w_chain, ↓w_nil, ↓w_cons, ↓w_tup, ↓w_lst, ↓w_pl, ↓w_mut, ↓w_c0, ↓w_ce, ↓w_cv, ↓w_call', ↓wb_0, ↓wb_e, ↓wb_v, wb_e', ↓wo_leaf, ↓wo_ls, ↓wo_dic, ↓wo_dct, ↓wo_st, ↓wo_s, own_0, own_s, oi_0, oi_e, oi_v, isl_st, isl_leaf, isl_ls, Bool.not_false, Bool.not_true, List.nodup_cons, List.nodup_nil, List.not_mem_nil, not_false_eq_true, ↓w_seq, ↓w_skip, ↓w_brk, ↓w_cont, ↓w_retN, ↓w_set, ↓w_drop, ↓w_ret, ↓w_retV, ↓w_fzS, ↓w_asg, ↓w_gN, ↓w_gT, ↓w_gNl, ↓w_gCn, ↓w_gSub, ↓w_par, ↓w_aug, ↓w_int, ↓w_slice, ↓w_rng1, ↓w_rng2, ↓w_seqI, ↓w_comp, ↓w_for,
  ↓sl_0, ↓sl_s, ↓fr_leaf, ↓fr_ls, ↓ok_t, ↓ok_l, ↓br_t, ↓br_f, decide_true, decide_false, Int.reduceEq, ↓bl_b, ↓il_b, ↓le_l, ↓gp_top, ↓cl_0, ↓cl_e, ↓cl_v, ↓nxt_nx, ↓nxt_rt, ↓nxt_bk, ↓nxt_ct, ↓sa_0, ↓sa_s, ↓rg1_i, ↓rg2_i, ↓itm_l, ↓itm_t, ↓itm_o, ↓fin_rt, ↓fin_nx, ↓lpk_nx, ↓lpk_ct, ↓lpk_bk, ↓lpk_rt, ↓wcl_nil, ↓wf_nil,
  ↓w_enum, ↓w_zip, ↓enm_l, ↓enm_o, ↓zp_ll, ↓zp_lo, ↓zp_ol, ↓zp_oo, ↓zp_tt, ↓p_isLTi, ↓p_isLTn, ↓p_isSi, ↓p_isBn, ↓p_extend, p_extendS, p_appendS, List.isEmpty_nil, ↓w_dicO, ↓dicO_list, zip_cc, zip_nn, ↓at_0, ↓at_1, ↓at_2, ↓at_3, ↓at_4, p_insertS, ↓p_mulO, ↓p_repB, ↓p_rep0, ↓p_rep1, ↓w_while, ↓p_insert, ↓at_last, ↓put_last, ↓p_inl, ↓p_inL, ↓p_ninl, ↓p_ninL, ↓p_eqP0, ↓p_neP0, ↓p_neA, ↓p_eq00, ↓p_ne00, ↓p_ixp0, ↓p_ixp1, ↓w_gTp, ↓p_isLTb, ↓p_isLTs, ↓p_isIb, ↓p_isBb, ↓p_isSb, ↓p_isLb, ↓p_isTb, ↓p_isIs, ↓p_isBs, ↓p_isSs, ↓p_isLs, ↓p_isTs, ↓p_isLi, ↓p_isTi, ↓p_isLn, ↓p_isTn, ↓p_isSn, ↓p_isNb, ↓p_isNs, ↓p_isNt, ↓p_isNl, ↓p_isNp, ↓p_eqTT, ↓p_eqTF, ↓p_eqFT, ↓p_eqFF, ↓p_neTT, ↓p_neTF, ↓p_neFT, ↓p_neFF, ↓p_eqBs, ↓p_eqSs, ↓p_eqIs, ↓wo_bx, isl_bx, ↓p_catS, ↓p_catT, ↓p_mulJ, ↓w_chain4, ↓p_lrg1, ↓p_lrg2, ↓p_maxL, ↓p_maxl, ↓p_minL, ↓p_minl, ↓w_getE, ↓w_emptyK, ↓w_emptyT, ↓p_dixi, ↓p_dixs, ↓p_dini, ↓p_dins, ↓p_dgi, ↓p_dgs, ↓p_dputi, ↓p_dputs, ↓p_extA, ↓p_extAl, p_extAS, p_extASl, ↓w_bor, fl_b, fl_i, fl_n, fl_s, ↓w_enumA, ↓enma_l, ↓enma_t, ↓enma_o, eq_self, ↓w_strM, ↓sv_s, ↓p_eqS, ↓p_neS, ↓p_isTp, ↓p_lenp, ↓itm_p, ↓p_neBs, line_racks, racks_line, ↓p_sub, ↓p_add, ↓p_ipadd, ↓p_mul, ↓p_div, ↓p_mod, ↓p_pow, ↓p_neg, ↓p_eq, ↓p_ne, ↓p_lt, ↓p_gt, ↓p_le, ↓p_ge, ↓p_max, ↓p_min, ↓p_abs, ↓p_intI, ↓p_intB, ↓p_isaI, ↓p_isaB, ↓p_isaNI, ↓p_isNI, ↓p_isNN, ↓p_isNo, ↓p_eqo, ↓p_neo, ↓p_divmod, ↓p_catL, ↓p_catLl, ↓p_catlL, ↓p_catll, ↓p_len, ↓p_lenl, ↓p_lent, ↓p_list, ↓p_listl, ↓p_listt, ↓p_tuple, ↓p_tuplel, ↓p_tuplet, ↓p_rev, ↓p_revl, ↓p_ix, ↓p_ixl, ↓p_ixt, ↓p_append, ↓p_reverse, ↓p_sum, ↓p_suml, ↓p_any, ↓p_all, ↓p_eqLL, ↓p_eqLl, ↓p_eqlL, ↓p_eqll, ↓p_eqL0, ↓p_eql0, ↓p_neLL, ↓p_neLl, ↓p_nelL, ↓p_nell, ↓p_neL0, ↓p_nel0,
  ↓gp_cells, ↓gp_turn, ↓put_turn, ↓put_cells, ↓putP_top, wipeE, lv_0, lv_s,
  List.set_cons_zero, List.set_cons_succ, List.length_cons, List.length_nil, List.map_cons, List.map_nil, finR, List.replicate, List.replicate_succ, List.replicate_zero, List.cons_append, List.nil_append, true_and, and_true, List.tail_cons, List.head?_cons, Option.join_some, List.contains_nil, Bool.false_eq_true, if_false, if_true, List.all_nil, and_self, Int.reduceToNat, Int.reducePow, Nat.reduceSub, Nat.reduceAdd, Int.reduceAdd, Int.reduceMul, Int.reduceSub, Int.reduceNeg, Int.reduceLT, Int.reduceLE, Int.natAbs, Nat.reduceLT, Nat.reduceLeDiff, Nat.reducePow])
/-! ### windows seen, gaps between them, faults that explain -/
section
variable {Q : O → Prop}
end
abbrev Seen := List (Option Rg × Bool)
def seD (s : Option Rg × Bool) : D := .tuple [ogD s.1, .bool s.2]
def hitB (x y : Int) (w : Rg) : Bool := decide (w.1 ≤ y) && decide (x ≤ w.2)
def isF (x y : Int) (se : Seen) : Bool := !(decide (x > y) || se.any fun s => s.2 && s.1.isNone) && ((se.filter fun s => s.1.isSome).all fun s => match s.1 with | some w => hitB x y w == s.2 | none => true)
/-! gaps -/
abbrev Gap := Int × Option Int
def gapD (g : Gap) : D := .tuple [.int g.1, optD g.2]
def gapsL : Int → List Rg → List Gap
  | b, [] => [(b, none)]
  | b, p :: r => if p.1 > b then (b, some (p.1 - 1)) :: gapsL (p.2 + 1) r else gapsL (p.2 + 1) r
def inGap (g : Gap) (x : Int) : Prop := g.1 ≤ x ∧ ∀ e, g.2 = some e → x ≤ e
/-! what explains -/
structure Su where
  f : Int
  la : Option Int
  lt : Int
  er : Int
def suD (pl : Str) (r : Su) : D := .tuple [.str pl, .int r.f, optD r.la, .int r.lt, .int r.er]
def suIn (least greatest : Int) (g : Gap) : Option Su := if g.1 > least ∨ (∃ e, g.2 = some e ∧ e < greatest) then none else some ⟨g.1, g.2, (match g.2 with | none => least | some e => min least e), max greatest g.1⟩
def suAt (bads : List Rg) (goods : List Rg) : List Su := (gapsL 0 (setOf goods)).filterMap (suIn (mnI (bads.map (·.2))) (mxI (bads.map (·.1))))
/-- a row that the windows bear out -/
structure RowP (bads goods : List Rg) (r : Su) : Prop where
  f0 : 0 ≤ r.f
  fl : ∀ e, r.la = some e → r.f ≤ e
  free : ∀ x, inGap (r.f, r.la) x → ∀ w ∈ goods, ¬(w.1 ≤ x ∧ x ≤ w.2)
  low : 0 < r.f → ∃ w ∈ goods, w.1 ≤ r.f - 1 ∧ r.f - 1 ≤ w.2
  high : ∀ e, r.la = some e → ∃ w ∈ goods, w.1 ≤ e + 1 ∧ e + 1 ≤ w.2
  lf : r.f ≤ mnI (bads.map (·.2))
  gl : ∀ e, r.la = some e → mxI (bads.map (·.1)) ≤ e
  lt : r.lt = match r.la with | none => mnI (bads.map (·.2)) | some e => min (mnI (bads.map (·.2))) e
  er : r.er = max (mxI (bads.map (·.1))) r.f
theorem wo_bx {s : Bx} {r : List (Option O)} {A B : Prop} : Wo (some (bxO s) :: r) 0 A B ↔ A := Iff.rfl
theorem isl_bx {s : Bx} : (bxO s).isLeaf = false := rfl
end Mv
set_option Elab.async false
set_option linter.all false
set_option maxRecDepth 100000
set_option maxHeartbeats 4000000
namespace Mv
open PySem PySem.Spec PyProof.Rows L2
local macro_rules | `(tactic| walk_at "mv") => `(tactic| try simp only [↓w_cst, ↓w_var, ↓w_mv, ↓w_fz, ↓w_frz, ↓w_bin, ↓w_un, ↓w_binV, ↓w_if, ↓w_asB, ↓w_yes, ↓w_not, ↓w_and, ↓w_or, ↓w_andE, ↓w_orE, ↓w_notE, ↓w_chain, ↓w_nil, ↓w_cons, ↓w_tup, ↓w_lst, ↓w_pl, ↓w_mut, ↓w_c0, ↓w_ce, ↓w_cv, ↓w_call', ↓wb_0, ↓wb_e, ↓wb_v, wb_e', ↓wo_leaf, ↓wo_ls, ↓wo_dic, ↓wo_dct, ↓wo_st, ↓wo_s, own_0, own_s, oi_0, oi_e, oi_v, isl_st, isl_leaf, isl_ls, Bool.not_false, Bool.not_true, List.nodup_cons, List.nodup_nil, List.not_mem_nil, not_false_eq_true, ↓w_seq, ↓w_skip, ↓w_brk, ↓w_cont, ↓w_retN, ↓w_set, ↓w_drop, ↓w_ret, ↓w_retV, ↓w_ifS, ↓w_fzS, ↓w_asg, ↓w_gN, ↓w_gT, ↓w_gNl, ↓w_gCn, ↓w_gSub, ↓w_par, ↓w_aug, ↓w_int, ↓w_slice, ↓w_rng1, ↓w_rng2, ↓w_seqI, ↓w_comp, ↓w_for,
  ↓sl_0, ↓sl_s, ↓fr_leaf, ↓fr_ls, ↓ok_t, ↓ok_l, ↓br_t, ↓br_f, decide_true, decide_false, Int.reduceEq, ↓bl_b, ↓il_b, ↓le_l, ↓gp_top, ↓cl_0, ↓cl_e, ↓cl_v, ↓nxt_nx, ↓nxt_rt, ↓nxt_bk, ↓nxt_ct, ↓sa_0, ↓sa_s, ↓rg1_i, ↓rg2_i, ↓itm_l, ↓itm_t, ↓itm_o, ↓fin_rt, ↓fin_nx, ↓lpk_nx, ↓lpk_ct, ↓lpk_bk, ↓lpk_rt, ↓wcl_nil, ↓wf_nil,
  ↓w_enum, ↓w_zip, ↓enm_l, ↓enm_o, ↓zp_ll, ↓zp_lo, ↓zp_ol, ↓zp_oo, ↓zp_tt, ↓p_isLTi, ↓p_isLTn, ↓p_isSi, ↓p_isBn, ↓p_extend, p_extendS, p_appendS, List.isEmpty_nil, ↓w_dicO, ↓dicO_list, zip_cc, zip_nn, ↓at_0, ↓at_1, ↓at_2, ↓at_3, ↓at_4, p_insertS, ↓p_mulO, ↓p_repB, ↓p_rep0, ↓p_rep1, ↓w_while, ↓p_insert, ↓at_last, ↓put_last, ↓p_inl, ↓p_inL, ↓p_ninl, ↓p_ninL, ↓p_eqP0, ↓p_neP0, ↓p_neA, ↓p_eq00, ↓p_ne00, ↓p_ixp0, ↓p_ixp1, ↓w_gTp, ↓p_isLTb, ↓p_isLTs, ↓p_isIb, ↓p_isBb, ↓p_isSb, ↓p_isLb, ↓p_isTb, ↓p_isIs, ↓p_isBs, ↓p_isSs, ↓p_isLs, ↓p_isTs, ↓p_isLi, ↓p_isTi, ↓p_isLn, ↓p_isTn, ↓p_isSn, ↓p_isNb, ↓p_isNs, ↓p_isNt, ↓p_isNl, ↓p_isNp, ↓p_eqTT, ↓p_eqTF, ↓p_eqFT, ↓p_eqFF, ↓p_neTT, ↓p_neTF, ↓p_neFT, ↓p_neFF, ↓p_eqBs, ↓p_eqSs, ↓p_eqIs, ↓w_borA, lv_n, lv_var, lf1_leaf, lf1_ls, lf1_non, lf1_bx, lf1_st, lf1_dic, ↓wo_bx, isl_bx, ↓p_catS, ↓p_catT, ↓p_mulJ, ↓w_chain4, ↓p_lrg1, ↓p_lrg2, ↓p_maxL, ↓p_maxl, ↓p_minL, ↓p_minl, ↓w_getE, ↓w_emptyK, ↓w_emptyT, ↓p_dixi, ↓p_dixs, ↓p_dini, ↓p_dins, ↓p_dgi, ↓p_dgs, ↓p_dputi, ↓p_dputs, ↓p_extA, ↓p_extAl, p_extAS, p_extASl, ↓w_bor, fl_b, fl_i, fl_n, fl_s, ↓w_enumA, ↓enma_l, ↓enma_t, ↓enma_o, eq_self, ↓w_strM, ↓sv_s, ↓p_eqS, ↓p_neS, ↓p_isTp, ↓p_lenp, ↓itm_p, ↓p_neBs, line_racks, racks_line, ↓p_sub, ↓p_add, ↓p_ipadd, ↓p_mul, ↓p_div, ↓p_mod, ↓p_pow, ↓p_neg, ↓p_eq, ↓p_ne, ↓p_lt, ↓p_gt, ↓p_le, ↓p_ge, ↓p_max, ↓p_min, ↓p_abs, ↓p_intI, ↓p_intB, ↓p_isaI, ↓p_isaB, ↓p_isaNI, ↓p_isNI, ↓p_isNN, ↓p_isNo, ↓p_eqo, ↓p_neo, ↓p_divmod, ↓p_catL, ↓p_catLl, ↓p_catlL, ↓p_catll, ↓p_len, ↓p_lenl, ↓p_lent, ↓p_list, ↓p_listl, ↓p_listt, ↓p_tuple, ↓p_tuplel, ↓p_tuplet, ↓p_rev, ↓p_revl, ↓p_ix, ↓p_ixl, ↓p_ixt, ↓p_append, ↓p_reverse, ↓p_sum, ↓p_suml, ↓p_any, ↓p_all, ↓p_eqLL, ↓p_eqLl, ↓p_eqlL, ↓p_eqll, ↓p_eqL0, ↓p_eql0, ↓p_neLL, ↓p_neLl, ↓p_nelL, ↓p_nell, ↓p_neL0, ↓p_nel0,
  ↓gp_cells, ↓gp_turn, ↓put_turn, ↓put_cells, ↓putP_top, wipeE, lv_0, lv_s,
  List.set_cons_zero, List.set_cons_succ, List.length_cons, List.length_nil, List.map_cons, List.map_nil, finR, List.replicate, List.replicate_succ, List.replicate_zero, List.cons_append, List.nil_append, true_and, and_true, List.tail_cons, List.head?_cons, Option.join_some, List.contains_nil, Bool.false_eq_true, if_false, if_true, List.all_nil, and_self, Int.reduceToNat, Int.reducePow, Nat.reduceSub, Nat.reduceAdd, Int.reduceAdd, Int.reduceMul, Int.reduceSub, Int.reduceNeg, Int.reduceLT, Int.reduceLE, Int.natAbs, Nat.reduceLT, Nat.reduceLeDiff, Nat.reducePow])
local macro_rules | `(tactic| walk_at "mve") => `(tactic| try simp only [↓w_cst, ↓w_var, ↓w_mv, ↓w_fz, ↓w_frz, ↓w_bin, ↓w_un, ↓w_binV, ↓w_asB, ↓w_yes, ↓w_not, ↓w_and, ↓w_or, ↓w_notE, ↓w_chain, ↓w_nil, ↓w_cons, ↓w_tup, ↓w_lst, ↓w_pl, ↓w_mut, ↓w_c0, ↓w_ce, ↓w_cv, ↓w_call', ↓wb_0, ↓wb_e, ↓wb_v, wb_e', ↓wo_leaf, ↓wo_ls, ↓wo_dic, ↓wo_dct, ↓wo_st, ↓wo_s, own_0, own_s, oi_0, oi_e, oi_v, isl_st, isl_leaf, isl_ls, Bool.not_false, Bool.not_true, List.nodup_cons, List.nodup_nil, List.not_mem_nil, not_false_eq_true, ↓w_seq, ↓w_skip, ↓w_brk, ↓w_cont, ↓w_retN, ↓w_set, ↓w_drop, ↓w_ret, ↓w_retV, ↓w_ifS, ↓w_fzS, ↓w_asg, ↓w_gN, ↓w_gT, ↓w_gNl, ↓w_gCn, ↓w_gSub, ↓w_par, ↓w_aug, ↓w_int, ↓w_slice, ↓w_rng1, ↓w_rng2, ↓w_seqI, ↓w_comp, ↓w_for,
  ↓sl_0, ↓sl_s, ↓fr_leaf, ↓fr_ls, ↓ok_t, ↓ok_l, ↓br_t, ↓br_f, decide_true, decide_false, Int.reduceEq, ↓bl_b, ↓il_b, ↓le_l, ↓gp_top, ↓cl_0, ↓cl_e, ↓cl_v, ↓nxt_nx, ↓nxt_rt, ↓nxt_bk, ↓nxt_ct, ↓sa_0, ↓sa_s, ↓rg1_i, ↓rg2_i, ↓itm_l, ↓itm_t, ↓itm_o, ↓fin_rt, ↓fin_nx, ↓lpk_nx, ↓lpk_ct, ↓lpk_bk, ↓lpk_rt, ↓wcl_nil, ↓wf_nil,
  ↓w_enum, ↓w_zip, ↓enm_l, ↓enm_o, ↓zp_ll, ↓zp_lo, ↓zp_ol, ↓zp_oo, ↓zp_tt, ↓p_isLTi, ↓p_isLTn, ↓p_isSi, ↓p_isBn, ↓p_extend, p_extendS, p_appendS, List.isEmpty_nil, ↓w_dicO, ↓dicO_list, zip_cc, zip_nn, ↓at_0, ↓at_1, ↓at_2, ↓at_3, ↓at_4, p_insertS, ↓p_mulO, ↓p_repB, ↓p_rep0, ↓p_rep1, ↓w_while, ↓p_insert, ↓at_last, ↓put_last, ↓p_inl, ↓p_inL, ↓p_ninl, ↓p_ninL, ↓p_eqP0, ↓p_neP0, ↓p_neA, ↓p_eq00, ↓p_ne00, ↓p_ixp0, ↓p_ixp1, ↓w_gTp, ↓p_isLTb, ↓p_isLTs, ↓p_isIb, ↓p_isBb, ↓p_isSb, ↓p_isLb, ↓p_isTb, ↓p_isIs, ↓p_isBs, ↓p_isSs, ↓p_isLs, ↓p_isTs, ↓p_isLi, ↓p_isTi, ↓p_isLn, ↓p_isTn, ↓p_isSn, ↓p_isNb, ↓p_isNs, ↓p_isNt, ↓p_isNl, ↓p_isNp, ↓p_eqTT, ↓p_eqTF, ↓p_eqFT, ↓p_eqFF, ↓p_neTT, ↓p_neTF, ↓p_neFT, ↓p_neFF, ↓p_eqBs, ↓p_eqSs, ↓p_eqIs, ↓w_borA, lv_n, lv_var, lf1_leaf, lf1_ls, lf1_non, lf1_bx, lf1_st, lf1_dic, ↓wo_bx, isl_bx, ↓p_catS, ↓p_catT, ↓p_mulJ, ↓w_chain4, ↓p_lrg1, ↓p_lrg2, ↓p_maxL, ↓p_maxl, ↓p_minL, ↓p_minl, ↓w_getE, ↓w_emptyK, ↓w_emptyT, ↓p_dixi, ↓p_dixs, ↓p_dini, ↓p_dins, ↓p_dgi, ↓p_dgs, ↓p_dputi, ↓p_dputs, ↓p_extA, ↓p_extAl, p_extAS, p_extASl, ↓w_bor, fl_b, fl_i, fl_n, fl_s, ↓w_enumA, ↓enma_l, ↓enma_t, ↓enma_o, eq_self, ↓w_strM, ↓sv_s, ↓p_eqS, ↓p_neS, ↓p_isTp, ↓p_lenp, ↓itm_p, ↓p_neBs, line_racks, racks_line, ↓p_sub, ↓p_add, ↓p_ipadd, ↓p_mul, ↓p_div, ↓p_mod, ↓p_pow, ↓p_neg, ↓p_eq, ↓p_ne, ↓p_lt, ↓p_gt, ↓p_le, ↓p_ge, ↓p_max, ↓p_min, ↓p_abs, ↓p_intI, ↓p_intB, ↓p_isaI, ↓p_isaB, ↓p_isaNI, ↓p_isNI, ↓p_isNN, ↓p_isNo, ↓p_eqo, ↓p_neo, ↓p_divmod, ↓p_catL, ↓p_catLl, ↓p_catlL, ↓p_catll, ↓p_len, ↓p_lenl, ↓p_lent, ↓p_list, ↓p_listl, ↓p_listt, ↓p_tuple, ↓p_tuplel, ↓p_tuplet, ↓p_rev, ↓p_revl, ↓p_ix, ↓p_ixl, ↓p_ixt, ↓p_append, ↓p_reverse, ↓p_sum, ↓p_suml, ↓p_any, ↓p_all, ↓p_eqLL, ↓p_eqLl, ↓p_eqlL, ↓p_eqll, ↓p_eqL0, ↓p_eql0, ↓p_neLL, ↓p_neLl, ↓p_nelL, ↓p_nell, ↓p_neL0, ↓p_nel0,
  ↓gp_cells, ↓gp_turn, ↓put_turn, ↓put_cells, ↓putP_top, wipeE, lv_0, lv_s,
  List.set_cons_zero, List.set_cons_succ, List.length_cons, List.length_nil, List.map_cons, List.map_nil, finR, List.replicate, List.replicate_succ, List.replicate_zero, List.cons_append, List.nil_append, true_and, and_true, List.tail_cons, List.head?_cons, Option.join_some, List.contains_nil, Bool.false_eq_true, if_false, if_true, List.all_nil, and_self, Int.reduceToNat, Int.reducePow, Nat.reduceSub, Nat.reduceAdd, Int.reduceAdd, Int.reduceMul, Int.reduceSub, Int.reduceNeg, Int.reduceLT, Int.reduceLE, Int.natAbs, Nat.reduceLT, Nat.reduceLeDiff, Nat.reducePow])
local macro_rules | `(tactic| walk_at "mv1") => `(tactic| try simp only [↓ok_t, ↓ok_l, ↓nxt_nx, ↓nxt_rt, ↓w_seq, ↓fin_rt, ↓fin_nx, ↓lpk_nx, ↓lpk_ct, ↓lpk_bk, ↓lpk_rt, wipeE, List.set_cons_zero, List.set_cons_succ, true_and, and_true])
local macro_rules | `(tactic| walk_at "mvs") => `(tactic| try simp only [↓sl_0, ↓sl_s, ↓fr_leaf, ↓fr_ls, ↓ok_t, ↓ok_l, ↓nxt_nx, ↓nxt_rt, ↓w_seq, ↓fin_rt, ↓fin_nx, ↓lpk_nx, ↓lpk_ct, ↓lpk_bk, ↓lpk_rt, wipeE, List.set_cons_zero, List.set_cons_succ, true_and, and_true])
local macro_rules | `(tactic| walk_at "mvp") => `(tactic| try simp only [↓w_cst, ↓w_var, ↓w_mv, ↓w_fz, ↓w_frz, ↓w_bin, ↓w_un, ↓w_binV, ↓w_if, ↓w_asB, ↓w_yes, ↓w_not, ↓w_and, ↓w_or, ↓w_andE, ↓w_orE, ↓w_notE, ↓w_chain, ↓w_nil, ↓w_cons, ↓w_tup, ↓w_lst, ↓w_pl, ↓w_mut, ↓w_c0, ↓w_ce, ↓w_cv, ↓w_call', ↓wb_0, ↓wb_e, ↓wb_v, wb_e', ↓wo_leaf, ↓wo_ls, ↓wo_dic, ↓wo_dct, ↓wo_st, ↓wo_s, own_0, own_s, oi_0, oi_e, oi_v, isl_st, isl_leaf, isl_ls, Bool.not_false, Bool.not_true, List.nodup_cons, List.nodup_nil, List.not_mem_nil, not_false_eq_true, ↓w_seq, ↓w_skip, ↓w_brk, ↓w_cont, ↓w_retN, ↓w_set, ↓w_drop, ↓w_ret, ↓w_retV, ↓w_fzS, ↓w_asg, ↓w_gN, ↓w_gT, ↓w_gNl, ↓w_gCn, ↓w_gSub, ↓w_par, ↓w_aug, ↓w_int, ↓w_slice, ↓w_rng1, ↓w_rng2, ↓w_seqI, ↓w_comp, ↓w_for,
  ↓sl_0, ↓sl_s, ↓fr_leaf, ↓fr_ls, ↓ok_t, ↓ok_l, ↓br_t, ↓br_f, decide_true, decide_false, Int.reduceEq, ↓bl_b, ↓il_b, ↓le_l, ↓gp_top, ↓cl_0, ↓cl_e, ↓cl_v, ↓nxt_nx, ↓nxt_rt, ↓nxt_bk, ↓nxt_ct, ↓sa_0, ↓sa_s, ↓rg1_i, ↓rg2_i, ↓itm_l, ↓itm_t, ↓itm_o, ↓fin_rt, ↓fin_nx, ↓lpk_nx, ↓lpk_ct, ↓lpk_bk, ↓lpk_rt, ↓wcl_nil, ↓wf_nil,
  ↓w_enum, ↓w_zip, ↓enm_l, ↓enm_o, ↓zp_ll, ↓zp_lo, ↓zp_ol, ↓zp_oo, ↓zp_tt, ↓p_isLTi, ↓p_isLTn, ↓p_isSi, ↓p_isBn, ↓p_extend, p_extendS, p_appendS, List.isEmpty_nil, ↓w_dicO, ↓dicO_list, zip_cc, zip_nn, ↓at_0, ↓at_1, ↓at_2, ↓at_3, ↓at_4, p_insertS, ↓p_mulO, ↓p_repB, ↓p_rep0, ↓p_rep1, ↓w_while, ↓p_insert, ↓at_last, ↓put_last, ↓p_inl, ↓p_inL, ↓p_ninl, ↓p_ninL, ↓p_eqP0, ↓p_neP0, ↓p_neA, ↓p_eq00, ↓p_ne00, ↓p_ixp0, ↓p_ixp1, ↓w_gTp, ↓p_isLTb, ↓p_isLTs, ↓p_isIb, ↓p_isBb, ↓p_isSb, ↓p_isLb, ↓p_isTb, ↓p_isIs, ↓p_isBs, ↓p_isSs, ↓p_isLs, ↓p_isTs, ↓p_isLi, ↓p_isTi, ↓p_isLn, ↓p_isTn, ↓p_isSn, ↓p_isNb, ↓p_isNs, ↓p_isNt, ↓p_isNl, ↓p_isNp, ↓p_eqTT, ↓p_eqTF, ↓p_eqFT, ↓p_eqFF, ↓p_neTT, ↓p_neTF, ↓p_neFT, ↓p_neFF, ↓p_eqBs, ↓p_eqSs, ↓p_eqIs, ↓w_borA, lv_n, lv_var, lf1_leaf, lf1_ls, lf1_non, lf1_bx, lf1_st, lf1_dic, ↓wo_bx, isl_bx, ↓p_catS, ↓p_catT, ↓p_mulJ, ↓w_chain4, ↓p_lrg1, ↓p_lrg2, ↓p_maxL, ↓p_maxl, ↓p_minL, ↓p_minl, ↓w_getE, ↓w_emptyK, ↓w_emptyT, ↓p_dixi, ↓p_dixs, ↓p_dini, ↓p_dins, ↓p_dgi, ↓p_dgs, ↓p_dputi, ↓p_dputs, ↓p_extA, ↓p_extAl, p_extAS, p_extASl, ↓w_bor, fl_b, fl_i, fl_n, fl_s, ↓w_enumA, ↓enma_l, ↓enma_t, ↓enma_o, eq_self, ↓w_strM, ↓sv_s, ↓p_eqS, ↓p_neS, ↓p_isTp, ↓p_lenp, ↓itm_p, ↓p_neBs, line_racks, racks_line, ↓p_sub, ↓p_add, ↓p_ipadd, ↓p_mul, ↓p_div, ↓p_mod, ↓p_pow, ↓p_neg, ↓p_eq, ↓p_ne, ↓p_lt, ↓p_gt, ↓p_le, ↓p_ge, ↓p_max, ↓p_min, ↓p_abs, ↓p_intI, ↓p_intB, ↓p_isaI, ↓p_isaB, ↓p_isaNI, ↓p_isNI, ↓p_isNN, ↓p_isNo, ↓p_eqo, ↓p_neo, ↓p_divmod, ↓p_catL, ↓p_catLl, ↓p_catlL, ↓p_catll, ↓p_len, ↓p_lenl, ↓p_lent, ↓p_list, ↓p_listl, ↓p_listt, ↓p_tuple, ↓p_tuplel, ↓p_tuplet, ↓p_rev, ↓p_revl, ↓p_ix, ↓p_ixl, ↓p_ixt, ↓p_append, ↓p_reverse, ↓p_sum, ↓p_suml, ↓p_any, ↓p_all, ↓p_eqLL, ↓p_eqLl, ↓p_eqlL, ↓p_eqll, ↓p_eqL0, ↓p_eql0, ↓p_neLL, ↓p_neLl, ↓p_nelL, ↓p_nell, ↓p_neL0, ↓p_nel0,
  ↓gp_cells, ↓gp_turn, ↓put_turn, ↓put_cells, ↓putP_top, wipeE, lv_0, lv_s,
  List.set_cons_zero, List.set_cons_succ, List.length_cons, List.length_nil, List.map_cons, List.map_nil, finR, List.replicate, List.replicate_succ, List.replicate_zero, List.cons_append, List.nil_append, true_and, and_true, List.tail_cons, List.head?_cons, Option.join_some, List.contains_nil, Bool.false_eq_true, if_false, if_true, List.all_nil, and_self, Int.reduceToNat, Int.reducePow, Nat.reduceSub, Nat.reduceAdd, Int.reduceAdd, Int.reduceMul, Int.reduceSub, Int.reduceNeg, Int.reduceLT, Int.reduceLE, Int.natAbs, Nat.reduceLT, Nat.reduceLeDiff, Nat.reducePow])
/-! ### a thing of one's own, read while a plain value is made -/
def lf1 : Option O → Option O
  | some (.leaf t) => some (.leaf t)
  | _ => none
def lvs (env : Mv.Env) : Mv.Env := env.map lf1
theorem lvs_len {env : Mv.Env} : (lvs env).length = env.length := List.length_map _
theorem lf1_some {x : Option O} {o : O} (h : lf1 x = some o) : x = some o ∧ o.isLeaf = true := by
  cases x with
  | none => cases h
  | some y =>
    cases y with
    | leaf t => cases h; exact ⟨rfl, rfl⟩
    | _ => cases h
theorem lvs_get {env : Mv.Env} {j : Nat} {o : O} (h : (lvs env)[j]? = some (some o)) : env[j]? = some (some o) ∧ o.isLeaf = true := by
  unfold lvs at h
  rw [List.getElem?_map] at h
  cases e : env[j]? with
  | none => rw [e] at h; cases h
  | some x =>
    rw [e] at h
    obtain ⟨h1, h2⟩ := lf1_some (Option.some.inj h)
    exact ⟨by rw [h1], h2⟩
def borA (i : Nat) (f : ESem) : ESem := fun env => match env[i]? with
  | some (some o) => o.frz.bind fun t => (f ((lvs env).set i (some (.leaf t)))).bind fun p => if flatO p.1 = true then some (p.1, env) else none
  | _ => none
theorem Rel.lv {K : PySem.W.Frag} {env : Mv.Env} {σ : L2.St} {S H : Hp} {fp : Nat → List Addr} {i : Nat} {o : O} {t : D} (R : Rel K env σ S H fp) (e : env[i]? = some (some o)) (h : o.frz = some t) :
    Rel K ((lvs env).set i (some (.leaf t))) σ (withF S H (fp i)) H (fun _ => []) ∧ Evo S H fp (withF S H (fp i)) H (fun _ => []) := by
  have un : ∀ a ∈ fp i, S a = none := R.un i
  refine ⟨⟨withF_le R.le, by rw [List.length_set, lvs_len]; exact R.len, fun j o' e' => ?_, fun j => List.nodup_nil, fun j k a m1 m2 => (by cases m1), fun j a m => (by cases m), fun j a m => (by cases m), R.tb.withF (R.ins i)⟩, ⟨withF_sub un, fun a ha hn => ⟨rfl, withF_off (hn i)⟩, fun j a m => (by cases m), LV.refl⟩⟩
  by_cases hj : i = j
  · subst hj
    have hlt : i < (lvs env).length := by
      rw [lvs_len]
      exact (List.getElem?_eq_some_iff.mp e).1
    rw [List.getElem?_set_self hlt] at e'
    cases e'
    obtain ⟨v, e2, w⟩ := R.sl i o e
    exact ⟨v, e2, ow_leaf (frz_fz R.le un w h)⟩
  · rw [List.getElem?_set_ne hj] at e'
    obtain ⟨e3, hl⟩ := lvs_get e'
    obtain ⟨v, e2, w⟩ := R.sl j o' e3
    have ef := isLeaf_fr hl w
    rw [ef] at w
    exact ⟨v, e2, w.mono (withF_sub un) (Same.refl _)⟩
theorem w_borA {i : Nat} {f : ESem} {env : Mv.Env} {Q : O → Mv.Env → Prop} : We (borA i f) env Q ↔ Sl env i fun o => Mv.Fr o fun t => We f ((lvs env).set i (some (.leaf t))) fun r _ => flatO r = true ∧ Q r env := by
  unfold We borA Sl
  cases q : env[i]? with
  | none => exact Iff.rfl
  | some x =>
    cases x with
    | none => exact Iff.rfl
    | some o =>
      simp only [Option.join_some, O1]
      unfold Mv.Fr
      cases h1 : o.frz with
      | none => exact Iff.rfl
      | some t =>
        simp only [Option.bind_some, O1]
        cases h2 : f ((lvs env).set i (some (.leaf t))) with
        | none => exact Iff.rfl
        | some p =>
          simp only [Option.bind_some, O2]
          by_cases h3 : flatO p.1 = true
          · simp [h3]
          · simp [h3]
section
variable {r : Mv.Env} {t : D} {ts : List D} {s : Bx} {s2 : List Int × Int} {kvs : List (Key × D)}
theorem lv_n : lvs [] = [] := rfl
theorem lf1_leaf : lf1 (some (.leaf t)) = some (.leaf t) := rfl
theorem lf1_ls : lf1 (some (.ls ts)) = none := rfl
theorem lf1_non : lf1 none = none := rfl
theorem lf1_bx : lf1 (some (bxO s)) = none := rfl
theorem lf1_st : lf1 (some (stO s2)) = none := rfl
theorem lf1_dic : lf1 (some (dicS kvs)) = none := rfl
theorem lv_var {x : Option O} : lvs (x :: r) = lf1 x :: lvs r := rfl
end

end Mv

set_option Elab.async false
set_option linter.all false
set_option maxRecDepth 100000
set_option maxHeartbeats 4000000
namespace Mv
open PySem PySem.Spec PyProof.Rows L2
local macro_rules | `(tactic| walk_at "mv") => `(tactic| try simp only [↓w_cst, ↓w_var, ↓w_mv, ↓w_fz, ↓w_frz, ↓w_bin, ↓w_un, ↓w_binV, ↓w_if, ↓w_asB, ↓w_yes, ↓w_not, ↓w_and, ↓w_or, ↓w_andE, ↓w_orE, ↓w_notE, ↓w_chain, ↓w_nil, ↓w_cons, ↓w_tup, ↓w_lst, ↓w_pl, ↓w_mut, ↓w_c0, ↓w_ce, ↓w_cv, ↓w_call', ↓wb_0, ↓wb_e, ↓wb_v, wb_e', ↓wo_leaf, ↓wo_ls, ↓wo_dic, ↓wo_dct, ↓wo_st, ↓wo_s, own_0, own_s, oi_0, oi_e, oi_v, isl_st, isl_leaf, isl_ls, Bool.not_false, Bool.not_true, List.nodup_cons, List.nodup_nil, List.not_mem_nil, not_false_eq_true, ↓w_seq, ↓w_skip, ↓w_brk, ↓w_cont, ↓w_retN, ↓w_set, ↓w_drop, ↓w_ret, ↓w_retV, ↓w_ifS, ↓w_fzS, ↓w_asg, ↓w_gN, ↓w_gT, ↓w_gNl, ↓w_gCn, ↓w_gSub, ↓w_par, ↓w_aug, ↓w_int, ↓w_slice, ↓w_rng1, ↓w_rng2, ↓w_seqI, ↓w_comp, ↓w_for,
  ↓sl_0, ↓sl_s, ↓fr_leaf, ↓fr_ls, ↓ok_t, ↓ok_l, ↓br_t, ↓br_f, decide_true, decide_false, Int.reduceEq, ↓bl_b, ↓il_b, ↓le_l, ↓gp_top, ↓cl_0, ↓cl_e, ↓cl_v, ↓nxt_nx, ↓nxt_rt, ↓nxt_bk, ↓nxt_ct, ↓sa_0, ↓sa_s, ↓rg1_i, ↓rg2_i, ↓itm_l, ↓itm_t, ↓itm_o, ↓fin_rt, ↓fin_nx, ↓lpk_nx, ↓lpk_ct, ↓lpk_bk, ↓lpk_rt, ↓wcl_nil, ↓wf_nil,
  ↓w_enum, ↓w_zip, ↓enm_l, ↓enm_o, ↓zp_ll, ↓zp_lo, ↓zp_ol, ↓zp_oo, ↓zp_tt, ↓p_isLTi, ↓p_isLTn, ↓p_isSi, ↓p_isBn, ↓p_extend, p_extendS, p_appendS, List.isEmpty_nil, ↓w_dicO, ↓dicO_list, zip_cc, zip_nn, ↓at_0, ↓at_1, ↓at_2, ↓at_3, ↓at_4, p_insertS, ↓p_mulO, ↓p_repB, ↓p_rep0, ↓p_rep1, ↓w_while, ↓p_insert, ↓at_last, ↓put_last, ↓p_inl, ↓p_inL, ↓p_ninl, ↓p_ninL, ↓p_eqP0, ↓p_neP0, ↓p_neA, ↓p_eq00, ↓p_ne00, ↓p_ixp0, ↓p_ixp1, ↓w_gTp, ↓p_isLTb, ↓p_isLTs, ↓p_isIb, ↓p_isBb, ↓p_isSb, ↓p_isLb, ↓p_isTb, ↓p_isIs, ↓p_isBs, ↓p_isSs, ↓p_isLs, ↓p_isTs, ↓p_isLi, ↓p_isTi, ↓p_isLn, ↓p_isTn, ↓p_isSn, ↓p_isNb, ↓p_isNs, ↓p_isNt, ↓p_isNl, ↓p_isNp, ↓p_eqTT, ↓p_eqTF, ↓p_eqFT, ↓p_eqFF, ↓p_neTT, ↓p_neTF, ↓p_neFT, ↓p_neFF, ↓p_eqBs, ↓p_eqSs, ↓p_eqIs, ↓w_borA, lv_n, lv_var, lf1_leaf, lf1_ls, lf1_non, lf1_bx, lf1_st, lf1_dic, ↓wo_bx, isl_bx, ↓p_catS, ↓p_catT, ↓p_mulJ, ↓w_chain4, ↓p_lrg1, ↓p_lrg2, ↓p_maxL, ↓p_maxl, ↓p_minL, ↓p_minl, ↓w_getE, ↓w_emptyK, ↓w_emptyT, ↓p_dixi, ↓p_dixs, ↓p_dini, ↓p_dins, ↓p_dgi, ↓p_dgs, ↓p_dputi, ↓p_dputs, ↓p_extA, ↓p_extAl, p_extAS, p_extASl, ↓w_bor, fl_b, fl_i, fl_n, fl_s, ↓w_enumA, ↓enma_l, ↓enma_t, ↓enma_o, eq_self, ↓w_strM, ↓sv_s, ↓p_eqS, ↓p_neS, ↓p_isTp, ↓p_lenp, ↓itm_p, ↓p_neBs, line_racks, racks_line, ↓p_sub, ↓p_add, ↓p_ipadd, ↓p_mul, ↓p_div, ↓p_mod, ↓p_pow, ↓p_neg, ↓p_eq, ↓p_ne, ↓p_lt, ↓p_gt, ↓p_le, ↓p_ge, ↓p_max, ↓p_min, ↓p_abs, ↓p_intI, ↓p_intB, ↓p_isaI, ↓p_isaB, ↓p_isaNI, ↓p_isNI, ↓p_isNN, ↓p_isNo, ↓p_eqo, ↓p_neo, ↓p_divmod, ↓p_catL, ↓p_catLl, ↓p_catlL, ↓p_catll, ↓p_len, ↓p_lenl, ↓p_lent, ↓p_list, ↓p_listl, ↓p_listt, ↓p_tuple, ↓p_tuplel, ↓p_tuplet, ↓p_rev, ↓p_revl, ↓p_ix, ↓p_ixl, ↓p_ixt, ↓p_append, ↓p_reverse, ↓p_sum, ↓p_suml, ↓p_any, ↓p_all, ↓p_eqLL, ↓p_eqLl, ↓p_eqlL, ↓p_eqll, ↓p_eqL0, ↓p_eql0, ↓p_neLL, ↓p_neLl, ↓p_nelL, ↓p_nell, ↓p_neL0, ↓p_nel0,
  ↓gp_cells, ↓gp_turn, ↓put_turn, ↓put_cells, ↓putP_top, wipeE, lv_0, lv_s,
  List.set_cons_zero, List.set_cons_succ, List.length_cons, List.length_nil, List.map_cons, List.map_nil, finR, List.replicate, List.replicate_succ, List.replicate_zero, List.cons_append, List.nil_append, true_and, and_true, List.tail_cons, List.head?_cons, Option.join_some, List.contains_nil, Bool.false_eq_true, if_false, if_true, List.all_nil, and_self, Int.reduceToNat, Int.reducePow, Nat.reduceSub, Nat.reduceAdd, Int.reduceAdd, Int.reduceMul, Int.reduceSub, Int.reduceNeg, Int.reduceLT, Int.reduceLE, Int.natAbs, Nat.reduceLT, Nat.reduceLeDiff, Nat.reducePow])
local macro_rules | `(tactic| walk_at "mve") => `(tactic| try simp only [↓w_cst, ↓w_var, ↓w_mv, ↓w_fz, ↓w_frz, ↓w_bin, ↓w_un, ↓w_binV, ↓w_asB, ↓w_yes, ↓w_not, ↓w_and, ↓w_or, ↓w_notE, ↓w_chain, ↓w_nil, ↓w_cons, ↓w_tup, ↓w_lst, ↓w_pl, ↓w_mut, ↓w_c0, ↓w_ce, ↓w_cv, ↓w_call', ↓wb_0, ↓wb_e, ↓wb_v, wb_e', ↓wo_leaf, ↓wo_ls, ↓wo_dic, ↓wo_dct, ↓wo_st, ↓wo_s, own_0, own_s, oi_0, oi_e, oi_v, isl_st, isl_leaf, isl_ls, Bool.not_false, Bool.not_true, List.nodup_cons, List.nodup_nil, List.not_mem_nil, not_false_eq_true, ↓w_seq, ↓w_skip, ↓w_brk, ↓w_cont, ↓w_retN, ↓w_set, ↓w_drop, ↓w_ret, ↓w_retV, ↓w_ifS, ↓w_fzS, ↓w_asg, ↓w_gN, ↓w_gT, ↓w_gNl, ↓w_gCn, ↓w_gSub, ↓w_par, ↓w_aug, ↓w_int, ↓w_slice, ↓w_rng1, ↓w_rng2, ↓w_seqI, ↓w_comp, ↓w_for,
  ↓sl_0, ↓sl_s, ↓fr_leaf, ↓fr_ls, ↓ok_t, ↓ok_l, ↓br_t, ↓br_f, decide_true, decide_false, Int.reduceEq, ↓bl_b, ↓il_b, ↓le_l, ↓gp_top, ↓cl_0, ↓cl_e, ↓cl_v, ↓nxt_nx, ↓nxt_rt, ↓nxt_bk, ↓nxt_ct, ↓sa_0, ↓sa_s, ↓rg1_i, ↓rg2_i, ↓itm_l, ↓itm_t, ↓itm_o, ↓fin_rt, ↓fin_nx, ↓lpk_nx, ↓lpk_ct, ↓lpk_bk, ↓lpk_rt, ↓wcl_nil, ↓wf_nil,
  ↓w_enum, ↓w_zip, ↓enm_l, ↓enm_o, ↓zp_ll, ↓zp_lo, ↓zp_ol, ↓zp_oo, ↓zp_tt, ↓p_isLTi, ↓p_isLTn, ↓p_isSi, ↓p_isBn, ↓p_extend, p_extendS, p_appendS, List.isEmpty_nil, ↓w_dicO, ↓dicO_list, zip_cc, zip_nn, ↓at_0, ↓at_1, ↓at_2, ↓at_3, ↓at_4, p_insertS, ↓p_mulO, ↓p_repB, ↓p_rep0, ↓p_rep1, ↓w_while, ↓p_insert, ↓at_last, ↓put_last, ↓p_inl, ↓p_inL, ↓p_ninl, ↓p_ninL, ↓p_eqP0, ↓p_neP0, ↓p_neA, ↓p_eq00, ↓p_ne00, ↓p_ixp0, ↓p_ixp1, ↓w_gTp, ↓p_isLTb, ↓p_isLTs, ↓p_isIb, ↓p_isBb, ↓p_isSb, ↓p_isLb, ↓p_isTb, ↓p_isIs, ↓p_isBs, ↓p_isSs, ↓p_isLs, ↓p_isTs, ↓p_isLi, ↓p_isTi, ↓p_isLn, ↓p_isTn, ↓p_isSn, ↓p_isNb, ↓p_isNs, ↓p_isNt, ↓p_isNl, ↓p_isNp, ↓p_eqTT, ↓p_eqTF, ↓p_eqFT, ↓p_eqFF, ↓p_neTT, ↓p_neTF, ↓p_neFT, ↓p_neFF, ↓p_eqBs, ↓p_eqSs, ↓p_eqIs, ↓w_borA, lv_n, lv_var, lf1_leaf, lf1_ls, lf1_non, lf1_bx, lf1_st, lf1_dic, ↓wo_bx, isl_bx, ↓p_catS, ↓p_catT, ↓p_mulJ, ↓w_chain4, ↓p_lrg1, ↓p_lrg2, ↓p_maxL, ↓p_maxl, ↓p_minL, ↓p_minl, ↓w_getE, ↓w_emptyK, ↓w_emptyT, ↓p_dixi, ↓p_dixs, ↓p_dini, ↓p_dins, ↓p_dgi, ↓p_dgs, ↓p_dputi, ↓p_dputs, ↓p_extA, ↓p_extAl, p_extAS, p_extASl, ↓w_bor, fl_b, fl_i, fl_n, fl_s, ↓w_enumA, ↓enma_l, ↓enma_t, ↓enma_o, eq_self, ↓w_strM, ↓sv_s, ↓p_eqS, ↓p_neS, ↓p_isTp, ↓p_lenp, ↓itm_p, ↓p_neBs, line_racks, racks_line, ↓p_sub, ↓p_add, ↓p_ipadd, ↓p_mul, ↓p_div, ↓p_mod, ↓p_pow, ↓p_neg, ↓p_eq, ↓p_ne, ↓p_lt, ↓p_gt, ↓p_le, ↓p_ge, ↓p_max, ↓p_min, ↓p_abs, ↓p_intI, ↓p_intB, ↓p_isaI, ↓p_isaB, ↓p_isaNI, ↓p_isNI, ↓p_isNN, ↓p_isNo, ↓p_eqo, ↓p_neo, ↓p_divmod, ↓p_catL, ↓p_catLl, ↓p_catlL, ↓p_catll, ↓p_len, ↓p_lenl, ↓p_lent, ↓p_list, ↓p_listl, ↓p_listt, ↓p_tuple, ↓p_tuplel, ↓p_tuplet, ↓p_rev, ↓p_revl, ↓p_ix, ↓p_ixl, ↓p_ixt, ↓p_append, ↓p_reverse, ↓p_sum, ↓p_suml, ↓p_any, ↓p_all, ↓p_eqLL, ↓p_eqLl, ↓p_eqlL, ↓p_eqll, ↓p_eqL0, ↓p_eql0, ↓p_neLL, ↓p_neLl, ↓p_nelL, ↓p_nell, ↓p_neL0, ↓p_nel0,
  ↓gp_cells, ↓gp_turn, ↓put_turn, ↓put_cells, ↓putP_top, wipeE, lv_0, lv_s,
  List.set_cons_zero, List.set_cons_succ, List.length_cons, List.length_nil, List.map_cons, List.map_nil, finR, List.replicate, List.replicate_succ, List.replicate_zero, List.cons_append, List.nil_append, true_and, and_true, List.tail_cons, List.head?_cons, Option.join_some, List.contains_nil, Bool.false_eq_true, if_false, if_true, List.all_nil, and_self, Int.reduceToNat, Int.reducePow, Nat.reduceSub, Nat.reduceAdd, Int.reduceAdd, Int.reduceMul, Int.reduceSub, Int.reduceNeg, Int.reduceLT, Int.reduceLE, Int.natAbs, Nat.reduceLT, Nat.reduceLeDiff, Nat.reducePow])
local macro_rules | `(tactic| walk_at "mv1") => `(tactic| try simp only [↓ok_t, ↓ok_l, ↓nxt_nx, ↓nxt_rt, ↓w_seq, ↓fin_rt, ↓fin_nx, ↓lpk_nx, ↓lpk_ct, ↓lpk_bk, ↓lpk_rt, wipeE, List.set_cons_zero, List.set_cons_succ, true_and, and_true])
local macro_rules | `(tactic| walk_at "mvs") => `(tactic| try simp only [↓sl_0, ↓sl_s, ↓fr_leaf, ↓fr_ls, ↓ok_t, ↓ok_l, ↓nxt_nx, ↓nxt_rt, ↓w_seq, ↓fin_rt, ↓fin_nx, ↓lpk_nx, ↓lpk_ct, ↓lpk_bk, ↓lpk_rt, wipeE, List.set_cons_zero, List.set_cons_succ, true_and, and_true])
local macro_rules | `(tactic| walk_at "mvp") => `(tactic| try simp only [↓w_cst, ↓w_var, ↓w_mv, ↓w_fz, ↓w_frz, ↓w_bin, ↓w_un, ↓w_binV, ↓w_if, ↓w_asB, ↓w_yes, ↓w_not, ↓w_and, ↓w_or, ↓w_andE, ↓w_orE, ↓w_notE, ↓w_chain, ↓w_nil, ↓w_cons, ↓w_tup, ↓w_lst, ↓w_pl, ↓w_mut, ↓w_c0, ↓w_ce, ↓w_cv, ↓w_call', ↓wb_0, ↓wb_e, ↓wb_v, wb_e', ↓wo_leaf, ↓wo_ls, ↓wo_dic, ↓wo_dct, ↓wo_st, ↓wo_s, own_0, own_s, oi_0, oi_e, oi_v, isl_st, isl_leaf, isl_ls, Bool.not_false, Bool.not_true, List.nodup_cons, List.nodup_nil, List.not_mem_nil, not_false_eq_true, ↓w_seq, ↓w_skip, ↓w_brk, ↓w_cont, ↓w_retN, ↓w_set, ↓w_drop, ↓w_ret, ↓w_retV, ↓w_fzS, ↓w_asg, ↓w_gN, ↓w_gT, ↓w_gNl, ↓w_gCn, ↓w_gSub, ↓w_par, ↓w_aug, ↓w_int, ↓w_slice, ↓w_rng1, ↓w_rng2, ↓w_seqI, ↓w_comp, ↓w_for,
  ↓sl_0, ↓sl_s, ↓fr_leaf, ↓fr_ls, ↓ok_t, ↓ok_l, ↓br_t, ↓br_f, decide_true, decide_false, Int.reduceEq, ↓bl_b, ↓il_b, ↓le_l, ↓gp_top, ↓cl_0, ↓cl_e, ↓cl_v, ↓nxt_nx, ↓nxt_rt, ↓nxt_bk, ↓nxt_ct, ↓sa_0, ↓sa_s, ↓rg1_i, ↓rg2_i, ↓itm_l, ↓itm_t, ↓itm_o, ↓fin_rt, ↓fin_nx, ↓lpk_nx, ↓lpk_ct, ↓lpk_bk, ↓lpk_rt, ↓wcl_nil, ↓wf_nil,
  ↓w_enum, ↓w_zip, ↓enm_l, ↓enm_o, ↓zp_ll, ↓zp_lo, ↓zp_ol, ↓zp_oo, ↓zp_tt, ↓p_isLTi, ↓p_isLTn, ↓p_isSi, ↓p_isBn, ↓p_extend, p_extendS, p_appendS, List.isEmpty_nil, ↓w_dicO, ↓dicO_list, zip_cc, zip_nn, ↓at_0, ↓at_1, ↓at_2, ↓at_3, ↓at_4, p_insertS, ↓p_mulO, ↓p_repB, ↓p_rep0, ↓p_rep1, ↓w_while, ↓p_insert, ↓at_last, ↓put_last, ↓p_inl, ↓p_inL, ↓p_ninl, ↓p_ninL, ↓p_eqP0, ↓p_neP0, ↓p_neA, ↓p_eq00, ↓p_ne00, ↓p_ixp0, ↓p_ixp1, ↓w_gTp, ↓p_isLTb, ↓p_isLTs, ↓p_isIb, ↓p_isBb, ↓p_isSb, ↓p_isLb, ↓p_isTb, ↓p_isIs, ↓p_isBs, ↓p_isSs, ↓p_isLs, ↓p_isTs, ↓p_isLi, ↓p_isTi, ↓p_isLn, ↓p_isTn, ↓p_isSn, ↓p_isNb, ↓p_isNs, ↓p_isNt, ↓p_isNl, ↓p_isNp, ↓p_eqTT, ↓p_eqTF, ↓p_eqFT, ↓p_eqFF, ↓p_neTT, ↓p_neTF, ↓p_neFT, ↓p_neFF, ↓p_eqBs, ↓p_eqSs, ↓p_eqIs, ↓w_borA, lv_n, lv_var, lf1_leaf, lf1_ls, lf1_non, lf1_bx, lf1_st, lf1_dic, ↓wo_bx, isl_bx, ↓p_catS, ↓p_catT, ↓p_mulJ, ↓w_chain4, ↓p_lrg1, ↓p_lrg2, ↓p_maxL, ↓p_maxl, ↓p_minL, ↓p_minl, ↓w_getE, ↓w_emptyK, ↓w_emptyT, ↓p_dixi, ↓p_dixs, ↓p_dini, ↓p_dins, ↓p_dgi, ↓p_dgs, ↓p_dputi, ↓p_dputs, ↓p_extA, ↓p_extAl, p_extAS, p_extASl, ↓w_bor, fl_b, fl_i, fl_n, fl_s, ↓w_enumA, ↓enma_l, ↓enma_t, ↓enma_o, eq_self, ↓w_strM, ↓sv_s, ↓p_eqS, ↓p_neS, ↓p_isTp, ↓p_lenp, ↓itm_p, ↓p_neBs, line_racks, racks_line, ↓p_sub, ↓p_add, ↓p_ipadd, ↓p_mul, ↓p_div, ↓p_mod, ↓p_pow, ↓p_neg, ↓p_eq, ↓p_ne, ↓p_lt, ↓p_gt, ↓p_le, ↓p_ge, ↓p_max, ↓p_min, ↓p_abs, ↓p_intI, ↓p_intB, ↓p_isaI, ↓p_isaB, ↓p_isaNI, ↓p_isNI, ↓p_isNN, ↓p_isNo, ↓p_eqo, ↓p_neo, ↓p_divmod, ↓p_catL, ↓p_catLl, ↓p_catlL, ↓p_catll, ↓p_len, ↓p_lenl, ↓p_lent, ↓p_list, ↓p_listl, ↓p_listt, ↓p_tuple, ↓p_tuplel, ↓p_tuplet, ↓p_rev, ↓p_revl, ↓p_ix, ↓p_ixl, ↓p_ixt, ↓p_append, ↓p_reverse, ↓p_sum, ↓p_suml, ↓p_any, ↓p_all, ↓p_eqLL, ↓p_eqLl, ↓p_eqlL, ↓p_eqll, ↓p_eqL0, ↓p_eql0, ↓p_neLL, ↓p_neLl, ↓p_nelL, ↓p_nell, ↓p_neL0, ↓p_nel0,
  ↓gp_cells, ↓gp_turn, ↓put_turn, ↓put_cells, ↓putP_top, wipeE, lv_0, lv_s,
  List.set_cons_zero, List.set_cons_succ, List.length_cons, List.length_nil, List.map_cons, List.map_nil, finR, List.replicate, List.replicate_succ, List.replicate_zero, List.cons_append, List.nil_append, true_and, and_true, List.tail_cons, List.head?_cons, Option.join_some, List.contains_nil, Bool.false_eq_true, if_false, if_true, List.all_nil, and_self, Int.reduceToNat, Int.reducePow, Nat.reduceSub, Nat.reduceAdd, Int.reduceAdd, Int.reduceMul, Int.reduceSub, Int.reduceNeg, Int.reduceLT, Int.reduceLE, Int.natAbs, Nat.reduceLT, Nat.reduceLeDiff, Nat.reducePow])
/-! ### what suspects reach -/
def canS (b : Ba) (rows : List (Str × Su)) (S : List Rg) : List Rg := rows.foldl (fun S q => setOf (S ++ taS b.tins q.1 b.ps q.2.f q.2.la)) S
def thruS (b : Ba) (pl : Str) (x y : Int) : List Rg := if x = y then taS b.tins pl b.ps x (some y) else bo (taS b.tins pl b.ps x (some x)) (taS b.tins pl b.ps y (some y))
def anyS (b : Ba) (q : Str × Su) : List Rg := if q.2.er ≤ q.2.lt then thruS b q.1 q.2.er q.2.lt else taS b.tins q.1 b.ps q.2.lt (some q.2.er)
def mustS (b : Ba) (rows : List (Str × Su)) (S : List Rg) : List Rg := rows.foldl (fun S q => bo S (anyS b q)) S
/-- the rows told: marks with sets that are not empty -/
def markL (f : Ba → List Rg) (bs : List Ba) : List (Str × List Rg) := (bs.filter fun b => !decide (f b = [])).map fun b => (b.nm, f b)
/-! ### all minutes so many times as many, and later -/
section
variable {m c : Int}
def scW (m c : Int) (w : Rg) : Rg := (w.1 * m + c, w.2 * m + m - 1 + c)
def scF (m c f : Int) : Int := if f = 0 then 0 else f * m + c
def scR (m c : Int) (r : Su) : Su := ⟨scF m c r.f, r.la.map fun e => e * m + m - 1 + c, r.lt * m + m - 1 + c, r.er * m + c⟩
def scG (m c : Int) (g : Gap) : Gap := (scF m c g.1, g.2.map fun e => e * m + m - 1 + c)
/-! passes -/
def scP (m c : Int) : Ps → Ps
  | .ln a s l d => .ln a s l d
  | .rk a per ss => .rk a per (ss.map (scW m c))
def isRk : Ps → Prop
  | .ln .. => False
  | .rk .. => True
def scB (m c : Int) (b : Ba) : Ba := ⟨b.nm, b.tins, b.ps.map (scP m c)⟩
end
theorem Ta.sc {S T : List Rg} {tins x y x' y' : Int} {pl : Str} {ps ps' : List Ps} (h : Ta S tins pl ps' x' (some y')) (h2 : Ta T tins pl ps x (some y)) (e : ∀ t, 0 ≤ t → t < tins → mtW (win pl ps' t) x' (some y') = mtW (win pl ps t) x (some y)) : S = T :=
  cn_ext h.1 h2.1 fun t => by
    rw [h.2.1, h2.2.1]
    constructor
    · rintro ⟨a, b⟩
      exact ⟨a, by rw [← e t a.1 a.2]; exact b⟩
    · rintro ⟨a, b⟩
      exact ⟨a, by rw [e t a.1 a.2]; exact b⟩
/-! ### a thing of one's own beside itself, the second form of the laws' own -/
def sameB2 (gself : Def) : SSem := (seq (ifS (asB (un (varE 1) (vw1 isaLT))) (seq (ifS (orT (asB (bin true (un (varE 0) (vw1 (isaI .list))) (un (varE 1) (vw1 (isaI .list))) (vw2 (eqI true)))) (asB (bin true (un (varE 0) (vw1 (isaI .tuple))) (un (varE 1) (vw1 (isaI .tuple))) (vw2 (eqI true))))) (retS true (cstE (.bool false))) skip)
  (retS true (andE (bin true (un (varE 0) oLen) (un (varE 1) oLen) (vw2 (eqI false))) (un (compE (zipI (consA false (varE 0) (consA false (varE 1) nilA))) (gT 2 (gCn (gN 2) (gCn (gN 3) gNl))) yesT (callF gself (.e false (varE 2) :: (.e false (varE 3) :: []))) [2, 3]) oAll)))) skip)
  (seq (ifS (orT (asB (bin true (varE 1) (cstE .none) (vw2 (isNI false)))) (asB (un (varE 1) (vw1 (isaI .str))))) (retS true (andE (bin true (un (varE 0) (vw1 (isaI .str))) (un (varE 1) (vw1 (isaI .str))) (vw2 (eqI false))) (bin true (varE 0) (varE 1) (vw2 (eqI false))))) skip)
  (retS true (andE (un (varE 0) (vw1 (isaI .int))) (andE (bin true (un (varE 0) (vw1 (isaI .bool))) (un (varE 1) (vw1 (isaI .bool))) (vw2 (eqI false))) (bin true (varE 0) (varE 1) (vw2 (eqI false))))))))
def sameF2 (gself : Def) : Def := runDef 2 4 [] (sameB2 gself)
end Mv
set_option Elab.async false
set_option linter.all false
set_option maxRecDepth 100000
set_option maxHeartbeats 4000000
namespace Mv
open PySem PySem.Spec PyProof.Rows L2
local macro_rules | `(tactic| walk_at "mv") => `(tactic| try simp only [↓w_cst, ↓w_var, ↓w_mv, ↓w_fz, ↓w_frz, ↓w_bin, ↓w_un, ↓w_binV, ↓w_if, ↓w_asB, ↓w_yes, ↓w_not, ↓w_and, ↓w_or, ↓w_andE, ↓w_orE, ↓w_notE, ↓w_chain, ↓w_nil, ↓w_cons, ↓w_tup, ↓w_lst, ↓w_pl, ↓w_mut, ↓w_c0, ↓w_ce, ↓w_cv, ↓w_call', ↓wb_0, ↓wb_e, ↓wb_v, wb_e', ↓wo_leaf, ↓wo_ls, ↓wo_dic, ↓wo_dct, ↓wo_st, ↓wo_s, own_0, own_s, oi_0, oi_e, oi_v, isl_st, isl_leaf, isl_ls, Bool.not_false, Bool.not_true, List.nodup_cons, List.nodup_nil, List.not_mem_nil, not_false_eq_true, ↓w_seq, ↓w_skip, ↓w_brk, ↓w_cont, ↓w_retN, ↓w_set, ↓w_drop, ↓w_ret, ↓w_retV, ↓w_ifS, ↓w_fzS, ↓w_asg, ↓w_gN, ↓w_gT, ↓w_gNl, ↓w_gCn, ↓w_gSub, ↓w_par, ↓w_aug, ↓w_int, ↓w_slice, ↓w_rng1, ↓w_rng2, ↓w_seqI, ↓w_comp, ↓w_for,
  ↓sl_0, ↓sl_s, ↓fr_leaf, ↓fr_ls, ↓ok_t, ↓ok_l, ↓br_t, ↓br_f, decide_true, decide_false, Int.reduceEq, ↓bl_b, ↓il_b, ↓le_l, ↓gp_top, ↓cl_0, ↓cl_e, ↓cl_v, ↓nxt_nx, ↓nxt_rt, ↓nxt_bk, ↓nxt_ct, ↓sa_0, ↓sa_s, ↓rg1_i, ↓rg2_i, ↓itm_l, ↓itm_t, ↓itm_o, ↓fin_rt, ↓fin_nx, ↓lpk_nx, ↓lpk_ct, ↓lpk_bk, ↓lpk_rt, ↓wcl_nil, ↓wf_nil,
  ↓w_enum, ↓w_zip, ↓enm_l, ↓enm_o, ↓zp_ll, ↓zp_lo, ↓zp_ol, ↓zp_oo, ↓zp_tt, ↓p_isLTi, ↓p_isLTn, ↓p_isSi, ↓p_isBn, ↓p_extend, p_extendS, p_appendS, List.isEmpty_nil, ↓w_dicO, ↓dicO_list, zip_cc, zip_nn, ↓at_0, ↓at_1, ↓at_2, ↓at_3, ↓at_4, p_insertS, ↓p_mulO, ↓p_repB, ↓p_rep0, ↓p_rep1, ↓w_while, ↓p_insert, ↓at_last, ↓put_last, ↓p_inl, ↓p_inL, ↓p_ninl, ↓p_ninL, ↓p_eqP0, ↓p_neP0, ↓p_neA, ↓p_eq00, ↓p_ne00, ↓p_ixp0, ↓p_ixp1, ↓w_gTp, ↓p_isLTb, ↓p_isLTs, ↓p_isIb, ↓p_isBb, ↓p_isSb, ↓p_isLb, ↓p_isTb, ↓p_isIs, ↓p_isBs, ↓p_isSs, ↓p_isLs, ↓p_isTs, ↓p_isLi, ↓p_isTi, ↓p_isLn, ↓p_isTn, ↓p_isSn, ↓p_isNb, ↓p_isNs, ↓p_isNt, ↓p_isNl, ↓p_isNp, ↓p_eqTT, ↓p_eqTF, ↓p_eqFT, ↓p_eqFF, ↓p_neTT, ↓p_neTF, ↓p_neFT, ↓p_neFF, ↓p_eqBs, ↓p_eqSs, ↓p_eqIs, ↓w_borA, lv_n, lv_var, lf1_leaf, lf1_ls, lf1_non, lf1_bx, lf1_st, lf1_dic, ↓wo_bx, isl_bx, ↓p_catS, ↓p_catT, ↓p_mulJ, ↓w_chain4, ↓p_lrg1, ↓p_lrg2, ↓p_maxL, ↓p_maxl, ↓p_minL, ↓p_minl, ↓w_getE, ↓w_emptyK, ↓w_emptyT, ↓p_dixi, ↓p_dixs, ↓p_dini, ↓p_dins, ↓p_dgi, ↓p_dgs, ↓p_dputi, ↓p_dputs, ↓p_extA, ↓p_extAl, p_extAS, p_extASl, ↓w_bor, fl_b, fl_i, fl_n, fl_s, ↓w_enumA, ↓enma_l, ↓enma_t, ↓enma_o, eq_self, ↓w_strM, ↓sv_s, ↓p_eqS, ↓p_neS, ↓p_isTp, ↓p_lenp, ↓itm_p, ↓p_neBs, line_racks, racks_line, ↓p_sub, ↓p_add, ↓p_ipadd, ↓p_mul, ↓p_div, ↓p_mod, ↓p_pow, ↓p_neg, ↓p_eq, ↓p_ne, ↓p_lt, ↓p_gt, ↓p_le, ↓p_ge, ↓p_max, ↓p_min, ↓p_abs, ↓p_intI, ↓p_intB, ↓p_isaI, ↓p_isaB, ↓p_isaNI, ↓p_isNI, ↓p_isNN, ↓p_isNo, ↓p_eqo, ↓p_neo, ↓p_divmod, ↓p_catL, ↓p_catLl, ↓p_catlL, ↓p_catll, ↓p_len, ↓p_lenl, ↓p_lent, ↓p_list, ↓p_listl, ↓p_listt, ↓p_tuple, ↓p_tuplel, ↓p_tuplet, ↓p_rev, ↓p_revl, ↓p_ix, ↓p_ixl, ↓p_ixt, ↓p_append, ↓p_reverse, ↓p_sum, ↓p_suml, ↓p_any, ↓p_all, ↓p_eqLL, ↓p_eqLl, ↓p_eqlL, ↓p_eqll, ↓p_eqL0, ↓p_eql0, ↓p_neLL, ↓p_neLl, ↓p_nelL, ↓p_nell, ↓p_neL0, ↓p_nel0,
  ↓gp_cells, ↓gp_turn, ↓put_turn, ↓put_cells, ↓putP_top, wipeE, lv_0, lv_s,
  List.set_cons_zero, List.set_cons_succ, List.length_cons, List.length_nil, List.map_cons, List.map_nil, finR, List.replicate, List.replicate_succ, List.replicate_zero, List.cons_append, List.nil_append, true_and, and_true, List.tail_cons, List.head?_cons, Option.join_some, List.contains_nil, Bool.false_eq_true, if_false, if_true, List.all_nil, and_self, Int.reduceToNat, Int.reducePow, Nat.reduceSub, Nat.reduceAdd, Int.reduceAdd, Int.reduceMul, Int.reduceSub, Int.reduceNeg, Int.reduceLT, Int.reduceLE, Int.natAbs, Nat.reduceLT, Nat.reduceLeDiff, Nat.reducePow])
local macro_rules | `(tactic| walk_at "mve") => `(tactic| try simp only [↓w_cst, ↓w_var, ↓w_mv, ↓w_fz, ↓w_frz, ↓w_bin, ↓w_un, ↓w_binV, ↓w_asB, ↓w_yes, ↓w_not, ↓w_and, ↓w_or, ↓w_notE, ↓w_chain, ↓w_nil, ↓w_cons, ↓w_tup, ↓w_lst, ↓w_pl, ↓w_mut, ↓w_c0, ↓w_ce, ↓w_cv, ↓w_call', ↓wb_0, ↓wb_e, ↓wb_v, wb_e', ↓wo_leaf, ↓wo_ls, ↓wo_dic, ↓wo_dct, ↓wo_st, ↓wo_s, own_0, own_s, oi_0, oi_e, oi_v, isl_st, isl_leaf, isl_ls, Bool.not_false, Bool.not_true, List.nodup_cons, List.nodup_nil, List.not_mem_nil, not_false_eq_true, ↓w_seq, ↓w_skip, ↓w_brk, ↓w_cont, ↓w_retN, ↓w_set, ↓w_drop, ↓w_ret, ↓w_retV, ↓w_ifS, ↓w_fzS, ↓w_asg, ↓w_gN, ↓w_gT, ↓w_gNl, ↓w_gCn, ↓w_gSub, ↓w_par, ↓w_aug, ↓w_int, ↓w_slice, ↓w_rng1, ↓w_rng2, ↓w_seqI, ↓w_comp, ↓w_for,
  ↓sl_0, ↓sl_s, ↓fr_leaf, ↓fr_ls, ↓ok_t, ↓ok_l, ↓br_t, ↓br_f, decide_true, decide_false, Int.reduceEq, ↓bl_b, ↓il_b, ↓le_l, ↓gp_top, ↓cl_0, ↓cl_e, ↓cl_v, ↓nxt_nx, ↓nxt_rt, ↓nxt_bk, ↓nxt_ct, ↓sa_0, ↓sa_s, ↓rg1_i, ↓rg2_i, ↓itm_l, ↓itm_t, ↓itm_o, ↓fin_rt, ↓fin_nx, ↓lpk_nx, ↓lpk_ct, ↓lpk_bk, ↓lpk_rt, ↓wcl_nil, ↓wf_nil,
  ↓w_enum, ↓w_zip, ↓enm_l, ↓enm_o, ↓zp_ll, ↓zp_lo, ↓zp_ol, ↓zp_oo, ↓zp_tt, ↓p_isLTi, ↓p_isLTn, ↓p_isSi, ↓p_isBn, ↓p_extend, p_extendS, p_appendS, List.isEmpty_nil, ↓w_dicO, ↓dicO_list, zip_cc, zip_nn, ↓at_0, ↓at_1, ↓at_2, ↓at_3, ↓at_4, p_insertS, ↓p_mulO, ↓p_repB, ↓p_rep0, ↓p_rep1, ↓w_while, ↓p_insert, ↓at_last, ↓put_last, ↓p_inl, ↓p_inL, ↓p_ninl, ↓p_ninL, ↓p_eqP0, ↓p_neP0, ↓p_neA, ↓p_eq00, ↓p_ne00, ↓p_ixp0, ↓p_ixp1, ↓w_gTp, ↓p_isLTb, ↓p_isLTs, ↓p_isIb, ↓p_isBb, ↓p_isSb, ↓p_isLb, ↓p_isTb, ↓p_isIs, ↓p_isBs, ↓p_isSs, ↓p_isLs, ↓p_isTs, ↓p_isLi, ↓p_isTi, ↓p_isLn, ↓p_isTn, ↓p_isSn, ↓p_isNb, ↓p_isNs, ↓p_isNt, ↓p_isNl, ↓p_isNp, ↓p_eqTT, ↓p_eqTF, ↓p_eqFT, ↓p_eqFF, ↓p_neTT, ↓p_neTF, ↓p_neFT, ↓p_neFF, ↓p_eqBs, ↓p_eqSs, ↓p_eqIs, ↓w_borA, lv_n, lv_var, lf1_leaf, lf1_ls, lf1_non, lf1_bx, lf1_st, lf1_dic, ↓wo_bx, isl_bx, ↓p_catS, ↓p_catT, ↓p_mulJ, ↓w_chain4, ↓p_lrg1, ↓p_lrg2, ↓p_maxL, ↓p_maxl, ↓p_minL, ↓p_minl, ↓w_getE, ↓w_emptyK, ↓w_emptyT, ↓p_dixi, ↓p_dixs, ↓p_dini, ↓p_dins, ↓p_dgi, ↓p_dgs, ↓p_dputi, ↓p_dputs, ↓p_extA, ↓p_extAl, p_extAS, p_extASl, ↓w_bor, fl_b, fl_i, fl_n, fl_s, ↓w_enumA, ↓enma_l, ↓enma_t, ↓enma_o, eq_self, ↓w_strM, ↓sv_s, ↓p_eqS, ↓p_neS, ↓p_isTp, ↓p_lenp, ↓itm_p, ↓p_neBs, line_racks, racks_line, ↓p_sub, ↓p_add, ↓p_ipadd, ↓p_mul, ↓p_div, ↓p_mod, ↓p_pow, ↓p_neg, ↓p_eq, ↓p_ne, ↓p_lt, ↓p_gt, ↓p_le, ↓p_ge, ↓p_max, ↓p_min, ↓p_abs, ↓p_intI, ↓p_intB, ↓p_isaI, ↓p_isaB, ↓p_isaNI, ↓p_isNI, ↓p_isNN, ↓p_isNo, ↓p_eqo, ↓p_neo, ↓p_divmod, ↓p_catL, ↓p_catLl, ↓p_catlL, ↓p_catll, ↓p_len, ↓p_lenl, ↓p_lent, ↓p_list, ↓p_listl, ↓p_listt, ↓p_tuple, ↓p_tuplel, ↓p_tuplet, ↓p_rev, ↓p_revl, ↓p_ix, ↓p_ixl, ↓p_ixt, ↓p_append, ↓p_reverse, ↓p_sum, ↓p_suml, ↓p_any, ↓p_all, ↓p_eqLL, ↓p_eqLl, ↓p_eqlL, ↓p_eqll, ↓p_eqL0, ↓p_eql0, ↓p_neLL, ↓p_neLl, ↓p_nelL, ↓p_nell, ↓p_neL0, ↓p_nel0,
  ↓gp_cells, ↓gp_turn, ↓put_turn, ↓put_cells, ↓putP_top, wipeE, lv_0, lv_s,
  List.set_cons_zero, List.set_cons_succ, List.length_cons, List.length_nil, List.map_cons, List.map_nil, finR, List.replicate, List.replicate_succ, List.replicate_zero, List.cons_append, List.nil_append, true_and, and_true, List.tail_cons, List.head?_cons, Option.join_some, List.contains_nil, Bool.false_eq_true, if_false, if_true, List.all_nil, and_self, Int.reduceToNat, Int.reducePow, Nat.reduceSub, Nat.reduceAdd, Int.reduceAdd, Int.reduceMul, Int.reduceSub, Int.reduceNeg, Int.reduceLT, Int.reduceLE, Int.natAbs, Nat.reduceLT, Nat.reduceLeDiff, Nat.reducePow])
local macro_rules | `(tactic| walk_at "mv1") => `(tactic| try simp only [↓ok_t, ↓ok_l, ↓nxt_nx, ↓nxt_rt, ↓w_seq, ↓fin_rt, ↓fin_nx, ↓lpk_nx, ↓lpk_ct, ↓lpk_bk, ↓lpk_rt, wipeE, List.set_cons_zero, List.set_cons_succ, true_and, and_true])
local macro_rules | `(tactic| walk_at "mvs") => `(tactic| try simp only [↓sl_0, ↓sl_s, ↓fr_leaf, ↓fr_ls, ↓ok_t, ↓ok_l, ↓nxt_nx, ↓nxt_rt, ↓w_seq, ↓fin_rt, ↓fin_nx, ↓lpk_nx, ↓lpk_ct, ↓lpk_bk, ↓lpk_rt, wipeE, List.set_cons_zero, List.set_cons_succ, true_and, and_true])
local macro_rules | `(tactic| walk_at "mvp") => `(tactic| try simp only [↓w_cst, ↓w_var, ↓w_mv, ↓w_fz, ↓w_frz, ↓w_bin, ↓w_un, ↓w_binV, ↓w_if, ↓w_asB, ↓w_yes, ↓w_not, ↓w_and, ↓w_or, ↓w_andE, ↓w_orE, ↓w_notE, ↓w_chain, ↓w_nil, ↓w_cons, ↓w_tup, ↓w_lst, ↓w_pl, ↓w_mut, ↓w_c0, ↓w_ce, ↓w_cv, ↓w_call', ↓wb_0, ↓wb_e, ↓wb_v, wb_e', ↓wo_leaf, ↓wo_ls, ↓wo_dic, ↓wo_dct, ↓wo_st, ↓wo_s, own_0, own_s, oi_0, oi_e, oi_v, isl_st, isl_leaf, isl_ls, Bool.not_false, Bool.not_true, List.nodup_cons, List.nodup_nil, List.not_mem_nil, not_false_eq_true, ↓w_seq, ↓w_skip, ↓w_brk, ↓w_cont, ↓w_retN, ↓w_set, ↓w_drop, ↓w_ret, ↓w_retV, ↓w_fzS, ↓w_asg, ↓w_gN, ↓w_gT, ↓w_gNl, ↓w_gCn, ↓w_gSub, ↓w_par, ↓w_aug, ↓w_int, ↓w_slice, ↓w_rng1, ↓w_rng2, ↓w_seqI, ↓w_comp, ↓w_for,
  ↓sl_0, ↓sl_s, ↓fr_leaf, ↓fr_ls, ↓ok_t, ↓ok_l, ↓br_t, ↓br_f, decide_true, decide_false, Int.reduceEq, ↓bl_b, ↓il_b, ↓le_l, ↓gp_top, ↓cl_0, ↓cl_e, ↓cl_v, ↓nxt_nx, ↓nxt_rt, ↓nxt_bk, ↓nxt_ct, ↓sa_0, ↓sa_s, ↓rg1_i, ↓rg2_i, ↓itm_l, ↓itm_t, ↓itm_o, ↓fin_rt, ↓fin_nx, ↓lpk_nx, ↓lpk_ct, ↓lpk_bk, ↓lpk_rt, ↓wcl_nil, ↓wf_nil,
  ↓w_enum, ↓w_zip, ↓enm_l, ↓enm_o, ↓zp_ll, ↓zp_lo, ↓zp_ol, ↓zp_oo, ↓zp_tt, ↓p_isLTi, ↓p_isLTn, ↓p_isSi, ↓p_isBn, ↓p_extend, p_extendS, p_appendS, List.isEmpty_nil, ↓w_dicO, ↓dicO_list, zip_cc, zip_nn, ↓at_0, ↓at_1, ↓at_2, ↓at_3, ↓at_4, p_insertS, ↓p_mulO, ↓p_repB, ↓p_rep0, ↓p_rep1, ↓w_while, ↓p_insert, ↓at_last, ↓put_last, ↓p_inl, ↓p_inL, ↓p_ninl, ↓p_ninL, ↓p_eqP0, ↓p_neP0, ↓p_neA, ↓p_eq00, ↓p_ne00, ↓p_ixp0, ↓p_ixp1, ↓w_gTp, ↓p_isLTb, ↓p_isLTs, ↓p_isIb, ↓p_isBb, ↓p_isSb, ↓p_isLb, ↓p_isTb, ↓p_isIs, ↓p_isBs, ↓p_isSs, ↓p_isLs, ↓p_isTs, ↓p_isLi, ↓p_isTi, ↓p_isLn, ↓p_isTn, ↓p_isSn, ↓p_isNb, ↓p_isNs, ↓p_isNt, ↓p_isNl, ↓p_isNp, ↓p_eqTT, ↓p_eqTF, ↓p_eqFT, ↓p_eqFF, ↓p_neTT, ↓p_neTF, ↓p_neFT, ↓p_neFF, ↓p_eqBs, ↓p_eqSs, ↓p_eqIs, ↓w_borA, lv_n, lv_var, lf1_leaf, lf1_ls, lf1_non, lf1_bx, lf1_st, lf1_dic, ↓wo_bx, isl_bx, ↓p_catS, ↓p_catT, ↓p_mulJ, ↓w_chain4, ↓p_lrg1, ↓p_lrg2, ↓p_maxL, ↓p_maxl, ↓p_minL, ↓p_minl, ↓w_getE, ↓w_emptyK, ↓w_emptyT, ↓p_dixi, ↓p_dixs, ↓p_dini, ↓p_dins, ↓p_dgi, ↓p_dgs, ↓p_dputi, ↓p_dputs, ↓p_extA, ↓p_extAl, p_extAS, p_extASl, ↓w_bor, fl_b, fl_i, fl_n, fl_s, ↓w_enumA, ↓enma_l, ↓enma_t, ↓enma_o, eq_self, ↓w_strM, ↓sv_s, ↓p_eqS, ↓p_neS, ↓p_isTp, ↓p_lenp, ↓itm_p, ↓p_neBs, line_racks, racks_line, ↓p_sub, ↓p_add, ↓p_ipadd, ↓p_mul, ↓p_div, ↓p_mod, ↓p_pow, ↓p_neg, ↓p_eq, ↓p_ne, ↓p_lt, ↓p_gt, ↓p_le, ↓p_ge, ↓p_max, ↓p_min, ↓p_abs, ↓p_intI, ↓p_intB, ↓p_isaI, ↓p_isaB, ↓p_isaNI, ↓p_isNI, ↓p_isNN, ↓p_isNo, ↓p_eqo, ↓p_neo, ↓p_divmod, ↓p_catL, ↓p_catLl, ↓p_catlL, ↓p_catll, ↓p_len, ↓p_lenl, ↓p_lent, ↓p_list, ↓p_listl, ↓p_listt, ↓p_tuple, ↓p_tuplel, ↓p_tuplet, ↓p_rev, ↓p_revl, ↓p_ix, ↓p_ixl, ↓p_ixt, ↓p_append, ↓p_reverse, ↓p_sum, ↓p_suml, ↓p_any, ↓p_all, ↓p_eqLL, ↓p_eqLl, ↓p_eqlL, ↓p_eqll, ↓p_eqL0, ↓p_eql0, ↓p_neLL, ↓p_neLl, ↓p_nelL, ↓p_nell, ↓p_neL0, ↓p_nel0,
  ↓gp_cells, ↓gp_turn, ↓put_turn, ↓put_cells, ↓putP_top, wipeE, lv_0, lv_s,
  List.set_cons_zero, List.set_cons_succ, List.length_cons, List.length_nil, List.map_cons, List.map_nil, finR, List.replicate, List.replicate_succ, List.replicate_zero, List.cons_append, List.nil_append, true_and, and_true, List.tail_cons, List.head?_cons, Option.join_some, List.contains_nil, Bool.false_eq_true, if_false, if_true, List.all_nil, and_self, Int.reduceToNat, Int.reducePow, Nat.reduceSub, Nat.reduceAdd, Int.reduceAdd, Int.reduceMul, Int.reduceSub, Int.reduceNeg, Int.reduceLT, Int.reduceLE, Int.natAbs, Nat.reduceLT, Nat.reduceLeDiff, Nat.reducePow])
/-! ### sets of one kind of key: made of a list, told in order -/
structure Kd (P : Program) (w : World) (κ : Type) [DecidableEq κ] where
  knd : PySem.KeyKind P w κ
  pv : κ → Tok → Value
  ko : Value → κ
  ko_mk : ∀ k t, ko (pv k t) = k
  is_mk : ∀ k k0 t, knd.is k (pv k0 t) = true ↔ k0 = k
  scan : ∀ k t, (pv k t).scannable = true
def kdI (P : Program) (w : World) : Kd P w Int := ⟨PySem.intKind P w, Value.int, fun v => match v with | .int k _ => k | _ => 0, fun _ _ => rfl, fun k k0 t => by
  show ((k0 == k) = true) ↔ k0 = k
  exact beq_iff_eq, fun _ _ => rfl⟩
def kdS (P : Program) (w : World) : Kd P w Str := ⟨PySem.strKind P w, Value.str, fun v => match v with | .str k _ => k | _ => Str.empty, fun _ _ => rfl, fun k k0 t => by
  show ((k0 == k) = true) ↔ k0 = k
  exact beq_iff_eq, fun _ _ => rfl⟩
section
variable {P : Program} {w : World} {κ : Type} [DecidableEq κ]
def EOk (d : Kd P w κ) (e : Int × Value) : Prop := ∃ k tk, e.2 = d.pv k tk ∧ e.1 = d.knd.hash k
def ek (d : Kd P w κ) (e : Int × Value) : κ := d.ko e.2
def SetG (d : Kd P w κ) (h : Heap) (a : Addr) (S : κ → Bool) (n : Nat) : Prop :=
  ∃ o es ep t, h.get? a = some o ∧ o.ExactSet ∧ o.data = .set es ep t ∧ (∀ e ∈ es.toList, EOk d e) ∧ (es.toList.map (ek d)).Nodup ∧ (∀ k, S k = true ↔ k ∈ es.toList.map (ek d)) ∧
    es.size < scanBound ∧ t.fits es.size = true ∧ es.size = n ∧ L2.Ris t.place.toList ∧ (w.params.followText "set-order" = true ∨ t.led = true)
variable {d : Kd P w κ} {A : Around} {E : Value → Shared → Prop} {s : Shared} {a : Addr} {S : κ → Bool} {n : Nat}
theorem SetG.moved {h h' : Heap} (R : SetG d h a S n) (k : ∀ o, h.get? a = some o → h'.get? a = some o) : SetG d h' a S n := by
  obtain ⟨o, es, ep, t, ho, r⟩ := R
  exact ⟨o, es, ep, t, k o ho, r⟩
theorem SetG.same {h : Heap} {S' : κ → Bool} (R : SetG d h a S n) (e : ∀ k, S' k = S k) : SetG d h a S' n := by
  rw [show S' = S from funext e]
  exact R
set_option maxRecDepth 100000 in
set_option maxHeartbeats 3200000 in
end
/-! sorted(set(xs)) -/
section
variable {P : Program} {w : World} {A : Around} {E : Value → Shared → Prop} {s : Shared} {a : Addr}
def ddp {α : Type} [DecidableEq α] : List α → List α
  | [] => []
  | x :: r => if x ∈ r then ddp r else x :: ddp r
theorem ddp_ok {α : Type} [DecidableEq α] : ∀ (l : List α), (ddp l).Nodup ∧ (∀ x, x ∈ ddp l ↔ x ∈ l) ∧ (ddp l).length ≤ l.length
  | [] => ⟨List.nodup_nil, fun x => Iff.rfl, Nat.le_refl _⟩
  | y :: r => by
    obtain ⟨h1, h2, h3⟩ := ddp_ok r
    rw [ddp]
    by_cases h : y ∈ r
    · rw [if_pos h]
      refine ⟨h1, fun x => ?_, by rw [List.length_cons]; omega⟩
      rw [h2, List.mem_cons]
      exact ⟨.inr, fun z => z.elim (fun e => e ▸ h) id⟩
    · rw [if_neg h]
      refine ⟨List.nodup_cons.mpr ⟨fun z => h ((h2 y).mp z), h1⟩, fun x => ?_, by rw [List.length_cons, List.length_cons]; omega⟩
      rw [List.mem_cons, List.mem_cons, h2]
def setI (ns : List Int) : List Int := isort (ddp ns)
def setT (xs : List Str) : List Str := sortS (ddp xs)
end
section
variable {X : Cx}
def rSetSort (K : PySem.W.Frag) : V → Hp → VK → Prop := fun x H Q => (∃ (l : Addr) (ns : List Int), x = .ref l ∧ L2.SqL K H l (ns.map V.int) ∧ ns.length < 64 ∧ ∀ p, H p = none → Q (.ref p) (upd H p (.lst ((setI ns).map V.int))))
  ∨ ∃ (l : Addr) (ns : List Str), x = .ref l ∧ L2.SqL K H l (ns.map V.str) ∧ ns.length < 64 ∧ ∀ p, H p = none → Q (.ref p) (upd H p (.lst ((setT ns).map V.str)))
def oSetSort (o : O) : Option O := (lstO o).bind fun ts => if ts.length < 64 then (match intsD ts with
  | some ns => some (.ls ((setI ns).map .int))
  | none => (strsD ts).map fun xs => .ls ((setT xs).map .str)) else none
end

end Mv

set_option Elab.async false
set_option linter.all false
set_option maxRecDepth 100000
set_option maxHeartbeats 4000000
namespace Mv
open PySem PySem.Spec PyProof.Rows L2
local macro_rules | `(tactic| walk_at "mv") => `(tactic| try simp only [↓w_cst, ↓w_var, ↓w_mv, ↓w_fz, ↓w_frz, ↓w_bin, ↓w_un, ↓w_binV, ↓w_if, ↓w_asB, ↓w_yes, ↓w_not, ↓w_and, ↓w_or, ↓w_andE, ↓w_orE, ↓w_notE, ↓w_chain, ↓w_nil, ↓w_cons, ↓w_tup, ↓w_lst, ↓w_pl, ↓w_mut, ↓w_c0, ↓w_ce, ↓w_cv, ↓w_call', ↓wb_0, ↓wb_e, ↓wb_v, wb_e', ↓wo_leaf, ↓wo_ls, ↓wo_dic, ↓wo_dct, ↓wo_st, ↓wo_s, own_0, own_s, oi_0, oi_e, oi_v, isl_st, isl_leaf, isl_ls, Bool.not_false, Bool.not_true, List.nodup_cons, List.nodup_nil, List.not_mem_nil, not_false_eq_true, ↓w_seq, ↓w_skip, ↓w_brk, ↓w_cont, ↓w_retN, ↓w_set, ↓w_drop, ↓w_ret, ↓w_retV, ↓w_ifS, ↓w_fzS, ↓w_asg, ↓w_gN, ↓w_gT, ↓w_gNl, ↓w_gCn, ↓w_gSub, ↓w_par, ↓w_aug, ↓w_int, ↓w_slice, ↓w_rng1, ↓w_rng2, ↓w_seqI, ↓w_comp, ↓w_for,
  ↓sl_0, ↓sl_s, ↓fr_leaf, ↓fr_ls, ↓ok_t, ↓ok_l, ↓br_t, ↓br_f, decide_true, decide_false, Int.reduceEq, ↓bl_b, ↓il_b, ↓le_l, ↓gp_top, ↓cl_0, ↓cl_e, ↓cl_v, ↓nxt_nx, ↓nxt_rt, ↓nxt_bk, ↓nxt_ct, ↓sa_0, ↓sa_s, ↓rg1_i, ↓rg2_i, ↓itm_l, ↓itm_t, ↓itm_o, ↓fin_rt, ↓fin_nx, ↓lpk_nx, ↓lpk_ct, ↓lpk_bk, ↓lpk_rt, ↓wcl_nil, ↓wf_nil,
  ↓w_enum, ↓w_zip, ↓enm_l, ↓enm_o, ↓zp_ll, ↓zp_lo, ↓zp_ol, ↓zp_oo, ↓zp_tt, ↓p_isLTi, ↓p_isLTn, ↓p_isSi, ↓p_isBn, ↓p_extend, p_extendS, p_appendS, List.isEmpty_nil, ↓w_dicO, ↓dicO_list, zip_cc, zip_nn, ↓at_0, ↓at_1, ↓at_2, ↓at_3, ↓at_4, p_insertS, ↓p_mulO, ↓p_repB, ↓p_rep0, ↓p_rep1, ↓w_while, ↓p_insert, ↓at_last, ↓put_last, ↓p_inl, ↓p_inL, ↓p_ninl, ↓p_ninL, ↓p_eqP0, ↓p_neP0, ↓p_neA, ↓p_eq00, ↓p_ne00, ↓p_ixp0, ↓p_ixp1, ↓w_gTp, ↓p_isLTb, ↓p_isLTs, ↓p_isIb, ↓p_isBb, ↓p_isSb, ↓p_isLb, ↓p_isTb, ↓p_isIs, ↓p_isBs, ↓p_isSs, ↓p_isLs, ↓p_isTs, ↓p_isLi, ↓p_isTi, ↓p_isLn, ↓p_isTn, ↓p_isSn, ↓p_isNb, ↓p_isNs, ↓p_isNt, ↓p_isNl, ↓p_isNp, ↓p_eqTT, ↓p_eqTF, ↓p_eqFT, ↓p_eqFF, ↓p_neTT, ↓p_neTF, ↓p_neFT, ↓p_neFF, ↓p_eqBs, ↓p_eqSs, ↓p_eqIs, ↓w_borA, lv_n, lv_var, lf1_leaf, lf1_ls, lf1_non, lf1_bx, lf1_st, lf1_dic, ↓wo_bx, isl_bx, ↓p_catS, ↓p_catT, ↓p_mulJ, ↓w_chain4, ↓p_lrg1, ↓p_lrg2, ↓p_maxL, ↓p_maxl, ↓p_minL, ↓p_minl, ↓w_getE, ↓w_emptyK, ↓w_emptyT, ↓p_dixi, ↓p_dixs, ↓p_dini, ↓p_dins, ↓p_dgi, ↓p_dgs, ↓p_dputi, ↓p_dputs, ↓p_extA, ↓p_extAl, p_extAS, p_extASl, ↓w_bor, fl_b, fl_i, fl_n, fl_s, ↓w_enumA, ↓enma_l, ↓enma_t, ↓enma_o, eq_self, ↓w_strM, ↓sv_s, ↓p_eqS, ↓p_neS, ↓p_isTp, ↓p_lenp, ↓itm_p, ↓p_neBs, line_racks, racks_line, ↓p_sub, ↓p_add, ↓p_ipadd, ↓p_mul, ↓p_div, ↓p_mod, ↓p_pow, ↓p_neg, ↓p_eq, ↓p_ne, ↓p_lt, ↓p_gt, ↓p_le, ↓p_ge, ↓p_max, ↓p_min, ↓p_abs, ↓p_intI, ↓p_intB, ↓p_isaI, ↓p_isaB, ↓p_isaNI, ↓p_isNI, ↓p_isNN, ↓p_isNo, ↓p_eqo, ↓p_neo, ↓p_divmod, ↓p_catL, ↓p_catLl, ↓p_catlL, ↓p_catll, ↓p_len, ↓p_lenl, ↓p_lent, ↓p_list, ↓p_listl, ↓p_listt, ↓p_tuple, ↓p_tuplel, ↓p_tuplet, ↓p_rev, ↓p_revl, ↓p_ix, ↓p_ixl, ↓p_ixt, ↓p_append, ↓p_reverse, ↓p_sum, ↓p_suml, ↓p_any, ↓p_all, ↓p_eqLL, ↓p_eqLl, ↓p_eqlL, ↓p_eqll, ↓p_eqL0, ↓p_eql0, ↓p_neLL, ↓p_neLl, ↓p_nelL, ↓p_nell, ↓p_neL0, ↓p_nel0,
  ↓gp_cells, ↓gp_turn, ↓put_turn, ↓put_cells, ↓putP_top, wipeE, lv_0, lv_s,
  List.set_cons_zero, List.set_cons_succ, List.length_cons, List.length_nil, List.map_cons, List.map_nil, finR, List.replicate, List.replicate_succ, List.replicate_zero, List.cons_append, List.nil_append, true_and, and_true, List.tail_cons, List.head?_cons, Option.join_some, List.contains_nil, Bool.false_eq_true, if_false, if_true, List.all_nil, and_self, Int.reduceToNat, Int.reducePow, Nat.reduceSub, Nat.reduceAdd, Int.reduceAdd, Int.reduceMul, Int.reduceSub, Int.reduceNeg, Int.reduceLT, Int.reduceLE, Int.natAbs, Nat.reduceLT, Nat.reduceLeDiff, Nat.reducePow])
local macro_rules | `(tactic| walk_at "mve") => `(tactic| try simp only [↓w_cst, ↓w_var, ↓w_mv, ↓w_fz, ↓w_frz, ↓w_bin, ↓w_un, ↓w_binV, ↓w_asB, ↓w_yes, ↓w_not, ↓w_and, ↓w_or, ↓w_notE, ↓w_chain, ↓w_nil, ↓w_cons, ↓w_tup, ↓w_lst, ↓w_pl, ↓w_mut, ↓w_c0, ↓w_ce, ↓w_cv, ↓w_call', ↓wb_0, ↓wb_e, ↓wb_v, wb_e', ↓wo_leaf, ↓wo_ls, ↓wo_dic, ↓wo_dct, ↓wo_st, ↓wo_s, own_0, own_s, oi_0, oi_e, oi_v, isl_st, isl_leaf, isl_ls, Bool.not_false, Bool.not_true, List.nodup_cons, List.nodup_nil, List.not_mem_nil, not_false_eq_true, ↓w_seq, ↓w_skip, ↓w_brk, ↓w_cont, ↓w_retN, ↓w_set, ↓w_drop, ↓w_ret, ↓w_retV, ↓w_ifS, ↓w_fzS, ↓w_asg, ↓w_gN, ↓w_gT, ↓w_gNl, ↓w_gCn, ↓w_gSub, ↓w_par, ↓w_aug, ↓w_int, ↓w_slice, ↓w_rng1, ↓w_rng2, ↓w_seqI, ↓w_comp, ↓w_for,
  ↓sl_0, ↓sl_s, ↓fr_leaf, ↓fr_ls, ↓ok_t, ↓ok_l, ↓br_t, ↓br_f, decide_true, decide_false, Int.reduceEq, ↓bl_b, ↓il_b, ↓le_l, ↓gp_top, ↓cl_0, ↓cl_e, ↓cl_v, ↓nxt_nx, ↓nxt_rt, ↓nxt_bk, ↓nxt_ct, ↓sa_0, ↓sa_s, ↓rg1_i, ↓rg2_i, ↓itm_l, ↓itm_t, ↓itm_o, ↓fin_rt, ↓fin_nx, ↓lpk_nx, ↓lpk_ct, ↓lpk_bk, ↓lpk_rt, ↓wcl_nil, ↓wf_nil,
  ↓w_enum, ↓w_zip, ↓enm_l, ↓enm_o, ↓zp_ll, ↓zp_lo, ↓zp_ol, ↓zp_oo, ↓zp_tt, ↓p_isLTi, ↓p_isLTn, ↓p_isSi, ↓p_isBn, ↓p_extend, p_extendS, p_appendS, List.isEmpty_nil, ↓w_dicO, ↓dicO_list, zip_cc, zip_nn, ↓at_0, ↓at_1, ↓at_2, ↓at_3, ↓at_4, p_insertS, ↓p_mulO, ↓p_repB, ↓p_rep0, ↓p_rep1, ↓w_while, ↓p_insert, ↓at_last, ↓put_last, ↓p_inl, ↓p_inL, ↓p_ninl, ↓p_ninL, ↓p_eqP0, ↓p_neP0, ↓p_neA, ↓p_eq00, ↓p_ne00, ↓p_ixp0, ↓p_ixp1, ↓w_gTp, ↓p_isLTb, ↓p_isLTs, ↓p_isIb, ↓p_isBb, ↓p_isSb, ↓p_isLb, ↓p_isTb, ↓p_isIs, ↓p_isBs, ↓p_isSs, ↓p_isLs, ↓p_isTs, ↓p_isLi, ↓p_isTi, ↓p_isLn, ↓p_isTn, ↓p_isSn, ↓p_isNb, ↓p_isNs, ↓p_isNt, ↓p_isNl, ↓p_isNp, ↓p_eqTT, ↓p_eqTF, ↓p_eqFT, ↓p_eqFF, ↓p_neTT, ↓p_neTF, ↓p_neFT, ↓p_neFF, ↓p_eqBs, ↓p_eqSs, ↓p_eqIs, ↓w_borA, lv_n, lv_var, lf1_leaf, lf1_ls, lf1_non, lf1_bx, lf1_st, lf1_dic, ↓wo_bx, isl_bx, ↓p_catS, ↓p_catT, ↓p_mulJ, ↓w_chain4, ↓p_lrg1, ↓p_lrg2, ↓p_maxL, ↓p_maxl, ↓p_minL, ↓p_minl, ↓w_getE, ↓w_emptyK, ↓w_emptyT, ↓p_dixi, ↓p_dixs, ↓p_dini, ↓p_dins, ↓p_dgi, ↓p_dgs, ↓p_dputi, ↓p_dputs, ↓p_extA, ↓p_extAl, p_extAS, p_extASl, ↓w_bor, fl_b, fl_i, fl_n, fl_s, ↓w_enumA, ↓enma_l, ↓enma_t, ↓enma_o, eq_self, ↓w_strM, ↓sv_s, ↓p_eqS, ↓p_neS, ↓p_isTp, ↓p_lenp, ↓itm_p, ↓p_neBs, line_racks, racks_line, ↓p_sub, ↓p_add, ↓p_ipadd, ↓p_mul, ↓p_div, ↓p_mod, ↓p_pow, ↓p_neg, ↓p_eq, ↓p_ne, ↓p_lt, ↓p_gt, ↓p_le, ↓p_ge, ↓p_max, ↓p_min, ↓p_abs, ↓p_intI, ↓p_intB, ↓p_isaI, ↓p_isaB, ↓p_isaNI, ↓p_isNI, ↓p_isNN, ↓p_isNo, ↓p_eqo, ↓p_neo, ↓p_divmod, ↓p_catL, ↓p_catLl, ↓p_catlL, ↓p_catll, ↓p_len, ↓p_lenl, ↓p_lent, ↓p_list, ↓p_listl, ↓p_listt, ↓p_tuple, ↓p_tuplel, ↓p_tuplet, ↓p_rev, ↓p_revl, ↓p_ix, ↓p_ixl, ↓p_ixt, ↓p_append, ↓p_reverse, ↓p_sum, ↓p_suml, ↓p_any, ↓p_all, ↓p_eqLL, ↓p_eqLl, ↓p_eqlL, ↓p_eqll, ↓p_eqL0, ↓p_eql0, ↓p_neLL, ↓p_neLl, ↓p_nelL, ↓p_nell, ↓p_neL0, ↓p_nel0,
  ↓gp_cells, ↓gp_turn, ↓put_turn, ↓put_cells, ↓putP_top, wipeE, lv_0, lv_s,
  List.set_cons_zero, List.set_cons_succ, List.length_cons, List.length_nil, List.map_cons, List.map_nil, finR, List.replicate, List.replicate_succ, List.replicate_zero, List.cons_append, List.nil_append, true_and, and_true, List.tail_cons, List.head?_cons, Option.join_some, List.contains_nil, Bool.false_eq_true, if_false, if_true, List.all_nil, and_self, Int.reduceToNat, Int.reducePow, Nat.reduceSub, Nat.reduceAdd, Int.reduceAdd, Int.reduceMul, Int.reduceSub, Int.reduceNeg, Int.reduceLT, Int.reduceLE, Int.natAbs, Nat.reduceLT, Nat.reduceLeDiff, Nat.reducePow])
local macro_rules | `(tactic| walk_at "mv1") => `(tactic| try simp only [↓ok_t, ↓ok_l, ↓nxt_nx, ↓nxt_rt, ↓w_seq, ↓fin_rt, ↓fin_nx, ↓lpk_nx, ↓lpk_ct, ↓lpk_bk, ↓lpk_rt, wipeE, List.set_cons_zero, List.set_cons_succ, true_and, and_true])
local macro_rules | `(tactic| walk_at "mvs") => `(tactic| try simp only [↓sl_0, ↓sl_s, ↓fr_leaf, ↓fr_ls, ↓ok_t, ↓ok_l, ↓nxt_nx, ↓nxt_rt, ↓w_seq, ↓fin_rt, ↓fin_nx, ↓lpk_nx, ↓lpk_ct, ↓lpk_bk, ↓lpk_rt, wipeE, List.set_cons_zero, List.set_cons_succ, true_and, and_true])
local macro_rules | `(tactic| walk_at "mvp") => `(tactic| try simp only [↓w_cst, ↓w_var, ↓w_mv, ↓w_fz, ↓w_frz, ↓w_bin, ↓w_un, ↓w_binV, ↓w_if, ↓w_asB, ↓w_yes, ↓w_not, ↓w_and, ↓w_or, ↓w_andE, ↓w_orE, ↓w_notE, ↓w_chain, ↓w_nil, ↓w_cons, ↓w_tup, ↓w_lst, ↓w_pl, ↓w_mut, ↓w_c0, ↓w_ce, ↓w_cv, ↓w_call', ↓wb_0, ↓wb_e, ↓wb_v, wb_e', ↓wo_leaf, ↓wo_ls, ↓wo_dic, ↓wo_dct, ↓wo_st, ↓wo_s, own_0, own_s, oi_0, oi_e, oi_v, isl_st, isl_leaf, isl_ls, Bool.not_false, Bool.not_true, List.nodup_cons, List.nodup_nil, List.not_mem_nil, not_false_eq_true, ↓w_seq, ↓w_skip, ↓w_brk, ↓w_cont, ↓w_retN, ↓w_set, ↓w_drop, ↓w_ret, ↓w_retV, ↓w_fzS, ↓w_asg, ↓w_gN, ↓w_gT, ↓w_gNl, ↓w_gCn, ↓w_gSub, ↓w_par, ↓w_aug, ↓w_int, ↓w_slice, ↓w_rng1, ↓w_rng2, ↓w_seqI, ↓w_comp, ↓w_for,
  ↓sl_0, ↓sl_s, ↓fr_leaf, ↓fr_ls, ↓ok_t, ↓ok_l, ↓br_t, ↓br_f, decide_true, decide_false, Int.reduceEq, ↓bl_b, ↓il_b, ↓le_l, ↓gp_top, ↓cl_0, ↓cl_e, ↓cl_v, ↓nxt_nx, ↓nxt_rt, ↓nxt_bk, ↓nxt_ct, ↓sa_0, ↓sa_s, ↓rg1_i, ↓rg2_i, ↓itm_l, ↓itm_t, ↓itm_o, ↓fin_rt, ↓fin_nx, ↓lpk_nx, ↓lpk_ct, ↓lpk_bk, ↓lpk_rt, ↓wcl_nil, ↓wf_nil,
  ↓w_enum, ↓w_zip, ↓enm_l, ↓enm_o, ↓zp_ll, ↓zp_lo, ↓zp_ol, ↓zp_oo, ↓zp_tt, ↓p_isLTi, ↓p_isLTn, ↓p_isSi, ↓p_isBn, ↓p_extend, p_extendS, p_appendS, List.isEmpty_nil, ↓w_dicO, ↓dicO_list, zip_cc, zip_nn, ↓at_0, ↓at_1, ↓at_2, ↓at_3, ↓at_4, p_insertS, ↓p_mulO, ↓p_repB, ↓p_rep0, ↓p_rep1, ↓w_while, ↓p_insert, ↓at_last, ↓put_last, ↓p_inl, ↓p_inL, ↓p_ninl, ↓p_ninL, ↓p_eqP0, ↓p_neP0, ↓p_neA, ↓p_eq00, ↓p_ne00, ↓p_ixp0, ↓p_ixp1, ↓w_gTp, ↓p_isLTb, ↓p_isLTs, ↓p_isIb, ↓p_isBb, ↓p_isSb, ↓p_isLb, ↓p_isTb, ↓p_isIs, ↓p_isBs, ↓p_isSs, ↓p_isLs, ↓p_isTs, ↓p_isLi, ↓p_isTi, ↓p_isLn, ↓p_isTn, ↓p_isSn, ↓p_isNb, ↓p_isNs, ↓p_isNt, ↓p_isNl, ↓p_isNp, ↓p_eqTT, ↓p_eqTF, ↓p_eqFT, ↓p_eqFF, ↓p_neTT, ↓p_neTF, ↓p_neFT, ↓p_neFF, ↓p_eqBs, ↓p_eqSs, ↓p_eqIs, ↓w_borA, lv_n, lv_var, lf1_leaf, lf1_ls, lf1_non, lf1_bx, lf1_st, lf1_dic, ↓wo_bx, isl_bx, ↓p_catS, ↓p_catT, ↓p_mulJ, ↓w_chain4, ↓p_lrg1, ↓p_lrg2, ↓p_maxL, ↓p_maxl, ↓p_minL, ↓p_minl, ↓w_getE, ↓w_emptyK, ↓w_emptyT, ↓p_dixi, ↓p_dixs, ↓p_dini, ↓p_dins, ↓p_dgi, ↓p_dgs, ↓p_dputi, ↓p_dputs, ↓p_extA, ↓p_extAl, p_extAS, p_extASl, ↓w_bor, fl_b, fl_i, fl_n, fl_s, ↓w_enumA, ↓enma_l, ↓enma_t, ↓enma_o, eq_self, ↓w_strM, ↓sv_s, ↓p_eqS, ↓p_neS, ↓p_isTp, ↓p_lenp, ↓itm_p, ↓p_neBs, line_racks, racks_line, ↓p_sub, ↓p_add, ↓p_ipadd, ↓p_mul, ↓p_div, ↓p_mod, ↓p_pow, ↓p_neg, ↓p_eq, ↓p_ne, ↓p_lt, ↓p_gt, ↓p_le, ↓p_ge, ↓p_max, ↓p_min, ↓p_abs, ↓p_intI, ↓p_intB, ↓p_isaI, ↓p_isaB, ↓p_isaNI, ↓p_isNI, ↓p_isNN, ↓p_isNo, ↓p_eqo, ↓p_neo, ↓p_divmod, ↓p_catL, ↓p_catLl, ↓p_catlL, ↓p_catll, ↓p_len, ↓p_lenl, ↓p_lent, ↓p_list, ↓p_listl, ↓p_listt, ↓p_tuple, ↓p_tuplel, ↓p_tuplet, ↓p_rev, ↓p_revl, ↓p_ix, ↓p_ixl, ↓p_ixt, ↓p_append, ↓p_reverse, ↓p_sum, ↓p_suml, ↓p_any, ↓p_all, ↓p_eqLL, ↓p_eqLl, ↓p_eqlL, ↓p_eqll, ↓p_eqL0, ↓p_eql0, ↓p_neLL, ↓p_neLl, ↓p_nelL, ↓p_nell, ↓p_neL0, ↓p_nel0,
  ↓gp_cells, ↓gp_turn, ↓put_turn, ↓put_cells, ↓putP_top, wipeE, lv_0, lv_s,
  List.set_cons_zero, List.set_cons_succ, List.length_cons, List.length_nil, List.map_cons, List.map_nil, finR, List.replicate, List.replicate_succ, List.replicate_zero, List.cons_append, List.nil_append, true_and, and_true, List.tail_cons, List.head?_cons, Option.join_some, List.contains_nil, Bool.false_eq_true, if_false, if_true, List.all_nil, and_self, Int.reduceToNat, Int.reducePow, Nat.reduceSub, Nat.reduceAdd, Int.reduceAdd, Int.reduceMul, Int.reduceSub, Int.reduceNeg, Int.reduceLT, Int.reduceLE, Int.natAbs, Nat.reduceLT, Nat.reduceLeDiff, Nat.reducePow])
/-! ### sorted(set(xs)): the plain rules -/
section
variable {Q : O → Prop} {ns : List Int} {xs : List Str}
end

end Mv

set_option Elab.async false
set_option linter.all false
set_option maxRecDepth 100000
set_option maxHeartbeats 4000000
namespace Mv
open PySem PySem.Spec PyProof.Rows L2
local macro_rules | `(tactic| walk_at "mv") => `(tactic| try simp only [↓w_cst, ↓w_var, ↓w_mv, ↓w_fz, ↓w_frz, ↓w_bin, ↓w_un, ↓w_binV, ↓w_if, ↓w_asB, ↓w_yes, ↓w_not, ↓w_and, ↓w_or, ↓w_andE, ↓w_orE, ↓w_notE, ↓w_chain, ↓w_nil, ↓w_cons, ↓w_tup, ↓w_lst, ↓w_pl, ↓w_mut, ↓w_c0, ↓w_ce, ↓w_cv, ↓w_call', ↓wb_0, ↓wb_e, ↓wb_v, wb_e', ↓wo_leaf, ↓wo_ls, ↓wo_dic, ↓wo_dct, ↓wo_st, ↓wo_s, own_0, own_s, oi_0, oi_e, oi_v, isl_st, isl_leaf, isl_ls, Bool.not_false, Bool.not_true, List.nodup_cons, List.nodup_nil, List.not_mem_nil, not_false_eq_true, ↓w_seq, ↓w_skip, ↓w_brk, ↓w_cont, ↓w_retN, ↓w_set, ↓w_drop, ↓w_ret, ↓w_retV, ↓w_ifS, ↓w_fzS, ↓w_asg, ↓w_gN, ↓w_gT, ↓w_gNl, ↓w_gCn, ↓w_gSub, ↓w_par, ↓w_aug, ↓w_int, ↓w_slice, ↓w_rng1, ↓w_rng2, ↓w_seqI, ↓w_comp, ↓w_for,
  ↓sl_0, ↓sl_s, ↓fr_leaf, ↓fr_ls, ↓ok_t, ↓ok_l, ↓br_t, ↓br_f, decide_true, decide_false, Int.reduceEq, ↓bl_b, ↓il_b, ↓le_l, ↓gp_top, ↓cl_0, ↓cl_e, ↓cl_v, ↓nxt_nx, ↓nxt_rt, ↓nxt_bk, ↓nxt_ct, ↓sa_0, ↓sa_s, ↓rg1_i, ↓rg2_i, ↓itm_l, ↓itm_t, ↓itm_o, ↓fin_rt, ↓fin_nx, ↓lpk_nx, ↓lpk_ct, ↓lpk_bk, ↓lpk_rt, ↓wcl_nil, ↓wf_nil,
  ↓w_enum, ↓w_zip, ↓enm_l, ↓enm_o, ↓zp_ll, ↓zp_lo, ↓zp_ol, ↓zp_oo, ↓zp_tt, ↓p_isLTi, ↓p_isLTn, ↓p_isSi, ↓p_isBn, ↓p_extend, p_extendS, p_appendS, List.isEmpty_nil, ↓w_dicO, ↓dicO_list, zip_cc, zip_nn, ↓at_0, ↓at_1, ↓at_2, ↓at_3, ↓at_4, p_insertS, ↓p_mulO, ↓p_repB, ↓p_rep0, ↓p_rep1, ↓w_while, ↓p_insert, ↓at_last, ↓put_last, ↓p_inl, ↓p_inL, ↓p_ninl, ↓p_ninL, ↓p_eqP0, ↓p_neP0, ↓p_neA, ↓p_eq00, ↓p_ne00, ↓p_ixp0, ↓p_ixp1, ↓w_gTp, ↓p_isLTb, ↓p_isLTs, ↓p_isIb, ↓p_isBb, ↓p_isSb, ↓p_isLb, ↓p_isTb, ↓p_isIs, ↓p_isBs, ↓p_isSs, ↓p_isLs, ↓p_isTs, ↓p_isLi, ↓p_isTi, ↓p_isLn, ↓p_isTn, ↓p_isSn, ↓p_isNb, ↓p_isNs, ↓p_isNt, ↓p_isNl, ↓p_isNp, ↓p_eqTT, ↓p_eqTF, ↓p_eqFT, ↓p_eqFF, ↓p_neTT, ↓p_neTF, ↓p_neFT, ↓p_neFF, ↓p_eqBs, ↓p_eqSs, ↓p_eqIs, ↓w_borA, lv_n, lv_var, lf1_leaf, lf1_ls, lf1_non, lf1_bx, lf1_st, lf1_dic, ↓wo_bx, isl_bx, ↓p_catS, ↓p_catT, ↓p_mulJ, ↓w_chain4, ↓p_lrg1, ↓p_lrg2, ↓p_maxL, ↓p_maxl, ↓p_minL, ↓p_minl, ↓w_getE, ↓w_emptyK, ↓w_emptyT, ↓p_dixi, ↓p_dixs, ↓p_dini, ↓p_dins, ↓p_dgi, ↓p_dgs, ↓p_dputi, ↓p_dputs, ↓p_extA, ↓p_extAl, p_extAS, p_extASl, ↓w_bor, fl_b, fl_i, fl_n, fl_s, ↓w_enumA, ↓enma_l, ↓enma_t, ↓enma_o, eq_self, ↓w_strM, ↓sv_s, ↓p_eqS, ↓p_neS, ↓p_isTp, ↓p_lenp, ↓itm_p, ↓p_neBs, line_racks, racks_line, ↓p_sub, ↓p_add, ↓p_ipadd, ↓p_mul, ↓p_div, ↓p_mod, ↓p_pow, ↓p_neg, ↓p_eq, ↓p_ne, ↓p_lt, ↓p_gt, ↓p_le, ↓p_ge, ↓p_max, ↓p_min, ↓p_abs, ↓p_intI, ↓p_intB, ↓p_isaI, ↓p_isaB, ↓p_isaNI, ↓p_isNI, ↓p_isNN, ↓p_isNo, ↓p_eqo, ↓p_neo, ↓p_divmod, ↓p_catL, ↓p_catLl, ↓p_catlL, ↓p_catll, ↓p_len, ↓p_lenl, ↓p_lent, ↓p_list, ↓p_listl, ↓p_listt, ↓p_tuple, ↓p_tuplel, ↓p_tuplet, ↓p_rev, ↓p_revl, ↓p_ix, ↓p_ixl, ↓p_ixt, ↓p_append, ↓p_reverse, ↓p_sum, ↓p_suml, ↓p_any, ↓p_all, ↓p_eqLL, ↓p_eqLl, ↓p_eqlL, ↓p_eqll, ↓p_eqL0, ↓p_eql0, ↓p_neLL, ↓p_neLl, ↓p_nelL, ↓p_nell, ↓p_neL0, ↓p_nel0,
  ↓gp_cells, ↓gp_turn, ↓put_turn, ↓put_cells, ↓putP_top, wipeE, lv_0, lv_s,
  List.set_cons_zero, List.set_cons_succ, List.length_cons, List.length_nil, List.map_cons, List.map_nil, finR, List.replicate, List.replicate_succ, List.replicate_zero, List.cons_append, List.nil_append, true_and, and_true, List.tail_cons, List.head?_cons, Option.join_some, List.contains_nil, Bool.false_eq_true, if_false, if_true, List.all_nil, and_self, Int.reduceToNat, Int.reducePow, Nat.reduceSub, Nat.reduceAdd, Int.reduceAdd, Int.reduceMul, Int.reduceSub, Int.reduceNeg, Int.reduceLT, Int.reduceLE, Int.natAbs, Nat.reduceLT, Nat.reduceLeDiff, Nat.reducePow])
local macro_rules | `(tactic| walk_at "mve") => `(tactic| try simp only [↓w_cst, ↓w_var, ↓w_mv, ↓w_fz, ↓w_frz, ↓w_bin, ↓w_un, ↓w_binV, ↓w_asB, ↓w_yes, ↓w_not, ↓w_and, ↓w_or, ↓w_notE, ↓w_chain, ↓w_nil, ↓w_cons, ↓w_tup, ↓w_lst, ↓w_pl, ↓w_mut, ↓w_c0, ↓w_ce, ↓w_cv, ↓w_call', ↓wb_0, ↓wb_e, ↓wb_v, wb_e', ↓wo_leaf, ↓wo_ls, ↓wo_dic, ↓wo_dct, ↓wo_st, ↓wo_s, own_0, own_s, oi_0, oi_e, oi_v, isl_st, isl_leaf, isl_ls, Bool.not_false, Bool.not_true, List.nodup_cons, List.nodup_nil, List.not_mem_nil, not_false_eq_true, ↓w_seq, ↓w_skip, ↓w_brk, ↓w_cont, ↓w_retN, ↓w_set, ↓w_drop, ↓w_ret, ↓w_retV, ↓w_ifS, ↓w_fzS, ↓w_asg, ↓w_gN, ↓w_gT, ↓w_gNl, ↓w_gCn, ↓w_gSub, ↓w_par, ↓w_aug, ↓w_int, ↓w_slice, ↓w_rng1, ↓w_rng2, ↓w_seqI, ↓w_comp, ↓w_for,
  ↓sl_0, ↓sl_s, ↓fr_leaf, ↓fr_ls, ↓ok_t, ↓ok_l, ↓br_t, ↓br_f, decide_true, decide_false, Int.reduceEq, ↓bl_b, ↓il_b, ↓le_l, ↓gp_top, ↓cl_0, ↓cl_e, ↓cl_v, ↓nxt_nx, ↓nxt_rt, ↓nxt_bk, ↓nxt_ct, ↓sa_0, ↓sa_s, ↓rg1_i, ↓rg2_i, ↓itm_l, ↓itm_t, ↓itm_o, ↓fin_rt, ↓fin_nx, ↓lpk_nx, ↓lpk_ct, ↓lpk_bk, ↓lpk_rt, ↓wcl_nil, ↓wf_nil,
  ↓w_enum, ↓w_zip, ↓enm_l, ↓enm_o, ↓zp_ll, ↓zp_lo, ↓zp_ol, ↓zp_oo, ↓zp_tt, ↓p_isLTi, ↓p_isLTn, ↓p_isSi, ↓p_isBn, ↓p_extend, p_extendS, p_appendS, List.isEmpty_nil, ↓w_dicO, ↓dicO_list, zip_cc, zip_nn, ↓at_0, ↓at_1, ↓at_2, ↓at_3, ↓at_4, p_insertS, ↓p_mulO, ↓p_repB, ↓p_rep0, ↓p_rep1, ↓w_while, ↓p_insert, ↓at_last, ↓put_last, ↓p_inl, ↓p_inL, ↓p_ninl, ↓p_ninL, ↓p_eqP0, ↓p_neP0, ↓p_neA, ↓p_eq00, ↓p_ne00, ↓p_ixp0, ↓p_ixp1, ↓w_gTp, ↓p_isLTb, ↓p_isLTs, ↓p_isIb, ↓p_isBb, ↓p_isSb, ↓p_isLb, ↓p_isTb, ↓p_isIs, ↓p_isBs, ↓p_isSs, ↓p_isLs, ↓p_isTs, ↓p_isLi, ↓p_isTi, ↓p_isLn, ↓p_isTn, ↓p_isSn, ↓p_isNb, ↓p_isNs, ↓p_isNt, ↓p_isNl, ↓p_isNp, ↓p_eqTT, ↓p_eqTF, ↓p_eqFT, ↓p_eqFF, ↓p_neTT, ↓p_neTF, ↓p_neFT, ↓p_neFF, ↓p_eqBs, ↓p_eqSs, ↓p_eqIs, ↓w_borA, lv_n, lv_var, lf1_leaf, lf1_ls, lf1_non, lf1_bx, lf1_st, lf1_dic, ↓wo_bx, isl_bx, ↓p_catS, ↓p_catT, ↓p_mulJ, ↓w_chain4, ↓p_lrg1, ↓p_lrg2, ↓p_maxL, ↓p_maxl, ↓p_minL, ↓p_minl, ↓w_getE, ↓w_emptyK, ↓w_emptyT, ↓p_dixi, ↓p_dixs, ↓p_dini, ↓p_dins, ↓p_dgi, ↓p_dgs, ↓p_dputi, ↓p_dputs, ↓p_extA, ↓p_extAl, p_extAS, p_extASl, ↓w_bor, fl_b, fl_i, fl_n, fl_s, ↓w_enumA, ↓enma_l, ↓enma_t, ↓enma_o, eq_self, ↓w_strM, ↓sv_s, ↓p_eqS, ↓p_neS, ↓p_isTp, ↓p_lenp, ↓itm_p, ↓p_neBs, line_racks, racks_line, ↓p_sub, ↓p_add, ↓p_ipadd, ↓p_mul, ↓p_div, ↓p_mod, ↓p_pow, ↓p_neg, ↓p_eq, ↓p_ne, ↓p_lt, ↓p_gt, ↓p_le, ↓p_ge, ↓p_max, ↓p_min, ↓p_abs, ↓p_intI, ↓p_intB, ↓p_isaI, ↓p_isaB, ↓p_isaNI, ↓p_isNI, ↓p_isNN, ↓p_isNo, ↓p_eqo, ↓p_neo, ↓p_divmod, ↓p_catL, ↓p_catLl, ↓p_catlL, ↓p_catll, ↓p_len, ↓p_lenl, ↓p_lent, ↓p_list, ↓p_listl, ↓p_listt, ↓p_tuple, ↓p_tuplel, ↓p_tuplet, ↓p_rev, ↓p_revl, ↓p_ix, ↓p_ixl, ↓p_ixt, ↓p_append, ↓p_reverse, ↓p_sum, ↓p_suml, ↓p_any, ↓p_all, ↓p_eqLL, ↓p_eqLl, ↓p_eqlL, ↓p_eqll, ↓p_eqL0, ↓p_eql0, ↓p_neLL, ↓p_neLl, ↓p_nelL, ↓p_nell, ↓p_neL0, ↓p_nel0,
  ↓gp_cells, ↓gp_turn, ↓put_turn, ↓put_cells, ↓putP_top, wipeE, lv_0, lv_s,
  List.set_cons_zero, List.set_cons_succ, List.length_cons, List.length_nil, List.map_cons, List.map_nil, finR, List.replicate, List.replicate_succ, List.replicate_zero, List.cons_append, List.nil_append, true_and, and_true, List.tail_cons, List.head?_cons, Option.join_some, List.contains_nil, Bool.false_eq_true, if_false, if_true, List.all_nil, and_self, Int.reduceToNat, Int.reducePow, Nat.reduceSub, Nat.reduceAdd, Int.reduceAdd, Int.reduceMul, Int.reduceSub, Int.reduceNeg, Int.reduceLT, Int.reduceLE, Int.natAbs, Nat.reduceLT, Nat.reduceLeDiff, Nat.reducePow])
local macro_rules | `(tactic| walk_at "mv1") => `(tactic| try simp only [↓ok_t, ↓ok_l, ↓nxt_nx, ↓nxt_rt, ↓w_seq, ↓fin_rt, ↓fin_nx, ↓lpk_nx, ↓lpk_ct, ↓lpk_bk, ↓lpk_rt, wipeE, List.set_cons_zero, List.set_cons_succ, true_and, and_true])
local macro_rules | `(tactic| walk_at "mvs") => `(tactic| try simp only [↓sl_0, ↓sl_s, ↓fr_leaf, ↓fr_ls, ↓ok_t, ↓ok_l, ↓nxt_nx, ↓nxt_rt, ↓w_seq, ↓fin_rt, ↓fin_nx, ↓lpk_nx, ↓lpk_ct, ↓lpk_bk, ↓lpk_rt, wipeE, List.set_cons_zero, List.set_cons_succ, true_and, and_true])
local macro_rules | `(tactic| walk_at "mvp") => `(tactic| try simp only [↓w_cst, ↓w_var, ↓w_mv, ↓w_fz, ↓w_frz, ↓w_bin, ↓w_un, ↓w_binV, ↓w_if, ↓w_asB, ↓w_yes, ↓w_not, ↓w_and, ↓w_or, ↓w_andE, ↓w_orE, ↓w_notE, ↓w_chain, ↓w_nil, ↓w_cons, ↓w_tup, ↓w_lst, ↓w_pl, ↓w_mut, ↓w_c0, ↓w_ce, ↓w_cv, ↓w_call', ↓wb_0, ↓wb_e, ↓wb_v, wb_e', ↓wo_leaf, ↓wo_ls, ↓wo_dic, ↓wo_dct, ↓wo_st, ↓wo_s, own_0, own_s, oi_0, oi_e, oi_v, isl_st, isl_leaf, isl_ls, Bool.not_false, Bool.not_true, List.nodup_cons, List.nodup_nil, List.not_mem_nil, not_false_eq_true, ↓w_seq, ↓w_skip, ↓w_brk, ↓w_cont, ↓w_retN, ↓w_set, ↓w_drop, ↓w_ret, ↓w_retV, ↓w_fzS, ↓w_asg, ↓w_gN, ↓w_gT, ↓w_gNl, ↓w_gCn, ↓w_gSub, ↓w_par, ↓w_aug, ↓w_int, ↓w_slice, ↓w_rng1, ↓w_rng2, ↓w_seqI, ↓w_comp, ↓w_for,
  ↓sl_0, ↓sl_s, ↓fr_leaf, ↓fr_ls, ↓ok_t, ↓ok_l, ↓br_t, ↓br_f, decide_true, decide_false, Int.reduceEq, ↓bl_b, ↓il_b, ↓le_l, ↓gp_top, ↓cl_0, ↓cl_e, ↓cl_v, ↓nxt_nx, ↓nxt_rt, ↓nxt_bk, ↓nxt_ct, ↓sa_0, ↓sa_s, ↓rg1_i, ↓rg2_i, ↓itm_l, ↓itm_t, ↓itm_o, ↓fin_rt, ↓fin_nx, ↓lpk_nx, ↓lpk_ct, ↓lpk_bk, ↓lpk_rt, ↓wcl_nil, ↓wf_nil,
  ↓w_enum, ↓w_zip, ↓enm_l, ↓enm_o, ↓zp_ll, ↓zp_lo, ↓zp_ol, ↓zp_oo, ↓zp_tt, ↓p_isLTi, ↓p_isLTn, ↓p_isSi, ↓p_isBn, ↓p_extend, p_extendS, p_appendS, List.isEmpty_nil, ↓w_dicO, ↓dicO_list, zip_cc, zip_nn, ↓at_0, ↓at_1, ↓at_2, ↓at_3, ↓at_4, p_insertS, ↓p_mulO, ↓p_repB, ↓p_rep0, ↓p_rep1, ↓w_while, ↓p_insert, ↓at_last, ↓put_last, ↓p_inl, ↓p_inL, ↓p_ninl, ↓p_ninL, ↓p_eqP0, ↓p_neP0, ↓p_neA, ↓p_eq00, ↓p_ne00, ↓p_ixp0, ↓p_ixp1, ↓w_gTp, ↓p_isLTb, ↓p_isLTs, ↓p_isIb, ↓p_isBb, ↓p_isSb, ↓p_isLb, ↓p_isTb, ↓p_isIs, ↓p_isBs, ↓p_isSs, ↓p_isLs, ↓p_isTs, ↓p_isLi, ↓p_isTi, ↓p_isLn, ↓p_isTn, ↓p_isSn, ↓p_isNb, ↓p_isNs, ↓p_isNt, ↓p_isNl, ↓p_isNp, ↓p_eqTT, ↓p_eqTF, ↓p_eqFT, ↓p_eqFF, ↓p_neTT, ↓p_neTF, ↓p_neFT, ↓p_neFF, ↓p_eqBs, ↓p_eqSs, ↓p_eqIs, ↓w_borA, lv_n, lv_var, lf1_leaf, lf1_ls, lf1_non, lf1_bx, lf1_st, lf1_dic, ↓wo_bx, isl_bx, ↓p_catS, ↓p_catT, ↓p_mulJ, ↓w_chain4, ↓p_lrg1, ↓p_lrg2, ↓p_maxL, ↓p_maxl, ↓p_minL, ↓p_minl, ↓w_getE, ↓w_emptyK, ↓w_emptyT, ↓p_dixi, ↓p_dixs, ↓p_dini, ↓p_dins, ↓p_dgi, ↓p_dgs, ↓p_dputi, ↓p_dputs, ↓p_extA, ↓p_extAl, p_extAS, p_extASl, ↓w_bor, fl_b, fl_i, fl_n, fl_s, ↓w_enumA, ↓enma_l, ↓enma_t, ↓enma_o, eq_self, ↓w_strM, ↓sv_s, ↓p_eqS, ↓p_neS, ↓p_isTp, ↓p_lenp, ↓itm_p, ↓p_neBs, line_racks, racks_line, ↓p_sub, ↓p_add, ↓p_ipadd, ↓p_mul, ↓p_div, ↓p_mod, ↓p_pow, ↓p_neg, ↓p_eq, ↓p_ne, ↓p_lt, ↓p_gt, ↓p_le, ↓p_ge, ↓p_max, ↓p_min, ↓p_abs, ↓p_intI, ↓p_intB, ↓p_isaI, ↓p_isaB, ↓p_isaNI, ↓p_isNI, ↓p_isNN, ↓p_isNo, ↓p_eqo, ↓p_neo, ↓p_divmod, ↓p_catL, ↓p_catLl, ↓p_catlL, ↓p_catll, ↓p_len, ↓p_lenl, ↓p_lent, ↓p_list, ↓p_listl, ↓p_listt, ↓p_tuple, ↓p_tuplel, ↓p_tuplet, ↓p_rev, ↓p_revl, ↓p_ix, ↓p_ixl, ↓p_ixt, ↓p_append, ↓p_reverse, ↓p_sum, ↓p_suml, ↓p_any, ↓p_all, ↓p_eqLL, ↓p_eqLl, ↓p_eqlL, ↓p_eqll, ↓p_eqL0, ↓p_eql0, ↓p_neLL, ↓p_neLl, ↓p_nelL, ↓p_nell, ↓p_neL0, ↓p_nel0,
  ↓gp_cells, ↓gp_turn, ↓put_turn, ↓put_cells, ↓putP_top, wipeE, lv_0, lv_s,
  List.set_cons_zero, List.set_cons_succ, List.length_cons, List.length_nil, List.map_cons, List.map_nil, finR, List.replicate, List.replicate_succ, List.replicate_zero, List.cons_append, List.nil_append, true_and, and_true, List.tail_cons, List.head?_cons, Option.join_some, List.contains_nil, Bool.false_eq_true, if_false, if_true, List.all_nil, and_self, Int.reduceToNat, Int.reducePow, Nat.reduceSub, Nat.reduceAdd, Int.reduceAdd, Int.reduceMul, Int.reduceSub, Int.reduceNeg, Int.reduceLT, Int.reduceLE, Int.natAbs, Nat.reduceLT, Nat.reduceLeDiff, Nat.reducePow])
/-! ### runs of rising numbers, built from behind -/
def rstep (acc : List Rg) (n : Int) : List Rg := match acc with
  | [] => [(n, n)]
  | q :: a => if q.2 = n - 1 then (q.1, n) :: a else (n, n) :: q :: a
def runs (ns : List Int) : List Rg := (ns.foldl rstep []).reverse
/-! ### the rows of minutes that no good window meets, to a last minute -/
def gapM (M : Int) (g : Gap) : Rg := (g.1, g.2.getD M)
def freeL (M : Int) (goods : List Rg) : List Int := (rgI 0 (M + 1)).filter fun x => !(goods.any fun w => decide (w.1 ≤ x) && decide (x ≤ w.2))
def rowsM (M : Int) (goods : List Rg) : List Rg := (gapsL 0 (setOf goods)).map (gapM M)
/-! ### the faults, each tried -/
def faB (x y : Int) (se : Seen) : Bool := (se.filter fun s => s.1.isSome).all fun s => match s.1 with | some w => hitB x y w == s.2 | none => true
def faY (M x : Int) (se : Seen) : List Rg := ((rgI x (M + 1)).filter fun y => faB x y se).map fun y => (x, y)
def faL (M : Int) (se : Seen) : List Rg := if se.any (fun s => s.2 && s.1.isNone) then [] else (rgI 0 (M + 1)).flatMap fun x => faY M x se
/-- what the faults within one row tell -/
def dueR (M : Int) (se : Seen) (q : Rg) : Option Su :=
  let s := (faL M se).filter fun p => decide (q.1 ≤ p.1) && decide (p.2 ≤ q.2)
  if s = [] then none else some ⟨q.1, if q.2 < M then some q.2 else none, mxI (s.map (·.1)), mnI (s.map (·.2))⟩
/-- the windows that are there -/
def flt (se : Seen) : List (Rg × Bool) := se.filterMap fun s => s.1.map fun w => (w, s.2)
def trD (q : Rg × Bool) : D := .tuple [.int q.1.1, .int q.1.2, .bool q.2]
def trO (s : Option Rg × Bool) : D := match s.1 with
  | some w => trD (w, s.2)
  | none => .none
/-! ### what the tried faults meet, against the rows told -/
section
variable {M : Int} {se : Seen} {rows : List Rg}
def meetB (w : Option Rg) (p : Rg) : Bool := match w with
  | none => false
  | some w => decide (w.1 ≤ p.2) && decide (p.1 ≤ w.2)
def allW (w : Option Rg) (r : Su) : Prop := ∃ v, w = some v ∧ v.1 ≤ r.er ∧ r.lt ≤ v.2
end
/-! ### a choice as a test -/
section
variable {X : Cx} {a b : Expr} {c1 c2 c3 : TSem} {q1 q2 q3 : Bool} {pos : Pos}
def ifT (c t u : TSem) : TSem := fun env => (c env).bind fun p => if p.1 = true then t p.2 else u p.2
def tIfT (t u v : TT) : TT := fun σ H Q => t σ H fun c H1 => if c = true then u σ H1 Q else v σ H1 Q
end
theorem w_ifT {c1 c2 c3 : TSem} {env : Mv.Env} {Q : Bool → Mv.Env → Prop} : Wt (ifT c1 c2 c3) env Q ↔ Wt c1 env fun b e => Br b (Wt c2 e Q) (Wt c3 e Q) := by
  unfold Wt ifT
  cases h : c1 env with
  | none => rfl
  | some p =>
    simp only [Option.bind_some, o2_s]
    cases p.1 <;> rfl
end Mv
set_option Elab.async false
set_option linter.all false
set_option maxRecDepth 100000
set_option maxHeartbeats 4000000
namespace Mv
open PySem PySem.Spec PyProof.Rows L2
local macro_rules | `(tactic| walk_at "mv") => `(tactic| try simp only [↓w_cst, ↓w_var, ↓w_mv, ↓w_fz, ↓w_frz, ↓w_bin, ↓w_un, ↓w_binV, ↓w_if, ↓w_asB, ↓w_yes, ↓w_not, ↓w_and, ↓w_or, ↓w_andE, ↓w_orE, ↓w_notE, ↓w_chain, ↓w_nil, ↓w_cons, ↓w_tup, ↓w_lst, ↓w_pl, ↓w_mut, ↓w_c0, ↓w_ce, ↓w_cv, ↓w_call', ↓wb_0, ↓wb_e, ↓wb_v, wb_e', ↓wo_leaf, ↓wo_ls, ↓wo_dic, ↓wo_dct, ↓wo_st, ↓wo_s, own_0, own_s, oi_0, oi_e, oi_v, isl_st, isl_leaf, isl_ls, Bool.not_false, Bool.not_true, List.nodup_cons, List.nodup_nil, List.not_mem_nil, not_false_eq_true, ↓w_seq, ↓w_skip, ↓w_brk, ↓w_cont, ↓w_retN, ↓w_set, ↓w_drop, ↓w_ret, ↓w_retV, ↓w_ifS, ↓w_fzS, ↓w_asg, ↓w_gN, ↓w_gT, ↓w_gNl, ↓w_gCn, ↓w_gSub, ↓w_par, ↓w_aug, ↓w_int, ↓w_slice, ↓w_rng1, ↓w_rng2, ↓w_seqI, ↓w_comp, ↓w_for,
  ↓sl_0, ↓sl_s, ↓fr_leaf, ↓fr_ls, ↓ok_t, ↓ok_l, ↓br_t, ↓br_f, decide_true, decide_false, Int.reduceEq, ↓bl_b, ↓il_b, ↓le_l, ↓gp_top, ↓cl_0, ↓cl_e, ↓cl_v, ↓nxt_nx, ↓nxt_rt, ↓nxt_bk, ↓nxt_ct, ↓sa_0, ↓sa_s, ↓rg1_i, ↓rg2_i, ↓itm_l, ↓itm_t, ↓itm_o, ↓fin_rt, ↓fin_nx, ↓lpk_nx, ↓lpk_ct, ↓lpk_bk, ↓lpk_rt, ↓wcl_nil, ↓wf_nil,
  ↓w_enum, ↓w_zip, ↓enm_l, ↓enm_o, ↓zp_ll, ↓zp_lo, ↓zp_ol, ↓zp_oo, ↓zp_tt, ↓p_isLTi, ↓p_isLTn, ↓p_isSi, ↓p_isBn, ↓p_extend, p_extendS, p_appendS, List.isEmpty_nil, ↓w_dicO, ↓dicO_list, zip_cc, zip_nn, ↓at_0, ↓at_1, ↓at_2, ↓at_3, ↓at_4, p_insertS, ↓p_mulO, ↓p_repB, ↓p_rep0, ↓p_rep1, ↓w_while, ↓p_insert, ↓at_last, ↓put_last, ↓p_inl, ↓p_inL, ↓p_ninl, ↓p_ninL, ↓p_eqP0, ↓p_neP0, ↓p_neA, ↓p_eq00, ↓p_ne00, ↓p_ixp0, ↓p_ixp1, ↓w_gTp, ↓p_isLTb, ↓p_isLTs, ↓p_isIb, ↓p_isBb, ↓p_isSb, ↓p_isLb, ↓p_isTb, ↓p_isIs, ↓p_isBs, ↓p_isSs, ↓p_isLs, ↓p_isTs, ↓p_isLi, ↓p_isTi, ↓p_isLn, ↓p_isTn, ↓p_isSn, ↓p_isNb, ↓p_isNs, ↓p_isNt, ↓p_isNl, ↓p_isNp, ↓p_eqTT, ↓p_eqTF, ↓p_eqFT, ↓p_eqFF, ↓p_neTT, ↓p_neTF, ↓p_neFT, ↓p_neFF, ↓p_eqBs, ↓p_eqSs, ↓p_eqIs, ↓w_ifT, ↓w_borA, lv_n, lv_var, lf1_leaf, lf1_ls, lf1_non, lf1_bx, lf1_st, lf1_dic, ↓wo_bx, isl_bx, ↓p_catS, ↓p_catT, ↓p_mulJ, ↓w_chain4, ↓p_lrg1, ↓p_lrg2, ↓p_maxL, ↓p_maxl, ↓p_minL, ↓p_minl, ↓w_getE, ↓w_emptyK, ↓w_emptyT, ↓p_dixi, ↓p_dixs, ↓p_dini, ↓p_dins, ↓p_dgi, ↓p_dgs, ↓p_dputi, ↓p_dputs, ↓p_extA, ↓p_extAl, p_extAS, p_extASl, ↓w_bor, fl_b, fl_i, fl_n, fl_s, ↓w_enumA, ↓enma_l, ↓enma_t, ↓enma_o, eq_self, ↓w_strM, ↓sv_s, ↓p_eqS, ↓p_neS, ↓p_isTp, ↓p_lenp, ↓itm_p, ↓p_neBs, line_racks, racks_line, ↓p_sub, ↓p_add, ↓p_ipadd, ↓p_mul, ↓p_div, ↓p_mod, ↓p_pow, ↓p_neg, ↓p_eq, ↓p_ne, ↓p_lt, ↓p_gt, ↓p_le, ↓p_ge, ↓p_max, ↓p_min, ↓p_abs, ↓p_intI, ↓p_intB, ↓p_isaI, ↓p_isaB, ↓p_isaNI, ↓p_isNI, ↓p_isNN, ↓p_isNo, ↓p_eqo, ↓p_neo, ↓p_divmod, ↓p_catL, ↓p_catLl, ↓p_catlL, ↓p_catll, ↓p_len, ↓p_lenl, ↓p_lent, ↓p_list, ↓p_listl, ↓p_listt, ↓p_tuple, ↓p_tuplel, ↓p_tuplet, ↓p_rev, ↓p_revl, ↓p_ix, ↓p_ixl, ↓p_ixt, ↓p_append, ↓p_reverse, ↓p_sum, ↓p_suml, ↓p_any, ↓p_all, ↓p_eqLL, ↓p_eqLl, ↓p_eqlL, ↓p_eqll, ↓p_eqL0, ↓p_eql0, ↓p_neLL, ↓p_neLl, ↓p_nelL, ↓p_nell, ↓p_neL0, ↓p_nel0,
  ↓gp_cells, ↓gp_turn, ↓put_turn, ↓put_cells, ↓putP_top, wipeE, lv_0, lv_s,
  List.set_cons_zero, List.set_cons_succ, List.length_cons, List.length_nil, List.map_cons, List.map_nil, finR, List.replicate, List.replicate_succ, List.replicate_zero, List.cons_append, List.nil_append, true_and, and_true, List.tail_cons, List.head?_cons, Option.join_some, List.contains_nil, Bool.false_eq_true, if_false, if_true, List.all_nil, and_self, Int.reduceToNat, Int.reducePow, Nat.reduceSub, Nat.reduceAdd, Int.reduceAdd, Int.reduceMul, Int.reduceSub, Int.reduceNeg, Int.reduceLT, Int.reduceLE, Int.natAbs, Nat.reduceLT, Nat.reduceLeDiff, Nat.reducePow])
local macro_rules | `(tactic| walk_at "mve") => `(tactic| try simp only [↓w_cst, ↓w_var, ↓w_mv, ↓w_fz, ↓w_frz, ↓w_bin, ↓w_un, ↓w_binV, ↓w_asB, ↓w_yes, ↓w_not, ↓w_and, ↓w_or, ↓w_notE, ↓w_chain, ↓w_nil, ↓w_cons, ↓w_tup, ↓w_lst, ↓w_pl, ↓w_mut, ↓w_c0, ↓w_ce, ↓w_cv, ↓w_call', ↓wb_0, ↓wb_e, ↓wb_v, wb_e', ↓wo_leaf, ↓wo_ls, ↓wo_dic, ↓wo_dct, ↓wo_st, ↓wo_s, own_0, own_s, oi_0, oi_e, oi_v, isl_st, isl_leaf, isl_ls, Bool.not_false, Bool.not_true, List.nodup_cons, List.nodup_nil, List.not_mem_nil, not_false_eq_true, ↓w_seq, ↓w_skip, ↓w_brk, ↓w_cont, ↓w_retN, ↓w_set, ↓w_drop, ↓w_ret, ↓w_retV, ↓w_ifS, ↓w_fzS, ↓w_asg, ↓w_gN, ↓w_gT, ↓w_gNl, ↓w_gCn, ↓w_gSub, ↓w_par, ↓w_aug, ↓w_int, ↓w_slice, ↓w_rng1, ↓w_rng2, ↓w_seqI, ↓w_comp, ↓w_for,
  ↓sl_0, ↓sl_s, ↓fr_leaf, ↓fr_ls, ↓ok_t, ↓ok_l, ↓br_t, ↓br_f, decide_true, decide_false, Int.reduceEq, ↓bl_b, ↓il_b, ↓le_l, ↓gp_top, ↓cl_0, ↓cl_e, ↓cl_v, ↓nxt_nx, ↓nxt_rt, ↓nxt_bk, ↓nxt_ct, ↓sa_0, ↓sa_s, ↓rg1_i, ↓rg2_i, ↓itm_l, ↓itm_t, ↓itm_o, ↓fin_rt, ↓fin_nx, ↓lpk_nx, ↓lpk_ct, ↓lpk_bk, ↓lpk_rt, ↓wcl_nil, ↓wf_nil,
  ↓w_enum, ↓w_zip, ↓enm_l, ↓enm_o, ↓zp_ll, ↓zp_lo, ↓zp_ol, ↓zp_oo, ↓zp_tt, ↓p_isLTi, ↓p_isLTn, ↓p_isSi, ↓p_isBn, ↓p_extend, p_extendS, p_appendS, List.isEmpty_nil, ↓w_dicO, ↓dicO_list, zip_cc, zip_nn, ↓at_0, ↓at_1, ↓at_2, ↓at_3, ↓at_4, p_insertS, ↓p_mulO, ↓p_repB, ↓p_rep0, ↓p_rep1, ↓w_while, ↓p_insert, ↓at_last, ↓put_last, ↓p_inl, ↓p_inL, ↓p_ninl, ↓p_ninL, ↓p_eqP0, ↓p_neP0, ↓p_neA, ↓p_eq00, ↓p_ne00, ↓p_ixp0, ↓p_ixp1, ↓w_gTp, ↓p_isLTb, ↓p_isLTs, ↓p_isIb, ↓p_isBb, ↓p_isSb, ↓p_isLb, ↓p_isTb, ↓p_isIs, ↓p_isBs, ↓p_isSs, ↓p_isLs, ↓p_isTs, ↓p_isLi, ↓p_isTi, ↓p_isLn, ↓p_isTn, ↓p_isSn, ↓p_isNb, ↓p_isNs, ↓p_isNt, ↓p_isNl, ↓p_isNp, ↓p_eqTT, ↓p_eqTF, ↓p_eqFT, ↓p_eqFF, ↓p_neTT, ↓p_neTF, ↓p_neFT, ↓p_neFF, ↓p_eqBs, ↓p_eqSs, ↓p_eqIs, ↓w_ifT, ↓w_borA, lv_n, lv_var, lf1_leaf, lf1_ls, lf1_non, lf1_bx, lf1_st, lf1_dic, ↓wo_bx, isl_bx, ↓p_catS, ↓p_catT, ↓p_mulJ, ↓w_chain4, ↓p_lrg1, ↓p_lrg2, ↓p_maxL, ↓p_maxl, ↓p_minL, ↓p_minl, ↓w_getE, ↓w_emptyK, ↓w_emptyT, ↓p_dixi, ↓p_dixs, ↓p_dini, ↓p_dins, ↓p_dgi, ↓p_dgs, ↓p_dputi, ↓p_dputs, ↓p_extA, ↓p_extAl, p_extAS, p_extASl, ↓w_bor, fl_b, fl_i, fl_n, fl_s, ↓w_enumA, ↓enma_l, ↓enma_t, ↓enma_o, eq_self, ↓w_strM, ↓sv_s, ↓p_eqS, ↓p_neS, ↓p_isTp, ↓p_lenp, ↓itm_p, ↓p_neBs, line_racks, racks_line, ↓p_sub, ↓p_add, ↓p_ipadd, ↓p_mul, ↓p_div, ↓p_mod, ↓p_pow, ↓p_neg, ↓p_eq, ↓p_ne, ↓p_lt, ↓p_gt, ↓p_le, ↓p_ge, ↓p_max, ↓p_min, ↓p_abs, ↓p_intI, ↓p_intB, ↓p_isaI, ↓p_isaB, ↓p_isaNI, ↓p_isNI, ↓p_isNN, ↓p_isNo, ↓p_eqo, ↓p_neo, ↓p_divmod, ↓p_catL, ↓p_catLl, ↓p_catlL, ↓p_catll, ↓p_len, ↓p_lenl, ↓p_lent, ↓p_list, ↓p_listl, ↓p_listt, ↓p_tuple, ↓p_tuplel, ↓p_tuplet, ↓p_rev, ↓p_revl, ↓p_ix, ↓p_ixl, ↓p_ixt, ↓p_append, ↓p_reverse, ↓p_sum, ↓p_suml, ↓p_any, ↓p_all, ↓p_eqLL, ↓p_eqLl, ↓p_eqlL, ↓p_eqll, ↓p_eqL0, ↓p_eql0, ↓p_neLL, ↓p_neLl, ↓p_nelL, ↓p_nell, ↓p_neL0, ↓p_nel0,
  ↓gp_cells, ↓gp_turn, ↓put_turn, ↓put_cells, ↓putP_top, wipeE, lv_0, lv_s,
  List.set_cons_zero, List.set_cons_succ, List.length_cons, List.length_nil, List.map_cons, List.map_nil, finR, List.replicate, List.replicate_succ, List.replicate_zero, List.cons_append, List.nil_append, true_and, and_true, List.tail_cons, List.head?_cons, Option.join_some, List.contains_nil, Bool.false_eq_true, if_false, if_true, List.all_nil, and_self, Int.reduceToNat, Int.reducePow, Nat.reduceSub, Nat.reduceAdd, Int.reduceAdd, Int.reduceMul, Int.reduceSub, Int.reduceNeg, Int.reduceLT, Int.reduceLE, Int.natAbs, Nat.reduceLT, Nat.reduceLeDiff, Nat.reducePow])
local macro_rules | `(tactic| walk_at "mv1") => `(tactic| try simp only [↓ok_t, ↓ok_l, ↓nxt_nx, ↓nxt_rt, ↓w_seq, ↓fin_rt, ↓fin_nx, ↓lpk_nx, ↓lpk_ct, ↓lpk_bk, ↓lpk_rt, wipeE, List.set_cons_zero, List.set_cons_succ, true_and, and_true])
local macro_rules | `(tactic| walk_at "mvs") => `(tactic| try simp only [↓sl_0, ↓sl_s, ↓fr_leaf, ↓fr_ls, ↓ok_t, ↓ok_l, ↓nxt_nx, ↓nxt_rt, ↓w_seq, ↓fin_rt, ↓fin_nx, ↓lpk_nx, ↓lpk_ct, ↓lpk_bk, ↓lpk_rt, wipeE, List.set_cons_zero, List.set_cons_succ, true_and, and_true])
local macro_rules | `(tactic| walk_at "mvp") => `(tactic| try simp only [↓w_cst, ↓w_var, ↓w_mv, ↓w_fz, ↓w_frz, ↓w_bin, ↓w_un, ↓w_binV, ↓w_if, ↓w_asB, ↓w_yes, ↓w_not, ↓w_and, ↓w_or, ↓w_andE, ↓w_orE, ↓w_notE, ↓w_chain, ↓w_nil, ↓w_cons, ↓w_tup, ↓w_lst, ↓w_pl, ↓w_mut, ↓w_c0, ↓w_ce, ↓w_cv, ↓w_call', ↓wb_0, ↓wb_e, ↓wb_v, wb_e', ↓wo_leaf, ↓wo_ls, ↓wo_dic, ↓wo_dct, ↓wo_st, ↓wo_s, own_0, own_s, oi_0, oi_e, oi_v, isl_st, isl_leaf, isl_ls, Bool.not_false, Bool.not_true, List.nodup_cons, List.nodup_nil, List.not_mem_nil, not_false_eq_true, ↓w_seq, ↓w_skip, ↓w_brk, ↓w_cont, ↓w_retN, ↓w_set, ↓w_drop, ↓w_ret, ↓w_retV, ↓w_fzS, ↓w_asg, ↓w_gN, ↓w_gT, ↓w_gNl, ↓w_gCn, ↓w_gSub, ↓w_par, ↓w_aug, ↓w_int, ↓w_slice, ↓w_rng1, ↓w_rng2, ↓w_seqI, ↓w_comp, ↓w_for,
  ↓sl_0, ↓sl_s, ↓fr_leaf, ↓fr_ls, ↓ok_t, ↓ok_l, ↓br_t, ↓br_f, decide_true, decide_false, Int.reduceEq, ↓bl_b, ↓il_b, ↓le_l, ↓gp_top, ↓cl_0, ↓cl_e, ↓cl_v, ↓nxt_nx, ↓nxt_rt, ↓nxt_bk, ↓nxt_ct, ↓sa_0, ↓sa_s, ↓rg1_i, ↓rg2_i, ↓itm_l, ↓itm_t, ↓itm_o, ↓fin_rt, ↓fin_nx, ↓lpk_nx, ↓lpk_ct, ↓lpk_bk, ↓lpk_rt, ↓wcl_nil, ↓wf_nil,
  ↓w_enum, ↓w_zip, ↓enm_l, ↓enm_o, ↓zp_ll, ↓zp_lo, ↓zp_ol, ↓zp_oo, ↓zp_tt, ↓p_isLTi, ↓p_isLTn, ↓p_isSi, ↓p_isBn, ↓p_extend, p_extendS, p_appendS, List.isEmpty_nil, ↓w_dicO, ↓dicO_list, zip_cc, zip_nn, ↓at_0, ↓at_1, ↓at_2, ↓at_3, ↓at_4, p_insertS, ↓p_mulO, ↓p_repB, ↓p_rep0, ↓p_rep1, ↓w_while, ↓p_insert, ↓at_last, ↓put_last, ↓p_inl, ↓p_inL, ↓p_ninl, ↓p_ninL, ↓p_eqP0, ↓p_neP0, ↓p_neA, ↓p_eq00, ↓p_ne00, ↓p_ixp0, ↓p_ixp1, ↓w_gTp, ↓p_isLTb, ↓p_isLTs, ↓p_isIb, ↓p_isBb, ↓p_isSb, ↓p_isLb, ↓p_isTb, ↓p_isIs, ↓p_isBs, ↓p_isSs, ↓p_isLs, ↓p_isTs, ↓p_isLi, ↓p_isTi, ↓p_isLn, ↓p_isTn, ↓p_isSn, ↓p_isNb, ↓p_isNs, ↓p_isNt, ↓p_isNl, ↓p_isNp, ↓p_eqTT, ↓p_eqTF, ↓p_eqFT, ↓p_eqFF, ↓p_neTT, ↓p_neTF, ↓p_neFT, ↓p_neFF, ↓p_eqBs, ↓p_eqSs, ↓p_eqIs, ↓w_ifT, ↓w_borA, lv_n, lv_var, lf1_leaf, lf1_ls, lf1_non, lf1_bx, lf1_st, lf1_dic, ↓wo_bx, isl_bx, ↓p_catS, ↓p_catT, ↓p_mulJ, ↓w_chain4, ↓p_lrg1, ↓p_lrg2, ↓p_maxL, ↓p_maxl, ↓p_minL, ↓p_minl, ↓w_getE, ↓w_emptyK, ↓w_emptyT, ↓p_dixi, ↓p_dixs, ↓p_dini, ↓p_dins, ↓p_dgi, ↓p_dgs, ↓p_dputi, ↓p_dputs, ↓p_extA, ↓p_extAl, p_extAS, p_extASl, ↓w_bor, fl_b, fl_i, fl_n, fl_s, ↓w_enumA, ↓enma_l, ↓enma_t, ↓enma_o, eq_self, ↓w_strM, ↓sv_s, ↓p_eqS, ↓p_neS, ↓p_isTp, ↓p_lenp, ↓itm_p, ↓p_neBs, line_racks, racks_line, ↓p_sub, ↓p_add, ↓p_ipadd, ↓p_mul, ↓p_div, ↓p_mod, ↓p_pow, ↓p_neg, ↓p_eq, ↓p_ne, ↓p_lt, ↓p_gt, ↓p_le, ↓p_ge, ↓p_max, ↓p_min, ↓p_abs, ↓p_intI, ↓p_intB, ↓p_isaI, ↓p_isaB, ↓p_isaNI, ↓p_isNI, ↓p_isNN, ↓p_isNo, ↓p_eqo, ↓p_neo, ↓p_divmod, ↓p_catL, ↓p_catLl, ↓p_catlL, ↓p_catll, ↓p_len, ↓p_lenl, ↓p_lent, ↓p_list, ↓p_listl, ↓p_listt, ↓p_tuple, ↓p_tuplel, ↓p_tuplet, ↓p_rev, ↓p_revl, ↓p_ix, ↓p_ixl, ↓p_ixt, ↓p_append, ↓p_reverse, ↓p_sum, ↓p_suml, ↓p_any, ↓p_all, ↓p_eqLL, ↓p_eqLl, ↓p_eqlL, ↓p_eqll, ↓p_eqL0, ↓p_eql0, ↓p_neLL, ↓p_neLl, ↓p_nelL, ↓p_nell, ↓p_neL0, ↓p_nel0,
  ↓gp_cells, ↓gp_turn, ↓put_turn, ↓put_cells, ↓putP_top, wipeE, lv_0, lv_s,
  List.set_cons_zero, List.set_cons_succ, List.length_cons, List.length_nil, List.map_cons, List.map_nil, finR, List.replicate, List.replicate_succ, List.replicate_zero, List.cons_append, List.nil_append, true_and, and_true, List.tail_cons, List.head?_cons, Option.join_some, List.contains_nil, Bool.false_eq_true, if_false, if_true, List.all_nil, and_self, Int.reduceToNat, Int.reducePow, Nat.reduceSub, Nat.reduceAdd, Int.reduceAdd, Int.reduceMul, Int.reduceSub, Int.reduceNeg, Int.reduceLT, Int.reduceLE, Int.natAbs, Nat.reduceLT, Nat.reduceLeDiff, Nat.reducePow])
/-! ### gaps between windows that are sorted alone -/
def gapsS : Int → List Rg → List Gap
  | b, [] => [(b, none)]
  | b, p :: r => if p.1 > b then (b, some (p.1 - 1)) :: gapsS (max b (p.2 + 1)) r else gapsS (max b (p.2 + 1)) r
/-! ### range with a step -/
def rangeC (lo c : Int) (n : Nat) : List D := (List.range n).map fun (i : Nat) => PyData.int (lo + (i : Int) * c)
def stepN (i j c : Int) : Nat := if i < j then ((j - i - 1) / c + 1).toNat else 0
def RgOk3 (i j c : Int) : Prop := (0 < c ∧ c < 1073741824) ∧ (-(2 ^ 60) ≤ i ∧ i < 2 ^ 60) ∧ -(2 ^ 60) ≤ j ∧ j < 2 ^ 60
instance {i j c : Int} : Decidable (RgOk3 i j c) := by unfold RgOk3; infer_instance
def rng3 (f : ASem) : ISem := fun env => (f env).bind fun p => match p.1 with
  | [.leaf (.int i), .leaf (.int j), .leaf (.int c)] => if RgOk3 i j c then some (rangeC i c (stepN i j c), p.2) else none
  | _ => none
section
variable {X : Cx} {tg : Expr} {q : Bool} {pos : Pos}
end
def Rg3 (os : List O) (Q : List D → Prop) (_h : Hold Q := ⟨⟩) : Prop := match os with
  | [.leaf (.int i), .leaf (.int j), .leaf (.int c)] => RgOk3 i j c ∧ Q (rangeC i c (stepN i j c))
  | _ => False
theorem rg3_i {i j c : Int} {Q : List D → Prop} : Rg3 [.leaf (.int i), .leaf (.int j), .leaf (.int c)] Q ↔ RgOk3 i j c ∧ Q (rangeC i c (stepN i j c)) := Iff.rfl
theorem w_rng3 {env : Mv.Env} {g : ASem} {Q : List D → Mv.Env → Prop} : Wi (rng3 g) env Q ↔ Wa g env fun os e => Rg3 os fun ts => Q ts e := by
  unfold Wi Wa rng3 Rg3
  cases h : g env with
  | none => rfl
  | some p =>
    obtain ⟨os, e⟩ := p
    simp only [Option.bind_some, o2_s]
    split
    · rename_i i j c
      by_cases hb : RgOk3 i j c
      · simp only [hb, if_true, true_and]
        rfl
      · rw [if_neg hb]
        exact ⟨fun z => z.elim, fun z => absurd z.1 hb⟩
    · rename_i hz
      first
        | exact Iff.rfl
        | (split
           · rename_i n m c
             exact absurd rfl (hz n m c)
           · rfl)
end Mv
set_option Elab.async false
set_option linter.all false
set_option maxRecDepth 100000
set_option maxHeartbeats 4000000
namespace Mv
open PySem PySem.Spec PyProof.Rows L2
local macro_rules | `(tactic| walk_at "mv") => `(tactic| try simp only [↓w_cst, ↓w_var, ↓w_mv, ↓w_fz, ↓w_frz, ↓w_bin, ↓w_un, ↓w_binV, ↓w_if, ↓w_asB, ↓w_yes, ↓w_not, ↓w_and, ↓w_or, ↓w_andE, ↓w_orE, ↓w_notE, ↓w_chain, ↓w_nil, ↓w_cons, ↓w_tup, ↓w_lst, ↓w_pl, ↓w_mut, ↓w_c0, ↓w_ce, ↓w_cv, ↓w_call', ↓wb_0, ↓wb_e, ↓wb_v, wb_e', ↓wo_leaf, ↓wo_ls, ↓wo_dic, ↓wo_dct, ↓wo_st, ↓wo_s, own_0, own_s, oi_0, oi_e, oi_v, isl_st, isl_leaf, isl_ls, Bool.not_false, Bool.not_true, List.nodup_cons, List.nodup_nil, List.not_mem_nil, not_false_eq_true, ↓w_seq, ↓w_skip, ↓w_brk, ↓w_cont, ↓w_retN, ↓w_set, ↓w_drop, ↓w_ret, ↓w_retV, ↓w_ifS, ↓w_fzS, ↓w_asg, ↓w_gN, ↓w_gT, ↓w_gNl, ↓w_gCn, ↓w_gSub, ↓w_par, ↓w_aug, ↓w_int, ↓w_slice, ↓w_rng1, ↓w_rng2, ↓w_seqI, ↓w_comp, ↓w_for,
  ↓sl_0, ↓sl_s, ↓fr_leaf, ↓fr_ls, ↓ok_t, ↓ok_l, ↓br_t, ↓br_f, decide_true, decide_false, Int.reduceEq, ↓bl_b, ↓il_b, ↓le_l, ↓gp_top, ↓cl_0, ↓cl_e, ↓cl_v, ↓nxt_nx, ↓nxt_rt, ↓nxt_bk, ↓nxt_ct, ↓sa_0, ↓sa_s, ↓rg1_i, ↓rg2_i, ↓itm_l, ↓itm_t, ↓itm_o, ↓fin_rt, ↓fin_nx, ↓lpk_nx, ↓lpk_ct, ↓lpk_bk, ↓lpk_rt, ↓wcl_nil, ↓wf_nil,
  ↓w_enum, ↓w_zip, ↓enm_l, ↓enm_o, ↓zp_ll, ↓zp_lo, ↓zp_ol, ↓zp_oo, ↓zp_tt, ↓p_isLTi, ↓p_isLTn, ↓p_isSi, ↓p_isBn, ↓p_extend, p_extendS, p_appendS, List.isEmpty_nil, ↓w_dicO, ↓dicO_list, zip_cc, zip_nn, ↓at_0, ↓at_1, ↓at_2, ↓at_3, ↓at_4, p_insertS, ↓p_mulO, ↓p_repB, ↓p_rep0, ↓p_rep1, ↓w_while, ↓p_insert, ↓at_last, ↓put_last, ↓p_inl, ↓p_inL, ↓p_ninl, ↓p_ninL, ↓p_eqP0, ↓p_neP0, ↓p_neA, ↓p_eq00, ↓p_ne00, ↓p_ixp0, ↓p_ixp1, ↓w_gTp, ↓p_isLTb, ↓p_isLTs, ↓p_isIb, ↓p_isBb, ↓p_isSb, ↓p_isLb, ↓p_isTb, ↓p_isIs, ↓p_isBs, ↓p_isSs, ↓p_isLs, ↓p_isTs, ↓p_isLi, ↓p_isTi, ↓p_isLn, ↓p_isTn, ↓p_isSn, ↓p_isNb, ↓p_isNs, ↓p_isNt, ↓p_isNl, ↓p_isNp, ↓p_eqTT, ↓p_eqTF, ↓p_eqFT, ↓p_eqFF, ↓p_neTT, ↓p_neTF, ↓p_neFT, ↓p_neFF, ↓p_eqBs, ↓p_eqSs, ↓p_eqIs, ↓w_rng3, ↓rg3_i, ↓w_ifT, ↓w_borA, lv_n, lv_var, lf1_leaf, lf1_ls, lf1_non, lf1_bx, lf1_st, lf1_dic, ↓wo_bx, isl_bx, ↓p_catS, ↓p_catT, ↓p_mulJ, ↓w_chain4, ↓p_lrg1, ↓p_lrg2, ↓p_maxL, ↓p_maxl, ↓p_minL, ↓p_minl, ↓w_getE, ↓w_emptyK, ↓w_emptyT, ↓p_dixi, ↓p_dixs, ↓p_dini, ↓p_dins, ↓p_dgi, ↓p_dgs, ↓p_dputi, ↓p_dputs, ↓p_extA, ↓p_extAl, p_extAS, p_extASl, ↓w_bor, fl_b, fl_i, fl_n, fl_s, ↓w_enumA, ↓enma_l, ↓enma_t, ↓enma_o, eq_self, ↓w_strM, ↓sv_s, ↓p_eqS, ↓p_neS, ↓p_isTp, ↓p_lenp, ↓itm_p, ↓p_neBs, line_racks, racks_line, ↓p_sub, ↓p_add, ↓p_ipadd, ↓p_mul, ↓p_div, ↓p_mod, ↓p_pow, ↓p_neg, ↓p_eq, ↓p_ne, ↓p_lt, ↓p_gt, ↓p_le, ↓p_ge, ↓p_max, ↓p_min, ↓p_abs, ↓p_intI, ↓p_intB, ↓p_isaI, ↓p_isaB, ↓p_isaNI, ↓p_isNI, ↓p_isNN, ↓p_isNo, ↓p_eqo, ↓p_neo, ↓p_divmod, ↓p_catL, ↓p_catLl, ↓p_catlL, ↓p_catll, ↓p_len, ↓p_lenl, ↓p_lent, ↓p_list, ↓p_listl, ↓p_listt, ↓p_tuple, ↓p_tuplel, ↓p_tuplet, ↓p_rev, ↓p_revl, ↓p_ix, ↓p_ixl, ↓p_ixt, ↓p_append, ↓p_reverse, ↓p_sum, ↓p_suml, ↓p_any, ↓p_all, ↓p_eqLL, ↓p_eqLl, ↓p_eqlL, ↓p_eqll, ↓p_eqL0, ↓p_eql0, ↓p_neLL, ↓p_neLl, ↓p_nelL, ↓p_nell, ↓p_neL0, ↓p_nel0,
  ↓gp_cells, ↓gp_turn, ↓put_turn, ↓put_cells, ↓putP_top, wipeE, lv_0, lv_s,
  List.set_cons_zero, List.set_cons_succ, List.length_cons, List.length_nil, List.map_cons, List.map_nil, finR, List.replicate, List.replicate_succ, List.replicate_zero, List.cons_append, List.nil_append, true_and, and_true, List.tail_cons, List.head?_cons, Option.join_some, List.contains_nil, Bool.false_eq_true, if_false, if_true, List.all_nil, and_self, Int.reduceToNat, Int.reducePow, Nat.reduceSub, Nat.reduceAdd, Int.reduceAdd, Int.reduceMul, Int.reduceSub, Int.reduceNeg, Int.reduceLT, Int.reduceLE, Int.natAbs, Nat.reduceLT, Nat.reduceLeDiff, Nat.reducePow])
local macro_rules | `(tactic| walk_at "mve") => `(tactic| try simp only [↓w_cst, ↓w_var, ↓w_mv, ↓w_fz, ↓w_frz, ↓w_bin, ↓w_un, ↓w_binV, ↓w_asB, ↓w_yes, ↓w_not, ↓w_and, ↓w_or, ↓w_notE, ↓w_chain, ↓w_nil, ↓w_cons, ↓w_tup, ↓w_lst, ↓w_pl, ↓w_mut, ↓w_c0, ↓w_ce, ↓w_cv, ↓w_call', ↓wb_0, ↓wb_e, ↓wb_v, wb_e', ↓wo_leaf, ↓wo_ls, ↓wo_dic, ↓wo_dct, ↓wo_st, ↓wo_s, own_0, own_s, oi_0, oi_e, oi_v, isl_st, isl_leaf, isl_ls, Bool.not_false, Bool.not_true, List.nodup_cons, List.nodup_nil, List.not_mem_nil, not_false_eq_true, ↓w_seq, ↓w_skip, ↓w_brk, ↓w_cont, ↓w_retN, ↓w_set, ↓w_drop, ↓w_ret, ↓w_retV, ↓w_ifS, ↓w_fzS, ↓w_asg, ↓w_gN, ↓w_gT, ↓w_gNl, ↓w_gCn, ↓w_gSub, ↓w_par, ↓w_aug, ↓w_int, ↓w_slice, ↓w_rng1, ↓w_rng2, ↓w_seqI, ↓w_comp, ↓w_for,
  ↓sl_0, ↓sl_s, ↓fr_leaf, ↓fr_ls, ↓ok_t, ↓ok_l, ↓br_t, ↓br_f, decide_true, decide_false, Int.reduceEq, ↓bl_b, ↓il_b, ↓le_l, ↓gp_top, ↓cl_0, ↓cl_e, ↓cl_v, ↓nxt_nx, ↓nxt_rt, ↓nxt_bk, ↓nxt_ct, ↓sa_0, ↓sa_s, ↓rg1_i, ↓rg2_i, ↓itm_l, ↓itm_t, ↓itm_o, ↓fin_rt, ↓fin_nx, ↓lpk_nx, ↓lpk_ct, ↓lpk_bk, ↓lpk_rt, ↓wcl_nil, ↓wf_nil,
  ↓w_enum, ↓w_zip, ↓enm_l, ↓enm_o, ↓zp_ll, ↓zp_lo, ↓zp_ol, ↓zp_oo, ↓zp_tt, ↓p_isLTi, ↓p_isLTn, ↓p_isSi, ↓p_isBn, ↓p_extend, p_extendS, p_appendS, List.isEmpty_nil, ↓w_dicO, ↓dicO_list, zip_cc, zip_nn, ↓at_0, ↓at_1, ↓at_2, ↓at_3, ↓at_4, p_insertS, ↓p_mulO, ↓p_repB, ↓p_rep0, ↓p_rep1, ↓w_while, ↓p_insert, ↓at_last, ↓put_last, ↓p_inl, ↓p_inL, ↓p_ninl, ↓p_ninL, ↓p_eqP0, ↓p_neP0, ↓p_neA, ↓p_eq00, ↓p_ne00, ↓p_ixp0, ↓p_ixp1, ↓w_gTp, ↓p_isLTb, ↓p_isLTs, ↓p_isIb, ↓p_isBb, ↓p_isSb, ↓p_isLb, ↓p_isTb, ↓p_isIs, ↓p_isBs, ↓p_isSs, ↓p_isLs, ↓p_isTs, ↓p_isLi, ↓p_isTi, ↓p_isLn, ↓p_isTn, ↓p_isSn, ↓p_isNb, ↓p_isNs, ↓p_isNt, ↓p_isNl, ↓p_isNp, ↓p_eqTT, ↓p_eqTF, ↓p_eqFT, ↓p_eqFF, ↓p_neTT, ↓p_neTF, ↓p_neFT, ↓p_neFF, ↓p_eqBs, ↓p_eqSs, ↓p_eqIs, ↓w_rng3, ↓rg3_i, ↓w_ifT, ↓w_borA, lv_n, lv_var, lf1_leaf, lf1_ls, lf1_non, lf1_bx, lf1_st, lf1_dic, ↓wo_bx, isl_bx, ↓p_catS, ↓p_catT, ↓p_mulJ, ↓w_chain4, ↓p_lrg1, ↓p_lrg2, ↓p_maxL, ↓p_maxl, ↓p_minL, ↓p_minl, ↓w_getE, ↓w_emptyK, ↓w_emptyT, ↓p_dixi, ↓p_dixs, ↓p_dini, ↓p_dins, ↓p_dgi, ↓p_dgs, ↓p_dputi, ↓p_dputs, ↓p_extA, ↓p_extAl, p_extAS, p_extASl, ↓w_bor, fl_b, fl_i, fl_n, fl_s, ↓w_enumA, ↓enma_l, ↓enma_t, ↓enma_o, eq_self, ↓w_strM, ↓sv_s, ↓p_eqS, ↓p_neS, ↓p_isTp, ↓p_lenp, ↓itm_p, ↓p_neBs, line_racks, racks_line, ↓p_sub, ↓p_add, ↓p_ipadd, ↓p_mul, ↓p_div, ↓p_mod, ↓p_pow, ↓p_neg, ↓p_eq, ↓p_ne, ↓p_lt, ↓p_gt, ↓p_le, ↓p_ge, ↓p_max, ↓p_min, ↓p_abs, ↓p_intI, ↓p_intB, ↓p_isaI, ↓p_isaB, ↓p_isaNI, ↓p_isNI, ↓p_isNN, ↓p_isNo, ↓p_eqo, ↓p_neo, ↓p_divmod, ↓p_catL, ↓p_catLl, ↓p_catlL, ↓p_catll, ↓p_len, ↓p_lenl, ↓p_lent, ↓p_list, ↓p_listl, ↓p_listt, ↓p_tuple, ↓p_tuplel, ↓p_tuplet, ↓p_rev, ↓p_revl, ↓p_ix, ↓p_ixl, ↓p_ixt, ↓p_append, ↓p_reverse, ↓p_sum, ↓p_suml, ↓p_any, ↓p_all, ↓p_eqLL, ↓p_eqLl, ↓p_eqlL, ↓p_eqll, ↓p_eqL0, ↓p_eql0, ↓p_neLL, ↓p_neLl, ↓p_nelL, ↓p_nell, ↓p_neL0, ↓p_nel0,
  ↓gp_cells, ↓gp_turn, ↓put_turn, ↓put_cells, ↓putP_top, wipeE, lv_0, lv_s,
  List.set_cons_zero, List.set_cons_succ, List.length_cons, List.length_nil, List.map_cons, List.map_nil, finR, List.replicate, List.replicate_succ, List.replicate_zero, List.cons_append, List.nil_append, true_and, and_true, List.tail_cons, List.head?_cons, Option.join_some, List.contains_nil, Bool.false_eq_true, if_false, if_true, List.all_nil, and_self, Int.reduceToNat, Int.reducePow, Nat.reduceSub, Nat.reduceAdd, Int.reduceAdd, Int.reduceMul, Int.reduceSub, Int.reduceNeg, Int.reduceLT, Int.reduceLE, Int.natAbs, Nat.reduceLT, Nat.reduceLeDiff, Nat.reducePow])
local macro_rules | `(tactic| walk_at "mv1") => `(tactic| try simp only [↓ok_t, ↓ok_l, ↓nxt_nx, ↓nxt_rt, ↓w_seq, ↓fin_rt, ↓fin_nx, ↓lpk_nx, ↓lpk_ct, ↓lpk_bk, ↓lpk_rt, wipeE, List.set_cons_zero, List.set_cons_succ, true_and, and_true])
local macro_rules | `(tactic| walk_at "mvs") => `(tactic| try simp only [↓sl_0, ↓sl_s, ↓fr_leaf, ↓fr_ls, ↓ok_t, ↓ok_l, ↓nxt_nx, ↓nxt_rt, ↓w_seq, ↓fin_rt, ↓fin_nx, ↓lpk_nx, ↓lpk_ct, ↓lpk_bk, ↓lpk_rt, wipeE, List.set_cons_zero, List.set_cons_succ, true_and, and_true])
local macro_rules | `(tactic| walk_at "mvp") => `(tactic| try simp only [↓w_cst, ↓w_var, ↓w_mv, ↓w_fz, ↓w_frz, ↓w_bin, ↓w_un, ↓w_binV, ↓w_if, ↓w_asB, ↓w_yes, ↓w_not, ↓w_and, ↓w_or, ↓w_andE, ↓w_orE, ↓w_notE, ↓w_chain, ↓w_nil, ↓w_cons, ↓w_tup, ↓w_lst, ↓w_pl, ↓w_mut, ↓w_c0, ↓w_ce, ↓w_cv, ↓w_call', ↓wb_0, ↓wb_e, ↓wb_v, wb_e', ↓wo_leaf, ↓wo_ls, ↓wo_dic, ↓wo_dct, ↓wo_st, ↓wo_s, own_0, own_s, oi_0, oi_e, oi_v, isl_st, isl_leaf, isl_ls, Bool.not_false, Bool.not_true, List.nodup_cons, List.nodup_nil, List.not_mem_nil, not_false_eq_true, ↓w_seq, ↓w_skip, ↓w_brk, ↓w_cont, ↓w_retN, ↓w_set, ↓w_drop, ↓w_ret, ↓w_retV, ↓w_fzS, ↓w_asg, ↓w_gN, ↓w_gT, ↓w_gNl, ↓w_gCn, ↓w_gSub, ↓w_par, ↓w_aug, ↓w_int, ↓w_slice, ↓w_rng1, ↓w_rng2, ↓w_seqI, ↓w_comp, ↓w_for,
  ↓sl_0, ↓sl_s, ↓fr_leaf, ↓fr_ls, ↓ok_t, ↓ok_l, ↓br_t, ↓br_f, decide_true, decide_false, Int.reduceEq, ↓bl_b, ↓il_b, ↓le_l, ↓gp_top, ↓cl_0, ↓cl_e, ↓cl_v, ↓nxt_nx, ↓nxt_rt, ↓nxt_bk, ↓nxt_ct, ↓sa_0, ↓sa_s, ↓rg1_i, ↓rg2_i, ↓itm_l, ↓itm_t, ↓itm_o, ↓fin_rt, ↓fin_nx, ↓lpk_nx, ↓lpk_ct, ↓lpk_bk, ↓lpk_rt, ↓wcl_nil, ↓wf_nil,
  ↓w_enum, ↓w_zip, ↓enm_l, ↓enm_o, ↓zp_ll, ↓zp_lo, ↓zp_ol, ↓zp_oo, ↓zp_tt, ↓p_isLTi, ↓p_isLTn, ↓p_isSi, ↓p_isBn, ↓p_extend, p_extendS, p_appendS, List.isEmpty_nil, ↓w_dicO, ↓dicO_list, zip_cc, zip_nn, ↓at_0, ↓at_1, ↓at_2, ↓at_3, ↓at_4, p_insertS, ↓p_mulO, ↓p_repB, ↓p_rep0, ↓p_rep1, ↓w_while, ↓p_insert, ↓at_last, ↓put_last, ↓p_inl, ↓p_inL, ↓p_ninl, ↓p_ninL, ↓p_eqP0, ↓p_neP0, ↓p_neA, ↓p_eq00, ↓p_ne00, ↓p_ixp0, ↓p_ixp1, ↓w_gTp, ↓p_isLTb, ↓p_isLTs, ↓p_isIb, ↓p_isBb, ↓p_isSb, ↓p_isLb, ↓p_isTb, ↓p_isIs, ↓p_isBs, ↓p_isSs, ↓p_isLs, ↓p_isTs, ↓p_isLi, ↓p_isTi, ↓p_isLn, ↓p_isTn, ↓p_isSn, ↓p_isNb, ↓p_isNs, ↓p_isNt, ↓p_isNl, ↓p_isNp, ↓p_eqTT, ↓p_eqTF, ↓p_eqFT, ↓p_eqFF, ↓p_neTT, ↓p_neTF, ↓p_neFT, ↓p_neFF, ↓p_eqBs, ↓p_eqSs, ↓p_eqIs, ↓w_rng3, ↓rg3_i, ↓w_ifT, ↓w_borA, lv_n, lv_var, lf1_leaf, lf1_ls, lf1_non, lf1_bx, lf1_st, lf1_dic, ↓wo_bx, isl_bx, ↓p_catS, ↓p_catT, ↓p_mulJ, ↓w_chain4, ↓p_lrg1, ↓p_lrg2, ↓p_maxL, ↓p_maxl, ↓p_minL, ↓p_minl, ↓w_getE, ↓w_emptyK, ↓w_emptyT, ↓p_dixi, ↓p_dixs, ↓p_dini, ↓p_dins, ↓p_dgi, ↓p_dgs, ↓p_dputi, ↓p_dputs, ↓p_extA, ↓p_extAl, p_extAS, p_extASl, ↓w_bor, fl_b, fl_i, fl_n, fl_s, ↓w_enumA, ↓enma_l, ↓enma_t, ↓enma_o, eq_self, ↓w_strM, ↓sv_s, ↓p_eqS, ↓p_neS, ↓p_isTp, ↓p_lenp, ↓itm_p, ↓p_neBs, line_racks, racks_line, ↓p_sub, ↓p_add, ↓p_ipadd, ↓p_mul, ↓p_div, ↓p_mod, ↓p_pow, ↓p_neg, ↓p_eq, ↓p_ne, ↓p_lt, ↓p_gt, ↓p_le, ↓p_ge, ↓p_max, ↓p_min, ↓p_abs, ↓p_intI, ↓p_intB, ↓p_isaI, ↓p_isaB, ↓p_isaNI, ↓p_isNI, ↓p_isNN, ↓p_isNo, ↓p_eqo, ↓p_neo, ↓p_divmod, ↓p_catL, ↓p_catLl, ↓p_catlL, ↓p_catll, ↓p_len, ↓p_lenl, ↓p_lent, ↓p_list, ↓p_listl, ↓p_listt, ↓p_tuple, ↓p_tuplel, ↓p_tuplet, ↓p_rev, ↓p_revl, ↓p_ix, ↓p_ixl, ↓p_ixt, ↓p_append, ↓p_reverse, ↓p_sum, ↓p_suml, ↓p_any, ↓p_all, ↓p_eqLL, ↓p_eqLl, ↓p_eqlL, ↓p_eqll, ↓p_eqL0, ↓p_eql0, ↓p_neLL, ↓p_neLl, ↓p_nelL, ↓p_nell, ↓p_neL0, ↓p_nel0,
  ↓gp_cells, ↓gp_turn, ↓put_turn, ↓put_cells, ↓putP_top, wipeE, lv_0, lv_s,
  List.set_cons_zero, List.set_cons_succ, List.length_cons, List.length_nil, List.map_cons, List.map_nil, finR, List.replicate, List.replicate_succ, List.replicate_zero, List.cons_append, List.nil_append, true_and, and_true, List.tail_cons, List.head?_cons, Option.join_some, List.contains_nil, Bool.false_eq_true, if_false, if_true, List.all_nil, and_self, Int.reduceToNat, Int.reducePow, Nat.reduceSub, Nat.reduceAdd, Int.reduceAdd, Int.reduceMul, Int.reduceSub, Int.reduceNeg, Int.reduceLT, Int.reduceLE, Int.natAbs, Nat.reduceLT, Nat.reduceLeDiff, Nat.reducePow])
/-! ### the keys of a dict of one's own, walked by a comprehension -/
def shD : D → Bool
  | .tuple ts => ts.all flatD
  | t => flatD t
def keyC (i : Nat) (set : GSem) (cnd : TSem) (elt : ESem) (vs : List Nat) : ESem := fun env => match env[i]? with
  | some (some (.dic kvs)) => (frzK kvs).bind fun l => if l.length ≤ 16000000 then (compL set cnd elt vs (l.map (·.1)) (wipeE ((lvs env).set i (some (.leaf (.dict l)))) vs)).bind fun z => if z.1.all shD = true then some (.ls z.1, env) else none else none
  | _ => none
section
variable {X : Cx} {tg elt : Expr} {ifs : List Expr} {set : GSem} {cnd : TSem} {fe : ESem} {aT : List Nat} {q q1 m1 : Bool} {pos p : Pos} {x : Str}
end

end Mv

set_option Elab.async false
set_option linter.all false
set_option maxRecDepth 100000
set_option maxHeartbeats 4000000
namespace Mv
open PySem PySem.Spec PyProof.Rows L2
local macro_rules | `(tactic| walk_at "mv") => `(tactic| try simp only [↓w_cst, ↓w_var, ↓w_mv, ↓w_fz, ↓w_frz, ↓w_bin, ↓w_un, ↓w_binV, ↓w_if, ↓w_asB, ↓w_yes, ↓w_not, ↓w_and, ↓w_or, ↓w_andE, ↓w_orE, ↓w_notE, ↓w_chain, ↓w_nil, ↓w_cons, ↓w_tup, ↓w_lst, ↓w_pl, ↓w_mut, ↓w_c0, ↓w_ce, ↓w_cv, ↓w_call', ↓wb_0, ↓wb_e, ↓wb_v, wb_e', ↓wo_leaf, ↓wo_ls, ↓wo_dic, ↓wo_dct, ↓wo_st, ↓wo_s, own_0, own_s, oi_0, oi_e, oi_v, isl_st, isl_leaf, isl_ls, Bool.not_false, Bool.not_true, List.nodup_cons, List.nodup_nil, List.not_mem_nil, not_false_eq_true, ↓w_seq, ↓w_skip, ↓w_brk, ↓w_cont, ↓w_retN, ↓w_set, ↓w_drop, ↓w_ret, ↓w_retV, ↓w_ifS, ↓w_fzS, ↓w_asg, ↓w_gN, ↓w_gT, ↓w_gNl, ↓w_gCn, ↓w_gSub, ↓w_par, ↓w_aug, ↓w_int, ↓w_slice, ↓w_rng1, ↓w_rng2, ↓w_seqI, ↓w_comp, ↓w_for,
  ↓sl_0, ↓sl_s, ↓fr_leaf, ↓fr_ls, ↓ok_t, ↓ok_l, ↓br_t, ↓br_f, decide_true, decide_false, Int.reduceEq, ↓bl_b, ↓il_b, ↓le_l, ↓gp_top, ↓cl_0, ↓cl_e, ↓cl_v, ↓nxt_nx, ↓nxt_rt, ↓nxt_bk, ↓nxt_ct, ↓sa_0, ↓sa_s, ↓rg1_i, ↓rg2_i, ↓itm_l, ↓itm_t, ↓itm_o, ↓fin_rt, ↓fin_nx, ↓lpk_nx, ↓lpk_ct, ↓lpk_bk, ↓lpk_rt, ↓wcl_nil, ↓wf_nil,
  ↓w_enum, ↓w_zip, ↓enm_l, ↓enm_o, ↓zp_ll, ↓zp_lo, ↓zp_ol, ↓zp_oo, ↓zp_tt, ↓p_isLTi, ↓p_isLTn, ↓p_isSi, ↓p_isBn, ↓p_extend, p_extendS, p_appendS, List.isEmpty_nil, ↓w_dicO, ↓dicO_list, zip_cc, zip_nn, ↓at_0, ↓at_1, ↓at_2, ↓at_3, ↓at_4, p_insertS, ↓p_mulO, ↓p_repB, ↓p_rep0, ↓p_rep1, ↓w_while, ↓p_insert, ↓at_last, ↓put_last, ↓p_inl, ↓p_inL, ↓p_ninl, ↓p_ninL, ↓p_eqP0, ↓p_neP0, ↓p_neA, ↓p_eq00, ↓p_ne00, ↓p_ixp0, ↓p_ixp1, ↓w_gTp, ↓p_isLTb, ↓p_isLTs, ↓p_isIb, ↓p_isBb, ↓p_isSb, ↓p_isLb, ↓p_isTb, ↓p_isIs, ↓p_isBs, ↓p_isSs, ↓p_isLs, ↓p_isTs, ↓p_isLi, ↓p_isTi, ↓p_isLn, ↓p_isTn, ↓p_isSn, ↓p_isNb, ↓p_isNs, ↓p_isNt, ↓p_isNl, ↓p_isNp, ↓p_eqTT, ↓p_eqTF, ↓p_eqFT, ↓p_eqFF, ↓p_neTT, ↓p_neTF, ↓p_neFT, ↓p_neFF, ↓p_eqBs, ↓p_eqSs, ↓p_eqIs, ↓w_rng3, ↓rg3_i, ↓w_ifT, ↓w_borA, lv_n, lv_var, lf1_leaf, lf1_ls, lf1_non, lf1_bx, lf1_st, lf1_dic, ↓wo_bx, isl_bx, ↓p_catS, ↓p_catT, ↓p_mulJ, ↓w_chain4, ↓p_lrg1, ↓p_lrg2, ↓p_maxL, ↓p_maxl, ↓p_minL, ↓p_minl, ↓w_getE, ↓w_emptyK, ↓w_emptyT, ↓p_dixi, ↓p_dixs, ↓p_dini, ↓p_dins, ↓p_dgi, ↓p_dgs, ↓p_dputi, ↓p_dputs, ↓p_extA, ↓p_extAl, p_extAS, p_extASl, ↓w_bor, fl_b, fl_i, fl_n, fl_s, ↓w_enumA, ↓enma_l, ↓enma_t, ↓enma_o, eq_self, ↓w_strM, ↓sv_s, ↓p_eqS, ↓p_neS, ↓p_isTp, ↓p_lenp, ↓itm_p, ↓p_neBs, line_racks, racks_line, ↓p_sub, ↓p_add, ↓p_ipadd, ↓p_mul, ↓p_div, ↓p_mod, ↓p_pow, ↓p_neg, ↓p_eq, ↓p_ne, ↓p_lt, ↓p_gt, ↓p_le, ↓p_ge, ↓p_max, ↓p_min, ↓p_abs, ↓p_intI, ↓p_intB, ↓p_isaI, ↓p_isaB, ↓p_isaNI, ↓p_isNI, ↓p_isNN, ↓p_isNo, ↓p_eqo, ↓p_neo, ↓p_divmod, ↓p_catL, ↓p_catLl, ↓p_catlL, ↓p_catll, ↓p_len, ↓p_lenl, ↓p_lent, ↓p_list, ↓p_listl, ↓p_listt, ↓p_tuple, ↓p_tuplel, ↓p_tuplet, ↓p_rev, ↓p_revl, ↓p_ix, ↓p_ixl, ↓p_ixt, ↓p_append, ↓p_reverse, ↓p_sum, ↓p_suml, ↓p_any, ↓p_all, ↓p_eqLL, ↓p_eqLl, ↓p_eqlL, ↓p_eqll, ↓p_eqL0, ↓p_eql0, ↓p_neLL, ↓p_neLl, ↓p_nelL, ↓p_nell, ↓p_neL0, ↓p_nel0,
  ↓gp_cells, ↓gp_turn, ↓put_turn, ↓put_cells, ↓putP_top, wipeE, lv_0, lv_s,
  List.set_cons_zero, List.set_cons_succ, List.length_cons, List.length_nil, List.map_cons, List.map_nil, finR, List.replicate, List.replicate_succ, List.replicate_zero, List.cons_append, List.nil_append, true_and, and_true, List.tail_cons, List.head?_cons, Option.join_some, List.contains_nil, Bool.false_eq_true, if_false, if_true, List.all_nil, and_self, Int.reduceToNat, Int.reducePow, Nat.reduceSub, Nat.reduceAdd, Int.reduceAdd, Int.reduceMul, Int.reduceSub, Int.reduceNeg, Int.reduceLT, Int.reduceLE, Int.natAbs, Nat.reduceLT, Nat.reduceLeDiff, Nat.reducePow])
local macro_rules | `(tactic| walk_at "mve") => `(tactic| try simp only [↓w_cst, ↓w_var, ↓w_mv, ↓w_fz, ↓w_frz, ↓w_bin, ↓w_un, ↓w_binV, ↓w_asB, ↓w_yes, ↓w_not, ↓w_and, ↓w_or, ↓w_notE, ↓w_chain, ↓w_nil, ↓w_cons, ↓w_tup, ↓w_lst, ↓w_pl, ↓w_mut, ↓w_c0, ↓w_ce, ↓w_cv, ↓w_call', ↓wb_0, ↓wb_e, ↓wb_v, wb_e', ↓wo_leaf, ↓wo_ls, ↓wo_dic, ↓wo_dct, ↓wo_st, ↓wo_s, own_0, own_s, oi_0, oi_e, oi_v, isl_st, isl_leaf, isl_ls, Bool.not_false, Bool.not_true, List.nodup_cons, List.nodup_nil, List.not_mem_nil, not_false_eq_true, ↓w_seq, ↓w_skip, ↓w_brk, ↓w_cont, ↓w_retN, ↓w_set, ↓w_drop, ↓w_ret, ↓w_retV, ↓w_ifS, ↓w_fzS, ↓w_asg, ↓w_gN, ↓w_gT, ↓w_gNl, ↓w_gCn, ↓w_gSub, ↓w_par, ↓w_aug, ↓w_int, ↓w_slice, ↓w_rng1, ↓w_rng2, ↓w_seqI, ↓w_comp, ↓w_for,
  ↓sl_0, ↓sl_s, ↓fr_leaf, ↓fr_ls, ↓ok_t, ↓ok_l, ↓br_t, ↓br_f, decide_true, decide_false, Int.reduceEq, ↓bl_b, ↓il_b, ↓le_l, ↓gp_top, ↓cl_0, ↓cl_e, ↓cl_v, ↓nxt_nx, ↓nxt_rt, ↓nxt_bk, ↓nxt_ct, ↓sa_0, ↓sa_s, ↓rg1_i, ↓rg2_i, ↓itm_l, ↓itm_t, ↓itm_o, ↓fin_rt, ↓fin_nx, ↓lpk_nx, ↓lpk_ct, ↓lpk_bk, ↓lpk_rt, ↓wcl_nil, ↓wf_nil,
  ↓w_enum, ↓w_zip, ↓enm_l, ↓enm_o, ↓zp_ll, ↓zp_lo, ↓zp_ol, ↓zp_oo, ↓zp_tt, ↓p_isLTi, ↓p_isLTn, ↓p_isSi, ↓p_isBn, ↓p_extend, p_extendS, p_appendS, List.isEmpty_nil, ↓w_dicO, ↓dicO_list, zip_cc, zip_nn, ↓at_0, ↓at_1, ↓at_2, ↓at_3, ↓at_4, p_insertS, ↓p_mulO, ↓p_repB, ↓p_rep0, ↓p_rep1, ↓w_while, ↓p_insert, ↓at_last, ↓put_last, ↓p_inl, ↓p_inL, ↓p_ninl, ↓p_ninL, ↓p_eqP0, ↓p_neP0, ↓p_neA, ↓p_eq00, ↓p_ne00, ↓p_ixp0, ↓p_ixp1, ↓w_gTp, ↓p_isLTb, ↓p_isLTs, ↓p_isIb, ↓p_isBb, ↓p_isSb, ↓p_isLb, ↓p_isTb, ↓p_isIs, ↓p_isBs, ↓p_isSs, ↓p_isLs, ↓p_isTs, ↓p_isLi, ↓p_isTi, ↓p_isLn, ↓p_isTn, ↓p_isSn, ↓p_isNb, ↓p_isNs, ↓p_isNt, ↓p_isNl, ↓p_isNp, ↓p_eqTT, ↓p_eqTF, ↓p_eqFT, ↓p_eqFF, ↓p_neTT, ↓p_neTF, ↓p_neFT, ↓p_neFF, ↓p_eqBs, ↓p_eqSs, ↓p_eqIs, ↓w_rng3, ↓rg3_i, ↓w_ifT, ↓w_borA, lv_n, lv_var, lf1_leaf, lf1_ls, lf1_non, lf1_bx, lf1_st, lf1_dic, ↓wo_bx, isl_bx, ↓p_catS, ↓p_catT, ↓p_mulJ, ↓w_chain4, ↓p_lrg1, ↓p_lrg2, ↓p_maxL, ↓p_maxl, ↓p_minL, ↓p_minl, ↓w_getE, ↓w_emptyK, ↓w_emptyT, ↓p_dixi, ↓p_dixs, ↓p_dini, ↓p_dins, ↓p_dgi, ↓p_dgs, ↓p_dputi, ↓p_dputs, ↓p_extA, ↓p_extAl, p_extAS, p_extASl, ↓w_bor, fl_b, fl_i, fl_n, fl_s, ↓w_enumA, ↓enma_l, ↓enma_t, ↓enma_o, eq_self, ↓w_strM, ↓sv_s, ↓p_eqS, ↓p_neS, ↓p_isTp, ↓p_lenp, ↓itm_p, ↓p_neBs, line_racks, racks_line, ↓p_sub, ↓p_add, ↓p_ipadd, ↓p_mul, ↓p_div, ↓p_mod, ↓p_pow, ↓p_neg, ↓p_eq, ↓p_ne, ↓p_lt, ↓p_gt, ↓p_le, ↓p_ge, ↓p_max, ↓p_min, ↓p_abs, ↓p_intI, ↓p_intB, ↓p_isaI, ↓p_isaB, ↓p_isaNI, ↓p_isNI, ↓p_isNN, ↓p_isNo, ↓p_eqo, ↓p_neo, ↓p_divmod, ↓p_catL, ↓p_catLl, ↓p_catlL, ↓p_catll, ↓p_len, ↓p_lenl, ↓p_lent, ↓p_list, ↓p_listl, ↓p_listt, ↓p_tuple, ↓p_tuplel, ↓p_tuplet, ↓p_rev, ↓p_revl, ↓p_ix, ↓p_ixl, ↓p_ixt, ↓p_append, ↓p_reverse, ↓p_sum, ↓p_suml, ↓p_any, ↓p_all, ↓p_eqLL, ↓p_eqLl, ↓p_eqlL, ↓p_eqll, ↓p_eqL0, ↓p_eql0, ↓p_neLL, ↓p_neLl, ↓p_nelL, ↓p_nell, ↓p_neL0, ↓p_nel0,
  ↓gp_cells, ↓gp_turn, ↓put_turn, ↓put_cells, ↓putP_top, wipeE, lv_0, lv_s,
  List.set_cons_zero, List.set_cons_succ, List.length_cons, List.length_nil, List.map_cons, List.map_nil, finR, List.replicate, List.replicate_succ, List.replicate_zero, List.cons_append, List.nil_append, true_and, and_true, List.tail_cons, List.head?_cons, Option.join_some, List.contains_nil, Bool.false_eq_true, if_false, if_true, List.all_nil, and_self, Int.reduceToNat, Int.reducePow, Nat.reduceSub, Nat.reduceAdd, Int.reduceAdd, Int.reduceMul, Int.reduceSub, Int.reduceNeg, Int.reduceLT, Int.reduceLE, Int.natAbs, Nat.reduceLT, Nat.reduceLeDiff, Nat.reducePow])
local macro_rules | `(tactic| walk_at "mv1") => `(tactic| try simp only [↓ok_t, ↓ok_l, ↓nxt_nx, ↓nxt_rt, ↓w_seq, ↓fin_rt, ↓fin_nx, ↓lpk_nx, ↓lpk_ct, ↓lpk_bk, ↓lpk_rt, wipeE, List.set_cons_zero, List.set_cons_succ, true_and, and_true])
local macro_rules | `(tactic| walk_at "mvs") => `(tactic| try simp only [↓sl_0, ↓sl_s, ↓fr_leaf, ↓fr_ls, ↓ok_t, ↓ok_l, ↓nxt_nx, ↓nxt_rt, ↓w_seq, ↓fin_rt, ↓fin_nx, ↓lpk_nx, ↓lpk_ct, ↓lpk_bk, ↓lpk_rt, wipeE, List.set_cons_zero, List.set_cons_succ, true_and, and_true])
local macro_rules | `(tactic| walk_at "mvp") => `(tactic| try simp only [↓w_cst, ↓w_var, ↓w_mv, ↓w_fz, ↓w_frz, ↓w_bin, ↓w_un, ↓w_binV, ↓w_if, ↓w_asB, ↓w_yes, ↓w_not, ↓w_and, ↓w_or, ↓w_andE, ↓w_orE, ↓w_notE, ↓w_chain, ↓w_nil, ↓w_cons, ↓w_tup, ↓w_lst, ↓w_pl, ↓w_mut, ↓w_c0, ↓w_ce, ↓w_cv, ↓w_call', ↓wb_0, ↓wb_e, ↓wb_v, wb_e', ↓wo_leaf, ↓wo_ls, ↓wo_dic, ↓wo_dct, ↓wo_st, ↓wo_s, own_0, own_s, oi_0, oi_e, oi_v, isl_st, isl_leaf, isl_ls, Bool.not_false, Bool.not_true, List.nodup_cons, List.nodup_nil, List.not_mem_nil, not_false_eq_true, ↓w_seq, ↓w_skip, ↓w_brk, ↓w_cont, ↓w_retN, ↓w_set, ↓w_drop, ↓w_ret, ↓w_retV, ↓w_fzS, ↓w_asg, ↓w_gN, ↓w_gT, ↓w_gNl, ↓w_gCn, ↓w_gSub, ↓w_par, ↓w_aug, ↓w_int, ↓w_slice, ↓w_rng1, ↓w_rng2, ↓w_seqI, ↓w_comp, ↓w_for,
  ↓sl_0, ↓sl_s, ↓fr_leaf, ↓fr_ls, ↓ok_t, ↓ok_l, ↓br_t, ↓br_f, decide_true, decide_false, Int.reduceEq, ↓bl_b, ↓il_b, ↓le_l, ↓gp_top, ↓cl_0, ↓cl_e, ↓cl_v, ↓nxt_nx, ↓nxt_rt, ↓nxt_bk, ↓nxt_ct, ↓sa_0, ↓sa_s, ↓rg1_i, ↓rg2_i, ↓itm_l, ↓itm_t, ↓itm_o, ↓fin_rt, ↓fin_nx, ↓lpk_nx, ↓lpk_ct, ↓lpk_bk, ↓lpk_rt, ↓wcl_nil, ↓wf_nil,
  ↓w_enum, ↓w_zip, ↓enm_l, ↓enm_o, ↓zp_ll, ↓zp_lo, ↓zp_ol, ↓zp_oo, ↓zp_tt, ↓p_isLTi, ↓p_isLTn, ↓p_isSi, ↓p_isBn, ↓p_extend, p_extendS, p_appendS, List.isEmpty_nil, ↓w_dicO, ↓dicO_list, zip_cc, zip_nn, ↓at_0, ↓at_1, ↓at_2, ↓at_3, ↓at_4, p_insertS, ↓p_mulO, ↓p_repB, ↓p_rep0, ↓p_rep1, ↓w_while, ↓p_insert, ↓at_last, ↓put_last, ↓p_inl, ↓p_inL, ↓p_ninl, ↓p_ninL, ↓p_eqP0, ↓p_neP0, ↓p_neA, ↓p_eq00, ↓p_ne00, ↓p_ixp0, ↓p_ixp1, ↓w_gTp, ↓p_isLTb, ↓p_isLTs, ↓p_isIb, ↓p_isBb, ↓p_isSb, ↓p_isLb, ↓p_isTb, ↓p_isIs, ↓p_isBs, ↓p_isSs, ↓p_isLs, ↓p_isTs, ↓p_isLi, ↓p_isTi, ↓p_isLn, ↓p_isTn, ↓p_isSn, ↓p_isNb, ↓p_isNs, ↓p_isNt, ↓p_isNl, ↓p_isNp, ↓p_eqTT, ↓p_eqTF, ↓p_eqFT, ↓p_eqFF, ↓p_neTT, ↓p_neTF, ↓p_neFT, ↓p_neFF, ↓p_eqBs, ↓p_eqSs, ↓p_eqIs, ↓w_rng3, ↓rg3_i, ↓w_ifT, ↓w_borA, lv_n, lv_var, lf1_leaf, lf1_ls, lf1_non, lf1_bx, lf1_st, lf1_dic, ↓wo_bx, isl_bx, ↓p_catS, ↓p_catT, ↓p_mulJ, ↓w_chain4, ↓p_lrg1, ↓p_lrg2, ↓p_maxL, ↓p_maxl, ↓p_minL, ↓p_minl, ↓w_getE, ↓w_emptyK, ↓w_emptyT, ↓p_dixi, ↓p_dixs, ↓p_dini, ↓p_dins, ↓p_dgi, ↓p_dgs, ↓p_dputi, ↓p_dputs, ↓p_extA, ↓p_extAl, p_extAS, p_extASl, ↓w_bor, fl_b, fl_i, fl_n, fl_s, ↓w_enumA, ↓enma_l, ↓enma_t, ↓enma_o, eq_self, ↓w_strM, ↓sv_s, ↓p_eqS, ↓p_neS, ↓p_isTp, ↓p_lenp, ↓itm_p, ↓p_neBs, line_racks, racks_line, ↓p_sub, ↓p_add, ↓p_ipadd, ↓p_mul, ↓p_div, ↓p_mod, ↓p_pow, ↓p_neg, ↓p_eq, ↓p_ne, ↓p_lt, ↓p_gt, ↓p_le, ↓p_ge, ↓p_max, ↓p_min, ↓p_abs, ↓p_intI, ↓p_intB, ↓p_isaI, ↓p_isaB, ↓p_isaNI, ↓p_isNI, ↓p_isNN, ↓p_isNo, ↓p_eqo, ↓p_neo, ↓p_divmod, ↓p_catL, ↓p_catLl, ↓p_catlL, ↓p_catll, ↓p_len, ↓p_lenl, ↓p_lent, ↓p_list, ↓p_listl, ↓p_listt, ↓p_tuple, ↓p_tuplel, ↓p_tuplet, ↓p_rev, ↓p_revl, ↓p_ix, ↓p_ixl, ↓p_ixt, ↓p_append, ↓p_reverse, ↓p_sum, ↓p_suml, ↓p_any, ↓p_all, ↓p_eqLL, ↓p_eqLl, ↓p_eqlL, ↓p_eqll, ↓p_eqL0, ↓p_eql0, ↓p_neLL, ↓p_neLl, ↓p_nelL, ↓p_nell, ↓p_neL0, ↓p_nel0,
  ↓gp_cells, ↓gp_turn, ↓put_turn, ↓put_cells, ↓putP_top, wipeE, lv_0, lv_s,
  List.set_cons_zero, List.set_cons_succ, List.length_cons, List.length_nil, List.map_cons, List.map_nil, finR, List.replicate, List.replicate_succ, List.replicate_zero, List.cons_append, List.nil_append, true_and, and_true, List.tail_cons, List.head?_cons, Option.join_some, List.contains_nil, Bool.false_eq_true, if_false, if_true, List.all_nil, and_self, Int.reduceToNat, Int.reducePow, Nat.reduceSub, Nat.reduceAdd, Int.reduceAdd, Int.reduceMul, Int.reduceSub, Int.reduceNeg, Int.reduceLT, Int.reduceLE, Int.natAbs, Nat.reduceLT, Nat.reduceLeDiff, Nat.reducePow])
/-! ### .. its rules -/
def Kl (o : O) (Q : List (D × D) → Prop) (_h : Hold Q := ⟨⟩) : Prop := match o with
  | .dic kvs => O1 (frzK kvs) Q
  | _ => False
theorem w_keyC {i : Nat} {set : GSem} {cnd : TSem} {elt : ESem} {vs : List Nat} {env : Mv.Env} {Q : O → Mv.Env → Prop} : We (keyC i set cnd elt vs) env Q ↔ Sl env i fun o => Kl o fun l => l.length ≤ 16000000 ∧ Wcl set cnd elt vs (l.map (·.1)) (wipeE ((lvs env).set i (some (.leaf (.dict l)))) vs) fun ds _ => ds.all shD = true ∧ Q (.ls ds) env := by
  unfold We keyC Sl
  cases q : env[i]? with
  | none => exact Iff.rfl
  | some x =>
    cases x with
    | none => exact Iff.rfl
    | some o =>
      simp only [Option.join_some, O1]
      cases o with
      | dic kvs =>
        unfold Kl
        simp only
        cases h1 : frzK kvs with
        | none => exact Iff.rfl
        | some l =>
          simp only [Option.bind_some, O1]
          by_cases hl : l.length ≤ 16000000
          · rw [if_pos hl]
            unfold Wcl
            cases h2 : compL set cnd elt vs (l.map (·.1)) (wipeE ((lvs env).set i (some (.leaf (.dict l)))) vs) with
            | none => simp [O2]
            | some p =>
              simp only [Option.bind_some, O2]
              by_cases h3 : p.1.all shD = true
              · simp [h3, hl]
              · simp [h3]
          · rw [if_neg hl]
            exact ⟨fun z => z.elim, fun z => absurd z.1 hl⟩
      | _ => exact Iff.rfl
def rowD (kv : Key × D) : D × D := (keyD kv.1, kv.2)
theorem frzK_S : ∀ {kvs : List (Key × D)}, frzK (kvs.map fun kv => (kv.1, O.leaf kv.2)) = some (kvs.map rowD)
  | [] => rfl
  | kv :: r => by
    rw [List.map_cons, frzK, frzK_S]
    rfl
theorem kl_S {kvs : List (Key × D)} {Q : List (D × D) → Prop} : Kl (dicS kvs) Q ↔ Q (kvs.map rowD) := by
  unfold Kl dicS
  simp only [frzK_S]
  exact Iff.rfl
def kyD : D → Option Key
  | .int i => some (.inl i)
  | .str x => some (.inr x)
  | _ => none
def lkD : List (D × D) → Key → Option D
  | [], _ => none
  | (d, t) :: r, k => if kyD d = some k then some t else lkD r k
/-- d[k] of a dict that stands still -/
def oDIy (d k : O) : Option O := match d with
  | .leaf (.dict l) => (keyOf k).bind fun k => (lkD l k).map O.leaf
  | _ => none
theorem lkD_S {k : Key} : ∀ {kvs : List (Key × D)}, lkD (kvs.map rowD) k = lkK kvs k
  | [] => rfl
  | kv :: r => by
    obtain ⟨k', t⟩ := kv
    have hk : kyD (keyD k') = some k' := by cases k' <;> rfl
    rw [List.map_cons, rowD, lkD, hk, lkK, lkD_S]
    by_cases h : k' = k
    · rw [if_pos (by rw [h]), if_pos h]
    · rw [if_neg (fun z => h (Option.some.inj z)), if_neg h]
theorem p_diyi {kvs : List (Key × D)} {i : Int} {Q : O → Prop} : Op2 oDIy (.leaf (.dict (kvs.map rowD))) (.leaf (.int i)) Q ↔ ∃ t, lkK kvs (.inl i) = some t ∧ Q (.leaf t) := by
  unfold Op2 oDIy keyOf
  simp only [Option.bind_some, lkD_S]
  cases lkK kvs (.inl i) with
  | none => simp [O1]
  | some t => simp [O1]
theorem p_diys {kvs : List (Key × D)} {x : Str} {Q : O → Prop} : Op2 oDIy (.leaf (.dict (kvs.map rowD))) (.leaf (.str x)) Q ↔ ∃ t, lkK kvs (.inr x) = some t ∧ Q (.leaf t) := by
  unfold Op2 oDIy keyOf
  simp only [Option.bind_some, lkD_S]
  cases lkK kvs (.inr x) with
  | none => simp [O1]
  | some t => simp [O1]
end Mv
set_option Elab.async false
set_option linter.all false
set_option maxRecDepth 100000
set_option maxHeartbeats 2000000
namespace Mv
open PySem PySem.Spec PyProof.Rows L2
/-! ### str(x) -/
mutual
theorem noDict_plain : ∀ d : D, d.plain = true → d.hasDict = false
  | .none, _ => by simp only [PyData.hasDict]
  | .bool _, _ => by simp only [PyData.hasDict]
  | .int _, _ => by simp only [PyData.hasDict]
  | .str _, _ => by simp only [PyData.hasDict]
  | .list xs, h => by
    simp only [PyData.hasDict]
    exact noDict_plainAll xs (by simpa [PyData.plain] using h)
  | .tuple xs, h => by
    simp only [PyData.hasDict]
    exact noDict_plainAll xs (by simpa [PyData.plain] using h)
  | .dict _, h => by simp [PyData.plain] at h
theorem noDict_plainAll : ∀ xs : List D, PyData.plainAll xs = true → PyData.hasDictAll xs = false
  | [], _ => by simp only [PyData.hasDictAll]
  | x :: xs, h => by
    have h' : x.plain = true ∧ PyData.plainAll xs = true := by simpa [PyData.plainAll] using h
    simp only [PyData.hasDictAll, noDict_plain x h'.1, noDict_plainAll xs h'.2, Bool.or_self]
end
/-- what str tells of a thing of any depth to fifty -/
def strI (t : D) : Option D := match t with
  | .dict _ => none
  | .str x => some (.str x)
  | t => if okd 50 t && t.showable && decide (t.shown.length ≤ sizeLine) then some (.str t.shown) else none
theorem strI_list {ts : List D} {z : D} (h : strI (.list ts) = some z) : okd 50 (.list ts) = true ∧ (PyData.list ts).showable = true ∧ (PyData.list ts).shown.length ≤ sizeLine ∧ z = .str (PyData.list ts).shown := by
  unfold strI at h
  simp only at h
  split at h
  · rename_i hc
    rw [Bool.and_eq_true, Bool.and_eq_true, decide_eq_true_eq] at hc
    cases h
    exact ⟨hc.1.1, hc.1.2, hc.2, rfl⟩
  · cases h
theorem strI_tuple {ts : List D} {z : D} (h : strI (.tuple ts) = some z) : okd 50 (.tuple ts) = true ∧ (PyData.tuple ts).showable = true ∧ (PyData.tuple ts).shown.length ≤ sizeLine ∧ z = .str (PyData.tuple ts).shown := by
  unfold strI at h
  simp only at h
  split at h
  · rename_i hc
    rw [Bool.and_eq_true, Bool.and_eq_true, decide_eq_true_eq] at hc
    cases h
    exact ⟨hc.1.1, hc.1.2, hc.2, rfl⟩
  · cases h
section
variable {X : Cx} {k : Nat}
def rStr (K : PySem.W.Frag) : List V → Hp → VK → Prop := fun xs H Q => ∃ x t z, xs = [x] ∧ Fz K H t x ∧ strI t = some z ∧ Q (valD z) H
theorem cr_str (hr : Mv.Room k X.A) : CallR X (.type "str") (rStr X.K) := by
  intro pins s σ H xs us Q I r h
  obtain ⟨x, t, z, rfl, w, e, q⟩ := h
  obtain ⟨u, rfl, r1⟩ := vals1 r
  have hu := hr.un
  match t, w, e with
  | .none, w, e =>
    simp only [Fz] at w
    subst w
    obtain rfl : u = Value.none := r1
    simp only [strI] at e
    split at e
    · cases e
      exact PySem.P.str_of_none ⟨.str _, H, I.tok _, ⟨_, rfl⟩, q⟩
    · cases e
  | .bool b, w, e =>
    simp only [Fz] at w
    subst w
    obtain rfl : u = Value.bool b := r1
    simp only [strI] at e
    split at e
    · cases e
      exact PySem.P.str_of_bool ⟨.str _, H, I.tok _, ⟨_, rfl⟩, by simpa [PyData.shown, valD] using q⟩
    · cases e
  | .int i, w, e =>
    simp only [Fz] at w
    subst w
    obtain ⟨tk, rfl⟩ := (show ∃ tk, u = Value.int i tk from r1)
    simp only [strI] at e
    split at e
    · rename_i hc
      cases e
      rw [Bool.and_eq_true, Bool.and_eq_true] at hc
      exact PySem.P.str_of_int (by simpa [PyData.showable] using hc.1.2) ⟨.str _, H, I.tok _, ⟨_, rfl⟩, by simpa [PyData.shown, valD] using q⟩
    · cases e
  | .str y, w, e =>
    simp only [Fz] at w
    subst w
    obtain ⟨tk, rfl⟩ := (show ∃ tk, u = Value.str y tk from r1)
    simp only [strI] at e
    cases e
    exact PySem.P.str_of_str ⟨.str _, H, I, ⟨_, rfl⟩, q⟩
  | .list ts, w, e =>
    obtain ⟨ok, hs, hz, rfl⟩ := strI_list e
    obtain ⟨as, ra⟩ := fz_reads I (okd_spec ok).1 w r1
    have hd := (okd_spec ok).2
    cases ra with
    | list h1 h2 h3 h4 =>
      exact str_of_reads (.list h1 h2 h3 h4) hs (PyData.noDict_hsm (noDict_plain _ (okd_spec ok).1)) hr.gd (by omega) (fun _ _ e => e) (fun h' u tk hk => ⟨.str _, H, I.kept hk, ⟨_, rfl⟩, q⟩) hz
  | .tuple ts, w, e =>
    obtain ⟨ok, hs, hz, rfl⟩ := strI_tuple e
    obtain ⟨as, ra⟩ := fz_reads I (okd_spec ok).1 w r1
    have hd := (okd_spec ok).2
    cases ra with
    | tuple h1 h2 h3 h4 =>
      exact str_of_reads (.tuple h1 h2 h3 h4) hs (PyData.noDict_hsm (noDict_plain _ (okd_spec ok).1)) hr.gd (by omega) (fun _ _ e => e) (fun h' u tk hk => ⟨.str _, H, I.kept hk, ⟨_, rfl⟩, q⟩) hz
  | .dict _, w, e => exact absurd e (by simp [strI])
theorem ro_str {K : PySem.W.Frag} : RO1 K (fun x => rStr K [x]) (vw1 strI) := ro1_vw fun H x t z Q w e hf q => ⟨x, t, z, rfl, w, e, q⟩
end
end Mv

set_option Elab.async false
set_option linter.all false
set_option maxRecDepth 100000
set_option maxHeartbeats 2000000
namespace Mv
open PySem PySem.Spec PyProof.Rows L2 LamX
/-! ### lambdas with a parameter: made, called -/
section
variable {X : Cx} {pins : List (Addr × Obj)} {σ : L2.St} {H : Hp} {s : Shared}
abbrev lamQ (X : Cx) : Str := X.env.qual ++ "<lambda>"
abbrev lamO (X : Cx) (params : Arguments) (body : Expr) (scope : Scope) (pm : Value) (c' : Addr) (ctv : Value) : Obj :=
  PySem.W.kla_obj "<lambda>" (lamQ X) params body scope (cloFrom X.env.cells scope.names []) pm c' ctv
end
/-- the lambda's environment -/
abbrev lamE (X : Cx) (scope : Scope) (L f c' : Addr) : PySem.Env := PySem.W.envX (lamQ X) scope L f (.ref c') (cloFrom X.env.cells scope.names [])
/-- what a lambda's scope must be: one parameter x, captured names, globals -/
structure LamSc (X : Cx) (params : Arguments) (body : Expr) (scope : Scope) (x : Str) : Prop where
  kind : scope.kind = .function
  co : scope.isCoroutine = false
  gen : scope.isGenerator = false
  nocell : ∀ y ∈ scope.names, y.2 ≠ .cell
  par : scope.names.lookup x = some .local
  free : ∀ y ∈ scope.names, y.2 = .free → X.env.scope.names.lookup y.1 = some .cell ∨ X.env.scope.names.lookup y.1 = some .free
  dflt : defaultsOf params X.env = ([], [])
  bind : ∀ (cl : List (Str × Addr)) (pm cv ctv v : Value), bindArgs (PySem.W.kla_fn "<lambda>" (lamQ X) params body scope cl pm cv ctv) ⟨[v], []⟩ = pure [(x, v)]
theorem LamSc.has {X : Cx} {params : Arguments} {body : Expr} {scope : Scope} {x : Str} (L : LamSc X params body scope x) (ok : X.Ok) : ∀ y ∈ scope.names, y.2 = .free → ∃ c, X.env.cells.lookup y.1 = some c := fun y hy e =>
  (L.free y hy e).elim (fun k => ok.has _ (.inl k)) fun k => ok.has _ (.inr k)
/-! ### a lambda as a key -/
structure KeyLam (X : Cx) (params : Arguments) (body : Expr) (scope : Scope) (x : Str) (kf : Mv.Env → D → Option D) : Prop where
  sc : LamSc X params body scope x
  run : ∀ {pins : List (Addr × Obj)} {σ : L2.St} {S H : Hp} {s : Shared} {env : Mv.Env} {fp : Nat → List Addr} {f c' : Addr} {pm ctv v : Value} {t d : D} {y : V}, Inv X pins σ H s → Rel X.K env σ S H fp →
    s.heap.get? f = some (lamO X params body scope pm c' ctv) → H c' = some (CodeO c' (lamQ X)) → kf env t = some d → Fz X.K S t y → RelV y v → ∀ (h : Heap) (tk : Nat), (∀ b o, s.heap.get? b = some o → h.get? b = some o) →
    wpAny (model X.prog X.w) X.A.in1.in1 (call (.ref f) [v]) (PySem.W.KeyPure d { s with heap := h, toks := tk }) (fun _ _ => False) { s with heap := h, toks := tk }
/-- the item's part k of the item n of what slot i holds -/
def kIx2 (i : Nat) (k : Int) : Mv.Env → D → Option D := fun env t => match t, env[i]? with
  | .int n, some (some (.leaf (.list rs))) => if 0 ≤ n ∧ n < 16777216 then (rs[n.toNat]?).bind fun u => match u with
    | .tuple cs => (cs[k.toNat]?).bind fun w => match w with
      | .int m => some (.int m)
      | _ => none
    | _ => none
    else none
  | .int n, some (some (.leaf (.tuple rs))) => if 0 ≤ n ∧ n < 16777216 then (rs[n.toNat]?).bind fun u => match u with
    | .tuple cs => (cs[k.toNat]?).bind fun w => match w with
      | .int m => some (.int m)
      | _ => none
    | _ => none
    else none
  | _, _ => none
/-! ### sorted(xs, key=lambda x: ..) -/
def kInt (kf : Mv.Env → D → Option D) (env : Mv.Env) (t : D) : Int := match kf env t with
  | some (.int m) => m
  | _ => 0
def kIntB (kf : Mv.Env → D → Option D) (env : Mv.Env) (t : D) : Bool := match kf env t with
  | some (.int _) => true
  | _ => false
def sortKE (kf : Mv.Env → D → Option D) (f : ESem) : ESem := fun env => (f env).bind fun p => (lstO p.1).bind fun ts => if ts.all (kIntB kf p.2) = true ∧ ts.length ≤ 16000000 then some (.ls (ts.mergeSort fun a b => decide (kInt kf p.2 a ≤ kInt kf p.2 b)), p.2) else none
def EachFz (K : PySem.W.Frag) (S : Hp) (u : Value) (t : D) : Prop := ∃ y, Fz K S t y ∧ RelV y u
def lamScB (sc scope : Scope) (x : Str) : Bool :=
  decide (scope.kind = .function) && !scope.isCoroutine && !scope.isGenerator && scope.names.all (fun y => !decide (y.2 = .cell)) && decide (scope.names.lookup x = some .local) &&
    scope.names.all fun y => !decide (y.2 = .free) || decide (sc.names.lookup y.1 = some .cell) || decide (sc.names.lookup y.1 = some .free)
/-! ### the plain logic -/
theorem w_sortK {kf : Mv.Env → D → Option D} {f : ESem} {env : Mv.Env} {Q : O → Mv.Env → Prop} : We (sortKE kf f) env Q ↔ We f env fun o e => ∃ ts, lstO o = some ts ∧ (∀ t ∈ ts, kIntB kf e t = true) ∧ ts.length ≤ 16000000 ∧ Q (.ls (ts.mergeSort fun a b => decide (kInt kf e a ≤ kInt kf e b))) e := by
  unfold We sortKE
  cases f env with
  | none => exact Iff.rfl
  | some p =>
    obtain ⟨o, e⟩ := p
    show O2 ((lstO o).bind _) Q ↔ ∃ ts, lstO o = some ts ∧ _
    cases lstO o with
    | none => exact ⟨fun h => h.elim, fun ⟨_, h, _⟩ => nomatch h⟩
    | some ts =>
      simp only [Option.bind_some, Option.some.injEq]
      constructor
      · intro h
        split at h
        · rename_i hc
          exact ⟨ts, rfl, List.all_eq_true.mp hc.1, hc.2, h⟩
        · exact h.elim
      · rintro ⟨_, rfl, h1, h2, q⟩
        rw [if_pos ⟨List.all_eq_true.mpr h1, h2⟩]
        exact q
end Mv

set_option Elab.async false
set_option linter.all false
set_option maxRecDepth 100000
set_option maxHeartbeats 2000000
namespace Mv
open PySem PySem.Spec PyProof.Rows L2
/-! ### xs[i] op= e -/
section
variable {X : Cx}
/-- place[i] op= e: index and value read quietly -/
def augP (i : Nat) (p : Pth) (fi fe : ESem) (gx g : O → O → Option O) : SSem := fun env => match env[i]? with
  | some (some root) => (getP root p).bind fun o => (fi env).bind fun a => match a.1 with
    | .leaf ti => (gx o (.leaf ti)).bind fun x => match x with
      | .leaf t => (fe a.2).bind fun b => (g (.leaf t) b.1).bind fun z => match z with
        | .leaf d => (gSet o (.leaf ti) d).map fun o' => (.nx, env.set i (some (putP root p o')))
        | _ => none
      | _ => none
    | _ => none
  | _ => none
theorem w_augP {i : Nat} {p : Pth} {fi fe : ESem} {gx g : O → O → Option O} {env : Mv.Env} {Q : Out → Mv.Env → Prop} : Ws (augP i p fi fe gx g) env Q ↔ Sl env i fun r => Gp r p fun o => We fi env fun a e1 => Le a fun ti => Op2 gx o (.leaf ti) fun x => Le x fun t => We fe e1 fun b _ => Op2 g (.leaf t) b fun z => Le z fun d => Op3 gSet o (.leaf ti) d fun o' => Q .nx (env.set i (some (putP r p o'))) := by
  unfold Ws augP Sl Gp We Op2 Op3 Le
  cases h : env[i]? with
  | none => rfl
  | some o =>
    cases o with
    | none => rfl
    | some r =>
      simp only [Option.join_some, o1_s]
      cases h2 : getP r p with
      | none => rfl
      | some z =>
        simp only [Option.bind_some, o1_s]
        cases h3 : fi env with
        | none => rfl
        | some a =>
          obtain ⟨a, e1⟩ := a
          simp only [Option.bind_some, o2_s]
          cases a with
          | leaf ti =>
            simp only
            cases h4 : gx z (.leaf ti) with
            | none => rfl
            | some x =>
              simp only [Option.bind_some, o1_s]
              cases x with
              | leaf t =>
                simp only
                cases h5 : fe e1 with
                | none => rfl
                | some b =>
                  simp only [Option.bind_some, o2_s]
                  cases h6 : g (.leaf t) b.1 with
                  | none => rfl
                  | some zz =>
                    simp only [Option.bind_some, o1_s]
                    cases zz with
                    | leaf d =>
                      simp only
                      cases h7 : gSet z (.leaf ti) d <;> rfl
                    | _ => rfl
              | _ => rfl
          | _ => rfl
end
/-! ### min, max of data -/
def minL (ts : List D) : D := match ts with
  | [] => .none
  | x :: r => PySem.W.minD x r
def maxL (ts : List D) : D := match ts with
  | [] => .none
  | x :: r => PySem.W.maxD x r
def rBest (K : PySem.W.Frag) (b : List D → D) : List V → Hp → VK → Prop := fun xs H Q => ∃ a vs ts, xs = [.ref a] ∧ SqL K H a vs ∧ FzL K H ts vs ∧ ts ≠ [] ∧ PySem.W.AlikeAll ts ∧ ts.all (okd 49) = true ∧ ∀ v, (∃ i : Nat, vs[i]? = some v ∧ ts[i]? = some (b ts)) → Q v H
section
variable {X : Cx}
open Classical in
noncomputable def oBest (b : List D → D) (a : O) : Option O := (lstO a).bind fun ts => if ts ≠ [] ∧ PySem.W.AlikeAll ts ∧ ts.all (okd 49) = true ∧ b ts ∈ ts then some (.leaf (b ts)) else none
end
end Mv

set_option Elab.async false
set_option linter.all false
set_option maxRecDepth 100000
set_option maxHeartbeats 2000000
namespace Mv
open PySem PySem.Spec PyProof.Rows L2
/-- a list or a tuple of numbers -/
def SqN (o : D) (ns : List Int) : Prop := o = .list (ns.map .int) ∨ o = .tuple (ns.map .int)
section
variable {o : D} {ns : List Int} {Q : O → Prop}
theorem SqN.itm (h : SqN o ns) {P : List D → Prop} : Itm (.leaf o) P ↔ P (ns.map .int) := by rcases h with rfl | rfl <;> exact Iff.rfl
theorem SqN.list (h : SqN o ns) : Op1 oList (.leaf o) Q ↔ Q (.ls (ns.map .int)) := by
  rcases h with rfl | rfl
  · exact p_listl
  · exact p_listt
theorem SqN.len (h : SqN o ns) : Op1 oLen (.leaf o) Q ↔ Q (.leaf (.int ns.length)) := by
  rcases h with rfl | rfl
  · rw [p_lenl, List.length_map]
  · rw [p_lent, List.length_map]
theorem SqN.ix (h : SqN o ns) {i : Int} : Op2 oIx (.leaf o) (.leaf (.int i)) Q ↔ At (ns.map .int) i fun d => Q (.leaf d) := by
  rcases h with rfl | rfl
  · exact p_ixl
  · exact p_ixt
theorem SqN.sort (h : SqN o ns) (hl : ns.length ≤ 1000000) : Op1 oSort (.leaf o) Q ↔ Q (.ls ((isort ns).map .int)) := by
  rcases h with rfl | rfl
  · exact p_sortl hl
  · exact p_sortt hl
end
/-! slices -/
section
variable {ts : List D} {i j : Int} {P : O → Prop}
end
/-! the least, the greatest of data -/
open Classical in
/-! places sorted by where their runs end -/
def fR (rs : List Rg) (i : Int) : Rg := rs.getD i.toNat (0, 0)
theorem fR_at {rs : List Rg} {i : Int} (h0 : 0 ≤ i) (h1 : i < rs.length) : rs[i.toNat]? = some (fR rs i) := by
  unfold fR
  rw [List.getD_eq_getElem?_getD, List.getElem?_eq_getElem (by omega)]
  rfl
def srt (rs : List Rg) : List Int := (rgI 0 rs.length).mergeSort fun a b => decide ((fR rs a).2 ≤ (fR rs b).2)
theorem SqP.at {rs : List Rg} {i : Int} {P : D → Prop} (h0 : 0 ≤ i) (h1 : i < rs.length) (k : P (pD (fR rs i))) : At (rs.map pD) i P := by
  rw [at_int h0, List.getElem?_map, fR_at h0 h1]
  exact k
end Mv

set_option Elab.async false
set_option linter.all false
set_option maxRecDepth 100000
set_option maxHeartbeats 2000000
namespace Mv
open PySem PySem.Spec PyProof.Rows L2
/-! ### is True, is False -/
def tB : D → Option Bool
  | .bool b => some b
  | _ => none
def isBI (neg : Bool) : D → D → Option D
  | t, .bool b => some (.bool ((tB t == some b) != neg))
  | _, _ => none
def rIsB (neg : Bool) : R2 := fun x y H Q => ∃ b, y = .bl b ∧ Q (.bl (decide (x = .bl b) != neg)) H
section
variable {X : Cx}
end
section
variable {Q : O → Prop} {neg b c : Bool} {t : D}
theorem p_isB : Op2 (vw2 (isBI neg)) (.leaf t) (.leaf (.bool b)) Q ↔ Q (.leaf (.bool ((tB t == some b) != neg))) := Iff.rfl
end
/-! ### sum of a list or a tuple -/
def rSumA (K : PySem.W.Frag) : List V → Hp → VK → Prop := fun vs H Q => ∃ (a : Addr) (ns : List Int), vs = [V.ref a] ∧ (SqL K H a (ns.map V.int) ∨ SqT K H a (ns.map V.int)) ∧ Q (.int ns.sum) H
section
variable {X : Cx}
end
def oSumA (a : O) : Option O := (seqO a).bind fun ts => (intsD ts).map fun ns => .leaf (.int ns.sum)
section
variable {ns : List Int} {Q : O → Prop}
theorem p_sumA : Op1 oSumA (.ls (ns.map .int)) Q ↔ Q (.leaf (.int ns.sum)) := by
  simp [Op1, oSumA, seqO, lstO, tupO, intsD_map, O1]
theorem p_sumAl : Op1 oSumA (.leaf (.list (ns.map .int))) Q ↔ Q (.leaf (.int ns.sum)) := by
  simp [Op1, oSumA, seqO, lstO, tupO, intsD_map, O1]
theorem p_sumAt : Op1 oSumA (.leaf (.tuple (ns.map .int))) Q ↔ Q (.leaf (.int ns.sum)) := by
  simp [Op1, oSumA, seqO, lstO, tupO, intsD_map, O1]
theorem SqN.sum {o : D} (h : SqN o ns) : Op1 oSumA (.leaf o) Q ↔ Q (.leaf (.int ns.sum)) := by
  rcases h with rfl | rfl
  · exact p_sumAl
  · exact p_sumAt
end
end Mv

set_option Elab.async false
set_option linter.all false
set_option maxRecDepth 100000
set_option maxHeartbeats 2000000
namespace Mv
open PySem PySem.Spec PyProof.Rows L2
/-! ### str of things whose leaves are short -/
/-- signs that stand for themselves or nearly -/
def SgS (s : Str) : Prop := ∀ c ∈ s.cps.toList, c < 1000000
mutual
def lz : D → Bool
  | .none => true
  | .bool _ => true
  | .int i => decide (i.natAbs < 10 ^ 200)
  | .str x => x.cps.toList.all fun c => decide (c < 1000000)
  | .list xs => lzA xs
  | .tuple xs => lzA xs
  | .dict _ => false
def lzA : List D → Bool
  | [] => true
  | x :: xs => lz x && lzA xs
end
theorem lzA_iff : ∀ {xs : List D}, lzA xs = true ↔ ∀ x ∈ xs, lz x = true
  | [] => by simp [lzA]
  | x :: xs => by
    rw [lzA, Bool.and_eq_true, lzA_iff]
    simp
theorem int_short {i : Int} (h : i.natAbs < 10 ^ 200) : (PyData.shown (.int i)).length ≤ 211 := by
  have e := int_text_length_le10 (k := 200) (by decide) h
  show (Str.ofString (toString i)).length ≤ 211
  rw [PySem.ofString_length]
  omega
mutual
theorem lz_short : ∀ {d : D}, lz d = true → d.leavesShort 211 = true
  | .none, _ => by simp only [PyData.leavesShort]
  | .bool _, _ => by simp only [PyData.leavesShort]
  | .int i, h => by
    rw [lz] at h
    simp only [PyData.leavesShort, decide_eq_true_eq]
    exact int_short (of_decide_eq_true h)
  | .str x, h => by
    rw [lz, List.all_eq_true] at h
    simp only [PyData.leavesShort, List.all_eq_true]
    intro c hc
    have := of_decide_eq_true (h c hc)
    exact decide_eq_true (Nat.lt_trans this (by decide))
  | .list xs, h => by
    rw [lz] at h
    simp only [PyData.leavesShort]
    exact lz_shortA h
  | .tuple xs, h => by
    rw [lz] at h
    simp only [PyData.leavesShort]
    exact lz_shortA h
  | .dict _, h => by simp [lz] at h
theorem lz_shortA : ∀ {ds : List D}, lzA ds = true → PyData.leavesShortAll 211 ds = true
  | [], _ => by simp only [PyData.leavesShortAll]
  | d :: ds, h => by
    rw [lzA, Bool.and_eq_true] at h
    simp only [PyData.leavesShortAll, Bool.and_eq_true]
    exact ⟨lz_short h.1, lz_shortA h.2⟩
end
mutual
theorem lz_show : ∀ {d : D}, lz d = true → d.showable = true
  | .none, _ => by simp only [PyData.showable]
  | .bool _, _ => by simp only [PyData.showable]
  | .str _, _ => by simp only [PyData.showable]
  | .int i, h => by
    rw [lz] at h
    have := of_decide_eq_true h
    simp only [PyData.showable, decide_eq_true_eq]
    by_cases h0 : i.natAbs = 0
    · rw [h0]; decide
    · rw [Nat.log2_lt h0]
      exact Nat.lt_trans this (by decide)
  | .list xs, h => by
    rw [lz] at h
    simp only [PyData.showable]
    exact lz_showA h
  | .tuple xs, h => by
    rw [lz] at h
    simp only [PyData.showable]
    exact lz_showA h
  | .dict _, h => by simp [lz] at h
theorem lz_showA : ∀ {ds : List D}, lzA ds = true → PyData.showableAll ds = true
  | [], _ => by simp only [PyData.showableAll]
  | d :: ds, h => by
    rw [lzA, Bool.and_eq_true] at h
    simp only [PyData.showableAll, Bool.and_eq_true]
    exact ⟨lz_show h.1, lz_showA h.2⟩
end
/-- a thing no deeper than n, of short leaves, of bulk at most N -/
structure StO (n N : Nat) (t : D) : Prop where
  d : okd n t = true
  l : lz t = true
  b : t.bulk ≤ N
theorem StO.le {n m N M : Nat} {t : D} (h : StO n N t) (h1 : n ≤ m) (h2 : N ≤ M) : StO m M t := ⟨okd_le h1 h.d, h.l, Nat.le_trans h.b h2⟩
theorem sto_int {n : Nat} {i : Int} (h : i.natAbs < 10 ^ 200) : StO n 0 (.int i) := ⟨by cases n <;> rfl, decide_eq_true h, by simp [PyData.bulk]⟩
theorem bulkA_le : ∀ {ts : List D} {N : Nat}, (∀ t ∈ ts, t.bulk ≤ N) → PyData.bulkAll ts ≤ ts.length * (N + 1)
  | [], _, _ => by simp [PyData.bulkAll]
  | t :: ts, N, h => by
    have h1 := h t List.mem_cons_self
    have h2 := bulkA_le (ts := ts) fun u hu => h u (List.mem_cons_of_mem _ hu)
    simp only [PyData.bulkAll, List.length_cons, Nat.add_mul, Nat.one_mul]
    omega
theorem sto_list {n N L : Nat} {ts : List D} (h : ∀ t ∈ ts, StO n N t) (hl : ts.length ≤ L) : StO (n + 1) (L * (N + 1)) (.list ts) := by
  refine ⟨?_, ?_, ?_⟩
  · rw [okd, List.all_eq_true]
    exact fun t ht => (h t ht).d
  · rw [lz]
    exact lzA_iff.mpr fun t ht => (h t ht).l
  · simp only [PyData.bulk]
    exact Nat.le_trans (bulkA_le fun t ht => (h t ht).b) (Nat.mul_le_mul_right _ hl)
/-- the parts of a tuple, one by one -/
structure StA (n N : Nat) (ts : List D) : Prop where
  d : ∀ t ∈ ts, okd n t = true
  l : lzA ts = true
  b : PyData.bulkAll ts ≤ N
theorem sta_nil {n N : Nat} : StA n N [] := ⟨(by intro t h; cases h), rfl, by simp [PyData.bulkAll]⟩
theorem sta_cons {n N M : Nat} {t : D} {ts : List D} (h : StO n N t) (h2 : StA n M ts) : StA n (N + 1 + M) (t :: ts) := by
  refine ⟨fun u hu => ?_, ?_, ?_⟩
  · rcases List.mem_cons.mp hu with rfl | hu
    · exact h.d
    · exact h2.d u hu
  · rw [lzA, h.l, h2.l]
    rfl
  · have := h.b
    have := h2.b
    simp only [PyData.bulkAll]
    omega
theorem sto_tup {n N : Nat} {ts : List D} (h : StA n N ts) : StO (n + 1) N (.tuple ts) := ⟨by rw [okd, List.all_eq_true]; exact h.d, by rw [lz]; exact h.l, by simp only [PyData.bulk]; exact h.b⟩
def strV (t : D) : Str := match strI t with
  | some (.str z) => z
  | _ => ⟨#[]⟩
theorem strI_ok {t : D} (h : StO 50 75000 t) : strI t = some (.str (strV t)) := by
  have h1 := PyData.shown_le_bulk 211 (by decide) t (lz_short h.l)
  have h2 := h.b
  have h3 := sizeLine_eq
  have h4 : 213 * t.bulk ≤ 213 * 75000 := Nat.mul_le_mul_left _ h2
  have h5 : t.shown.length ≤ sizeLine := by omega
  have e : ∃ z, strI t = some (.str z) := by
    have hs := lz_show h.l
    have hl := h.l
    unfold strI
    have hc : (okd 50 t && t.showable && decide (t.shown.length ≤ sizeLine)) = true := by rw [h.d, hs, decide_eq_true h5]; rfl
    cases t with
    | dict _ => simp [lz] at hl
    | str x => exact ⟨x, rfl⟩
    | none => exact ⟨_, if_pos hc⟩
    | bool _ => exact ⟨_, if_pos hc⟩
    | int _ => exact ⟨_, if_pos hc⟩
    | list _ => exact ⟨_, if_pos hc⟩
    | tuple _ => exact ⟨_, if_pos hc⟩
  obtain ⟨z, e⟩ := e
  unfold strV
  rw [e]
theorem p_str {a : O} {t : D} {Q : O → Prop} (ha : a.frz = some t) (h : StO 50 75000 t) : Op1 (vw1 strI) a Q ↔ Q (.leaf (.str (strV t))) := by
  unfold Op1 vw1
  rw [ha, Option.bind_some, strI_ok h]
  exact Iff.rfl
theorem sto_pD {p : Rg} (h1 : p.1.natAbs < 10 ^ 200) (h2 : p.2.natAbs < 10 ^ 200) {n : Nat} : StO (n + 1) 2 (pD p) := by
  unfold pD
  exact (sto_tup (sta_cons (sto_int h1) (sta_cons (sto_int h2) sta_nil)) : StO (n + 1) (0 + 1 + (0 + 1 + 0)) _)
theorem sto_pairs {ps : List Rg} {L n : Nat} (h : ∀ p ∈ ps, p.1.natAbs < 10 ^ 200 ∧ p.2.natAbs < 10 ^ 200) (hl : ps.length ≤ L) : StO (n + 2) (L * 3) (.list (ps.map pD)) :=
  sto_list (fun t ht => by
    obtain ⟨p, hp, rfl⟩ := List.mem_map.mp ht
    exact sto_pD (h p hp).1 (h p hp).2) (by rw [List.length_map]; exact hl)
end Mv

set_option Elab.async false
set_option linter.all false
set_option maxRecDepth 100000
set_option maxHeartbeats 2000000
namespace Mv
open PySem PySem.Spec PyProof.Rows L2 PySem.W
/-! ### sorted(set(numbers)), of any count -/
section
variable {P : Program} {w : World} {A : Around} {E : Value → Shared → Prop} {s : Shared} {a : Addr}
end
section
variable {X : Cx}
def rSetSortL (K : PySem.W.Frag) : V → Hp → VK → Prop := fun x H Q => ∃ (l : Addr) (ns : List Int), x = .ref l ∧ L2.SqL K H l (ns.map V.int) ∧ ns.length ≤ 4000 ∧ ∀ p, H p = none → Q (.ref p) (upd H p (.lst ((setI ns).map V.int)))
def oSetSortL (o : O) : Option O := (lstO o).bind fun ts => if ts.length ≤ 4000 then (intsD ts).map fun ns => .ls ((setI ns).map .int) else none
end
section
variable {ns : List Int} {Q : O → Prop}
end
end Mv

set_option Elab.async false
set_option linter.all false
set_option maxRecDepth 100000
set_option maxHeartbeats 2000000
/-! zip of two things, each a list or a tuple -/
namespace Mv
open PySem PySem.Spec PyProof.Rows L2 RZ
open PySem.Sem (wp)
/-- a list or a tuple -/
inductive Sk where
  | l
  | t
namespace Sk
def It (k : Sk) (h : Heap) (i a : Addr) (n : Nat) : Prop := match k with
  | .l => h.IsListIter i a n
  | .t => h.IsTupleIter i a n
def Sq (k : Sk) (h : Heap) (a : Addr) (xs : Array Value) : Prop := match k with
  | .l => h.IsList a xs
  | .t => h.IsTuple a xs
variable {k : Sk} {h h' : Heap} {i a b : Addr} {n : Nat} {xs : Array Value}
section
variable {prog : Program} {w : World} {A : Around} {s : Shared} {E : Value → Shared → Prop}
theorem step {x : Value} {Q : Value → Shared → Prop} (hi : It k s.heap i a n) (hs : Sq k s.heap a xs) (hx : xs[n]? = some x)
    (q : ∀ g, It k g i a (n + 1) → Heap.SameBut i s.heap g → Q x { s with heap := g }) : wpAny (model prog w) A (Builtin.SmallTypes.nextOf (.ref i)) Q E s := by
  cases k
  · exact wpAny_nextOf_list_item hi hs hx q
  · exact nextOf_tuple_item hi hs hx q
theorem stop {Q : Value → Shared → Prop} (hh : A.handled = none) (hi : It k s.heap i a n) (hs : Sq k s.heap a xs) (hx : xs[n]? = none)
    (q : ∀ g e, Heap.ExtBut i s.heap g → (∃ o, g.get? e = some o ∧ o.cls = .type "StopIteration") → E (.ref e) { s with heap := g }) : wpAny (model prog w) A (Builtin.SmallTypes.nextOf (.ref i)) Q E s := by
  cases k
  · exact wpAny_nextOf_list_end hh hi hs hx q
  · exact nextOf_tuple_end hh hi hs hx q
end
end Sk
section
variable {prog : Program} {w : World} {A : Around} {E : Value → Shared → Prop} {s : Shared} {ka kb : Sk} {zc ti to ia ib la lb : Addr} {m n : Nat} {us vs : Array Value} {u v p q : Value}
theorem a_free {Q : Bool → Shared → Prop} (gz : IsZip s.heap zc ti to .none) (h : Q true s) : wpAny (model prog w) A (Builtin.SmallTypes.ownedTupleIsFree (.ref zc)) Q E s := by
  rw [Builtin.SmallTypes.ownedTupleIsFree]
  exact wpAny_bind (wpAny_field gz rfl (x := .none) rfl (wpAny_pure h))
end
/-- a list or a tuple of the told heap -/
def SqX (k : Sk) (K : PySem.W.Frag) (H : Hp) (a : Addr) (xs : List V) : Prop := match k with
  | .l => SqL K H a xs
  | .t => SqT K H a xs
section
variable {X : Cx} {pins : List (Addr × Obj)} {σ : L2.St} {H : Hp} {s : Shared} {k : Sk} {a : Addr} {xs ys : List V}
theorem SqX.get (q : SqX k X.K H a xs) (I : Inv X pins σ H s) : ∃ its : List Value, Vals xs its ∧ k.Sq s.heap a its.toArray := by
  cases k
  · obtain ⟨its, r, pl, _⟩ := I.list q
    exact ⟨its, r, pl.isList⟩
  · obtain ⟨its, r, pl, _⟩ := I.tuple q
    exact ⟨its, r, pl⟩
theorem SqX.one (q : SqX k X.K H a xs) (q2 : SqX k X.K H a ys) (I : Inv X pins σ H s) : xs = ys := by
  cases k
  · exact I.list_inj q q2
  · exact I.tuple_inj q q2
end
/-- what a zip of the things at a and b tells, turn by turn -/
def ItX (ka kb : Sk) (K : PySem.W.Frag) (a b : Addr) : L2.It where
  go i H := ∃ xs ys x y, SqX ka K H a xs ∧ SqX kb K H b ys ∧ xs[i]? = some x ∧ ys[i]? = some y
  yld i H v H' := ∃ T x y, v = .ref T ∧ H T = none ∧ H' = upd H T (.tup [x, y]) ∧ (∀ xs, SqX ka K H a xs → xs[i]? = some x) ∧ ∀ ys, SqX kb K H b ys → ys[i]? = some y
  stop i H := ∃ xs ys, SqX ka K H a xs ∧ SqX kb K H b ys ∧ (xs.length ≤ i ∨ ys.length ≤ i)
namespace Sk
def nm (k : Sk) : String := match k with
  | .l => "list_iterator"
  | .t => "tuple_iterator"
abbrev ob (k : Sk) (a : Addr) : Obj := { cls := .type k.nm, data := .fields #[.ref a, .int 0 0] }
end Sk
section
variable {prog : Program} {w : World} {A : Around} {s : Shared} {E : Value → Shared → Prop}
abbrev zk1 (ka : Sk) (h : Heap) (la : Addr) : Heap := h.push (ka.ob la)
abbrev zk2 (ka kb : Sk) (h : Heap) (la lb : Addr) : Heap := (zk1 ka h la).push (kb.ob lb)
abbrev zk3 (ka kb : Sk) (h : Heap) (la lb : Addr) : Heap := (zk2 ka kb h la lb).push { cls := .type "tuple", data := .seq #[.ref h.objs.size, .ref (zk1 ka h la).objs.size] }
abbrev zk4 (ka kb : Sk) (h : Heap) (la lb : Addr) : Heap := (zk3 ka kb h la lb).push { cls := .type "tuple", data := .seq #[.none, .none] }
abbrev zk5 (ka kb : Sk) (h : Heap) (la lb : Addr) : Heap := (zk4 ka kb h la lb).push { cls := .type "zip", data := .fields #[.none, .bool false, .bool false, .ref (zk2 ka kb h la lb).objs.size, .ref (zk3 ka kb h la lb).objs.size] }
end
section
def iZipX (K : PySem.W.Frag) (ta : TA) : TI := fun σ H R => ta σ H fun vs H1 => ∃ ka kb a b xs ys, vs = [.ref a, .ref b] ∧ SqX ka K H1 a xs ∧ SqX kb K H1 b ys ∧ R (ItX ka kb K a b) H1
end
/-! in the layer -/
/-- the items of a list or a tuple -/
def sqO (o : O) : Option (List D) := (lstO o).or (tupO o)
def zipXO (a b : O) : Option (List D) := (sqO a).bind fun ts => (sqO b).map fun us => zipD ts us
def zipXI (g : ASem) : ISem := fun env => (g env).bind fun p => match p.1 with
  | [a, b] => (zipXO a b).map fun ts => (ts, p.2)
  | _ => none
section
variable {K : PySem.W.Frag} {S0 H0 : Hp} {ka kb : Sk} {a b : Addr} {ts us : List D} {vs ws : List V}
def KeepX (k : Sk) (K : PySem.W.Frag) (S0 H0 : Hp) (A : List Addr) (a : Addr) (vs : List V) : Prop := ∀ S H, Same S0 S → Same S H → (∀ b ∈ A, H b = H0 b) → SqX k K H a vs
end
section
variable {X : Cx} {e e2 : Expr} {g : ASem} {q : Bool} {pos p tpos : Pos} {elts : List Expr} {kk : Nat}
end
/-! the plain side -/
def ZpX (os : List O) (Q : List D → Prop) (_h : Hold Q := ⟨⟩) : Prop := match os with
  | [a, b] => O1 (zipXO a b) Q
  | _ => False
section
variable {env : Env} {g : ASem} {ts us : List D} {Q : List D → Prop}
theorem w_zipX {Q : List D → Env → Prop} : Wi (zipXI g) env Q ↔ Wa g env fun os e => ZpX os fun ts => Q ts e := by
  unfold Wi Wa zipXI ZpX
  cases h : g env with
  | none => exact Iff.rfl
  | some p =>
    obtain ⟨os, e⟩ := p
    simp only [Option.bind_some, o2_s]
    match os with
    | [] => exact Iff.rfl
    | [o] => exact Iff.rfl
    | [a, b] =>
      simp only
      cases zipXO a b <;> exact Iff.rfl
    | _ :: _ :: _ :: _ => exact Iff.rfl
theorem zpx_ll : ZpX [.leaf (.list ts), .leaf (.list us)] Q ↔ Q (zipD ts us) := Iff.rfl
theorem zpx_lo : ZpX [.leaf (.list ts), .ls us] Q ↔ Q (zipD ts us) := Iff.rfl
theorem zpx_ol : ZpX [.ls ts, .leaf (.list us)] Q ↔ Q (zipD ts us) := Iff.rfl
theorem zpx_oo : ZpX [.ls ts, .ls us] Q ↔ Q (zipD ts us) := Iff.rfl
theorem zpx_tt : ZpX [.leaf (.tuple ts), .leaf (.tuple us)] Q ↔ Q (zipD ts us) := Iff.rfl
theorem zpx_lt : ZpX [.leaf (.list ts), .leaf (.tuple us)] Q ↔ Q (zipD ts us) := Iff.rfl
theorem zpx_ot : ZpX [.ls ts, .leaf (.tuple us)] Q ↔ Q (zipD ts us) := Iff.rfl
theorem zpx_tl : ZpX [.leaf (.tuple ts), .leaf (.list us)] Q ↔ Q (zipD ts us) := Iff.rfl
theorem zpx_to : ZpX [.leaf (.tuple ts), .ls us] Q ↔ Q (zipD ts us) := Iff.rfl
end
end Mv

set_option Elab.async false
set_option linter.all false
set_option maxRecDepth 100000
set_option maxHeartbeats 2000000
namespace Mv
open PySem PySem.Spec PyProof.Rows L2 PySem.W
/-! ### sorted(set(numbers)) of a list or a tuple -/
section
variable {X : Cx}
def rSetSortX (K : PySem.W.Frag) : V → Hp → VK → Prop := fun x H Q => ∃ (k : Sk) (l : Addr) (ns : List Int), x = .ref l ∧ SqX k K H l (ns.map V.int) ∧ ns.length ≤ 4000 ∧ ∀ p, H p = none → Q (.ref p) (upd H p (.lst ((setI ns).map V.int)))
def oSetSortX (o : O) : Option O := (sqO o).bind fun ts => if ts.length ≤ 4000 then (intsD ts).map fun ns => .ls ((setI ns).map .int) else none
end
section
variable {ns : List Int} {Q : O → Prop}
end
/-! ### a truth and a number -/
def addBI : D → D → Option D
  | .bool b, .int j => some (.int ((if b = true then 1 else 0) + j))
  | _, _ => none
def oAddX (a b : O) : Option O := (oAdd a b).or (vw2 addBI a b)
def rAddX (K : PySem.W.Frag) : R2 := fun x y H Q => ((rI0 (fun i j => .int (i + j)) x y H Q ∨ rAddS x y H Q) ∨ (rCatL K x y H Q ∨ L2.rCatA K x y H Q)) ∨ ∃ b j, x = .bl b ∧ y = .int j ∧ Q (.int ((if b = true then 1 else 0) + j)) H
section
variable {i j : Int} {b : Bool} {Q : O → Prop}
theorem p_addXi : Op2 oAddX (.leaf (.int i)) (.leaf (.int j)) Q ↔ Q (.leaf (.int (i + j))) := Iff.rfl
theorem p_addXb : Op2 oAddX (.leaf (.bool b)) (.leaf (.int j)) Q ↔ Q (.leaf (.int ((if b = true then 1 else 0) + j))) := Iff.rfl
end
end Mv

set_option Elab.async false
set_option linter.all false
set_option maxRecDepth 100000
set_option maxHeartbeats 2000000
namespace Mv
open PySem PySem.Spec PyProof.Rows L2
/-! ### l.index(x) of any frozen things -/
def rIndexF (K : PySem.W.Frag) : V → List V → Hp → VK → Prop := fun x xs H Q => ∃ (a : Addr) (vs : List V) (y : V) (d : D) (ts : List D) (j : Nat), x = V.ref a ∧ xs = [y] ∧ LsAt K H a vs ∧ FzL K H ts vs ∧ Fz K H d y ∧ okd 50 d = true ∧ ts.all (okd 49) = true ∧
  (∃ z, ts[j]? = some z ∧ PyData.eqv z d = true) ∧ (∀ (m : Nat) (z' : D), m < j → ts[m]? = some z' → PyData.eqv z' d = false) ∧ Q (.int (j : Nat)) H
section
variable {X : Cx}
/-- the place of the first like it -/
def fstEq (d : D) : List D → Option Nat
  | [] => none
  | t :: ts => if PyData.eqv t d = true then some 0 else (fstEq d ts).map (· + 1)
def indexI : D → D → Option D
  | .list ts, d => if (okd 50 d && ts.all (okd 49)) = true then (fstEq d ts).map fun j => .int (j : Nat) else none
  | _, _ => none
variable {o e : Expr} {f1 f2 : ESem} {q1 q2 m1 m2 ok : Bool} {apos cpos : Pos}
end
/-! the plain rule -/
def firstAt (d : D) (ts : List D) (P : Nat → Prop) : Prop := ∃ j, fstEq d ts = some j ∧ P j
/-! ### the target x[..], x a name, the index not quiet -/
def gSubU (i : Nat) (fi : ESem) (g : O → O → D → Option O) : GSem := fun t env => match env[i]? with
  | some (some _) => (fi env).bind fun a => match a.2[i]? with
    | some (some root) => (g root a.1 t).map fun o' => a.2.set i (some o')
    | _ => none
  | _ => none
section
variable {X : Cx} {o e : Expr} {i : Nat} {fi : ESem} {q m : Bool} {pos : Pos}
end
theorem w_gSubU {i : Nat} {fi : ESem} {g : O → O → D → Option O} {t : D} {env : Mv.Env} {Q : Mv.Env → Prop} : Wg (gSubU i fi g) t env Q ↔ Sl env i fun _ => We fi env fun a e => Sl e i fun r => Op3 g r a t fun o' => Q (e.set i (some o')) := by
  unfold Wg gSubU Sl We Op3
  cases h : env[i]? with
  | none => rfl
  | some o =>
    cases o with
    | none => rfl
    | some o =>
      simp only [Option.join_some, o1_s]
      cases h3 : fi env with
      | none => rfl
      | some a =>
        simp only [Option.bind_some, o2_s]
        cases h4 : a.2[i]? with
        | none => rfl
        | some o2 =>
          cases o2 with
          | none => rfl
          | some o2 =>
            simp only [Option.join_some, o1_s]
            cases h5 : g o2 a.1 t <;> rfl
end Mv

set_option Elab.async false
set_option linter.all false
set_option maxRecDepth 100000
set_option maxHeartbeats 2000000
namespace Mv
open PySem PySem.Spec PyProof.Rows L2
/-! ### a tuple of things of one's own -/
def mkTup (f : ASem) : ESem := fun env => (f env).bind fun p => if p.1.length ≤ 1000 then some (.tup p.1, p.2) else none
section
variable {X : Cx} {es : List Expr} {f : ASem} {q : Bool} {pos : Pos}
end
/-- a list of things of one's own -/
def mkLso (f : ASem) : ESem := fun env => (f env).bind fun p => if p.1.length ≤ 1000 then some (.lso p.1, p.2) else none
section
variable {X : Cx} {es : List Expr} {f : ASem} {q : Bool} {pos : Pos}
end
/-! ### the part of what is told -/
def ixO (f : ESem) (n : Int) : ESem := fun env => (f env).bind fun p => match p.1 with
  | .tup os => (atI os n).map fun o => (o, p.2)
  | _ => none
section
variable {X : Cx} {e : Expr} {f : ESem} {q m : Bool} {pos : Pos}
end
/-! ### the plain rules -/
section
variable {f : ASem} {env : Mv.Env}
theorem w_mkTup {Q : O → Mv.Env → Prop} : We (mkTup f) env Q ↔ Wa f env fun os e => os.length ≤ 1000 ∧ Q (.tup os) e := by
  unfold We Wa mkTup
  cases h : f env with
  | none => exact Iff.rfl
  | some p =>
    simp only [Option.bind_some, o2_s]
    by_cases hl : p.1.length ≤ 1000
    · rw [if_pos hl]
      exact ⟨fun h => ⟨hl, h⟩, fun h => h.2⟩
    · rw [if_neg hl]
      exact ⟨fun h => h.elim, fun h => hl h.1⟩
end
section
variable {a b c o' : O} {r : List O} {Q : O → Prop}
theorem ix_0 {n : Nat} : ixN (n + 1) 0 = some 0 := by
  unfold ixN
  rw [if_pos (by decide), if_pos (by omega)]
  rfl
theorem ix_1 {n : Nat} : ixN (n + 1 + 1) 1 = some 1 := by
  unfold ixN
  rw [if_pos (by decide), if_pos (by omega)]
  rfl
theorem ix_2 {n : Nat} : ixN (n + 1 + 1 + 1) 2 = some 2 := by
  unfold ixN
  rw [if_pos (by decide), if_pos (by omega)]
  rfl
theorem gp_t0 : Gp (.tup (a :: r)) (.ix 0) Q ↔ Q a := by
  show O1 (atI (a :: r) 0) Q ↔ _
  unfold atI
  rw [List.length_cons, ix_0]
  exact Iff.rfl
theorem gp_t1 : Gp (.tup (a :: b :: r)) (.ix 1) Q ↔ Q b := by
  show O1 (atI (a :: b :: r) 1) Q ↔ _
  unfold atI
  rw [List.length_cons, List.length_cons, ix_1]
  exact Iff.rfl
theorem gp_t2 : Gp (.tup (a :: b :: c :: r)) (.ix 2) Q ↔ Q c := by
  show O1 (atI (a :: b :: c :: r) 2) Q ↔ _
  unfold atI
  rw [List.length_cons, List.length_cons, List.length_cons, ix_2]
  exact Iff.rfl
theorem gp_l0 : Gp (.lso (a :: r)) (.ix 0) Q ↔ Q a := by
  show O1 (atI (a :: r) 0) Q ↔ _
  unfold atI
  rw [List.length_cons, ix_0]
  exact Iff.rfl
theorem gp_l1 : Gp (.lso (a :: b :: r)) (.ix 1) Q ↔ Q b := by
  show O1 (atI (a :: b :: r) 1) Q ↔ _
  unfold atI
  rw [List.length_cons, List.length_cons, ix_1]
  exact Iff.rfl
theorem pt_t0 : putP (.tup (a :: r)) (.ix 0) o' = .tup (o' :: r) := by
  show O.tup (putI (a :: r) 0 o') = _
  unfold putI
  rw [List.length_cons, ix_0]
  rfl
theorem pt_t1 : putP (.tup (a :: b :: r)) (.ix 1) o' = .tup (a :: o' :: r) := by
  show O.tup (putI (a :: b :: r) 1 o') = _
  unfold putI
  rw [List.length_cons, List.length_cons, ix_1]
  rfl
theorem pt_t2 : putP (.tup (a :: b :: c :: r)) (.ix 2) o' = .tup (a :: b :: o' :: r) := by
  show O.tup (putI (a :: b :: c :: r) 2 o') = _
  unfold putI
  rw [List.length_cons, List.length_cons, List.length_cons, ix_2]
  rfl
theorem pt_l0 : putP (.lso (a :: r)) (.ix 0) o' = .lso (o' :: r) := by
  show O.lso (putI (a :: r) 0 o') = _
  unfold putI
  rw [List.length_cons, ix_0]
  rfl
theorem pt_l1 : putP (.lso (a :: b :: r)) (.ix 1) o' = .lso (a :: o' :: r) := by
  show O.lso (putI (a :: b :: r) 1 o') = _
  unfold putI
  rw [List.length_cons, List.length_cons, ix_1]
  rfl
end
section
variable {t u v : D} {ts us : List D} {os : List O} {r : Mv.Env} {A B : Prop} {Q : D → Prop}
theorem isl_tup : (O.tup os).isLeaf = false := rfl
theorem isl_lso : (O.lso os).isLeaf = false := rfl
theorem wo_tup : Wo (some (.tup os) :: r) 0 A B ↔ A := Iff.rfl
theorem wo_lso : Wo (some (.lso os) :: r) 0 A B ↔ A := Iff.rfl
theorem fr_t2 : Mv.Fr (.tup [.leaf t, .leaf u]) Q ↔ Q (.tuple [t, u]) := Iff.rfl
theorem fr_t3 : Mv.Fr (.tup [.leaf t, .ls ts, .ls us]) Q ↔ Q (.tuple [t, .list ts, .list us]) := Iff.rfl
theorem fr_l2 : Mv.Fr (.lso [.ls ts, .ls us]) Q ↔ Q (.list [.list ts, .list us]) := Iff.rfl
end
end Mv

set_option Elab.async false
set_option linter.all false
set_option maxRecDepth 100000
set_option maxHeartbeats 2000000
namespace Mv
open PySem PySem.Spec PyProof.Rows L2
/-! ### max(xs, key=f), min(xs, key=f), f a def that tells a pair of numbers -/
def kfP (j : Int) : D → Option (Int × Int)
  | .tuple [.int n, .tuple [.int b, .int e]] => some (if j = 0 then b else e, n)
  | _ => none
structure KeyP (P : Program) (w : World) (K : PySem.W.Frag) (mg : Str → Option Value) (base : Heap) (x : Str) (j : Int) : Prop where
  ex : ∃ f, mg x = some (.ref f) ∧ PySem.W.keepIn K (.ref f) = true ∧
    ∀ (A : Around) (s : Shared) (v : Value) (t : D) (p : Int × Int) (as : List Addr) (Q E : Value → Shared → Prop), A.depth < recursionLimit → (∀ b o, base.get? b = some o → s.heap.get? b = some o) → s.heap.NoLimit → Reads s.heap v t as → kfP j t = some p →
      (∀ a h tk, s.heap.objs.size ≤ a → (∀ b o, s.heap.get? b = some o → h.get? b = some o) → (∃ t1 t2, IsTup h a #[.int p.1 t1, .int p.2 t2]) → Q (.ref a) { s with heap := h, toks := tk }) →
      wpAny (model P w) A (call (.ref f) [v]) Q E s
section
variable {P : Program} {w : World} {K : PySem.W.Frag} {mg : Str → Option Value} {base : Heap} {x qual a : Str} {params : Arguments} {body : List Stmt} {scope : Scope} {f : Addr} {fd : FuncData} {j : Int}
end
/-! ### the best by a key -/
def keyK (j : Int) (t : D) : D := match kfP j t with
  | some p => .tuple [.int p.1, .int p.2]
  | none => .none
def bestK (mx : Bool) (j : Int) : List D → D
  | [] => .none
  | t :: r => r.foldl (fun a y => if (if mx = true then PySem.W.dataLt (keyK j a) (keyK j y) else PySem.W.dataLt (keyK j y) (keyK j a)) = true then y else a) t
def bestKE (mx : Bool) (j : Int) (f : ESem) : ESem := fun env => (f env).bind fun p => (lstO p.1).bind fun ts => if ts ≠ [] ∧ (ts.all fun t => (kfP j t).isSome) = true then some (.leaf (bestK mx j ts), p.2) else none
theorem w_bestK {mx : Bool} {j : Int} {f : ESem} {env : Mv.Env} {Q : O → Mv.Env → Prop} : We (bestKE mx j f) env Q ↔ We f env fun o e => ∃ ts, lstO o = some ts ∧ ts ≠ [] ∧ (∀ t ∈ ts, ∃ p, kfP j t = some p) ∧ Q (.leaf (bestK mx j ts)) e := by
  unfold We bestKE
  cases f env with
  | none => exact Iff.rfl
  | some p =>
    obtain ⟨o, e⟩ := p
    show O2 ((lstO o).bind _) Q ↔ ∃ ts, lstO o = some ts ∧ _
    cases lstO o with
    | none => exact ⟨fun h => h.elim, fun ⟨_, h, _⟩ => nomatch h⟩
    | some ts =>
      simp only [Option.bind_some, Option.some.injEq]
      constructor
      · intro h
        split at h
        · rename_i hc
          exact ⟨ts, rfl, hc.1, fun t ht => Option.isSome_iff_exists.mp (List.all_eq_true.mp hc.2 t ht), h⟩
        · exact h.elim
      · rintro ⟨_, rfl, h1, h2, q⟩
        rw [if_pos ⟨h1, List.all_eq_true.mpr fun t ht => Option.isSome_iff_exists.mpr (h2 t ht)⟩]
        exact q
end Mv

set_option Elab.async false
set_option linter.all false
set_option maxRecDepth 100000
set_option maxHeartbeats 2000000
namespace Mv
open PySem PySem.Spec PyProof.Rows L2
/-! ### `a or b` of things other than truths -/
def truO : O → Option Bool
  | .leaf .none => some false
  | o => (lstO o).map fun ts => !ts.isEmpty
def orV (f1 f2 : ESem) : ESem := fun env => (f1 env).bind fun p => match truO p.1 with
  | some true => some p
  | some false => f2 p.2
  | none => none
section
variable {X : Cx} {a b : Expr} {rest : List Expr} {f1 f2 : ESem} {q1 q2 m1 m2 : Bool} {pos : Pos}
end
theorem w_orV {f1 f2 : ESem} {env : Mv.Env} {Q : O → Mv.Env → Prop} : We (orV f1 f2) env Q ↔ We f1 env fun o e => ∃ b, truO o = some b ∧ Br b (Q o e) (We f2 e Q) := by
  unfold We orV
  cases h : f1 env with
  | none => exact Iff.rfl
  | some p =>
    simp only [Option.bind_some, o2_s]
    obtain ⟨o, e⟩ := p
    simp only
    cases ht : truO o with
    | none => exact ⟨fun h => h.elim, fun ⟨_, h, _⟩ => nomatch h⟩
    | some b =>
      cases b with
      | true => exact ⟨fun h => ⟨true, rfl, h⟩, fun ⟨b, e, h⟩ => by cases e; exact h⟩
      | false => exact ⟨fun h => ⟨false, rfl, h⟩, fun ⟨b, e, h⟩ => by cases e; exact h⟩
end Mv

set_option Elab.async false
set_option linter.all false
set_option maxRecDepth 100000
set_option maxHeartbeats 4000000
/-! texts: a module's constants, methods of texts, sets of signs, signs gone through -/
namespace Mv
open PySem PySem.Spec PyProof.Rows L2
section
variable {X : Cx} {x z : Str} {i : Int} {pos : Pos}
end
/-! ### a text's method of some arguments -/
def strMA (f1 : ESem) (g : ASem) (G : Str → List O → Option D) : ESem := fun env => (f1 env).bind fun p => match p.1 with
  | .leaf (.str a) => (g p.2).bind fun r => (G a r.1).bind fun z => if flatD z = true then some (.leaf z, r.2) else none
  | _ => none
def RMA (K : PySem.W.Frag) (r : V → List V → Hp → VK → Prop) (G : Str → List O → Option D) : Prop :=
  ∀ S H a ys os fr z Q, Same S H → OwA K S H os ys fr → G a os = some z → flatD z = true → Q (valD z) H → r (.str a) ys H Q
def gFind3 (a : Str) (os : List O) : Option D := match os with
  | [.leaf (.str b), .leaf (.int i)] => some (.int (Txt.find3 a b i))
  | _ => none
section
variable {X : Cx} {o e : Expr} {es : List Expr} {f1 : ESem} {g : ASem} {q1 q2 m1 : Bool}
end
/-! ### set(text) -/
section
variable {P : Program} {w : World} {A : Around} {E : Value → Shared → Prop} {s : Shared}
set_option maxRecDepth 100000 in
set_option maxHeartbeats 3200000 in
end
theorem ddp_len {α : Type} [DecidableEq α] {l m : List α} (h : m.Nodup) (e : ∀ x, x ∈ m ↔ x ∈ l) : m.length = (ddp l).length := by
  have d := ddp_ok l
  exact ((List.perm_ext_iff_of_nodup h d.1).mpr fun x => (e x).trans (d.2.1 x).symm).length_eq
section
variable {P : Program} {w : World} {κ : Type} [DecidableEq κ] {d : Kd P w κ}
theorem SetG.len {h : Heap} {a : Addr} {l : List κ} {n : Nat} (R : SetG d h a (fun j => decide (j ∈ l)) n) : n = (ddp l).length := by
  obtain ⟨o, es, ep, t, ho, hex, hd, g, nd, hm, hb, hf, hn, hr, hl⟩ := R
  rw [← ddp_len nd fun x => by rw [← hm x, decide_eq_true_iff], List.length_map, Array.length_toList]
  exact hn.symm
end
section
variable {X : Cx}
def rLenSetX (K : PySem.W.Frag) : V → Hp → VK → Prop := fun x H Q => (∃ z : Str, x = .str z ∧ z.cps.size ≤ 4000 ∧ Q (.int ((ddp (z.cps.toList.map chS)).length : Nat)) H)
  ∨ (∃ (l : Addr) (ns : List Int), x = .ref l ∧ SqL K H l (ns.map V.int) ∧ ns.length ≤ 4000 ∧ Q (.int ((ddp ns).length : Nat)) H)
  ∨ ∃ (l : Addr) (ns : List Str), x = .ref l ∧ SqL K H l (ns.map V.str) ∧ ns.length ≤ 4000 ∧ Q (.int ((ddp ns).length : Nat)) H
def oLenSetX (o : O) : Option O := match o with
  | .leaf (.str z) => if z.cps.size ≤ 4000 then some (.leaf (.int ((ddp (z.cps.toList.map chS)).length : Nat))) else none
  | o => (lstO o).bind fun ts => if ts.length ≤ 4000 then (match intsD ts with
    | some ns => some (.leaf (.int ((ddp ns).length : Nat)))
    | none => (strsD ts).map fun xs => .leaf (.int ((ddp xs).length : Nat))) else none
end
/-! ### the signs of a text gone through -/
def txtI (m : Bool) (f : ESem) : ISem := fun env => (f env).bind fun p => match p.1 with
  | .leaf (.str x) => some ((x.cps.toList.map chS).map .str, p.2)
  | _ => none
section
variable {X : Cx} {tg e : Expr} {f : ESem} {q m : Bool}
end
/-! ### the plain side -/
def Jm (G : Str → List O → Option D) (a : Str) (os : List O) (Q : D → Prop) (_h : Hold Q := ⟨⟩) : Prop := O1 (G a os) fun z => flatD z = true ∧ Q z
theorem w_strMA {f1 : ESem} {g : ASem} {G : Str → List O → Option D} {env : Mv.Env} {Q : O → Mv.Env → Prop} : We (strMA f1 g G) env Q ↔ We f1 env fun o e => Sv o fun a => Wa g e fun os e2 => Jm G a os fun z => Q (.leaf z) e2 := by
  unfold We strMA Sv Jm Wa
  cases h : f1 env with
  | none => exact Iff.rfl
  | some p =>
    obtain ⟨o, e⟩ := p
    simp only [Option.bind_some, o2_s]
    cases o with
    | leaf t =>
      cases t with
      | str a =>
        dsimp only
        cases h2 : g e with
        | none => exact Iff.rfl
        | some r =>
          simp only [Option.bind_some, o2_s]
          cases h3 : G a r.1 with
          | none => exact Iff.rfl
          | some z => by_cases h4 : flatD z = true <;> simp [h4, o1_s, o2_s, o2_n]
      | _ => exact Iff.rfl
    | _ => exact Iff.rfl
def Txi (o : O) (Q : List D → Prop) (_h : Hold Q := ⟨⟩) : Prop := match o with
  | .leaf (.str x) => Q ((x.cps.toList.map chS).map .str)
  | _ => False
theorem txi_s {x : Str} {Q : List D → Prop} : Txi (.leaf (.str x)) Q ↔ Q ((x.cps.toList.map chS).map .str) := Iff.rfl
theorem w_txtI {m : Bool} {f : ESem} {env : Mv.Env} {Q : List D → Mv.Env → Prop} : Wi (txtI m f) env Q ↔ We f env fun o e => Txi o fun ts => Q ts e := by
  unfold Wi We txtI Txi
  cases h : f env with
  | none => exact Iff.rfl
  | some p =>
    obtain ⟨o, e⟩ := p
    simp only [Option.bind_some, o2_s]
    cases o with
    | leaf t => cases t <;> exact Iff.rfl
    | _ => exact Iff.rfl
section
variable {Q : O → Prop} {z : Str} {ns : List Int} {xs : List Str}
/-- one sign in a text -/
theorem occ_one (c : Nat) : (!(Builtin.Str.occurrences z (chS c) 0 z.length 1).isEmpty) = decide (c ∈ z.cps.toList) := PySem.StrLaws.found_one z c
theorem p_inS {c : Nat} : Op2 (vw2 (inI false)) (.leaf (.str (chS c))) (.leaf (.str z)) Q ↔ Q (.leaf (.bool (decide (c ∈ z.cps.toList)))) := by
  rw [← occ_one]
  exact Iff.rfl
theorem p_ninS {c : Nat} : Op2 (vw2 (inI true)) (.leaf (.str (chS c))) (.leaf (.str z)) Q ↔ Q (.leaf (.bool (!decide (c ∈ z.cps.toList)))) := by
  rw [← occ_one]
  exact Iff.rfl
end
end Mv

set_option Elab.async false
set_option linter.all false
set_option maxRecDepth 100000
set_option maxHeartbeats 4000000
/-! zip of a list or a tuple with a text; enumerate over a text -/
namespace Mv
open PySem PySem.Spec PyProof.Rows L2 RZ
open PySem.Sem (wp)
namespace Sk
def dr (k : Sk) {prog : Program} {w : World} {A : Around} (hh : A.handled = none) (it l : Addr) (hne : l ≠ it) (items : Array Value) :
    Draws prog w A it [it, l] items.size (fun i v => items[i]? = some v) (fun i h => k.It h it l i ∧ k.Sq h l items) := match k with
  | .l => Draws.list hh it l hne items
  | .t => Draws.tuple hh it l hne items
end Sk
section
variable {prog : Program} {w : World} {A : Around} {E : Value → Shared → Prop} {s : Shared} {ka : Sk} {zc ti to ia ib la lb : Addr} {m n : Nat} {us : Array Value} {u p q : Value} {x : Str} {tk0 : Tok}
end
/-- what a zip of the thing at a and a text tells, turn by turn -/
def ItS (k : Sk) (K : PySem.W.Frag) (a : Addr) (x : Str) : L2.It where
  go i H := ∃ xs y, SqX k K H a xs ∧ xs[i]? = some y ∧ i < x.cps.size
  yld i H v H' := ∃ T y c, v = .ref T ∧ H T = none ∧ H' = upd H T (.tup [y, .str (chS c)]) ∧ (∀ xs, SqX k K H a xs → xs[i]? = some y) ∧ x.cps[i]? = some c
  stop i H := ∃ xs, SqX k K H a xs ∧ (xs.length ≤ i ∨ x.cps.size ≤ i)
def iZipS (K : PySem.W.Frag) (ta : TA) : TI := fun σ H R => ta σ H fun vs H1 => ∃ k a xs x, vs = [.ref a, .str x] ∧ SqX k K H1 a xs ∧ R (ItS k K a x) H1
/-! in the layer -/
def sgn (x : Str) : List D := (x.cps.toList.map chS).map .str
def zipSO (a b : O) : Option (List D) := match b with
  | .leaf (.str x) => (sqO a).map fun ts => zipD ts (sgn x)
  | _ => none
def zipSI (g : ASem) : ISem := fun env => (g env).bind fun p => match p.1 with
  | [a, b] => (zipSO a b).map fun ts => (ts, p.2)
  | _ => none
section
variable {K : PySem.W.Frag} {S0 H0 : Hp} {k : Sk} {a : Addr} {ts : List D} {vs : List V} {x : Str}
end
section
variable {X : Cx} {e e2 : Expr} {g : ASem} {q : Bool} {pos p tpos : Pos} {elts : List Expr} {kk : Nat}
end
/-! the plain side -/
def ZpS (os : List O) (Q : List D → Prop) (_h : Hold Q := ⟨⟩) : Prop := match os with
  | [a, b] => O1 (zipSO a b) Q
  | _ => False
section
variable {env : Env} {g : ASem} {ts : List D} {x : Str} {Q : List D → Prop}
theorem w_zipS {Q : List D → Env → Prop} : Wi (zipSI g) env Q ↔ Wa g env fun os e => ZpS os fun ts => Q ts e := by
  unfold Wi Wa zipSI ZpS
  cases h : g env with
  | none => exact Iff.rfl
  | some p =>
    obtain ⟨os, e⟩ := p
    simp only [Option.bind_some, o2_s]
    match os with
    | [] => exact Iff.rfl
    | [o] => exact Iff.rfl
    | [a, b] =>
      simp only
      cases zipSO a b <;> exact Iff.rfl
    | _ :: _ :: _ :: _ => exact Iff.rfl
theorem zps_l : ZpS [.leaf (.list ts), .leaf (.str x)] Q ↔ Q (zipD ts (sgn x)) := Iff.rfl
theorem zps_o : ZpS [.ls ts, .leaf (.str x)] Q ↔ Q (zipD ts (sgn x)) := Iff.rfl
end
end Mv

set_option Elab.async false
set_option linter.all false
set_option maxRecDepth 100000
set_option maxHeartbeats 4000000
/-! enumerate over a text -/
namespace Mv
open PySem PySem.Spec PyProof.Rows L2 RZ
open PySem.Sem (wp)
/-- a text, each sign in a new pair -/
def IteS (x : Str) : It :=
  ⟨fun i H => i < x.cps.size, fun i H v H' => ∃ T c, v = .ref T ∧ H T = none ∧ H' = upd H T (.tup [.int (i : Nat), .str (chS c)]) ∧ x.cps[i]? = some c, fun i H => x.cps.size ≤ i⟩
def iEnumS (ta : TA) : TI := fun σ H R => ta σ H fun vs H1 => ∃ x, vs = [.str x] ∧ R (IteS x) H1
def enumS (g : ASem) : ISem := fun env => (g env).bind fun p => match p.1 with
  | [.leaf (.str x)] => some (enumD (sgn x), p.2)
  | _ => none
section
variable {X : Cx} {e : Expr} {g : ASem} {q : Bool} {pos p tpos : Pos} {elts : List Expr} {kk : Nat}
end
/-! the plain side -/
def EnmS (os : List O) (Q : List D → Prop) (_h : Hold Q := ⟨⟩) : Prop := match os with
  | [.leaf (.str x)] => Q (enumD (sgn x))
  | _ => False
theorem w_enumS {g : ASem} {env : Mv.Env} {Q : List D → Mv.Env → Prop} : Wi (enumS g) env Q ↔ Wa g env fun os e => EnmS os fun ts => Q ts e := by
  unfold Wi Wa enumS EnmS
  cases h : g env with
  | none => exact Iff.rfl
  | some p =>
    obtain ⟨os, e⟩ := p
    simp only [Option.bind_some, o2_s]
    match os with
    | [] => exact Iff.rfl
    | [o] =>
      cases o with
      | leaf t => cases t <;> exact Iff.rfl
      | _ => exact Iff.rfl
    | o :: _ :: _ =>
      cases o with
      | leaf t => cases t <;> exact Iff.rfl
      | _ => exact Iff.rfl
theorem enms_s {x : Str} {Q : List D → Prop} : EnmS [.leaf (.str x)] Q ↔ Q (enumD (sgn x)) := Iff.rfl
end Mv

set_option Elab.async false
set_option linter.all false
set_option maxRecDepth 100000
set_option maxHeartbeats 4000000
/-! texts by their signs: the plain rules -/
namespace Mv
open PySem PySem.Spec PyProof.Rows L2
def tx (l : List Nat) : Str := ⟨l.toArray⟩
def txD (l : List Nat) : D := .str (tx l)
theorem tx_l {l : List Nat} : (tx l).cps.toList = l := List.toList_toArray ..
theorem tx_of (z : Str) : z = tx z.cps.toList := by
  cases z
  simp [tx]
theorem tx_inj {a b : List Nat} : tx a = tx b ↔ a = b := ⟨fun h => by have := congrArg (fun z : Str => z.cps.toList) h; simpa only [tx_l] using this, fun h => by rw [h]⟩
theorem tx_len {l : List Nat} : (tx l).length = l.length := by
  rw [str_len, tx_l]
theorem tx_cat {a b : List Nat} : tx a ++ tx b = tx (a ++ b) := by
  rw [tx_of (tx a ++ tx b), str_cat, tx_l, tx_l]
theorem sgn_tx {l : List Nat} : sgn (tx l) = l.map fun c => txD [c] := by
  unfold sgn
  rw [tx_l, List.map_map]
  rfl
section
variable {Q : O → Prop} {l a b : List Nat} {i j : Int} {c : Nat}
theorem p_catX : Op2 oAdd (.leaf (.str (tx a))) (.leaf (.str (tx b))) Q ↔ a.length + b.length ≤ sizeLine ∧ Q (.leaf (.str (tx (a ++ b)))) := by
  rw [p_catS, tx_len, tx_len, tx_cat]
theorem p_inX {z : List Nat} : Op2 (vw2 (inI false)) (.leaf (.str (tx [c]))) (.leaf (.str (tx z))) Q ↔ Q (.leaf (.bool (decide (c ∈ z)))) := by
  have := p_inS (c := c) (z := tx z) (Q := Q)
  rwa [tx_l] at this
theorem p_ninX {z : List Nat} : Op2 (vw2 (inI true)) (.leaf (.str (tx [c]))) (.leaf (.str (tx z))) Q ↔ Q (.leaf (.bool (!decide (c ∈ z)))) := by
  have := p_ninS (c := c) (z := tx z) (Q := Q)
  rwa [tx_l] at this
theorem all_txt {ls : List (List Nat)} {n : Nat} : (ls.map txD).all (okd n) = true := by
  rw [List.all_eq_true]
  intro t ht
  obtain ⟨y, _, rfl⟩ := List.mem_map.mp ht
  cases n <;> rfl
/-- the first place of a sign from a place on -/
def fnd3 (r : List Nat) (c : Nat) (i : Nat) : Int := match (r.drop i).findIdx? (fun d => decide (d = c)) with
  | some k => ((i + k : Nat) : Int)
  | none => -1
theorem txiX {P : List D → Prop} : Txi (.leaf (.str (tx l))) P ↔ P (l.map fun c => txD [c]) := by
  rw [txi_s]
  have := sgn_tx (l := l)
  unfold sgn at this
  rw [this]
theorem zpsX_l {ts : List D} {P : List D → Prop} : ZpS [.leaf (.list ts), .leaf (.str (tx l))] P ↔ P (zipD ts (l.map fun c => txD [c])) := by rw [zps_l, sgn_tx]
theorem zpsX_o {ts : List D} {P : List D → Prop} : ZpS [.ls ts, .leaf (.str (tx l))] P ↔ P (zipD ts (l.map fun c => txD [c])) := by rw [zps_o, sgn_tx]
theorem enmsX {P : List D → Prop} : EnmS [.leaf (.str (tx l))] P ↔ P (enumD (l.map fun c => txD [c])) := by rw [enms_s, sgn_tx]
end
theorem lit_q : ("?" : Str) = tx [63] := by decide +kernel
theorem lit_s : ("*" : Str) = tx [42] := by decide +kernel
theorem lit_o : ("[" : Str) = tx [91] := by decide +kernel
theorem lit_c : ("]" : Str) = tx [93] := by decide +kernel
theorem lit_e : ("" : Str) = tx [] := by decide +kernel
/-- the signs of marks -/
def SGN : List Nat := [97, 98, 99, 100, 101, 102, 103, 104, 105, 106, 107, 108, 109, 110, 111, 112, 113, 114, 115, 116, 117, 118, 119, 120, 121, 122, 48, 49, 50, 51, 52, 53, 54, 55, 56, 57]
theorem lit_sg : ("abcdefghijklmnopqrstuvwxyz0123456789" : Str) = tx SGN := by decide +kernel
end Mv

set_option Elab.async false
set_option linter.all false
set_option maxRecDepth 100000
set_option maxHeartbeats 4000000
/-! readings: their parts -/
namespace Mv
/-- the signs of a choice -/
def okCh (l : List Nat) : Bool := (decide (2 ≤ l.length) && decide (l.length ≤ 6)) && (decide l.Nodup && l.all fun c => decide (c ∈ SGN))
/-- the part at the head -/
def part1 : List Nat → Option (List Nat)
  | [] => none
  | c :: t => if c ∈ SGN ∨ c = 63 ∨ c = 42 then some [c] else if c = 91 then
      (match t.findIdx? (fun d => decide (d = 93)) with
      | none => none
      | some k => if okCh (t.take k) = true then some (91 :: t.take (k + 1)) else none)
    else none
def partsF : Nat → List Nat → Option (List (List Nat))
  | _, [] => some []
  | 0, _ :: _ => none
  | n + 1, c :: t => match part1 (c :: t) with
    | none => none
    | some p => (partsF n ((c :: t).drop p.length)).map (p :: ·)
def partsR (r : List Nat) : Option (List (List Nat)) := partsF r.length r
/-- a part as it stands in a list of parts -/
def PartOk (p : List Nat) : Prop := (∃ c, p = [c] ∧ (c ∈ SGN ∨ c = 63 ∨ c = 42)) ∨ ∃ l, okCh l = true ∧ p = 91 :: (l ++ [93])
end Mv

set_option Elab.async false
set_option linter.all false
set_option maxRecDepth 100000
set_option maxHeartbeats 4000000
/-! lists of texts compared -/
namespace Mv
open PySem PySem.Spec PyProof.Rows L2
theorem eqv_tx {a b : List Nat} : PyData.eqv (txD a) (txD b) = decide (a = b) := by
  unfold txD
  rw [eqv_str]
  by_cases h : a = b
  · subst h; simp
  · rw [decide_eq_false h, decide_eq_false fun z => h (tx_inj.mp z)]
theorem eqv_txs : ∀ {ls ms : List (List Nat)}, PyData.eqvAll (ls.map txD) (ms.map txD) = decide (ls = ms)
  | [], [] => rfl
  | [], b :: ms => rfl
  | a :: ns, [] => rfl
  | a :: ns, b :: ms => by
    show (PyData.eqv (txD a) (txD b) && PyData.eqvAll (ns.map txD) (ms.map txD)) = _
    rw [eqv_txs, eqv_tx]
    by_cases h1 : a = b <;> by_cases h2 : ns = ms <;> simp [h1, h2]
theorem okd_txs {n : Nat} {ls : List (List Nat)} : okd (n + 1) (.list (ls.map txD)) = true := all_txt
theorem eqI_txs {neg : Bool} {ls ms : List (List Nat)} : eqI neg (.list (ls.map txD)) (.list (ms.map txD)) = some (.bool (if neg then !decide (ls = ms) else decide (ls = ms))) := by
  unfold eqI
  rw [okd_txs, okd_txs]
  show some (PyData.bool (if neg then !PyData.eqvAll (ls.map txD) (ms.map txD) else PyData.eqvAll (ls.map txD) (ms.map txD))) = _
  rw [eqv_txs]
section
variable {o o2 : O} {ls ms : List (List Nat)} {Q : O → Prop}
theorem p_eqTx (h : o.frz = some (.list (ls.map txD))) (h2 : o2.frz = some (.list (ms.map txD))) : Op2 (vw2 (eqI false)) o o2 Q ↔ Q (.leaf (.bool (decide (ls = ms)))) := vw2_of h h2 eqI_txs rfl
theorem p_neTx (h : o.frz = some (.list (ls.map txD))) (h2 : o2.frz = some (.list (ms.map txD))) : Op2 (vw2 (eqI true)) o o2 Q ↔ Q (.leaf (.bool (!decide (ls = ms)))) := vw2_of h h2 eqI_txs rfl
theorem p_eqTx0 : Op2 (vw2 (eqI false)) (.ls (ls.map txD)) (.ls []) Q ↔ Q (.leaf (.bool (decide (ls = [])))) := p_eqTx (ms := []) rfl rfl
theorem p_neTx0 : Op2 (vw2 (eqI true)) (.ls (ls.map txD)) (.ls []) Q ↔ Q (.leaf (.bool (!decide (ls = [])))) := p_neTx (ms := []) rfl rfl
theorem p_eqTxl0 : Op2 (vw2 (eqI false)) (.leaf (.list (ls.map txD))) (.ls []) Q ↔ Q (.leaf (.bool (decide (ls = [])))) := p_eqTx (ms := []) rfl rfl
theorem p_neTxl0 : Op2 (vw2 (eqI true)) (.leaf (.list (ls.map txD))) (.ls []) Q ↔ Q (.leaf (.bool (!decide (ls = [])))) := p_neTx (ms := []) rfl rfl
end
end Mv

set_option Elab.async false
set_option linter.all false
set_option maxRecDepth 100000
set_option maxHeartbeats 4000000
/-! a choice of two fresh things -/
namespace Mv
open PySem PySem.Spec PyProof.Rows L2
end Mv

set_option Elab.async false
set_option linter.all false
set_option maxRecDepth 100000
set_option maxHeartbeats 4000000
/-! the fewest slips: their mathematics -/
namespace Mv
/-- does a sign slip -/
def slp (p : List Nat) (c : Nat) : Bool := !decide (p = [63]) && !decide (c ∈ p)
def addS (a : Option Int) (b : Bool) : Option Int := a.map (· + if b then 1 else 0)
def mnO : Option Int → Option Int → Option Int
  | l, none => l
  | none, some s => some s
  | some l, some s => some (if s < l then s else l)
def lostF : Option Int → List (Option Int) → List (Option Int)
  | _, [] => []
  | l, s :: r => mnO l s :: lostF (mnO l s) r
def signF (p : List Nat) (f : List (Option Int)) (m : List Nat) : List (Option Int) := none :: List.zipWith (fun s c => addS s (slp p c)) f m
def stepF (p m : List Nat) (f : List (Option Int)) : List (Option Int) := if p = [42] then lostF none f else signF p f m
def fwd (m : List Nat) : List (List Nat) → List (Option Int) → List (Option Int)
  | [], f => f
  | p :: r, f => fwd m r (stepF p m f)
def f0 (m : List Nat) : List (Option Int) := some 0 :: List.replicate m.length none
def slipsL (ps : List (List Nat)) (m : List Nat) : Option Int := ((fwd m ps (f0 m))[m.length]?).getD none
/-- how many slips there can be -/
def okS (n : Int) : Option Int → Prop
  | none => True
  | some i => 0 ≤ i ∧ i ≤ n
/-! from the end on -/
/-- the least of some -/
def mnL : List (Option Int) → Option Int
  | [] => none
  | s :: r => mnO s (mnL r)
/-- the same, of the parts turned round and the signs turned round -/
def bwd : List (List Nat) → List Nat → Option Int
  | [], m => if m = [] then some 0 else none
  | p :: r, m => if p = [42] then mnL ((List.range (m.length + 1)).map fun k => bwd r (m.take k)) else match m.getLast? with
    | none => none
    | some c => addS (bwd r m.dropLast) (slp p c)
theorem mnO_none {a : Option Int} : mnO none a = a := by cases a <;> rfl
theorem mnO_none' {a : Option Int} : mnO a none = a := by cases a <;> rfl
def tab (r : List (List Nat)) (m : List Nat) : List (Option Int) := (List.range (m.length + 1)).map fun k => bwd r (m.take k)
end Mv

set_option Elab.async false
set_option linter.all false
set_option maxRecDepth 100000
set_option maxHeartbeats 4000000
/-! slips kept by how many are left; the last of a list, of a text -/
namespace Mv
open PySem PySem.Spec PyProof.Rows L2
section
variable {Q P : O → Prop} {l : List Nat} {c : Nat} {ts : List D} {d : D}
end
theorem isl_dctS {kts : List (List Key × D)} : (dctS kts).isLeaf = false := rfl
theorem wo_dctS {kts : List (List Key × D)} {r : Env} {A B : Prop} : Wo (some (dctS kts) :: r) 0 A B ↔ A := Iff.rfl
theorem nodup_in {α : Type} [DecidableEq α] : ∀ {l g : List α}, l.Nodup → (∀ x ∈ l, x ∈ g) → l.length ≤ g.length
  | [], _, _, _ => Nat.zero_le _
  | a :: r, g, h, hs => by
    obtain ⟨h1, h2⟩ := List.nodup_cons.mp h
    have ha := hs a List.mem_cons_self
    have := nodup_in (l := r) (g := g.erase a) h2 fun x hx => by
      have hne : x ≠ a := fun e => h1 (e ▸ hx)
      exact (List.mem_erase_of_ne hne).mpr (hs x (List.mem_cons_of_mem _ hx))
    rw [List.length_erase_of_mem ha] at this
    have := List.length_pos_of_mem ha
    rw [List.length_cons]
    omega
theorem putL_keys {κ : Type} [DecidableEq κ] {k : κ} {d : D} {kvs : List (κ × D)} : (putL kvs k d).map (·.1) = if k ∈ kvs.map (·.1) then kvs.map (·.1) else kvs.map (·.1) ++ [k] := by
  unfold putL
  have e : (kvs.any fun kv => decide (kv.1 = k)) = decide (k ∈ kvs.map (·.1)) := by
    rw [Bool.eq_iff_iff, List.any_eq_true, decide_eq_true_eq, List.mem_map]
    constructor
    · rintro ⟨x, h1, h2⟩
      exact ⟨x, h1, by simpa using h2⟩
    · rintro ⟨x, h1, h2⟩
      exact ⟨x, h1, by simpa using h2⟩
  rw [e]
  by_cases h : k ∈ kvs.map (·.1)
  · rw [decide_eq_true h, if_pos rfl, if_pos h, List.map_map]
    refine List.map_congr_left fun kv _ => ?_
    show (if kv.1 = k then (kv.1, d) else kv).1 = kv.1
    split <;> rfl
  · rw [decide_eq_false h, if_neg Bool.false_ne_true, if_neg h, List.map_append]
    rfl
/-- what is known of parts and signs -/
def kyS (i j : Nat) : List Key := [.inl (i : Int), .inl (j : Int)]
theorem kyS_inj {i j i2 j2 : Nat} (h : kyS i j = kyS i2 j2) : i = i2 ∧ j = j2 := by
  unfold kyS at h
  simp at h
  omega
structure KnS (ps : List (List Nat)) (m : List Nat) (kts : List (List Key × D)) : Prop where
  nd : (kts.map (·.1)).Nodup
  dm : ∀ k ∈ kts.map (·.1), ∃ i j : Nat, i ≤ ps.length ∧ j ≤ m.length ∧ k = kyS i j
  ok : ∀ (i j : Nat) v, lkK kts (kyS i j) = some v → v = optD (bwd (ps.take i).reverse (m.take j))
theorem KnS.nil {ps : List (List Nat)} {m : List Nat} : KnS ps m [] := ⟨List.nodup_nil, (fun k h => nomatch h), fun i j v h => nomatch h⟩
theorem KnS.len {ps : List (List Nat)} {m : List Nat} {kts : List (List Key × D)} (h : KnS ps m kts) : kts.length ≤ (ps.length + 1) * (m.length + 1) := by
  have := nodup_in (g := ((List.range (ps.length + 1)).map fun i => (List.range (m.length + 1)).map fun j => kyS i j).flatten) h.nd fun k hk => by
    obtain ⟨i, j, h1, h2, rfl⟩ := h.dm k hk
    refine List.mem_flatten.mpr ⟨_, List.mem_map.mpr ⟨i, List.mem_range.mpr (by omega), rfl⟩, List.mem_map.mpr ⟨j, List.mem_range.mpr (by omega), rfl⟩⟩
  rw [List.length_map, List.length_flatten, List.map_map] at this
  have e : ((List.range (ps.length + 1)).map (List.length ∘ fun i => (List.range (m.length + 1)).map fun j => kyS i j)) = List.replicate (ps.length + 1) (m.length + 1) := by
    rw [List.eq_replicate_iff]
    refine ⟨by rw [List.length_map, List.length_range], fun b hb => ?_⟩
    obtain ⟨i, _, rfl⟩ := List.mem_map.mp hb
    show ((List.range (m.length + 1)).map _).length = _
    rw [List.length_map, List.length_range]
  rw [e, List.sum_replicate_nat] at this
  exact this
theorem KnS.put {ps : List (List Nat)} {m : List Nat} {kts : List (List Key × D)} {i j : Nat} (h : KnS ps m kts) (hi : i ≤ ps.length) (hj : j ≤ m.length) : KnS ps m (putL kts (kyS i j) (optD (bwd (ps.take i).reverse (m.take j)))) := by
  refine ⟨?_, fun k hk => ?_, fun i2 j2 v hv => ?_⟩
  · rw [putL_keys]
    split
    · exact h.nd
    · rename_i hn
      rw [List.nodup_append]
      exact ⟨h.nd, List.nodup_cons.mpr ⟨List.not_mem_nil, List.nodup_nil⟩, fun a ha b hb e => hn (by rw [List.mem_singleton.mp hb] at e; exact e ▸ ha)⟩
  · rw [putL_keys] at hk
    split at hk
    · exact h.dm k hk
    · rcases List.mem_append.mp hk with z | z
      · exact h.dm k z
      · exact ⟨i, j, hi, hj, List.mem_singleton.mp z⟩
  · rw [lkK_put] at hv
    split at hv
    · rename_i e
      obtain ⟨rfl, rfl⟩ := kyS_inj e
      cases hv
      rfl
    · exact h.ok i2 j2 v hv
/-- the least of those that are numbers -/
def numsO (L : List (Option Int)) : List Int := L.filterMap id
end Mv

set_option Elab.async false
set_option linter.all false
set_option maxRecDepth 100000
set_option maxHeartbeats 4000000
/-! list.pop() -/
namespace Mv
open PySem PySem.Spec PyProof.Rows L2
section
variable {ts : List D} {t : D} {P : O → D → Prop}
theorem gPop_last : gPop (.ls (ts ++ [t])) [] = some (.ls ts, t) := by
  unfold gPop
  simp only [List.length_append, List.length_singleton, Nat.add_sub_cancel, List.getElem?_append_right (Nat.le_refl _), Nat.sub_self, List.dropLast_concat]
  rfl
theorem p_pop : OpM gPop (.ls (ts ++ [t])) [] P ↔ P (.ls ts) t := by
  unfold OpM
  rw [gPop_last]
  exact Iff.rfl
theorem p_popS : (gPop (.ls (ts ++ [t])) []).isSome = true ↔ True := by
  rw [gPop_last]
  exact ⟨fun _ => trivial, fun _ => rfl⟩
end
end Mv

set_option Elab.async false
set_option linter.all false
set_option maxRecDepth 100000
set_option maxHeartbeats 4000000
/-! slips with a lost run more, with an unread sign; list.pop(i) -/
namespace Mv
open PySem PySem.Spec PyProof.Rows L2
def leO : Option Int → Option Int → Prop
  | _, none => True
  | none, some _ => False
  | some x, some y => x ≤ y
theorem leO_refl : ∀ {a : Option Int}, leO a a
  | none => trivial
  | some _ => Int.le_refl _
def LeL : List (Option Int) → List (Option Int) → Prop
  | [], [] => True
  | a :: r, b :: s => leO a b ∧ LeL r s
  | _, _ => False
theorem LeL.refl : ∀ {f : List (Option Int)}, LeL f f
  | [] => trivial
  | _ :: _ => ⟨leO_refl, LeL.refl⟩
theorem LeL.get : ∀ {f g : List (Option Int)}, LeL f g → ∀ {k : Nat}, leO ((f[k]?).getD none) ((g[k]?).getD none)
  | [], [], _, k => by simp [leO]
  | a :: r, b :: s, h, 0 => h.1
  | a :: r, b :: s, h, k + 1 => by
    rw [List.getElem?_cons_succ, List.getElem?_cons_succ]
    exact h.2.get
  | [], _ :: _, h, _ => h.elim
  | _ :: _, [], h, _ => h.elim
section
variable {ts : List D} {i : Int}
end
end Mv

set_option Elab.async false
set_option linter.all false
set_option maxRecDepth 100000
set_option maxHeartbeats 4000000
/-! the fewest slips of all ways -/
namespace Mv
/-- all ways to put at most so many into so many places -/
def wyA (t : Int) : Nat → List (List Int)
  | 0 => [[]]
  | n + 1 => ((wyA t n).map fun w => (List.range (t + 1 - w.sum).toNat).map fun (k : Nat) => w ++ [(k : Int)]).flatten
def wys (t : Int) (n : Nat) : List (List Int) := (wyA t n).filter fun w => decide (w.sum = t)
/-- a way gone: where it ends and with how many slips -/
def runW (m : List Nat) : List (List Nat) → List Int → Int → Int → Int × Int
  | [], _, a, s => (a, s)
  | p :: r, cs, a, s => if p = [42] then runW m r cs.tail (a + cs.headD 0) s else runW m r cs (a + 1) (s + if slp p (m.getD a.toNat 0) = true then 1 else 0)
def stars (ps : List (List Nat)) : Nat := (ps.filter fun p => decide (p = [42])).length
/-- what can be reached -/
def trP (m p : List Nat) (P : Nat → Int → Prop) : Nat → Int → Prop := fun j s => if p = [42] then ∃ i, i ≤ j ∧ P i s else ∃ i s0, j = i + 1 ∧ P i s0 ∧ s = s0 + if slp p (m.getD i 0) = true then 1 else 0
def trL (m : List Nat) : List (List Nat) → (Nat → Int → Prop) → Nat → Int → Prop
  | [], P => P
  | p :: r, P => trL m r (trP m p P)
/-- the fewest slips stand for what can be reached -/
def RepP (n : Nat) (f : List (Option Int)) (P : Nat → Int → Prop) : Prop := f.length = n + 1 ∧ ∀ j ≤ n, match f[j]? with
  | some (some v) => P j v ∧ ∀ s, P j s → v ≤ s
  | _ => ∀ s, ¬P j s
/-- the least of some that can be had -/
def LeastP (a : Option Int) (P : Int → Prop) : Prop := match a with
  | some v => P v ∧ ∀ s, P s → v ≤ s
  | none => ∀ s, ¬P s
theorem RepP.at {n : Nat} {f : List (Option Int)} {P : Nat → Int → Prop} (h : RepP n f P) {j : Nat} (hj : j ≤ n) : ∃ a, f[j]? = some a ∧ LeastP a (P j) := by
  have h1 := h.1
  have h2 := h.2 j hj
  have hl : j < f.length := by omega
  rw [List.getElem?_eq_getElem hl] at h2 ⊢
  refine ⟨_, rfl, ?_⟩
  cases e : f[j] with
  | none => rw [e] at h2; exact h2
  | some v => rw [e] at h2; exact h2
theorem LeastP.or {a b : Option Int} {P R S : Int → Prop} (ha : LeastP a P) (hb : LeastP b R) (hs : ∀ s, S s ↔ P s ∨ R s) : LeastP (mnO a b) S := by
  cases a with
  | none =>
    rw [mnO_none]
    cases b with
    | none => exact fun s h => ((hs s).mp h).elim (ha s) (hb s)
    | some v => exact ⟨(hs v).mpr (.inr hb.1), fun s h => ((hs s).mp h).elim (fun z => (ha s z).elim) (hb.2 s)⟩
  | some u => cases b with
    | none =>
      rw [mnO_none']
      exact ⟨(hs u).mpr (.inl ha.1), fun s h => ((hs s).mp h).elim (ha.2 s) (fun z => (hb s z).elim)⟩
    | some v =>
      have h1 := ha.2
      have h2 := hb.2
      show LeastP (some (if v < u then v else u)) S
      split
      · exact ⟨(hs v).mpr (.inr hb.1), fun s h => ((hs s).mp h).elim (fun z => by have := h1 s z; omega) (h2 s)⟩
      · exact ⟨(hs u).mpr (.inl ha.1), fun s h => ((hs s).mp h).elim (h1 s) (fun z => by have := h2 s z; omega)⟩
end Mv

set_option Elab.async false
set_option linter.all false
set_option maxRecDepth 100000
set_option maxHeartbeats 4000000
/-! text.index(sign), a text so many times -/
namespace Mv
open PySem PySem.Spec PyProof.Rows L2
open PySem.Sem (wp)
def gIndexS (a : Str) (os : List O) : Option D := match os with
  | [.leaf (.str b)] => (match Builtin.Str.occurrences a b 0 a.length 1 with
    | i :: _ => some (.int (i : Nat))
    | [] => none)
  | _ => none
/-- a text so many times -/
def repS (a : Str) (n : Nat) : Str := ⟨(List.replicate n a.cps).foldl (· ++ ·) #[]⟩
def mulTI (a b : D) : Option D := match a, b with
  | .str x, .int k => if 2 ≤ k ∧ k ≤ 1000 ∧ 1 ≤ x.length ∧ x.length ≤ 1000 then some (.str (repS x k.toNat)) else none
  | _, _ => none
def rMulS : R2 := fun x y H Q => ∃ (a : Str) (k : Int), x = .str a ∧ y = .int k ∧ (2 ≤ k ∧ k ≤ 1000 ∧ 1 ≤ a.length ∧ a.length ≤ 1000) ∧ Q (.str (repS a k.toNat)) H
end Mv

set_option Elab.async false
set_option linter.all false
set_option maxRecDepth 100000
set_option maxHeartbeats 4000000
/-! marks half read: their mathematics -/
namespace Mv
def fitsM (ps : List (List Nat)) (n : Int) (m : List Nat) : Bool := match slipsL ps m with
  | none => false
  | some i => decide (i ≤ n)
def P0 : Nat → Int → Prop := fun j s => j = 0 ∧ s = 0
end Mv

set_option Elab.async false
set_option linter.all false
set_option maxRecDepth 100000
set_option maxHeartbeats 4000000
/-! methods of an own class -/
namespace Mv
open PySem PySem.Spec PyProof.Rows L2
open PySem.Sem (wp)
section
variable {X : Cx} {CX : CXT} {k : Nat} {f C : Addr} {fd : FuncData} {ps : List Str} {sp : Sp} {E : XK} {m : Str} {apos pos : Pos} {o e : Expr} {es : List Expr} {ta : TE} {t : TA}
end
/-- a method of the class at C that keeps its promise -/
structure Met (P : Program) (w : World) (K : PySem.W.Frag) (mg : Str → Option Value) (base : Heap) (k : Nat) (C : Addr) (m : Str) (ps : List Str) (g : Def) : Prop where
  ex : ∃ f fd, Cls K C ∧ Meth K C m f ∧ Binds K fd ps [] ∧ FnOk P w K mg base CX0 k f fd ps (spOf K g)
def isObj (C : Addr) (m : Str) : O → Bool
  | .obj C' fs => decide (C' = C) && (lookF fs m).isNone
  | _ => false
def callM (C : Addr) (m : Str) (g : Def) (i : Nat) (args : List Arg) : ESem := fun env => match env[i]? with
  | some (some o) => if isObj C m o = true then callF g (.v i :: args) env else none
  | _ => none
theorem w_callM {C : Addr} {m : Str} {g : Def} {i : Nat} {args : List Arg} {env : Env} {Q : O → Env → Prop} : We (callM C m g i args) env Q ↔ Sl env i fun o => isObj C m o = true ∧ We (callF g (.v i :: args)) env Q := by
  unfold We Sl callM
  cases h : env[i]? with
  | none => simp [O2, O1]
  | some o => cases o with
    | none => simp [O2, O1]
    | some o =>
      simp only
      by_cases hb : isObj C m o = true
      · simp [hb, O1]
      · simp [hb, O2, O1]
end Mv

set_option Elab.async false
set_option linter.all false
set_option maxRecDepth 100000
set_option maxHeartbeats 4000000
/-! sorted(pages, key=lambda page: page[:2]) -/
namespace Mv
open PySem PySem.Spec PyProof.Rows L2 LamX
/-- the first two numbers of a thing of three -/
def kCut2 (t : D) : Option (Int × Int) := match t with
  | .tuple [.int a, .int b, _] => some (a, b)
  | _ => none
def ck (t : D) : Int × Int := (kCut2 t).getD (0, 0)
def le2 (a b : D) : Bool := decide ((ck a).1 < (ck b).1 ∨ ((ck a).1 = (ck b).1 ∧ (ck a).2 ≤ (ck b).2))
def sortCE (f : ESem) : ESem := fun env => (f env).bind fun p => (lstO p.1).bind fun ts => if (ts.all fun t => (kCut2 t).isSome) = true ∧ ts.length ≤ 16000000 then some (.ls (ts.mergeSort le2), p.2) else none
theorem w_sortC {f : ESem} {env : Mv.Env} {Q : O → Mv.Env → Prop} : We (sortCE f) env Q ↔ We f env fun o e => ∃ ts, lstO o = some ts ∧ (∀ t ∈ ts, (kCut2 t).isSome = true) ∧ ts.length ≤ 16000000 ∧ Q (.ls (ts.mergeSort le2)) e := by
  unfold We sortCE
  cases f env with
  | none => exact Iff.rfl
  | some p =>
    simp only [Option.bind_some, o2_s]
    cases hl : lstO p.1 with
    | none => simp [O2]
    | some ts =>
      simp only [Option.bind_some, Option.some.injEq, exists_eq_left']
      by_cases hc : (ts.all fun t => (kCut2 t).isSome) = true ∧ ts.length ≤ 16000000
      · rw [if_pos hc, o2_s]
        exact ⟨fun h => ⟨List.all_eq_true.mp hc.1, hc.2, h⟩, fun h => h.2.2⟩
      · rw [if_neg hc]
        exact ⟨fun h => h.elim, fun h => hc ⟨List.all_eq_true.mpr h.1, h.2.1⟩⟩
end Mv

set_option Elab.async false
set_option linter.all false
set_option maxRecDepth 100000
set_option maxHeartbeats 4000000
/-! C(), a class whose __init__ sets fields to empty things -/
namespace Mv
open PySem PySem.Spec PyProof.Rows L2
open PySem.Sem (wp)
/-- an empty thing: a dict of tuples, a dict, a list -/
def eH : Nat → HO
  | 0 => .dT []
  | 1 => .dK []
  | _ => .lst []
def eO : Nat → O
  | 0 => .dct []
  | 1 => .dic []
  | _ => .ls []
def tNew (k : Nat) : TE := fun _ H Q => ∀ p, H p = none → Q (.ref p) (upd H p (eH k))
def InitGo (C a dx : Addr) : List (Str × V) → List (Str × Nat) → Hp → VK → Prop
  | _, [], H, Q => Q .non H
  | done, (f, k) :: r, H, Q => ∀ p, H p = none → InitGo C a dx (done ++ [(f, .ref p)]) r (upd (upd H p (eH k)) a (.ins C dx (done ++ [(f, .ref p)]))) Q
inductive InitB (X : Cx) (C : Addr) : List Stmt → List (Str × Nat) → Prop where
  | nil : InitB X C [] []
  | cons {st : Stmt} {f : Str} {k : Nat} {r : List Stmt} {fr : List (Str × Nat)} (h : PS X st (sFld X.K (tVar 0) (tNew k) f)) (n : NoAttr X.K C f) (b : InitB X C r fr) : InitB X C (st :: r) ((f, k) :: fr)
def spI (C : Addr) (fks : List (Str × Nat)) : Sp := fun vs H Q _ => ∃ a dx, vs = [.ref a] ∧ H a = some (.ins C dx []) ∧ InitGo C a dx [] fks H Q
/-! the new thing, owned -/
def newO (C : Addr) (fks : List (Str × Nat)) : O := .obj C (fks.map fun p => (p.1, eO p.2))
def newE (C : Addr) (fks : List (Str × Nat)) : ESem := fun env => some (newO C fks, env)
theorem w_new {C : Addr} {fks : List (Str × Nat)} {env : Env} {Q : O → Env → Prop} : We (newE C fks) env Q ↔ Q (newO C fks) env := Iff.rfl
end Mv

set_option Elab.async false
set_option linter.all false
set_option maxRecDepth 100000
set_option maxHeartbeats 4000000
/-! sorted(d), the keys of d pairs of texts -/
namespace Mv
open PySem PySem.Spec PyProof.Rows L2
open PySem.Sem (wp)
def encW (p : Str × Str) : D := .tuple [.str p.1, .str p.2]
def leW (p q : Str × Str) : Bool := PySem.W.dataLe false encW p q
def rSortT : List V → Hp → VK → Prop := fun xs H Q => ∃ (a : Addr) (kvs : List (List Key × V)) (ps : List (Str × Str)), xs = [.ref a] ∧ H a = some (.dT kvs) ∧ kvs.map (·.1) = ps.map (fun p => [Sum.inr p.1, Sum.inr p.2]) ∧ ps.length ≤ 1000000 ∧
  ∀ (bs : List Addr) (p : Addr), PySem.W.EachIs (fun b q => H b = some (.tup [.str q.1, .str q.2])) bs (ps.mergeSort leW) → H p = none → Q (.ref p) (upd H p (.lst (bs.map V.ref)))
section
variable {X : Cx}
end
def strPs : List (List Key × O) → Option (List (Str × Str))
  | [] => some []
  | ([.inr x, .inr y], _) :: r => (strPs r).map ((x, y) :: ·)
  | _ => none
def oSortT : O → Option O
  | .dct kvs => (strPs kvs).bind fun ps => if ps.length ≤ 1000000 then some (.ls ((ps.mergeSort leW).map encW)) else none
  | _ => none
end Mv

set_option Elab.async false
set_option linter.all false
set_option maxRecDepth 100000
set_option maxHeartbeats 4000000
/-! an own tuple taken apart; methods and classes by the head's facts; plain rules of own objects -/
namespace Mv
open PySem PySem.Spec PyProof.Rows L2
def unpS (is : List Nat) (f : ESem) : SSem := fun env => (f env).bind fun p => match p.1 with
  | .tup os => (setAll is os p.2).map fun e => (.nx, e)
  | _ => none
theorem w_unp {is : List Nat} {f : ESem} {env : Env} {Q : Out → Env → Prop} : Ws (unpS is f) env Q ↔ We f env fun o e => ∃ os, o = .tup os ∧ Sa is os e fun e2 => Q .nx e2 := by
  unfold Ws We unpS Sa
  cases h : f env with
  | none => exact Iff.rfl
  | some p =>
    simp only [Option.bind_some, o2_s]
    cases p.1 with
    | tup os =>
      simp only [O.tup.injEq, exists_eq_left']
      cases setAll is os p.2 <;> simp [O2, O1]
    | _ => simp [O2]
/-- a class that may be made by its name -/
structure MakN (P : Program) (w : World) (K : PySem.W.Frag) (mg : Str → Option Value) (base : Heap) (k : Nat) (x : Str) (C : Addr) (fks : List (Str × Nat)) : Prop where
  ex : ∃ f fd self, Mk K C f ∧ L2.FnOk P w K mg base CX0 k f fd [self] (spI C fks) ∧ mg x = some (.ref C) ∧ Binds K fd [self] []
/-! plain rules -/
section
variable {ps : List (Str × Str)} {Q : O → Prop}
end
theorem gp_fld {C : Addr} {f : Str} {fs : List (Str × O)} {Q : O → Prop} : Gp (.obj C fs) (.fld C f) Q ↔ O1 (lookF fs f) Q := by
  show O1 (if C = C then lookF fs f else none) Q ↔ _
  rw [if_pos rfl]
end Mv

set_option Elab.async false
set_option linter.all false
set_option maxRecDepth 100000
set_option maxHeartbeats 4000000
/-! a law whose plain law holds wherever the class stands -/
namespace Mv
open PySem PySem.Spec PyProof.Rows L2
end Mv

set_option Elab.async false
set_option linter.all false
set_option maxRecDepth 100000
set_option maxHeartbeats 4000000
/-! what is held, plainly -/
namespace Mv
open PySem PySem.Spec PyProof.Rows L2
abbrev Ky := Str × Str
abbrev Sto := List (Ky × List Rg)
def kyK (k : Ky) : List Key := [.inr k.1, .inr k.2]
def stE (s : Sto) : List (List Key × D) := s.map fun e => (kyK e.1, .list (e.2.map pD))
def gtS : Sto → Ky → List Rg
  | [], _ => []
  | (k', l) :: r, k => if k' = k then l else gtS r k
def ptS (s : Sto) (k : Ky) (l : List Rg) : Sto := if (s.any fun e => decide (e.1 = k)) = true then s.map (fun e => if e.1 = k then (e.1, l) else e) else s ++ [(k, l)]
theorem kyK_inj {a b : Ky} : kyK a = kyK b ↔ a = b := by
  constructor
  · intro h
    unfold kyK at h
    injection h with h1 h2
    injection h2 with h2 _
    injection h1 with h1
    injection h2 with h2
    exact Prod.ext h1 h2
  · intro h
    rw [h]
theorem stE_get {k : Ky} : ∀ {s : Sto}, (lkK (stE s) (kyK k)).getD (.list []) = .list ((gtS s k).map pD)
  | [] => rfl
  | e :: r => by
    show ((if kyK e.1 = kyK k then some (PyData.list (e.2.map pD)) else lkK (stE r) (kyK k)).getD (.list [])) = .list ((if e.1 = k then e.2 else gtS r k).map pD)
    by_cases h : e.1 = k
    · rw [if_pos h, if_pos (kyK_inj.mpr h)]
      rfl
    · rw [if_neg h, if_neg fun z => h (kyK_inj.mp z)]
      exact stE_get
theorem stE_put {s : Sto} {k : Ky} {l : List Rg} : putL (stE s) (kyK k) (.list (l.map pD)) = stE (ptS s k l) := by
  unfold putL ptS
  have e : ((stE s).any fun kv => decide (kv.1 = kyK k)) = s.any fun e => decide (e.1 = k) := by
    unfold stE
    rw [List.any_map]
    congr 1
    funext e
    exact decide_eq_decide.mpr kyK_inj
  rw [e]
  by_cases h : (s.any fun e => decide (e.1 = k)) = true
  · rw [if_pos h, if_pos h]
    unfold stE
    rw [List.map_map, List.map_map]
    refine List.map_congr_left fun e _ => ?_
    show (if kyK e.1 = kyK k then (kyK e.1, PyData.list (l.map pD)) else (kyK e.1, .list (e.2.map pD))) = _
    by_cases h2 : e.1 = k
    · rw [if_pos (kyK_inj.mpr h2)]
      simp [h2]
    · rw [if_neg fun z => h2 (kyK_inj.mp z)]
      simp [h2]
  · rw [if_neg h, if_neg h]
    unfold stE
    rw [List.map_append]
    rfl
abbrev Pks := List (Str × Int)
def pkE (p : Pks) : List (Key × D) := p.map fun e => (.inr e.1, .int e.2)
def inP (p : Pks) (x : Str) : Bool := p.any fun e => decide (e.1 = x)
def ptP (p : Pks) (x : Str) (n : Int) : Pks := if inP p x = true then p.map (fun e => if e.1 = x then (e.1, n) else e) else p ++ [(x, n)]
theorem pkE_in {x : Str} : ∀ {p : Pks}, (lkK (pkE p) (.inr x)).isSome = inP p x
  | [] => rfl
  | e :: r => by
    show ((if (Sum.inr e.1 : Key) = .inr x then some (PyData.int e.2) else lkK (pkE r) (.inr x)).isSome) = (decide (e.1 = x) || inP r x)
    by_cases h : e.1 = x
    · rw [if_pos (by rw [h])]
      simp [h]
    · rw [if_neg fun z => h (by injection z), pkE_in]
      simp [h]
theorem pkE_len {p : Pks} : (pkE p).length = p.length := by unfold pkE; rw [List.length_map]
theorem pkE_put {p : Pks} {x : Str} {n : Int} : putL (pkE p) (.inr x) (.int n) = pkE (ptP p x n) := by
  unfold putL ptP inP
  have e : ((pkE p).any fun kv => decide (kv.1 = (.inr x : Key))) = p.any fun e => decide (e.1 = x) := by
    unfold pkE
    rw [List.any_map]
    congr 1
    funext e
    exact decide_eq_decide.mpr ⟨fun z => by injection z, fun z => congrArg (fun y => (Sum.inr y : Key)) z⟩
  rw [e]
  by_cases h : (p.any fun e => decide (e.1 = x)) = true
  · rw [if_pos h, if_pos h]
    unfold pkE
    rw [List.map_map, List.map_map]
    refine List.map_congr_left fun e _ => ?_
    show (if (Sum.inr e.1 : Key) = .inr x then ((Sum.inr e.1 : Key), PyData.int n) else (.inr e.1, .int e.2)) = _
    by_cases h2 : e.1 = x
    · rw [if_pos (show (Sum.inr e.1 : Key) = .inr x by rw [h2])]
      simp [h2]
    · rw [if_neg fun z => h2 (by injection z)]
      simp [h2]
  · rw [if_neg h, if_neg h]
    unfold pkE
    rw [List.map_append]
    rfl
structure Hd where
  ly : Sto
  en : Sto
  pk : Pks
def hdO (C : Addr) (h : Hd) : O := .obj C [("lying", dctS (stE h.ly)), ("ends", dctS (stE h.en)), ("packed", dicS (pkE h.pk)), ("shorts", .ls []), ("idle", .ls [])]
theorem hd_new {C : Addr} : newO C [("lying", 0), ("ends", 0), ("packed", 1), ("shorts", 2), ("idle", 2)] = hdO C ⟨[], [], []⟩ := rfl
section
variable {C : Addr} {h : Hd} {s : Sto} {p : Pks} {x a b : Str} {n : Int} {l : List Rg} {Q : O → Prop} {neg : Bool}
theorem gp_ly : Gp (hdO C h) (.fld C "lying") Q ↔ Q (dctS (stE h.ly)) := gp_fld
theorem gp_en : Gp (hdO C h) (.fld C "ends") Q ↔ Q (dctS (stE h.en)) := gp_fld
theorem gp_pk : Gp (hdO C h) (.fld C "packed") Q ↔ Q (dicS (pkE h.pk)) := gp_fld
theorem put_ly : putP (hdO C h) (.fld C "lying") (dctS (stE s)) = hdO C { h with ly := s } := rfl
theorem put_en : putP (hdO C h) (.fld C "ends") (dctS (stE s)) = hdO C { h with en := s } := rfl
theorem put_pk : putP (hdO C h) (.fld C "packed") (dicS (pkE p)) = hdO C { h with pk := p } := rfl
theorem isl_hd : (hdO C h).isLeaf = false := rfl
theorem wo_hd {r : Mv.Env} {A B : Prop} : Wo (some (hdO C h) :: r) 0 A B ↔ A := Iff.rfl
theorem iso_put : isObj C "put" (hdO C h) = true := by simp only [isObj, hdO, decide_true, Bool.true_and]; rfl
theorem iso_take : isObj C "take" (hdO C h) = true := by simp only [isObj, hdO, decide_true, Bool.true_and]; rfl
theorem iso_end : isObj C "ended" (hdO C h) = true := by simp only [isObj, hdO, decide_true, Bool.true_and]; rfl
theorem iso_wh : isObj C "with_holder" (hdO C h) = true := by simp only [isObj, hdO, decide_true, Bool.true_and]; rfl
theorem iso_ae : isObj C "at_end" (hdO C h) = true := by simp only [isObj, hdO, decide_true, Bool.true_and]; rfl
theorem gt_iff : Q (.leaf ((lkK (stE s) (kyK (a, b))).getD (.list []))) ↔ Q (.leaf (.list ((gtS s (a, b)).map pD))) := by rw [stE_get]
theorem p_gtS : type_of% ((p_dgt (kts := stE s) (ks := kyK (a, b)) (ts := [.str a, .str b]) (z := .list []) (Q := Q) rfl).trans gt_iff) := (p_dgt (kts := stE s) (ks := kyK (a, b)) (ts := [.str a, .str b]) (z := .list []) (Q := Q) rfl).trans gt_iff
theorem p_ptS : Op3 gSet (dctS (stE s)) (.leaf (.tuple [.str a, .str b])) (.list (l.map pD)) Q ↔ s.length < 16000000 ∧ Q (dctS (stE (ptS s (a, b) l))) := by
  rw [p_dputt (ks := kyK (a, b)) rfl, stE_put]
  unfold stE
  rw [List.length_map]
theorem p_pkin : Op2 (oDIn neg) (.leaf (.str x)) (dicS (pkE p)) Q ↔ Q (.leaf (.bool (inP p x != neg))) := by
  rw [p_dins, pkE_in]
theorem p_pkput : Op3 gSet (dicS (pkE p)) (.leaf (.str x)) (.int n) Q ↔ p.length < 16000000 ∧ Q (dicS (pkE (ptP p x n))) := by
  rw [p_dputs, pkE_put]
  unfold pkE
  rw [List.length_map]
end
end Mv

set_option Elab.async false
set_option linter.all false
set_option maxRecDepth 100000
set_option maxHeartbeats 4000000
/-! deeds, plainly -/
namespace Mv
open PySem PySem.Spec PyProof.Rows L2
/-- a set of numbers from 0 up to, but not, M -/
def SetIn (M : Nat) (l : List Rg) : Prop := Cn l ∧ ∀ x, Has l x → 0 ≤ x ∧ x < M
theorem cn_room : ∀ {l : List Rg} {a : Int} {n : Nat}, Cn l → (∀ x, Has l x → a ≤ x ∧ x < a + n) → l.length ≤ n
  | [], _, _, _, _ => Nat.zero_le _
  | p :: r, a, n, h, hx => by
    have h1 := hx p.1 (has_cons.mpr (.inl ⟨Int.le_refl _, h.1⟩))
    have h2 := hx p.2 (has_cons.mpr (.inl ⟨h.1, Int.le_refl _⟩))
    have hh := h.1
    have : r.length ≤ (a + n - (p.2 + 1)).toNat := cn_room (a := p.2 + 1) h.2.2 fun x hx2 => by
      obtain ⟨q, hq, h3, h4⟩ := hx2
      have := h.2.1 q hq
      have := (hx x (has_cons.mpr (.inr ⟨q, hq, h3, h4⟩))).2
      omega
    rw [List.length_cons]
    omega
theorem SetIn.len {M : Nat} {l : List Rg} (h : SetIn M l) : l.length ≤ M := cn_room (a := 0) h.1 fun x hx => by have := h.2 x hx; omega
theorem SetIn.nil {M : Nat} : SetIn M [] := ⟨trivial, fun x h => (has_nil.mp h).elim⟩
theorem SetIn.one {M : Nat} {a b : Int} (h : a ≤ b) (h0 : 0 ≤ a) (h1 : b < M) : SetIn M [(a, b)] := ⟨⟨h, (by simp), trivial⟩, fun x hx => by
  obtain ⟨q, hq, h3, h4⟩ := hx
  rw [List.mem_singleton.mp hq] at h3 h4
  exact ⟨Int.le_trans h0 h3, Int.lt_of_le_of_lt h4 h1⟩⟩
theorem SetIn.set {M : Nat} {l m : List Rg} (h : SetIn M l) (h2 : SetIn M m) : SetIn M (setOf (l ++ m)) := ⟨(setOf_ok _).1, fun x hx => by
  rcases has_app.mp (((setOf_ok _).2.1 x).mp hx) with z | z
  · exact h.2 x z
  · exact h2.2 x z⟩
theorem SetIn.wo {M : Nat} {l m : List Rg} (h : SetIn M l) (h2 : Cn m) : SetIn M (wo l m) := ⟨(wo_ok h2 h.1).1, fun x hx => h.2 x (((wo_ok h2 h.1).2.1 x).mp hx).1⟩
theorem SetIn.bo {M : Nat} {l m : List Rg} (h : SetIn M l) (h2 : Cn m) : SetIn M (bo l m) := ⟨(bo_ok h.1 h2).1, fun x hx => h.2 x (((bo_ok h.1 h2).2.1 x).mp hx).1⟩
inductive Deed where
  | pack (n : Str) (m : Int) (h : Str)
  | lade (h g n : Str) (f l : Int)
  | fin (b : Bool) (h n : Str) (f l : Int)
  | tell (h n : Str) (cs : List Rg)
def finS (b : Bool) : Str := if b then "back" else "sell"
def finE (b : Bool) : Str := if b then "back" else "sold"
def dD : Deed → D
  | .pack n m h => .tuple [.str "pack", .str n, .int m, .str h]
  | .lade h g n f l => .tuple [.str "lade", .str h, .str g, .str n, .int f, .int l]
  | .fin b h n f l => .tuple [.str (finS b), .str h, .str n, .int f, .int l]
  | .tell h n cs => .tuple [.str "tell", .str h, .str n, .list (cs.map pD)]
def dNm : Deed → Str
  | .pack n _ _ => n
  | .lade _ _ n _ _ => n
  | .fin _ _ n _ _ => n
  | .tell _ n _ => n
abbrev Mvt := Str × Str × List Rg
def moD (m : Mvt) : D := .tuple [.str m.1, .str m.2.1, .list (m.2.2.map pD)]
def wordM (p : Pks) : Deed → Str
  | .pack n _ _ => if inP p n = true then "packed" else "done"
  | .lade h g n _ _ => if inP p n = true then (if h = g then "same" else "done") else "strange"
  | d => if inP p (dNm d) = true then "done" else "strange"
def doM (s : Hd) : Deed → Hd × List Mvt × List Rg
  | .pack n m h => (⟨ptS s.ly (h, n) (setOf (gtS s.ly (h, n) ++ [(0, m - 1)])), s.en, ptP s.pk n m⟩, [("packed", h, [(0, m - 1)])], [])
  | .lade h g n f l =>
    let there := gtS s.ly (h, n)
    let cs := bo there [(f, l)]
    let y := ptS s.ly (h, n) (wo there cs)
    (⟨ptS y (g, n) (setOf (gtS y (g, n) ++ cs)), s.en, s.pk⟩, [("laded", g, cs)], wo [(f, l)] there)
  | .fin b h n f l =>
    let there := gtS s.ly (h, n)
    let cs := bo there [(f, l)]
    (⟨ptS s.ly (h, n) (wo there cs), ptS s.en (n, finE b) (setOf (gtS s.en (n, finE b) ++ cs)), s.pk⟩, [(finE b, h, cs)], wo [(f, l)] there)
  | .tell h n cs =>
    let there := gtS s.ly (h, n)
    let lack := gtS s.en (n, "lacking")
    let lost := wo there cs
    let found := bo lack cs
    let y := ptS s.ly (h, n) (wo there lost)
    (⟨ptS y (h, n) (setOf (gtS y (h, n) ++ found)), ptS s.en (n, "lacking") (setOf (wo lack found ++ lost)), s.pk⟩, [("lacking", h, lost), ("found", h, found)], wo (wo cs there) lack)
def HOk (M B : Nat) (s : Hd) : Prop := s.ly.length ≤ B ∧ s.en.length ≤ B ∧ s.pk.length ≤ B ∧ (∀ k, SetIn M (gtS s.ly k)) ∧ ∀ k, SetIn M (gtS s.en k)
def DOk (M : Nat) : Deed → Prop
  | .pack _ m _ => 0 < m ∧ m ≤ M
  | .lade _ _ _ f l => f ≤ l ∧ (-1000000 ≤ f ∧ l ≤ 1000000)
  | .fin _ _ _ f l => f ≤ l ∧ (-1000000 ≤ f ∧ l ≤ 1000000)
  | .tell _ _ cs => SetIn M cs
end Mv

set_option Elab.async false
set_option linter.all false
set_option maxRecDepth 100000
set_option maxHeartbeats 4000000
/-! a list taken apart by a target of several names -/
namespace Mv
open PySem PySem.Spec PyProof.Rows L2
def gTL (n : Nat) (gs : GsSem) : GSem := fun t env => match t with
  | .list ts => if ts.length = n then gs ts env else none
  | _ => none
section
variable {X : Cx} {pos : Pos} {asg : List Nat}
end
theorem w_gTL {n : Nat} {gs : GsSem} {ts : List D} {env : Env} {Q : Env → Prop} : Wg (gTL n gs) (.list ts) env Q ↔ ts.length = n ∧ Wgs gs ts env Q := by
  unfold Wg gTL Wgs
  by_cases h : ts.length = n <;> simp [h, o1_n]
end Mv

set_option Elab.async false
set_option linter.all false
set_option maxRecDepth 100000
set_option maxHeartbeats 4000000
/-! a frozen dict walked: it is locked as long as the loop goes -/
namespace Mv
open PySem PySem.Spec PyProof.Rows L2
def plHO : HO → Bool
  | .lst _ => true
  | .dK _ => true
  | .dT _ => true
  | _ => false
/-- frozen things stand in both -/
structure Sm (S S' : Hp) : Prop where
  tup : ∀ a vs, S a = some (.tup vs) → S' a = some (.tup vs)
  rd : ∀ a u, plHO u = true → Rd S a u → Rd S' a u
section
variable {K : PySem.W.Frag} {S S' H H' : Hp}
theorem Sm.ls (e : Sm S S') {a : Addr} {vs : List V} (h : LsAt K S a vs) : LsAt K S' a vs := by
  rcases h with h | h
  · exact .inl (e.rd _ _ rfl h)
  · exact .inr h
mutual
theorem Fz.sm (e : Sm S S') : ∀ {t : D} {v : V}, Fz K S t v → Fz K S' t v
  | .none, _, h => h
  | .bool _, _, h => h
  | .int _, _, h => h
  | .str _, _, h => h
  | .list ts, v, h => by
    simp only [Fz] at h ⊢
    obtain ⟨a, vs, e1, h1, h2⟩ := h
    exact ⟨a, vs, e1, e.ls h1, FzL.sm e h2⟩
  | .tuple ts, v, h => by
    simp only [Fz] at h ⊢
    obtain ⟨a, vs, e1, h1, h2⟩ := h
    exact ⟨a, vs, e1, e.tup _ _ h1, FzL.sm e h2⟩
  | .dict kvs, v, h => by
    simp only [Fz] at h ⊢
    obtain ⟨a, e1, h2⟩ := h
    refine ⟨a, e1, ?_⟩
    rcases h2 with ⟨ks, h2, h3⟩ | ⟨ks, h2, h3⟩
    · exact .inl ⟨ks, FzK.sm e h2, e.rd _ _ rfl h3⟩
    · exact .inr ⟨ks, FzT.sm e h2, e.rd _ _ rfl h3⟩
theorem FzL.sm (e : Sm S S') : ∀ {ts : List D} {vs : List V}, FzL K S ts vs → FzL K S' ts vs
  | [], _, h => h
  | t :: ts, vs, h => by
    simp only [FzL] at h ⊢
    obtain ⟨v, r, e1, h1, h2⟩ := h
    exact ⟨v, r, e1, Fz.sm e h1, FzL.sm e h2⟩
theorem FzK.sm (e : Sm S S') : ∀ {ts : List (D × D)} {vs : List (Key × V)}, FzK K S ts vs → FzK K S' ts vs
  | [], _, h => h
  | (k, t) :: ts, vs, h => by
    simp only [FzK] at h ⊢
    obtain ⟨k', v, r, e1, e2, h1, h2⟩ := h
    exact ⟨k', v, r, e1, e2, Fz.sm e h1, FzK.sm e h2⟩
theorem FzT.sm (e : Sm S S') : ∀ {ts : List (D × D)} {vs : List (List Key × V)}, FzT K S ts vs → FzT K S' ts vs
  | [], _, h => h
  | (k, t) :: ts, vs, h => by
    simp only [FzT] at h ⊢
    obtain ⟨k', v, r, e1, e2, h1, h2⟩ := h
    exact ⟨k', v, r, e1, e2, Fz.sm e h1, FzT.sm e h2⟩
end
mutual
theorem Ow.sm (es : Sm S S') : ∀ {o : O} {v : V} {fp : List Addr}, (∀ a ∈ fp, H' a = H a) → Ow K S H o v fp → Ow K S' H' o v fp
  | .leaf t, v, fp, k, h => by
    simp only [Ow] at h ⊢
    exact ⟨h.1, h.2.sm es⟩
  | .ls ts, v, fp, k, h => by
    simp only [Ow] at h ⊢
    obtain ⟨a, vs, e1, h1, e2, h2⟩ := h
    exact ⟨a, vs, e1, (k a (by rw [e2]; exact List.mem_cons_self)).trans h1, e2, h2.sm es⟩
  | .dic kvs, v, fp, k, h => by
    simp only [Ow] at h ⊢
    obtain ⟨a, vs, fr, e1, e2, h1, h2⟩ := h
    exact ⟨a, vs, fr, e1, e2, OwK.sm es (fun b hb => k b (by rw [e2]; exact List.mem_cons_of_mem _ hb)) h1, (k a (by rw [e2]; exact List.mem_cons_self)).trans h2⟩
  | .dct kvs, v, fp, k, h => by
    simp only [Ow] at h ⊢
    obtain ⟨a, vs, fr, e1, e2, h1, h2⟩ := h
    exact ⟨a, vs, fr, e1, e2, OwT.sm es (fun b hb => k b (by rw [e2]; exact List.mem_cons_of_mem _ hb)) h1, (k a (by rw [e2]; exact List.mem_cons_self)).trans h2⟩
  | .obj C fs, v, fp, k, h => by
    simp only [Ow] at h ⊢
    obtain ⟨a, dx, vs, fr, e1, e2, h1, h2, h3⟩ := h
    exact ⟨a, dx, vs, fr, e1, e2, OwF.sm es (fun b hb => k b (by rw [e2]; exact List.mem_cons_of_mem _ (List.mem_cons_of_mem _ hb))) h1,
      (k a (by rw [e2]; exact List.mem_cons_self)).trans h2, (k dx (by rw [e2]; exact List.mem_cons_of_mem _ List.mem_cons_self)).trans h3⟩
  | .tup os, v, fp, k, h => by
    simp only [Ow] at h ⊢
    obtain ⟨a, vs, e1, h1, h2⟩ := h
    exact ⟨a, vs, e1, es.tup _ _ h1, OwL.sm es k h2⟩
  | .lso os, v, fp, k, h => by
    simp only [Ow] at h ⊢
    obtain ⟨a, vs, fr, e1, e2, h1, h2⟩ := h
    exact ⟨a, vs, fr, e1, e2, OwL.sm es (fun b hb => k b (by rw [e2]; exact List.mem_cons_of_mem _ hb)) h1, (k a (by rw [e2]; exact List.mem_cons_self)).trans h2⟩
theorem OwL.sm (es : Sm S S') : ∀ {os : List O} {vs : List V} {fp : List Addr}, (∀ a ∈ fp, H' a = H a) → OwL K S H os vs fp → OwL K S' H' os vs fp
  | [], vs, fp, k, h => by
    simp only [OwL] at h ⊢
    exact h
  | o :: r, vs, fp, k, h => by
    simp only [OwL] at h ⊢
    obtain ⟨v, vr, f1, f2, e1, e2, h1, h2⟩ := h
    exact ⟨v, vr, f1, f2, e1, e2, Ow.sm es (fun a ha => k a (by rw [e2]; exact List.mem_append_left _ ha)) h1, OwL.sm es (fun a ha => k a (by rw [e2]; exact List.mem_append_right _ ha)) h2⟩
theorem OwK.sm (es : Sm S S') : ∀ {kvs : List (Key × O)} {vs : List (Key × V)} {fp : List Addr}, (∀ a ∈ fp, H' a = H a) → OwK K S H kvs vs fp → OwK K S' H' kvs vs fp
  | [], vs, fp, k, h => by
    simp only [OwK] at h ⊢
    exact h
  | (_, o) :: r, vs, fp, k, h => by
    simp only [OwK] at h ⊢
    obtain ⟨v, vr, f1, f2, e1, e2, h1, h2⟩ := h
    exact ⟨v, vr, f1, f2, e1, e2, Ow.sm es (fun a ha => k a (by rw [e2]; exact List.mem_append_left _ ha)) h1, OwK.sm es (fun a ha => k a (by rw [e2]; exact List.mem_append_right _ ha)) h2⟩
theorem OwT.sm (es : Sm S S') : ∀ {kvs : List (List Key × O)} {vs : List (List Key × V)} {fp : List Addr}, (∀ a ∈ fp, H' a = H a) → OwT K S H kvs vs fp → OwT K S' H' kvs vs fp
  | [], vs, fp, k, h => by
    simp only [OwT] at h ⊢
    exact h
  | (_, o) :: r, vs, fp, k, h => by
    simp only [OwT] at h ⊢
    obtain ⟨v, vr, f1, f2, e1, e2, h1, h2⟩ := h
    exact ⟨v, vr, f1, f2, e1, e2, Ow.sm es (fun a ha => k a (by rw [e2]; exact List.mem_append_left _ ha)) h1, OwT.sm es (fun a ha => k a (by rw [e2]; exact List.mem_append_right _ ha)) h2⟩
theorem OwF.sm (es : Sm S S') : ∀ {kvs : List (Str × O)} {vs : List (Str × V)} {fp : List Addr}, (∀ a ∈ fp, H' a = H a) → OwF K S H kvs vs fp → OwF K S' H' kvs vs fp
  | [], vs, fp, k, h => by
    simp only [OwF] at h ⊢
    exact h
  | (_, o) :: r, vs, fp, k, h => by
    simp only [OwF] at h ⊢
    obtain ⟨v, vr, f1, f2, e1, e2, h1, h2⟩ := h
    exact ⟨v, vr, f1, f2, e1, e2, Ow.sm es (fun a ha => k a (by rw [e2]; exact List.mem_append_left _ ha)) h1, OwF.sm es (fun a ha => k a (by rw [e2]; exact List.mem_append_right _ ha)) h2⟩
end
/-! locked and unlocked -/
def isDc : HO → Bool
  | .dK _ => true
  | .dT _ => true
  | _ => false
variable {a : Addr} {u : HO} {od : Obj}
def unF (S : Hp) (a : Addr) (u : HO) : Hp := upd S a u
section
variable {env env' : Mv.Env} {σ σ' : L2.St} {fp fp' : Nat → List Addr} {S1 H1 : Hp}
end
end
end Mv

set_option Elab.async false
set_option linter.all false
set_option maxRecDepth 100000
set_option maxHeartbeats 4000000
/-! for k in d, comprehensions over d: d a name of a frozen dict -/
namespace Mv
open PySem PySem.Spec PyProof.Rows L2
def dkI (i : Nat) : ISem := fun env => match env[i]? with
  | some (some (.leaf (.dict l))) => some (l.map (·.1), env)
  | _ => none
theorem PS.or {X : Cx} {st : Stmt} {t t' : TS} (h : PS X st t) (h' : PS X st t') : PS X st (fun D σ H => t D σ H ∨ t' D σ H) := ⟨fun pins s σ H D I hw => hw.elim (h.run pins s σ H D I) (h'.run pins s σ H D I)⟩
theorem PE.or {X : Cx} {e : Expr} {t t' : TE} (h : PE X e t) (h' : PE X e t') : PE X e (fun σ H Q => t σ H Q ∨ t' σ H Q) := ⟨fun pins s σ H Q I hw => hw.elim (h.run pins s σ H Q I) (h'.run pins s σ H Q I)⟩
section
variable {K : PySem.W.Frag} {S H S0 H0 : Hp} {a : Addr} {u : HO} {od : Obj} {env env' : Mv.Env} {σ : L2.St} {fp : Nat → List Addr} {out : Out} {asg : List Nat} {D : Ends} {i : Nat} {l : List (PyData × PyData)}
def lockD (a : Addr) (od : Obj) (u : HO) (D : Ends) : Ends := ⟨fun σ' H' => H' a = some (.frz od u) ∧ D.nx σ' (upd H' a u), fun v H' => H' a = some (.frz od u) ∧ D.rt v (upd H' a u), fun σ' H' => H' a = some (.frz od u) ∧ D.bk σ' (upd H' a u), fun σ' H' => H' a = some (.frz od u) ∧ D.ct σ' (upd H' a u)⟩
end
section
variable {X : Cx} {tg : Expr} {i : Nat} {x : Str} {p pos : Pos}
section
variable {elt : Expr} {ifs : List Expr} {set : GSem} {cnd : TSem} {fe : ESem} {aT : List Nat} {q q1 m1 : Bool}
end
end
/-! the plain side -/
def Dk (o : O) (Q : List D → Prop) (_h : Hold Q := ⟨⟩) : Prop := match o with
  | .leaf (.dict l) => Q (l.map (·.1))
  | _ => False
theorem w_dkI {i : Nat} {env : Mv.Env} {Q : List D → Mv.Env → Prop} : Wi (dkI i) env Q ↔ Sl env i fun o => Dk o fun ts => Q ts env := by
  unfold Wi dkI Sl
  cases h : env[i]? with
  | none => exact Iff.rfl
  | some o =>
    cases o with
    | none => exact Iff.rfl
    | some o =>
      cases o with
      | leaf t => cases t <;> exact Iff.rfl
      | _ => exact Iff.rfl
/-! d[k], k a tuple, d frozen -/
def unkD : D → Option (List Key)
  | .tuple ts => keysOf ts
  | _ => none
def lkT : List (D × D) → List Key → Option D
  | [], _ => none
  | (d, t) :: r, k => if unkD d = some k then some t else lkT r k
/-- what stands at a key, d one's own or frozen -/
def dgX (o oi : O) : Option D := match o with
  | .leaf (.dict l) => ((keyOf oi).bind fun k => lkD l k).or ((tupOf oi).bind fun k => lkT l k)
  | _ => (dgO o oi).bind id
def oDIz (d k : O) : Option O := (dgX d k).map O.leaf
def rowU (kv : List Key × D) : D × D := (tupD kv.1, kv.2)
theorem frzT_S : ∀ {kvs : List (List Key × D)}, frzT (kvs.map fun kv => (kv.1, O.leaf kv.2)) = some (kvs.map rowU)
  | [] => rfl
  | kv :: r => by
    rw [List.map_cons, frzT, frzT_S]
    rfl
section
variable {kvs : List (Key × D)} {kts : List (List Key × D)} {i : Int} {x : Str} {ts : List D} {ks : List Key} {Q : O → Prop} {R : D → Prop}
theorem fr_dct : Fr (dctS kts) R ↔ R (.dict (kts.map rowU)) := by
  unfold Fr dctS
  rw [show (O.dct (kts.map fun kv => (kv.1, O.leaf kv.2))).frz = (frzT (kts.map fun kv => (kv.1, O.leaf kv.2))).map .dict from rfl, frzT_S]
  exact Iff.rfl
theorem fr_dic : Fr (dicS kvs) R ↔ R (.dict (kvs.map rowD)) := by
  unfold Fr dicS
  rw [show (O.dic (kvs.map fun kv => (kv.1, O.leaf kv.2))).frz = (frzK (kvs.map fun kv => (kv.1, O.leaf kv.2))).map .dict from rfl, frzK_S]
  exact Iff.rfl
theorem dk_T {R : List D → Prop} : Dk (.leaf (.dict (kts.map rowU))) R ↔ R (kts.map fun kv => tupD kv.1) := by
  show R ((kts.map rowU).map (·.1)) ↔ _
  rw [List.map_map]
  exact Iff.rfl
theorem dk_K {R : List D → Prop} : Dk (.leaf (.dict (kvs.map rowD))) R ↔ R (kvs.map fun kv => keyD kv.1) := by
  show R ((kvs.map rowD).map (·.1)) ↔ _
  rw [List.map_map]
  exact Iff.rfl
end
end Mv

set_option Elab.async false
set_option linter.all false
set_option maxRecDepth 100000
set_option maxHeartbeats 4000000
/-! sorted(d), the keys of d tuples of one form; d one's own or frozen -/
namespace Mv
open PySem PySem.Spec PyProof.Rows L2
open PySem.Sem (wp)
def leU (p q : List Key) : Bool := PySem.W.dataLe false tupD p q
def okKs (ks : List (List Key)) : Bool := (ks.all fun a => ks.all fun b => PySem.W.alike (tupD a) (tupD b)) && ks.all fun a => !a.isEmpty
def rSortU : List V → Hp → VK → Prop := fun xs H Q => ∃ (a : Addr) (kvs : List (List Key × V)) (ps : List (List Key)), xs = [.ref a] ∧ Rd H a (.dT kvs) ∧ kvs.map (·.1) = ps ∧ okKs ps = true ∧ ps.length ≤ 1000000 ∧
  ∀ (bs : List Addr) (p : Addr), PySem.W.EachIs (fun b q => H b = some (.tup (q.map kV))) bs (ps.mergeSort leU) → H p = none → Q (.ref p) (upd H p (.lst (bs.map V.ref)))
section
variable {X : Cx}
end
def unkL : List (D × D) → Option (List (List Key))
  | [] => some []
  | (d, _) :: r => (unkD d).bind fun k => (unkL r).map (k :: ·)
def keysU : O → Option (List (List Key))
  | .dct kvs => some (kvs.map (·.1))
  | .leaf (.dict l) => unkL l
  | _ => none
def oSortU (o : O) : Option O := (keysU o).bind fun ks => if okKs ks = true ∧ ks.length ≤ 1000000 then some (.ls ((ks.mergeSort leU).map tupD)) else none
def rSortDD : List V → Hp → VK → Prop := fun xs H Q => ∃ (a : Addr) (kvs : List (Key × V)) (ks : List Str), xs = [.ref a] ∧ Rd H a (.dK kvs) ∧ kvs.map (·.1) = ks.map Sum.inr ∧ ks.length < 64 ∧
    ∀ ys p, ys.Perm ks → PyProof.Rows.sortedS ys = true → H p = none → Q (.ref p) (upd H p (.lst (ys.map V.str)))
def rSortW : List V → Hp → VK → Prop := fun xs H Q => rSortU xs H Q ∨ rSortDD xs H Q
section
variable {κ : Type} {ek : κ → List Key} {ps : List κ} {kts : List (List Key × D)} {Q : O → Prop}
end
end Mv

set_option Elab.async false
set_option linter.all false
set_option maxRecDepth 100000
set_option maxHeartbeats 1000000
/-! sorted(xs), xs tuples that begin with two whole numbers, unlike pairs: what stands behind is not looked at -/
namespace PySem.W
open PySem PySem.Calls PyProof.Rows
section
variable {prog : Program} {w : World} {A : Around} {E : Value → Shared → Prop} {s : Shared}
theorem eqBool_me {v : Value} {Q : Bool → Shared → Prop} (h : Q true s) : wpAny (model prog w) A (eqBool v v) Q E s := by
  unfold eqBool
  refine wpAny_holding ?_
  rw [if_pos (beq_self_eq_true v)]
  exact wpAny_bind (wpAny_rule (wpAny_pure h))
/-- a tuple whose first two are these numbers -/
def HeadIs (h : Heap) (v : Value) (b : Int × Int) : Prop := ∃ a o xs n t1 t2, v = .ref a ∧ h.get? a = some o ∧ o.cls = .type "tuple" ∧ o.data = .seq xs n ∧ xs[0]? = some (.int b.1 t1) ∧ xs[1]? = some (.int b.2 t2)
theorem HeadIs.one {h : Heap} {v : Value} {b b' : Int × Int} (x : HeadIs h v b) (y : HeadIs h v b') : b = b' := by
  obtain ⟨a, o, xs, n, t1, t2, rfl, h1, h2, h3, h4, h5⟩ := x
  obtain ⟨a', o', xs', n', t1', t2', e, k1, k2, k3, k4, k5⟩ := y
  cases e
  rw [h1] at k1
  cases k1
  rw [h3] at k3
  cases k3
  rw [h4] at k4
  rw [h5] at k5
  have e1 := Option.some.inj k4
  have e2 := Option.some.inj k5
  injection e1 with e1 _
  injection e2 with e2 _
  exact Prod.ext e1 e2
def hdToks (b : Int × Int) : List (Int ⊕ List Nat) := [.inl b.1, .inl b.2]
noncomputable def headKind (vs : List Value) (bs : List (Int × Int)) : PyProof.Rows.KeyKind where
  toKeyOrd := listOrd itemOrd
  keyOf v := open Classical in if q : ∃ b, (v, b) ∈ vs.zip bs then some (hdToks q.choose) else none
  dflt := ([] : List (Int ⊕ List Nat))
theorem each_at {α β : Type} {R : α → β → Prop} : ∀ {as : List α} {bs : List β}, EachIs R as bs → ∀ p ∈ as.zip bs, R p.1 p.2
  | _, _, .nil, p, m => by cases m
  | _, _, .cons h t, p, m => by
    rw [List.zip_cons_cons] at m
    rcases List.mem_cons.mp m with rfl | m
    · exact h
    · exact each_at t p m
theorem each_zipped {α β : Type} {R : α → β → Prop} : ∀ {as : List α} {bs : List β}, EachIs R as bs → EachIs (fun a b => (a, b) ∈ as.zip bs) as bs
  | _, _, .nil => .nil
  | _, _, .cons h t => .cons (by rw [List.zip_cons_cons]; exact List.mem_cons_self) ((each_zipped t).mono fun a b m => by rw [List.zip_cons_cons]; exact List.mem_cons_of_mem _ m)
theorem headKind_some {h : Heap} {vs : List Value} {bs : List (Int × Int)} (e : EachIs (HeadIs h) vs bs) {v : Value} {b : Int × Int} (m : (v, b) ∈ vs.zip bs) : (headKind vs bs).keyOf v = some (hdToks b) := by
  have q : ∃ b, (v, b) ∈ vs.zip bs := ⟨b, m⟩
  have e1 : (headKind vs bs).keyOf v = some (hdToks q.choose) := by
    show (open Classical in if q : ∃ b, (v, b) ∈ vs.zip bs then some (hdToks q.choose) else none) = _
    rw [dif_pos q]
  have e2 : q.choose = b := (each_at e _ q.choose_spec).one (each_at e (v, b) m)
  rw [e1, e2]
theorem headKind_inv {vs : List Value} {bs : List (Int × Int)} {v : Value} {k : List (Int ⊕ List Nat)} (e : (headKind vs bs).keyOf v = some k) : ∃ b, (v, b) ∈ vs.zip bs ∧ k = hdToks b := by
  by_cases q : ∃ b, (v, b) ∈ vs.zip bs
  · have e' : (headKind vs bs).keyOf v = some (hdToks q.choose) := by
      show (open Classical in if q : ∃ b, (v, b) ∈ vs.zip bs then some (hdToks q.choose) else none) = _
      rw [dif_pos q]
    rw [e'] at e
    exact ⟨_, q.choose_spec, (Option.some.inj e).symm⟩
  · have e' : (headKind vs bs).keyOf v = none := by
      show (open Classical in if q : ∃ b, (v, b) ∈ vs.zip bs then some (hdToks q.choose) else none) = _
      rw [dif_neg q]
      rfl
    rw [e'] at e
    exact absurd e (by simp)
theorem zip_same {α β : Type} {b : β} {a a' : α} : ∀ {as : List α} {bs : List β}, bs.Nodup → (a, b) ∈ as.zip bs → (a', b) ∈ as.zip bs → a = a'
  | [], _, _, m, _ => by simp at m
  | _ :: _, [], _, m, _ => by simp at m
  | x :: as, y :: bs, h, m, m' => by
    rw [List.nodup_cons] at h
    rw [List.zip_cons_cons] at m m'
    rcases List.mem_cons.mp m with e | n1 <;> rcases List.mem_cons.mp m' with e' | n2
    · cases e; cases e'; rfl
    · cases e
      exact absurd (List.of_mem_zip n2).2 h.1
    · cases e'
      exact absurd (List.of_mem_zip n1).2 h.1
    · exact zip_same h.2 n1 n2
theorem kat_same {b fin : Bool} {Q : Bool → Shared → Prop} : ∀ {l : List Value} {i : Nat}, Q fin s → KatLex prog w A b fin Q (l.zip l) i s
  | [], i, h => kat_nil h
  | v :: r, i, h => kat_cons (eqBool_me (kat_yes (kat_same h)))
theorem arr2 {xs : Array Value} {u v : Value} (h : xs[0]? = some u) (h2 : xs[1]? = some v) : ∃ r, xs.toList = u :: v :: r := by
  cases q : xs.toList with
  | nil => rw [← Array.getElem?_toList, q] at h; cases h
  | cons a r =>
    cases r with
    | nil => rw [← Array.getElem?_toList, q] at h2; cases h2
    | cons b r =>
      rw [← Array.getElem?_toList, q] at h h2
      cases h
      cases h2
      exact ⟨r, rfl⟩
theorem head_tups {h : Heap} : ∀ {vs : List Value} {bs : List (Int × Int)}, EachIs (HeadIs h) vs bs → ∃ fs, KatTups h vs fs ∧ fs.length = vs.length ∧ ∀ f ∈ fs, ∃ i t, f = Value.int i t
  | _, _, .nil => ⟨[], KatTups.nil, rfl, fun f hf => absurd hf (by simp)⟩
  | _, _, .cons (b := b) hb t => by
    obtain ⟨fs, h1, h2, h3⟩ := head_tups t
    obtain ⟨a, o, xs, n, t1, t2, rfl, k1, k2, k3, k4, k5⟩ := hb
    exact ⟨_ :: fs, KatTups.cons k1 k2 k3 k4 h1, by rw [List.length_cons, List.length_cons, h2], fun g hg => by
      rcases List.mem_cons.mp hg with rfl | hg
      · exact ⟨_, _, rfl⟩
      · exact h3 g hg⟩
theorem SortsAt.head {vs : List Value} {bs : List (Int × Int)} (e : EachIs (HeadIs s.heap) vs bs) (hn : bs.Nodup) : SortsAt prog w A s (headKind vs bs) vs := by
  refine ⟨fun v hv => ?_, tuples' true, ?_, fun h2 E Q hq => ?_⟩
  · obtain ⟨b, hb, m⟩ := (each_zipped e).left v hv
    exact ⟨_, headKind_some e m⟩
  · intro E x y a b Q ha hb hq
    obtain ⟨p, hp, rfl⟩ := headKind_inv ha
    obtain ⟨q, hq2, rfl⟩ := headKind_inv hb
    obtain ⟨ax, ox, xs, n, t1, t2, rfl, h1, h2, h3, h4, h5⟩ := each_at e _ hp
    obtain ⟨ay, oy, ys, m, u1, u2, rfl, k1, k2, k3, k4, k5⟩ := each_at e _ hq2
    obtain ⟨r1, e1⟩ := arr2 h4 h5
    obtain ⟨r2, e2⟩ := arr2 k4 k5
    have hq' : Q (PyProof.Rows.lexLt itemOrd (hdToks p) (hdToks q)) s := hq
    refine kat_lt h1 h3 k1 k3 ?_
    rw [e1, e2, List.zip_cons_cons, List.zip_cons_cons]
    refine kat_cons (wpAny_eqBool_int ?_)
    by_cases c1 : p.1 = q.1
    · rw [beq_iff_eq.mpr c1]
      refine kat_yes (kat_cons (wpAny_eqBool_int ?_))
      by_cases c2 : p.2 = q.2
      · rw [beq_iff_eq.mpr c2]
        have ep : p = q := Prod.ext c1 c2
        subst ep
        have ev := zip_same hn hp hq2
        cases ev
        rw [h1] at k1
        cases k1
        rw [h3] at k3
        cases k3
        rw [e1] at e2
        simp only [List.cons.injEq] at e2
        obtain ⟨_, _, rfl⟩ := e2
        refine kat_yes (kat_same ?_)
        rw [show decide (xs.size < xs.size) = false by simp]
        have := lex_irrefl (O := itemOrd) (hdToks p)
        rw [this] at hq'
        exact hq'
      · rw [beq_eq_false_iff_ne.mpr c2]
        refine kat_no (oneLt_any_int ?_)
        have : PyProof.Rows.lexLt itemOrd (hdToks p) (hdToks q) = decide (p.2 < q.2) := by
          unfold hdToks
          rw [c1, lex_self, lex_diff (fun z => c2 (Sum.inl.inj z))]
          rfl
        rw [this] at hq'
        exact hq'
    · rw [beq_eq_false_iff_ne.mpr c1]
      refine kat_no (oneLt_any_int ?_)
      have : PyProof.Rows.lexLt itemOrd (hdToks p) (hdToks q) = decide (p.1 < q.1) := by
        unfold hdToks
        rw [lex_diff (fun z => c1 (Sum.inl.inj z))]
        rfl
      rw [this] at hq'
      exact hq'
  · obtain ⟨fs, t1, t2, t3⟩ := head_tups e
    refine kat_kind (T := .type "int") t1 (by omega) (fun f hf => ?_) (beq_self_eq_true _) hq
    obtain ⟨i, t, rfl⟩ := t3 f hf
    exact Looks.of_pure rfl
end
end PySem.W
namespace Mv
open PySem PySem.Spec PyProof.Rows L2
def hd2 : D → Option (Int × Int)
  | .tuple (.int i :: .int j :: _) => some (i, j)
  | _ => none
def hdK (t : D) : Int × Int := (hd2 t).getD (0, 0)
def leK (a b : Int × Int) : Bool := decide (a.1 < b.1 ∨ (a.1 = b.1 ∧ a.2 ≤ b.2))
def okH (ts : List D) : Prop := (∀ t ∈ ts, (hd2 t).isSome = true) ∧ (ts.map hdK).Nodup ∧ ts.length ≤ 1000000
def sortH (ts : List D) : List D := ts.mergeSort fun a b => leK (hdK a) (hdK b)
def rSortH (K : PySem.W.Frag) : List V → Hp → VK → Prop := fun xs H Q => ∃ a vs ts, xs = [.ref a] ∧ (LsAt K H a vs ∨ H a = some (.tup vs)) ∧ FzL K H ts vs ∧ okH ts ∧
  ∀ p out, H p = none → (∃ z : List (V × D), z.map (·.2) = sortH ts ∧ z.map (·.1) = out ∧ z.Perm (vs.zip ts)) → Q (.ref p) (upd H p (.lst out))
section
variable {X : Cx} {pins : List (Addr × Obj)} {σ : L2.St} {H : Hp} {s : Shared}
end
open Classical in
noncomputable def oSortH (a : O) : Option O := (seqO a).bind fun ts => if okH ts then some (.ls (sortH ts)) else none
end Mv

set_option Elab.async false
set_option linter.all false
set_option maxRecDepth 100000
set_option maxHeartbeats 1000000
/-! the part of what is told just now: one's own -/
namespace Mv
open PySem PySem.Spec PyProof.Rows L2
section
variable {X : Cx} {e : Expr} {f : ESem} {q : Bool} {pos : Pos}
end
section
variable {f : ESem} {env : Mv.Env}
def Ixo (o : O) (n : Int) (Q : O → Prop) (_h : Hold Q := ⟨⟩) : Prop := match o with
  | .tup os => O1 (atI os n) Q
  | _ => False
theorem w_ixO {n : Int} {Q : O → Mv.Env → Prop} : We (ixO f n) env Q ↔ We f env fun o e => Ixo o n fun z => Q z e := by
  unfold We ixO Ixo
  cases h : f env with
  | none => exact Iff.rfl
  | some p =>
    obtain ⟨o, e⟩ := p
    cases o with
    | tup os =>
      simp only [Option.bind_some, o2_s]
      cases atI os n <;> exact Iff.rfl
    | _ => exact Iff.rfl
theorem ixo_0 {o : O} {os : List O} {Q : O → Prop} : Ixo (.tup (o :: os)) 0 Q ↔ Q o := by
  show O1 ((ixN (o :: os).length 0).bind fun j => (o :: os)[j]?) Q ↔ Q o
  rw [show ixN (o :: os).length 0 = some 0 by simp [ixN]]
  exact Iff.rfl
theorem ixo_1 {o o1 : O} {os : List O} {Q : O → Prop} : Ixo (.tup (o :: o1 :: os)) 1 Q ↔ Q o1 := by
  show O1 ((ixN (o :: o1 :: os).length 1).bind fun j => (o :: o1 :: os)[j]?) Q ↔ Q o1
  rw [show ixN (o :: o1 :: os).length 1 = some 1 by simp [ixN]; omega]
  exact Iff.rfl
end
end Mv

set_option Elab.async false
set_option linter.all false
set_option maxRecDepth 100000
set_option maxHeartbeats 1000000
/-! cases one by one: where each is, plainly -/
namespace Mv
open PySem PySem.Spec PyProof.Rows L2
/-- numbers from a up to, but not, b -/
def numR (a b : Int) : List Int := (List.range (b - a).toNat).map fun (i : Nat) => a + (i : Int)
def numsOf (l : List Rg) : List Int := l.flatMap fun p => numR p.1 (p.2 + 1)
/-! where each case is -/
abbrev Cw := Str × Int
abbrev Pw := Str × Str
abbrev Wh := List (Cw × Pw)
def kyC (k : Cw) : List Key := [.inr k.1, .inl k.2]
def wsD (v : Pw) : D := .tuple [.str v.1, .str v.2]
def whE (w : Wh) : List (List Key × D) := w.map fun e => (kyC e.1, wsD e.2)
def gtW : Wh → Cw → Option Pw
  | [], _ => none
  | (k', v) :: r, k => if k' = k then some v else gtW r k
def ptW (w : Wh) (k : Cw) (v : Pw) : Wh := if (w.any fun e => decide (e.1 = k)) = true then w.map (fun e => if e.1 = k then (e.1, v) else e) else w ++ [(k, v)]
theorem kyC_inj {a b : Cw} : kyC a = kyC b ↔ a = b := by
  constructor
  · intro h
    unfold kyC at h
    injection h with h1 h2
    injection h2 with h2 _
    injection h1 with h1
    injection h2 with h2
    exact Prod.ext h1 h2
  · intro h
    rw [h]
theorem whE_get {k : Cw} : ∀ {w : Wh}, lkK (whE w) (kyC k) = (gtW w k).map wsD
  | [] => rfl
  | e :: r => by
    show (if kyC e.1 = kyC k then some (wsD e.2) else lkK (whE r) (kyC k)) = (if e.1 = k then some e.2 else gtW r k).map wsD
    by_cases h : e.1 = k
    · rw [if_pos h, if_pos (kyC_inj.mpr h)]
      rfl
    · rw [if_neg h, if_neg fun z => h (kyC_inj.mp z)]
      exact whE_get
theorem whE_put {w : Wh} {k : Cw} {v : Pw} : putL (whE w) (kyC k) (wsD v) = whE (ptW w k v) := by
  unfold putL ptW
  have e : ((whE w).any fun kv => decide (kv.1 = kyC k)) = w.any fun e => decide (e.1 = k) := by
    unfold whE
    rw [List.any_map]
    congr 1
    funext e
    exact decide_eq_decide.mpr kyC_inj
  rw [e]
  by_cases h : (w.any fun e => decide (e.1 = k)) = true
  · rw [if_pos h, if_pos h]
    unfold whE
    rw [List.map_map, List.map_map]
    refine List.map_congr_left fun e _ => ?_
    show (if kyC e.1 = kyC k then (kyC e.1, wsD v) else (kyC e.1, wsD e.2)) = _
    by_cases h2 : e.1 = k
    · rw [if_pos (kyC_inj.mpr h2)]
      simp [h2]
    · rw [if_neg fun z => h2 (kyC_inj.mp z)]
      simp [h2]
  · rw [if_neg h, if_neg h]
    unfold whE
    rw [List.map_append]
    rfl
def NdW (w : Wh) : Prop := (w.map (·.1)).Nodup
/-! one deed -/
abbrev Mw := Int × Str × Str
def mwD (m : Mw) : D := .tuple [.int m.1, .str m.2.1, .str m.2.2]
def newW (x : Str) : Str := if x = "packed" ∨ x = "laded" ∨ x = "found" then "lying" else x
def stepW (w : Wh) (n : Str) (mv : List Mw) : Wh := mv.foldl (fun w m => ptW w (n, m.1) (newW m.2.1, m.2.2)) w
def leC (a b : Cw) : Bool := leU (kyC a) (kyC b)
def liesB (w : Wh) (h : Str) (k : Cw) : Bool := decide (gtW w k = some (("lying" : Str), h))
def ownC (w : Wh) (n h : Str) : List Int := (((w.map (·.1)).mergeSort leC).filter fun k => decide (k.1 = n) && liesB w h k).map (·.2)
def wordAt (w : Wh) (k : Cw) : Str := ((gtW w k).getD ("", "")).1
def movF (w : Wh) (n h x g : Str) (f l : Int) : List Mw := ((numR f (l + 1)).filter fun c => liesB w h (n, c)).map fun c => (c, x, g)
def shoF (w : Wh) (n h : Str) (f l : Int) : List Int := (numR f (l + 1)).filter fun c => !liesB w h (n, c)
def didM (w : Wh) : Deed → List Mw × List Int
  | .pack n m h => ((numR 0 m).map fun c => (c, "packed", h), [])
  | .lade h g n f l => (movF w n h "laded" g f l, shoF w n h f l)
  | .fin b h n f l => (movF w n h (finE b) h f l, shoF w n h f l)
  | .tell h n cs => (((ownC w n h).filter fun c => !(numsOf cs).contains c).map (fun c => ((c, "lacking", h) : Mw)) ++ ((numsOf cs).filter fun c => decide (wordAt w (n, c) = "lacking")).map (fun c => ((c, "found", h) : Mw)),
      ((numsOf cs).filter fun c => !decide (wordAt w (n, c) = "lacking")).filter fun c => !(ownC w n h).contains c)
def didW (w : Wh) (d : Deed) : Wh := stepW w (dNm d) (didM w d).1
end Mv

set_option Elab.async false
set_option linter.all false
set_option maxRecDepth 100000
set_option maxHeartbeats 1000000
/-! what is held, and where each case is: the same -/
namespace Mv
open PySem PySem.Spec PyProof.Rows L2
structure AbsW (w : Wh) (s : Hd) : Prop where
  nd : NdW w
  ly : ∀ h n c, Has (gtS s.ly (h, n)) c ↔ gtW w (n, c) = some (("lying" : Str), h)
  en : ∀ n e c, Has (gtS s.en (n, e)) c ↔ e ≠ ("lying" : Str) ∧ ∃ h, gtW w (n, c) = some (e, h)
  pk : ∀ n c, gtW w (n, c) ≠ none → inP s.pk n = true
def dMov (d : Hd × List Mvt × List Rg) : List Mvt := d.2.1
/-- moves, told by stretches and one by one -/
def MovS (ms : List Mvt) (mv : List Mw) : Prop := ∀ c x g, (∃ m ∈ ms, m.1 = x ∧ m.2.1 = g ∧ Has m.2.2 c) ↔ (c, x, g) ∈ mv
section
variable {w : Wh} {s : Hd} {M B : Nat}
def movT (w : Wh) (n h : Str) (cs : List Rg) : List Mw := ((ownC w n h).filter fun c => !(numsOf cs).contains c).map (fun c => ((c, "lacking", h) : Mw)) ++ ((numsOf cs).filter fun c => decide (wordAt w (n, c) = "lacking")).map (fun c => ((c, "found", h) : Mw))
end
end Mv

set_option Elab.async false
set_option linter.all false
set_option maxRecDepth 100000
set_option maxHeartbeats 1000000
/-! the dict that tells where each case is: rules -/
namespace Mv
open PySem PySem.Spec PyProof.Rows L2
section
variable {w : Wh} {a x y : Str} {i : Int} {z : D} {Q : O → Prop}
theorem gtW_iff : Q (.leaf ((lkK (whE w) (kyC (a, i))).getD z)) ↔ Q (.leaf (((gtW w (a, i)).map wsD).getD z)) := by rw [whE_get]
theorem p_gtW : type_of% ((p_dgt (kts := whE w) (ks := kyC (a, i)) (ts := [.str a, .int i]) (z := z) (Q := Q) rfl).trans gtW_iff) := (p_dgt (kts := whE w) (ks := kyC (a, i)) (ts := [.str a, .int i]) (z := z) (Q := Q) rfl).trans gtW_iff
theorem p_ptW : Op3 gSet (dctS (whE w)) (.leaf (.tuple [.str a, .int i])) (.tuple [.str x, .str y]) Q ↔ w.length < 16000000 ∧ Q (dctS (whE (ptW w (a, i) (x, y)))) := by
  rw [p_dputt (ks := kyC (a, i)) rfl, show PyData.tuple [.str x, .str y] = wsD (x, y) from rfl, whE_put]
  unfold whE
  rw [List.length_map]
def cwD (k : Cw) : D := .tuple [.str k.1, .int k.2]
end
theorem any_strs {x : Str} : ∀ {ls : List Str}, ((ls.map PyData.str).any fun u => PyData.eqv u (.str x)) = decide (x ∈ ls)
  | [] => rfl
  | y :: r => by
    rw [List.map_cons, List.any_cons, any_strs]
    have e : PyData.eqv (.str y) (.str x) = decide (x = y) := by
      unfold PyData.eqv
      by_cases h : x = y
      · subst h; simp
      · rw [decide_eq_false h]
        simpa using fun z => h z.symm
    rw [e]
    by_cases h : x = y
    · subst h; simp
    · simp [h]
theorem all_strs {ls : List Str} {n : Nat} : (ls.map PyData.str).all (okd n) = true := by
  rw [List.all_eq_true]
  intro t ht
  obtain ⟨y, _, rfl⟩ := List.mem_map.mp ht
  cases n <;> rfl
theorem inS_core {neg : Bool} {x : Str} {ls : List Str} {t : D} (h : t = .list (ls.map .str) ∨ t = .tuple (ls.map .str)) : inI neg (.str x) t = some (.bool (if neg then !decide (x ∈ ls) else decide (x ∈ ls))) := by
  have e1 : okd 50 (.str x) = true := rfl
  rcases h with rfl | rfl <;> simp only [inI, e1, all_strs, Bool.and_self, if_true, any_strs]
section
variable {x : Str} {ls : List Str} {Q : O → Prop}
theorem p_inSl : Op2 (vw2 (inI false)) (.leaf (.str x)) (.leaf (.list (ls.map .str))) Q ↔ Q (.leaf (.bool (decide (x ∈ ls)))) := vw2_of rfl rfl (inS_core (.inl rfl)) rfl
theorem p_inSL : Op2 (vw2 (inI false)) (.leaf (.str x)) (.ls (ls.map .str)) Q ↔ Q (.leaf (.bool (decide (x ∈ ls)))) := vw2_of rfl rfl (inS_core (.inl rfl)) rfl
theorem p_ninSl : Op2 (vw2 (inI true)) (.leaf (.str x)) (.leaf (.list (ls.map .str))) Q ↔ Q (.leaf (.bool (!decide (x ∈ ls)))) := vw2_of rfl rfl (inS_core (.inl rfl)) rfl
theorem p_ninSL : Op2 (vw2 (inI true)) (.leaf (.str x)) (.ls (ls.map .str)) Q ↔ Q (.leaf (.bool (!decide (x ∈ ls)))) := vw2_of rfl rfl (inS_core (.inl rfl)) rfl
theorem p_inSt3 {a b c : Str} : Op2 (vw2 (inI false)) (.leaf (.str x)) (.leaf (.tuple [.str a, .str b, .str c])) Q ↔ Q (.leaf (.bool (decide (x ∈ [a, b, c])))) := vw2_of rfl rfl (inS_core (ls := [a, b, c]) (.inr rfl)) rfl
theorem p_inSt2 {a b : Str} : Op2 (vw2 (inI false)) (.leaf (.str x)) (.leaf (.tuple [.str a, .str b])) Q ↔ Q (.leaf (.bool (decide (x ∈ [a, b])))) := vw2_of rfl rfl (inS_core (ls := [a, b]) (.inr rfl)) rfl
end
section
variable {Q : O → Prop} {a b x y : Str} {o : Option Pw}
theorem eqv_str2 {x y : Str} : PyData.eqv (.str x) (.str y) = decide (x = y) := by
  unfold PyData.eqv
  by_cases h : x = y
  · subst h; simp
  · rw [decide_eq_false h]
    simpa using h
theorem eqI_wsD {v u : Pw} : eqI false (wsD v) (wsD u) = some (.bool (decide (v = u))) := by
  have e : PyData.eqv (wsD v) (wsD u) = decide (v = u) := by
    obtain ⟨v1, v2⟩ := v
    obtain ⟨u1, u2⟩ := u
    have e0 : PyData.eqv (wsD (v1, v2)) (wsD (u1, u2)) = (PyData.eqv (.str v1) (.str u1) && (PyData.eqv (.str v2) (.str u2) && true)) := by
      unfold wsD
      simp only [PyData.eqv, PyData.eqvAll]
    rw [e0, eqv_str2, eqv_str2, Bool.and_true]
    by_cases h1 : v1 = u1 <;> by_cases h2 : v2 = u2 <;> simp [h1, h2]
  have h1 : okd 50 (wsD v) = true := rfl
  have h2 : okd 50 (wsD u) = true := rfl
  unfold eqI
  simp only [h1, h2, e]
  rfl
theorem p_eqW {v : Pw} : Op2 (vw2 (eqI false)) (.leaf (wsD v)) (.leaf (.tuple [.str a, .str b])) Q ↔ Q (.leaf (.bool (decide (v = (a, b))))) := vw2_of rfl rfl (eqI_wsD (u := (a, b))) rfl
theorem gG {o : Option Pw} : (o.map wsD).getD (.tuple [.str x, .str y]) = wsD (o.getD (x, y)) := by cases o <;> rfl
theorem p_eqG : Op2 (vw2 (eqI false)) (.leaf ((o.map wsD).getD (.tuple [.str "", .str ""]))) (.leaf (.tuple [.str "lying", .str b])) Q ↔ Q (.leaf (.bool (decide (o = some ((("lying" : Str), b) : Pw))))) := by
  rw [gG, p_eqW]
  have e : decide (o.getD ((("" : Str), ("" : Str)) : Pw) = ((("lying" : Str), b) : Pw)) = decide (o = some ((("lying" : Str), b) : Pw)) := by
    cases o with
    | none =>
      rw [decide_eq_false, decide_eq_false]
      · exact fun z => nomatch z
      · intro z
        exact absurd (Prod.mk.inj z).1 (by decide)
    | some v =>
      apply decide_eq_decide.mpr
      exact ⟨fun z => congrArg some z, fun z => by injection z⟩
  rw [e]
theorem p_eqGx : Op2 (vw2 (eqI false)) (.leaf ((o.map wsD).getD (.tuple [.str (tx []), .str (tx [])]))) (.leaf (.tuple [.str "lying", .str b])) Q ↔ Q (.leaf (.bool (decide (o = some ((("lying" : Str), b) : Pw))))) := by
  rw [← lit_e]
  exact p_eqG
theorem p_ixG : Op2 oIx (.leaf ((o.map wsD).getD (.tuple [.str x, .str y]))) (.leaf (.int 0)) Q ↔ Q (.leaf (.str (o.getD (x, y)).1)) := by
  rw [gG]
  unfold wsD
  rw [p_ixt, at_0]
theorem w_dsp {env : Mv.Env} {Q : O → Mv.Env → Prop} : We (dispE [⟨.inr "lade", true, (cstE (.str "laded"))⟩, ⟨.inr "sell", true, (cstE (.str "sold"))⟩, ⟨.inr "back", true, (cstE (.str "back"))⟩]) env Q ↔ Q (dicS [(.inr "lade", .str "laded"), (.inr "sell", .str "sold"), (.inr "back", .str "back")]) env := by
  unfold We dispE
  rw [if_pos (by decide)]
  exact Iff.rfl
end
section
variable {a b c d e f : D} {P : D → Prop}
theorem at_62 : At [a, b, c, d, e, f] (-2) P ↔ P e := by
  unfold At atI
  rw [show ixN [a, b, c, d, e, f].length (-2) = some 4 from rfl]
  exact Iff.rfl
theorem at_61 : At [a, b, c, d, e, f] (-1) P ↔ P f := by
  unfold At atI
  rw [show ixN [a, b, c, d, e, f].length (-1) = some 5 from rfl]
  exact Iff.rfl
theorem at_52 : At [a, b, c, d, e] (-2) P ↔ P d := by
  unfold At atI
  rw [show ixN [a, b, c, d, e].length (-2) = some 3 from rfl]
  exact Iff.rfl
theorem at_51 : At [a, b, c, d, e] (-1) P ↔ P e := by
  unfold At atI
  rw [show ixN [a, b, c, d, e].length (-1) = some 4 from rfl]
  exact Iff.rfl
end
end Mv

set_option Elab.async false
set_option linter.all false
set_option maxRecDepth 100000
set_option maxHeartbeats 1000000
/-! dicts, plainly, of any keys and things -/
namespace Mv
open PySem PySem.Spec PyProof.Rows L2
section
variable {κ β : Type} [DecidableEq κ]
def gtA : List (κ × β) → κ → Option β
  | [], _ => none
  | (k', v) :: r, k => if k' = k then some v else gtA r k
def ptA (w : List (κ × β)) (k : κ) (v : β) : List (κ × β) := if (w.any fun e => decide (e.1 = k)) = true then w.map (fun e => if e.1 = k then (e.1, v) else e) else w ++ [(k, v)]
def encA (ek : κ → List Key) (ev : β → D) (w : List (κ × β)) : List (List Key × D) := w.map fun e => (ek e.1, ev e.2)
def encV (ek : κ → Key) (ev : β → D) (w : List (κ × β)) : List (Key × D) := w.map fun e => (ek e.1, ev e.2)
theorem encA_get {ek : κ → List Key} {ev : β → D} (hi : ∀ a b, ek a = ek b → a = b) {k : κ} : ∀ {w : List (κ × β)}, lkK (encA ek ev w) (ek k) = (gtA w k).map ev
  | [] => rfl
  | e :: r => by
    show (if ek e.1 = ek k then some (ev e.2) else lkK (encA ek ev r) (ek k)) = (if e.1 = k then some e.2 else gtA r k).map ev
    by_cases h : e.1 = k
    · rw [if_pos h, if_pos (by rw [h])]
      rfl
    · rw [if_neg h, if_neg fun z => h (hi _ _ z)]
      exact encA_get hi
theorem encA_put {ek : κ → List Key} {ev : β → D} (hi : ∀ a b, ek a = ek b → a = b) {w : List (κ × β)} {k : κ} {v : β} : putL (encA ek ev w) (ek k) (ev v) = encA ek ev (ptA w k v) := by
  unfold putL ptA
  have e : ((encA ek ev w).any fun kv => decide (kv.1 = ek k)) = w.any fun e => decide (e.1 = k) := by
    unfold encA
    rw [List.any_map]
    congr 1
    funext e
    exact decide_eq_decide.mpr ⟨fun z => hi _ _ z, fun z => congrArg ek z⟩
  rw [e]
  by_cases h : (w.any fun e => decide (e.1 = k)) = true
  · rw [if_pos h, if_pos h]
    unfold encA
    rw [List.map_map, List.map_map]
    refine List.map_congr_left fun e _ => ?_
    show (if ek e.1 = ek k then (ek e.1, ev v) else (ek e.1, ev e.2)) = _
    by_cases h2 : e.1 = k
    · rw [if_pos (by rw [h2])]
      simp [h2]
    · rw [if_neg fun z => h2 (hi _ _ z)]
      simp [h2]
  · rw [if_neg h, if_neg h]
    unfold encA
    rw [List.map_append]
    rfl
theorem encA_len {ek : κ → List Key} {ev : β → D} {w : List (κ × β)} : (encA ek ev w).length = w.length := List.length_map ..
/-! lists that grow at their keys -/
def addA {γ : Type} (s : List (κ × List γ)) (k : κ) (c : γ) : List (κ × List γ) := ptA s k ((gtA s k).getD [] ++ [c])
def addsA {γ : Type} (s : List (κ × List γ)) (es : List (κ × γ)) : List (κ × List γ) := es.foldl (fun s e => addA s e.1 e.2) s
end
/-! lists in order, and unlike, with the same things -/
/-! dicts of pairs of texts that tell lists of numbers -/
def liD (l : List Int) : D := .list (l.map .int)
theorem kyK_i : ∀ a b : Ky, kyK a = kyK b → a = b := fun _ _ h => kyK_inj.mp h
section
variable {s : List (Ky × List Int)} {a b : Str} {l : List Int} {Q : O → Prop}
theorem gtI_iff : Q (.leaf ((lkK (encA kyK liD s) (kyK (a, b))).getD (.list []))) ↔ Q (.leaf (.list (((gtA s (a, b)).getD []).map .int))) := by
  rw [encA_get kyK_i]
  cases gtA s (a, b) <;> exact Iff.rfl
theorem p_gtI : type_of% ((p_dgt (kts := encA kyK liD s) (ks := kyK (a, b)) (ts := [.str a, .str b]) (z := .list []) (Q := Q) rfl).trans gtI_iff) := (p_dgt (kts := encA kyK liD s) (ks := kyK (a, b)) (ts := [.str a, .str b]) (z := .list []) (Q := Q) rfl).trans gtI_iff
theorem p_ptI : Op3 gSet (dctS (encA kyK liD s)) (.leaf (.tuple [.str a, .str b])) (.list (l.map .int)) Q ↔ s.length < 16000000 ∧ Q (dctS (encA kyK liD (ptA s (a, b) l))) := by
  rw [p_dputt (ks := kyK (a, b)) rfl, show PyData.list (l.map .int) = liD l from rfl, encA_put kyK_i, encA_len]
end
def NdS (s : Sto) : Prop := (s.map (·.1)).Nodup
end Mv

set_option Elab.async false
set_option linter.all false
set_option maxRecDepth 100000
set_option maxHeartbeats 1000000
/-! reversed(list) gone through; sum(d.values()) -/
namespace Mv
open PySem PySem.Spec PyProof.Rows L2
/-! ### a list from its end -/
def revI (g : ASem) : ISem := fun env => (g env).bind fun p => match p.1 with
  | [o] => (lstO o).map fun ts => (ts.reverse, p.2)
  | _ => none
section
variable {K : PySem.W.Frag} {S0 H0 : Hp} {ts : List D} {a : Addr} {vs : List V}
end
section
variable {X : Cx} {tg e : Expr} {g : ASem} {q : Bool} {pos p : Pos}
end
def Rvm (os : List O) (Q : List D → Prop) (_h : Hold Q := ⟨⟩) : Prop := match os with
  | [o] => O1 (lstO o) fun ts => Q ts.reverse
  | _ => False
theorem w_revI {g : ASem} {env : Mv.Env} {Q : List D → Mv.Env → Prop} : Wi (revI g) env Q ↔ Wa g env fun os e => Rvm os fun ts => Q ts e := by
  unfold Wi Wa revI Rvm
  cases h : g env with
  | none => exact Iff.rfl
  | some p =>
    obtain ⟨os, e⟩ := p
    simp only [Option.bind_some, o2_s]
    match os with
    | [] => exact Iff.rfl
    | [o] =>
      simp only
      cases lstO o <;> exact Iff.rfl
    | _ :: _ :: _ => exact Iff.rfl
theorem rvm_l {ts : List D} {Q : List D → Prop} : Rvm [.leaf (.list ts)] Q ↔ Q ts.reverse := Iff.rfl
theorem rvm_o {ts : List D} {Q : List D → Prop} : Rvm [.ls ts] Q ↔ Q ts.reverse := Iff.rfl
/-! ### sum(d.values()) -/
section
variable {X : Cx} {o : Expr} {p pos apos mpos : Pos} {td : TE}
/-- sum(o.values()), a dict with int values -/
def tSumVals (td : TE) : TE := fun σ H Q => td σ H fun x H1 => ∃ (a : Addr) (kvs : List (Key × V)) (is : List Int), x = V.ref a ∧ H1 a = some (.dK kvs) ∧ kvs.map (·.2) = is.map V.int ∧ Q (.int is.sum) H1
end
def valI : List (Key × O) → Option (List Int)
  | [] => some []
  | (_, .leaf (.int i)) :: r => (valI r).map fun is => i :: is
  | _ => none
def oSumV : O → Option O
  | .dic kvs => (valI kvs).map fun is => .leaf (.int is.sum)
  | _ => none
section
variable {K : PySem.W.Frag} {S H : Hp}
end
end Mv

set_option Elab.async false
set_option linter.all false
set_option maxRecDepth 100000
set_option maxHeartbeats 1000000
/-! list(reversed(list)) -/
namespace Mv
open PySem PySem.Spec PyProof.Rows L2
section
variable {prog : Program} {w : World} {A : Around} {E : Value → Shared → Prop} {s : Shared}
end
def tLstRev (K : PySem.W.Frag) (te : TE) : TE := fun σ H Q => te σ H fun v H1 => ∃ (a : Addr) (xs : List V), v = .ref a ∧ SqL K H1 a xs ∧ ∀ q, H1 q = none → Q (.ref q) (upd H1 q (.lst xs.reverse))
section
variable {X : Cx}
end
end Mv

set_option Elab.async false
set_option linter.all false
set_option maxRecDepth 100000
set_option maxHeartbeats 1000000
/-! a comprehension over a dict of tuple keys that lies in a field of one's own object: the object is out of sight meanwhile -/
namespace Mv
open PySem PySem.Spec PyProof.Rows L2
def cI (ts : List D) : ISem := fun env => some (ts, env)
def dctK : O → Option (List D)
  | .dct kvs => some (kvs.map fun kv => tupD kv.1)
  | _ => none
def hidC (i : Nat) (p : Pth) (set : GSem) (cnd : TSem) (fe : ESem) (vs : List Nat) : ESem := fun env => match env[i]? with
  | some (some root) => (getP root p).bind fun o => (dctK o).bind fun ts => (compE (cI ts) set cnd fe vs (env.set i none)).map fun r => (r.1, r.2.set i (some root))
  | _ => none
def tItA (K : PySem.W.Frag) (P : Hp → (Nat → List Addr) → Prop) (f : ISem) : TI := fun σ H R => ∃ env S fp ts env', P S fp ∧ Rel K env σ S H fp ∧ f env = some (ts, env') ∧
  ∀ J S' H' fp' A, Rel K env' σ S' H' fp' → Evo S H fp S' H' fp' → ItOk K J A S' H' ts → (∀ a ∈ A, Liv H' a ∧ ∀ i, a ∉ fp' i) → R J H'
def tEA (K : PySem.W.Frag) (P : Hp → (Nat → List Addr) → Prop) (f : ESem) : TE := fun σ H Q => ∃ env S fp z env', P S fp ∧ Rel K env σ S H fp ∧ f env = some (z, env') ∧
  ∀ v S' H' fp' fr, Rel K env' σ S' H' fp' → Evo S H fp S' H' fp' → Ow K S' H' z v fr → (false = true → H' = H ∧ KS S S') → (true = true → Fresh S H fp S' fp' fr) → Q v H'
section
variable {K : PySem.W.Frag} {S H : Hp}
end
section
variable {X : Cx} {tg e : Expr} {i : Nat} {C : Addr} {f : Str} {pos : Pos} {elt : Expr} {ifs : List Expr} {set : GSem} {cnd : TSem} {fe : ESem} {aT : List Nat} {q q1 m1 : Bool}
end
/-! the plain side -/
def KyI (o : O) (Q : List D → Prop) (_h : Hold Q := ⟨⟩) : Prop := O1 (dctK o) fun ts => Q ts
theorem w_cI {ts : List D} {env : Mv.Env} {Q : List D → Mv.Env → Prop} : Wi (cI ts) env Q ↔ Q ts env := Iff.rfl
theorem w_hid {i : Nat} {p : Pth} {set : GSem} {cnd : TSem} {fe : ESem} {vs : List Nat} {env : Mv.Env} {Q : O → Mv.Env → Prop} : We (hidC i p set cnd fe vs) env Q ↔ Sl env i fun root => Gp root p fun o => KyI o fun ts => We (compE (cI ts) set cnd fe vs) (env.set i none) fun z e => Q z (e.set i (some root)) := by
  unfold We hidC Sl Gp KyI
  cases h : env[i]? with
  | none => exact Iff.rfl
  | some o =>
    cases o with
    | none => exact Iff.rfl
    | some o =>
      simp only [Option.join_some, o1_s]
      cases h2 : getP o p with
      | none => exact Iff.rfl
      | some o2 =>
        simp only [Option.bind_some, o1_s]
        cases h3 : dctK o2 with
        | none => exact Iff.rfl
        | some ts =>
          simp only [Option.bind_some, o1_s]
          cases h4 : compE (cI ts) set cnd fe vs (env.set i none) <;> exact Iff.rfl
theorem kyI_dct {kts : List (List Key × D)} {Q : List D → Prop} : KyI (dctS kts) Q ↔ Q (kts.map fun kv => tupD kv.1) := by
  unfold KyI dctS
  simp only [dctK, List.map_map]
  exact Iff.rfl
end Mv

set_option Elab.async false
set_option linter.all false
set_option maxRecDepth 100000
set_option maxHeartbeats 1000000
/-! list(range(a, b, c)) -/
namespace Mv
open PySem PySem.Spec PyProof.Rows L2
def rgV3 (a c : Int) (n : Nat) : List V := (List.range n).map fun (i : Nat) => V.int (a + (i : Int) * c)
def tLrg3 (ta : TA) : TE := fun σ H Q => ta σ H fun vs H1 => ∃ (i j c : Int) (n : Nat), vs = [.int i, .int j, .int c] ∧ RgC i j c n ∧ n ≤ 2 ^ 24 ∧ ∀ q, H1 q = none → Q (.ref q) (upd H1 q (.lst (rgV3 i c n)))
def rgI3 (a c : Int) (n : Nat) : List Int := (List.range n).map fun (i : Nat) => a + (i : Int) * c
theorem rangeC_I {a c : Int} {n : Nat} : rangeC a c n = (rgI3 a c n).map .int := by
  unfold rangeC rgI3
  rw [List.map_map]
  rfl
def lrg3 (f : ASem) : ESem := fun env => (f env).bind fun p => match p.1 with
  | [.leaf (.int i), .leaf (.int j), .leaf (.int c)] => if RgOk3 i j c ∧ stepN i j c ≤ 16777216 then some (.ls (rangeC i c (stepN i j c)), p.2) else none
  | _ => none
def Lg3 (os : List O) (Q : O → Prop) (_h : Hold Q := ⟨⟩) : Prop := match os with
  | [.leaf (.int i), .leaf (.int j), .leaf (.int c)] => (RgOk3 i j c ∧ stepN i j c ≤ 16777216) ∧ Q (.ls ((rgI3 i c (stepN i j c)).map .int))
  | _ => False
theorem lg3_i {i j c : Int} {Q : O → Prop} : Lg3 [.leaf (.int i), .leaf (.int j), .leaf (.int c)] Q ↔ (RgOk3 i j c ∧ stepN i j c ≤ 16777216) ∧ Q (.ls ((rgI3 i c (stepN i j c)).map .int)) := Iff.rfl
theorem w_lrg3 {env : Mv.Env} {g : ASem} {Q : O → Mv.Env → Prop} : We (lrg3 g) env Q ↔ Wa g env fun os e => Lg3 os fun z => Q z e := by
  unfold We Wa lrg3 Lg3
  cases h : g env with
  | none => rfl
  | some p =>
    obtain ⟨os, e⟩ := p
    simp only [Option.bind_some, o2_s]
    split
    · rename_i i j c
      by_cases hb : RgOk3 i j c ∧ stepN i j c ≤ 16777216
      · rw [if_pos hb, rangeC_I]
        exact ⟨fun z => ⟨hb, z⟩, fun z => z.2⟩
      · rw [if_neg hb]
        exact ⟨fun z => z.elim, fun z => absurd z.1 hb⟩
    · rename_i hz
      first
        | exact Iff.rfl
        | (split
           · rename_i n m c
             exact absurd rfl (hz n m c)
           · rfl)
end Mv

set_option Elab.async false
set_option linter.all false
set_option maxRecDepth 100000
set_option maxHeartbeats 1000000
/-! the truth of a number; >> and &; whether a number is in range(n); the signs of a text as a list -/
namespace Mv
open PySem PySem.Spec PyProof.Rows L2
section
variable {X : Cx} {e : Expr} {f : ESem} {q m : Bool} {pos : Pos}
def asI (f : ESem) : TSem := fun env => (f env).bind fun p => match p.1 with
  | .leaf (.int i) => some (i != 0, p.2)
  | _ => none
end
def Ib (o : O) (Q : Bool → Prop) (_h : Hold Q := ⟨⟩) : Prop := match o with
  | .leaf (.int i) => Q (i != 0)
  | _ => False
theorem ib_i {i : Int} {Q : Bool → Prop} : Ib (.leaf (.int i)) Q ↔ Q (i != 0) := Iff.rfl
theorem w_asI {f : ESem} {env : Mv.Env} {Q : Bool → Mv.Env → Prop} : Wt (asI f) env Q ↔ We f env fun o e => Ib o fun b => Q b e := by
  unfold Wt asI We Ib
  cases h : f env with
  | none => rfl
  | some p =>
    obtain ⟨o, e1⟩ := p
    simp only [Option.bind_some, o2_s]
    cases o with
    | leaf t => cases t <;> exact Iff.rfl
    | _ => exact Iff.rfl
/-! bits -/
def shrI : D → D → Option D
  | .int i, .int j => if 0 ≤ j then some (.int (i / 2 ^ j.toNat)) else none
  | _, _ => none
def andI : D → D → Option D
  | .int i, .int j => some (.int (Builtin.bitAnd i j))
  | _, _ => none
theorem p_shr {i j : Int} {Q : O → Prop} : Op2 (vw2 shrI) (.leaf (.int i)) (.leaf (.int j)) Q ↔ 0 ≤ j ∧ Q (.leaf (.int (i / 2 ^ j.toNat))) := by
  by_cases h : 0 ≤ j <;> simp [Op2, O1, vw2, O.frz, shrI, h, flatD]
theorem p_bitand {i j : Int} {Q : O → Prop} : Op2 (vw2 andI) (.leaf (.int i)) (.leaf (.int j)) Q ↔ Q (.leaf (.int (Builtin.bitAnd i j))) := by
  simp [Op2, O1, vw2, O.frz, andI, flatD]
theorem p_odd {i : Int} {Q : O → Prop} : Op2 (vw2 andI) (.leaf (.int i)) (.leaf (.int 1)) Q ↔ Q (.leaf (.int (i % 2))) := by
  rw [p_bitand, bitAnd_m1]
/-! a number in range(n) -/
def inRn (n : Int) : D → Option D
  | .int i => some (.bool (decide (0 ≤ i ∧ i < n)))
  | _ => none
theorem p_inRn {i n : Int} {Q : O → Prop} : Op1 (vw1 (inRn n)) (.leaf (.int i)) Q ↔ Q (.leaf (.bool (decide (0 ≤ i ∧ i < n)))) := by
  simp [Op1, O1, vw1, O.frz, inRn, flatD]
section
variable {X : Cx} {e : Expr} {f : ESem} {q m : Bool}
end
/-! the signs of a text as a list -/
def sgL (z : Str) : List D := z.cps.toList.map fun c => .str (chS c)
def oListX : O → Option O
  | .leaf (.str z) => if z.cps.size ≤ 16777216 then some (.ls (sgL z)) else none
  | _ => none
def rListX : List V → Hp → VK → Prop := fun xs H Q => ∃ z : Str, xs = [.str z] ∧ z.cps.size ≤ sizeLine ∧ ∀ p, H p = none → Q (.ref p) (upd H p (.lst (z.cps.toList.map fun c => V.str (chS c))))
end Mv

set_option Elab.async false
set_option linter.all false
set_option maxRecDepth 100000
set_option maxHeartbeats 1000000
/-! x[:e] of a list of one's own, where e calls -/
namespace Mv
open PySem PySem.Spec PyProof.Rows L2
def sliceV (i : Nat) (fh : ESem) : ESem := fun env => match env[i]? with
  | some (some _) => (fh env).bind fun h => match h.2[i]? with
    | some (some o) => (optI h.1).bind fun hi => (oSl o none hi).map fun z => (z, h.2)
    | _ => none
  | _ => none
theorem w_sliceV {i : Nat} {fh : ESem} {env : Mv.Env} {Q : O → Mv.Env → Prop} : We (sliceV i fh) env Q ↔ Sl env i fun _ => We fh env fun h e2 => Sl e2 i fun a => Slc a (.leaf .none) h fun z => Q z e2 := by
  unfold We sliceV Sl Slc
  cases h0 : env[i]? with
  | none => rfl
  | some o =>
    cases o with
    | none => rfl
    | some o =>
      simp only [Option.join_some, o1_s]
      cases h2 : fh env with
      | none => rfl
      | some p =>
        simp only [Option.bind_some, o2_s]
        cases h3 : p.2[i]? with
        | none => rfl
        | some o2 =>
          cases o2 with
          | none => rfl
          | some o2 =>
            simp only [Option.join_some, o1_s]
            show O2 ((optI p.1).bind fun hi => (oSl o2 none hi).map fun z => (z, p.2)) Q ↔ O1 (optI p.1) fun hi => O1 (oSl o2 none hi) fun z => Q z p.2
            cases h4 : optI p.1 with
            | none => exact Iff.rfl
            | some hi =>
              show O2 ((oSl o2 none hi).map fun z => (z, p.2)) Q ↔ O1 (oSl o2 none hi) fun z => Q z p.2
              cases h5 : oSl o2 none hi with
              | none => exact Iff.rfl
              | some z => exact Iff.rfl
end Mv

set_option Elab.async false
set_option linter.all false
set_option maxRecDepth 100000
set_option maxHeartbeats 1000000
/-! i << j -/
namespace Mv
open PySem PySem.Spec PyProof.Rows L2
instance {i j : Int} : Decidable (CPow i j) := by unfold CPow; infer_instance
def shlI : D → D → Option D
  | .int i, .int j => if CPow i j then some (.int (i * 2 ^ j.toNat)) else none
  | _, _ => none
theorem p_shl {i j : Int} {Q : O → Prop} : Op2 (vw2 shlI) (.leaf (.int i)) (.leaf (.int j)) Q ↔ CPow i j ∧ Q (.leaf (.int (i * 2 ^ j.toNat))) := by
  by_cases h : CPow i j <;> simp [Op2, O1, vw2, O.frz, shlI, h, flatD]
end Mv

set_option Elab.async false
set_option linter.all false
set_option maxRecDepth 100000
set_option maxHeartbeats 2000000
/-! zip of five lists as long as one another -/
namespace Mv
open PySem PySem.Spec PyProof.Rows L2 RZ
open PySem.Sem (wp)
/-- a tuple of these values -/
def Tp (h : Heap) (T : Addr) (xs : List Value) : Prop := h.get? T = some { cls := .type "tuple", data := .seq xs.toArray }
structure ZA (zc ti to : Addr) (ps : List (Addr × Addr)) : Prop where
  tz : ti ≠ zc
  oz : to ≠ zc
  tto : ti ≠ to
  it : ∀ p ∈ ps, p.1 ≠ zc ∧ p.1 ≠ ti ∧ p.1 ≠ to
  nd : ∀ (i j : Nat) (p q : Addr × Addr), ps[i]? = some p → ps[j]? = some q → p.1 = q.1 → i = j
  ls : ∀ p ∈ ps, p.2 ≠ zc ∧ p.2 ≠ to ∧ ∀ q ∈ ps, p.2 ≠ q.1
/-- the heap when j of the things are drawn -/
def ZI (s0 : Heap) (zc ti to : Addr) (ps : List (Addr × Addr)) (new old : List Value) (m j : Nat) (g : Heap) : Prop :=
  IsZip g zc ti to .ellipsis ∧ Tp g to (new.take j ++ old.drop j) ∧ (∀ (k : Nat) (p : Addr × Addr), ps[k]? = some p → g.IsListIter p.1 p.2 (if k < j then m + 1 else m)) ∧ g.objs.size = s0.objs.size ∧
    ∀ c o, c ≠ zc → c ≠ to → (∀ p ∈ ps, c ≠ p.1) → s0.get? c = some o → g.get? c = some o
section
variable {prog : Program} {w : World} {A : Around} {E : Value → Shared → Prop} {s : Shared} {zc ti to : Addr} {ps : List (Addr × Addr)} {m : Nat} {new old : List Value}
theorem set_step {j : Nat} {x : Value} {l : List Value} (hn : new[j]? = some x) (hl : l.length = new.length) (e : l = new.take j ++ old.drop j) (lo : old.length = new.length) : (l.toArray.setIfInBounds j x) = (new.take (j + 1) ++ old.drop (j + 1)).toArray := by
  subst e
  have lt : j < new.length := by
    rw [List.getElem?_eq_some_iff] at hn
    exact hn.1
  rw [List.setIfInBounds_toArray]
  congr 1
  apply List.ext_getElem?
  intro i
  rw [List.getElem?_set]
  have hx := (List.getElem?_eq_some_iff.mp hn).2
  by_cases h : j = i
  · subst h
    rw [if_pos rfl, if_pos (by rw [List.length_append, List.length_take, List.length_drop]; omega)]
    rw [List.getElem?_append_left (by rw [List.length_take]; omega), List.getElem?_take_of_lt (by omega), hn]
  · rw [if_neg h]
    by_cases h2 : i < j
    · rw [List.getElem?_append_left (by rw [List.length_take]; omega), List.getElem?_append_left (by rw [List.length_take]; omega), List.getElem?_take_of_lt h2, List.getElem?_take_of_lt (by omega)]
    · rw [List.getElem?_append_right (by rw [List.length_take]; omega), List.getElem?_append_right (by rw [List.length_take]; omega), List.getElem?_drop, List.getElem?_drop, List.length_take, List.length_take]
      congr 1
      omega
theorem zn_item {Q : Value → Shared → Prop} (D : ZA zc ti to ps) (gz : IsZip s.heap zc ti to .none) (gt : Tp s.heap ti (ps.map fun p => .ref p.1)) (go : Tp s.heap to old) (lo : old.length = ps.length) (ln : new.length = ps.length) (ne : ps ≠ [])
    (lz : ps.length ≤ 100) (ja : ∀ p ∈ ps, s.heap.IsListIter p.1 p.2 m) (hx : ∀ (k : Nat) (p : Addr × Addr), ps[k]? = some p → ∃ us x, s.heap.IsList p.2 us ∧ us[m]? = some x ∧ new[k]? = some x)
    (cont : ∀ g, IsZip g zc ti to (rawInt s.heap.objs.size) → Tp g to new → (∀ p ∈ ps, g.IsListIter p.1 p.2 (m + 1)) → Tp g s.heap.objs.size new → g.objs.size = s.heap.objs.size + 1 →
      (∀ c o, c ≠ zc → c ≠ to → (∀ p ∈ ps, c ≠ p.1) → s.heap.get? c = some o → g.get? c = some o) → Q (.ref s.heap.objs.size) { s with heap := g }) :
    wpAny (model prog w) A (Builtin.«zip.__next__» ⟨[.ref zc], []⟩) (fun fin r => ∃ y, fin = .done (.ret y) ∧ Q y r) E s := by
  have sl : (100 : Nat) ≤ sizeLine := by decide
  show wpAny _ _ (field (.ref zc) 2 >>= _) _ _ _
  refine wpAny_bind (wpAny_field gz rfl (x := .bool false) rfl ?_)
  show wpAny _ _ (field (.ref zc) 3 >>= _) _ _ _
  refine wpAny_bind (wpAny_field gz rfl (x := .ref ti) rfl (wpAny_bind (wpAny_seqItems gt rfl ?_)))
  have ne2 : ((ps.map fun p => Value.ref p.1).toArray).isEmpty = false := by
    cases ps with
    | nil => exact absurd rfl ne
    | cons p r => rfl
  simp only [ne2]
  show wpAny _ _ (Builtin.SmallTypes.ownedTupleIsFree (.ref zc) >>= _) _ _ _
  refine wpAny_bind (a_free gz ?_)
  simp only [if_true]
  refine wpAny_bind (wpAny_rule (wpAny_bind (wpAny_field gz rfl (x := .ref to) rfl ?_)))
  refine wpAny_bind (wpAny_setField_rec gz (by simp) fun g1 gz1 k1 => ?_)
  replace gz1 : IsZip g1 zc ti to .ellipsis := gz1
  refine wpAny_bind ?_
  refine wpAny_forIn_list _ (fun rest b s' => b.1 = none ∧ ∃ j g, j ≤ ps.length ∧ rest = (((ps.map fun p => Value.ref p.1).zipIdx).drop j) ∧ s' = { s with heap := g } ∧ ZI s.heap zc ti to ps new old m j g) _ ?_ ?_ _ _ ?_
  · rintro ⟨v, k⟩ rest b s' ⟨hb, j, g, jl, hr, rfl, z1, z2, z3, z4, z5⟩
    have lt : j < ps.length := by
      have h := congrArg List.length hr
      rw [List.length_cons, List.length_drop, List.length_zipIdx, List.length_map] at h
      omega
    rw [List.drop_eq_getElem_cons (by rw [List.length_zipIdx, List.length_map]; exact lt)] at hr
    injection hr with hr1 hr2
    rw [List.getElem_zipIdx, List.getElem_map] at hr1
    injection hr1 with hv hk
    have hk' : k = j := by omega
    subst hk' hv hr2
    have hp : ps[k]? = some ps[k] := List.getElem?_eq_getElem lt
    obtain ⟨us, x, q1, q2, q3⟩ := hx k _ hp
    have hm : ps[k] ∈ ps := List.getElem_mem lt
    obtain ⟨l1, l2, l3⟩ := D.ls _ hm
    obtain ⟨i1, i2, i3⟩ := D.it _ hm
    have jk := z3 k _ hp
    rw [if_neg (Nat.lt_irrefl _)] at jk
    have lk : g.IsList ps[k].2 us := Heap.IsList.at q1 fun o e => z5 _ o l1 l2 (fun q hq => l3 q hq) e
    refine wpAny_bind (wpAny_onRaise (?_ : wpAny _ _ (Builtin.SmallTypes.nextOf (.ref ps[k].1) >>= _) _ _ _))
    refine wpAny_bind (wpAny_nextOf_list_item (s := { s with heap := g }) jk lk q2 fun g2 ja2 k2 => wpAny_pure ?_)
    have go2 : Tp g2 to (new.take k ++ old.drop k) := k2.extBut _ _ (Ne.symm i3) z2
    have len : (new.take k ++ old.drop k).length = new.length := by rw [List.length_append, List.length_take, List.length_drop]; omega
    refine wpAny_bind (wpAny_seqItems go2 rfl ?_)
    refine wpAny_bind (wpAny_updateSeq go2 rfl ?_ (by rw [List.size_toArray, len]; omega) (by rw [Array.size_setIfInBounds, List.size_toArray, len]; omega))
    refine wpAny_bind (wpAny_letGo (wpAny_pure ?_))
    have k3 := Heap.SameBut.update (h := g2) (a := to) (f := Obj.mapSeq (·.setIfInBounds k x))
    have go3 : Tp (g2.update to (Obj.mapSeq (·.setIfInBounds k x))) to (new.take (k + 1) ++ old.drop (k + 1)) := by
      have e := Heap.get?_update_self (Obj.mapSeq (·.setIfInBounds k x)) go2 rfl
      unfold Tp
      rw [e, ← set_step q3 len rfl (by omega)]
      simp [Obj.mapSeq]
    refine ⟨rfl, k + 1, _, lt, rfl, rfl, k3.extBut _ _ (Ne.symm D.oz) (k2.extBut _ _ (Ne.symm i1) z1), go3, fun i p hi => ?_, ?_, fun c o n1 n2 n3 e => ?_⟩
    · have pm : p ∈ ps := List.mem_of_getElem? hi
      obtain ⟨p1, p2, p3⟩ := D.it _ pm
      have sh : ∀ {t}, g2.IsListIter p.1 p.2 t → (g2.update to (Obj.mapSeq (·.setIfInBounds k x))).IsListIter p.1 p.2 t := fun y => Heap.IsListIter.at y fun o e => k3.extBut _ _ p3 e
      by_cases h : i = k
      · subst h
        rw [hp] at hi
        cases hi
        rw [if_pos (Nat.lt_succ_self _)]
        exact sh ja2
      · have h1 := z3 i p hi
        have h2 : (if i < k + 1 then m + 1 else m) = if i < k then m + 1 else m := by
          by_cases h3 : i < k
          · rw [if_pos h3, if_pos (by omega)]
          · rw [if_neg h3, if_neg (by omega)]
        rw [h2]
        exact sh (Heap.IsListIter.at h1 fun o e => k2.extBut _ _ (fun y => h (D.nd _ _ _ _ hi hp y)) e)
    · rw [k3.1, k2.1]
      exact z4
    · exact k3.extBut _ _ n2 (k2.extBut _ _ (n3 _ hm) (z5 c o n1 n2 n3 e))
  · rintro b s' ⟨hb, j, g, jl, hr, rfl, z1, z2, z3, z4, z5⟩
    have je : j = ps.length := by
      have h := congrArg List.length hr
      rw [List.length_nil, List.length_drop, List.length_zipIdx, List.length_map] at h
      omega
    subst je
    rw [List.take_of_length_le (by omega), List.drop_eq_nil_of_le (by omega), List.append_nil] at z2
    rw [hb]
    refine wpAny_bind (wpAny_seqItems z2 rfl (wpAny_bind (wpAny_newTuple ?_ (by rw [List.toList_toArray]; omega))))
    have zlt : zc < g.objs.size := Heap.lt_size z1
    show wpAny _ _ (Builtin.SmallTypes.ownedTupleHandOut (.ref zc) (.ref g.objs.size) >>= _) _ _ _
    refine wpAny_bind ?_
    simp only [Builtin.SmallTypes.ownedTupleHandOut]
    have gz6 : IsZip (g.push { cls := .type "tuple", data := .seq new.toArray.toList.toArray }) zc ti to .ellipsis := Heap.get?_push_of_some _ z1
    refine wpAny_bind (wpAny_setField_rec gz6 (by simp) fun g7 gz7 k7 => ?_)
    replace gz7 : IsZip g7 zc ti to (rawInt g.objs.size) := gz7
    refine wpAny_setField_rec gz7 (by simp) fun g8 gz8 k8 => ?_
    replace gz8 : IsZip g8 zc ti to (rawInt g.objs.size) := gz8
    have lift : ∀ c o, c ≠ zc → g.get? c = some o → g8.get? c = some o := fun c o n1 e => k8.extBut _ _ n1 (k7.extBut _ _ n1 (Heap.get?_push_of_some _ e))
    have new8 : Tp g8 g.objs.size new := k8.extBut _ _ (Nat.ne_of_gt zlt) (k7.extBut _ _ (Nat.ne_of_gt zlt) (Heap.get?_push_size _ rfl))
    have sz8 : g8.objs.size = g.objs.size + 1 := by rw [k8.1, k7.1, Heap.size_push]
    rw [z4] at gz8 new8 sz8
    refine wpAny_pure ⟨_, rfl, (?_ : Q (.ref g.objs.size) _)⟩
    rw [z4]
    refine cont g8 gz8 (lift _ _ D.oz z2) (fun p hp => ?_) new8 sz8 fun c o n1 n2 n3 e => lift c o n1 (z5 c o n1 n2 n3 e)
    obtain ⟨i, hi⟩ := List.mem_iff_getElem?.mp hp
    have h1 := z3 i p hi
    rw [if_pos (List.getElem?_eq_some_iff.mp hi).1] at h1
    exact Heap.IsListIter.at h1 fun o e => lift _ o (D.it _ hp).1 e
  · refine ⟨rfl, 0, g1, Nat.zero_le _, ?_, rfl, gz1, ?_, fun k p hk => ?_, k1.1, fun c o n1 _ _ e => k1.extBut _ _ n1 e⟩
    · rw [List.drop_zero]
    · rw [List.take_zero, List.drop_zero, List.nil_append]
      exact k1.extBut _ _ D.oz go
    · rw [if_neg (Nat.not_lt_zero _)]
      have pm := List.mem_of_getElem? hk
      exact Heap.IsListIter.at (ja p pm) fun o e => k1.extBut _ _ (D.it p pm).1 e
theorem zn_end {Q : Fin → Shared → Prop} {p0 : Addr × Addr} {r : List (Addr × Addr)} {us : Array Value} (hh : A.handled = none) (D : ZA zc ti to ps) (gz : IsZip s.heap zc ti to .none) (gt : Tp s.heap ti (ps.map fun p => .ref p.1)) (go : Tp s.heap to old) (hp : ps = p0 :: r)
    (ja : s.heap.IsListIter p0.1 p0.2 m) (hx : s.heap.IsList p0.2 us) (en : us[m]? = none)
    (cont : ∀ g e, (∀ c o, c ≠ zc → c ≠ p0.1 → s.heap.get? c = some o → g.get? c = some o) → (∃ o, g.get? e = some o ∧ o.cls = .type "StopIteration") → E (.ref e) { s with heap := g }) :
    wpAny (model prog w) A (Builtin.«zip.__next__» ⟨[.ref zc], []⟩) Q E s := by
  have pm : p0 ∈ ps := by rw [hp]; exact List.mem_cons_self ..
  show wpAny _ _ (field (.ref zc) 2 >>= _) _ _ _
  refine wpAny_bind (wpAny_field gz rfl (x := .bool false) rfl ?_)
  show wpAny _ _ (field (.ref zc) 3 >>= _) _ _ _
  refine wpAny_bind (wpAny_field gz rfl (x := .ref ti) rfl (wpAny_bind (wpAny_seqItems gt rfl ?_)))
  have ne2 : ((ps.map fun p => Value.ref p.1).toArray).isEmpty = false := by
    subst hp
    rfl
  simp only [ne2]
  show wpAny _ _ (Builtin.SmallTypes.ownedTupleIsFree (.ref zc) >>= _) _ _ _
  refine wpAny_bind (a_free gz ?_)
  simp only [if_true]
  refine wpAny_bind (wpAny_rule (wpAny_bind (wpAny_field gz rfl (x := .ref to) rfl ?_)))
  refine wpAny_bind (wpAny_setField_rec gz (by simp) fun g1 gz1 k1 => ?_)
  replace gz1 : IsZip g1 zc ti to .ellipsis := gz1
  refine wpAny_bind ?_
  have el : ((ps.map fun p => Value.ref p.1).toArray.toList.zipIdx) = (Value.ref p0.1, 0) :: ((r.map fun p => Value.ref p.1).zipIdx 1) := by
    subst hp
    rw [List.toList_toArray, List.map_cons, List.zipIdx_cons]
  simp only [el, List.forIn_cons]
  refine wpAny_bind (wpAny_bind (wpAny_onRaise (?_ : wpAny _ _ (Builtin.SmallTypes.nextOf (.ref p0.1) >>= _) _ _ _)))
  obtain ⟨l1, l2, l3⟩ := D.ls _ pm
  obtain ⟨i1, i2, i3⟩ := D.it _ pm
  refine wpAny_bind (wpAny_nextOf_list_end (s := { s with heap := g1 }) hh (Heap.IsListIter.at ja fun o e => k1.extBut _ _ i1 e) (Heap.IsList.at hx fun o e => k1.extBut _ _ l1 e) en fun g2 e k2 he => ?_)
  obtain ⟨oe, e1, e2⟩ := he
  have gz2 : IsZip g2 zc ti to .ellipsis := k2 _ _ (Ne.symm i1) gz1
  have ne : e ≠ zc := fun x => by subst x; rw [gz2] at e1; cases e1; simp at e2
  refine wpAny_setField_rec gz2 (by simp) fun g3 _ k3 => cont g3 e (fun c o n1 n3 x => k3.extBut _ _ n1 (k2 _ _ n3 (k1.extBut _ _ n1 x))) ⟨oe, k3.extBut _ _ ne e1, e2⟩
theorem znN_item {Q : Option Value → Shared → Prop} (D : ZA zc ti to ps) (gz : IsZip s.heap zc ti to .none) (gt : Tp s.heap ti (ps.map fun p => .ref p.1)) (go : Tp s.heap to old) (lo : old.length = ps.length) (ln : new.length = ps.length) (ne : ps ≠ [])
    (lz : ps.length ≤ 100) (ja : ∀ p ∈ ps, s.heap.IsListIter p.1 p.2 m) (hx : ∀ (k : Nat) (p : Addr × Addr), ps[k]? = some p → ∃ us x, s.heap.IsList p.2 us ∧ us[m]? = some x ∧ new[k]? = some x)
    (cont : ∀ g, IsZip g zc ti to (rawInt s.heap.objs.size) → Tp g to new → (∀ p ∈ ps, g.IsListIter p.1 p.2 (m + 1)) → Tp g s.heap.objs.size new → g.objs.size = s.heap.objs.size + 1 →
      (∀ c o, c ≠ zc → c ≠ to → (∀ p ∈ ps, c ≠ p.1) → s.heap.get? c = some o → g.get? c = some o) → Q (some (.ref s.heap.objs.size)) { s with heap := g }) :
    wpAny (model prog w) A (pyNext (.ref zc)) Q E s := by
  have ty : s.TypeIs (.ref zc) "zip" := ⟨_, gz, rfl⟩
  unfold pyNext
  refine wpAny_bind (wpAny_attempt (wpAny_callSpecial?_slot (name := Str.ofString "__next__") ty F.slot_zip_next (wpAny_call_entry F.slot_zip_next ty F.entry_zip_next ?_ (F.args_zip_next_1 _))))
  exact zn_item D gz gt go lo ln ne lz ja hx fun g c1 c2 c3 c4 c5 c6 => wpAny_pure (cont g c1 c2 c3 c4 c5 c6)
theorem znN_end {Q : Option Value → Shared → Prop} {p0 : Addr × Addr} {r : List (Addr × Addr)} {us : Array Value} (hh : A.handled = none) (D : ZA zc ti to ps) (gz : IsZip s.heap zc ti to .none) (gt : Tp s.heap ti (ps.map fun p => .ref p.1)) (go : Tp s.heap to old) (hp : ps = p0 :: r)
    (ja : s.heap.IsListIter p0.1 p0.2 m) (hx : s.heap.IsList p0.2 us) (en : us[m]? = none)
    (cont : ∀ g, (∀ c o, c ≠ zc → c ≠ p0.1 → s.heap.get? c = some o → g.get? c = some o) → Q none { s with heap := g }) : wpAny (model prog w) A (pyNext (.ref zc)) Q E s := by
  have ty : s.TypeIs (.ref zc) "zip" := ⟨_, gz, rfl⟩
  unfold pyNext
  refine wpAny_bind (wpAny_attempt (wpAny_callSpecial?_slot (name := Str.ofString "__next__") ty F.slot_zip_next (wpAny_call_entry F.slot_zip_next ty F.entry_zip_next ?_ (F.args_zip_next_1 _))))
  refine zn_end hh D gz gt go hp ja hx en fun g e far he => ?_
  obtain ⟨oe, e1, e2⟩ := he
  exact wpAny_bind (wpAny_isInstance (T := "StopIteration") (b := true) ⟨oe, e1, e2⟩ isSubtype_stop (wpAny_pure (cont _ far)))
end
/-- one row of five lists -/
def rowV {α : Type} (i : Nat) (vss : List (List α)) : List α := vss.filterMap fun vs => vs[i]?
def ItN (K : PySem.W.Frag) (ls : List Addr) : L2.It where
  go i H := ∃ vss : List (List V), Paired (fun a vs => SqL K H a vs) ls vss ∧ ∀ vs ∈ vss, i < vs.length
  yld i H v H' := ∃ T xs, v = .ref T ∧ H T = none ∧ H' = upd H T (.tup xs) ∧ ∀ vss : List (List V), Paired (fun a vs => SqL K H a vs) ls vss → rowV i vss = xs
  stop i H := ∃ a r vs, ls = a :: r ∧ SqL K H a vs ∧ vs.length ≤ i
section
variable {X : Cx} {pins : List (Addr × Obj)} {σ : L2.St} {H : Hp} {s : Shared} {i : Nat}
theorem draw_all (I : Inv X pins σ H s) : ∀ {ls : List Addr} {vss : List (List V)}, Paired (fun a vs => SqL X.K H a vs) ls vss → (∀ vs ∈ vss, i < vs.length) →
    ∃ new : List Value, new.length = ls.length ∧ Vals (rowV i vss) new ∧ ∀ (k : Nat) (a : Addr), ls[k]? = some a → ∃ us x, s.heap.IsList a us ∧ us[i]? = some x ∧ new[k]? = some x
  | _, _, .nil, _ => ⟨[], rfl, .nil, fun k a e => by simp at e⟩
  | _, _, .cons (a := a) (b := vs) h r, hl => by
    obtain ⟨new, n1, n2, n3⟩ := draw_all I r fun x m => hl x (List.mem_cons_of_mem _ m)
    obtain ⟨us, ru, pu, _⟩ := I.list h
    have lt := hl vs List.mem_cons_self
    obtain ⟨u, eu, cu⟩ := ru.get (List.getElem?_eq_getElem lt)
    refine ⟨u :: new, by rw [List.length_cons, List.length_cons, n1], ?_, fun k b e => ?_⟩
    · rw [rowV, List.filterMap_cons, List.getElem?_eq_getElem lt]
      exact .cons cu n2
    · cases k with
      | zero =>
        rw [List.getElem?_cons_zero] at e
        cases e
        exact ⟨us.toArray, u, pu.isList, by simpa using eu, rfl⟩
      | succ k =>
        rw [List.getElem?_cons_succ] at e
        exact n3 k b e
theorem sq_all_one (I : Inv X pins σ H s) : ∀ {ls : List Addr} {vss wss : List (List V)}, Paired (fun a vs => SqL X.K H a vs) ls vss → Paired (fun a vs => SqL X.K H a vs) ls wss → vss = wss
  | _, _, _, .nil, .nil => rfl
  | _, _, _, .cons h r, .cons h2 r2 => by rw [I.list_inj h h2, sq_all_one I r r2]
end
def tnN (zc ti to : Addr) (ps : List (Addr × Addr)) (i : Nat) (h : Heap) : Prop := IsZip h zc ti to .none ∧ Tp h ti (ps.map fun p => .ref p.1) ∧ (∃ old, old.length = ps.length ∧ Tp h to old) ∧ ∀ p ∈ ps, h.IsListIter p.1 p.2 i
theorem turnN {P : Program} {w : World} {K : PySem.W.Frag} {elts : List Expr} {kk : Nat} {tpos : Pos} {zc ti to : Addr} {ps : List (Addr × Addr)} (D : ZA zc ti to ps) (ne : ps ≠ []) (lz : ps.length ≤ 100) :
    Turn P w K (.Tuple elts kk tpos) (ItN K (ps.map (·.2))) (zc :: ti :: to :: ps.map (·.1)) zc (tnN zc ti to ps) where
  mem := by simp
  obj := by
    intro i h st c hc
    obtain ⟨g1, g2, ⟨old, _, g3⟩, j1⟩ := st
    rcases List.mem_cons.mp hc with rfl | hc
    · exact ⟨_, g1, fun v e => nomatch e⟩
    rcases List.mem_cons.mp hc with rfl | hc
    · exact ⟨_, g2, fun v e => nomatch e⟩
    rcases List.mem_cons.mp hc with rfl | hc
    · exact ⟨_, g3, fun v e => nomatch e⟩
    obtain ⟨p, hp, rfl⟩ := List.mem_map.mp hc
    obtain ⟨o1, e1, _, f1⟩ := j1 p hp
    exact ⟨o1, e1, fun v e => by rw [f1] at e; cases e⟩
  keep := by
    intro i h h' st k
    obtain ⟨g1, g2, ⟨old, lo, g3⟩, j1⟩ := st
    exact ⟨k zc (by simp) _ g1, k ti (by simp) _ g2, ⟨old, lo, k to (by simp) _ g3⟩, fun p hp => Heap.IsListIter.at (j1 p hp) fun o e => k p.1 (by simp; exact .inr (.inr (.inr ⟨_, hp⟩))) o e⟩
  item := by
    intro X e1 e2 e3 hc i pins s σ H E I hf st hg
    subst e1 e2 e3
    obtain ⟨g1, g2, ⟨old, lo, g3⟩, j1⟩ := st
    obtain ⟨vss, q, hl⟩ := hg
    obtain ⟨new, n1, n2, n3⟩ := draw_all I q hl
    have zl : zc < s.heap.objs.size := Heap.lt_size g1
    rw [List.length_map] at n1
    refine znN_item D g1 g2 g3 lo n1 ne lz j1 (fun k p e => n3 k p.2 (by rw [List.getElem?_map, e]; rfl)) fun g gz gt ja nw sz far => ?_
    refine ⟨_, rfl, wpAny_letOwnedTupleGo_zip (s := { s with heap := g }) gz fun g' gz' sb => ?_⟩
    have new' : g'.get? s.heap.objs.size = some { cls := .type "tuple", data := .seq new.toArray } := (sb.2 _ (Nat.ne_of_gt zl)).trans nw
    have sl : (100 : Nat) ≤ sizeLine := by decide
    have rl := n2.length
    have ok : ObjOk X.prog X.w (upd H s.heap.objs.size (.tup (rowV i vss))) g' s.heap.objs.size (.tup (rowV i vss)) := ⟨by show (rowV i vss).length ≤ sizeLine; omega, new, n2, ⟨_, new', rfl, _, rfl⟩⟩
    have away : ∀ {c : Addr} {o : Obj}, c ∉ (zc :: ti :: to :: ps.map (·.1)) → s.heap.get? c = some o → g'.get? c = some o := fun {c o} no e => by
      have m1 : c ≠ zc := fun z => no (by simp [z])
      have m2 : c ≠ to := fun z => no (by simp [z])
      exact (sb.2 c m1).trans (far c o m1 m2 (fun p hp z => no (by rw [z]; simp; exact .inr (.inr (.inr ⟨_, hp⟩)))) e)
    have I1 : Inv X pins σ (upd H s.heap.objs.size (.tup (rowV i vss))) { s with heap := g' } :=
      I.turnedNew (t' := s.toks) (ch := zc :: ti :: to :: ps.map (·.1)) (fun c o no e => away no e) hf (Nat.le_refl _) ok
    refine ⟨.ref s.heap.objs.size, _, I1, rfl, ⟨_, _, rfl, I.hok.fresh (Nat.le_refl _), rfl, fun l h => by rw [sq_all_one I h q]⟩, ⟨gz', ?_, ⟨new, n1, ?_⟩, fun p hp => ?_⟩, fun c hcm => ?_⟩
    · exact (sb.2 _ D.tz).trans (far _ _ D.tz D.tto (fun p hp z => (D.it p hp).2.1 z.symm) g2)
    · exact (sb.2 _ D.oz).trans gt
    · exact Heap.IsListIter.at (ja p hp) fun o e => (sb.2 _ (D.it p hp).1).trans e
    · have lt : c < s.heap.objs.size := by
        rcases List.mem_cons.mp hcm with rfl | hcm
        · exact zl
        rcases List.mem_cons.mp hcm with rfl | hcm
        · exact Heap.lt_size g2
        rcases List.mem_cons.mp hcm with rfl | hcm
        · exact Heap.lt_size g3
        obtain ⟨p, hp, rfl⟩ := List.mem_map.mp hcm
        obtain ⟨o1, e1, _⟩ := j1 p hp
        exact Heap.lt_size e1
      rw [upd_ne (Nat.ne_of_lt lt)]
      exact (hf c hcm).1
  done := by
    intro X e1 e2 e3 hc i pins s σ H E I hf st hg
    subst e1 e2 e3
    obtain ⟨g1, g2, ⟨old, lo, g3⟩, j1⟩ := st
    obtain ⟨a, r, vs, el, q, en⟩ := hg
    obtain ⟨us, ru, pu, _⟩ := I.list q
    have n1 := ru.length
    cases hps : ps with
    | nil => exact absurd hps ne
    | cons p0 r0 =>
      rw [hps, List.map_cons] at el
      injection el with el1 el2
      subst el1
      have pm : p0 ∈ ps := by rw [hps]; exact List.mem_cons_self
      have g2' : Tp s.heap ti (ps.map fun p => .ref p.1) := g2
      refine znN_end (I.ok.hd hc) D g1 g2' g3 hps (j1 p0 pm) pu.isList (by simp; omega) fun g far => ⟨rfl, I.turnedL (t' := s.toks) (ch := zc :: ti :: to :: ps.map (·.1)) (fun c o no e =>
        far c o (fun z => no (by simp [z])) (fun z => no (by rw [z]; simp; exact .inr (.inr (.inr ⟨_, pm⟩)))) e) ?_⟩
      exact hf
  self := fun _ _ _ _ _ st q => wpAny_pyIter_zip st.1 q
section
variable {prog : Program} {w : World} {A : Around} {s : Shared} {E : Value → Shared → Prop}
theorem typeCall_zip_5 (a b c d e : Value) : checkTypeCall "zip" ⟨[a, b, c, d, e], []⟩ = pure () := by kernel_rfl
theorem newCall_zip_5 (a b c d e : Value) : checkBuiltinCall "zip.__new__" ⟨[.type "zip", a, b, c, d, e], []⟩ = pure () := by kernel_rfl
theorem args_object_init_6 (a b c d e f : Value) : argsOk "object.__init__" ⟨[a, b, c, d, e, f], []⟩ := by
  unfold argsOk; rw [signature?_of (id := "object.__init__") (n := ['_', '_', 't', 'i', 'n', 'i', '_', '_']) (o := ['t', 'c', 'e', 'j', 'b', 'o']) (by kernel_rfl) F.owner_object]; kernel_rfl
abbrev lit (a : Addr) : Obj := { cls := .type "list_iterator", data := .fields #[.ref a, .int 0 0] }
abbrev z51 (h : Heap) (a : Addr) : Heap := h.push (lit a)
abbrev z52 (h : Heap) (a b : Addr) : Heap := (z51 h a).push (lit b)
abbrev z53 (h : Heap) (a b c : Addr) : Heap := (z52 h a b).push (lit c)
abbrev z54 (h : Heap) (a b c d : Addr) : Heap := (z53 h a b c).push (lit d)
abbrev z55 (h : Heap) (a b c d e : Addr) : Heap := (z54 h a b c d).push (lit e)
abbrev z56 (h : Heap) (a b c d e : Addr) : Heap := (z55 h a b c d e).push { cls := .type "tuple", data := .seq #[.ref h.objs.size, .ref (z51 h a).objs.size, .ref (z52 h a b).objs.size, .ref (z53 h a b c).objs.size, .ref (z54 h a b c d).objs.size] }
abbrev z57 (h : Heap) (a b c d e : Addr) : Heap := (z56 h a b c d e).push { cls := .type "tuple", data := .seq #[.none, .none, .none, .none, .none] }
abbrev z58 (h : Heap) (a b c d e : Addr) : Heap := (z57 h a b c d e).push { cls := .type "zip", data := .fields #[.none, .bool false, .bool false, .ref (z55 h a b c d e).objs.size, .ref (z56 h a b c d e).objs.size] }
theorem new_zip5 (a b c d e : Addr) (u1 u2 u3 u4 u5 : Array Value) : Meets (Builtin.«zip.__new__» ⟨[.type "zip", .ref a, .ref b, .ref c, .ref d, .ref e], []⟩)
    (fun _ R s => s.heap.IsList a u1 ∧ s.heap.IsList b u2 ∧ s.heap.IsList c u3 ∧ s.heap.IsList d u4 ∧ s.heap.IsList e u5 ∧ R (.ok (.ret (.ref (z57 s.heap a b c d e).objs.size))) { s with heap := z58 s.heap a b c d e }) :=
  .of_wp fun prog w A R s ⟨h1, h2, h3, h4, h5, h⟩ => by
    obtain ⟨hp, gs, dr, tk, os⟩ := s
    have sub := sub_zip
    have t1 : Heap.IsList (Shared.heap ⟨hp, gs, dr, tk, os⟩) a u1 := h1
    have t2 : Heap.IsList (Shared.heap ⟨z51 hp a, gs, dr, tk, os⟩) b u2 := Heap.IsList.push h2 _
    have t3 : Heap.IsList (Shared.heap ⟨z52 hp a b, gs, dr, tk, os⟩) c u3 := Heap.IsList.push (Heap.IsList.push h3 _) _
    have t4 : Heap.IsList (Shared.heap ⟨z53 hp a b c, gs, dr, tk, os⟩) d u4 := Heap.IsList.push (Heap.IsList.push (Heap.IsList.push h4 _) _) _
    have t5 : Heap.IsList (Shared.heap ⟨z54 hp a b c d, gs, dr, tk, os⟩) e u5 := Heap.IsList.push (Heap.IsList.push (Heap.IsList.push (Heap.IsList.push h5 _) _) _) _
    wp_walk using wpAny_pyIter_list t1, wpAny_pyIter_list t2, wpAny_pyIter_list t3, wpAny_pyIter_list t4, wpAny_pyIter_list t5
    exact ⟨_, rfl, h⟩
theorem call_zip5 {a b c d e : Addr} {u1 u2 u3 u4 u5 : Array Value} {Q : Value → Shared → Prop} (h1 : s.heap.IsList a u1) (h2 : s.heap.IsList b u2) (h3 : s.heap.IsList c u3) (h4 : s.heap.IsList d u4) (h5 : s.heap.IsList e u5)
    (k : ∀ g, tnN (s.heap.objs.size + 7) (s.heap.objs.size + 5) (s.heap.objs.size + 6) [(s.heap.objs.size, a), (s.heap.objs.size + 1, b), (s.heap.objs.size + 2, c), (s.heap.objs.size + 3, d), (s.heap.objs.size + 4, e)] 0 g →
      (∀ c o, s.heap.get? c = some o → g.get? c = some o) → Q (.ref (s.heap.objs.size + 7)) { s with heap := g }) :
    wpAny (model prog w) A (call (.type "zip") [.ref a, .ref b, .ref c, .ref d, .ref e]) Q E s := by
  refine callType_new F.called_zip (by decide) (typeCall_zip_5 _ _ _ _ _) (newCall_zip_5 _ _ _ _ _) (fun o => args_object_init_6 o _ _ _ _ _) F.entry_zip_new (new_zip5 a b c d e u1 u2 u3 u4 u5) ⟨h1, h2, h3, h4, h5, ?_⟩
  have s1 : (z51 s.heap a).objs.size = s.heap.objs.size + 1 := Heap.size_push ..
  have s2 : (z52 s.heap a b).objs.size = s.heap.objs.size + 2 := (Heap.size_push ..).trans (by rw [s1])
  have s3 : (z53 s.heap a b c).objs.size = s.heap.objs.size + 3 := (Heap.size_push ..).trans (by rw [s2])
  have s4 : (z54 s.heap a b c d).objs.size = s.heap.objs.size + 4 := (Heap.size_push ..).trans (by rw [s3])
  have s5 : (z55 s.heap a b c d e).objs.size = s.heap.objs.size + 5 := (Heap.size_push ..).trans (by rw [s4])
  have s6 : (z56 s.heap a b c d e).objs.size = s.heap.objs.size + 6 := (Heap.size_push ..).trans (by rw [s5])
  have s7 : (z57 s.heap a b c d e).objs.size = s.heap.objs.size + 7 := (Heap.size_push ..).trans (by rw [s6])
  have o8 : (z58 s.heap a b c d e).get? (z57 s.heap a b c d e).objs.size = some _ := Heap.get?_push_size _ rfl
  have o7 : (z58 s.heap a b c d e).get? (z56 s.heap a b c d e).objs.size = some _ := Heap.get?_push_of_some _ (Heap.get?_push_size _ rfl)
  have o6 : (z58 s.heap a b c d e).get? (z55 s.heap a b c d e).objs.size = some _ := Heap.get?_push_of_some _ (Heap.get?_push_of_some _ (Heap.get?_push_size _ rfl))
  have o5 : (z58 s.heap a b c d e).get? (z54 s.heap a b c d).objs.size = some (lit e) := Heap.get?_push_of_some _ (Heap.get?_push_of_some _ (Heap.get?_push_of_some _ (Heap.get?_push_size _ rfl)))
  have o4 : (z58 s.heap a b c d e).get? (z53 s.heap a b c).objs.size = some (lit d) := Heap.get?_push_of_some _ (Heap.get?_push_of_some _ (Heap.get?_push_of_some _ (Heap.get?_push_of_some _ (Heap.get?_push_size _ rfl))))
  have o3 : (z58 s.heap a b c d e).get? (z52 s.heap a b).objs.size = some (lit c) := Heap.get?_push_of_some _ (Heap.get?_push_of_some _ (Heap.get?_push_of_some _ (Heap.get?_push_of_some _ (Heap.get?_push_of_some _ (Heap.get?_push_size _ rfl)))))
  have o2 : (z58 s.heap a b c d e).get? (z51 s.heap a).objs.size = some (lit b) := Heap.get?_push_of_some _ (Heap.get?_push_of_some _ (Heap.get?_push_of_some _ (Heap.get?_push_of_some _ (Heap.get?_push_of_some _ (Heap.get?_push_of_some _ (Heap.get?_push_size _ rfl))))))
  have o1 : (z58 s.heap a b c d e).get? s.heap.objs.size = some (lit a) := Heap.get?_push_of_some _ (Heap.get?_push_of_some _ (Heap.get?_push_of_some _ (Heap.get?_push_of_some _ (Heap.get?_push_of_some _ (Heap.get?_push_of_some _ (Heap.get?_push_of_some _ (Heap.get?_push_size _ rfl)))))))
  have old : ∀ x o, s.heap.get? x = some o → (z58 s.heap a b c d e).get? x = some o := fun x o e => Heap.get?_push_of_some _ (Heap.get?_push_of_some _ (Heap.get?_push_of_some _ (Heap.get?_push_of_some _ (Heap.get?_push_of_some _ (Heap.get?_push_of_some _ (Heap.get?_push_of_some _ (Heap.get?_push_of_some _ e)))))))
  rw [s1] at o2
  rw [s2] at o3
  rw [s3] at o4
  rw [s4] at o5
  rw [s5, s1, s2, s3, s4] at o6
  rw [s6] at o7
  rw [s7, s5, s6] at o8
  refine (?_ : _ ∧ _)
  rw [s7]
  refine ⟨⟨_, o8, rfl⟩, k _ ⟨o8, o6, ⟨[.none, .none, .none, .none, .none], rfl, o7⟩, fun p hp => ?_⟩ old⟩
  simp only [List.mem_cons, List.not_mem_nil, or_false] at hp
  rcases hp with rfl | rfl | rfl | rfl | rfl
  · exact ⟨_, o1, rfl, rfl⟩
  · exact ⟨_, o2, rfl, rfl⟩
  · exact ⟨_, o3, rfl, rfl⟩
  · exact ⟨_, o4, rfl, rfl⟩
  · exact ⟨_, o5, rfl, rfl⟩
end
def iZip5 (K : PySem.W.Frag) (ta : TA) : TI := fun σ H R => ta σ H fun vs H1 => ∃ a b c d e x1 x2 x3 x4 x5, vs = [.ref a, .ref b, .ref c, .ref d, .ref e] ∧ SqL K H1 a x1 ∧ SqL K H1 b x2 ∧ SqL K H1 c x3 ∧ SqL K H1 d x4 ∧ SqL K H1 e x5 ∧ R (ItN K [a, b, c, d, e]) H1
theorem za5 {n a b c d e : Nat} (h1 : a < n) (h2 : b < n) (h3 : c < n) (h4 : d < n) (h5 : e < n) : ZA (n + 7) (n + 5) (n + 6) [(n, a), (n + 1, b), (n + 2, c), (n + 3, d), (n + 4, e)] where
  tz := (by omega : n + 5 ≠ n + 7)
  oz := (by omega : n + 6 ≠ n + 7)
  tto := (by omega : n + 5 ≠ n + 6)
  it := by
    intro p hp
    simp only [List.mem_cons, List.not_mem_nil, or_false] at hp
    rcases hp with rfl | rfl | rfl | rfl | rfl
    · exact ⟨(by omega : n ≠ n + 7), (by omega : n ≠ n + 5), (by omega : n ≠ n + 6)⟩
    · exact ⟨(by omega : n + 1 ≠ n + 7), (by omega : n + 1 ≠ n + 5), (by omega : n + 1 ≠ n + 6)⟩
    · exact ⟨(by omega : n + 2 ≠ n + 7), (by omega : n + 2 ≠ n + 5), (by omega : n + 2 ≠ n + 6)⟩
    · exact ⟨(by omega : n + 3 ≠ n + 7), (by omega : n + 3 ≠ n + 5), (by omega : n + 3 ≠ n + 6)⟩
    · exact ⟨(by omega : n + 4 ≠ n + 7), (by omega : n + 4 ≠ n + 5), (by omega : n + 4 ≠ n + 6)⟩
  nd := by
    have key : ∀ (i : Nat) (p : Nat × Nat), [(n, a), (n + 1, b), (n + 2, c), (n + 3, d), (n + 4, e)][i]? = some p → p.1 = n + i := by
      intro i p hp
      match i with
      | 0 => cases hp; rfl
      | 1 => cases hp; rfl
      | 2 => cases hp; rfl
      | 3 => cases hp; rfl
      | 4 => cases hp; rfl
      | k + 5 => simp at hp
    intro i j p q hp hq e1
    exact Nat.add_left_cancel ((key i p hp).symm.trans (e1.trans (key j q hq)))
  ls := by
    have key : ∀ p ∈ [(n, a), (n + 1, b), (n + 2, c), (n + 3, d), (n + 4, e)], (p.2 : Nat) < n ∧ n ≤ (p.1 : Nat) := by
      intro p hp
      simp only [List.mem_cons, List.not_mem_nil, or_false] at hp
      rcases hp with rfl | rfl | rfl | rfl | rfl
      · exact ⟨h1, (by omega : n ≤ n)⟩
      · exact ⟨h2, (by omega : n ≤ n + 1)⟩
      · exact ⟨h3, (by omega : n ≤ n + 2)⟩
      · exact ⟨h4, (by omega : n ≤ n + 3)⟩
      · exact ⟨h5, (by omega : n ≤ n + 4)⟩
    intro p hp
    have l1 := (key p hp).1
    exact ⟨Nat.ne_of_lt (Nat.lt_of_lt_of_le l1 (Nat.le_add_right _ _)), Nat.ne_of_lt (Nat.lt_of_lt_of_le l1 (Nat.le_add_right _ _)), fun q hq => Nat.ne_of_lt (Nat.lt_of_lt_of_le l1 (key q hq).2)⟩
theorem pi_zip5 {X : Cx} {e e2 e3 e4 e5 : Expr} {ta : TA} {p pos tpos : Pos} {elts : List Expr} {kk : Nat} (hg : Gl X "zip") (hm : X.mg "zip" = none) (ha : PA X [e, e2, e3, e4, e5] ta)
    (h1 : starEach [e, e2, e3, e4, e5] X.env = (false, eval e X.env) :: starEach [e2, e3, e4, e5] X.env) (h2 : (backTo pos (starEach [e2, e3, e4, e5] X.env)).any (·.1) = false) : PI X (.Tuple elts kk tpos) (.Call (.Name "zip" p) [e, e2, e3, e4, e5] [] pos) (iZip5 X.K ta) := by
  refine ⟨fun pins s σ H R I h => Call_ (ld_blt I hg hm PyProof.Rows.boot_zip (PyProof.Rows.callWith_type1 (thn (ha.run pos pins s σ H _ I h) fun us s1 ⟨vs, H1, I1, r1, q1⟩ => ?_) h1 h2))⟩
  obtain ⟨a, b, c, d, e, x1, x2, x3, x4, x5, rfl, q1, q2, q3, q4, q5, q⟩ := q1
  cases r1 with | cons r r1 => cases r1 with | cons r' r1 => cases r1 with | cons r2 r1 => cases r1 with | cons r3 r1 => cases r1 with | cons r4 r1 =>
    cases r1
    cases r
    cases r'
    cases r2
    cases r3
    cases r4
    obtain ⟨_, _, p1, _⟩ := I1.list q1
    obtain ⟨_, _, p2, _⟩ := I1.list q2
    obtain ⟨_, _, p3, _⟩ := I1.list q3
    obtain ⟨_, _, p4, _⟩ := I1.list q4
    obtain ⟨_, _, p5, _⟩ := I1.list q5
    have lt : ∀ {a : Addr} {us : Array Value}, s1.heap.IsList a us → a < s1.heap.objs.size := fun h => by
      obtain ⟨o, e, _⟩ := h
      exact Heap.lt_size e
    refine call_zip5 p1.isList p2.isList p3.isList p4.isList p5.isList fun g tn far => wpAny_pyIter_zip tn.1 ?_
    have I2 : Inv X pins σ H1 { s1 with heap := g } := I1.kept (t' := s1.toks) far
    refine ⟨s1.heap.objs.size + 7, _, _, _, H1, rfl, I2, turnN (za5 (lt p1.isList) (lt p2.isList) (lt p3.isList) (lt p4.isList) (lt p5.isList)) (by simp) (by simp), tn, fun c hc => ?_, q⟩
    have le : s1.heap.objs.size ≤ c := by
      have hc2 : c = s1.heap.objs.size + 7 ∨ c = s1.heap.objs.size + 5 ∨ c = s1.heap.objs.size + 6 ∨ c = s1.heap.objs.size ∨ c = s1.heap.objs.size + 1 ∨ c = s1.heap.objs.size + 2 ∨ c = s1.heap.objs.size + 3 ∨ c = s1.heap.objs.size + 4 := by
        simpa only [List.mem_cons, List.map_cons, List.map_nil, List.not_mem_nil, or_false] using hc
      generalize s1.heap.objs.size = n at hc2 ⊢
      clear hc
      rcases hc2 with z | z | z | z | z | z | z | z <;> rw [z] <;> first | exact Nat.le_add_right _ _ | exact Nat.le_refl _
    exact I1.fpOk le (I1.hok.fresh le)
/-! in the layer -/
def zipN (tss : List (List D)) : List D := (List.range (tss.headD []).length).map fun i => .tuple (rowV i tss)
def zip5O (os : List O) : Option (List D) := match os with
  | [a, b, c, d, e] => (lstO a).bind fun t1 => (lstO b).bind fun t2 => (lstO c).bind fun t3 => (lstO d).bind fun t4 => (lstO e).bind fun t5 =>
    if t2.length = t1.length ∧ t3.length = t1.length ∧ t4.length = t1.length ∧ t5.length = t1.length then some (zipN [t1, t2, t3, t4, t5]) else none
  | _ => none
def zip5I (g : ASem) : ISem := fun env => (g env).bind fun p => (zip5O p.1).map fun ts => (ts, p.2)
section
variable {K : PySem.W.Frag} {S0 H0 S : Hp} {A : List Addr}
theorem row_fz {i : Nat} : ∀ {tss : List (List D)} {vss : List (List V)}, Paired (fun ts vs => FzL K S ts vs) tss vss → FzL K S (rowV i tss) (rowV i vss)
  | _, _, .nil => FzL.nil
  | _, _, .cons (a := ts) (b := vs) h r => by
    have ih := row_fz (i := i) r
    unfold rowV at ih ⊢
    rw [List.filterMap_cons, List.filterMap_cons]
    by_cases lt : i < ts.length
    · obtain ⟨v, hv, hz⟩ := h.get (List.getElem?_eq_getElem lt)
      rw [hv, List.getElem?_eq_getElem lt]
      exact FzL.cons hz ih
    · rw [List.getElem?_eq_none (by omega), List.getElem?_eq_none (by rw [h.len]; omega)]
      exact ih
theorem itN_ok {ls : List Addr} {tss : List (List D)} {vss : List (List V)} {n : Nat} (h : Paired (fun a vs => Keeps K S0 H0 A a vs) ls vss) (w : Paired (fun ts vs => FzL K S0 ts vs) tss vss) (hl : ∀ ts ∈ tss, ts.length = n) (ne : tss ≠ []) : ItOk K (ItN K ls) A S0 H0 (zipN tss) := by
  have hv : ∀ vs ∈ vss, vs.length = n := by
    clear h ne
    induction w with
    | nil => intro vs m; cases m
    | cons h r ih =>
      intro vs m
      rcases List.mem_cons.mp m with rfl | m
      · rw [h.len]
        exact hl _ List.mem_cons_self
      · exact ih (fun ts m => hl ts (List.mem_cons_of_mem _ m)) vs m
  have zl : (zipN tss).length = n := by
    unfold zipN
    rw [List.length_map, List.length_range]
    cases tss with
    | nil => exact absurd rfl ne
    | cons t r => exact hl t List.mem_cons_self
  have hs : ∀ {S H : Hp}, Same S0 S → Same S H → (∀ b ∈ A, H b = H0 b) → Paired (fun a vs => SqL K H a vs) ls vss := fun {S H} e1 e2 e3 => by
    clear w hl ne hv zl
    induction h with
    | nil => exact .nil
    | cons h r ih => exact .cons (h S H e1 e2 e3) ih
  refine ⟨fun S H i e1 e2 e3 hi => ⟨vss, hs e1 e2 e3, fun vs m => by rw [hv vs m]; omega⟩, fun S H i e1 e2 e3 hi => ?_, fun S H i t x H' e1 e2 e3 hi y => ?_⟩
  · cases w with
    | nil => exact absurd rfl ne
    | cons w1 wr =>
      cases h with
      | cons h1 hr => exact ⟨_, _, _, rfl, h1 S H e1 e2 e3, by rw [hv _ List.mem_cons_self]; omega⟩
  · obtain ⟨T, xs, rfl, hT, rfl, u⟩ := y
    have ux := u vss (hs e1 e2 e3)
    have et : t = .tuple (rowV i tss) := by
      unfold zipN at hi
      rw [List.getElem?_map] at hi
      obtain ⟨j, hj, rfl⟩ := Option.map_eq_some_iff.mp hi
      obtain ⟨lt, ej⟩ := List.getElem?_eq_some_iff.mp hj
      rw [List.getElem_range] at ej
      rw [ej]
    subst et ux
    have G := Gr.newS (o := .tup (rowV i vss)) e2 hT
    refine ⟨_, G, ?_⟩
    simp only [Fz]
    refine ⟨T, rowV i vss, rfl, upd_same, ?_⟩
    exact FzL.same G.sub (FzL.same e1 (row_fz w))
end
section
variable {X : Cx} {e e2 e3 e4 e5 : Expr} {g : ASem} {q : Bool} {pos p tpos : Pos} {elts : List Expr} {kk : Nat}
theorem si_zip5 (hg : Gl X "zip") (hm : X.mg "zip" = none) (h : SA X [e, e2, e3, e4, e5] g q) (hs : starEach [e, e2, e3, e4, e5] X.env = (false, eval e X.env) :: starEach [e2, e3, e4, e5] X.env := by rfl) (hpl : (backTo pos (starEach [e2, e3, e4, e5] X.env)).any (·.1) = false := by rfl) :
    SI X (.Tuple elts kk tpos) (.Call (.Name "zip" p) [e, e2, e3, e4, e5] [] pos) (zip5I g) := by
  refine ⟨PI.imp (pi_zip5 hg hm h.pa hs hpl) fun σ H R hh => ?_⟩
  obtain ⟨env, S, fp, ts, env', RR, he, k⟩ := hh
  unfold zip5I at he
  simp only [Option.bind_eq_some_iff] at he
  obtain ⟨⟨os, e1⟩, h1, h2⟩ := he
  simp only [Option.map_eq_some_iff, Prod.mk.injEq] at h2
  obtain ⟨ts', h2, rfl, rfl⟩ := h2
  unfold zip5O at h2
  split at h2
  · rename_i o1 o2 o3 o4 o5
    simp only [Option.bind_eq_some_iff] at h2
    obtain ⟨t1, q1, t2, q2, t3, q3, t4, q4, t5, q5, h2⟩ := h2
    split at h2
    · rename_i hlen
      cases h2
      obtain ⟨l2, l3, l4, l5⟩ := hlen
      refine ⟨env, S, fp, _, e1, RR, h1, fun vs S1 H1 fp1 fr R1 E1 w g n => ?_⟩
      obtain ⟨v1, r1, f1, g1, rfl, rfl, w1, w⟩ := w
      obtain ⟨v2, r2, f2, g2, rfl, rfl, w2, w⟩ := w
      obtain ⟨v3, r3, f3, g3, rfl, rfl, w3, w⟩ := w
      obtain ⟨v4, r4, f4, g4, rfl, rfl, w4, w⟩ := w
      obtain ⟨v5, r5, f5, g5, rfl, rfl, w5, w⟩ := w
      obtain ⟨rfl, rfl⟩ := w
      obtain ⟨a1, x1, rfl, y1, k1⟩ := lstO_keeps (A := f1 ++ (f2 ++ (f3 ++ (f4 ++ (f5 ++ []))))) R1.le w1 q1 fun _ m => by simp [m]
      obtain ⟨a2, x2, rfl, y2, k2⟩ := lstO_keeps (A := f1 ++ (f2 ++ (f3 ++ (f4 ++ (f5 ++ []))))) R1.le w2 q2 fun _ m => by simp [m]
      obtain ⟨a3, x3, rfl, y3, k3⟩ := lstO_keeps (A := f1 ++ (f2 ++ (f3 ++ (f4 ++ (f5 ++ []))))) R1.le w3 q3 fun _ m => by simp [m]
      obtain ⟨a4, x4, rfl, y4, k4⟩ := lstO_keeps (A := f1 ++ (f2 ++ (f3 ++ (f4 ++ (f5 ++ []))))) R1.le w4 q4 fun _ m => by simp [m]
      obtain ⟨a5, x5, rfl, y5, k5⟩ := lstO_keeps (A := f1 ++ (f2 ++ (f3 ++ (f4 ++ (f5 ++ []))))) R1.le w5 q5 fun _ m => by simp [m]
      have rf := fun b (_ : b ∈ f1 ++ (f2 ++ (f3 ++ (f4 ++ (f5 ++ []))))) => (rfl : H1 b = H1 b)
      refine ⟨a1, a2, a3, a4, a5, x1, x2, x3, x4, x5, rfl, k1 S1 H1 (Same.refl _) R1.le rf, k2 S1 H1 (Same.refl _) R1.le rf, k3 S1 H1 (Same.refl _) R1.le rf, k4 S1 H1 (Same.refl _) R1.le rf, k5 S1 H1 (Same.refl _) R1.le rf,
        k _ S1 H1 fp1 _ R1 E1 (itN_ok (n := t1.length) (.cons k1 (.cons k2 (.cons k3 (.cons k4 (.cons k5 .nil))))) (.cons y1 (.cons y2 (.cons y3 (.cons y4 (.cons y5 .nil))))) (fun ts m => ?_) (fun z => nomatch z)) fun b m => ⟨?_, n.off b m⟩⟩
      · simp only [List.mem_cons, List.not_mem_nil, or_false] at m
        rcases m with rfl | rfl | rfl | rfl | rfl
        · rfl
        · exact l2
        · exact l3
        · exact l4
        · exact l5
      · simp only [List.mem_append, List.not_mem_nil, or_false] at m
        rcases m with z | z | z | z | z
        · exact w1.some b z
        · exact w2.some b z
        · exact w3.some b z
        · exact w4.some b z
        · exact w5.some b z
    · cases h2
  · cases h2
end
/-! the plain side -/
def Zp5 (os : List O) (Q : List D → Prop) (_h : Hold Q := ⟨⟩) : Prop := O1 (zip5O os) Q
section
variable {env : Mv.Env} {g : ASem} {t1 t2 t3 t4 t5 : List D} {Q : List D → Prop}
theorem w_zip5 {Q : List D → Mv.Env → Prop} : Wi (zip5I g) env Q ↔ Wa g env fun os e => Zp5 os fun ts => Q ts e := by
  unfold Wi Wa zip5I Zp5
  cases h : g env with
  | none => exact Iff.rfl
  | some p =>
    obtain ⟨os, e⟩ := p
    simp only [Option.bind_some, o2_s]
    cases zip5O os <;> exact Iff.rfl
theorem zp5_l (h : t2.length = t1.length ∧ t3.length = t1.length ∧ t4.length = t1.length ∧ t5.length = t1.length) : Zp5 [.leaf (.list t1), .leaf (.list t2), .leaf (.list t3), .leaf (.list t4), .leaf (.list t5)] Q ↔ Q (zipN [t1, t2, t3, t4, t5]) := by
  unfold Zp5 zip5O
  simp only [lstO, Option.bind_some, if_pos h]
  exact Iff.rfl
theorem zipN_map {α : Type} {fs : List (α → D)} {ns : List α} (hf : fs ≠ []) : zipN (fs.map fun f => ns.map f) = ns.map fun n => .tuple (fs.map fun f => f n) := by
  have hl : ((fs.map fun f => ns.map f).headD []).length = ns.length := by
    cases fs with
    | nil => exact absurd rfl hf
    | cons f r => exact List.length_map _
  unfold zipN
  rw [hl]
  apply List.ext_getElem
  · rw [List.length_map, List.length_map, List.length_range]
  · intro i h1 h2
    rw [List.length_map, List.length_range] at h1
    rw [List.getElem_map, List.getElem_map, List.getElem_range]
    congr 1
    unfold rowV
    rw [List.filterMap_map]
    have e : ((fun vs : List D => vs[i]?) ∘ fun f : α → D => ns.map f) = fun f => some (f ns[i]) := by
      funext f
      show (ns.map f)[i]? = _
      rw [List.getElem?_map, List.getElem?_eq_getElem h1]
      rfl
    rw [e]
    exact congrFun List.filterMap_eq_map' _
end
end Mv

set_option Elab.async false
set_option linter.all false
set_option maxRecDepth 100000
set_option maxHeartbeats 4000000
noncomputable section
namespace L02
open PySem PySem.Spec PyProof.Rows L2 Mv
abbrev FnP (K : PySem.W.Frag) (x : Str) (st : Stmt) (f : Addr) (fd : FuncData) : Prop := FunD K x x (defArgs st) (defBody st) (defScope st) [] [] f fd
def b_l_begin : SSem := (seq (setS 1 true (un (sliceE true (varE 0) (cstE .none) (intE (cstE (.int 63)))) oList))
  (seq (ifS (asB (bin true (varE 1) (lstE nilA) (vw2 (eqI false)))) (setS 1 true (lstE (consA true (cstE (.int 11)) nilA))) skip)
  (retS true (dispE (⟨.inr "cells", true, (mvE 1)⟩ :: (⟨.inr "turn", true, (cstE (.int 0))⟩ :: []))))))
def g_l_begin : Def := runDef 1 2 [] b_l_begin
def b_l_take : SSem := (seq (setS 2 true (bin true (plE 0 (.key (.inr "turn"))) (cstE (.int 1)) oAdd))
  (seq (asgS (gSubP 0 .top (cstE (.str "turn")) gSet) (varE 2))
  (seq (setS 3 true (bin true (varE 2) (un (plE 0 (.key (.inr "cells"))) oLen) (vw2 modI)))
  (seq (setS 4 true (bin true (plE 0 (.key (.inr "cells"))) (varE 3) oIx))
  (seq (ifS (asB (bin true (varE 4) (bin true (cstE (.int 10)) (cstE (.int 18)) (vw2 powI)) (vw2 (ordI .ge)))) (seq (asgS (gT 2 (gCn (gSubP 0 (.key (.inr "cells")) (varE 3) gSet) (gCn (gN 5) gNl))) (bin true (varE 4) (varE 1) oDivmod))
  (retS false (varE 5))) skip)
  (seq (setS 6 true (bin true (bin true (bin true (bin true (bin true (varE 4) (cstE (.int 2147483629)) (vw2 modI)) (bin true (bin true (varE 2) (varE 2) (vw2 mulI)) (cstE (.int 7919)) (vw2 mulI)) oAdd) (cstE (.int 11)) oAdd) (cstE (.int 48271)) (vw2 mulI)) (cstE (.int 2147483647)) (vw2 modI)))
  (seq (setS 6 true (bin true (bin true (varE 6) (varE 6) (vw2 mulI)) (cstE (.int 2147483587)) (vw2 modI)))
  (retS true (bin true (bin true (bin true (bin true (bin true (varE 6) (bin true (varE 2) (cstE (.int 104729)) (vw2 mulI)) oAdd) (cstE (.int 69621)) (vw2 mulI)) (cstE (.int 2147483629)) (vw2 modI)) (cstE (.int 64)) (vw2 divI)) (varE 1) (vw2 modI))))))))))
def g_l_take : Def := runDef 2 7 [] b_l_take
def b_l_number : SSem := (seq (ifS (asB (bin true (varE 1) (cstE (.int 2)) (vw2 (ordI .lt)))) (retS true (callF g_l_take (.v 0 :: (.e true (bin true (lstE (consA true (cstE (.int 4)) (consA true (cstE (.int 1000001)) nilA))) (varE 1) oIx) :: [])))) skip)
  (seq (setS 2 true (cstE (.int 0)))
  (seq (forS (rng1 (consA true (cstE (.int 5)) nilA)) (gN 3) (setS 2 true (bin true (bin true (varE 2) (bin true (cstE (.int 10)) (cstE (.int 6)) (vw2 powI)) (vw2 mulI)) (callF g_l_take (.v 0 :: (.e true (bin true (cstE (.int 10)) (cstE (.int 6)) (vw2 powI)) :: []))) oAdd)))
  (retS false (varE 2)))))
def g_l_number : Def := runDef 2 4 [] b_l_number
def b_l_set : SSem := (seq (parS [1, 2, 3] (consA true (callF g_l_take (.v 0 :: (.e true (cstE (.int 3)) :: []))) (consA true (lstE nilA) (consA true (bin true (lstE (consA true (cstE (.int 0)) (consA true (callF g_l_take (.v 0 :: (.e true (cstE (.int 9)) :: []))) nilA))) (callF g_l_take (.v 0 :: (.e true (cstE (.int 2)) :: []))) oIx) nilA))))
  (seq (forS (rng1 (consA true (bin true (lstE (consA true (cstE (.int 24)) (consA true (callF g_l_take (.v 0 :: (.e true (cstE (.int 25)) :: []))) (consA true (callF g_l_take (.v 0 :: (.e true (cstE (.int 4)) :: []))) nilA)))) (callF g_l_take (.v 0 :: (.e true (cstE (.int 3)) :: []))) oIx) nilA)) (gN 4) (seq (setS 5 true (frzE (bin false (varE 3) (bin true (lstE (consA true (cstE (.int 0)) (consA true (callF g_l_take (.v 0 :: (.e true (cstE (.int 4)) :: []))) (consA true (frzE (callF g_l_number (.v 0 :: (.e false (varE 1) :: [])))) nilA)))) (callF g_l_take (.v 0 :: (.e true (cstE (.int 3)) :: []))) oIx) oAdd)))
  (seq (dropS (mutE 2 .top (consA true (tupE (consA false (varE 3) (consA false (varE 5) nilA))) nilA) gAppend))
  (setS 3 true (bin true (bin true (varE 5) (cstE (.int 2)) oAdd) (bin true (lstE (consA true (cstE (.int 0)) (consA true (callF g_l_take (.v 0 :: (.e true (cstE (.int 3)) :: []))) (consA true (frzE (callF g_l_number (.v 0 :: (.e false (varE 1) :: [])))) nilA)))) (callF g_l_take (.v 0 :: (.e true (cstE (.int 3)) :: []))) oIx) oAdd)))))
  (retV 2)))
def g_l_set : Def := runDef 1 6 [] b_l_set
def b_l_near : SSem := (seq (ifS (orT (asB (bin true (varE 1) (lstE nilA) (vw2 (eqI false)))) (asB (bin true (callF g_l_take (.v 0 :: (.e true (cstE (.int 3)) :: []))) (cstE (.int 0)) (vw2 (eqI false))))) (retS true (callF g_l_set (.v 0 :: []))) skip)
  (seq (parS [2, 3] (consA true (lstE nilA) (consA true (cstE (.int 0)) nilA)))
  (seq (forS (seqI true (sliceE true (varE 1) (cstE .none) (intE (cstE (.int 23))))) (gT 2 (gCn (gN 4) (gCn (gN 5) gNl))) (seq (parS [4, 5] (consA true (bin true (bin false (varE 4) (callF g_l_take (.v 0 :: (.e true (cstE (.int 3)) :: []))) oAdd) (cstE (.int 1)) (vw2 subI)) (consA true (bin true (bin false (varE 5) (callF g_l_take (.v 0 :: (.e true (cstE (.int 3)) :: []))) oAdd) (cstE (.int 1)) (vw2 subI)) nilA)))
  (ifS (andT (asB (bin true (varE 4) (varE 3) (vw2 (ordI .ge)))) (andT (asB (bin true (varE 5) (varE 4) (vw2 (ordI .ge)))) (asB (bin true (callF g_l_take (.v 0 :: (.e true (cstE (.int 4)) :: []))) (cstE (.int 0)) (vw2 (ordI .gt)))))) (seq (dropS (mutE 2 .top (consA true (tupE (consA false (varE 4) (consA false (varE 5) nilA))) nilA) gAppend))
  (setS 3 true (bin true (varE 5) (cstE (.int 2)) oAdd))) skip)))
  (retS true (binV 2 (bin true (lstE (consA true (tupE (consA true (frzE (bin true (varE 3) (bin true (bin true (varE 1) (un (cstE (.int 1)) (vw1 negI)) oIx) (cstE (.int 1)) oIx) oAdd)) (consA true (bin true (bin true (varE 3) (bin true (bin true (varE 1) (un (cstE (.int 1)) (vw1 negI)) oIx) (cstE (.int 1)) oIx) oAdd) (cstE (.int 3)) oAdd) nilA))) nilA)) (callF g_l_take (.v 0 :: (.e true (cstE (.int 2)) :: []))) oMul) oAdd)))))
def g_l_near : Def := runDef 2 6 [] b_l_near
def b_l_flags : SSem := (seq (parS [2, 3] (consA true (lstE nilA) (consA true (cstE (.int 0)) nilA)))
  (seq (forS (seqI false (varE 1)) (gN 4) (seq (whileS 1000000 (andT (asB (bin true (varE 3) (un (varE 0) oLen) (vw2 (ordI .lt)))) (asB (bin true (bin true (bin true (varE 0) (varE 3) oIx) (cstE (.int 1)) oIx) (varE 4) (vw2 (ordI .lt))))) (setS 3 true (bin true (varE 3) (cstE (.int 1)) oAdd)))
  (dropS (mutE 2 .top (consA true (andE (bin true (varE 3) (un (varE 0) oLen) (vw2 (ordI .lt))) (bin true (bin true (bin true (varE 0) (varE 3) oIx) (cstE (.int 0)) oIx) (varE 4) (vw2 (ordI .le)))) nilA) gAppend))))
  (retV 2)))
def g_l_flags : Def := runDef 2 5 [] b_l_flags
def b_l_is_set : SSem := (seq (ifS (notT (asB (un (varE 0) (vw1 (isaI .list))))) (retS true (cstE (.bool false))) skip)
  (seq (forS (seqI false (varE 0)) (gN 1) (seq (ifS (orT (notT (asB (un (varE 1) (vw1 (isaI .tuple))))) (asB (bin true (un (varE 1) oLen) (cstE (.int 2)) (vw2 (eqI true))))) (retS true (cstE (.bool false))) skip)
  (seq (ifS (notT (asB (un (compE (seqI false (varE 1)) (gN 2) yesT (andE (un (varE 2) (vw1 (isaI .int))) (andE (notE (un (varE 2) (vw1 (isaI .bool)))) (bin true (varE 2) (cstE (.int 0)) (vw2 (ordI .ge))))) [2]) oAll))) (retS true (cstE (.bool false))) skip)
  (ifS (asB (bin true (bin true (varE 1) (cstE (.int 0)) oIx) (bin true (varE 1) (cstE (.int 1)) oIx) (vw2 (ordI .gt)))) (retS true (cstE (.bool false))) skip))))
  (retS true (un (compE (zipI (consA false (varE 0) (consA true (sliceE true (varE 0) (intE (cstE (.int 1))) (cstE .none)) nilA))) (gT 2 (gCn (gN 2) (gCn (gN 3) gNl))) yesT (bin true (bin true (bin true (varE 2) (cstE (.int 1)) oIx) (cstE (.int 1)) oAdd) (bin true (varE 3) (cstE (.int 0)) oIx) (vw2 (ordI .lt))) [2, 3]) oAll))))
def g_l_is_set : Def := runDef 1 4 [] b_l_is_set
def b_l_probes : SSem := (seq (setS 1 true (dispE (⟨.inl 0, true, (cstE (.bool true))⟩ :: [])))
  (seq (forS (seqI false (varE 0)) (gN 2) (forS (seqI false (varE 2)) (gT 2 (gCn (gN 3) (gCn (gN 4) gNl))) (dropS (mutE 1 .top (consA true (lstE (consA true (tupE (consA true (bin true (cstE (.int 0)) (bin true (varE 3) (cstE (.int 1)) (vw2 subI)) (vw2 max2I)) (consA true (cstE (.bool true)) nilA))) (consA true (tupE (consA false (varE 3) (consA true (cstE (.bool true)) nilA))) (consA true (tupE (consA false (varE 4) (consA true (cstE (.bool true)) nilA))) (consA true (tupE (consA true (bin true (varE 4) (cstE (.int 1)) oAdd) (consA true (cstE (.bool true)) nilA))) nilA))))) nilA) gUpdate))))
  (retS true (un (un (varE 1) oListK) oSort))))
def g_l_probes : Def := runDef 1 5 [] b_l_probes
def b_both_of : SSem := (seq (setS 2 true (lstE nilA))
  (seq (setS 3 true (cstE (.int 0)))
  (seq (setS 4 true (cstE (.int 0)))
  (seq (whileS 1000000 (andT (asB (bin true (varE 3) (un (varE 0) oLen) (vw2 (ordI .lt)))) (asB (bin true (varE 4) (un (varE 1) oLen) (vw2 (ordI .lt))))) (seq (parS [5, 6] (consA true (bin true (bin true (bin true (varE 0) (varE 3) oIx) (cstE (.int 0)) oIx) (bin true (bin true (varE 1) (varE 4) oIx) (cstE (.int 0)) oIx) (vw2 max2I)) (consA true (bin true (bin true (bin true (varE 0) (varE 3) oIx) (cstE (.int 1)) oIx) (bin true (bin true (varE 1) (varE 4) oIx) (cstE (.int 1)) oIx) (vw2 min2I)) nilA)))
  (seq (ifS (asB (bin true (varE 5) (varE 6) (vw2 (ordI .le)))) (dropS (mutE 2 .top (consA true (tupE (consA false (varE 5) (consA false (varE 6) nilA))) nilA) gAppend)) skip)
  (ifS (asB (bin true (bin true (bin true (varE 0) (varE 3) oIx) (cstE (.int 1)) oIx) (bin true (bin true (varE 1) (varE 4) oIx) (cstE (.int 1)) oIx) (vw2 (ordI .lt)))) (augS 3 (cstE (.int 1)) (vw2 addII)) (augS 4 (cstE (.int 1)) (vw2 addII))))))
  (retV 2)))))
def g_both_of : Def := runDef 2 7 [] b_both_of
def b_set_of : SSem := (seq (setS 1 true (lstE nilA))
  (seq (forS (seqI true (un (varE 0) oSort)) (gT 2 (gCn (gN 2) (gCn (gN 3) gNl))) (seq (ifS (asB (bin true (varE 2) (varE 3) (vw2 (ordI .gt)))) contS skip)
  (ifS (andT (asB (bin true (varE 1) (lstE nilA) (vw2 (eqI true)))) (asB (bin true (varE 2) (bin true (bin true (bin true (varE 1) (un (cstE (.int 1)) (vw1 negI)) oIx) (cstE (.int 1)) oIx) (cstE (.int 1)) oAdd) (vw2 (ordI .le))))) (asgS (gSubP 1 .top (un (cstE (.int 1)) (vw1 negI)) gSet) (tupE (consA true (bin true (bin true (varE 1) (un (cstE (.int 1)) (vw1 negI)) oIx) (cstE (.int 0)) oIx) (consA true (bin true (varE 3) (bin true (bin true (varE 1) (un (cstE (.int 1)) (vw1 negI)) oIx) (cstE (.int 1)) oIx) (vw2 max2I)) nilA)))) (dropS (mutE 1 .top (consA true (tupE (consA false (varE 2) (consA false (varE 3) nilA))) nilA) gAppend)))))
  (retV 1)))
def g_set_of : Def := runDef 1 4 [] b_set_of
def b_either : SSem := (retS true (callF g_set_of (.e true (frzE (bin true (un (varE 0) oList) (un (varE 1) oList) oAdd)) :: [])))
def g_either : Def := runDef 2 2 [] b_either
def b_without : SSem := (seq (setS 2 true (lstE nilA))
  (seq (forS (seqI false (varE 0)) (gT 2 (gCn (gN 3) (gCn (gN 4) gNl))) (seq (forS (seqI false (varE 1)) (gT 2 (gCn (gN 5) (gCn (gN 6) gNl))) (ifS (andT (asB (bin true (varE 5) (varE 4) (vw2 (ordI .le)))) (asB (bin true (varE 6) (varE 3) (vw2 (ordI .ge))))) (seq (ifS (asB (bin true (varE 3) (varE 5) (vw2 (ordI .lt)))) (dropS (mutE 2 .top (consA true (tupE (consA false (varE 3) (consA true (bin true (varE 5) (cstE (.int 1)) (vw2 subI)) nilA))) nilA) gAppend)) skip)
  (setS 3 true (bin true (varE 6) (cstE (.int 1)) oAdd))) skip))
  (ifS (asB (bin true (varE 3) (varE 4) (vw2 (ordI .le)))) (dropS (mutE 2 .top (consA true (tupE (consA false (varE 3) (consA false (varE 4) nilA))) nilA) gAppend)) skip)))
  (retV 2)))
def g_without : Def := runDef 2 7 [] b_without
def b_l_right : SSem := (seq (setS 2 true (frzE (lstE (consA true (frzE (callF g_either (.e false (varE 0) :: (.e false (varE 1) :: [])))) (consA true (frzE (callF g_both_of (.e false (varE 0) :: (.e false (varE 1) :: [])))) (consA true (frzE (callF g_without (.e false (varE 0) :: (.e false (varE 1) :: [])))) nilA))))))
  (seq (ifS (notT (asB (un (compE (seqI false (varE 2)) (gN 10) yesT (callF g_l_is_set (.e false (varE 10) :: [])) [10]) oAll))) (retS true (cstE (.bool false))) skip)
  (seq (setS 3 true (frzE (callF g_l_probes (.e true (frzE (bin true (lstE (consA false (varE 0) (consA false (varE 1) nilA))) (varE 2) oAdd)) :: []))))
  (seq (setS 4 true (compE (seqI true (bin true (lstE (consA false (varE 0) (consA false (varE 1) nilA))) (varE 2) oAdd)) (gN 10) yesT (frzE (callF g_l_flags (.e false (varE 10) :: (.e false (varE 3) :: [])))) [10]))
  (fzS 4 (seq (forS (zip5I (consA true (bin true (varE 4) (cstE (.int 0)) oIx) (consA true (bin true (varE 4) (cstE (.int 1)) oIx) (consA true (bin true (varE 4) (cstE (.int 2)) oIx) (consA true (bin true (varE 4) (cstE (.int 3)) oIx) (consA true (bin true (varE 4) (cstE (.int 4)) oIx) nilA)))))) (gT 5 (gCn (gN 5) (gCn (gN 6) (gCn (gN 7) (gCn (gN 8) (gCn (gN 9) gNl)))))) (ifS (asB (bin true (lstE (consA false (varE 7) (consA false (varE 8) (consA false (varE 9) nilA)))) (lstE (consA false (orE (varE 5) (varE 6)) (consA false (andE (varE 5) (varE 6)) (consA true (andE (varE 5) (notE (varE 6))) nilA)))) (vw2 (eqI true)))) (retS true (cstE (.bool false))) skip))
  (retS true (cstE (.bool true)))))))))
def g_l_right : Def := runDef 2 11 [] b_l_right
def b_law : SSem := (seq (setS 1 true (callF g_l_begin (.e false (varE 0) :: [])))
  (seq (forS (rng1 (consA true (cstE (.int 4)) nilA)) (gN 2) (seq (setS 3 true (frzE (callF g_l_set (.v 1 :: []))))
  (seq (setS 4 true (frzE (callF g_l_near (.v 1 :: (.e false (varE 3) :: [])))))
  (seq (parS [5, 6] (consA true (un (lstE (consA false (varE 3) (consA false (varE 4) nilA))) (vw1 strI)) (consA true (bin true (lstE (consA false (varE 3) (consA true (un (varE 3) oTuple) nilA))) (callF g_l_take (.v 1 :: (.e true (cstE (.int 2)) :: []))) oIx) nilA)))
  (seq (ifS (orT (notT (asB (callF g_l_right (.e false (varE 6) :: (.e false (varE 4) :: []))))) (orT (notT (asB (callF g_l_right (.e false (varE 4) :: (.e false (varE 6) :: []))))) (notT (asB (callF g_l_right (.e false (varE 3) :: (.e false (varE 3) :: []))))))) (retS true (cstE (.bool false))) skip)
  (seq (ifS (orT (notT (asB (callF g_l_right (.e false (varE 3) :: (.e true (frzE (lstE nilA)) :: []))))) (orT (notT (asB (callF g_l_right (.e true (frzE (lstE nilA)) :: (.e true (un (varE 3) oTuple) :: []))))) (asB (bin true (un (lstE (consA false (varE 3) (consA false (varE 4) nilA))) (vw1 strI)) (varE 5) (vw2 (eqI true)))))) (retS true (cstE (.bool false))) skip)
  (seq (setS 7 true (frzE (callF g_either (.e false (varE 3) :: (.e false (varE 4) :: [])))))
  (ifS (orT (notT (asB (callF g_l_right (.e false (varE 7) :: (.e true (frzE (callF g_both_of (.e false (varE 3) :: (.e false (varE 4) :: [])))) :: []))))) (notT (asB (callF g_l_right (.e true (frzE (callF g_without (.e false (varE 7) :: (.e false (varE 3) :: [])))) :: (.e false (varE 4) :: [])))))) (retS true (cstE (.bool false))) skip))))))))
  (retS true (cstE (.bool true)))))
def g_law : Def := runDef 1 8 [] b_law
theorem sc_l_begin : FnScope ["_law_script", "_law_cells"] ["_law_script"] (defScope s_l_begin) := ⟨rfl, rfl, rfl, by decide +kernel, rfl, by decide +kernel, by decide +kernel⟩
theorem ok_l_begin {P : Program} {w : World} {K : PySem.W.Frag} {mg : Str → Option Value} {base : Heap} {f : Addr} {fd : FuncData} (F : FnP K "_law_begin" s_l_begin f fd) (hm : mg "_law_begin" = some (.ref f)) (n_list : mg "list" = none) : Cal P w K mg base 1 "_law_begin" ["_law_script"] g_l_begin := by
  refine cal_mk (asg := [1]) F hm (F.bindsN fun _ _ _ _ _ _ us hl => match us, hl with | [_], _ => rfl) sc_l_begin rfl rfl ?hrb fun cdv A outer s H E hcd hr => ?hb
  case hb =>
    have hN := sc_l_begin.nd
    have hu : (A.deeper (envOfC "_law_begin" (defScope s_l_begin) s.heap.objs.size f cdv)).units + 100 < cLine := by have := hr.un; omega
    have hu1 : (A.deeper (envOfC "_law_begin" (defScope s_l_begin) s.heap.objs.size f cdv)).units + 1 < cLine := by have := hr.un; omega
    exact sss_imp (sss_cons (ss_set hN rfl (.inl rfl) (se_t1 call_list_of ro_list rfl n_list (by decide +kernel) (se_slice (se_pv (pv 0)) so_none (so_some se_int) (fun _ => .inr rfl))))
  (sss_cons (ss_if (st_cmp (Mv.op_eqD hu) ro_eq (se_pv (pv 1)) (se_lst sa_nil) (fun _ => .inr rfl) (nomark _)) (sss_one (ss_set hN rfl (.inl rfl) (se_lst (sa_cons se_int sa_nil)))) sss_nil)
  (sss_one (ss_ret (se_disp (SD.cons (se_mv (pv 1)) (SD.cons se_int SD.nil)) (by intro z; cases z)))))) (by decide)
  case hrb => decide
theorem sc_l_take : FnScope ["_law_state", "_law_many", "_law_turn", "_law_place", "_law_cell", "_law_digit", "_law_mixed"] ["_law_state", "_law_many"] (defScope s_l_take) := ⟨rfl, rfl, rfl, by decide +kernel, rfl, by decide +kernel, by decide +kernel⟩
theorem ok_l_take {P : Program} {w : World} {K : PySem.W.Frag} {mg : Str → Option Value} {base : Heap} {f : Addr} {fd : FuncData} (F : FnP K "_law_take" s_l_take f fd) (hm : mg "_law_take" = some (.ref f)) (n_divmod : mg "divmod" = none) (n_len : mg "len" = none) : Cal P w K mg base 1 "_law_take" ["_law_state", "_law_many"] g_l_take := by
  refine cal_mk (asg := [2, 3, 4, 5, 6]) F hm (F.bindsN fun _ _ _ _ _ _ us hl => match us, hl with | [_, _], _ => rfl) sc_l_take rfl rfl ?hrb fun cdv A outer s H E hcd hr => ?hb
  case hb =>
    have hN := sc_l_take.nd
    have hu : (A.deeper (envOfC "_law_take" (defScope s_l_take) s.heap.objs.size f cdv)).units + 100 < cLine := by have := hr.un; omega
    have hu1 : (A.deeper (envOfC "_law_take" (defScope s_l_take) s.heap.objs.size f cdv)).units + 1 < cLine := by have := hr.un; omega
    exact sss_imp (sss_cons (ss_set hN rfl (.inl rfl) (se_bin op_addA ro_add (se_pl (sp_key hu1 (pv 0) (fun _ _ => rfl))) se_int (fun _ => .inr rfl)))
  (sss_cons (ss_asg (se_pv (pv 2)) (sg_sub (PSet.or set_list (set_dict hu1)) rset (sp_top (pv 0)) se_str))
  (sss_cons (ss_set hN rfl (.inl rfl) (se_bin op_mod ro_mod (se_pv (pv 2)) (se_b1 call_len ro_len rfl n_len (by decide +kernel) (se_pl (sp_key hu1 (pv 0) (fun _ _ => rfl)))) (fun _ => .inr rfl)))
  (sss_cons (ss_set hN rfl (.inl rfl) (se_ix ix_seq ro_ix (se_pl (sp_key hu1 (pv 0) (fun _ _ => rfl))) (se_pv (pv 3)) (fun _ => .inr rfl) (fun _ _ => rfl)))
  (sss_cons (ss_if (st_cmp (op_ord (o := .ge) hu) ro_ord (se_pv (pv 4)) (se_bin op_pow ro_pow se_int se_int (fun _ => .inl rfl)) (fun _ => .inr rfl) (nomark _)) (sss_cons (ss_asg (se_b2 call_divmodW ro_divmod rfl n_divmod (by decide +kernel) (se_pv (pv 4)) (se_pv (pv 1)) (fun _ => .inr rfl)) (sg_tup rfl (sgs_cons (sg_sub (PSet.or set_list (set_dict hu1)) rset (sp_key hu1 (pv 0) (fun _ _ => rfl)) (se_pv (pv 3))) (sgs_cons (sg_name hN rfl (.inl rfl)) sgs_nil))))
  (sss_one (ss_ret (se_pv (pv 5))))) sss_nil)
  (sss_cons (ss_set hN rfl (.inl rfl) (se_bin op_mod ro_mod (se_bin op_mulX ro_mul (se_bin op_addA ro_add (se_bin op_addA ro_add (se_bin op_mod ro_mod (se_pv (pv 4)) se_int (fun _ => .inr rfl)) (se_bin op_mulX ro_mul (se_bin op_mulX ro_mul (se_pv (pv 2)) (se_pv (pv 2)) (fun _ => .inr rfl)) se_int (fun _ => .inl rfl)) (fun _ => .inl rfl)) se_int (fun _ => .inl rfl)) se_int (fun _ => .inl rfl)) se_int (fun _ => .inl rfl)))
  (sss_cons (ss_set hN rfl (.inl rfl) (se_bin op_mod ro_mod (se_bin op_mulX ro_mul (se_pv (pv 6)) (se_pv (pv 6)) (fun _ => .inr rfl)) se_int (fun _ => .inl rfl)))
  (sss_one (ss_ret (se_bin op_mod ro_mod (se_bin op_fdivW ro_div (se_bin op_mod ro_mod (se_bin op_mulX ro_mul (se_bin op_addA ro_add (se_pv (pv 6)) (se_bin op_mulX ro_mul (se_pv (pv 2)) se_int (fun _ => .inr rfl)) (fun _ => .inr rfl)) se_int (fun _ => .inl rfl)) se_int (fun _ => .inl rfl)) se_int (fun _ => .inl rfl)) (se_pv (pv 1)) (fun _ => .inl rfl))))))))))) (by decide)
  case hrb => decide
theorem sc_l_number : FnScope ["_law_state", "_law_kind", "_law_found", "_law_turn"] ["_law_state", "_law_kind"] (defScope s_l_number) := ⟨rfl, rfl, rfl, by decide +kernel, rfl, by decide +kernel, by decide +kernel⟩
theorem ok_l_number {P : Program} {w : World} {K : PySem.W.Frag} {mg : Str → Option Value} {base : Heap} {f : Addr} {fd : FuncData} (F : FnP K "_law_number" s_l_number f fd) (hm : mg "_law_number" = some (.ref f)) (n_range : mg "range" = none) (C_l_take : Cal P w K mg base 1 "_law_take" ["_law_state", "_law_many"] g_l_take) : Cal P w K mg base 2 "_law_number" ["_law_state", "_law_kind"] g_l_number := by
  refine cal_mk (asg := [2, 3]) F hm (F.bindsN fun _ _ _ _ _ _ us hl => match us, hl with | [_, _], _ => rfl) sc_l_number rfl rfl ?hrb fun cdv A outer s H E hcd hr => ?hb
  case hb =>
    have hN := sc_l_number.nd
    have hu : (A.deeper (envOfC "_law_number" (defScope s_l_number) s.heap.objs.size f cdv)).units + 100 < cLine := by have := hr.un; omega
    have hu1 : (A.deeper (envOfC "_law_number" (defScope s_l_number) s.heap.objs.size f cdv)).units + 1 < cLine := by have := hr.un; omega
    exact sss_imp (sss_cons (ss_if (st_cmp (op_ord (o := .lt) hu) ro_ord (se_pv (pv 1)) se_int (fun _ => .inr rfl) (nomark _)) (sss_one (ss_ret (se_cal C_l_take (hr.mono (by decide)) rfl (sc_v (pv 0) (sc_e (se_ix ix_seq ro_ix (se_lst (sa_cons se_int (sa_cons se_int sa_nil))) (se_pv (pv 1)) (fun _ => .inl rfl) (fun _ _ => rfl)) sc_nil))))) sss_nil)
  (sss_cons (ss_set hN rfl (.inl rfl) se_int)
  (sss_cons (ss_for PassesOwn.never rfl (si_range1 rfl n_range (sa_cons se_int sa_nil)) (sg_name hN rfl (.inl rfl)) (sss_one (ss_set hN rfl (.inl rfl) (se_bin op_addA ro_add (se_bin op_mulX ro_mul (se_pv (pv 2)) (se_bin op_pow ro_pow se_int se_int (fun _ => .inl rfl)) (fun _ => .inr rfl)) (se_cal C_l_take (hr.mono (by decide)) rfl (sc_v (pv 0) (sc_e (se_bin op_pow ro_pow se_int se_int (fun _ => .inl rfl)) sc_nil))) (fun _ => .inl rfl)))))
  (sss_one (ss_ret (se_pv (pv 2))))))) (by decide)
  case hrb => decide
theorem sc_l_set : FnScope ["_law_state", "_law_kind", "_law_found", "_law_here", "_law_k", "_law_last"] ["_law_state"] (defScope s_l_set) := ⟨rfl, rfl, rfl, by decide +kernel, rfl, by decide +kernel, by decide +kernel⟩
theorem ok_l_set {P : Program} {w : World} {K : PySem.W.Frag} {mg : Str → Option Value} {base : Heap} {f : Addr} {fd : FuncData} (F : FnP K "_law_set" s_l_set f fd) (hm : mg "_law_set" = some (.ref f)) (n_range : mg "range" = none) (C_l_number : Cal P w K mg base 2 "_law_number" ["_law_state", "_law_kind"] g_l_number) (C_l_take : Cal P w K mg base 1 "_law_take" ["_law_state", "_law_many"] g_l_take) : Cal P w K mg base 3 "_law_set" ["_law_state"] g_l_set := by
  refine cal_mk (asg := [1, 2, 3, 4, 5]) F hm (F.bindsN fun _ _ _ _ _ _ us hl => match us, hl with | [_], _ => rfl) sc_l_set rfl rfl ?hrb fun cdv A outer s H E hcd hr => ?hb
  case hb =>
    have hN := sc_l_set.nd
    have hu : (A.deeper (envOfC "_law_set" (defScope s_l_set) s.heap.objs.size f cdv)).units + 100 < cLine := by have := hr.un; omega
    have hu1 : (A.deeper (envOfC "_law_set" (defScope s_l_set) s.heap.objs.size f cdv)).units + 1 < cLine := by have := hr.un; omega
    exact sss_imp (sss_cons (ss_par3 rfl hN rfl rfl rfl (by decide) (by decide) (by decide) rfl rfl rfl (sa_cons (se_cal C_l_take (hr.mono (by decide)) rfl (sc_v (pv 0) (sc_e se_int sc_nil))) (sa_cons (se_lst sa_nil) (sa_cons (se_ix ix_seq ro_ix (se_lst (sa_cons se_int (sa_cons (se_cal C_l_take (hr.mono (by decide)) rfl (sc_v (pv 0) (sc_e se_int sc_nil))) sa_nil))) (se_cal C_l_take (hr.mono (by decide)) rfl (sc_v (pv 0) (sc_e se_int sc_nil))) (fun _ => .inl rfl) (fun _ _ => rfl)) sa_nil))) (by rfl))
  (sss_cons (ss_for PassesOwn.never rfl (si_range1 rfl n_range (sa_cons (se_ix ix_seq ro_ix (se_lst (sa_cons se_int (sa_cons (se_cal C_l_take (hr.mono (by decide)) rfl (sc_v (pv 0) (sc_e se_int sc_nil))) (sa_cons (se_cal C_l_take (hr.mono (by decide)) rfl (sc_v (pv 0) (sc_e se_int sc_nil))) sa_nil)))) (se_cal C_l_take (hr.mono (by decide)) rfl (sc_v (pv 0) (sc_e se_int sc_nil))) (fun _ => .inl rfl) (fun _ _ => rfl)) sa_nil)) (sg_name hN rfl (.inl rfl)) (sss_cons (ss_set hN rfl (.inl rfl) (se_frz (se_bin op_addA ro_add (se_pv (pv 3)) (se_ix ix_seq ro_ix (se_lst (sa_cons se_int (sa_cons (se_cal C_l_take (hr.mono (by decide)) rfl (sc_v (pv 0) (sc_e se_int sc_nil))) (sa_cons (se_frz (se_cal C_l_number (hr.mono (by decide)) rfl (sc_v (pv 0) (sc_e (se_pv (pv 1)) sc_nil)))) sa_nil)))) (se_cal C_l_take (hr.mono (by decide)) rfl (sc_v (pv 0) (sc_e se_int sc_nil))) (fun _ => .inl rfl) (fun _ _ => rfl)) (fun z => nomatch z))))
  (sss_cons (ss_expr (se_mut PySem.F.plainAttrs_list PySem.F.slot_list_append PySem.F.type_list_append mt_append rm_append (sp_top (pv 2)) (sa_cons (se_tup (sa_cons (se_pv (pv 3)) (sa_cons (se_pv (pv 5)) sa_nil))) sa_nil) (.inl rfl)))
  (sss_one (ss_set hN rfl (.inl rfl) (se_bin op_addA ro_add (se_bin op_addA ro_add (se_pv (pv 5)) se_int (fun _ => .inr rfl)) (se_ix ix_seq ro_ix (se_lst (sa_cons se_int (sa_cons (se_cal C_l_take (hr.mono (by decide)) rfl (sc_v (pv 0) (sc_e se_int sc_nil))) (sa_cons (se_frz (se_cal C_l_number (hr.mono (by decide)) rfl (sc_v (pv 0) (sc_e (se_pv (pv 1)) sc_nil)))) sa_nil)))) (se_cal C_l_take (hr.mono (by decide)) rfl (sc_v (pv 0) (sc_e se_int sc_nil))) (fun _ => .inl rfl) (fun _ _ => rfl)) (fun _ => .inl rfl)))))))
  (sss_one (ss_retV (pv 2))))) (by decide)
  case hrb => decide
theorem sc_l_near : FnScope ["_law_state", "_law_some", "_law_found", "_law_least", "_law_first", "_law_last"] ["_law_state", "_law_some"] (defScope s_l_near) := ⟨rfl, rfl, rfl, by decide +kernel, rfl, by decide +kernel, by decide +kernel⟩
theorem ok_l_near {P : Program} {w : World} {K : PySem.W.Frag} {mg : Str → Option Value} {base : Heap} {f : Addr} {fd : FuncData} (F : FnP K "_law_near" s_l_near f fd) (hm : mg "_law_near" = some (.ref f)) (C_l_set : Cal P w K mg base 3 "_law_set" ["_law_state"] g_l_set) (C_l_take : Cal P w K mg base 1 "_law_take" ["_law_state", "_law_many"] g_l_take) : Cal P w K mg base 4 "_law_near" ["_law_state", "_law_some"] g_l_near := by
  refine cal_mk (asg := [2, 3, 4, 5]) F hm (F.bindsN fun _ _ _ _ _ _ us hl => match us, hl with | [_, _], _ => rfl) sc_l_near rfl rfl ?hrb fun cdv A outer s H E hcd hr => ?hb
  case hb =>
    have hN := sc_l_near.nd
    have hu : (A.deeper (envOfC "_law_near" (defScope s_l_near) s.heap.objs.size f cdv)).units + 100 < cLine := by have := hr.un; omega
    have hu1 : (A.deeper (envOfC "_law_near" (defScope s_l_near) s.heap.objs.size f cdv)).units + 1 < cLine := by have := hr.un; omega
    exact sss_imp (sss_cons (ss_if (SW.st (sw_or (st_cmp (Mv.op_eqD hu) ro_eq (se_pv (pv 1)) (se_lst sa_nil) (fun _ => .inr rfl) (nomark _)) (sw_or1 (st_cmp (Mv.op_eqD hu) ro_eq (se_cal C_l_take (hr.mono (by decide)) rfl (sc_v (pv 0) (sc_e se_int sc_nil))) se_int (fun _ => .inl rfl) (nomark _))))) (sss_one (ss_ret (se_cal C_l_set (hr.mono (by decide)) rfl (sc_v (pv 0) sc_nil)))) sss_nil)
  (sss_cons (ss_par rfl hN rfl rfl (by decide) rfl rfl (sa_cons (se_lst sa_nil) (sa_cons se_int sa_nil)) (by rfl))
  (sss_cons (ss_for PassesOwn.never rfl (si_seq (se_slice (se_pv (pv 1)) so_none (so_some se_int) (fun _ => .inr rfl))) (sg_tup rfl (sgs_cons (sg_name hN rfl (.inl rfl)) (sgs_cons (sg_name hN rfl (.inl rfl)) sgs_nil))) (sss_cons (ss_par rfl hN rfl rfl (by decide) rfl rfl (sa_cons (se_bin op_sub ro_sub (se_bin op_addA ro_add (se_pv (pv 4)) (se_cal C_l_take (hr.mono (by decide)) rfl (sc_v (pv 0) (sc_e se_int sc_nil))) (fun z => nomatch z)) se_int (fun _ => .inl rfl)) (sa_cons (se_bin op_sub ro_sub (se_bin op_addA ro_add (se_pv (pv 5)) (se_cal C_l_take (hr.mono (by decide)) rfl (sc_v (pv 0) (sc_e se_int sc_nil))) (fun z => nomatch z)) se_int (fun _ => .inl rfl)) sa_nil)) (by rfl))
  (sss_one (ss_if (SW.st (sw_and (st_cmp (op_ord (o := .ge) hu) ro_ord (se_pv (pv 4)) (se_pv (pv 3)) (fun _ => .inr rfl) (nomark _)) (sw_and (st_cmp (op_ord (o := .ge) hu) ro_ord (se_pv (pv 5)) (se_pv (pv 4)) (fun _ => .inr rfl) (nomark _)) (sw_and1 (st_cmp (op_ord (o := .gt) hu) ro_ord (se_cal C_l_take (hr.mono (by decide)) rfl (sc_v (pv 0) (sc_e se_int sc_nil))) se_int (fun _ => .inl rfl) (nomark _)))))) (sss_cons (ss_expr (se_mut PySem.F.plainAttrs_list PySem.F.slot_list_append PySem.F.type_list_append mt_append rm_append (sp_top (pv 2)) (sa_cons (se_tup (sa_cons (se_pv (pv 4)) (sa_cons (se_pv (pv 5)) sa_nil))) sa_nil) (.inl rfl)))
  (sss_one (ss_set hN rfl (.inl rfl) (se_bin op_addA ro_add (se_pv (pv 5)) se_int (fun _ => .inr rfl))))) sss_nil))))
  (sss_one (ss_ret (se_binV op_addA ro_add (pv 2) (se_bin op_mulA ro_mulA (se_lst (sa_cons (se_tup (sa_cons (se_frz (se_bin op_addA ro_add (se_pv (pv 3)) (se_ix ix_seq ro_ix (se_ix ix_seq ro_ix (se_pv (pv 1)) (se_un un_neg ro_neg se_int) (fun _ => .inr rfl) (fun _ _ => rfl)) se_int (fun _ => .inl rfl) (fun _ _ => rfl)) (fun _ => .inr rfl))) (sa_cons (se_bin op_addA ro_add (se_bin op_addA ro_add (se_pv (pv 3)) (se_ix ix_seq ro_ix (se_ix ix_seq ro_ix (se_pv (pv 1)) (se_un un_neg ro_neg se_int) (fun _ => .inr rfl) (fun _ _ => rfl)) se_int (fun _ => .inl rfl) (fun _ _ => rfl)) (fun _ => .inr rfl)) se_int (fun _ => .inl rfl)) sa_nil))) sa_nil)) (se_cal C_l_take (hr.mono (by decide)) rfl (sc_v (pv 0) (sc_e se_int sc_nil))) (fun _ => .inl rfl)))))))) (by decide)
  case hrb => decide
theorem sc_l_flags : FnScope ["_law_some", "_law_numbers", "_law_found", "_law_at", "_law_number_here"] ["_law_some", "_law_numbers"] (defScope s_l_flags) := ⟨rfl, rfl, rfl, by decide +kernel, rfl, by decide +kernel, by decide +kernel⟩
theorem ok_l_flags {P : Program} {w : World} {K : PySem.W.Frag} {mg : Str → Option Value} {base : Heap} {f : Addr} {fd : FuncData} (F : FnP K "_law_flags" s_l_flags f fd) (hm : mg "_law_flags" = some (.ref f)) (n_len : mg "len" = none) : Cal P w K mg base 1 "_law_flags" ["_law_some", "_law_numbers"] g_l_flags := by
  refine cal_mk (asg := [2, 3, 4]) F hm (F.bindsN fun _ _ _ _ _ _ us hl => match us, hl with | [_, _], _ => rfl) sc_l_flags rfl rfl ?hrb fun cdv A outer s H E hcd hr => ?hb
  case hb =>
    have hN := sc_l_flags.nd
    have hu : (A.deeper (envOfC "_law_flags" (defScope s_l_flags) s.heap.objs.size f cdv)).units + 100 < cLine := by have := hr.un; omega
    have hu1 : (A.deeper (envOfC "_law_flags" (defScope s_l_flags) s.heap.objs.size f cdv)).units + 1 < cLine := by have := hr.un; omega
    exact sss_imp (sss_cons (ss_par rfl hN rfl rfl (by decide) rfl rfl (sa_cons (se_lst sa_nil) (sa_cons se_int sa_nil)) (by rfl))
  (sss_cons (ss_for PassesOwn.never rfl (si_seq (se_pv (pv 1))) (sg_name hN rfl (.inl rfl)) (sss_cons (ss_while 1000000 PassesOwn.never (SW.st (sw_and (st_cmp (op_ord (o := .lt) hu) ro_ord (se_pv (pv 3)) (se_b1 call_len ro_len rfl n_len (by decide +kernel) (se_pv (pv 0))) (fun _ => .inr rfl) (nomark _)) (sw_and1 (st_cmp (op_ord (o := .lt) hu) ro_ord (se_ix ix_seq ro_ix (se_ix ix_seq ro_ix (se_pv (pv 0)) (se_pv (pv 3)) (fun _ => .inr rfl) (fun _ _ => rfl)) se_int (fun _ => .inl rfl) (fun _ _ => rfl)) (se_pv (pv 4)) (fun _ => .inl rfl) (nomark _))))) (sss_one (ss_set hN rfl (.inl rfl) (se_bin op_addA ro_add (se_pv (pv 3)) se_int (fun _ => .inr rfl)))))
  (sss_one (ss_expr (se_mut PySem.F.plainAttrs_list PySem.F.slot_list_append PySem.F.type_list_append mt_append rm_append (sp_top (pv 2)) (sa_cons (se_and (se_cmp (op_ord (o := .lt) hu) ro_ord (se_pv (pv 3)) (se_b1 call_len ro_len rfl n_len (by decide +kernel) (se_pv (pv 0))) (fun _ => .inr rfl) (nomark _)) (se_andI (se_cmp (op_ord (o := .le) hu) ro_ord (se_ix ix_seq ro_ix (se_ix ix_seq ro_ix (se_pv (pv 0)) (se_pv (pv 3)) (fun _ => .inr rfl) (fun _ _ => rfl)) se_int (fun _ => .inl rfl) (fun _ _ => rfl)) (se_pv (pv 4)) (fun _ => .inl rfl) (nomark _)))) sa_nil) (.inl rfl))))))
  (sss_one (ss_retV (pv 2))))) (by decide)
  case hrb => decide
theorem sc_l_is_set : FnScope ["_law_thing", "_law_pair", "_law_one", "_law_other"] ["_law_thing"] (defScope s_l_is_set) := ⟨rfl, rfl, rfl, by decide +kernel, rfl, by decide +kernel, by decide +kernel⟩
theorem ok_l_is_set {P : Program} {w : World} {K : PySem.W.Frag} {mg : Str → Option Value} {base : Heap} {f : Addr} {fd : FuncData} (F : FnP K "_law_is_set" s_l_is_set f fd) (hm : mg "_law_is_set" = some (.ref f)) (n_all : mg "all" = none) (n_bool : mg "bool" = none) (n_int : mg "int" = none) (n_isinstance : mg "isinstance" = none) (n_len : mg "len" = none) (n_list : mg "list" = none) (n_tuple : mg "tuple" = none) (n_zip : mg "zip" = none) : Cal P w K mg base 1 "_law_is_set" ["_law_thing"] g_l_is_set := by
  refine cal_mk (asg := [1]) F hm (F.bindsN fun _ _ _ _ _ _ us hl => match us, hl with | [_], _ => rfl) sc_l_is_set rfl rfl ?hrb fun cdv A outer s H E hcd hr => ?hb
  case hb =>
    have hN := sc_l_is_set.nd
    have hu : (A.deeper (envOfC "_law_is_set" (defScope s_l_is_set) s.heap.objs.size f cdv)).units + 100 < cLine := by have := hr.un; omega
    have hu1 : (A.deeper (envOfC "_law_is_set" (defScope s_l_is_set) s.heap.objs.size f cdv)).units + 1 < cLine := by have := hr.un; omega
    exact sss_imp (sss_cons (ss_if (st_not (st_val (se_isa .list rfl n_isinstance rfl n_list (by decide +kernel) (se_pv (pv 0))))) (sss_one (ss_ret se_bl)) sss_nil)
  (sss_cons (ss_for PassesOwn.never rfl (si_seq (se_pv (pv 0))) (sg_name hN rfl (.inl rfl)) (sss_cons (ss_if (SW.st (sw_or (st_not (st_val (se_isa .tuple rfl n_isinstance rfl n_tuple (by decide +kernel) (se_pv (pv 1))))) (sw_or1 (st_cmp (Mv.op_neD hu) ro_eq (se_b1 call_len ro_len rfl n_len (by decide +kernel) (se_pv (pv 1))) se_int (fun _ => .inl rfl) (nomark _))))) (sss_one (ss_ret se_bl)) sss_nil)
  (sss_cons (ss_if (st_not (st_val (se_b1 (cr_all rfl) ro_all rfl n_all (by decide +kernel) (se_lc rfl hN (si_seq (se_pv (pv 1))) (own := [("_law_one", 2)]) (blkOk_by (N := ["_law_thing", "_law_pair", "_law_one", "_law_other"]) (sc := defScope s_l_is_set) (own := [("_law_one", 2)]) (by decide +kernel)) (fun _ _ _ _ _ => (sg_name hN rfl (.inl rfl))) (fun _ _ _ _ _ => sfs_nil) (fun _ _ _ _ _ => (se_and (se_isa .int rfl n_isinstance rfl n_int (by decide +kernel) (se_pv (pv 2))) (se_and (se_not (se_isa .bool rfl n_isinstance rfl n_bool (by decide +kernel) (se_pv (pv 2)))) (se_andI (se_cmp (op_ord (o := .ge) hu) ro_ord (se_pv (pv 2)) se_int (fun _ => .inr rfl) (nomark _)))))) (by decide))))) (sss_one (ss_ret se_bl)) sss_nil)
  (sss_one (ss_if (st_cmp (op_ord (o := .gt) hu) ro_ord (se_ix ix_seq ro_ix (se_pv (pv 1)) se_int (fun _ => .inr rfl) (fun _ _ => rfl)) (se_ix ix_seq ro_ix (se_pv (pv 1)) se_int (fun _ => .inr rfl) (fun _ _ => rfl)) (fun _ => .inl rfl) (nomark _)) (sss_one (ss_ret se_bl)) sss_nil)))))
  (sss_one (ss_ret (se_b1 (cr_all rfl) ro_all rfl n_all (by decide +kernel) (se_lc rfl hN (si_zip rfl n_zip (sa_cons (se_pv (pv 0)) (sa_cons (se_slice (se_pv (pv 0)) (so_some se_int) so_none (fun _ => .inr rfl)) sa_nil))) (own := [("_law_one", 2), ("_law_other", 3)]) (blkOk_by (N := ["_law_thing", "_law_pair", "_law_one", "_law_other"]) (sc := defScope s_l_is_set) (own := [("_law_one", 2), ("_law_other", 3)]) (by decide +kernel)) (fun _ _ _ _ _ => (sg_tup rfl (sgs_cons (sg_name hN rfl (.inl rfl)) (sgs_cons (sg_name hN rfl (.inl rfl)) sgs_nil)))) (fun _ _ _ _ _ => sfs_nil) (fun _ _ _ _ _ => (se_cmp (op_ord (o := .lt) hu) ro_ord (se_bin op_addA ro_add (se_ix ix_seq ro_ix (se_pv (pv 2)) se_int (fun _ => .inr rfl) (fun _ _ => rfl)) se_int (fun _ => .inl rfl)) (se_ix ix_seq ro_ix (se_pv (pv 3)) se_int (fun _ => .inr rfl) (fun _ _ => rfl)) (fun _ => .inl rfl) (nomark _))) (by decide))))))) (by decide)
  case hrb => decide
theorem sc_l_probes : FnScope ["_law_lists", "_law_found", "_law_pairs", "_law_first", "_law_last"] ["_law_lists"] (defScope s_l_probes) := ⟨rfl, rfl, rfl, by decide +kernel, rfl, by decide +kernel, by decide +kernel⟩
theorem ok_l_probes {P : Program} {w : World} {K : PySem.W.Frag} {mg : Str → Option Value} {base : Heap} {f : Addr} {fd : FuncData} (F : FnP K "_law_probes" s_l_probes f fd) (hm : mg "_law_probes" = some (.ref f)) (n_list : mg "list" = none) (n_max : mg "max" = none) (n_sorted : mg "sorted" = none) : Cal P w K mg base 1 "_law_probes" ["_law_lists"] g_l_probes := by
  refine cal_mk (asg := [1, 2, 3, 4]) F hm (F.bindsN fun _ _ _ _ _ _ us hl => match us, hl with | [_], _ => rfl) sc_l_probes rfl rfl ?hrb fun cdv A outer s H E hcd hr => ?hb
  case hb =>
    have hN := sc_l_probes.nd
    have hu : (A.deeper (envOfC "_law_probes" (defScope s_l_probes) s.heap.objs.size f cdv)).units + 100 < cLine := by have := hr.un; omega
    have hu1 : (A.deeper (envOfC "_law_probes" (defScope s_l_probes) s.heap.objs.size f cdv)).units + 1 < cLine := by have := hr.un; omega
    exact sss_imp (sss_cons (ss_set hN rfl (.inl rfl) (se_disp (SD.consI se_bl SD.nil) (by intro z; cases z)))
  (sss_cons (ss_for PassesOwn.never rfl (si_seq (se_pv (pv 0))) (sg_name hN rfl (.inl rfl)) (sss_one (ss_for PassesOwn.never rfl (si_seq (se_pv (pv 2))) (sg_tup rfl (sgs_cons (sg_name hN rfl (.inl rfl)) (sgs_cons (sg_name hN rfl (.inl rfl)) sgs_nil))) (sss_one (ss_expr (se_mut PySem.F.plainAttrs_dict PySem.F.slot_dict_update PySem.F.type_dict_update (mtd_update rfl) rm_update (sp_top (pv 1)) (sa_cons (se_lst (sa_cons (se_tup (sa_cons (se_b2 (call_max2 rfl) ro_max2 rfl n_max (by decide +kernel) se_int (se_bin op_sub ro_sub (se_pv (pv 3)) se_int (fun _ => .inr rfl)) (fun _ => .inl rfl)) (sa_cons se_bl sa_nil))) (sa_cons (se_tup (sa_cons (se_pv (pv 3)) (sa_cons se_bl sa_nil))) (sa_cons (se_tup (sa_cons (se_pv (pv 4)) (sa_cons se_bl sa_nil))) (sa_cons (se_tup (sa_cons (se_bin op_addA ro_add (se_pv (pv 4)) se_int (fun _ => .inr rfl)) (sa_cons se_bl sa_nil))) sa_nil))))) sa_nil) (.inl rfl)))))))
  (sss_one (ss_ret (se_b1 (cr_sortA hu) ro_sort rfl n_sorted (by decide +kernel) (se_t1 (call_list_dK rfl) ro_listK rfl n_list (by decide +kernel) (se_pv (pv 1)))))))) (by decide)
  case hrb => decide
theorem sc_both_of : FnScope ["one", "other", "found", "i", "j", "first", "last"] ["one", "other"] (defScope s_both_of) := ⟨rfl, rfl, rfl, by decide +kernel, rfl, by decide +kernel, by decide +kernel⟩
theorem ok_both_of {P : Program} {w : World} {K : PySem.W.Frag} {mg : Str → Option Value} {base : Heap} {f : Addr} {fd : FuncData} (F : FnP K "both_of" s_both_of f fd) (hm : mg "both_of" = some (.ref f)) (n_len : mg "len" = none) (n_max : mg "max" = none) (n_min : mg "min" = none) : Cal P w K mg base 1 "both_of" ["one", "other"] g_both_of := by
  refine cal_mk (asg := [2, 3, 4, 5, 6]) F hm (F.bindsN fun _ _ _ _ _ _ us hl => match us, hl with | [_, _], _ => rfl) sc_both_of rfl rfl ?hrb fun cdv A outer s H E hcd hr => ?hb
  case hb =>
    have hN := sc_both_of.nd
    have hu : (A.deeper (envOfC "both_of" (defScope s_both_of) s.heap.objs.size f cdv)).units + 100 < cLine := by have := hr.un; omega
    have hu1 : (A.deeper (envOfC "both_of" (defScope s_both_of) s.heap.objs.size f cdv)).units + 1 < cLine := by have := hr.un; omega
    exact sss_imp (sss_cons (ss_set hN rfl (.inl rfl) (se_lst sa_nil))
  (sss_cons (ss_set hN rfl (.inl rfl) se_int)
  (sss_cons (ss_set hN rfl (.inl rfl) se_int)
  (sss_cons (ss_while 1000000 PassesOwn.never (SW.st (sw_and (st_cmp (op_ord (o := .lt) hu) ro_ord (se_pv (pv 3)) (se_b1 call_len ro_len rfl n_len (by decide +kernel) (se_pv (pv 0))) (fun _ => .inr rfl) (nomark _)) (sw_and1 (st_cmp (op_ord (o := .lt) hu) ro_ord (se_pv (pv 4)) (se_b1 call_len ro_len rfl n_len (by decide +kernel) (se_pv (pv 1))) (fun _ => .inr rfl) (nomark _))))) (sss_cons (ss_par rfl hN rfl rfl (by decide) rfl rfl (sa_cons (se_b2 (call_max2 rfl) ro_max2 rfl n_max (by decide +kernel) (se_ix ix_seq ro_ix (se_ix ix_seq ro_ix (se_pv (pv 0)) (se_pv (pv 3)) (fun _ => .inr rfl) (fun _ _ => rfl)) se_int (fun _ => .inl rfl) (fun _ _ => rfl)) (se_ix ix_seq ro_ix (se_ix ix_seq ro_ix (se_pv (pv 1)) (se_pv (pv 4)) (fun _ => .inr rfl) (fun _ _ => rfl)) se_int (fun _ => .inl rfl) (fun _ _ => rfl)) (fun _ => .inl rfl)) (sa_cons (se_b2 (call_min2 rfl) ro_min2 rfl n_min (by decide +kernel) (se_ix ix_seq ro_ix (se_ix ix_seq ro_ix (se_pv (pv 0)) (se_pv (pv 3)) (fun _ => .inr rfl) (fun _ _ => rfl)) se_int (fun _ => .inl rfl) (fun _ _ => rfl)) (se_ix ix_seq ro_ix (se_ix ix_seq ro_ix (se_pv (pv 1)) (se_pv (pv 4)) (fun _ => .inr rfl) (fun _ _ => rfl)) se_int (fun _ => .inl rfl) (fun _ _ => rfl)) (fun _ => .inl rfl)) sa_nil)) (by rfl))
  (sss_cons (ss_if (st_cmp (op_ord (o := .le) hu) ro_ord (se_pv (pv 5)) (se_pv (pv 6)) (fun _ => .inr rfl) (nomark _)) (sss_one (ss_expr (se_mut PySem.F.plainAttrs_list PySem.F.slot_list_append PySem.F.type_list_append mt_append rm_append (sp_top (pv 2)) (sa_cons (se_tup (sa_cons (se_pv (pv 5)) (sa_cons (se_pv (pv 6)) sa_nil))) sa_nil) (.inl rfl)))) sss_nil)
  (sss_one (ss_if (st_cmp (op_ord (o := .lt) hu) ro_ord (se_ix ix_seq ro_ix (se_ix ix_seq ro_ix (se_pv (pv 0)) (se_pv (pv 3)) (fun _ => .inr rfl) (fun _ _ => rfl)) se_int (fun _ => .inl rfl) (fun _ _ => rfl)) (se_ix ix_seq ro_ix (se_ix ix_seq ro_ix (se_pv (pv 1)) (se_pv (pv 4)) (fun _ => .inr rfl) (fun _ _ => rfl)) se_int (fun _ => .inl rfl) (fun _ _ => rfl)) (fun _ => .inl rfl) (nomark _)) (sss_one (ss_aug hN rfl (.inl rfl) se_int ip_add ro_ipadd)) (sss_one (ss_aug hN rfl (.inl rfl) se_int ip_add ro_ipadd)))))))
  (sss_one (ss_retV (pv 2))))))) (by decide)
  case hrb => decide
theorem sc_set_of : FnScope ["pairs", "found", "first", "last"] ["pairs"] (defScope s_set_of) := ⟨rfl, rfl, rfl, by decide +kernel, rfl, by decide +kernel, by decide +kernel⟩
theorem ok_set_of {P : Program} {w : World} {K : PySem.W.Frag} {mg : Str → Option Value} {base : Heap} {f : Addr} {fd : FuncData} (F : FnP K "set_of" s_set_of f fd) (hm : mg "set_of" = some (.ref f)) (n_max : mg "max" = none) (n_sorted : mg "sorted" = none) : Cal P w K mg base 1 "set_of" ["pairs"] g_set_of := by
  refine cal_mk (asg := [1, 2, 3]) F hm (F.bindsN fun _ _ _ _ _ _ us hl => match us, hl with | [_], _ => rfl) sc_set_of rfl rfl ?hrb fun cdv A outer s H E hcd hr => ?hb
  case hb =>
    have hN := sc_set_of.nd
    have hu : (A.deeper (envOfC "set_of" (defScope s_set_of) s.heap.objs.size f cdv)).units + 100 < cLine := by have := hr.un; omega
    have hu1 : (A.deeper (envOfC "set_of" (defScope s_set_of) s.heap.objs.size f cdv)).units + 1 < cLine := by have := hr.un; omega
    exact sss_imp (sss_cons (ss_set hN rfl (.inl rfl) (se_lst sa_nil))
  (sss_cons (ss_for PassesOwn.never rfl (si_seq (se_b1 (cr_sortA hu) ro_sort rfl n_sorted (by decide +kernel) (se_pv (pv 0)))) (sg_tup rfl (sgs_cons (sg_name hN rfl (.inl rfl)) (sgs_cons (sg_name hN rfl (.inl rfl)) sgs_nil))) (sss_cons (ss_if (st_cmp (op_ord (o := .gt) hu) ro_ord (se_pv (pv 2)) (se_pv (pv 3)) (fun _ => .inr rfl) (nomark _)) (sss_one ss_cont) sss_nil)
  (sss_one (ss_if (SW.st (sw_and (st_cmp (Mv.op_neD hu) ro_eq (se_pv (pv 1)) (se_lst sa_nil) (fun _ => .inr rfl) (nomark _)) (sw_and1 (st_cmp (op_ord (o := .le) hu) ro_ord (se_pv (pv 2)) (se_bin op_addA ro_add (se_ix ix_seq ro_ix (se_ix ix_seq ro_ix (se_pv (pv 1)) (se_un un_neg ro_neg se_int) (fun _ => .inr rfl) (fun _ _ => rfl)) se_int (fun _ => .inl rfl) (fun _ _ => rfl)) se_int (fun _ => .inl rfl)) (fun _ => .inr rfl) (nomark _))))) (sss_one (ss_asg (se_tup (sa_cons (se_ix ix_seq ro_ix (se_ix ix_seq ro_ix (se_pv (pv 1)) (se_un un_neg ro_neg se_int) (fun _ => .inr rfl) (fun _ _ => rfl)) se_int (fun _ => .inl rfl) (fun _ _ => rfl)) (sa_cons (se_b2 (call_max2 rfl) ro_max2 rfl n_max (by decide +kernel) (se_pv (pv 3)) (se_ix ix_seq ro_ix (se_ix ix_seq ro_ix (se_pv (pv 1)) (se_un un_neg ro_neg se_int) (fun _ => .inr rfl) (fun _ _ => rfl)) se_int (fun _ => .inl rfl) (fun _ _ => rfl)) (fun _ => .inr rfl)) sa_nil))) (sg_sub (PSet.or set_list (set_dict hu1)) rset (sp_top (pv 1)) (se_un un_neg ro_neg se_int)))) (sss_one (ss_expr (se_mut PySem.F.plainAttrs_list PySem.F.slot_list_append PySem.F.type_list_append mt_append rm_append (sp_top (pv 1)) (sa_cons (se_tup (sa_cons (se_pv (pv 2)) (sa_cons (se_pv (pv 3)) sa_nil))) sa_nil) (.inl rfl))))))))
  (sss_one (ss_retV (pv 1))))) (by decide)
  case hrb => decide
theorem sc_either : FnScope ["one", "other"] ["one", "other"] (defScope s_either) := ⟨rfl, rfl, rfl, by decide +kernel, rfl, by decide +kernel, by decide +kernel⟩
theorem ok_either {P : Program} {w : World} {K : PySem.W.Frag} {mg : Str → Option Value} {base : Heap} {f : Addr} {fd : FuncData} (F : FnP K "either" s_either f fd) (hm : mg "either" = some (.ref f)) (n_list : mg "list" = none) (C_set_of : Cal P w K mg base 1 "set_of" ["pairs"] g_set_of) : Cal P w K mg base 2 "either" ["one", "other"] g_either := by
  refine cal_mk (asg := []) F hm (F.bindsN fun _ _ _ _ _ _ us hl => match us, hl with | [_, _], _ => rfl) sc_either rfl rfl ?hrb fun cdv A outer s H E hcd hr => ?hb
  case hb =>
    have hN := sc_either.nd
    have hu : (A.deeper (envOfC "either" (defScope s_either) s.heap.objs.size f cdv)).units + 100 < cLine := by have := hr.un; omega
    have hu1 : (A.deeper (envOfC "either" (defScope s_either) s.heap.objs.size f cdv)).units + 1 < cLine := by have := hr.un; omega
    exact sss_imp (sss_one (ss_ret (se_cal C_set_of (hr.mono (by decide)) rfl (sc_e (se_frz (se_bin op_addA ro_add (se_t1 call_list_of ro_list rfl n_list (by decide +kernel) (se_pv (pv 0))) (se_t1 call_list_of ro_list rfl n_list (by decide +kernel) (se_pv (pv 1))) (fun _ => .inl rfl))) sc_nil)))) (by decide)
  case hrb => decide
theorem sc_without : FnScope ["one", "other", "found", "first", "last", "start", "end"] ["one", "other"] (defScope s_without) := ⟨rfl, rfl, rfl, by decide +kernel, rfl, by decide +kernel, by decide +kernel⟩
theorem ok_without {P : Program} {w : World} {K : PySem.W.Frag} {mg : Str → Option Value} {base : Heap} {f : Addr} {fd : FuncData} (F : FnP K "without" s_without f fd) (hm : mg "without" = some (.ref f)) : Cal P w K mg base 1 "without" ["one", "other"] g_without := by
  refine cal_mk (asg := [2, 3, 4, 5, 6]) F hm (F.bindsN fun _ _ _ _ _ _ us hl => match us, hl with | [_, _], _ => rfl) sc_without rfl rfl ?hrb fun cdv A outer s H E hcd hr => ?hb
  case hb =>
    have hN := sc_without.nd
    have hu : (A.deeper (envOfC "without" (defScope s_without) s.heap.objs.size f cdv)).units + 100 < cLine := by have := hr.un; omega
    have hu1 : (A.deeper (envOfC "without" (defScope s_without) s.heap.objs.size f cdv)).units + 1 < cLine := by have := hr.un; omega
    exact sss_imp (sss_cons (ss_set hN rfl (.inl rfl) (se_lst sa_nil))
  (sss_cons (ss_for PassesOwn.never rfl (si_seq (se_pv (pv 0))) (sg_tup rfl (sgs_cons (sg_name hN rfl (.inl rfl)) (sgs_cons (sg_name hN rfl (.inl rfl)) sgs_nil))) (sss_cons (ss_for PassesOwn.never rfl (si_seq (se_pv (pv 1))) (sg_tup rfl (sgs_cons (sg_name hN rfl (.inl rfl)) (sgs_cons (sg_name hN rfl (.inl rfl)) sgs_nil))) (sss_one (ss_if (SW.st (sw_and (st_cmp (op_ord (o := .le) hu) ro_ord (se_pv (pv 5)) (se_pv (pv 4)) (fun _ => .inr rfl) (nomark _)) (sw_and1 (st_cmp (op_ord (o := .ge) hu) ro_ord (se_pv (pv 6)) (se_pv (pv 3)) (fun _ => .inr rfl) (nomark _))))) (sss_cons (ss_if (st_cmp (op_ord (o := .lt) hu) ro_ord (se_pv (pv 3)) (se_pv (pv 5)) (fun _ => .inr rfl) (nomark _)) (sss_one (ss_expr (se_mut PySem.F.plainAttrs_list PySem.F.slot_list_append PySem.F.type_list_append mt_append rm_append (sp_top (pv 2)) (sa_cons (se_tup (sa_cons (se_pv (pv 3)) (sa_cons (se_bin op_sub ro_sub (se_pv (pv 5)) se_int (fun _ => .inr rfl)) sa_nil))) sa_nil) (.inl rfl)))) sss_nil)
  (sss_one (ss_set hN rfl (.inl rfl) (se_bin op_addA ro_add (se_pv (pv 6)) se_int (fun _ => .inr rfl))))) sss_nil)))
  (sss_one (ss_if (st_cmp (op_ord (o := .le) hu) ro_ord (se_pv (pv 3)) (se_pv (pv 4)) (fun _ => .inr rfl) (nomark _)) (sss_one (ss_expr (se_mut PySem.F.plainAttrs_list PySem.F.slot_list_append PySem.F.type_list_append mt_append rm_append (sp_top (pv 2)) (sa_cons (se_tup (sa_cons (se_pv (pv 3)) (sa_cons (se_pv (pv 4)) sa_nil))) sa_nil) (.inl rfl)))) sss_nil))))
  (sss_one (ss_retV (pv 2))))) (by decide)
  case hrb => decide
theorem sc_l_right : FnScope ["_law_one", "_law_other", "_law_sets", "_law_numbers", "_law_rows", "_law_first", "_law_second", "_law_all_of", "_law_both", "_law_rest", "_law_thing"] ["_law_one", "_law_other"] (defScope s_l_right) := ⟨rfl, rfl, rfl, by decide +kernel, rfl, by decide +kernel, by decide +kernel⟩
theorem ok_l_right {P : Program} {w : World} {K : PySem.W.Frag} {mg : Str → Option Value} {base : Heap} {f : Addr} {fd : FuncData} (F : FnP K "_law_right" s_l_right f fd) (hm : mg "_law_right" = some (.ref f)) (n_all : mg "all" = none) (n_zip : mg "zip" = none) (C_l_flags : Cal P w K mg base 1 "_law_flags" ["_law_some", "_law_numbers"] g_l_flags) (C_l_is_set : Cal P w K mg base 1 "_law_is_set" ["_law_thing"] g_l_is_set) (C_l_probes : Cal P w K mg base 1 "_law_probes" ["_law_lists"] g_l_probes) (C_both_of : Cal P w K mg base 1 "both_of" ["one", "other"] g_both_of) (C_either : Cal P w K mg base 2 "either" ["one", "other"] g_either) (C_without : Cal P w K mg base 1 "without" ["one", "other"] g_without) : Cal P w K mg base 3 "_law_right" ["_law_one", "_law_other"] g_l_right := by
  refine cal_mk (asg := [2, 3, 4, 5, 6, 7, 8, 9]) F hm (F.bindsN fun _ _ _ _ _ _ us hl => match us, hl with | [_, _], _ => rfl) sc_l_right rfl rfl ?hrb fun cdv A outer s H E hcd hr => ?hb
  case hb =>
    have hN := sc_l_right.nd
    have hu : (A.deeper (envOfC "_law_right" (defScope s_l_right) s.heap.objs.size f cdv)).units + 100 < cLine := by have := hr.un; omega
    have hu1 : (A.deeper (envOfC "_law_right" (defScope s_l_right) s.heap.objs.size f cdv)).units + 1 < cLine := by have := hr.un; omega
    exact sss_imp (sss_cons (ss_set hN rfl (.inl rfl) (se_frz (se_lst (sa_cons (se_frz (se_cal C_either (hr.mono (by decide)) rfl (sc_e (se_pv (pv 0)) (sc_e (se_pv (pv 1)) sc_nil)))) (sa_cons (se_frz (se_cal C_both_of (hr.mono (by decide)) rfl (sc_e (se_pv (pv 0)) (sc_e (se_pv (pv 1)) sc_nil)))) (sa_cons (se_frz (se_cal C_without (hr.mono (by decide)) rfl (sc_e (se_pv (pv 0)) (sc_e (se_pv (pv 1)) sc_nil)))) sa_nil))))))
  (sss_cons (ss_if (st_not (st_val (se_b1 (cr_all rfl) ro_all rfl n_all (by decide +kernel) (se_lc rfl hN (si_seq (se_pv (pv 2))) (own := [("_law_thing", 10)]) (blkOk_by (N := ["_law_one", "_law_other", "_law_sets", "_law_numbers", "_law_rows", "_law_first", "_law_second", "_law_all_of", "_law_both", "_law_rest", "_law_thing"]) (sc := defScope s_l_right) (own := [("_law_thing", 10)]) (by decide +kernel)) (fun _ _ _ _ _ => (sg_name hN rfl (.inl rfl))) (fun _ _ _ _ _ => sfs_nil) (fun _ _ _ _ _ => (se_cal C_l_is_set (hr.mono (by decide)) rfl (sc_e (se_pv (pv 10)) sc_nil))) (by decide))))) (sss_one (ss_ret se_bl)) sss_nil)
  (sss_cons (ss_set hN rfl (.inr rfl) (se_frz (se_cal C_l_probes (hr.mono (by decide)) rfl (sc_e (se_frz (se_bin op_addA ro_add (se_lst (sa_cons (se_pv (pv 0)) (sa_cons (se_pv (pv 1)) sa_nil))) (se_pv (pv 2)) (fun _ => .inl rfl))) sc_nil))))
  (sss_cons (ss_setLc rfl hN rfl rfl (sw_true rfl rfl rfl (by decide +kernel)) (si_seq (se_bin op_addA ro_add (se_lst (sa_cons (se_pv (pv 0)) (sa_cons (se_pv (pv 1)) sa_nil))) (se_pv (pv 2)) (fun _ => .inl rfl))) (own := [("_law_thing", 10)]) (blkOk_by (N := ["_law_one", "_law_other", "_law_sets", "_law_numbers", "_law_rows", "_law_first", "_law_second", "_law_all_of", "_law_both", "_law_rest", "_law_thing"]) (sc := defScope s_l_right) (own := [("_law_thing", 10)]) (by decide +kernel)) (fun _ _ _ _ _ => (sg_name hN rfl (.inl rfl))) (fun _ _ _ _ _ => sfs_nil) (fun _ _ _ _ _ => (se_frz (se_cal C_l_flags (hr.mono (by decide)) rfl (sc_e (se_pv (pv 10)) (sc_e (se_pv (pv 3)) sc_nil))))) (by decide))
  (sss_fz 4 (sss_cons (ss_for PassesOwn.never rfl (si_zip5 rfl n_zip (sa_cons (se_ix ix_seq ro_ix (se_pv (pv 4)) se_int (fun _ => .inr rfl) (fun _ _ => rfl)) (sa_cons (se_ix ix_seq ro_ix (se_pv (pv 4)) se_int (fun _ => .inr rfl) (fun _ _ => rfl)) (sa_cons (se_ix ix_seq ro_ix (se_pv (pv 4)) se_int (fun _ => .inr rfl) (fun _ _ => rfl)) (sa_cons (se_ix ix_seq ro_ix (se_pv (pv 4)) se_int (fun _ => .inr rfl) (fun _ _ => rfl)) (sa_cons (se_ix ix_seq ro_ix (se_pv (pv 4)) se_int (fun _ => .inr rfl) (fun _ _ => rfl)) sa_nil)))))) (sg_tup rfl (sgs_cons (sg_name hN rfl (.inl rfl)) (sgs_cons (sg_name hN rfl (.inl rfl)) (sgs_cons (sg_name hN rfl (.inl rfl)) (sgs_cons (sg_name hN rfl (.inl rfl)) (sgs_cons (sg_name hN rfl (.inl rfl)) sgs_nil)))))) (sss_one (ss_if (st_cmp (Mv.op_neD hu) ro_eq (se_lst (sa_cons (se_pv (pv 7)) (sa_cons (se_pv (pv 8)) (sa_cons (se_pv (pv 9)) sa_nil)))) (se_lst (sa_cons (se_or (se_pv (pv 5)) (se_andI (se_pv (pv 6)))) (sa_cons (se_and (se_pv (pv 5)) (se_andI (se_pv (pv 6)))) (sa_cons (se_and (se_pv (pv 5)) (se_andI (se_not (se_pv (pv 6))))) sa_nil)))) (fun _ => .inl rfl) (nomark _)) (sss_one (ss_ret se_bl)) sss_nil)))
  (sss_one (ss_ret se_bl)))))))) (by decide)
  case hrb => decide
theorem sc_law : FnScope ["_law_script", "_law_state", "_law_turn", "_law_one", "_law_other", "_law_kept", "_law_handed", "_law_more"] ["_law_script"] (defScope s_law) := ⟨rfl, rfl, rfl, by decide +kernel, rfl, by decide +kernel, by decide +kernel⟩
theorem fn_law {P : Program} {w : World} {K : PySem.W.Frag} {mg : Str → Option Value} {base : Heap} {f : Addr} {fd : FuncData} (F : FnP K "law" s_law f fd) (n_range : mg "range" = none) (n_str : mg "str" = none) (n_tuple : mg "tuple" = none) (C_l_begin : Cal P w K mg base 1 "_law_begin" ["_law_script"] g_l_begin) (C_l_near : Cal P w K mg base 4 "_law_near" ["_law_state", "_law_some"] g_l_near) (C_l_right : Cal P w K mg base 3 "_law_right" ["_law_one", "_law_other"] g_l_right) (C_l_set : Cal P w K mg base 3 "_law_set" ["_law_state"] g_l_set) (C_l_take : Cal P w K mg base 1 "_law_take" ["_law_state", "_law_many"] g_l_take) (C_both_of : Cal P w K mg base 1 "both_of" ["one", "other"] g_both_of) (C_either : Cal P w K mg base 2 "either" ["one", "other"] g_either) (C_without : Cal P w K mg base 1 "without" ["one", "other"] g_without) : Mv.FnOk P w K mg base CX0 5 f fd ["_law_script"] (spOf K g_law) := by
  refine defD_ok (asg := [1, 2, 3, 4, 5, 6, 7]) F sc_law rfl rfl ?hrb fun cdv A outer s H E hcd hr => ?hb
  case hb =>
    have hN := sc_law.nd
    have hu : (A.deeper (envOfC "law" (defScope s_law) s.heap.objs.size f cdv)).units + 100 < cLine := by have := hr.un; omega
    have hu1 : (A.deeper (envOfC "law" (defScope s_law) s.heap.objs.size f cdv)).units + 1 < cLine := by have := hr.un; omega
    exact sss_imp (sss_cons (ss_set hN rfl (.inl rfl) (se_cal C_l_begin (hr.mono (by decide)) rfl (sc_e (se_pv (pv 0)) sc_nil)))
  (sss_cons (ss_for PassesOwn.never rfl (si_range1 rfl n_range (sa_cons se_int sa_nil)) (sg_name hN rfl (.inl rfl)) (sss_cons (ss_set hN rfl (.inl rfl) (se_frz (se_cal C_l_set (hr.mono (by decide)) rfl (sc_v (pv 1) sc_nil))))
  (sss_cons (ss_set hN rfl (.inl rfl) (se_frz (se_cal C_l_near (hr.mono (by decide)) rfl (sc_v (pv 1) (sc_e (se_pv (pv 3)) sc_nil)))))
  (sss_cons (ss_par rfl hN rfl rfl (by decide) rfl rfl (sa_cons (se_t1 (cr_str hr) ro_str rfl n_str (by decide +kernel) (se_lst (sa_cons (se_pv (pv 3)) (sa_cons (se_pv (pv 4)) sa_nil)))) (sa_cons (se_ix ix_seq ro_ix (se_lst (sa_cons (se_pv (pv 3)) (sa_cons (se_t1 call_tuple_of ro_tuple rfl n_tuple (by decide +kernel) (se_pv (pv 3))) sa_nil))) (se_cal C_l_take (hr.mono (by decide)) rfl (sc_v (pv 1) (sc_e se_int sc_nil))) (fun _ => .inl rfl) (fun _ _ => rfl)) sa_nil)) (by rfl))
  (sss_cons (ss_if (SW.st (sw_or (st_not (st_val (se_cal C_l_right (hr.mono (by decide)) rfl (sc_e (se_pv (pv 6)) (sc_e (se_pv (pv 4)) sc_nil))))) (sw_or (st_not (st_val (se_cal C_l_right (hr.mono (by decide)) rfl (sc_e (se_pv (pv 4)) (sc_e (se_pv (pv 6)) sc_nil))))) (sw_or1 (st_not (st_val (se_cal C_l_right (hr.mono (by decide)) rfl (sc_e (se_pv (pv 3)) (sc_e (se_pv (pv 3)) sc_nil))))))))) (sss_one (ss_ret se_bl)) sss_nil)
  (sss_cons (ss_if (SW.st (sw_or (st_not (st_val (se_cal C_l_right (hr.mono (by decide)) rfl (sc_e (se_pv (pv 3)) (sc_e (se_frz (se_lst sa_nil)) sc_nil))))) (sw_or (st_not (st_val (se_cal C_l_right (hr.mono (by decide)) rfl (sc_e (se_frz (se_lst sa_nil)) (sc_e (se_t1 call_tuple_of ro_tuple rfl n_tuple (by decide +kernel) (se_pv (pv 3))) sc_nil))))) (sw_or1 (st_cmp (Mv.op_neD hu) ro_eq (se_t1 (cr_str hr) ro_str rfl n_str (by decide +kernel) (se_lst (sa_cons (se_pv (pv 3)) (sa_cons (se_pv (pv 4)) sa_nil)))) (se_pv (pv 5)) (fun _ => .inl rfl) (nomark _)))))) (sss_one (ss_ret se_bl)) sss_nil)
  (sss_cons (ss_set hN rfl (.inl rfl) (se_frz (se_cal C_either (hr.mono (by decide)) rfl (sc_e (se_pv (pv 3)) (sc_e (se_pv (pv 4)) sc_nil)))))
  (sss_one (ss_if (SW.st (sw_or (st_not (st_val (se_cal C_l_right (hr.mono (by decide)) rfl (sc_e (se_pv (pv 7)) (sc_e (se_frz (se_cal C_both_of (hr.mono (by decide)) rfl (sc_e (se_pv (pv 3)) (sc_e (se_pv (pv 4)) sc_nil)))) sc_nil))))) (sw_or1 (st_not (st_val (se_cal C_l_right (hr.mono (by decide)) rfl (sc_e (se_frz (se_cal C_without (hr.mono (by decide)) rfl (sc_e (se_pv (pv 7)) (sc_e (se_pv (pv 3)) sc_nil)))) (sc_e (se_pv (pv 4)) sc_nil)))))))) (sss_one (ss_ret se_bl)) sss_nil)))))))))
  (sss_one (ss_ret se_bl)))) (by decide)
  case hrb => decide
/-! ### the head -/
theorem facts {P : Program} {w : World} {K : PySem.W.Frag} {h : Heap} {mg : Str → Option Value} {f : Addr} (X : K.In h) (G : h.Ns mainGlobals mg) (hfa : mg ("law" : Str) = some (.ref f)) (c : He.SaysD fa fn K) :
    ∃ fd : FuncData, (∀ (s : Shared) (v : Value), BindsTo s fd ⟨[v], []⟩ [("_law_script", v)]) ∧ ∀ base : Heap, K.In base → base.Ns mainGlobals mg → (∀ p ∈ lamC K, LamX.TabB base mg p.1 p.2) → Mv.FnOk P w K mg base CX0 5 f fd ["_law_script"] (spOf K g_law) := by
  obtain ⟨fd_l_begin, F_l_begin⟩ := c.def_ 0 (d := d_l_begin) rfl
  obtain ⟨fd_l_take, F_l_take⟩ := c.def_ 1 (d := d_l_take) rfl
  obtain ⟨fd_l_number, F_l_number⟩ := c.def_ 2 (d := d_l_number) rfl
  obtain ⟨fd_l_set, F_l_set⟩ := c.def_ 3 (d := d_l_set) rfl
  obtain ⟨fd_l_near, F_l_near⟩ := c.def_ 4 (d := d_l_near) rfl
  obtain ⟨fd_l_flags, F_l_flags⟩ := c.def_ 5 (d := d_l_flags) rfl
  obtain ⟨fd_l_is_set, F_l_is_set⟩ := c.def_ 6 (d := d_l_is_set) rfl
  obtain ⟨fd_l_probes, F_l_probes⟩ := c.def_ 7 (d := d_l_probes) rfl
  obtain ⟨fd_both_of, F_both_of⟩ := c.def_ 8 (d := d_both_of) rfl
  obtain ⟨fd_set_of, F_set_of⟩ := c.def_ 9 (d := d_set_of) rfl
  obtain ⟨fd_either, F_either⟩ := c.def_ 10 (d := d_either) rfl
  obtain ⟨fd_without, F_without⟩ := c.def_ 11 (d := d_without) rfl
  obtain ⟨fd_l_right, F_l_right⟩ := c.def_ 12 (d := d_l_right) rfl
  obtain ⟨fd_law, F_law⟩ := c.def_ 13 (d := d_law) rfl
  have n_all : mg "all" = none := He.free_ok X G (c.fact 14 (f := .free "all") rfl)
  have n_bool : mg "bool" = none := He.free_ok X G (c.fact 15 (f := .free "bool") rfl)
  have n_divmod : mg "divmod" = none := He.free_ok X G (c.fact 16 (f := .free "divmod") rfl)
  have n_int : mg "int" = none := He.free_ok X G (c.fact 17 (f := .free "int") rfl)
  have n_isinstance : mg "isinstance" = none := He.free_ok X G (c.fact 18 (f := .free "isinstance") rfl)
  have n_len : mg "len" = none := He.free_ok X G (c.fact 19 (f := .free "len") rfl)
  have n_list : mg "list" = none := He.free_ok X G (c.fact 20 (f := .free "list") rfl)
  have n_max : mg "max" = none := He.free_ok X G (c.fact 21 (f := .free "max") rfl)
  have n_min : mg "min" = none := He.free_ok X G (c.fact 22 (f := .free "min") rfl)
  have n_range : mg "range" = none := He.free_ok X G (c.fact 23 (f := .free "range") rfl)
  have n_sorted : mg "sorted" = none := He.free_ok X G (c.fact 24 (f := .free "sorted") rfl)
  have n_str : mg "str" = none := He.free_ok X G (c.fact 25 (f := .free "str") rfl)
  have n_tuple : mg "tuple" = none := He.free_ok X G (c.fact 26 (f := .free "tuple") rfl)
  have n_zip : mg "zip" = none := He.free_ok X G (c.fact 27 (f := .free "zip") rfl)
  have e := hfa.symm.trans (He.glo_ok X G (c.fact 13 (f := .glo "law") rfl))
  cases e
  have b := FunD.bindsA (ps := ["_law_script"]) F_law fun _ _ _ _ _ _ us hl => match us, hl with | [_], _ => rfl
  refine ⟨fd_law, fun s v => b s [v] rfl, fun base hKI _ hTB => ?_⟩
  have C_l_begin : Cal P w K mg base 1 "_law_begin" ["_law_script"] g_l_begin := ok_l_begin F_l_begin (He.glo_ok X G (c.fact 0 (f := .glo "_law_begin") rfl)) n_list
  have C_l_take : Cal P w K mg base 1 "_law_take" ["_law_state", "_law_many"] g_l_take := ok_l_take F_l_take (He.glo_ok X G (c.fact 1 (f := .glo "_law_take") rfl)) n_divmod n_len
  have C_l_number : Cal P w K mg base 2 "_law_number" ["_law_state", "_law_kind"] g_l_number := ok_l_number F_l_number (He.glo_ok X G (c.fact 2 (f := .glo "_law_number") rfl)) n_range C_l_take
  have C_l_set : Cal P w K mg base 3 "_law_set" ["_law_state"] g_l_set := ok_l_set F_l_set (He.glo_ok X G (c.fact 3 (f := .glo "_law_set") rfl)) n_range C_l_number C_l_take
  have C_l_near : Cal P w K mg base 4 "_law_near" ["_law_state", "_law_some"] g_l_near := ok_l_near F_l_near (He.glo_ok X G (c.fact 4 (f := .glo "_law_near") rfl)) C_l_set C_l_take
  have C_l_flags : Cal P w K mg base 1 "_law_flags" ["_law_some", "_law_numbers"] g_l_flags := ok_l_flags F_l_flags (He.glo_ok X G (c.fact 5 (f := .glo "_law_flags") rfl)) n_len
  have C_l_is_set : Cal P w K mg base 1 "_law_is_set" ["_law_thing"] g_l_is_set := ok_l_is_set F_l_is_set (He.glo_ok X G (c.fact 6 (f := .glo "_law_is_set") rfl)) n_all n_bool n_int n_isinstance n_len n_list n_tuple n_zip
  have C_l_probes : Cal P w K mg base 1 "_law_probes" ["_law_lists"] g_l_probes := ok_l_probes F_l_probes (He.glo_ok X G (c.fact 7 (f := .glo "_law_probes") rfl)) n_list n_max n_sorted
  have C_both_of : Cal P w K mg base 1 "both_of" ["one", "other"] g_both_of := ok_both_of F_both_of (He.glo_ok X G (c.fact 8 (f := .glo "both_of") rfl)) n_len n_max n_min
  have C_set_of : Cal P w K mg base 1 "set_of" ["pairs"] g_set_of := ok_set_of F_set_of (He.glo_ok X G (c.fact 9 (f := .glo "set_of") rfl)) n_max n_sorted
  have C_either : Cal P w K mg base 2 "either" ["one", "other"] g_either := ok_either F_either (He.glo_ok X G (c.fact 10 (f := .glo "either") rfl)) n_list C_set_of
  have C_without : Cal P w K mg base 1 "without" ["one", "other"] g_without := ok_without F_without (He.glo_ok X G (c.fact 11 (f := .glo "without") rfl))
  have C_l_right : Cal P w K mg base 3 "_law_right" ["_law_one", "_law_other"] g_l_right := ok_l_right F_l_right (He.glo_ok X G (c.fact 12 (f := .glo "_law_right") rfl)) n_all n_zip C_l_flags C_l_is_set C_l_probes C_both_of C_either C_without
  exact fn_law F_law n_range n_str n_tuple C_l_begin C_l_near C_l_right C_l_set C_l_take C_both_of C_either C_without
end L02
end
/-- the law, once its plain part is known -/
theorem L02.holds (hg : ∀ (ns : List Int), ns.length ≤ 63 → ∃ os', L02.g_law [.leaf (.list (ns.map .int))] = some (.leaf (.bool true), os')) : PySem.Challenge.rw_tinrecall_k02_sets_put_together.Holds := by
  w_on; o_law
  refine HandSHeadRun.head_any (r := PySem.W.OpenLaw.row PySem.Challenge.rw_tinrecall_k02_sets_put_together) (q := PySem.W.view (PySem.W.OpenLaw.row PySem.Challenge.rw_tinrecall_k02_sets_put_together).prog [15]) (H := L02.hk) (ob := L02.ob) (M := 1120) (loose := ["set_of", "either", "both_of", "without", "_law_begin", "_law_take", "_law_number", "_law_set", "_law_near", "_law_flags", "_law_is_set", "_law_probes", "_law_right"]) (d := HandSHeadRun.topDef (PySem.W.OpenLaw.row PySem.Challenge.rw_tinrecall_k02_sets_put_together).prog 15) (kwd := []) L02.ob_eq
    (by kernel_rfl) (fun s => by kernel_rfl) L02.run (by kernel_rfl) (by kernel_rfl) (by kernel_rfl) (by rfl) (by first | assumption | decide +kernel) (by decide +kernel) ⟨rfl, rfl, rfl, rfl, rfl, by decide +kernel⟩ ?hw ?hc
  case hw => w_witness2
  case hc =>
    refine Mv.walk_law (l := PySem.Challenge.rw_tinrecall_k02_sets_put_together) (k := 5) (x := "_law_script") (g := L02.g_law) rfl (by kernel_rfl) ⟨rfl, by decide, by decide, rfl⟩ ?F hg
    intro w mg fa h Y G hmg0
    obtain ⟨K, KX, c⟩ := Y
    have hmg : mg ("law" : PySem.Str) = some (.ref fa) := by
      have e : (HandSHeadRun.topDef (PySem.W.OpenLaw.row PySem.Challenge.rw_tinrecall_k02_sets_put_together).prog 15).name = ("law" : PySem.Str) := by kernel_rfl
      rw [← e]
      exact hmg0
    obtain ⟨fd, hb, hF⟩ := L02.facts (P := (PySem.Challenge.rw_tinrecall_k02_sets_put_together).prog) (w := w) KX G hmg c
    have q0 : ∀ p, p ∉ Mv.lamC K := fun p hp => by simp [Mv.lamC, Mv.lams] at hp
    exact ⟨K, fd, KX, fun p hp => absurd hp (q0 p), fun p hp => absurd hp (q0 p), fun p hp => absurd hp (q0 p), hb, hF⟩

set_option Elab.async false
set_option linter.all false
set_option maxRecDepth 100000
set_option maxHeartbeats 4000000
noncomputable section
namespace L02
open PySem PySem.Spec PyProof.Rows L2 Mv
local macro_rules | `(tactic| walk_at "mv") => `(tactic| try simp only [↓w_cst, ↓w_var, ↓w_mv, ↓w_fz, ↓w_frz, ↓w_bin, ↓w_un, ↓w_binV, ↓w_if, ↓w_asB, ↓w_yes, ↓w_not, ↓w_and, ↓w_or, ↓w_andE, ↓w_orE, ↓w_notE, ↓w_chain, ↓w_nil, ↓w_cons, ↓w_tup, ↓w_lst, ↓w_pl, ↓w_mut, ↓w_c0, ↓w_ce, ↓w_cv, ↓w_call', ↓wb_0, ↓wb_e, ↓wb_v, wb_e', ↓wo_leaf, ↓wo_ls, ↓wo_dic, ↓wo_dct, ↓wo_st, ↓wo_s, own_0, own_s, oi_0, oi_e, oi_v, isl_st, isl_leaf, isl_ls, Bool.not_false, Bool.not_true, List.nodup_cons, List.nodup_nil, List.not_mem_nil, not_false_eq_true, ↓w_seq, ↓w_skip, ↓w_brk, ↓w_cont, ↓w_retN, ↓w_set, ↓w_drop, ↓w_ret, ↓w_retV, ↓w_ifS, ↓w_fzS, ↓w_asg, ↓w_gN, ↓w_gT, ↓w_gNl, ↓w_gCn, ↓w_gSub, ↓w_par, ↓w_aug, ↓w_int, ↓w_slice, ↓w_rng1, ↓w_rng2, ↓w_seqI, ↓w_comp, ↓w_for,
  ↓sl_0, ↓sl_s, ↓fr_leaf, ↓fr_ls, ↓ok_t, ↓ok_l, ↓br_t, ↓br_f, decide_true, decide_false, Int.reduceEq, ↓bl_b, ↓il_b, ↓le_l, ↓gp_top, ↓cl_0, ↓cl_e, ↓cl_v, ↓nxt_nx, ↓nxt_rt, ↓nxt_bk, ↓nxt_ct, ↓sa_0, ↓sa_s, ↓rg1_i, ↓rg2_i, ↓itm_l, ↓itm_t, ↓itm_o, ↓fin_rt, ↓fin_nx, ↓lpk_nx, ↓lpk_ct, ↓lpk_bk, ↓lpk_rt, ↓wcl_nil, ↓wf_nil,
  ↓w_enum, ↓w_zip, ↓enm_l, ↓enm_o, ↓zp_ll, ↓zp_lo, ↓zp_ol, ↓zp_oo, ↓zp_tt, ↓p_isLTi, ↓p_isLTn, ↓p_isSi, ↓p_isBn, ↓p_extend, p_extendS, p_appendS, List.isEmpty_nil, ↓w_dicO, ↓dicO_list, zip_cc, zip_nn, ↓at_0, ↓at_1, ↓at_2, ↓at_3, ↓at_4, p_insertS, ↓p_mulO, ↓p_repB, ↓p_rep0, ↓p_rep1, ↓w_while, ↓p_insert, ↓at_last, ↓put_last, ↓p_inl, ↓p_inL, ↓p_ninl, ↓p_ninL, ↓p_eqP0, ↓p_neP0, ↓p_neA, ↓p_eq00, ↓p_ne00, ↓p_ixp0, ↓p_ixp1, ↓w_gTp, ↓p_isLTb, ↓p_isLTs, ↓p_isIb, ↓p_isBb, ↓p_isSb, ↓p_isLb, ↓p_isTb, ↓p_isIs, ↓p_isBs, ↓p_isSs, ↓p_isLs, ↓p_isTs, ↓p_isLi, ↓p_isTi, ↓p_isLn, ↓p_isTn, ↓p_isSn, ↓p_isNb, ↓p_isNs, ↓p_isNt, ↓p_isNl, ↓p_isNp, ↓p_eqTT, ↓p_eqTF, ↓p_eqFT, ↓p_eqFF, ↓p_neTT, ↓p_neTF, ↓p_neFT, ↓p_neFF, ↓p_eqBs, ↓p_eqSs, ↓p_eqIs, ↓w_gSubU, ↓w_bestK, ↓w_mkTup, ↓gp_t0, ↓gp_t1, ↓gp_t2, ↓gp_l0, ↓gp_l1, pt_t0, pt_t1, pt_t2, pt_l0, pt_l1, isl_tup, isl_lso, ↓wo_tup, ↓wo_lso, ↓fr_t2, ↓fr_t3, ↓fr_l2, ↓p_addXi, ↓p_addXb, ↓w_zipX, ↓zpx_ll, ↓zpx_lo, ↓zpx_ol, ↓zpx_oo, ↓zpx_tt, ↓zpx_lt, ↓zpx_ot, ↓zpx_tl, ↓zpx_to, ↓p_isB, ↓p_sumA, ↓p_sumAl, ↓p_sumAt, ↓w_augP, ↓w_sortK, ↓w_keyC, ↓kl_S, ↓p_diyi, ↓p_diys, ↓w_rng3, ↓rg3_i, ↓w_ifT, ↓w_borA, lv_n, lv_var, lf1_leaf, lf1_ls, lf1_non, lf1_bx, lf1_st, lf1_dic, ↓wo_bx, isl_bx, ↓p_catX, ↓p_catT, ↓p_mulJ, ↓w_chain4, ↓p_lrg1, ↓p_lrg2, ↓p_maxL, ↓p_maxl, ↓p_minL, ↓p_minl, ↓w_getE, ↓w_emptyK, ↓w_emptyT, ↓p_dixi, ↓p_dixs, ↓p_dini, ↓p_dins, ↓p_dgi, ↓p_dgs, ↓p_dputi, ↓p_dputs, ↓p_extA, ↓p_extAl, p_extAS, p_extASl, ↓w_bor, fl_b, fl_i, fl_n, fl_s, ↓w_enumA, ↓enma_l, ↓enma_t, ↓enma_o, eq_self, ↓w_strM, ↓sv_s, ↓p_eqS, ↓p_neS, ↓p_isTp, ↓p_lenp, ↓itm_p, ↓p_neBs, line_racks, racks_line, ↓w_orV, ↓p_eqTx0, ↓p_neTx0, ↓p_eqTxl0, ↓p_neTxl0, ↓w_strMA, ↓w_txtI, ↓w_zipS, ↓w_enumS, ↓p_inX, ↓p_ninX, ↓txiX, ↓zpsX_l, ↓zpsX_o, ↓enmsX, lit_q, lit_s, lit_o, lit_c, lit_e, lit_sg, tx_inj, ↓wo_dctS, isl_dctS, ↓p_pop, p_popS, ↓w_callM, ↓w_new, ↓w_unp, ↓w_sortC, ↓hd_new, ↓gp_ly, ↓gp_en, ↓gp_pk, put_ly, put_en, put_pk, isl_hd, ↓wo_hd, iso_put, iso_take, iso_end, iso_wh, iso_ae, ↓p_gtS, ↓p_ptS, ↓p_pkin, ↓p_pkput, pkE_in, pkE_put, pkE_len, ↓w_gTL, ↓w_dkI, ↓dk_T, ↓dk_K, ↓fr_dct, ↓fr_dic, ↓w_ixO, ↓ixo_0, ↓ixo_1, ↓p_gtW, ↓p_ptW, ↓p_inSl, ↓p_inSL, ↓p_ninSl, ↓p_ninSL, ↓p_inSt3, ↓p_inSt2, ↓p_eqG, ↓p_eqGx, ↓p_eqW, ↓p_ixG, ↓w_dsp, ↓at_62, ↓at_61, ↓at_52, ↓at_51, ↓w_zip5, ↓p_shl, ↓w_sliceV, ↓w_asI, ↓ib_i, ↓p_shr, ↓p_odd, ↓p_inRn, ↓w_lrg3, ↓lg3_i, ↓w_hid, ↓w_cI, ↓kyI_dct, ↓w_revI, ↓rvm_l, ↓rvm_o, ↓p_gtI, ↓p_ptI, ↓p_sub, ↓p_add, ↓p_ipadd, ↓p_mul, ↓p_div, ↓p_mod, ↓p_pow, ↓p_neg, ↓p_eq, ↓p_ne, ↓p_lt, ↓p_gt, ↓p_le, ↓p_ge, ↓p_max, ↓p_min, ↓p_abs, ↓p_intI, ↓p_intB, ↓p_isaI, ↓p_isaB, ↓p_isaNI, ↓p_isNI, ↓p_isNN, ↓p_isNo, ↓p_eqo, ↓p_neo, ↓p_divmod, ↓p_catL, ↓p_catLl, ↓p_catlL, ↓p_catll, ↓p_len, ↓p_lenl, ↓p_lent, ↓p_list, ↓p_listl, ↓p_listt, ↓p_tuple, ↓p_tuplel, ↓p_tuplet, ↓p_rev, ↓p_revl, ↓p_ix, ↓p_ixl, ↓p_ixt, ↓p_append, ↓p_reverse, ↓p_sum, ↓p_suml, ↓p_any, ↓p_all, ↓p_eqLL, ↓p_eqLl, ↓p_eqlL, ↓p_eqll, ↓p_eqL0, ↓p_eql0, ↓p_neLL, ↓p_neLl, ↓p_nelL, ↓p_nell, ↓p_neL0, ↓p_nel0,
  ↓gp_cells, ↓gp_turn, ↓put_turn, ↓put_cells, ↓putP_top, wipeE, lv_0, lv_s,
  List.set_cons_zero, List.set_cons_succ, List.length_cons, List.length_nil, List.map_cons, List.map_nil, finR, List.replicate, List.replicate_succ, List.replicate_zero, List.cons_append, List.nil_append, true_and, and_true, List.tail_cons, List.head?_cons, Option.join_some, List.contains_nil, Bool.false_eq_true, if_false, if_true, List.all_nil, and_self, Int.reduceToNat, Int.reducePow, Nat.reduceSub, Nat.reduceAdd, Int.reduceAdd, Int.reduceMul, Int.reduceSub, Int.reduceNeg, Int.reduceLT, Int.reduceLE, Int.natAbs, Nat.reduceLT, Nat.reduceLeDiff, Nat.reducePow])
local macro_rules | `(tactic| walk_at "mve") => `(tactic| try simp only [↓w_cst, ↓w_var, ↓w_mv, ↓w_fz, ↓w_frz, ↓w_bin, ↓w_un, ↓w_binV, ↓w_asB, ↓w_yes, ↓w_not, ↓w_and, ↓w_or, ↓w_notE, ↓w_chain, ↓w_nil, ↓w_cons, ↓w_tup, ↓w_lst, ↓w_pl, ↓w_mut, ↓w_c0, ↓w_ce, ↓w_cv, ↓w_call', ↓wb_0, ↓wb_e, ↓wb_v, wb_e', ↓wo_leaf, ↓wo_ls, ↓wo_dic, ↓wo_dct, ↓wo_st, ↓wo_s, own_0, own_s, oi_0, oi_e, oi_v, isl_st, isl_leaf, isl_ls, Bool.not_false, Bool.not_true, List.nodup_cons, List.nodup_nil, List.not_mem_nil, not_false_eq_true, ↓w_seq, ↓w_skip, ↓w_brk, ↓w_cont, ↓w_retN, ↓w_set, ↓w_drop, ↓w_ret, ↓w_retV, ↓w_ifS, ↓w_fzS, ↓w_asg, ↓w_gN, ↓w_gT, ↓w_gNl, ↓w_gCn, ↓w_gSub, ↓w_par, ↓w_aug, ↓w_int, ↓w_slice, ↓w_rng1, ↓w_rng2, ↓w_seqI, ↓w_comp, ↓w_for,
  ↓sl_0, ↓sl_s, ↓fr_leaf, ↓fr_ls, ↓ok_t, ↓ok_l, ↓br_t, ↓br_f, decide_true, decide_false, Int.reduceEq, ↓bl_b, ↓il_b, ↓le_l, ↓gp_top, ↓cl_0, ↓cl_e, ↓cl_v, ↓nxt_nx, ↓nxt_rt, ↓nxt_bk, ↓nxt_ct, ↓sa_0, ↓sa_s, ↓rg1_i, ↓rg2_i, ↓itm_l, ↓itm_t, ↓itm_o, ↓fin_rt, ↓fin_nx, ↓lpk_nx, ↓lpk_ct, ↓lpk_bk, ↓lpk_rt, ↓wcl_nil, ↓wf_nil,
  ↓w_enum, ↓w_zip, ↓enm_l, ↓enm_o, ↓zp_ll, ↓zp_lo, ↓zp_ol, ↓zp_oo, ↓zp_tt, ↓p_isLTi, ↓p_isLTn, ↓p_isSi, ↓p_isBn, ↓p_extend, p_extendS, p_appendS, List.isEmpty_nil, ↓w_dicO, ↓dicO_list, zip_cc, zip_nn, ↓at_0, ↓at_1, ↓at_2, ↓at_3, ↓at_4, p_insertS, ↓p_mulO, ↓p_repB, ↓p_rep0, ↓p_rep1, ↓w_while, ↓p_insert, ↓at_last, ↓put_last, ↓p_inl, ↓p_inL, ↓p_ninl, ↓p_ninL, ↓p_eqP0, ↓p_neP0, ↓p_neA, ↓p_eq00, ↓p_ne00, ↓p_ixp0, ↓p_ixp1, ↓w_gTp, ↓p_isLTb, ↓p_isLTs, ↓p_isIb, ↓p_isBb, ↓p_isSb, ↓p_isLb, ↓p_isTb, ↓p_isIs, ↓p_isBs, ↓p_isSs, ↓p_isLs, ↓p_isTs, ↓p_isLi, ↓p_isTi, ↓p_isLn, ↓p_isTn, ↓p_isSn, ↓p_isNb, ↓p_isNs, ↓p_isNt, ↓p_isNl, ↓p_isNp, ↓p_eqTT, ↓p_eqTF, ↓p_eqFT, ↓p_eqFF, ↓p_neTT, ↓p_neTF, ↓p_neFT, ↓p_neFF, ↓p_eqBs, ↓p_eqSs, ↓p_eqIs, ↓w_gSubU, ↓w_bestK, ↓w_mkTup, ↓gp_t0, ↓gp_t1, ↓gp_t2, ↓gp_l0, ↓gp_l1, pt_t0, pt_t1, pt_t2, pt_l0, pt_l1, isl_tup, isl_lso, ↓wo_tup, ↓wo_lso, ↓fr_t2, ↓fr_t3, ↓fr_l2, ↓p_addXi, ↓p_addXb, ↓w_zipX, ↓zpx_ll, ↓zpx_lo, ↓zpx_ol, ↓zpx_oo, ↓zpx_tt, ↓zpx_lt, ↓zpx_ot, ↓zpx_tl, ↓zpx_to, ↓p_isB, ↓p_sumA, ↓p_sumAl, ↓p_sumAt, ↓w_augP, ↓w_sortK, ↓w_keyC, ↓kl_S, ↓p_diyi, ↓p_diys, ↓w_rng3, ↓rg3_i, ↓w_ifT, ↓w_borA, lv_n, lv_var, lf1_leaf, lf1_ls, lf1_non, lf1_bx, lf1_st, lf1_dic, ↓wo_bx, isl_bx, ↓p_catX, ↓p_catT, ↓p_mulJ, ↓w_chain4, ↓p_lrg1, ↓p_lrg2, ↓p_maxL, ↓p_maxl, ↓p_minL, ↓p_minl, ↓w_getE, ↓w_emptyK, ↓w_emptyT, ↓p_dixi, ↓p_dixs, ↓p_dini, ↓p_dins, ↓p_dgi, ↓p_dgs, ↓p_dputi, ↓p_dputs, ↓p_extA, ↓p_extAl, p_extAS, p_extASl, ↓w_bor, fl_b, fl_i, fl_n, fl_s, ↓w_enumA, ↓enma_l, ↓enma_t, ↓enma_o, eq_self, ↓w_strM, ↓sv_s, ↓p_eqS, ↓p_neS, ↓p_isTp, ↓p_lenp, ↓itm_p, ↓p_neBs, line_racks, racks_line, ↓w_orV, ↓p_eqTx0, ↓p_neTx0, ↓p_eqTxl0, ↓p_neTxl0, ↓w_strMA, ↓w_txtI, ↓w_zipS, ↓w_enumS, ↓p_inX, ↓p_ninX, ↓txiX, ↓zpsX_l, ↓zpsX_o, ↓enmsX, lit_q, lit_s, lit_o, lit_c, lit_e, lit_sg, tx_inj, ↓wo_dctS, isl_dctS, ↓p_pop, p_popS, ↓w_callM, ↓w_new, ↓w_unp, ↓w_sortC, ↓hd_new, ↓gp_ly, ↓gp_en, ↓gp_pk, put_ly, put_en, put_pk, isl_hd, ↓wo_hd, iso_put, iso_take, iso_end, iso_wh, iso_ae, ↓p_gtS, ↓p_ptS, ↓p_pkin, ↓p_pkput, pkE_in, pkE_put, pkE_len, ↓w_gTL, ↓w_dkI, ↓dk_T, ↓dk_K, ↓fr_dct, ↓fr_dic, ↓w_ixO, ↓ixo_0, ↓ixo_1, ↓p_gtW, ↓p_ptW, ↓p_inSl, ↓p_inSL, ↓p_ninSl, ↓p_ninSL, ↓p_inSt3, ↓p_inSt2, ↓p_eqG, ↓p_eqGx, ↓p_eqW, ↓p_ixG, ↓w_dsp, ↓at_62, ↓at_61, ↓at_52, ↓at_51, ↓w_zip5, ↓p_shl, ↓w_sliceV, ↓w_asI, ↓ib_i, ↓p_shr, ↓p_odd, ↓p_inRn, ↓w_lrg3, ↓lg3_i, ↓w_hid, ↓w_cI, ↓kyI_dct, ↓w_revI, ↓rvm_l, ↓rvm_o, ↓p_gtI, ↓p_ptI, ↓p_sub, ↓p_add, ↓p_ipadd, ↓p_mul, ↓p_div, ↓p_mod, ↓p_pow, ↓p_neg, ↓p_eq, ↓p_ne, ↓p_lt, ↓p_gt, ↓p_le, ↓p_ge, ↓p_max, ↓p_min, ↓p_abs, ↓p_intI, ↓p_intB, ↓p_isaI, ↓p_isaB, ↓p_isaNI, ↓p_isNI, ↓p_isNN, ↓p_isNo, ↓p_eqo, ↓p_neo, ↓p_divmod, ↓p_catL, ↓p_catLl, ↓p_catlL, ↓p_catll, ↓p_len, ↓p_lenl, ↓p_lent, ↓p_list, ↓p_listl, ↓p_listt, ↓p_tuple, ↓p_tuplel, ↓p_tuplet, ↓p_rev, ↓p_revl, ↓p_ix, ↓p_ixl, ↓p_ixt, ↓p_append, ↓p_reverse, ↓p_sum, ↓p_suml, ↓p_any, ↓p_all, ↓p_eqLL, ↓p_eqLl, ↓p_eqlL, ↓p_eqll, ↓p_eqL0, ↓p_eql0, ↓p_neLL, ↓p_neLl, ↓p_nelL, ↓p_nell, ↓p_neL0, ↓p_nel0,
  ↓gp_cells, ↓gp_turn, ↓put_turn, ↓put_cells, ↓putP_top, wipeE, lv_0, lv_s,
  List.set_cons_zero, List.set_cons_succ, List.length_cons, List.length_nil, List.map_cons, List.map_nil, finR, List.replicate, List.replicate_succ, List.replicate_zero, List.cons_append, List.nil_append, true_and, and_true, List.tail_cons, List.head?_cons, Option.join_some, List.contains_nil, Bool.false_eq_true, if_false, if_true, List.all_nil, and_self, Int.reduceToNat, Int.reducePow, Nat.reduceSub, Nat.reduceAdd, Int.reduceAdd, Int.reduceMul, Int.reduceSub, Int.reduceNeg, Int.reduceLT, Int.reduceLE, Int.natAbs, Nat.reduceLT, Nat.reduceLeDiff, Nat.reducePow])
local macro_rules | `(tactic| walk_at "mv1") => `(tactic| try simp only [↓ok_t, ↓ok_l, ↓nxt_nx, ↓nxt_rt, ↓w_seq, ↓fin_rt, ↓fin_nx, ↓lpk_nx, ↓lpk_ct, ↓lpk_bk, ↓lpk_rt, wipeE, List.set_cons_zero, List.set_cons_succ, true_and, and_true])
local macro_rules | `(tactic| walk_at "mvs") => `(tactic| try simp only [↓sl_0, ↓sl_s, ↓fr_leaf, ↓fr_ls, ↓ok_t, ↓ok_l, ↓nxt_nx, ↓nxt_rt, ↓w_seq, ↓fin_rt, ↓fin_nx, ↓lpk_nx, ↓lpk_ct, ↓lpk_bk, ↓lpk_rt, wipeE, List.set_cons_zero, List.set_cons_succ, true_and, and_true])
local macro_rules | `(tactic| walk_at "mvp") => `(tactic| try simp only [↓w_cst, ↓w_var, ↓w_mv, ↓w_fz, ↓w_frz, ↓w_bin, ↓w_un, ↓w_binV, ↓w_if, ↓w_asB, ↓w_yes, ↓w_not, ↓w_and, ↓w_or, ↓w_andE, ↓w_orE, ↓w_notE, ↓w_chain, ↓w_nil, ↓w_cons, ↓w_tup, ↓w_lst, ↓w_pl, ↓w_mut, ↓w_c0, ↓w_ce, ↓w_cv, ↓w_call', ↓wb_0, ↓wb_e, ↓wb_v, wb_e', ↓wo_leaf, ↓wo_ls, ↓wo_dic, ↓wo_dct, ↓wo_st, ↓wo_s, own_0, own_s, oi_0, oi_e, oi_v, isl_st, isl_leaf, isl_ls, Bool.not_false, Bool.not_true, List.nodup_cons, List.nodup_nil, List.not_mem_nil, not_false_eq_true, ↓w_seq, ↓w_skip, ↓w_brk, ↓w_cont, ↓w_retN, ↓w_set, ↓w_drop, ↓w_ret, ↓w_retV, ↓w_fzS, ↓w_asg, ↓w_gN, ↓w_gT, ↓w_gNl, ↓w_gCn, ↓w_gSub, ↓w_par, ↓w_aug, ↓w_int, ↓w_slice, ↓w_rng1, ↓w_rng2, ↓w_seqI, ↓w_comp, ↓w_for,
  ↓sl_0, ↓sl_s, ↓fr_leaf, ↓fr_ls, ↓ok_t, ↓ok_l, ↓br_t, ↓br_f, decide_true, decide_false, Int.reduceEq, ↓bl_b, ↓il_b, ↓le_l, ↓gp_top, ↓cl_0, ↓cl_e, ↓cl_v, ↓nxt_nx, ↓nxt_rt, ↓nxt_bk, ↓nxt_ct, ↓sa_0, ↓sa_s, ↓rg1_i, ↓rg2_i, ↓itm_l, ↓itm_t, ↓itm_o, ↓fin_rt, ↓fin_nx, ↓lpk_nx, ↓lpk_ct, ↓lpk_bk, ↓lpk_rt, ↓wcl_nil, ↓wf_nil,
  ↓w_enum, ↓w_zip, ↓enm_l, ↓enm_o, ↓zp_ll, ↓zp_lo, ↓zp_ol, ↓zp_oo, ↓zp_tt, ↓p_isLTi, ↓p_isLTn, ↓p_isSi, ↓p_isBn, ↓p_extend, p_extendS, p_appendS, List.isEmpty_nil, ↓w_dicO, ↓dicO_list, zip_cc, zip_nn, ↓at_0, ↓at_1, ↓at_2, ↓at_3, ↓at_4, p_insertS, ↓p_mulO, ↓p_repB, ↓p_rep0, ↓p_rep1, ↓w_while, ↓p_insert, ↓at_last, ↓put_last, ↓p_inl, ↓p_inL, ↓p_ninl, ↓p_ninL, ↓p_eqP0, ↓p_neP0, ↓p_neA, ↓p_eq00, ↓p_ne00, ↓p_ixp0, ↓p_ixp1, ↓w_gTp, ↓p_isLTb, ↓p_isLTs, ↓p_isIb, ↓p_isBb, ↓p_isSb, ↓p_isLb, ↓p_isTb, ↓p_isIs, ↓p_isBs, ↓p_isSs, ↓p_isLs, ↓p_isTs, ↓p_isLi, ↓p_isTi, ↓p_isLn, ↓p_isTn, ↓p_isSn, ↓p_isNb, ↓p_isNs, ↓p_isNt, ↓p_isNl, ↓p_isNp, ↓p_eqTT, ↓p_eqTF, ↓p_eqFT, ↓p_eqFF, ↓p_neTT, ↓p_neTF, ↓p_neFT, ↓p_neFF, ↓p_eqBs, ↓p_eqSs, ↓p_eqIs, ↓w_gSubU, ↓w_bestK, ↓w_mkTup, ↓gp_t0, ↓gp_t1, ↓gp_t2, ↓gp_l0, ↓gp_l1, pt_t0, pt_t1, pt_t2, pt_l0, pt_l1, isl_tup, isl_lso, ↓wo_tup, ↓wo_lso, ↓fr_t2, ↓fr_t3, ↓fr_l2, ↓p_addXi, ↓p_addXb, ↓w_zipX, ↓zpx_ll, ↓zpx_lo, ↓zpx_ol, ↓zpx_oo, ↓zpx_tt, ↓zpx_lt, ↓zpx_ot, ↓zpx_tl, ↓zpx_to, ↓p_isB, ↓p_sumA, ↓p_sumAl, ↓p_sumAt, ↓w_augP, ↓w_sortK, ↓w_keyC, ↓kl_S, ↓p_diyi, ↓p_diys, ↓w_rng3, ↓rg3_i, ↓w_ifT, ↓w_borA, lv_n, lv_var, lf1_leaf, lf1_ls, lf1_non, lf1_bx, lf1_st, lf1_dic, ↓wo_bx, isl_bx, ↓p_catX, ↓p_catT, ↓p_mulJ, ↓w_chain4, ↓p_lrg1, ↓p_lrg2, ↓p_maxL, ↓p_maxl, ↓p_minL, ↓p_minl, ↓w_getE, ↓w_emptyK, ↓w_emptyT, ↓p_dixi, ↓p_dixs, ↓p_dini, ↓p_dins, ↓p_dgi, ↓p_dgs, ↓p_dputi, ↓p_dputs, ↓p_extA, ↓p_extAl, p_extAS, p_extASl, ↓w_bor, fl_b, fl_i, fl_n, fl_s, ↓w_enumA, ↓enma_l, ↓enma_t, ↓enma_o, eq_self, ↓w_strM, ↓sv_s, ↓p_eqS, ↓p_neS, ↓p_isTp, ↓p_lenp, ↓itm_p, ↓p_neBs, line_racks, racks_line, ↓w_orV, ↓p_eqTx0, ↓p_neTx0, ↓p_eqTxl0, ↓p_neTxl0, ↓w_strMA, ↓w_txtI, ↓w_zipS, ↓w_enumS, ↓p_inX, ↓p_ninX, ↓txiX, ↓zpsX_l, ↓zpsX_o, ↓enmsX, lit_q, lit_s, lit_o, lit_c, lit_e, lit_sg, tx_inj, ↓wo_dctS, isl_dctS, ↓p_pop, p_popS, ↓w_callM, ↓w_new, ↓w_unp, ↓w_sortC, ↓hd_new, ↓gp_ly, ↓gp_en, ↓gp_pk, put_ly, put_en, put_pk, isl_hd, ↓wo_hd, iso_put, iso_take, iso_end, iso_wh, iso_ae, ↓p_gtS, ↓p_ptS, ↓p_pkin, ↓p_pkput, pkE_in, pkE_put, pkE_len, ↓w_gTL, ↓w_dkI, ↓dk_T, ↓dk_K, ↓fr_dct, ↓fr_dic, ↓w_ixO, ↓ixo_0, ↓ixo_1, ↓p_gtW, ↓p_ptW, ↓p_inSl, ↓p_inSL, ↓p_ninSl, ↓p_ninSL, ↓p_inSt3, ↓p_inSt2, ↓p_eqG, ↓p_eqGx, ↓p_eqW, ↓p_ixG, ↓w_dsp, ↓at_62, ↓at_61, ↓at_52, ↓at_51, ↓w_zip5, ↓p_shl, ↓w_sliceV, ↓w_asI, ↓ib_i, ↓p_shr, ↓p_odd, ↓p_inRn, ↓w_lrg3, ↓lg3_i, ↓w_hid, ↓w_cI, ↓kyI_dct, ↓w_revI, ↓rvm_l, ↓rvm_o, ↓p_gtI, ↓p_ptI, ↓p_sub, ↓p_add, ↓p_ipadd, ↓p_mul, ↓p_div, ↓p_mod, ↓p_pow, ↓p_neg, ↓p_eq, ↓p_ne, ↓p_lt, ↓p_gt, ↓p_le, ↓p_ge, ↓p_max, ↓p_min, ↓p_abs, ↓p_intI, ↓p_intB, ↓p_isaI, ↓p_isaB, ↓p_isaNI, ↓p_isNI, ↓p_isNN, ↓p_isNo, ↓p_eqo, ↓p_neo, ↓p_divmod, ↓p_catL, ↓p_catLl, ↓p_catlL, ↓p_catll, ↓p_len, ↓p_lenl, ↓p_lent, ↓p_list, ↓p_listl, ↓p_listt, ↓p_tuple, ↓p_tuplel, ↓p_tuplet, ↓p_rev, ↓p_revl, ↓p_ix, ↓p_ixl, ↓p_ixt, ↓p_append, ↓p_reverse, ↓p_sum, ↓p_suml, ↓p_any, ↓p_all, ↓p_eqLL, ↓p_eqLl, ↓p_eqlL, ↓p_eqll, ↓p_eqL0, ↓p_eql0, ↓p_neLL, ↓p_neLl, ↓p_nelL, ↓p_nell, ↓p_neL0, ↓p_nel0,
  ↓gp_cells, ↓gp_turn, ↓put_turn, ↓put_cells, ↓putP_top, wipeE, lv_0, lv_s,
  List.set_cons_zero, List.set_cons_succ, List.length_cons, List.length_nil, List.map_cons, List.map_nil, finR, List.replicate, List.replicate_succ, List.replicate_zero, List.cons_append, List.nil_append, true_and, and_true, List.tail_cons, List.head?_cons, Option.join_some, List.contains_nil, Bool.false_eq_true, if_false, if_true, List.all_nil, and_self, Int.reduceToNat, Int.reducePow, Nat.reduceSub, Nat.reduceAdd, Int.reduceAdd, Int.reduceMul, Int.reduceSub, Int.reduceNeg, Int.reduceLT, Int.reduceLE, Int.natAbs, Nat.reduceLT, Nat.reduceLeDiff, Nat.reducePow])
theorem tk : TakeSpec g_l_take := fun h hn hm hm2 k => take_ok (c := 69621) (by decide) h hn hm hm2 k
theorem number {st : List Int × Int} {n kind : Int} (h : St st n) (hn : n ≤ 100000000000000000) (h0 : 0 ≤ kind) {Q : O → List (Option O) → Prop}
    (k : ∀ d st' os, 0 ≤ d → d < 1000000000000000000000000000000 → St st' (n + 5) → Q (.leaf (.int d)) (some (stO st') :: os)) : Wd g_l_number [stO st, .leaf (.int kind)] Q := by
  unfold g_l_number
  rw [w_def]
  unfold b_l_number
  walk_at "mv"
  refine br (fun hk => ?_) fun hk => ?_
  · walk_at "mv"
    refine at_ints (ns := [4, 1000001]) h0 (by simpa using hk) fun m hm => ?_
    have hm' := List.mem_of_getElem? hm
    simp only [List.mem_cons, List.not_mem_nil, or_false] at hm'
    walk_at "mv"
    refine tk h (by omega) (by omega) (by omega) fun d s1 d1 d2 h1 => ?_
    walk_at "mv"
    exact k _ _ _ d1 (by omega) (h1.le (by omega))
  · walk_at "mv"
    refine wf_inv (k := 0) (I := fun j e => ∃ (s1 : List Int × Int) (d P : Int) (x : Option O), e = [some (stO s1), some (.leaf (.int kind)), some (.leaf (.int d)), x] ∧ 0 ≤ d ∧ d < P ∧ P = 1000000 ^ j ∧ St s1 (n + j)) (fun j t e ht hi => ?_) ⟨st, 0, 1, none, rfl, by omega, by decide, rfl, h.le (by omega)⟩ fun e hi => ?_
    · have hi := hi
      obtain ⟨s1, hi⟩ := hi
      obtain ⟨d, hi⟩ := hi
      obtain ⟨P, hi⟩ := hi
      obtain ⟨x, hi⟩ := hi
      have he := hi.1
      have d0 := hi.2.1
      have d1 := hi.2.2.1
      have eP := hi.2.2.2.1
      have h1 := hi.2.2.2.2
      subst he
      have hj := (List.getElem?_eq_some_iff.mp ht).1
      have hj : j < 5 := hj
      rw [Nat.zero_add] at eP h1 ⊢
      have d2 : P ≤ 1000000000000000000000000 := by
        have : j = 0 ∨ j = 1 ∨ j = 2 ∨ j = 3 ∨ j = 4 := by omega
        rcases this with rfl | rfl | rfl | rfl | rfl <;> (simp at eP; omega)
      walk_at "mv"
      refine ⟨mulOk (by omega) (by omega) (by decide) (by decide), ?_⟩
      refine tk h1 (by omega) (by decide) (by decide) fun c s2 c1 c2 h2 => ?_
      walk_at "mv"
      exact ⟨s2, d * 1000000 + c, P * 1000000, _, rfl, by omega, by omega, by rw [Int.pow_succ, eP], h2.le (by omega)⟩
    · obtain ⟨s1, d, P, x, rfl, d0, d1, eP, h1⟩ := hi
      walk_at "mv"
      refine k _ _ _ d0 ?_ (h1.le (by simp only [rangeD, List.length_map, List.length_range]; omega))
      have e5 : (rangeD 0 5).length = 5 := by simp [rangeD]
      rw [e5] at eP
      simp at eP
      omega
theorem set_ok {st : List Int × Int} {n : Int} (h : St st n) (hn : n ≤ 10000000000000000) {Q : O → List (Option O) → Prop}
    (k : ∀ (ps : List (Int × Int)) st', ps.length ≤ 24 → Cn ps → (∀ p ∈ ps, 0 ≤ p.1 ∧ p.2 ≤ 100000000000000000000000000000000) → St st' (n + 400) → Q (.ls (ps.map pD)) [some (stO st')]) : Wd g_l_set [stO st] Q := by
  unfold g_l_set
  rw [w_def]
  unfold b_l_set
  walk_at "mv"
  refine tk h (by omega) (by decide) (by decide) fun kind s1 a1 a2 h1 => ?_
  walk_at "mv"
  refine tk h1 (by omega) (by decide) (by decide) fun b s2 b1 b2 h2 => ?_
  walk_at "mv"
  refine tk h2 (by omega) (by decide) (by decide) fun c s3 c1 c2 h3 => ?_
  walk_at "mv"
  refine at_ints (ns := [0, b]) c1 (by simpa using c2) fun here hh => ?_
  have hh' := List.mem_of_getElem? hh
  simp only [List.mem_cons, List.not_mem_nil, or_false] at hh'
  have here0 : 0 ≤ here ∧ here ≤ 10 := by omega
  clear hh hh'
  walk_at "mv"
  refine tk h3 (by omega) (by decide) (by decide) fun d s4 d1 d2 h4 => ?_
  walk_at "mv"
  refine tk h4 (by omega) (by decide) (by decide) fun e s5 e1 e2 h5 => ?_
  walk_at "mv"
  refine tk h5 (by omega) (by decide) (by decide) fun f s6 f1 f2 h6 => ?_
  walk_at "mv"
  refine at_ints (ns := [24, d, e]) f1 (by simpa using f2) fun m hm => ?_
  have hm' := List.mem_of_getElem? hm
  simp only [List.mem_cons, List.not_mem_nil, or_false] at hm'
  have m0 : 0 ≤ m ∧ m ≤ 24 := by omega
  clear hm hm'
  walk_at "mv"
  refine ⟨by omega, ?_⟩
  refine wf_inv (k := 0) (I := fun j e => ∃ (s7 : List Int × Int) (ps : List (Int × Int)) (u : Int) (x y : Option O), e = [some (stO s7), some (.leaf (.int kind)), some (.ls (ps.map pD)), some (.leaf (.int u)), x, y] ∧ ps.length = j ∧ (Cn ps ∧ (∀ p ∈ ps, 0 ≤ p.1 ∧ p.2 + 1 < u) ∧ 0 ≤ u ∧ u ≤ 10 + 3000000000000000000000000000000 * j) ∧ St s7 (n + 6 + 14 * j)) (fun j t e ht hi => ?_) ⟨s6, [], here, none, none, rfl, rfl, ⟨trivial, (by intro p hp; cases hp), here0.1, by have := here0.2; omega⟩, h6.le (by omega)⟩ fun e hi => ?_
  · obtain ⟨s7, ps, u, x, y, rfl, pl, pp, h7⟩ := hi
    have hj := (List.getElem?_eq_some_iff.mp ht).1
    rw [range_ints, List.length_map, List.length_map, List.length_range] at hj
    rw [Nat.zero_add] at pl h7 ⊢
    walk_at "mv"
    refine tk h7 (by omega) (by decide) (by decide) fun g s8 g1 g2 h8 => ?_
    walk_at "mv"
    refine number h8 (by omega) a1 fun r s9 os r1 r2 h9 => ?_
    walk_at "mv"
    refine tk h9 (by omega) (by decide) (by decide) fun q s10 q1 q2 h10 => ?_
    walk_at "mv"
    refine at_ints (ns := [0, g, r]) q1 (by simpa using q2) fun v hv => ?_
    have hv' := List.mem_of_getElem? hv
    simp only [List.mem_cons, List.not_mem_nil, or_false] at hv'
    have v0 : 0 ≤ v ∧ v < 1000000000000000000000000000000 := by omega
    clear hv hv'
    walk_at "mv"
    refine ⟨by rw [List.length_map]; omega, by rw [List.length_map]; omega, ?_⟩
    refine tk h10 (by omega) (by decide) (by decide) fun g' s11 g1' g2' h11 => ?_
    walk_at "mv"
    refine number h11 (by omega) a1 fun r' s12 os' r1' r2' h12 => ?_
    walk_at "mv"
    refine tk h12 (by omega) (by decide) (by decide) fun q' s13 q1' q2' h13 => ?_
    walk_at "mv"
    refine at_ints (ns := [0, g', r']) q1' (by simpa using q2') fun v' hv => ?_
    have hv' := List.mem_of_getElem? hv
    simp only [List.mem_cons, List.not_mem_nil, or_false] at hv'
    have v0' : 0 ≤ v' ∧ v' < 1000000000000000000000000000000 := by omega
    clear hv hv'
    walk_at "mv"
    have e1 : ps.map pD ++ [PyData.tuple [.int u, .int (u + v)]] = (ps ++ [(u, u + v)]).map pD := by simp [pD]
    rw [e1]
    refine ⟨s13, ps ++ [(u, u + v)], _, _, _, rfl, by simp [pl], ⟨cn_app pp.1 ⟨by simp only; omega, (by intro q hq; cases hq), trivial⟩ fun p hp q hq => ?_, fun p hp => ?_, by have := pp.2.2.1; omega, by have := pp.2.2.2; omega⟩, h13.le (by omega)⟩
    · rw [List.mem_singleton.mp hq]
      exact (pp.2.1 p hp).2
    · have u0 := pp.2.2.1
      rcases List.mem_append.mp hp with z | z
      · have := pp.2.1 p z
        omega
      · rw [List.mem_singleton.mp z]
        simp only
        omega
  · obtain ⟨s7, ps, u, x, y, rfl, pl, pp, h7⟩ := hi
    rw [range_ints, List.length_map, List.length_map, List.length_range] at pl pp h7
    walk_at "mv"
    exact k ps s7 (by omega) pp.1 (fun p hp => ⟨(pp.2.1 p hp).1, by have := (pp.2.1 p hp).2; have := pp.2.2.2; omega⟩) (h7.le (by omega))
def sumL : List (List Rg) → Nat
  | [] => 0
  | p :: r => p.length + sumL r
theorem probes {xs : List (D × List Rg)} (hx : ∀ x ∈ xs, SqP x.1 x.2) (hl : sumL (xs.map (·.2)) ≤ 10000) {Q : O → List (Option O) → Prop} (k : ∀ (ns : List Int) os, ns.length ≤ 50000 → ns.Pairwise (· ≤ ·) → Q (.ls (ns.map .int)) os) : Wd g_l_probes [.leaf (.list (xs.map (·.1)))] Q := by
  unfold g_l_probes
  rw [w_def]
  unfold b_l_probes
  walk_at "mv"
  refine wf_fold (h := fun x : D × List Rg => x.1) (I := fun r e => ∃ (ks : List Int) (x y z : Option O), e = [some (.leaf (.list (xs.map (·.1)))), some (dicO ks), x, y, z] ∧ ks.length + 4 * sumL (r.map (·.2)) ≤ 40001 ∧ ∀ x ∈ r, SqP x.1 x.2) (fun x r e hi => ?_) (fun e hi => ?_) ⟨[0], none, none, none, rfl, by simp only [List.length_cons, List.length_nil]; omega, hx⟩
  · obtain ⟨ks, x1, y, z, rfl, h1, hr⟩ := hi
    obtain ⟨dx, ps⟩ := x
    have ho : SqP dx ps := hr _ List.mem_cons_self
    rw [List.map_cons, sumL] at h1
    dsimp only at h1 ⊢
    walk_at "mv"
    rw [ho.itm]
    refine wf_fold (I := fun r2 e => ∃ (ks : List Int) (y z : Option O), e = [some (.leaf (.list (xs.map (·.1)))), some (dicO ks), some (.leaf dx), y, z] ∧ ks.length + 4 * (r2.length + sumL (r.map (·.2))) ≤ 40001) (fun p r2 e hi => ?_) (fun e hi => ?_) ⟨ks, y, z, rfl, h1⟩
    · obtain ⟨ks, y, z, rfl, h2⟩ := hi
      rw [List.length_cons] at h2
      walk_at "mv"
      have hb : ks.length + [max 0 (p.1 - 1), p.1, p.2, p.2 + 1].length ≤ 1000000 := by simp only [List.length_cons, List.length_nil]; omega
      refine ⟨p_updateS (is := [max 0 (p.1 - 1), p.1, p.2, p.2 + 1]) hb, p_update (is := [max 0 (p.1 - 1), p.1, p.2, p.2 + 1]) hb ?_⟩
      walk_at "mv"
      have hf := foldl_addN_len (is := [max 0 (p.1 - 1), p.1, p.2, p.2 + 1]) (ns := ks)
      simp only [List.length_cons, List.length_nil] at hf
      exact ⟨_, _, _, rfl, by omega⟩
    · obtain ⟨ks, y, z, rfl, h2⟩ := hi
      rw [List.length_nil] at h2
      walk_at "mv"
      exact ⟨ks, _, _, _, rfl, by omega, fun x m => hr x (List.mem_cons_of_mem _ m)⟩
  · obtain ⟨ks, x, y, z, rfl, h1, _⟩ := hi
    rw [List.map_nil, sumL] at h1
    walk_at "mv"
    rw [p_sort (by omega)]
    walk_at "mv"
    exact k _ _ (by rw [isort_len]; omega) (isort_sorted _)
/-! ### the program's sets -/
theorem pset_of {o : D} {ps : List Rg} (ho : SqP o ps) (hl : ps.length ≤ 100000) {Q : O → List (Option O) → Prop} (k : ∀ os, Q (.ls ((setOf ps).map pD)) os) : Wd g_set_of [.leaf o] Q := by
  unfold g_set_of
  rw [w_def]
  unfold b_set_of
  walk_at "mv"
  rw [ho.sort (by omega)]
  walk_at "mv"
  refine wf_fold (I := fun r e => ∃ (acc : List Rg) (x y : Option O), e = [some (.leaf o), some (.ls (acc.reverse.map pD)), x, y] ∧ soR r acc = soR (psort ps) [] ∧ r.length + acc.length ≤ 100000) (fun p r e hi => ?_) (fun e hi => ?_) ⟨[], none, none, rfl, rfl, by rw [psort_len]; simpa using hl⟩
  · obtain ⟨acc, x, y, rfl, h1, h2⟩ := hi
    rw [soR_cE] at h1
    rw [List.length_cons] at h2
    walk_at "mv"
    refine br (fun hc => ?_) fun hc => ?_
    · walk_at "mv"
      rw [if_pos hc] at h1
      exact ⟨acc, _, _, rfl, h1, by omega⟩
    · rw [if_neg hc] at h1
      cases acc with
      | nil =>
        rw [List.reverse_nil, List.map_nil]
        walk_at "mv"
        exact ⟨[p], _, _, rfl, h1, by simpa using h2⟩
      | cons q a =>
        simp only at h1
        rw [List.reverse_cons, List.map_append, List.map_cons, List.map_nil]
        walk_at "mv"
        refine br (fun hd => ?_) fun hd => ?_
        · walk_at "mv"
          rw [if_pos hd] at h1
          refine ⟨(q.1, max p.2 q.2) :: a, some (.leaf (.int p.1)), some (.leaf (.int p.2)), ?_, h1, by simp only [List.length_cons] at h2 ⊢; omega⟩
          rw [List.reverse_cons, List.map_append, List.map_cons, List.map_nil]
          rfl
        · walk_at "mv"
          rw [if_neg hd] at h1
          rw [List.length_cons] at h2
          refine ⟨by rw [List.length_append, List.length_map, List.length_reverse, List.length_singleton]; omega, by rw [List.length_append, List.length_map, List.length_reverse, List.length_singleton]; omega, p :: q :: a, some (.leaf (.int p.1)), some (.leaf (.int p.2)), ?_, h1, by simp only [List.length_cons]; omega⟩
          rw [List.reverse_cons, List.reverse_cons, List.map_append, List.map_append, List.map_cons, List.map_nil, List.map_cons, List.map_nil]
          rfl
  · obtain ⟨acc, x, y, rfl, h1, h2⟩ := hi
    rw [soR_nil] at h1
    subst h1
    walk_at "mv"
    exact k _
theorem peither {o o2 : D} {ps qs : List Rg} (ho : SqP o ps) (ho2 : SqP o2 qs) (hl : ps.length + qs.length ≤ 100000) {Q : O → List (Option O) → Prop} (k : ∀ os, Q (.ls ((setOf (ps ++ qs)).map pD)) os) : Wd g_either [.leaf o, .leaf o2] Q := by
  unfold g_either
  rw [w_def]
  unfold b_either
  walk_at "mv"
  rw [ho.list]
  walk_at "mv"
  rw [ho2.list]
  walk_at "mv"
  refine ⟨by rw [List.length_map, List.length_map]; exact Nat.le_trans hl (by decide), ?_⟩
  refine pset_of (ps := ps ++ qs) (.inl (by rw [List.map_append])) (by rw [List.length_append]; omega) fun os => ?_
  walk_at "mv"
  exact k _
theorem pboth {o o2 : D} {ps qs : List Rg} (ho : SqP o ps) (ho2 : SqP o2 qs) (hp : Cn ps) (hq : Cn qs) (hl : ps.length + qs.length ≤ 100000) {Q : O → List (Option O) → Prop} (k : ∀ os, Q (.ls ((bo ps qs).map pD)) os) : Wd g_both_of [.leaf o, .leaf o2] Q := by
  unfold g_both_of
  rw [w_def]
  unfold b_both_of
  walk_at "mv"
  have hb := (bo_ok hp hq).2.2
  refine ww_inv (I := fun m e => ∃ (i j : Nat) (acc : List Rg) (x y : Option O), e = [some (.leaf o), some (.leaf o2), some (.ls (acc.map pD)), some (.leaf (.int i)), some (.leaf (.int j)), x, y] ∧ acc ++ bo (ps.drop i) (qs.drop j) = bo ps qs ∧ i ≤ ps.length ∧ j ≤ qs.length ∧ m = (ps.length - i) + (qs.length - j)) (fun m e hi => ?_) (m := ps.length + qs.length) (by omega) ⟨0, 0, [], none, none, rfl, by simp, by omega, by omega, by omega⟩
  obtain ⟨i, j, acc, x, y, rfl, h1, h2, h3, h4⟩ := hi
  walk_at "mv"
  rw [ho.len]
  walk_at "mv"
  have fin : (ps.length ≤ i ∨ qs.length ≤ j) → Q (.ls (acc.map pD)) [some (.leaf o), some (.leaf o2)] := by
    intro h
    have e : bo (ps.drop i) (qs.drop j) = [] := by
      rcases h with h | h
      · rw [List.drop_eq_nil_of_le h, bo]
      · rw [List.drop_eq_nil_of_le h]
        cases ps.drop i with
        | nil => rw [bo]
        | cons a b => rw [bo]
    rw [e, List.append_nil] at h1
    rw [h1]
    exact k _
  refine br (fun hi => ?_) fun hi => ?_
  · walk_at "mv"
    rw [ho2.len]
    walk_at "mv"
    refine br (fun hj => ?_) fun hj => ?_
    · have hi' : i < ps.length := by omega
      have hj' : j < qs.length := by omega
      have ei : (i : Int) + 1 = ((i + 1 : Nat) : Int) := by omega
      have ej : (j : Int) + 1 = ((j + 1 : Nat) : Int) := by omega
      have e1 : ∀ {P : D → Prop}, At (ps.map pD) (i : Int) P ↔ P (pD ps[i]) := at_psE (List.getElem?_eq_getElem hi')
      have e2 : ∀ {P : D → Prop}, At (qs.map pD) (j : Int) P ↔ P (pD qs[j]) := at_psE (List.getElem?_eq_getElem hj')
      rw [List.drop_eq_getElem_cons hi', List.drop_eq_getElem_cons hj', bo] at h1
      walk_at "mv"
      iterate 2
        rw [ho.ix, e1]
        walk_at "mv"
        rw [ho2.ix, e2]
        walk_at "mv"
      have hal : acc.length ≤ (bo ps qs).length := by rw [← h1, List.length_append]; omega
      refine br (fun hc => ?_) fun hc => ?_
      · walk_at "mv"
        refine ⟨by rw [List.length_map]; omega, by rw [List.length_map]; omega, ?_⟩
        rw [if_pos hc] at h1
        rw [ho.ix, e1]
        walk_at "mv"
        rw [ho2.ix, e2]
        walk_at "mv"
        refine br (fun hd => ?_) fun hd => ?_
        · walk_at "mv"
          rw [if_pos hd] at h1
          rw [map_snoc, ei]
          refine ⟨_, ?_, i + 1, j, acc ++ [(max ps[i].1 qs[j].1, min ps[i].2 qs[j].2)], _, _, rfl, ?_, by omega, by omega, rfl⟩
          · omega
          · rw [List.drop_eq_getElem_cons hj', List.append_assoc]
            exact h1
        · walk_at "mv"
          rw [if_neg hd] at h1
          rw [map_snoc, ej]
          refine ⟨_, ?_, i, j + 1, acc ++ [(max ps[i].1 qs[j].1, min ps[i].2 qs[j].2)], _, _, rfl, ?_, by omega, by omega, rfl⟩
          · omega
          · rw [List.drop_eq_getElem_cons hi', List.append_assoc]
            exact h1
      · walk_at "mv"
        rw [if_neg hc] at h1
        rw [ho.ix, e1]
        walk_at "mv"
        rw [ho2.ix, e2]
        walk_at "mv"
        refine br (fun hd => ?_) fun hd => ?_
        · walk_at "mv"
          rw [if_pos hd] at h1
          rw [ei]
          refine ⟨_, ?_, i + 1, j, acc, _, _, rfl, ?_, by omega, by omega, rfl⟩
          · omega
          · rw [List.drop_eq_getElem_cons hj']
            exact h1
        · walk_at "mv"
          rw [if_neg hd] at h1
          rw [ej]
          refine ⟨_, ?_, i, j + 1, acc, _, _, rfl, ?_, by omega, by omega, rfl⟩
          · omega
          · rw [List.drop_eq_getElem_cons hi']
            exact h1
    · walk_at "mv"
      exact fin (.inr (by omega))
  · walk_at "mv"
    exact fin (.inl (by omega))
theorem pwithout {o o2 : D} {ps qs : List Rg} (ho : SqP o ps) (ho2 : SqP o2 qs) (hp : Cn ps) (hq : Cn qs) (hl : ps.length * (qs.length + 1) ≤ 1000000) {Q : O → List (Option O) → Prop} (k : ∀ os, Q (.ls ((wo ps qs).map pD)) os) : Wd g_without [.leaf o, .leaf o2] Q := by
  unfold g_without
  rw [w_def]
  unfold b_without
  walk_at "mv"
  rw [ho.itm]
  have hb := (wo_ok hq hp).2.2
  refine wf_fold (I := fun r e => ∃ (acc : List Rg) (x y z w : Option O), e = [some (.leaf o), some (.leaf o2), some (.ls (acc.map pD)), x, y, z, w] ∧ acc ++ wo r qs = wo ps qs) (fun p r e hi => ?_) (fun e hi => ?_) ⟨[], none, none, none, none, rfl, rfl⟩
  · obtain ⟨acc, x, y, z, w, rfl, h1⟩ := hi
    rw [wo, List.flatMap_cons] at h1
    have h1' : acc ++ (wi p.2 p.1 qs ++ wo r qs) = wo ps qs := h1
    clear h1
    walk_at "mv"
    rw [ho2.itm]
    refine wf_fold (I := fun r2 e => ∃ (f : Int) (acc2 : List Rg) (z w : Option O), e = [some (.leaf o), some (.leaf o2), some (.ls (acc2.map pD)), some (.leaf (.int f)), some (.leaf (.int p.2)), z, w] ∧ acc2 ++ (wi p.2 f r2 ++ wo r qs) = wo ps qs) (fun q r2 e hi => ?_) (fun e hi => ?_) ⟨p.1, acc, z, w, rfl, h1'⟩
    · obtain ⟨f, acc2, z, w, rfl, h2⟩ := hi
      rw [wi] at h2
      walk_at "mv"
      have hal : acc2.length ≤ (wo ps qs).length := by rw [← h2, List.length_append]; omega
      refine br (fun hc => ?_) fun hc => ?_
      · walk_at "mv"
        refine br (fun hd => ?_) fun hd => ?_
        · walk_at "mv"
          rw [if_pos ⟨hc, hd⟩] at h2
          refine br (fun he => ?_) fun he => ?_
          · walk_at "mv"
            rw [if_pos he] at h2
            rw [map_snoc]
            refine ⟨by rw [List.length_map]; omega, by rw [List.length_map]; omega, q.2 + 1, acc2 ++ [(f, q.1 - 1)], _, _, rfl, ?_⟩
            · rw [List.append_assoc, ← h2, List.append_assoc]
          · walk_at "mv"
            rw [if_neg he] at h2
            exact ⟨q.2 + 1, acc2, _, _, rfl, h2⟩
        · walk_at "mv"
          rw [if_neg fun z => hd z.2] at h2
          exact ⟨f, acc2, _, _, rfl, h2⟩
      · walk_at "mv"
        rw [if_neg fun z => hc z.1] at h2
        exact ⟨f, acc2, _, _, rfl, h2⟩
    · obtain ⟨f, acc2, z, w, rfl, h2⟩ := hi
      rw [wi] at h2
      walk_at "mv"
      have hal : acc2.length ≤ (wo ps qs).length := by rw [← h2, List.length_append]; omega
      refine br (fun hc => ?_) fun hc => ?_
      · walk_at "mv"
        rw [if_pos hc] at h2
        refine ⟨by rw [List.length_map]; omega, by rw [List.length_map]; omega, acc2 ++ [(f, p.2)], _, _, _, _, by rw [map_snoc], by rw [List.append_assoc]; exact h2⟩
      · walk_at "mv"
        rw [if_neg hc] at h2
        exact ⟨acc2, _, _, _, _, rfl, h2⟩
  · obtain ⟨acc, x, y, z, w, rfl, h1⟩ := hi
    have e : wo [] qs = [] := rfl
    rw [e, List.append_nil] at h1
    subst h1
    walk_at "mv"
    exact k _
theorem hs {l : List Rg} {x : Int} : Has (setOf l) x ↔ Has l x := (setOf_ok l).2.1 x
theorem cs {l : List Rg} : Cn (setOf l) := (setOf_ok l).1
theorem ls {l : List Rg} : (setOf l).length ≤ l.length := (setOf_ok l).2.2
theorem hb {l m : List Rg} (h : Cn l) (h2 : Cn m) {x : Int} : Has (bo l m) x ↔ Has l x ∧ Has m x := (bo_ok h h2).2.1 x
theorem cb {l m : List Rg} (h : Cn l) (h2 : Cn m) : Cn (bo l m) := (bo_ok h h2).1
theorem lb {l m : List Rg} (h : Cn l) (h2 : Cn m) : (bo l m).length ≤ l.length + m.length := (bo_ok h h2).2.2
theorem hw {l m : List Rg} (h : Cn l) (h2 : Cn m) {x : Int} : Has (wo l m) x ↔ Has l x ∧ ¬Has m x := (wo_ok h2 h).2.1 x
theorem cw {l m : List Rg} (h : Cn l) (h2 : Cn m) : Cn (wo l m) := (wo_ok h2 h).1
theorem lw {l m : List Rg} (h : Cn l) (h2 : Cn m) : (wo l m).length ≤ l.length * (m.length + 1) := (wo_ok h2 h).2.2
/-! stretches of what is left: no more than there are ends -/
theorem cn_off : ∀ {l : List Rg}, Cn l → ∀ p ∈ l, ∀ q ∈ l, q.1 ≤ p.1 - 1 → p.1 - 1 ≤ q.2 → False
  | [], _, p, hp, _, _, _, _ => by cases hp
  | r :: t, h, p, hp, q, hq, h1, h2 => by
    have hr := h.1
    rcases List.mem_cons.mp hp with e1 | hp'
    · rcases List.mem_cons.mp hq with e2 | hq'
      · rw [e1] at h1
        rw [e2] at h1
        omega
      · have := h.2.1 q hq'
        rw [e1] at h1
        omega
    · rcases List.mem_cons.mp hq with e2 | hq'
      · have := h.2.1 p hp'
        rw [e2] at h2
        omega
      · exact cn_off h.2.2 p hp' q hq' h1 h2
theorem cn_firsts : ∀ {l : List Rg}, Cn l → (l.map (·.1)).Nodup
  | [], _ => List.nodup_nil
  | r :: t, h => by
    rw [List.map_cons, List.nodup_cons]
    refine ⟨fun m => ?_, cn_firsts h.2.2⟩
    obtain ⟨q, hq, e⟩ := List.mem_map.mp m
    have := h.2.1 q hq
    have := h.1
    omega
theorem wlen {l m : List Rg} (h : Cn l) (h2 : Cn m) : (wo l m).length ≤ l.length + m.length := by
  have hc := cw h h2
  have sub : ((wo l m).map (·.1)) ⊆ (l.map (·.1)) ++ (m.map fun q => q.2 + 1) := fun x hx => by
    obtain ⟨p, hp, rfl⟩ := List.mem_map.mp hx
    have hle := cn_le hc p hp
    have hin := (hw h h2 (x := p.1)).mp ⟨p, hp, Int.le_refl _, hle⟩
    have hout : ¬(Has l (p.1 - 1) ∧ ¬Has m (p.1 - 1)) := fun z => by
      obtain ⟨q, hq, q1, q2⟩ := (hw h h2 (x := p.1 - 1)).mpr z
      exact cn_off hc p hp q hq q1 q2
    obtain ⟨⟨a, ha, a1, a2⟩, nm⟩ := hin
    by_cases e : a.1 = p.1
    · exact List.mem_append_left _ (List.mem_map.mpr ⟨a, ha, e⟩)
    · have hm : Has m (p.1 - 1) := Classical.byContradiction fun z => hout ⟨⟨a, ha, by omega, by omega⟩, z⟩
      obtain ⟨b, hb, b1, b2⟩ := hm
      have : ¬ p.1 ≤ b.2 := fun z => nm ⟨b, hb, by omega, z⟩
      exact List.mem_append_right _ (List.mem_map.mpr ⟨b, hb, by omega⟩)
  have := (cn_firsts hc).length_le_of_subset sub
  rw [List.length_append, List.length_map, List.length_map, List.length_map] at this
  exact this
theorem slc_toG {ts : List D} {i : Int} {P : O → Prop} (h : 0 ≤ i) (k : P (.ls (ts.take i.toNat))) : Slc (.leaf (.list ts)) (.leaf .none) (.leaf (.int i)) P := by
  obtain ⟨n, rfl⟩ := Int.eq_ofNat_of_zero_le h
  have e : Mv.cutD ts none (some (n : Int)) = ts.take n := by
    unfold Mv.cutD
    have h1 : HT.sIx ts.length 0 none = 0 := rfl
    have h2 : HT.sIx ts.length ts.length (some (n : Int)) = min n ts.length := by
      unfold HT.sIx
      simp
      try omega
    rw [h1, h2]
    simp only [List.drop_zero, Nat.sub_zero]
    rw [List.take_eq_take_iff]
    omega
  show O1 (some (O.ls (Mv.cutD ts none (some (n : Int))))) P
  rw [e]
  exact k
theorem slc_fromG {ts : List D} {i : Int} {P : O → Prop} (h : 0 ≤ i) (k : P (.ls (ts.drop i.toNat))) : Slc (.leaf (.list ts)) (.leaf (.int i)) (.leaf .none) P := by
  obtain ⟨n, rfl⟩ := Int.eq_ofNat_of_zero_le h
  have e : Mv.cutD ts (some (n : Int)) none = ts.drop n := by
    unfold Mv.cutD
    have h1 : HT.sIx ts.length ts.length none = ts.length := rfl
    have h2 : HT.sIx ts.length 0 (some (n : Int)) = min n ts.length := by
      unfold HT.sIx
      simp
      try omega
    rw [h1, h2]
    by_cases hn : n ≤ ts.length
    · rw [Nat.min_eq_left hn]
      rw [List.take_of_length_le (by rw [List.length_drop]; omega)]
    · rw [Nat.min_eq_right (by omega), Nat.sub_self, List.take_zero, List.drop_eq_nil_of_le (by omega)]
  show O1 (some (O.ls (Mv.cutD ts (some (n : Int)) none))) P
  rw [e]
  exact k
section
variable {p : Int × Int} {Q : O → Prop}
theorem p_isTp : Op1 (vw1 (isaI .tuple)) (.leaf (pD p)) Q ↔ Q (.leaf (.bool true)) := p_isa (n := 1) (by decide) okz_pair
theorem p_lenp : Op1 oLen (.leaf (pD p)) Q ↔ Q (.leaf (.int 2)) := Iff.rfl
theorem itm_p {P : List D → Prop} : Itm (.leaf (pD p)) P ↔ P ([p.1, p.2].map .int) := Iff.rfl
end
/-- lists of pairs that are the same -/
theorem eqP {neg : Bool} {a b : O} {l m : List Rg} {Q : O → Prop} (ha : a.frz = some (.list (l.map pD))) (hb : b.frz = some (.list (m.map pD))) (e : l = m) (hl : l.length ≤ 1000000) (k : Q (.leaf (.bool !neg))) : Op2 (vw2 (eqI neg)) a b Q := by
  subst e
  exact frz_eqE ha hb (n := 2) (by decide) (okz_pairs hl) k
theorem sz {n : Nat} (h : n ≤ 100000) : n ≤ sizeLine := Nat.le_trans h (by decide)
theorem cn_zip : ∀ {ps : List Rg}, Cn ps → ∀ q ∈ ps.zip (ps.drop 1), q.1.2 + 1 < q.2.1
  | [], _, q, hq => by simp at hq
  | [p], _, q, hq => by simp at hq
  | p :: p2 :: r, h, q, hq => by
    rw [List.drop_succ_cons, List.drop_zero, List.zip_cons_cons] at hq
    rcases List.mem_cons.mp hq with rfl | hq
    · exact h.2.1 p2 List.mem_cons_self
    · exact cn_zip h.2.2 q (by simpa using hq)
theorem is_set {ps : List Rg} (h : Cn ps) (h0 : ∀ p ∈ ps, 0 ≤ p.1) (hl : ps.length ≤ 10000) {Q : O → List (Option O) → Prop} (k : ∀ os, Q (.leaf (.bool true)) os) : Wd g_l_is_set [.leaf (.list (ps.map pD))] Q := by
  unfold g_l_is_set
  rw [w_def]
  unfold b_l_is_set
  walk_at "mv"
  rw [p_isa (n := 2) (by decide) (okz_pairs (by omega))]
  simp only [Tyk.is, PyData.isList]
  walk_at "mv"
  refine wf_fold (I := fun r e => ∃ (x y z : Option O), e = [some (.leaf (.list (ps.map pD))), x, y, z] ∧ y = none ∧ z = none ∧ ∀ p ∈ r, 0 ≤ p.1 ∧ p.1 ≤ p.2) (fun p r e hi => ?_) (fun e hi => ?_) ⟨none, none, none, rfl, rfl, rfl, fun p hp => ⟨h0 p hp, cn_le h p hp⟩⟩
  · obtain ⟨x, y, z, rfl, rfl, rfl, h1⟩ := hi
    have h2 := h1 p List.mem_cons_self
    walk_at "mv"
    rw [show [PyData.int p.1, PyData.int p.2] = [p.1, p.2].map PyData.int from rfl]
    refine wcl_map (p := fun _ => true) (g := fun _ => PyData.bool true) (fun i hi => ?_) ?_
    · have : 0 ≤ i := by
        rcases List.mem_cons.mp hi with rfl | hi
        · exact h2.1
        · rw [List.mem_singleton.mp hi]
          omega
      walk_at "mv"
      rw [decide_eq_true this]
    rw [List.filter_eq_self.mpr fun _ _ => rfl]
    have e : [p.1, p.2].map (fun _ => PyData.bool true) = [true, true].map .bool := rfl
    rw [e]
    walk_at "mv"
    simp only [List.all_cons, List.all_nil, id, Bool.and_self]
    walk_at "mv"
    refine br (fun z => absurd z (by omega)) fun z => ?_
    walk_at "mv"
    exact ⟨_, _, _, rfl, rfl, rfl, fun q hq => h1 q (List.mem_cons_of_mem _ hq)⟩
  · obtain ⟨x, y, z, rfl, rfl, rfl, h1⟩ := hi
    walk_at "mv"
    refine slc_fromG (by decide) ?_
    walk_at "mv"
    have ez : zipD (ps.map pD) ((ps.map pD).drop 1) = (ps.zip (ps.drop 1)).map fun q => PyData.tuple [pD q.1, pD q.2] := by
      unfold zipD
      rw [← List.map_drop, List.zip_map, List.map_map]
      rfl
    rw [ez]
    refine ⟨by rw [List.length_map, List.length_zip]; omega, ?_⟩
    refine wcl_map (p := fun _ => true) (g := fun _ => PyData.bool true) (fun q hq => ?_) ?_
    · have := cn_zip h q hq
      walk_at "mv"
      rw [decide_eq_true this]
    rw [List.filter_eq_self.mpr fun _ _ => rfl]
    have e : (ps.zip (ps.drop 1)).map (fun _ => PyData.bool true) = ((ps.zip (ps.drop 1)).map fun _ => true).map .bool := by rw [List.map_map]; rfl
    rw [e]
    walk_at "mv"
    have e2 : ((ps.zip (ps.drop 1)).map fun _ => true).all id = true := by simp
    rw [e2]
    exact k _
theorem cut_loG {ts : List D} {n : Nat} {P : O → Prop} (h : P (.ls (ts.take n))) : Slc (.leaf (.list ts)) (.leaf .none) (.leaf (.int n)) P := by
  have e : Mv.cutD ts none (some (n : Int)) = ts.take n := by
    unfold Mv.cutD
    have h1 : HT.sIx ts.length 0 none = 0 := rfl
    have h2 : HT.sIx ts.length ts.length (some (n : Int)) = min n ts.length := by
      unfold HT.sIx
      simp
      try omega
    rw [h1, h2]
    simp only [List.drop_zero, Nat.sub_zero]
    rw [List.take_eq_take_iff]
    omega
  show O1 (some (O.ls (Mv.cutD ts none (some (n : Int))))) P
  rw [e]
  exact h
theorem p_eqPl0 {ps : List Rg} {Q : O → Prop} : Op2 (vw2 (eqI false)) (.leaf (.list (ps.map pD))) (.ls []) Q ↔ Q (.leaf (.bool ps.isEmpty)) := by
  rw [vw2_of rfl rfl (eqI_nil okd_pairs) rfl]
  simp
theorem near {st : List Int × Int} {n : Int} {ps : List Rg} (h : St st n) (hn : n ≤ 1000000000000000) (hc : Cn ps) (h0 : ∀ p ∈ ps, 0 ≤ p.1 ∧ p.2 ≤ 100000000000000000000000000000000) (hl : ps.length ≤ 24) {Q : O → List (Option O) → Prop}
    (k : ∀ (qs : List Rg) st' os, qs.length ≤ 24 → Cn qs → (∀ q ∈ qs, 0 ≤ q.1 ∧ q.2 ≤ 1000000000000000000000000000000000) → St st' (n + 500) → Q (.ls (qs.map pD)) (some (stO st') :: os)) : Wd g_l_near [stO st, .leaf (.list (ps.map pD))] Q := by
  unfold g_l_near
  rw [w_def]
  unfold b_l_near
  walk_at "mv"
  rw [p_eqPl0]
  walk_at "mv"
  refine brb (fun z => ?_) fun z => ?_
  · walk_at "mv"
    refine set_ok h (by omega) fun qs s2 pl pc pp h2 => ?_
    walk_at "mv"
    exact k _ _ _ pl pc (fun p hp => ⟨(pp p hp).1, by have := (pp p hp).2; omega⟩) (h2.le (by omega))
  · walk_at "mv"
    refine tk h (by omega) (by decide) (by decide) fun d s1 d1 d2 h1 => ?_
    walk_at "mv"
    refine br (fun hd => ?_) fun hd => ?_
    · walk_at "mv"
      refine set_ok h1 (by omega) fun qs s2 pl pc pp h2 => ?_
      walk_at "mv"
      exact k _ _ _ pl pc (fun p hp => ⟨(pp p hp).1, by have := (pp p hp).2; omega⟩) (h2.le (by omega))
    · walk_at "mv"
      refine cut_loG (n := 23) ?_
      walk_at "mv"
      rw [← List.map_take]
      obtain ⟨a, y, rfl⟩ : ∃ a y, ps = a ++ [y] := by
        rcases List.eq_nil_or_concat ps with e | ⟨a, y, e⟩
        · rw [e] at z
          cases z
        · exact ⟨a, y, by rw [e, List.concat_eq_append]⟩
      have el : ∀ {P : D → Prop}, At ((a ++ [y]).map pD) (-1) P ↔ P (pD y) := by
        intro P
        rw [List.map_append]
        exact at_last
      have y0 : 0 ≤ y.2 := by
        have x1 := (h0 y (by simp)).1
        have x2 := cn_le hc y (by simp)
        omega
      refine wf_fold (I := fun r e => ∃ (s : List Int × Int) (fs : List Rg) (l : Int) (u v : Option O), e = [some (stO s), some (.leaf (.list ((a ++ [y]).map pD))), some (.ls (fs.map pD)), some (.leaf (.int l)), u, v] ∧ Cn fs ∧ (∀ p ∈ fs, p.2 + 2 ≤ l) ∧ 0 ≤ l ∧ ((∀ q ∈ fs, 0 ≤ q.1 ∧ q.2 ≤ 1000000000000000000000000000000000) ∧ l ≤ 100000000000000000000000000000000 + 10 ∧ ∀ p ∈ r, p.2 ≤ 100000000000000000000000000000000) ∧ fs.length + r.length ≤ 23 ∧ St s (n + 100 - 3 * r.length)) (fun p r e hi => ?_) (fun e hi => ?_) ⟨s1, [], 0, none, none, rfl, trivial, (by intro p hp; cases hp), by omega, ⟨(by intro p hp; cases hp), by omega, fun p hp => (h0 p (List.mem_of_mem_take hp)).2⟩, by rw [List.length_take, List.length_nil]; omega, h1.le (by rw [List.length_take]; omega)⟩
      · obtain ⟨s, fs, l, u, v, rfl, g1, g2, g3, g5, g4, h2⟩ := hi
        rw [List.length_cons] at g4 h2
        have p2 := g5.2.2 p List.mem_cons_self
        have g6 : ∀ p ∈ r, p.2 ≤ 100000000000000000000000000000000 := fun q hq => g5.2.2 q (List.mem_cons_of_mem _ hq)
        walk_at "mv"
        refine tk h2 (by omega) (by decide) (by decide) fun b s2 b1 b2 h3 => ?_
        walk_at "mv"
        refine tk h3 (by omega) (by decide) (by decide) fun c s3 c1 c2 h4 => ?_
        walk_at "mv"
        refine br (fun x1 => ?_) fun x1 => ?_
        · walk_at "mv"
          refine br (fun x2 => ?_) fun x2 => ?_
          · walk_at "mv"
            refine tk h4 (by omega) (by decide) (by decide) fun f s4 f1 f2 h5 => ?_
            walk_at "mv"
            refine br (fun x3 => ?_) fun x3 => ?_
            · walk_at "mv"
              rw [map_snoc]
              refine ⟨by rw [List.length_map]; omega, by rw [List.length_map]; omega, s4, fs ++ [(p.1 + b - 1, p.2 + c - 1)], _, _, _, rfl, cn_app g1 ⟨x2, (by intro q hq; cases hq), trivial⟩ fun q hq t ht => ?_, fun q hq => ?_, by omega, ⟨fun q hq => ?_, by omega, g6⟩, by rw [List.length_append, List.length_singleton]; omega, h5.le (by omega)⟩
              · have := g2 q hq
                rw [List.mem_singleton.mp ht]
                simp only
                omega
              · rcases List.mem_append.mp hq with w | w
                · have := g2 q w
                  omega
                · rw [List.mem_singleton.mp w]
                  simp only
                  omega
              · rcases List.mem_append.mp hq with w | w
                · exact g5.1 q w
                · rw [List.mem_singleton.mp w]
                  exact ⟨by show 0 ≤ p.1 + b - 1; omega, by show p.2 + c - 1 ≤ 1000000000000000000000000000000000; omega⟩
            · walk_at "mv"
              exact ⟨s4, fs, l, _, _, rfl, g1, g2, g3, ⟨g5.1, g5.2.1, g6⟩, by omega, h5.le (by omega)⟩
          · walk_at "mv"
            exact ⟨s3, fs, l, _, _, rfl, g1, g2, g3, ⟨g5.1, g5.2.1, g6⟩, by omega, h4.le (by omega)⟩
        · walk_at "mv"
          exact ⟨s3, fs, l, _, _, rfl, g1, g2, g3, ⟨g5.1, g5.2.1, g6⟩, by omega, h4.le (by omega)⟩
      · obtain ⟨s, fs, l, u, v, rfl, g1, g2, g3, g5, g4, h2⟩ := hi
        rw [List.length_nil] at g4 h2
        walk_at "mv"
        rw [el]
        walk_at "mv"
        rw [el]
        walk_at "mv"
        refine tk h2 (by omega) (by decide) (by decide) fun b s2 b1 b2 h3 => ?_
        have hb2 : b = 0 ∨ b = 1 := by omega
        rcases hb2 with rfl | rfl
        · walk_at "mv"
          refine ⟨by rw [List.length_map]; exact sz (by omega), ?_⟩
          rw [List.append_nil]
          exact k fs s2 _ (by omega) g1 g5.1 (h3.le (by omega))
        · walk_at "mv"
          refine ⟨sz (by omega), by rw [List.length_map]; exact sz (by omega), ?_⟩
          rw [map_snoc]
          refine k _ s2 _ (by rw [List.length_append, List.length_singleton]; omega) (cn_app g1 ⟨by simp only; omega, (by intro q hq; cases hq), trivial⟩ fun q hq t ht => ?_) (fun q hq => ?_) (h3.le (by omega))
          rotate_left
          · rcases List.mem_append.mp hq with w | w
            · exact g5.1 q w
            · rw [List.mem_singleton.mp w]
              have y3 := (h0 y (by simp)).2
              have l3 := g5.2.1
              exact ⟨by show 0 ≤ l + y.2; omega, by show l + y.2 + 3 ≤ 1000000000000000000000000000000000; omega⟩
          have := g2 q hq
          rw [List.mem_singleton.mp ht]
          simp only
          omega
/-! whether a set has each of rising numbers -/
theorem walked {A : List Rg} {i : Nat} {n : Int} (hc : Cn A) (h1 : ∀ (j : Nat) (p : Rg), j < i → A[j]? = some p → p.2 < n) (h2 : ∀ p, A[i]? = some p → n ≤ p.2) : hasB A n = match A[i]? with | some p => decide (p.1 ≤ n) | none => false := by
  have far : ∀ (j k : Nat) (p q : Rg), j < k → A[j]? = some p → A[k]? = some q → p.2 + 1 < q.1 := by
    clear h1 h2
    induction A with
    | nil => intro j k p q _ h; simp at h
    | cons a r ih =>
      intro j k p q hjk hj hk
      cases k with
      | zero => omega
      | succ k =>
        rw [List.getElem?_cons_succ] at hk
        cases j with
        | zero =>
          rw [List.getElem?_cons_zero] at hj
          cases hj
          exact hc.2.1 q (List.mem_of_getElem? hk)
        | succ j =>
          rw [List.getElem?_cons_succ] at hj
          exact ih hc.2.2 j k p q (by omega) hj hk
  have key : Has A n ↔ ∃ p, A[i]? = some p ∧ p.1 ≤ n := by
    constructor
    · rintro ⟨p, hp, p1, p2⟩
      obtain ⟨j, hj⟩ := List.mem_iff_getElem?.mp hp
      have h3 : ¬ j < i := fun z => by have := h1 j p z hj; omega
      by_cases e : j = i
      · subst e
        exact ⟨p, hj, p1⟩
      · have hil : i < A.length := by
          have := (List.getElem?_eq_some_iff.mp hj).1
          omega
        have hi := List.getElem?_eq_getElem hil
        have := far i j _ _ (by omega) hi hj
        have := h2 _ hi
        omega
    · rintro ⟨p, hp, p1⟩
      exact ⟨p, List.mem_of_getElem? hp, p1, h2 p hp⟩
  rw [Bool.eq_iff_iff, hasB_iff, key]
  cases A[i]? with
  | none => simp
  | some p => simp
theorem flags {o : D} {A : List Rg} {ns : List Int} (ho : SqP o A) (hc : Cn A) (hn : ns.Pairwise (· ≤ ·)) (hl : A.length ≤ 10000) (hl2 : ns.length ≤ 100000) {Q : O → List (Option O) → Prop} (k : ∀ os, Q (.ls (ns.map fun n => .bool (hasB A n))) os) : Wd g_l_flags [.leaf o, .leaf (.list (ns.map .int))] Q := by
  have hz := sizeLine_eq
  unfold g_l_flags
  rw [w_def]
  unfold b_l_flags
  walk_at "mv"
  refine wf_fold (h := .int) (I := fun r e => ∃ (pre : List Int) (i : Nat) (x4 : Option O), e = [some (.leaf o), some (.leaf (.list (ns.map .int))), some (.ls (pre.map fun n => .bool (hasB A n))), some (.leaf (.int i)), x4] ∧ pre ++ r = ns ∧ i ≤ A.length ∧ ∀ n ∈ r, ∀ (j : Nat) (p : Rg), j < i → A[j]? = some p → p.2 < n) (fun n r e hi => ?_) (fun e hi => ?_) ⟨[], 0, none, rfl, rfl, Nat.zero_le _, fun n _ j p hj => absurd hj (Nat.not_lt_zero _)⟩
  · obtain ⟨pre, i, x4, rfl, hp, hi, hb⟩ := hi
    have hle : ∀ m ∈ r, n ≤ m := by
      rw [← hp] at hn
      exact fun m hm => (List.pairwise_cons.mp (List.pairwise_append.mp hn).2.1).1 m hm
    have pl : pre.length ≤ 100000 := by rw [← hp, List.length_append] at hl2; omega
    walk_at "mv"
    refine ww_inv (I := fun m e => ∃ (i : Nat), e = [some (.leaf o), some (.leaf (.list (ns.map .int))), some (.ls (pre.map fun n => .bool (hasB A n))), some (.leaf (.int i)), some (.leaf (.int n))] ∧ i ≤ A.length ∧ m = A.length - i ∧ ∀ (j : Nat) (p : Rg), j < i → A[j]? = some p → p.2 < n) (fun m e hi => ?_) (m := A.length - i) (by omega) ⟨i, rfl, hi, rfl, hb n List.mem_cons_self⟩
    obtain ⟨i, rfl, hi, hm, hb⟩ := hi
    walk_at "mv"
    rw [ho.len]
    walk_at "mv"
    have fin : (∀ p, A[i]? = some p → n ≤ p.2) → ∃ (pre' : List Int) (i' : Nat) (x4 : Option O), [some (.leaf o), some (.leaf (.list (ns.map .int))), some (.ls ((pre.map fun n => PyData.bool (hasB A n)) ++ [.bool (hasB A n)])), some (.leaf (.int i)), some (.leaf (.int n))] = [some (.leaf o), some (.leaf (.list (ns.map .int))), some (.ls (pre'.map fun n => .bool (hasB A n))), some (.leaf (.int i')), x4] ∧ pre' ++ r = ns ∧ i' ≤ A.length ∧ ∀ n ∈ r, ∀ (j : Nat) (p : Rg), j < i' → A[j]? = some p → p.2 < n := fun _ =>
      ⟨pre ++ [n], i, _, by rw [List.map_append]; rfl, by rw [List.append_assoc]; exact hp, hi, fun m hm j p hj e => by have := hb j p hj e; have := hle m hm; omega⟩
    refine br (fun hc1 => ?_) fun hc1 => ?_
    · have hil : i < A.length := by omega
      have e1 : ∀ {P : D → Prop}, At (A.map pD) (i : Int) P ↔ P (pD A[i]) := at_psE (List.getElem?_eq_getElem hil)
      walk_at "mv"
      rw [ho.ix, e1]
      walk_at "mv"
      refine br (fun hc2 => ?_) fun hc2 => ?_
      · walk_at "mv"
        have ei : (i : Int) + 1 = ((i + 1 : Nat) : Int) := by omega
        rw [ei]
        refine ⟨_, ?_, i + 1, rfl, by omega, rfl, fun j p hj e => ?_⟩
        · omega
        · by_cases h : j = i
          · subst h
            rw [List.getElem?_eq_getElem hil] at e
            cases e
            exact hc2
          · exact hb j p (by omega) e
      · walk_at "mv"
        rw [ho.len]
        walk_at "mv"
        have hge : ∀ p, A[i]? = some p → n ≤ p.2 := fun p e => by
          rw [List.getElem?_eq_getElem hil] at e
          cases e
          omega
        have hv := walked hc hb hge
        rw [List.getElem?_eq_getElem hil] at hv
        have hv : hasB A n = decide (A[i].1 ≤ n) := hv
        have f := fin hge
        refine br (fun _ => ?_) fun z => absurd hc1 z
        walk_at "mv"
        rw [ho.ix, e1]
        walk_at "mv"
        refine ⟨by rw [List.length_map]; omega, by rw [List.length_map]; omega, ?_⟩
        rw [← hv]
        exact f
    · walk_at "mv"
      have hnn : A[i]? = none := List.getElem?_eq_none (by omega)
      have hge : ∀ p, A[i]? = some p → n ≤ p.2 := fun p e => by
        rw [hnn] at e
        cases e
      have hv := walked hc hb hge
      rw [hnn] at hv
      have hv : hasB A n = false := hv
      have f := fin hge
      rw [ho.len]
      walk_at "mv"
      refine br (fun z => absurd z hc1) fun _ => ?_
      walk_at "mv"
      refine ⟨by rw [List.length_map]; omega, by rw [List.length_map]; omega, ?_⟩
      rw [← hv]
      exact f
  · obtain ⟨pre, i, x4, rfl, hp, hi, hb⟩ := hi
    rw [List.append_nil] at hp
    subst hp
    walk_at "mv"
    exact k _
/-! the law's own -/
theorem nnW {A B : List Rg} (h : ∀ x, Has B x → Has A x) (h0 : ∀ p ∈ A, 0 ≤ p.1) (hc : Cn B) : ∀ p ∈ B, 0 ≤ p.1 := fun p hp => by
  obtain ⟨q, hq, q1, _⟩ := h p.1 ⟨p, hp, Int.le_refl _, cn_le hc p hp⟩
  have := h0 q hq
  omega
theorem nnS {A B : List Rg} (a0 : ∀ p ∈ A, 0 ≤ p.1) (b0 : ∀ p ∈ B, 0 ≤ p.1) : ∀ p ∈ setOf (A ++ B), 0 ≤ p.1 :=
  nnW (A := A ++ B) (fun x hx => hs.mp hx) (fun p hp => (List.mem_append.mp hp).elim (a0 p) (b0 p)) cs
def RIG (A B : List Rg) : List (List Rg) := [A, B, setOf (A ++ B), bo A B, wo A B]
theorem right_mk {o o2 : D} {A B : List Rg} (ho : SqP o A) (ho2 : SqP o2 B) (ha : Cn A) (hB : Cn B) (a0 : ∀ p ∈ A, 0 ≤ p.1) (b0 : ∀ p ∈ B, 0 ≤ p.1) (la : A.length ≤ 100) (lB : B.length ≤ 100) {Q : O → List (Option O) → Prop} (k : ∀ os, Q (.leaf (.bool true)) os) : Wd g_l_right [.leaf o, .leaf o2] Q := by
  have hz := sizeLine_eq
  have l1 : (setOf (A ++ B)).length ≤ 200 := Nat.le_trans L02.ls (by rw [List.length_append]; omega)
  have l2 : (bo A B).length ≤ 200 := Nat.le_trans (lb ha hB) (by omega)
  have l3 : (wo A B).length ≤ 200 := Nat.le_trans (wlen ha hB) (by omega)
  have n2 := nnW (fun x hx => ((hb ha hB).mp hx).1) a0 (cb ha hB)
  have n3 := nnW (fun x hx => ((hw ha hB).mp hx).1) a0 (cw ha hB)
  have l4 : A.length * (B.length + 1) ≤ 100 * 101 := Nat.mul_le_mul la (by omega)
  unfold g_l_right
  rw [w_def]
  unfold b_l_right
  walk_at "mv"
  refine peither ho ho2 (by omega) fun os => ?_
  walk_at "mv"
  refine pboth ho ho2 ha hB (by omega) fun os => ?_
  walk_at "mv"
  refine pwithout ho ho2 ha hB (by omega) fun os => ?_
  walk_at "mv"
  rw [show [PyData.list ((setOf (A ++ B)).map pD), .list ((bo A B).map pD), .list ((wo A B).map pD)] = [setOf (A ++ B), bo A B, wo A B].map (fun S => PyData.list (S.map pD)) from rfl]
  refine wcl_map (p := fun _ => true) (g := fun _ => PyData.bool true) (fun S hS => ?hs) ?_
  case hs =>
    walk_at "mv"
    simp only [List.mem_cons, List.not_mem_nil, or_false] at hS
    rcases hS with rfl | rfl | rfl
    · refine is_set cs (nnS a0 b0) (by omega) fun os => ?_
      walk_at "mv"
    · refine is_set (cb ha hB) n2 (by omega) fun os => ?_
      walk_at "mv"
    · refine is_set (cw ha hB) n3 (by omega) fun os => ?_
      walk_at "mv"
  rw [List.filter_eq_self.mpr fun _ _ => rfl]
  rw [show [setOf (A ++ B), bo A B, wo A B].map (fun _ => PyData.bool true) = [true, true, true].map .bool from rfl]
  walk_at "mv"
  rw [show ([true, true, true].all id) = true from rfl]
  walk_at "mv"
  obtain ⟨XS, hXS⟩ : ∃ XS : List (D × List Rg), XS = [(o, A), (o2, B), (PyData.list ((setOf (A ++ B)).map pD), setOf (A ++ B)), (.list ((bo A B).map pD), bo A B), (.list ((wo A B).map pD), wo A B)] := ⟨_, rfl⟩
  have xok : ∀ x ∈ XS, SqP x.1 x.2 ∧ Cn x.2 ∧ x.2.length ≤ 200 := fun x hx => by
    rw [hXS] at hx
    simp only [List.mem_cons, List.not_mem_nil, or_false] at hx
    rcases hx with rfl | rfl | rfl | rfl | rfl
    · exact ⟨ho, ha, Nat.le_trans la (by decide)⟩
    · exact ⟨ho2, hB, Nat.le_trans lB (by decide)⟩
    · exact ⟨.inl rfl, cs, l1⟩
    · exact ⟨.inl rfl, cb ha hB, l2⟩
    · exact ⟨.inl rfl, cw ha hB, l3⟩
  have xsum : sumL (XS.map (·.2)) ≤ 10000 := by
    rw [hXS]
    simp only [List.map_cons, List.map_nil, sumL]
    omega
  refine ⟨by omega, ?_⟩
  rw [show [o, o2, PyData.list ((setOf (A ++ B)).map pD), .list ((bo A B).map pD), .list ((wo A B).map pD)] = XS.map (·.1) by rw [hXS]; rfl]
  refine probes (fun x m => (xok x m).1) xsum fun ns os nl np => ?_
  walk_at "mv"
  refine ⟨by omega, ?_⟩
  rw [show [o, o2, PyData.list ((setOf (A ++ B)).map pD), .list ((bo A B).map pD), .list ((wo A B).map pD)] = XS.map (·.1) by rw [hXS]; rfl]
  refine wcl_map (h := fun x : D × List Rg => x.1) (p := fun _ => true) (g := fun x => PyData.list (ns.map fun n => .bool (hasB x.2 n))) (fun x hx => ?hs2) ?_
  case hs2 =>
    walk_at "mv"
    obtain ⟨x1, x2, x3⟩ := xok x hx
    refine flags x1 x2 np (by omega) (by omega) fun os => ?_
    walk_at "mv"
  rw [List.filter_eq_self.mpr fun _ _ => rfl, hXS]
  simp only [List.map_cons, List.map_nil]
  walk_at "mv"
  rw [zp5_l (by simp only [List.length_map, and_self])]
  have ez : zipN [ns.map fun n => PyData.bool (hasB A n), ns.map fun n => .bool (hasB B n), ns.map fun n => .bool (hasB (setOf (A ++ B)) n), ns.map fun n => .bool (hasB (bo A B) n), ns.map fun n => .bool (hasB (wo A B) n)] =
      ns.map fun n => .tuple [.bool (hasB A n), .bool (hasB B n), .bool (hasB A n || hasB B n), .bool (hasB A n && hasB B n), .bool (hasB A n && !hasB B n)] := by
    have := zipN_map (fs := [fun n => PyData.bool (hasB A n), fun n => .bool (hasB B n), fun n => .bool (hasB (setOf (A ++ B)) n), fun n => .bool (hasB (bo A B) n), fun n => .bool (hasB (wo A B) n)]) (ns := ns) (fun z => nomatch z)
    refine Eq.trans this (List.map_congr_left fun n _ => ?_)
    have e1 : hasB (setOf (A ++ B)) n = (hasB A n || hasB B n) := by
      rw [Bool.eq_iff_iff, Bool.or_eq_true, hasB_iff, hasB_iff, hasB_iff, hs]
      unfold Has
      simp only [List.mem_append]
      constructor
      · rintro ⟨p, hp | hp, h⟩
        · exact .inl ⟨p, hp, h⟩
        · exact .inr ⟨p, hp, h⟩
      · rintro (⟨p, hp, h⟩ | ⟨p, hp, h⟩)
        · exact ⟨p, .inl hp, h⟩
        · exact ⟨p, .inr hp, h⟩
    have e2 : hasB (bo A B) n = (hasB A n && hasB B n) := by
      rw [Bool.eq_iff_iff, Bool.and_eq_true, hasB_iff, hasB_iff, hasB_iff, hb ha hB]
    have e3 : hasB (wo A B) n = (hasB A n && !hasB B n) := by
      rw [Bool.eq_iff_iff, Bool.and_eq_true, Bool.not_eq_true', ← Bool.not_eq_true, hasB_iff, hasB_iff, hasB_iff, hw ha hB]
    simp only [List.map_cons, List.map_nil, e1, e2, e3]
  rw [ez]
  refine wf_fold (h := fun n => .tuple [.bool (hasB A n), .bool (hasB B n), .bool (hasB A n || hasB B n), .bool (hasB A n && hasB B n), .bool (hasB A n && !hasB B n)]) (I := fun r e => ∃ (y2 y3 y4 x5 x6 x7 x8 x9 x10 : Option O), e = [some (.leaf o), some (.leaf o2), y2, y3, y4, x5, x6, x7, x8, x9, x10]) (fun n r e hi => ?_) (fun e hi => ?_) ⟨_, _, _, _, _, _, _, _, _, rfl⟩
  · obtain ⟨y2, y3, y4, x5, x6, x7, x8, x9, x10, rfl⟩ := hi
    generalize hasB A n = a
    generalize hasB B n = b
    cases a <;> cases b
    all_goals
      simp only [Bool.or_self, Bool.and_self, Bool.not_true, Bool.not_false, Bool.or_true, Bool.true_or, Bool.and_false, Bool.false_and, Bool.or_false, Bool.and_true, Bool.false_or]
      walk_at "mv"
    all_goals
      refine frz_eqE rfl rfl (n := 2) (by decide) (by rfl) ?_
      walk_at "mv"
      exact ⟨_, _, _, _, _, _, _, _, _, rfl⟩
  · obtain ⟨y2, y3, y4, x5, x6, x7, x8, x9, x10, rfl⟩ := hi
    walk_at "mv"
    exact k _
theorem sto2 {A B : List Rg} (a0 : ∀ p ∈ A, (0 ≤ p.1 ∧ p.1 ≤ p.2) ∧ p.2 ≤ 1000000000000000000000000000000000) (b0 : ∀ p ∈ B, (0 ≤ p.1 ∧ p.1 ≤ p.2) ∧ p.2 ≤ 1000000000000000000000000000000000) (la : A.length ≤ 24) (lB : B.length ≤ 24) : StO 50 75000 (.list [.list (A.map pD), .list (B.map pD)]) := by
  have one : ∀ {A : List Rg}, (∀ p ∈ A, (0 ≤ p.1 ∧ p.1 ≤ p.2) ∧ p.2 ≤ 1000000000000000000000000000000000) → A.length ≤ 24 → StO 3 (24 * 3) (.list (A.map pD)) := fun {A} h hl =>
    sto_pairs (n := 1) (fun p hp => by
      obtain ⟨⟨h1, h2⟩, h3⟩ := h p hp
      have big : (1000000000000000000000000000000000 : Nat) < 10 ^ 200 := by decide
      constructor <;> omega) hl
  have h := sto_list (n := 3) (N := 24 * 3) (L := 2) (ts := [.list (A.map pD), .list (B.map pD)]) (fun t m => by
    simp only [List.mem_cons, List.not_mem_nil, or_false] at m
    rcases m with rfl | rfl
    · exact one a0 la
    · exact one b0 lB) (Nat.le_refl 2)
  exact h.le (by decide) (by decide)
theorem at2 {i : Int} {a b : D} {P : D → Prop} (h : 0 ≤ i) (h2 : i < 2) (k : ∀ d, d = a ∨ d = b → P d) : At [a, b] i P := by
  have : i = 0 ∨ i = 1 := by omega
  rcases this with rfl | rfl
  · exact k _ (.inl rfl)
  · exact k _ (.inr rfl)
theorem law_ok (ns : List Int) (hl : ns.length ≤ 63) : ∃ os', g_law [.leaf (.list (ns.map .int))] = some (.leaf (.bool true), os') := by
  have hz := sizeLine_eq
  have key : Wd g_law [.leaf (.list (ns.map .int))] fun r _ => r = .leaf (.bool true) := by
    unfold g_law
    rw [w_def]
    unfold b_law
    walk_at "mv"
    refine begin_ok (c := 11) hl fun st os h => ?_
    walk_at "mv"
    refine wf_inv (k := 0) (I := fun j e => ∃ (s1 : List Int × Int) (a b c d e1 f : Option O), e = [some (.leaf (.list (ns.map .int))), some (stO s1), a, b, c, d, e1, f] ∧ St s1 (2000 * j)) (fun j t e ht hi => ?_) ⟨st, none, none, none, none, none, none, rfl, h.le (by omega)⟩ fun e hi => ?_
    · obtain ⟨s1, a, b, c, d, e1, f, rfl, h1⟩ := hi
      have hj := (List.getElem?_eq_some_iff.mp ht).1
      have hj : j < 4 := hj
      rw [Nat.zero_add] at h1 ⊢
      walk_at "mv"
      refine set_ok h1 (by omega) fun A s2 lA cA nA h2 => ?_
      walk_at "mv"
      refine near h2 (by omega) cA nA lA fun B s3 os lB cB nB h3 => ?_
      have pA := fun p hp => (nA p hp).1
      have pB := fun p hp => (nB p hp).1
      have hst := sto2 (A := A) (B := B) (fun p hp => ⟨⟨(nA p hp).1, cn_le cA p hp⟩, by have := (nA p hp).2; omega⟩) (fun p hp => ⟨⟨(nB p hp).1, cn_le cB p hp⟩, (nB p hp).2⟩) lA lB
      walk_at "mv"
      rw [p_str rfl hst]
      walk_at "mv"
      refine tk h3 (by omega) (by decide) (by decide) fun x s4 x1 x2 h4 => ?_
      walk_at "mv"
      refine at2 x1 x2 fun hd hhd => ?_
      have ho : SqP hd A := hhd.elim .inl .inr
      walk_at "mv"
      refine right_mk ho (.inl rfl) cA cB pA pB (by omega) (by omega) fun os => ?_
      walk_at "mv"
      refine right_mk (.inl rfl) ho cB cA pB pA (by omega) (by omega) fun os => ?_
      walk_at "mv"
      refine right_mk (.inl rfl) (.inl rfl) cA cA pA pA (by omega) (by omega) fun os => ?_
      walk_at "mv"
      refine right_mk (B := []) (.inl rfl) (.inl rfl) cA trivial pA (fun p m => nomatch m) (by omega) (by decide) fun os => ?_
      walk_at "mv"
      refine right_mk (A := []) (.inl rfl) (.inr rfl) trivial cA (fun p m => nomatch m) pA (by decide) (by omega) fun os => ?_
      walk_at "mv"
      rw [p_str rfl hst]
      walk_at "mv"
      refine peither (ps := A) (qs := B) (.inl rfl) (.inl rfl) (by omega) fun os => ?_
      have l1 : (setOf (A ++ B)).length ≤ 48 := Nat.le_trans L02.ls (by rw [List.length_append]; omega)
      have l2 : (bo A B).length ≤ 48 := Nat.le_trans (lb cA cB) (by omega)
      have l3 : (wo (setOf (A ++ B)) A).length ≤ 72 := Nat.le_trans (wlen cs cA) (by omega)
      have l5 : (setOf (A ++ B)).length * (A.length + 1) ≤ 48 * 25 := Nat.mul_le_mul l1 (by omega)
      have pS := nnS pA pB
      walk_at "mv"
      refine pboth (ps := A) (qs := B) (.inl rfl) (.inl rfl) cA cB (by omega) fun os => ?_
      walk_at "mv"
      refine right_mk (.inl rfl) (.inl rfl) cs (cb cA cB) pS (nnW (fun x hx => ((hb cA cB).mp hx).1) pA (cb cA cB)) (by omega) (by omega) fun os => ?_
      walk_at "mv"
      refine pwithout (ps := setOf (A ++ B)) (qs := A) (.inl rfl) (.inl rfl) cs cA (by omega) fun os => ?_
      walk_at "mv"
      refine right_mk (.inl rfl) (.inl rfl) (cw cs cA) cB (nnW (fun x hx => ((hw cs cA).mp hx).1) pS (cw cs cA)) pB (by omega) (by omega) fun os => ?_
      walk_at "mv"
      exact ⟨s4, _, _, _, _, _, _, rfl, h4.le (by omega)⟩
    · obtain ⟨s1, a, b, c, d, e1, f, rfl, h1⟩ := hi
      walk_at "mv"
  obtain ⟨r, os', e, rfl⟩ := O2.ex key
  exact ⟨os', e⟩
end L02
end
theorem PySem.Challenge.cw_tinrecall_k02_sets_put_together_holds : PySem.Challenge.rw_tinrecall_k02_sets_put_together.Holds := by
  first | exact L02.holds L02.law_ok | exact L02.holds fun C => L02.law_ok (C := C)
