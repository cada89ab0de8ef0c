import PyProof.Rows.All
import Wide.All
import OpenK.AllK
import Wide.FinOn
import HandS.ForMost
import HandS.ForExc
import HandS.Wide
import HandS.WideBits
import HandS.Deep
import HandS.IsInst
import HandS.ExcInit
import HandS.ExcField
import HandS.ExcIs
import HandS.HotCalls
import HandS.TryMany
import HandS.Conv
import HandS.Zip
import HandS.Flow
import HandS.Lambda
import HandS.TupAny
import HandS.SortInts
import HandS.More
import HandS.Dict
import KE.KExcIs
import KE.SortKeyHeap
import KE.KSortKey
import HandS.Rev
import HandS.List
import HandS.EndTab
import KE.KNestM
import PySem.Challenge.RW_letstand_k45_families_counted_by_all_lot
section
set_option Elab.async false
set_option linter.all false
set_option maxRecDepth 100000
set_option maxHeartbeats 4000000
/-! DnA: values D, owned things M, how they stand in the heap; the state of a body -/
namespace Dn
open PySem PySem.Spec PyProof.Rows L2

/-- a value that nobody changes any more -/
inductive D where
  | non | bl (b : Bool) | int (i : Int) | str (x : Str) | ty (n : String) | adr (a : Addr)
  | tup (xs : List D) | lst (xs : List D) | rl (xs : List D) | dic (kvs : List (Key × D)) | ins (c : Str) (fs : List (Str × D)) | exc (a d : Addr) (fs : List (Str × D))

/-- what a slot holds: a value (f), a list or dict or instance of its own (l, d, o), or where the owner stands (p) -/
inductive M where
  | f (d : D) | l (xs : List D) | d (kvs : List (Key × D)) | o (c : Str) (fs : List (Str × M)) | p (i : Nat)

abbrev Mg := Str → Option Value
abbrev Lab := Option Nat × List Nat

/-- the ghost of a heap: F what stays, H all, O who owns -/
structure Z where
  F : Hp
  H : Hp
  O : Addr → Option Lab

abbrev Ex (F H : Hp) : Prop := ∀ a o, F a = some o → H a = some o
theorem Ex.refl (F : Hp) : Ex F F := fun _ _ h => h
theorem Ex.trans {F G H : Hp} (a : Ex F G) (b : Ex G H) : Ex F H := fun x o h => b x o (a x o h)
theorem Ex.new {H : Hp} {p : Addr} {o : HO} (h : H p = none) : Ex H (upd H p o) := fun a u e => by
  by_cases q : a = p
  · rw [q, h] at e; cases e
  · rw [upd_ne q]; exact e
theorem sqL_ex {K : PySem.W.Frag} {F H : Hp} {a : Addr} {xs : List V} (e : Ex F H) (h : SqL K F a xs) : SqL K H a xs := by
  rcases h with (h | ⟨o, h⟩) | h
  · exact .inl (.inl (e _ _ h))
  · exact .inl (.inr ⟨o, e _ _ h⟩)
  · exact .inr h
theorem sqT_ex {K : PySem.W.Frag} {F H : Hp} {a : Addr} {xs : List V} (e : Ex F H) (h : SqT K F a xs) : SqT K H a xs := by
  rcases h with (h | ⟨o, h⟩) | h
  · exact .inl (.inl (e _ _ h))
  · exact .inl (.inr ⟨o, e _ _ h⟩)
  · exact .inr h

section
variable (K : PySem.W.Frag) (mg : Mg) (F : Hp)
mutual
def rep : D → V → Prop
  | .non, v => v = .non
  | .bl b, v => v = .bl b
  | .int i, v => v = .int i
  | .str x, v => v = .str x
  | .ty n, v => v = .ty n
  | .adr a, v => v = .ref a
  | .tup ds, v => ∃ a vs, v = .ref a ∧ SqT K F a vs ∧ reps ds vs
  | .lst ds, v => ∃ a vs, v = .ref a ∧ F a = some (.lst vs) ∧ reps ds vs
  | .rl ds, v => ∃ a vs, v = .ref a ∧ SqL K F a vs ∧ reps ds vs
  | .dic kvs, v => ∃ a kvs', v = .ref a ∧ F a = some (.dK kvs') ∧ repk kvs kvs'
  | .ins c fs, v => ∃ a C dx fs', v = .ref a ∧ mg c = some (.ref C) ∧ F a = some (.ins C dx fs') ∧ F dx = some (.own a) ∧ repf fs fs'
  | .exc a d fs, v => v = .ref a ∧ ∃ fs', F d = some (.xd fs') ∧ repf fs fs'
def reps : List D → List V → Prop
  | [], vs => vs = []
  | d :: ds, vs => ∃ v r, vs = v :: r ∧ rep d v ∧ reps ds r
def repk : List (Key × D) → List (Key × V) → Prop
  | [], vs => vs = []
  | (k, d) :: ds, vs => ∃ v r, vs = (k, v) :: r ∧ rep d v ∧ repk ds r
def repf : List (Str × D) → List (Str × V) → Prop
  | [], vs => vs = []
  | (k, d) :: ds, vs => ∃ v r, vs = (k, v) :: r ∧ rep d v ∧ repf ds r
end
end
section
variable {K : PySem.W.Frag} {mg : Mg} {F G : Hp}
mutual
theorem rep_ex (e : Ex F G) : ∀ (d : D) (v : V), rep K mg F d v → rep K mg G d v
  | .non, _, h => h
  | .bl _, _, h => h
  | .int _, _, h => h
  | .str _, _, h => h
  | .ty _, _, h => h
  | .adr _, _, h => h
  | .tup ds, _, h => by
    obtain ⟨a, vs, e1, s, r⟩ := h
    exact ⟨a, vs, e1, sqT_ex e s, reps_ex e ds vs r⟩
  | .lst ds, _, h => by
    obtain ⟨a, vs, e1, s, r⟩ := h
    exact ⟨a, vs, e1, e _ _ s, reps_ex e ds vs r⟩
  | .rl ds, _, h => by
    obtain ⟨a, vs, e1, s, r⟩ := h
    exact ⟨a, vs, e1, sqL_ex e s, reps_ex e ds vs r⟩
  | .dic kvs, _, h => by
    obtain ⟨a, vs, e1, s, r⟩ := h
    exact ⟨a, vs, e1, e _ _ s, repk_ex e kvs vs r⟩
  | .ins c fs, _, h => by
    obtain ⟨a, C, dx, vs, e1, m, s1, s2, r⟩ := h
    exact ⟨a, C, dx, vs, e1, m, e _ _ s1, e _ _ s2, repf_ex e fs vs r⟩
  | .exc a d fs, _, h => by
    obtain ⟨e1, vs, s1, r⟩ := h
    exact ⟨e1, vs, e _ _ s1, repf_ex e fs vs r⟩
theorem reps_ex (e : Ex F G) : ∀ (ds : List D) (vs : List V), reps K mg F ds vs → reps K mg G ds vs
  | [], _, h => h
  | d :: ds, _, h => by
    obtain ⟨v, r, e1, h1, h2⟩ := h
    exact ⟨v, r, e1, rep_ex e d v h1, reps_ex e ds r h2⟩
theorem repk_ex (e : Ex F G) : ∀ (ds : List (Key × D)) (vs : List (Key × V)), repk K mg F ds vs → repk K mg G ds vs
  | [], _, h => h
  | (_, d) :: ds, _, h => by
    obtain ⟨v, r, e1, h1, h2⟩ := h
    exact ⟨v, r, e1, rep_ex e d v h1, repk_ex e ds r h2⟩
theorem repf_ex (e : Ex F G) : ∀ (ds : List (Str × D)) (vs : List (Str × V)), repf K mg F ds vs → repf K mg G ds vs
  | [], _, h => h
  | (_, d) :: ds, _, h => by
    obtain ⟨v, r, e1, h1, h2⟩ := h
    exact ⟨v, r, e1, rep_ex e d v h1, repf_ex e ds r h2⟩
end
theorem reps_len : ∀ {ds : List D} {vs : List V}, reps K mg F ds vs → vs.length = ds.length
  | [], _, h => by
    have h : _ = [] := h
    rw [h]; rfl
  | d :: ds, _, h => by
    obtain ⟨v, r, e1, _, h2⟩ := h
    rw [e1, List.length_cons, List.length_cons, reps_len h2]
theorem reps_get : ∀ {ds : List D} {vs : List V} {i : Nat} {d : D}, reps K mg F ds vs → ds[i]? = some d → ∃ v, vs[i]? = some v ∧ rep K mg F d v
  | [], _, _, _, _, e => by simp at e
  | d :: ds, _, 0, d', h, e => by
    obtain ⟨v, r, e1, h1, h2⟩ := h
    have e : d = d' := by simpa using e
    exact ⟨v, by rw [e1]; rfl, e ▸ h1⟩
  | d :: ds, _, i + 1, d', h, e => by
    obtain ⟨v, r, e1, h1, h2⟩ := h
    obtain ⟨u, x, y⟩ := reps_get (i := i) (d := d') h2 (by simpa using e)
    exact ⟨u, by rw [e1]; simpa using x, y⟩
theorem reps_get' : ∀ {ds : List D} {vs : List V} {i : Nat} {v : V}, reps K mg F ds vs → vs[i]? = some v → ∃ d, ds[i]? = some d ∧ rep K mg F d v
  | [], _, _, _, h, e => by
    have h : _ = [] := h
    rw [h] at e; simp at e
  | d :: ds, _, 0, v', h, e => by
    obtain ⟨v, r, e1, h1, h2⟩ := h
    rw [e1] at e
    have e : v = v' := by simpa using e
    exact ⟨d, rfl, e ▸ h1⟩
  | d :: ds, _, i + 1, v', h, e => by
    obtain ⟨v, r, e1, h1, h2⟩ := h
    rw [e1] at e
    obtain ⟨u, x, y⟩ := reps_get' (i := i) (v := v') h2 (by simpa using e)
    exact ⟨u, by simpa using x, y⟩
theorem reps_app : ∀ {ds es : List D} {vs us : List V}, reps K mg F ds vs → reps K mg F es us → reps K mg F (ds ++ es) (vs ++ us)
  | [], _, _, _, h, h' => by
    have h : _ = [] := h
    rw [h]; exact h'
  | d :: ds, _, _, _, h, h' => by
    obtain ⟨v, r, e1, h1, h2⟩ := h
    rw [e1]
    exact ⟨v, _, rfl, h1, reps_app h2 h'⟩
theorem reps_one {d : D} {v : V} (h : rep K mg F d v) : reps K mg F [d] [v] := ⟨v, [], rfl, h, rfl⟩
theorem reps_take : ∀ {ds : List D} {vs : List V} (n : Nat), reps K mg F ds vs → reps K mg F (ds.take n) (vs.take n)
  | _, _, 0, _ => rfl
  | [], _, n + 1, h => by
    have h : _ = [] := h
    rw [h]; rfl
  | d :: ds, _, n + 1, h => by
    obtain ⟨v, r, e1, h1, h2⟩ := h
    rw [e1]
    exact ⟨v, _, rfl, h1, reps_take n h2⟩
theorem reps_drop : ∀ {ds : List D} {vs : List V} (n : Nat), reps K mg F ds vs → reps K mg F (ds.drop n) (vs.drop n)
  | _, _, 0, h => h
  | [], _, n + 1, h => by
    have h : _ = [] := h
    rw [h]; rfl
  | d :: ds, _, n + 1, h => by
    obtain ⟨v, r, e1, h1, h2⟩ := h
    rw [e1]
    exact reps_drop n h2
theorem reps_set : ∀ {ds : List D} {vs : List V} (n : Nat) {d : D} {v : V}, reps K mg F ds vs → rep K mg F d v → reps K mg F (ds.set n d) (vs.set n v)
  | [], _, _, _, _, h, _ => by
    have h : _ = [] := h
    rw [h]; rfl
  | d :: ds, _, 0, _, _, h, q => by
    obtain ⟨v, r, e1, h1, h2⟩ := h
    rw [e1]
    exact ⟨_, _, rfl, q, h2⟩
  | d :: ds, _, n + 1, _, _, h, q => by
    obtain ⟨v, r, e1, h1, h2⟩ := h
    rw [e1]
    exact ⟨v, _, rfl, h1, reps_set n h2 q⟩
theorem reps_eraseIdx : ∀ {ds : List D} {vs : List V} (n : Nat), reps K mg F ds vs → reps K mg F (ds.eraseIdx n) (vs.eraseIdx n)
  | [], _, _, h => by
    have h : _ = [] := h
    rw [h]; rfl
  | d :: ds, _, 0, h => by
    obtain ⟨v, r, e1, h1, h2⟩ := h
    rw [e1]; exact h2
  | d :: ds, _, n + 1, h => by
    obtain ⟨v, r, e1, h1, h2⟩ := h
    rw [e1]
    exact ⟨v, _, rfl, h1, reps_eraseIdx n h2⟩
end

/-! ### what is owned -/
section
variable (K : PySem.W.Frag) (mg : Mg) (z : Z)
mutual
def own : Lab → M → V → Prop
  | _, .f d, v => rep K mg z.F d v
  | π, .l ds, v => ∃ a vs, v = .ref a ∧ z.H a = some (.lst vs) ∧ z.O a = some π ∧ reps K mg z.F ds vs
  | π, .d kvs, v => ∃ a kvs', v = .ref a ∧ z.H a = some (.dK kvs') ∧ z.O a = some π ∧ repk K mg z.F kvs kvs'
  | π, .o c fs, v => ∃ a C dx fs', v = .ref a ∧ mg c = some (.ref C) ∧ z.H a = some (.ins C dx fs') ∧ z.H dx = some (.own a) ∧ z.O a = some π ∧ z.O dx = some π ∧ ownf π 0 fs fs'
  | _, .p _, _ => False
def ownf : Lab → Nat → List (Str × M) → List (Str × V) → Prop
  | _, _, [], vs => vs = []
  | π, n, (x, m) :: ms, vs => ∃ v r, vs = (x, v) :: r ∧ own (π.1, π.2 ++ [n]) m v ∧ ownf π (n + 1) ms r
end
end
section
variable {K : PySem.W.Frag} {mg : Mg} {z z' : Z}
mutual
/-- moved from the label (l, p) to (l', p') -/
theorem own_move {l l' : Option Nat} (e : Ex z.F z'.F) : ∀ (m : M) (p p' : List Nat) (v : V), (∀ a q, z.O a = some (l, p ++ q) → z'.H a = z.H a ∧ z'.O a = some (l', p' ++ q)) → own K mg z (l, p) m v → own K mg z' (l', p') m v
  | .f d, _, _, v, _, h => rep_ex e d v h
  | .l ds, p, p', _, k, h => by
    obtain ⟨a, vs, e1, h1, o1, r⟩ := h
    obtain ⟨k1, k2⟩ := k a [] (by rw [List.append_nil]; exact o1)
    rw [List.append_nil] at k2
    exact ⟨a, vs, e1, k1.trans h1, k2, reps_ex e ds vs r⟩
  | .d ds, p, p', _, k, h => by
    obtain ⟨a, vs, e1, h1, o1, r⟩ := h
    obtain ⟨k1, k2⟩ := k a [] (by rw [List.append_nil]; exact o1)
    rw [List.append_nil] at k2
    exact ⟨a, vs, e1, k1.trans h1, k2, repk_ex e ds vs r⟩
  | .o c fs, p, p', _, k, h => by
    obtain ⟨a, C, dx, vs, e1, mc, h1, h2, o1, o2, r⟩ := h
    obtain ⟨k1, k2⟩ := k a [] (by rw [List.append_nil]; exact o1)
    obtain ⟨k3, k4⟩ := k dx [] (by rw [List.append_nil]; exact o2)
    rw [List.append_nil] at k2 k4
    exact ⟨a, C, dx, vs, e1, mc, k1.trans h1, k3.trans h2, k2, k4, ownf_move e fs p p' 0 vs k r⟩
  | .p _, _, _, _, _, h => h
theorem ownf_move {l l' : Option Nat} (e : Ex z.F z'.F) : ∀ (fs : List (Str × M)) (p p' : List Nat) (n : Nat) (vs : List (Str × V)), (∀ a q, z.O a = some (l, p ++ q) → z'.H a = z.H a ∧ z'.O a = some (l', p' ++ q)) → ownf K mg z (l, p) n fs vs → ownf K mg z' (l', p') n fs vs
  | [], _, _, _, _, _, h => h
  | (x, m) :: fs, p, p', n, _, k, h => by
    obtain ⟨v, r, e1, h1, h2⟩ := h
    refine ⟨v, r, e1, own_move e m (p ++ [n]) (p' ++ [n]) v (fun a q o => ?_) h1, ownf_move e fs p p' (n + 1) r k h2⟩
    rw [List.append_assoc] at o
    obtain ⟨k1, k2⟩ := k a ([n] ++ q) o
    exact ⟨k1, by rw [k2, List.append_assoc]⟩
end
end

mutual
def frz : M → D
  | .f d => d
  | .l ds => .lst ds
  | .d kvs => .dic kvs
  | .o c fs => .ins c (frzf fs)
  | .p _ => .non
def frzf : List (Str × M) → List (Str × D)
  | [] => []
  | (x, m) :: fs => (x, frz m) :: frzf fs
end
section
variable {K : PySem.W.Frag} {mg : Mg} {z : Z} {G : Hp}
mutual
theorem own_frz {l : Option Nat} (e : Ex z.F G) : ∀ (m : M) (p : List Nat) (v : V), (∀ a q, z.O a = some (l, p ++ q) → G a = z.H a) → own K mg z (l, p) m v → rep K mg G (frz m) v
  | .f d, _, v, _, h => rep_ex e d v h
  | .l ds, p, _, k, h => by
    obtain ⟨a, vs, e1, h1, o1, r⟩ := h
    have k1 := k a [] (by rw [List.append_nil]; exact o1)
    exact ⟨a, vs, e1, k1.trans h1, reps_ex e ds vs r⟩
  | .d ds, p, _, k, h => by
    obtain ⟨a, vs, e1, h1, o1, r⟩ := h
    have k1 := k a [] (by rw [List.append_nil]; exact o1)
    exact ⟨a, vs, e1, k1.trans h1, repk_ex e ds vs r⟩
  | .o c fs, p, _, k, h => by
    obtain ⟨a, C, dx, vs, e1, mc, h1, h2, o1, o2, r⟩ := h
    have k1 := k a [] (by rw [List.append_nil]; exact o1)
    have k2 := k dx [] (by rw [List.append_nil]; exact o2)
    exact ⟨a, C, dx, vs, e1, mc, k1.trans h1, k2.trans h2, ownf_frz e fs p 0 vs k r⟩
  | .p _, _, _, _, h => h.elim
theorem ownf_frz {l : Option Nat} (e : Ex z.F G) : ∀ (fs : List (Str × M)) (p : List Nat) (n : Nat) (vs : List (Str × V)), (∀ a q, z.O a = some (l, p ++ q) → G a = z.H a) → ownf K mg z (l, p) n fs vs → repf K mg G (frzf fs) vs
  | [], _, _, _, _, h => h
  | (x, m) :: fs, p, n, _, k, h => by
    obtain ⟨v, r, e1, h1, h2⟩ := h
    refine ⟨v, r, e1, own_frz e m (p ++ [n]) v (fun a q o => ?_) h1, ownf_frz e fs p (n + 1) r k h2⟩
    rw [List.append_assoc] at o
    exact k a ([n] ++ q) o
end
end

/-! ### the ghost's order -/
/-- the tables of code objects that are known, and their defs' names -/
class Tb where
  T : List (Addr × Str)
variable [Tb]
/-- neither an exception's dict nor a table -/
def Pl (o : HO) : Prop := (∀ fs, o ≠ .xd fs) ∧ ∀ ps, o ≠ .tbl ps
def Tbs (z : Z) : Prop := (∀ p ∈ Tb.T, LamX.TabS z.H p.1 p.2) ∧ ∀ a ps, z.H a = some (.tbl ps) → z.F a = none
structure Ok (z : Z) : Prop where
  fr : ∀ a π, z.O a = some π → z.F a = none
  tr : ∀ a π, z.O a = some π → ∃ o, z.H a = some o
  ex : Ex z.F z.H
  nx : ∀ a π, z.O a = some π → ∀ o, z.H a = some o → Pl o
  tb : Tbs z
/-- a table is nobody's -/
theorem Ok.tO {z : Z} (k : Ok z) {p : Addr × Str} (h : p ∈ Tb.T) : z.O p.1 = none := by
  obtain ⟨ps, e, _⟩ := k.tb.1 p h
  cases q : z.O p.1 with
  | none => rfl
  | some π => exact absurd rfl ((k.nx _ π q _ e).2 ps)
theorem Tbs.up {z : Z} (k : Tbs z) {F : Hp} {O : Addr → Option Lab} {p : Addr} {o o' : HO} (h : z.H p = some o) (n : ∀ ps, o ≠ .tbl ps) (n2 : ∀ c q, o ≠ LamX.CodeO c q) (hf : F = z.F) (n' : ∀ ps, o' ≠ .tbl ps) : Tbs ⟨F, upd z.H p o', O⟩ := ⟨fun q hq => by
  obtain ⟨ps, e, t1, t2⟩ := k.1 q hq
  have ne : ∀ {b : Addr} {u : HO}, z.H b = some u → u ≠ o → b ≠ p := fun e1 e2 w => by
    rw [w, h] at e1
    exact e2 (Option.some.inj e1).symm
  refine ⟨ps, by (show upd z.H p o' q.1 = _); rw [upd_ne (ne e (n ps).symm)]; exact e, t1, fun pos cv hc => ?_⟩
  obtain ⟨c, e1, e2⟩ := t2 pos cv hc
  exact ⟨c, e1, by (show upd z.H p o' c = _); rw [upd_ne (ne e2 (n2 _ _).symm)]; exact e2⟩, fun a ps e => by
  have e : upd z.H p o' a = some (.tbl ps) := e
  show F a = none
  rw [hf]
  by_cases q : a = p
  · rw [q, upd_same] at e
    exact absurd (Option.some.inj e) (n' ps)
  · rw [upd_ne q] at e
    exact k.2 a ps e⟩
theorem Tbs.new {z : Z} (k : Tbs z) {F : Hp} {O : Addr → Option Lab} {p : Addr} {o' : HO} (h : z.H p = none) (hf : F = z.F ∨ F = upd z.F p o') (n' : ∀ ps, o' ≠ .tbl ps) : Tbs ⟨F, upd z.H p o', O⟩ := ⟨fun q hq => (k.1 q hq).ext fun b u e => by
    show upd z.H p o' b = some u
    rw [upd_ne (ne_of_none e h)]; exact e, fun a ps e => by
  have e : upd z.H p o' a = some (.tbl ps) := e
  show F a = none
  by_cases q : a = p
  · rw [q, upd_same] at e
    exact absurd (Option.some.inj e) (n' ps)
  · rw [upd_ne q] at e
    rcases hf with w | w
    · rw [w]; exact k.2 a ps e
    · rw [w, upd_ne q]; exact k.2 a ps e⟩
/-- a step: what stays stays; what nobody owns is as it was -/
structure Stp (z z' : Z) : Prop where
  ef : Ex z.F z'.F
  ch : ∀ a o, z.H a = some o → (∀ ps, o ≠ .tbl ps) → z.O a = none → z'.H a = some o ∧ z'.O a = none ∧ z'.F a = z.F a
theorem Stp.refl (z : Z) : Stp z z := ⟨Ex.refl _, fun _ _ h _ o => ⟨h, o, rfl⟩⟩
theorem Stp.trans {z z1 z2 : Z} (a : Stp z z1) (b : Stp z1 z2) : Stp z z2 :=
  ⟨a.ef.trans b.ef, fun x o h n q => let ⟨h1, q1, f1⟩ := a.ch x o h n q; let ⟨h2, q2, f2⟩ := b.ch x o h1 n q1; ⟨h2, q2, f2.trans f1⟩⟩
theorem Ok.fresh {z : Z} (k : Ok z) {p : Addr} (h : z.H p = none) : z.O p = none ∧ z.F p = none := by
  constructor
  · cases e : z.O p with
    | none => rfl
    | some π =>
      obtain ⟨o, q⟩ := k.tr p π e
      rw [h] at q; cases q
  · cases e : z.F p with
    | none => rfl
    | some o =>
      have q := k.ex p o e
      rw [h] at q; cases q

/-! ### a body's state -/
abbrev Env := List (Option M)
/-- the values by slot: the parameters' cells, the names, what is held on the way -/
def sx (vs : List V) (σ : L2.St) (ext : List V) : List (Option V) := vs.map some ++ σ ++ ext.map some
def cel (K : PySem.W.Frag) (mg : Mg) (z : Z) (vs : List V) (σ : L2.St) (ext : List V) (i : Nat) : M → V → Prop
  | .p j, v => (j < vs.length ∨ vs.length + σ.length ≤ j) ∧ (sx vs σ ext)[j]? = some (some v)
  | .f d, v => rep K mg z.F d v
  | .l ds, v => own K mg z (some i, []) (.l ds) v
  | .d ds, v => own K mg z (some i, []) (.d ds) v
  | .o c fs, v => own K mg z (some i, []) (.o c fs) v
structure Rl (K : PySem.W.Frag) (mg : Mg) (z : Z) (s : Env) (vs : List V) (σ : L2.St) (ext : List V) : Prop where
  ok : Ok z
  len : s.length = vs.length + σ.length + ext.length
  at_ : ∀ (i : Nat) (m : M), s[i]? = some (some m) → ∃ v, (sx vs σ ext)[i]? = some (some v) ∧ cel K mg z vs σ ext i m v
section
variable {K : PySem.W.Frag} {mg : Mg} {z z' : Z} {s : Env} {vs ext : List V} {σ : L2.St}
theorem sx_len : (sx vs σ ext).length = vs.length + σ.length + ext.length := by unfold sx; simp [Nat.add_assoc]
theorem cel_own {i : Nat} {m : M} {v : V} (h : own K mg z (some i, []) m v) : cel K mg z vs σ ext i m v := by
  cases m with
  | f d => exact h
  | l d => exact h
  | d d => exact h
  | o c d => exact h
  | p j => exact h.elim
theorem own_cel {i : Nat} {m : M} {v : V} (h : cel K mg z vs σ ext i m v) (hp : ∀ j, m ≠ .p j) : own K mg z (some i, []) m v := by
  cases m with
  | f d => exact h
  | l d => exact h
  | d d => exact h
  | o c d => exact h
  | p j => exact absurd rfl (hp j)
/-- another ghost, what the slots own unchanged -/
theorem Rl.to (h : Rl K mg z s vs σ ext) (k : Ok z') (e : Ex z.F z'.F) (u : ∀ a i q, z.O a = some (some i, q) → z'.H a = z.H a ∧ z'.O a = z.O a) : Rl K mg z' s vs σ ext :=
  ⟨k, h.len, fun i m hm => by
    obtain ⟨v, h1, h2⟩ := h.at_ i m hm
    refine ⟨v, h1, ?_⟩
    have mv : ∀ m, own K mg z (some i, []) m v → own K mg z' (some i, []) m v := fun m hm => own_move e m [] [] v (fun a q o => by
      obtain ⟨u1, u2⟩ := u a i _ o
      exact ⟨u1, u2.trans o⟩) hm
    cases m with
    | f d => exact rep_ex e d v h2
    | l d => exact mv _ h2
    | d d => exact mv _ h2
    | o c d => exact mv _ h2
    | p j => exact h2⟩
end
end Dn
end

section
set_option Elab.async false
set_option linter.all false
set_option maxRecDepth 100000
set_option maxHeartbeats 4000000
/-! DnB: what may be done to the ghost and the state -/
namespace Dn
open PySem PySem.Spec PyProof.Rows L2
variable [Tb]

section
variable {K : PySem.W.Frag} {mg : Mg} {z z' : Z} {s : Env} {vs ext : List V} {σ : L2.St}

/-! ### a new object -/
/-- tracked, nobody's -/
def Z.add (z : Z) (p : Addr) (o : HO) : Z := ⟨z.F, upd z.H p o, z.O⟩
/-- for ever -/
def Z.lay (z : Z) (p : Addr) (o : HO) : Z := ⟨upd z.F p o, upd z.H p o, z.O⟩
/-- the result's -/
def Z.hold (z : Z) (p : Addr) (o : HO) (π : Lab) : Z := ⟨z.F, upd z.H p o, fun a => if a = p then some π else z.O a⟩

theorem Ok.lay (k : Ok z) {p : Addr} {o : HO} (h : z.H p = none) (n : ∀ ps, o ≠ .tbl ps := by intro _ e; cases e) : Ok (z.lay p o) := by
  obtain ⟨h1, h2⟩ := k.fresh h
  refine ⟨fun a π q => ?_, fun a π q => ?_, fun a u q => ?_, fun a π q fs => ?_, k.tb.new h (.inr rfl) n⟩
  · show upd z.F p o a = none
    have ne : a ≠ p := fun e => by rw [e] at q; exact absurd (h1.symm.trans q) (by simp)
    rw [upd_ne ne]; exact k.fr a π q
  · show ∃ u, upd z.H p o a = some u
    have ne : a ≠ p := fun e => by rw [e] at q; exact absurd (h1.symm.trans q) (by simp)
    rw [upd_ne ne]; exact k.tr a π q
  · show upd z.H p o a = some u
    have q : upd z.F p o a = some u := q
    by_cases e : a = p
    · rw [e, upd_same] at q; rw [e, upd_same]; exact q
    · rw [upd_ne e] at q ⊢; exact k.ex a u q
  · show upd z.H p o a = some fs → _
    have ne : a ≠ p := fun e => by rw [e] at q; exact absurd (h1.symm.trans q) (by simp)
    rw [upd_ne ne]; exact k.nx a π q fs
theorem Stp.lay (k : Ok z) {p : Addr} {o : HO} (h : z.H p = none) : Stp z (z.lay p o) :=
  ⟨Ex.new (k.fresh h).2, fun a u e _ q => ⟨by
    show upd z.H p o a = some u
    rw [upd_ne (ne_of_none e h)]; exact e, q, upd_ne (ne_of_none e h)⟩⟩
theorem Ok.hold (k : Ok z) {p : Addr} {o : HO} {π : Lab} (h : z.H p = none) (nx : Pl o := by exact ⟨fun _ e => (by cases e), fun _ e => (by cases e)⟩) : Ok (z.hold p o π) := by
  obtain ⟨h1, h2⟩ := k.fresh h
  refine ⟨fun a ρ q => ?_, fun a ρ q => ?_, fun a u q => ?_, fun a ρ q fs => ?_, k.tb.new h (.inl rfl) nx.2⟩
  · show z.F a = none
    by_cases e : a = p
    · rw [e]; exact h2
    · have q : (if a = p then some π else z.O a) = some ρ := q
      rw [if_neg e] at q; exact k.fr a ρ q
  · show ∃ u, upd z.H p o a = some u
    by_cases e : a = p
    · rw [e, upd_same]; exact ⟨_, rfl⟩
    · have q : (if a = p then some π else z.O a) = some ρ := q
      rw [if_neg e] at q; rw [upd_ne e]; exact k.tr a ρ q
  · show upd z.H p o a = some u
    have q : z.F a = some u := q
    have ne : a ≠ p := fun e => by rw [e, h2] at q; cases q
    rw [upd_ne ne]; exact k.ex a u q
  · show upd z.H p o a = some fs → _
    by_cases e : a = p
    · rw [e, upd_same]; exact fun w => Option.some.inj w ▸ nx
    · have q : (if a = p then some π else z.O a) = some ρ := q
      rw [if_neg e] at q; rw [upd_ne e]; exact k.nx a ρ q fs
theorem Stp.hold (k : Ok z) {p : Addr} {o : HO} {π : Lab} (h : z.H p = none) : Stp z (z.hold p o π) :=
  ⟨Ex.refl _, fun a u e _ q => by
    have ne : a ≠ p := ne_of_none e h
    refine ⟨?_, ?_, rfl⟩
    · show upd z.H p o a = some u
      rw [upd_ne ne]; exact e
    · show (if a = p then some π else z.O a) = none
      rw [if_neg ne]; exact q⟩
theorem Rl.lay (h : Rl K mg z s vs σ ext) {p : Addr} {o : HO} (hp : z.H p = none) (n : ∀ ps, o ≠ .tbl ps := by intro _ e; cases e) : Rl K mg (z.lay p o) s vs σ ext :=
  h.to (h.ok.lay hp n) (Stp.lay h.ok hp).ef fun a i q e => ⟨by
    show upd z.H p o a = _
    have ne : a ≠ p := fun w => by rw [w] at e; exact absurd ((h.ok.fresh hp).1.symm.trans e) (by simp)
    rw [upd_ne ne], rfl⟩
theorem Rl.hold (h : Rl K mg z s vs σ ext) {p : Addr} {o : HO} {π : Lab} (hp : z.H p = none) (nx : Pl o := by exact ⟨fun _ e => (by cases e), fun _ e => (by cases e)⟩) : Rl K mg (z.hold p o π) s vs σ ext :=
  h.to (h.ok.hold hp nx) (Ex.refl _) fun a i q e => by
    have ne : a ≠ p := fun w => by rw [w] at e; exact absurd ((h.ok.fresh hp).1.symm.trans e) (by simp)
    refine ⟨?_, ?_⟩
    · show upd z.H p o a = _
      rw [upd_ne ne]
    · show (if a = p then some π else z.O a) = _
      rw [if_neg ne]

/-! ### a label's things are let go: they stay as they are -/
open Classical
noncomputable def Z.fz (z : Z) (l : Option Nat) : Z :=
  ⟨fun a => if (∃ q, z.O a = some (l, q)) then z.H a else z.F a, z.H, fun a => if (∃ q, z.O a = some (l, q)) then none else z.O a⟩
theorem fz_F_in {l : Option Nat} {a : Addr} {q : List Nat} (h : z.O a = some (l, q)) : (z.fz l).F a = z.H a := if_pos ⟨q, h⟩
theorem fz_ex (k : Ok z) (l : Option Nat) : Ex z.F (z.fz l).F := fun a o e => by
  have n : ¬ ∃ q, z.O a = some (l, q) := fun ⟨q, h⟩ => by rw [k.fr a _ h] at e; cases e
  exact (if_neg n).trans e
theorem Ok.fz (k : Ok z) (l : Option Nat) : Ok (z.fz l) := by
  refine ⟨fun a π q => ?_, fun a π q => ?_, fun a u q => ?_, fun a π q => ?_, ⟨k.tb.1, fun a ps e => (if_neg fun ⟨q, h⟩ => absurd rfl ((k.nx a _ h _ e).2 ps)).trans (k.tb.2 a ps e)⟩⟩
  · by_cases n : ∃ q, z.O a = some (l, q)
    · have q : (if (∃ q, z.O a = some (l, q)) then none else z.O a) = some π := q
      rw [if_pos n] at q; cases q
    · have q : (if (∃ q, z.O a = some (l, q)) then none else z.O a) = some π := q
      rw [if_neg n] at q
      exact (if_neg n).trans (k.fr a π q)
  · by_cases n : ∃ q, z.O a = some (l, q)
    · have q : (if (∃ q, z.O a = some (l, q)) then none else z.O a) = some π := q
      rw [if_pos n] at q; cases q
    · have q : (if (∃ q, z.O a = some (l, q)) then none else z.O a) = some π := q
      rw [if_neg n] at q
      exact k.tr a π q
  · have q : (if (∃ q, z.O a = some (l, q)) then z.H a else z.F a) = some u := q
    show z.H a = some u
    by_cases n : ∃ q, z.O a = some (l, q)
    · rw [if_pos n] at q; exact q
    · rw [if_neg n] at q; exact k.ex a u q
  · by_cases n : ∃ q, z.O a = some (l, q)
    · have q : (if (∃ q, z.O a = some (l, q)) then none else z.O a) = some π := q
      rw [if_pos n] at q; cases q
    · have q : (if (∃ q, z.O a = some (l, q)) then none else z.O a) = some π := q
      rw [if_neg n] at q
      exact k.nx a π q
theorem Stp.fz (k : Ok z) (l : Option Nat) : Stp z (z.fz l) :=
  ⟨fz_ex k l, fun a o e _ q => ⟨e, by
    have n : ¬ ∃ q, z.O a = some (l, q) := fun ⟨q', h⟩ => by rw [q] at h; cases h
    exact ⟨(if_neg n).trans q, if_neg n⟩⟩⟩
theorem fz_other {l : Option Nat} {a : Addr} {j : Option Nat} {q : List Nat} (e : z.O a = some (j, q)) (n : j ≠ l) : (z.fz l).O a = z.O a := by
  refine if_neg fun ⟨q', h⟩ => ?_
  rw [e] at h
  exact n (congrArg Prod.fst (Option.some.inj h))
theorem rep_fz (k : Ok z) {l : Option Nat} {m : M} {v : V} (h : own K mg z (l, []) m v) : rep K mg (z.fz l).F (frz m) v :=
  own_frz (fz_ex k l) m [] v (fun a q o => fz_F_in (q := q) o) h
theorem Rl.fzN (h : Rl K mg z s vs σ ext) : Rl K mg (z.fz none) s vs σ ext :=
  h.to (h.ok.fz none) (fz_ex h.ok none) fun a i q e => ⟨rfl, fz_other e (by simp)⟩

/-- slot i's own things are let go -/
theorem Rl.fzS (h : Rl K mg z s vs σ ext) {i : Nat} {m : M} (hm : s[i]? = some (some m)) (hp : ∀ j, m ≠ .p j) : Rl K mg (z.fz (some i)) (s.set i (some (.f (frz m)))) vs σ ext ∧ ∃ v, (sx vs σ ext)[i]? = some (some v) ∧ rep K mg (z.fz (some i)).F (frz m) v := by
  obtain ⟨v, h1, h2⟩ := h.at_ i m hm
  have r : rep K mg (z.fz (some i)).F (frz m) v := rep_fz h.ok (own_cel h2 hp)
  refine ⟨⟨h.ok.fz _, by rw [List.length_set]; exact h.len, fun j m' hj => ?_⟩, v, h1, r⟩
  by_cases e : i = j
  · subst e
    have hi : i < s.length := (List.getElem?_eq_some_iff.mp hm).1
    rw [List.getElem?_set_self hi] at hj
    cases hj
    exact ⟨v, h1, r⟩
  · rw [List.getElem?_set_ne e] at hj
    obtain ⟨u, u1, u2⟩ := h.at_ j m' hj
    refine ⟨u, u1, ?_⟩
    have mv : ∀ m, own K mg z (some j, []) m u → own K mg (z.fz (some i)) (some j, []) m u := fun m hm => own_move (fz_ex h.ok _) m [] [] u (fun a q o => ⟨rfl, (fz_other o (fun w => e (Option.some.inj w).symm)).trans o⟩) hm
    cases m' with
    | f d => exact rep_ex (fz_ex h.ok _) d u u2
    | l d => exact mv _ u2
    | d d => exact mv _ u2
    | o c d => exact mv _ u2
    | p j => exact u2

/-! ### the result goes to a slot -/
def Z.rel (z : Z) (i : Nat) : Z := ⟨z.F, z.H, fun a => match z.O a with
  | some (none, q) => some (some i, q)
  | x => x⟩
theorem rel_none {a : Addr} {i : Nat} : (z.rel i).O a = none ↔ z.O a = none := by
  show (match z.O a with | some (none, q) => some (some i, q) | x => x) = none ↔ _
  cases h : z.O a with
  | none => simp
  | some π =>
    obtain ⟨l, q⟩ := π
    cases l <;> simp
theorem rel_some {a : Addr} {i j : Nat} {q : List Nat} (h : z.O a = some (some j, q)) : (z.rel i).O a = z.O a := by
  show (match z.O a with | some (none, q) => some (some i, q) | x => x) = _
  rw [h]
theorem rel_res {a : Addr} {i : Nat} {q : List Nat} (h : z.O a = some (none, q)) : (z.rel i).O a = some (some i, q) := by
  show (match z.O a with | some (none, q) => some (some i, q) | x => x) = _
  rw [h]
theorem Ok.rel (k : Ok z) (i : Nat) : Ok (z.rel i) := by
  have key : ∀ a π, (z.rel i).O a = some π → ∃ ρ, z.O a = some ρ := fun a π q => by
    cases h : z.O a with
    | none => rw [rel_none.mpr h] at q; cases q
    | some ρ => exact ⟨ρ, rfl⟩
  exact ⟨fun a π q => let ⟨ρ, h⟩ := key a π q; k.fr a ρ h, fun a π q => let ⟨ρ, h⟩ := key a π q; k.tr a ρ h, k.ex, fun a π q => let ⟨ρ, h⟩ := key a π q; k.nx a ρ h, k.tb⟩
theorem Stp.rel (z : Z) (i : Nat) : Stp z (z.rel i) := ⟨Ex.refl _, fun a o e _ q => ⟨e, rel_none.mpr q, rfl⟩⟩
theorem own_rel {i : Nat} {m : M} {v : V} (h : own K mg z (none, []) m v) : own K mg (z.rel i) (some i, []) m v :=
  own_move (z := z) (z' := z.rel i) (Ex.refl _) m [] [] v (fun a q o => ⟨rfl, rel_res o⟩) h
theorem sx_loc {i : Nat} (h : i < σ.length) : (sx vs σ ext)[vs.length + i]? = σ[i]? := by
  unfold sx
  rw [List.getElem?_append_left (by simp; omega), List.getElem?_append_right (by simp)]
  simp
theorem sx_ext {i : Nat} : (sx vs σ ext)[vs.length + σ.length + i]? = (ext.map some)[i]? := by
  unfold sx
  rw [List.getElem?_append_right (by simp)]
  congr 1
  simp
theorem sx_par {i : Nat} (h : i < vs.length) : (sx vs σ ext)[i]? = some (some vs[i]) := by
  unfold sx
  rw [List.getElem?_append_left (by simp; omega), List.getElem?_append_left (by simpa using h)]
  simp [h]
theorem sx_set {i : Nat} {v : V} (h : i < σ.length) : sx vs (σ.set i (some v)) ext = (sx vs σ ext).set (vs.length + i) (some v) := by
  unfold sx
  rw [List.set_append_left _ _ (by simp; omega), List.set_append_right _ _ (by simp)]
  simp
/-- x = e -/
theorem Rl.put (h : Rl K mg z s vs σ ext) {i : Nat} {m : M} {v : V} (hi : i < σ.length) (hm : own K mg z (none, []) m v) : Rl K mg (z.rel (vs.length + i)) (s.set (vs.length + i) (some m)) vs (σ.set i (some v)) ext := by
  refine ⟨h.ok.rel _, by rw [List.length_set, List.length_set]; exact h.len, fun j m' hj => ?_⟩
  have hlen : vs.length + i < (sx vs σ ext).length := by rw [sx_len]; omega
  rw [sx_set hi]
  by_cases e : vs.length + i = j
  · subst e
    have hi' : vs.length + i < s.length := by rw [h.len]; omega
    rw [List.getElem?_set_self hi'] at hj
    cases hj
    exact ⟨v, by rw [List.getElem?_set_self hlen], cel_own (own_rel hm)⟩
  · rw [List.getElem?_set_ne e] at hj
    obtain ⟨u, u1, u2⟩ := h.at_ j m' hj
    refine ⟨u, by rw [List.getElem?_set_ne e]; exact u1, ?_⟩
    have mv : ∀ m, own K mg z (some j, []) m u → own K mg (z.rel (vs.length + i)) (some j, []) m u := fun m hm => own_move (z := z) (z' := z.rel (vs.length + i)) (Ex.refl _) m [] [] u (fun a q o => ⟨rfl, (rel_some o).trans o⟩) hm
    cases m' with
    | f d => exact u2
    | l d => exact mv _ u2
    | d d => exact mv _ u2
    | o c d => exact mv _ u2
    | p t =>
      obtain ⟨t1, t2⟩ := u2
      refine ⟨by rw [List.length_set]; exact t1, ?_⟩
      rw [sx_set hi, List.getElem?_set_ne (by rcases t1 with t1 | t1 <;> omega)]
      exact t2
/-- a name forgotten -/
theorem Rl.drop (h : Rl K mg z s vs σ ext) (i : Nat) : Rl K mg z (s.set i none) vs σ ext := by
  refine ⟨h.ok, by rw [List.length_set]; exact h.len, fun j m' hj => ?_⟩
  by_cases e : i = j
  · subst e
    by_cases hi : i < s.length
    · rw [List.getElem?_set_self hi] at hj; cases hj
    · rw [List.getElem?_eq_none (by simpa using hi)] at hj; cases hj
  · rw [List.getElem?_set_ne e] at hj
    exact h.at_ j m' hj
/-- the result is held on the way -/
theorem Rl.push (h : Rl K mg z s vs σ ext) {m : M} {v : V} (hm : own K mg z (none, []) m v) : Rl K mg (z.rel s.length) (s ++ [some m]) vs σ (ext ++ [v]) := by
  have sxe : sx vs σ (ext ++ [v]) = sx vs σ ext ++ [some v] := by unfold sx; simp
  have sl : (sx vs σ ext).length = s.length := by rw [sx_len, h.len]
  refine ⟨h.ok.rel _, by rw [List.length_append, List.length_append, h.len]; simp [Nat.add_assoc], fun j m' hj => ?_⟩
  rw [sxe]
  by_cases e : j < s.length
  · rw [List.getElem?_append_left e] at hj
    obtain ⟨u, u1, u2⟩ := h.at_ j m' hj
    have e2 : j < (sx vs σ ext).length := by rw [sl]; exact e
    refine ⟨u, by rw [List.getElem?_append_left e2]; exact u1, ?_⟩
    have mv : ∀ m, own K mg z (some j, []) m u → own K mg (z.rel s.length) (some j, []) m u := fun m hm => own_move (z := z) (z' := z.rel s.length) (Ex.refl _) m [] [] u (fun a q o => ⟨rfl, (rel_some o).trans o⟩) hm
    cases m' with
    | f d => exact u2
    | l d => exact mv _ u2
    | d d => exact mv _ u2
    | o c d => exact mv _ u2
    | p t =>
      obtain ⟨t1, t2⟩ := u2
      refine ⟨t1, ?_⟩
      rw [sxe, List.getElem?_append_left (List.getElem?_eq_some_iff.mp t2).1]
      exact t2
  · rw [List.getElem?_append_right (by omega)] at hj
    have ej : j = s.length := by
      by_cases q : j - s.length = 0
      · omega
      · rw [List.getElem?_eq_none (by simp; omega)] at hj; cases hj
    subst ej
    rw [Nat.sub_self] at hj
    cases hj
    exact ⟨v, by rw [List.getElem?_append_right (by rw [sl]; exact Nat.le_refl _), sl, Nat.sub_self]; rfl, cel_own (own_rel hm)⟩
/-- pointers do not come -/
def Ple (s' s : Env) : Prop := ∀ (i j : Nat), s'[i]? = some (some (M.p j)) → s[i]? = some (some (M.p j))
theorem Ple.refl (s : Env) : Ple s s := fun _ _ h => h
theorem Ple.trans {a b c : Env} (h : Ple a b) (k : Ple b c) : Ple a c := fun i j q => k i j (h i j q)
theorem Ple.set {s : Env} {i : Nat} {m : Option M} (h : ∀ j, m ≠ some (.p j)) : Ple (s.set i m) s := fun k j q => by
  by_cases e : i = k
  · subst e
    by_cases hi : i < s.length
    · rw [List.getElem?_set_self hi] at q
      exact absurd (Option.some.inj q) (h j)
    · rw [List.getElem?_eq_none (by simpa using hi)] at q; cases q
  · rw [List.getElem?_set_ne e] at q; exact q
theorem own_np {π : Lab} {m : M} {v : V} (h : own K mg z π m v) : ∀ j, m ≠ .p j := fun j e => by
  subst e; exact h
/-- what was held is let go -/
theorem Rl.pop {s0 : Env} {ext0 : List V} (h : Rl K mg z s vs σ (ext0 ++ ext)) (h0 : Rl K mg z' s0 vs σ ext0) (pl : ∀ i j, i < s0.length → s[i]? = some (some (M.p j)) → s0[i]? = some (some (M.p j))) : Rl K mg z (s.take s0.length) vs σ ext0 := by
  have l0 := h0.len
  have hl : s.length = vs.length + σ.length + ext0.length + ext.length := by rw [h.len, List.length_append]; omega
  have sxe : ∀ i, i < s0.length → (sx vs σ (ext0 ++ ext))[i]? = (sx vs σ ext0)[i]? := fun i hi => by
    have : sx vs σ (ext0 ++ ext) = sx vs σ ext0 ++ ext.map some := by unfold sx; simp
    rw [this, List.getElem?_append_left (by rw [sx_len]; omega)]
  refine ⟨h.ok, by rw [List.length_take]; omega, fun i m hm => ?_⟩
  have hi : i < s0.length := by
    have := (List.getElem?_eq_some_iff.mp hm).1
    rw [List.length_take] at this; omega
  rw [List.getElem?_take_of_lt hi] at hm
  obtain ⟨v, h1, h2⟩ := h.at_ i m hm
  refine ⟨v, by rw [← sxe i hi]; exact h1, ?_⟩
  cases m with
  | f d => exact h2
  | l d => exact h2
  | d d => exact h2
  | o c d => exact h2
  | p j =>
    obtain ⟨t1, t2⟩ := h2
    obtain ⟨v0, a1, a2, a3⟩ := h0.at_ i _ (pl i j hi hm)
    have hj : j < s0.length := by
      have := (List.getElem?_eq_some_iff.mp a3).1
      rw [sx_len] at this; omega
    exact ⟨t1, by rw [← sxe j hj]; exact t2⟩

/-! ### reading -/
def look (s : Env) (i : Nat) : Option M := match s[i]? with
  | some (some (.p j)) => (match s[j]? with
    | some (some (.p _)) => none
    | some (some m) => some m
    | _ => none)
  | some (some m) => some m
  | _ => none
/-- where the owner stands -/
def root (s : Env) (i : Nat) : Nat := match s[i]? with
  | some (some (.p j)) => j
  | _ => i
theorem look_root {s : Env} {i : Nat} {m : M} (h : look s i = some m) : s[root s i]? = some (some m) ∧ ∀ j, m ≠ .p j := by
  unfold look at h
  unfold root
  split at h
  · rename_i j hj
    split at h
    · cases h
    · rename_i m' hm hs
      cases h
      rw [hj]
      exact ⟨hs, fun k e => hm k (by rw [← e])⟩
    · cases h
  · rename_i m' hm hs
    cases h
    refine ⟨?_, fun k e => hm k (by rw [← e])⟩
    split
    · rename_i k hk
      rw [hs] at hk
      exact absurd (Option.some.inj (Option.some.inj hk)) (fun e => hm k e)
    · exact hs
  · cases h
theorem Rl.look (h : Rl K mg z s vs σ ext) {i : Nat} {m : M} (hm : look s i = some m) : ∃ v, (sx vs σ ext)[i]? = some (some v) ∧ (sx vs σ ext)[root s i]? = some (some v) ∧ own K mg z (some (root s i), []) m v := by
  obtain ⟨h1, h2⟩ := look_root hm
  obtain ⟨v, e1, e2⟩ := h.at_ _ _ h1
  have ow := own_cel e2 h2
  refine ⟨v, ?_, e1, ow⟩
  unfold root at e1 h1
  split at e1
  · rename_i j hj
    obtain ⟨u, u1, u2, u3⟩ := h.at_ i _ hj
    rw [u3] at e1
    rw [u1]; exact e1
  · exact e1
/-- a thing seen, whoever owns it -/
def see (K : PySem.W.Frag) (mg : Mg) (z : Z) (m : M) (v : V) : Prop := ∃ π, own K mg z π m v
theorem see_f {d : D} {v : V} (h : rep K mg z.F d v) : see K mg z (.f d) v := ⟨(none, []), h⟩
end
end Dn
end

section
set_option Elab.async false
set_option linter.all false
set_option maxRecDepth 100000
set_option maxHeartbeats 4000000
/-! DnC: what an expression is worth (judgements), names, constants, operators, tests -/
namespace Dn
open PySem PySem.Spec PyProof.Rows L2
variable [Tb]

structure Exn where
  c : Str
  fs : List (Str × D)
inductive Re (α : Type) where
  | ok (a : α) (s : Env) | ex (e : Exn) (s : Env) | bad
inductive Ref where
  | v (d : D) | s (i : Nat)
/-- what an operation gives: a value, a new list, a new tuple, a new dict -/
inductive Rs where
  | sc (d : D) | nl (ds : List D) | nt (ds : List D) | nd (kvs : List (Key × D))
def Rs.m : Rs → M
  | .sc d => .f d
  | .nl ds => .l ds
  | .nt ds => .f (.tup ds)
  | .nd kvs => .d kvs

section
variable (K : PySem.W.Frag) (mg : Mg)
def exn (z : Z) (e : Exn) (cls : Value) (dd : Option Addr) : Prop := ∃ C, mg e.c = some (.ref C) ∧ cls = .ref C ∧ ∃ d fs', dd = some d ∧ z.F d = some (.xd fs') ∧ repf K mg z.F e.fs fs'
def rsQ (z : Z) (rs : Rs) (Q : VK) : Prop := match rs with
  | .sc d => ∀ v, rep K mg z.F d v → Q v z.H
  | .nl ds => ∀ p vs, z.H p = none → reps K mg z.F ds vs → Q (.ref p) (upd z.H p (.lst vs))
  | .nt ds => (∀ v, rep K mg z.F (.tup ds) v → Q v z.H) ∧ ∀ p vs, z.H p = none → reps K mg z.F ds vs → Q (.ref p) (upd z.H p (.tup vs))
  | .nd ds => ∀ p vs, z.H p = none → repk K mg z.F ds vs → Q (.ref p) (upd z.H p (.dK vs))
def rfv (z : Z) (vs : List V) (σ : L2.St) (ext : List V) (r : Ref) (v : V) : Prop := match r with
  | .v d => rep K mg z.F d v
  | .s i => (sx vs σ ext)[i]? = some (some v)
def rfvs (z : Z) (vs : List V) (σ : L2.St) (ext : List V) : List Ref → List V → Prop
  | [], us => us = []
  | r :: rs, us => ∃ u w, us = u :: w ∧ rfv K mg z vs σ ext r u ∧ rfvs z vs σ ext rs w
def sees (z : Z) : List M → List V → Prop
  | [], us => us = []
  | m :: ms, us => ∃ u w, us = u :: w ∧ see K mg z m u ∧ sees z ms w
def exQ (W : WX) (z : Z) (s : Env) (vs ext : List V) (σ : L2.St) (e : Exn) (s' : Env) : Prop :=
  ∀ cls dd z', Stp z z' → Ple s' s → Rl K mg z' s' vs σ ext → exn K mg z' e cls dd → W cls dd σ z'.H
/-- pure: nothing is made, nothing changes -/
def rdP (vs : List V) (d : Env → Option M) : TE := fun σ H Q => ∃ z s ext, z.H = H ∧ Rl K mg z s vs σ ext ∧ ∃ m, d s = some m ∧ ∀ v, see K mg z m v → Q v H
def rdPs (vs : List V) (d : Env → Option (List M)) : TA := fun σ H Q => ∃ z s ext, z.H = H ∧ Rl K mg z s vs σ ext ∧ ∃ m, d s = some m ∧ ∀ v, sees K mg z m v → Q v H
/-- an operand -/
def rdO (W : WX) (vs : List V) (d : Env → Re Ref) : TE := fun σ H Q => ∃ z s ext, z.H = H ∧ Rl K mg z s vs σ ext ∧ match d s with
  | .ok r s' => ∀ v z' more, Stp z z' → Ple s' s → Rl K mg z' s' vs σ (ext ++ more) → rfv K mg z' vs σ (ext ++ more) r v → Q v z'.H
  | .ex e s' => ∀ cls dd z' more, Stp z z' → Ple s' s → Rl K mg z' s' vs σ (ext ++ more) → exn K mg z' e cls dd → W cls dd σ z'.H
  | .bad => False
def rdOs (W : WX) (vs : List V) (d : Env → Re (List Ref)) : TA := fun σ H Q => ∃ z s ext, z.H = H ∧ Rl K mg z s vs σ ext ∧ match d s with
  | .ok r s' => ∀ v z' more, Stp z z' → Ple s' s → Rl K mg z' s' vs σ (ext ++ more) → rfvs K mg z' vs σ (ext ++ more) r v → Q v z'.H
  | .ex e s' => ∀ cls dd z' more, Stp z z' → Ple s' s → Rl K mg z' s' vs σ (ext ++ more) → exn K mg z' e cls dd → W cls dd σ z'.H
  | .bad => False
/-- a value, its own things the result's -/
def rdE (W : WX) (vs : List V) (d : Env → Re M) : TE := fun σ H Q => ∃ z s ext, z.H = H ∧ Rl K mg z s vs σ ext ∧ match d s with
  | .ok m s' => ∀ v z', Stp z z' → Ple s' s → Rl K mg z' s' vs σ ext → own K mg z' (none, []) m v → Q v z'.H
  | .ex e s' => exQ K mg W z s vs ext σ e s'
  | .bad => False
def rdT (W : WX) (vs : List V) (d : Env → Re Bool) : TT := fun σ H Q => ∃ z s ext, z.H = H ∧ Rl K mg z s vs σ ext ∧ match d s with
  | .ok b s' => ∀ z', Stp z z' → Ple s' s → Rl K mg z' s' vs σ ext → Q b z'.H
  | .ex e s' => exQ K mg W z s vs ext σ e s'
  | .bad => False
end
abbrev PM (X : Cx) (vs : List V) (e : Expr) (d : Env → Option M) : Prop := PE X e (rdP X.K X.mg vs d)
abbrev PMs (X : Cx) (vs : List V) (es : List Expr) (d : Env → Option (List M)) : Prop := PA X es (rdPs X.K X.mg vs d)
abbrev OM (X : Cx) (W : WX) (vs : List V) (e : Expr) (d : Env → Re Ref) : Prop := PE X e (rdO X.K X.mg W vs d)
abbrev OMs (X : Cx) (W : WX) (vs : List V) (es : List Expr) (d : Env → Re (List Ref)) : Prop := PA X es (rdOs X.K X.mg W vs d)
abbrev EM (X : Cx) (W : WX) (vs : List V) (e : Expr) (d : Env → Re M) : Prop := PE X e (rdE X.K X.mg W vs d)
abbrev TM (X : Cx) (W : WX) (vs : List V) (e : Expr) (d : Env → Re Bool) : Prop := PT X e (rdT X.K X.mg W vs d)

section
variable {X : Cx}
theorem wkE {e : Expr} {t t' : TE} (h : PE X e t) (k : ∀ σ H Q, σ.length = X.N.length → t' σ H Q → t σ H Q) : PE X e t' := ⟨fun pins s σ H Q I q => h.run pins s σ H Q I (k σ H Q I.len q)⟩
theorem wkT {e : Expr} {t t' : TT} (h : PT X e t) (k : ∀ σ H Q, σ.length = X.N.length → t' σ H Q → t σ H Q) : PT X e t' := ⟨fun pins s σ H Q I q => h.run pins s σ H Q I (k σ H Q I.len q)⟩
theorem wkA {es : List Expr} {t t' : TA} (h : PA X es t) (k : ∀ σ H Q, σ.length = X.N.length → t' σ H Q → t σ H Q) : PA X es t' := ⟨fun pos pins s σ H Q I q => h.run pos pins s σ H Q I (k σ H Q I.len q)⟩
theorem wkS {st : Stmt} {t t' : TS} (h : PS X st t) (k : ∀ D σ H, σ.length = X.N.length → t' D σ H → t D σ H) : PS X st t' := ⟨fun pins s σ H D I q => h.run pins s σ H D I (k D σ H I.len q)⟩
theorem wkSs {st : List Stmt} {t t' : TS} (h : PSs X st t) (k : ∀ D σ H, σ.length = X.N.length → t' D σ H → t D σ H) : PSs X st t' := ⟨fun pins s σ H D I q => h.run pins s σ H D I (k D σ H I.len q)⟩
end

/-! ### references -/
def rv (s : Env) : Ref → Option M
  | .v d => some (.f d)
  | .s i => look s i
def rvs (s : Env) : List Ref → Option (List M)
  | [] => some []
  | r :: rs => match rv s r, rvs s rs with
    | some m, some ms => some (m :: ms)
    | _, _ => none
section
variable {K : PySem.W.Frag} {mg : Mg} {z z' : Z} {s s' : Env} {vs ext more : List V} {σ : L2.St} {W : WX}
theorem sx_app {i : Nat} {x : Option V} (h : (sx vs σ ext)[i]? = some x) : (sx vs σ (ext ++ more))[i]? = some x := by
  have e : sx vs σ (ext ++ more) = sx vs σ ext ++ more.map some := by unfold sx; simp
  rw [e, List.getElem?_append_left (List.getElem?_eq_some_iff.mp h).1]; exact h
theorem rfv_on {r : Ref} {v : V} (st : Stp z z') (h : rfv K mg z vs σ ext r v) : rfv K mg z' vs σ (ext ++ more) r v := by
  cases r with
  | v d => exact rep_ex st.ef d v h
  | s i => exact sx_app h
theorem rv_see (h : Rl K mg z s vs σ ext) {r : Ref} {m : M} {v : V} (hm : rv s r = some m) (hv : rfv K mg z vs σ ext r v) : see K mg z m v := by
  cases r with
  | v d =>
    cases hm
    exact see_f hv
  | s i =>
    obtain ⟨u, u1, _, u3⟩ := h.look hm
    have hv : (sx vs σ ext)[i]? = some (some v) := hv
    rw [u1] at hv
    cases hv
    exact ⟨_, u3⟩
theorem rvs_see (h : Rl K mg z s vs σ ext) : ∀ {rs : List Ref} {ms : List M} {us : List V}, rvs s rs = some ms → rfvs K mg z vs σ ext rs us → sees K mg z ms us
  | [], ms, us, hm, hv => by
    cases hm
    exact hv
  | r :: rs, ms, us, hm, hv => by
    obtain ⟨u, w, e, h1, h2⟩ := hv
    unfold rvs at hm
    split at hm
    · rename_i m ms' e1 e2
      cases hm
      exact ⟨u, w, e, rv_see h e1 h1, rvs_see h e2 h2⟩
    · cases hm
theorem rsQ_own {rs : Rs} {Q : VK} (k : Ok z) (h : ∀ v z', Stp z z' → (∀ a i q, z.O a = some (some i, q) → z'.H a = z.H a ∧ z'.O a = z.O a) → Ok z' → own K mg z' (none, []) rs.m v → Q v z'.H) : rsQ K mg z rs Q := by
  cases rs with
  | sc d => exact fun v hv => h v z (Stp.refl z) (fun _ _ _ _ => ⟨rfl, rfl⟩) k hv
  | nl ds =>
    intro p us hp hr
    have fr := k.fresh hp
    refine h (.ref p) (z.hold p (.lst us) (none, [])) (Stp.hold k hp) (fun a i q e => ?_) (k.hold hp) ⟨p, us, rfl, upd_same, if_pos rfl, hr⟩
    have ne : a ≠ p := fun w => by rw [w] at e; exact absurd (fr.1.symm.trans e) (by simp)
    exact ⟨upd_ne ne, if_neg ne⟩
  | nt ds =>
    refine ⟨fun v hv => h v z (Stp.refl z) (fun _ _ _ _ => ⟨rfl, rfl⟩) k hv, ?_⟩
    intro p us hp hr
    have fr := k.fresh hp
    refine h (.ref p) (z.lay p (.tup us)) (Stp.lay k hp) (fun a i q e => ?_) (k.lay hp) ⟨p, us, rfl, .inl (.inl upd_same), reps_ex (Ex.new fr.2) ds us hr⟩
    have ne : a ≠ p := fun w => by rw [w] at e; exact absurd (fr.1.symm.trans e) (by simp)
    exact ⟨upd_ne ne, rfl⟩
  | nd ds =>
    intro p us hp hr
    have fr := k.fresh hp
    refine h (.ref p) (z.hold p (.dK us) (none, [])) (Stp.hold k hp) (fun a i q e => ?_) (k.hold hp) ⟨p, us, rfl, upd_same, if_pos rfl, hr⟩
    have ne : a ≠ p := fun w => by rw [w] at e; exact absurd (fr.1.symm.trans e) (by simp)
    exact ⟨upd_ne ne, if_neg ne⟩
/-- an operation's end: what was held on the way is let go -/
theorem fin_ok {rs : Rs} {Q : VK} (h0 : Rl K mg z s vs σ ext) (h : Rl K mg z' s' vs σ (ext ++ more)) (st : Stp z z') (pl : Ple s' s)
    (q : ∀ v z', Stp z z' → Ple (s'.take s.length) s → Rl K mg z' (s'.take s.length) vs σ ext → own K mg z' (none, []) rs.m v → Q v z'.H) : rsQ K mg z' rs Q :=
  rsQ_own h.ok fun v z2 st2 u k2 ow => q v z2 (st.trans st2) (fun i j e => by
    by_cases hi : i < s.length
    · rw [List.getElem?_take_of_lt hi] at e
      exact pl i j e
    · rw [List.getElem?_take_eq_none (by omega)] at e; cases e) ((h.to k2 st2.ef u).pop h0 fun i j _ e => pl i j e) ow
theorem fin_ex {e : Exn} {cls : Value} {dd : Option Addr} (h0 : Rl K mg z s vs σ ext) (h : Rl K mg z' s' vs σ (ext ++ more)) (st : Stp z z') (pl : Ple s' s) (x : exn K mg z' e cls dd)
    (q : exQ K mg W z s vs ext σ e (s'.take s.length)) : W cls dd σ z'.H :=
  q cls dd z' st (fun i j e => by
    by_cases hi : i < s.length
    · rw [List.getElem?_take_of_lt hi] at e
      exact pl i j e
    · rw [List.getElem?_take_eq_none (by omega)] at e; cases e) (h.pop h0 fun i j _ e => pl i j e) x
end

/-! ### names, constants -/
section
variable {X : Cx} {W : WX} {vs : List V}
def cVar (i : Nat) : Env → Option M := fun s => look s i
theorem p_var {i n : Nat} {x : Str} {pos : Pos} (hn : vs.length = n := by rfl) (hN : X.N[i]? = some x := by rfl) (hv : Vis X.env.scope x := by first | exact Or.inl rfl | exact Or.inr (Or.inl rfl) | exact Or.inr (Or.inr rfl)) (hd : (x == ("__debug__" : Str)) = false := by decide)
    (hcd : (x == ("__classdict__" : Str)) = false := by decide) : PM X vs (.Name x pos) (cVar (n + i)) := wkE (pe_var hN hv hd hcd) fun σ H Q hl h => by
  obtain ⟨z, s, ext, hz, R, m, hm, q⟩ := h
  obtain ⟨v, h1, _, ow⟩ := R.look hm
  have hi : i < σ.length := by rw [hl]; exact (List.getElem?_eq_some_iff.mp hN).1
  rw [← hn, sx_loc hi] at h1
  exact ⟨v, h1, q v ⟨_, ow⟩⟩
def oVar (i : Nat) : Env → Re Ref := fun s => match look s i with
  | some _ => .ok (.s i) s
  | none => .bad
theorem o_var {i n : Nat} {x : Str} {pos : Pos} (hn : vs.length = n := by rfl) (hN : X.N[i]? = some x := by rfl) (hv : Vis X.env.scope x := by first | exact Or.inl rfl | exact Or.inr (Or.inl rfl) | exact Or.inr (Or.inr rfl)) (hd : (x == ("__debug__" : Str)) = false := by decide)
    (hcd : (x == ("__classdict__" : Str)) = false := by decide) : OM X W vs (.Name x pos) (oVar (n + i)) := wkE (pe_var hN hv hd hcd) fun σ H Q hl h => by
  obtain ⟨z, s, ext, hz, R, q⟩ := h
  unfold oVar at q
  cases hm : look s (n + i) with
  | none =>
    rw [hm] at q
    exact q.elim
  | some m =>
    rw [hm] at q
    obtain ⟨v, h1, _, ow⟩ := R.look hm
    have hi : i < σ.length := by rw [hl]; exact (List.getElem?_eq_some_iff.mp hN).1
    have h2 := h1
    rw [← hn, sx_loc hi] at h1
    subst hz
    exact ⟨v, h1, q v z [] (Stp.refl z) (Ple.refl s) (by rw [List.append_nil]; exact R) (by rw [List.append_nil]; exact h2)⟩
def cD (d : D) : Env → Option M := fun _ => some (.f d)
theorem p_c {e : Expr} {d : D} {v : V} (h : PE X e (tC v)) (r : ∀ F, rep X.K X.mg F d v) : PM X vs e (cD d) := wkE h fun σ H Q _ h => by
  obtain ⟨z, s, ext, hz, R, m, hm, q⟩ := h
  cases hm
  exact q v (see_f (r _))
theorem p_int {i j pos} : PM X vs (.Constant (.int i) j pos) (cD (.int i)) := p_c pe_int fun _ => rfl
theorem p_bl {b j pos} : PM X vs (.Constant (.bool b) j pos) (cD (.bl b)) := p_c pe_bl fun _ => rfl
theorem p_non {j pos} : PM X vs (.Constant .none j pos) (cD .non) := p_c pe_non fun _ => rfl
theorem p_str {x j pos} : PM X vs (.Constant (.str x) j pos) (cD (.str x)) := p_c pe_str fun _ => rfl
/-- a constant of the module -/
theorem p_glob {x : Str} {d : D} {v : V} {u : Value} {pos : Pos} (hm : X.mg x = some u) (r : RelV v u) (hr : ∀ F, rep X.K X.mg F d v) (hg : Gl X x := by rfl) (hd : (x == ("__debug__" : Str)) = false := by decide) : PM X vs (.Name x pos) (cD d) := p_c (pe_glob hg hm r hd) hr
theorem p_bltn {x : Str} {n : String} {pos : Pos} (hm : X.mg x = none) (hv : bootBuiltins x = some (.type n)) (hg : Gl X x := by rfl) (hn : x ≠ "__name__" := by decide) (hd : (x == ("__debug__" : Str)) = false := by decide) : PM X vs (.Name x pos) (cD (.ty n)) := p_c (pe_bltn hg hm hv (v := .ty n) rfl hn hd) fun _ => rfl

/-! ### from one kind to another -/
def oP (d : Env → Option M) : Env → Re Ref := fun s => match d s with
  | some (.f x) => .ok (.v x) s
  | _ => .bad
theorem o_P {e : Expr} {d : Env → Option M} (h : PM X vs e d) : OM X W vs e (oP d) := wkE h fun σ H Q _ h => by
  obtain ⟨z, s, ext, hz, R, q⟩ := h
  unfold oP at q
  cases hd : d s with
  | none => simp only [hd] at q
  | some m =>
    cases m with
    | f x =>
      simp only [hd] at q
      subst hz
      refine ⟨z, s, ext, rfl, R, _, hd, fun v ⟨π, hv⟩ => ?_⟩
      exact q v z [] (Stp.refl z) (Ple.refl s) (by rw [List.append_nil]; exact R) hv
    | l x => simp only [hd] at q
    | d x => simp only [hd] at q
    | o c x => simp only [hd] at q
    | p j => simp only [hd] at q
def cP (d : Env → Option M) : Env → Re M := fun s => match d s with
  | some (.f x) => .ok (.f x) s
  | _ => .bad
theorem e_P {e : Expr} {d : Env → Option M} (h : PM X vs e d) : EM X W vs e (cP d) := wkE h fun σ H Q _ h => by
  obtain ⟨z, s, ext, hz, R, q⟩ := h
  unfold cP at q
  cases hd : d s with
  | none => simp only [hd] at q
  | some m =>
    cases m with
    | f x =>
      simp only [hd] at q
      subst hz
      exact ⟨z, s, ext, rfl, R, _, hd, fun v ⟨π, hv⟩ => q v z (Stp.refl z) (Ple.refl s) R hv⟩
    | l x => simp only [hd] at q
    | d x => simp only [hd] at q
    | o c x => simp only [hd] at q
    | p j => simp only [hd] at q
def oE (d : Env → Re M) : Env → Re Ref := fun s => match d s with
  | .ok (.f x) s' => .ok (.v x) s'
  | .ok (.p _) _ => .bad
  | .ok m s' => .ok (.s s'.length) (s' ++ [some m])
  | .ex e s' => .ex e s'
  | .bad => .bad
theorem o_E {e : Expr} {d : Env → Re M} (h : EM X W vs e d) : OM X W vs e (oE d) := wkE h fun σ H Q _ h => by
  obtain ⟨z, s, ext, hz, R, q⟩ := h
  refine ⟨z, s, ext, hz, R, ?_⟩
  unfold oE at q
  cases hd : d s with
  | bad =>
    rw [hd] at q
    exact q.elim
  | ex e s' =>
    rw [hd] at q
    exact fun cls dd z' st pl R' x => q cls dd z' [] st pl (by rw [List.append_nil]; exact R') x
  | ok m s' =>
    rw [hd] at q
    intro v z' st pl R' ow
    have key : (∀ j, m ≠ .p j) → (∀ v z' more, Stp z z' → Ple (s' ++ [some m]) s → Rl X.K X.mg z' (s' ++ [some m]) vs σ (ext ++ more) → rfv X.K X.mg z' vs σ (ext ++ more) (.s s'.length) v → Q v z'.H) → Q v z'.H := fun np q => by
      refine q v (z'.rel s'.length) [v] (st.trans (Stp.rel _ _)) (fun i j e => ?_) (R'.push ow) ?_
      · by_cases hi : i < s'.length
        · rw [List.getElem?_append_left hi] at e
          exact pl i j e
        · rw [List.getElem?_append_right (by omega)] at e
          by_cases h0 : i - s'.length = 0
          · rw [h0] at e
            exact absurd (Option.some.inj (Option.some.inj e)) (np j)
          · rw [List.getElem?_eq_none (by simp; omega)] at e; cases e
      · show (sx vs σ (ext ++ [v]))[s'.length]? = some (some v)
        have e : sx vs σ (ext ++ [v]) = sx vs σ ext ++ [some v] := by unfold sx; simp
        have l : (sx vs σ ext).length = s'.length := by rw [sx_len, R'.len]
        rw [e, List.getElem?_append_right (by rw [l]; exact Nat.le_refl _), l, Nat.sub_self]; rfl
    cases m with
    | f x => exact q v z' [] st pl (by rw [List.append_nil]; exact R') ow
    | l ds => exact key (fun j e => by cases e) q
    | d ds => exact key (fun j e => by cases e) q
    | o c ds => exact key (fun j e => by cases e) q
    | p j => exact q.elim

/-! ### operators -/
def Op1 (K : PySem.W.Frag) (mg : Mg) (r : V → Hp → VK → Prop) (f : M → Option Rs) : Prop := ∀ z m v rs Q, Ok z → see K mg z m v → f m = some rs → rsQ K mg z rs Q → r v z.H Q
def Op2 (K : PySem.W.Frag) (mg : Mg) (r : R2) (f : M → M → Option Rs) : Prop := ∀ z m1 m2 v1 v2 rs Q, Ok z → see K mg z m1 v1 → see K mg z m2 v2 → f m1 m2 = some rs → rsQ K mg z rs Q → r v1 v2 z.H Q
def OpL (K : PySem.W.Frag) (mg : Mg) (r : List V → Hp → VK → Prop) (f : List M → Option Rs) : Prop := ∀ z ms us rs Q, Ok z → sees K mg z ms us → f ms = some rs → rsQ K mg z rs Q → r us z.H Q
def OpM (K : PySem.W.Frag) (mg : Mg) (r : V → List V → Hp → VK → Prop) (f : M → List M → Option Rs) : Prop := ∀ z m ms v us rs Q, Ok z → see K mg z m v → sees K mg z ms us → f m ms = some rs → rsQ K mg z rs Q → r v us z.H Q

def scOf : Option Rs → Option M
  | some (.sc d) => some (.f d)
  | _ => none
def cP1 (f : M → Option Rs) (a : Env → Option M) : Env → Option M := fun s => match a s with
  | some m => scOf (f m)
  | none => none
def cP2 (f : M → M → Option Rs) (a b : Env → Option M) : Env → Option M := fun s => match a s, b s with
  | some m, some n => scOf (f m n)
  | _, _ => none
def cPL (f : List M → Option Rs) (a : Env → Option (List M)) : Env → Option M := fun s => match a s with
  | some ms => scOf (f ms)
  | none => none
theorem scOf_some {o : Option Rs} {m : M} (h : scOf o = some m) : ∃ d, o = some (.sc d) ∧ m = .f d := by
  unfold scOf at h
  split at h
  · cases h
    exact ⟨_, rfl, rfl⟩
  · cases h
theorem tP1 {K : PySem.W.Frag} {mg : Mg} {r : V → Hp → VK → Prop} {f : M → Option Rs} {a : Env → Option M} {σ : L2.St} {H : Hp} {Q : VK} (hr : Op1 K mg r f) (h : rdP K mg vs (cP1 f a) σ H Q) : rdP K mg vs a σ H fun x H1 => r x H1 Q := by
  obtain ⟨z, s, ext, hz, R, m, hm, q⟩ := h
  subst hz
  unfold cP1 at hm
  split at hm
  · rename_i m1 e1
    obtain ⟨d, e2, rfl⟩ := scOf_some hm
    exact ⟨z, s, ext, rfl, R, m1, e1, fun v hv => hr z m1 v _ Q R.ok hv e2 fun v hv => q v (see_f hv)⟩
  · cases hm
theorem tP2 {K : PySem.W.Frag} {mg : Mg} {r : R2} {f : M → M → Option Rs} {a b : Env → Option M} {σ : L2.St} {H : Hp} {Q : VK} (hr : Op2 K mg r f) (h : rdP K mg vs (cP2 f a b) σ H Q) : tOp r (rdP K mg vs a) (rdP K mg vs b) σ H Q := by
  obtain ⟨z, s, ext, hz, R, m, hm, q⟩ := h
  subst hz
  unfold cP2 at hm
  split at hm
  · rename_i m1 m2 e1 e2
    obtain ⟨d, e3, rfl⟩ := scOf_some hm
    exact ⟨z, s, ext, rfl, R, m1, e1, fun v1 hv1 => ⟨z, s, ext, rfl, R, m2, e2, fun v2 hv2 => hr z m1 m2 v1 v2 _ Q R.ok hv1 hv2 e3 fun v hv => q v (see_f hv)⟩⟩
  · cases hm
theorem tPL {K : PySem.W.Frag} {mg : Mg} {r : List V → Hp → VK → Prop} {f : List M → Option Rs} {a : Env → Option (List M)} {σ : L2.St} {H : Hp} {Q : VK} (hr : OpL K mg r f) (h : rdP K mg vs (cPL f a) σ H Q) : tCB r (rdPs K mg vs a) σ H Q := by
  obtain ⟨z, s, ext, hz, R, m, hm, q⟩ := h
  subst hz
  unfold cPL at hm
  split at hm
  · rename_i m1 e1
    obtain ⟨d, e2, rfl⟩ := scOf_some hm
    exact ⟨z, s, ext, rfl, R, m1, e1, fun v hv => hr z m1 v _ Q R.ok hv e2 fun v hv => q v (see_f hv)⟩
  · cases hm
/-- the end of an operation on operands -/
def fin (s : Env) (o : Option Rs) (s' : Env) : Re M := match o with
  | some rs => .ok rs.m (s'.take s.length)
  | none => .bad
def cE1 (f : M → Option Rs) (a : Env → Re Ref) : Env → Re M := fun s => match a s with
  | .ok r s1 => fin s (match rv s1 r with
    | some m => f m
    | none => none) s1
  | .ex e s1 => .ex e (s1.take s.length)
  | .bad => .bad
def cE2 (f : M → M → Option Rs) (a b : Env → Re Ref) : Env → Re M := fun s => match a s with
  | .ok r1 s1 => (match b s1 with
    | .ok r2 s2 => fin s (match rv s2 r1, rv s2 r2 with
      | some m, some n => f m n
      | _, _ => none) s2
    | .ex e s2 => .ex e (s2.take s.length)
    | .bad => .bad)
  | .ex e s1 => .ex e (s1.take s.length)
  | .bad => .bad
def cEL (f : List M → Option Rs) (a : Env → Re (List Ref)) : Env → Re M := fun s => match a s with
  | .ok r s1 => fin s (match rvs s1 r with
    | some m => f m
    | none => none) s1
  | .ex e s1 => .ex e (s1.take s.length)
  | .bad => .bad
def cEM (f : M → List M → Option Rs) (a : Env → Re Ref) (b : Env → Re (List Ref)) : Env → Re M := fun s => match a s with
  | .ok r1 s1 => (match b s1 with
    | .ok r2 s2 => fin s (match rv s2 r1, rvs s2 r2 with
      | some m, some n => f m n
      | _, _ => none) s2
    | .ex e s2 => .ex e (s2.take s.length)
    | .bad => .bad)
  | .ex e s1 => .ex e (s1.take s.length)
  | .bad => .bad
section
variable {K : PySem.W.Frag} {mg : Mg} {σ : L2.St} {H : Hp} {Q : VK}
theorem tE1 {r : V → Hp → VK → Prop} {f : M → Option Rs} {a : Env → Re Ref} (hr : Op1 K mg r f) (h : rdE K mg W vs (cE1 f a) σ H Q) : rdO K mg W vs a σ H fun x H1 => r x H1 Q := by
  obtain ⟨z, s, ext, hz, R, q⟩ := h
  refine ⟨z, s, ext, hz, R, ?_⟩
  unfold cE1 at q
  cases ha : a s with
  | bad =>
    rw [ha] at q
    exact q.elim
  | ex e s1 =>
    rw [ha] at q
    exact fun cls dd z' more st pl R' x => fin_ex R R' st pl x q
  | ok r1 s1 =>
    rw [ha] at q
    intro v z1 more st pl R1 rf
    cases hm : rv s1 r1 with
    | none =>
      simp only [hm, fin] at q
    | some m =>
      simp only [hm, fin] at q
      cases hf : f m with
      | none =>
        simp only [hf] at q
      | some rs =>
        simp only [hf] at q
        exact hr z1 m v rs Q R1.ok (rv_see R1 hm rf) hf (fin_ok R R1 st pl q)
theorem tE2 {r : R2} {f : M → M → Option Rs} {a b : Env → Re Ref} (hr : Op2 K mg r f) (h : rdE K mg W vs (cE2 f a b) σ H Q) : tOp r (rdO K mg W vs a) (rdO K mg W vs b) σ H Q := by
  obtain ⟨z, s, ext, hz, R, q⟩ := h
  refine ⟨z, s, ext, hz, R, ?_⟩
  unfold cE2 at q
  cases ha : a s with
  | bad =>
    rw [ha] at q
    exact q.elim
  | ex e s1 =>
    rw [ha] at q
    exact fun cls dd z' more st pl R' x => fin_ex R R' st pl x q
  | ok r1 s1 =>
    rw [ha] at q
    intro v z1 more st pl R1 rf
    refine ⟨z1, s1, ext ++ more, rfl, R1, ?_⟩
    cases hb : b s1 with
    | bad =>
      simp only [hb] at q
    | ex e s2 =>
      simp only [hb] at q
      exact fun cls dd z' more' st' pl' R' x => fin_ex R (by rw [List.append_assoc] at R'; exact R') (st.trans st') (pl'.trans pl) x q
    | ok r2 s2 =>
      simp only [hb] at q
      intro v2 z2 more2 st2 pl2 R2 rf2
      rw [List.append_assoc] at R2 rf2
      cases hm : rv s2 r1 with
      | none =>
        simp only [hm, fin] at q
      | some m =>
        cases hn : rv s2 r2 with
        | none =>
          simp only [hm, hn, fin] at q
        | some n =>
          simp only [hm, hn, fin] at q
          cases hf : f m n with
          | none =>
            simp only [hf] at q
          | some rs =>
            simp only [hf] at q
            have rf1 : rfv K mg z2 vs σ (ext ++ (more ++ more2)) r1 v := by
              rw [← List.append_assoc]
              exact rfv_on st2 rf
            exact hr z2 m n v v2 rs Q R2.ok (rv_see R2 hm rf1) (rv_see R2 hn rf2) hf (fin_ok R R2 (st.trans st2) (pl2.trans pl) q)
theorem tEL {r : List V → Hp → VK → Prop} {f : List M → Option Rs} {a : Env → Re (List Ref)} (hr : OpL K mg r f) (h : rdE K mg W vs (cEL f a) σ H Q) : tCB r (rdOs K mg W vs a) σ H Q := by
  obtain ⟨z, s, ext, hz, R, q⟩ := h
  refine ⟨z, s, ext, hz, R, ?_⟩
  unfold cEL at q
  cases ha : a s with
  | bad =>
    rw [ha] at q
    exact q.elim
  | ex e s1 =>
    rw [ha] at q
    exact fun cls dd z' more st pl R' x => fin_ex R R' st pl x q
  | ok r1 s1 =>
    rw [ha] at q
    intro v z1 more st pl R1 rf
    cases hm : rvs s1 r1 with
    | none =>
      simp only [hm, fin] at q
    | some m =>
      simp only [hm, fin] at q
      cases hf : f m with
      | none =>
        simp only [hf] at q
      | some rs =>
        simp only [hf] at q
        exact hr z1 m v rs Q R1.ok (rvs_see R1 hm rf) hf (fin_ok R R1 st pl q)
theorem tEM {r : V → List V → Hp → VK → Prop} {f : M → List M → Option Rs} {a : Env → Re Ref} {b : Env → Re (List Ref)} (hr : OpM K mg r f) (h : rdE K mg W vs (cEM f a b) σ H Q) :
    rdO K mg W vs a σ H fun x H1 => rdOs K mg W vs b σ H1 fun xs H2 => r x xs H2 Q := by
  obtain ⟨z, s, ext, hz, R, q⟩ := h
  refine ⟨z, s, ext, hz, R, ?_⟩
  unfold cEM at q
  cases ha : a s with
  | bad =>
    rw [ha] at q
    exact q.elim
  | ex e s1 =>
    rw [ha] at q
    exact fun cls dd z' more st pl R' x => fin_ex R R' st pl x q
  | ok r1 s1 =>
    rw [ha] at q
    intro v z1 more st pl R1 rf
    refine ⟨z1, s1, ext ++ more, rfl, R1, ?_⟩
    cases hb : b s1 with
    | bad =>
      simp only [hb] at q
    | ex e s2 =>
      simp only [hb] at q
      exact fun cls dd z' more' st' pl' R' x => fin_ex R (by rw [List.append_assoc] at R'; exact R') (st.trans st') (pl'.trans pl) x q
    | ok r2 s2 =>
      simp only [hb] at q
      intro v2 z2 more2 st2 pl2 R2 rf2
      rw [List.append_assoc] at R2 rf2
      cases hm : rv s2 r1 with
      | none =>
        simp only [hm, fin] at q
      | some m =>
        cases hn : rvs s2 r2 with
        | none =>
          simp only [hm, hn, fin] at q
        | some n =>
          simp only [hm, hn, fin] at q
          cases hf : f m n with
          | none =>
            simp only [hf] at q
          | some rs =>
            simp only [hf] at q
            have rf1 : rfv K mg z2 vs σ (ext ++ (more ++ more2)) r1 v := by
              rw [← List.append_assoc]
              exact rfv_on st2 rf
            exact hr z2 m n v v2 rs Q R2.ok (rv_see R2 hm rf1) (rvs_see R2 hn rf2) hf (fin_ok R R2 (st.trans st2) (pl2.trans pl) q)
end
end
end Dn
end

section
set_option Elab.async false
set_option linter.all false
set_option maxRecDepth 100000
set_option maxHeartbeats 4000000
/-! DnD: the rules by form; lists of operands; frozen values -/
namespace Dn
open PySem PySem.Spec PyProof.Rows L2
variable [Tb]

/-! ### frozen values -/
section
variable (K : PySem.W.Frag) (mg : Mg)
def rdV (W : WX) (vs : List V) (d : Env → Re D) : TE := fun σ H Q => ∃ z s ext, z.H = H ∧ Rl K mg z s vs σ ext ∧ match d s with
  | .ok x s' => ∀ v z', Stp z z' → Ple s' s → Rl K mg z' s' vs σ ext → rep K mg z'.F x v → Q v z'.H
  | .ex e s' => exQ K mg W z s vs ext σ e s'
  | .bad => False
def rdVs (W : WX) (vs : List V) (d : Env → Re (List D)) : TA := fun σ H Q => ∃ z s ext, z.H = H ∧ Rl K mg z s vs σ ext ∧ match d s with
  | .ok x s' => ∀ v z', Stp z z' → Ple s' s → Rl K mg z' s' vs σ ext → reps K mg z'.F x v → Q v z'.H
  | .ex e s' => exQ K mg W z s vs ext σ e s'
  | .bad => False
end
abbrev VM (X : Cx) (W : WX) (vs : List V) (e : Expr) (d : Env → Re D) : Prop := PE X e (rdV X.K X.mg W vs d)
abbrev VMs (X : Cx) (W : WX) (vs : List V) (es : List Expr) (d : Env → Re (List D)) : Prop := PA X es (rdVs X.K X.mg W vs d)
section
variable {K : PySem.W.Frag} {mg : Mg} {z z1 z' : Z} {s s1 s' : Env} {vs ext more : List V} {σ : L2.St} {W : WX}
theorem exQ_on {e : Exn} (st : Stp z z1) (pl : Ple s1 s) (q : exQ K mg W z s vs ext σ e s') : exQ K mg W z1 s1 vs ext σ e s' :=
  fun cls dd z' st' pl' R x => q cls dd z' (st.trans st') (pl'.trans pl) R x
end
section
variable {X : Cx} {W : WX} {vs : List V}
def vP (d : Env → Option M) : Env → Re D := fun s => match d s with
  | some (.f x) => .ok x s
  | _ => .bad
theorem v_P {e : Expr} {d : Env → Option M} (h : PM X vs e d) : VM X W vs e (vP d) := wkE h fun σ H Q _ h => by
  obtain ⟨z, s, ext, hz, R, q⟩ := h
  unfold vP at q
  cases hd : d s with
  | none => simp only [hd] at q
  | some m =>
    cases m with
    | f x =>
      simp only [hd] at q
      subst hz
      exact ⟨z, s, ext, rfl, R, _, hd, fun v ⟨π, hv⟩ => q v z (Stp.refl z) (Ple.refl s) R hv⟩
    | l x => simp only [hd] at q
    | d x => simp only [hd] at q
    | o c x => simp only [hd] at q
    | p j => simp only [hd] at q
def vE (d : Env → Re M) : Env → Re D := fun s => match d s with
  | .ok m s' => .ok (frz m) s'
  | .ex e s' => .ex e s'
  | .bad => .bad
theorem v_E {e : Expr} {d : Env → Re M} (h : EM X W vs e d) : VM X W vs e (vE d) := wkE h fun σ H Q _ h => by
  obtain ⟨z, s, ext, hz, R, q⟩ := h
  refine ⟨z, s, ext, hz, R, ?_⟩
  unfold vE at q
  cases hd : d s with
  | bad =>
    rw [hd] at q
    exact q.elim
  | ex e s' =>
    rw [hd] at q
    exact q
  | ok m s' =>
    rw [hd] at q
    intro v z' st pl R' ow
    exact q v (z'.fz none) (st.trans (Stp.fz R'.ok _)) pl R'.fzN (rep_fz R'.ok ow)
/-- a name's thing, kept by another: from here on it stays as it is -/
def vVar (i : Nat) : Env → Re D := fun s => match look s i with
  | some (.f d) => .ok d s
  | some m => .ok (frz m) (s.set (root s i) (some (.f (frz m))))
  | none => .bad
theorem v_var {i n : Nat} {x : Str} {pos : Pos} (hn : vs.length = n := by rfl) (hN : X.N[i]? = some x := by rfl) (hv : Vis X.env.scope x := by first | exact Or.inl rfl | exact Or.inr (Or.inl rfl) | exact Or.inr (Or.inr rfl)) (hd : (x == ("__debug__" : Str)) = false := by decide)
    (hcd : (x == ("__classdict__" : Str)) = false := by decide) : VM X W vs (.Name x pos) (vVar (n + i)) := wkE (pe_var hN hv hd hcd) fun σ H Q hl h => by
  obtain ⟨z, s, ext, hz, R, q⟩ := h
  have hi : i < σ.length := by rw [hl]; exact (List.getElem?_eq_some_iff.mp hN).1
  unfold vVar at q
  have fr : ∀ m, look s (n + i) = some m → (∀ v z', Stp z z' → Ple (s.set (root s (n + i)) (some (.f (frz m)))) s → Rl X.K X.mg z' (s.set (root s (n + i)) (some (.f (frz m)))) vs σ ext → rep X.K X.mg z'.F (frz m) v → Q v z'.H) → tVar i σ H Q := fun m hm q => by
    obtain ⟨h1, np⟩ := look_root hm
    obtain ⟨R', v', e1, r⟩ := R.fzS h1 np
    obtain ⟨v, a1, a2, _⟩ := R.look hm
    rw [a2] at e1
    cases e1
    rw [← hn, sx_loc hi] at a1
    subst hz
    exact ⟨_, a1, q _ (z.fz (some (root s (n + i)))) (Stp.fz R.ok _) (Ple.set fun j e => by cases e) R' r⟩
  cases hm : look s (n + i) with
  | none =>
    rw [hm] at q
    exact q.elim
  | some m =>
    rw [hm] at q
    cases m with
    | f d =>
      obtain ⟨v, a1, _, ow⟩ := R.look hm
      rw [← hn, sx_loc hi] at a1
      subst hz
      exact ⟨v, a1, q v z (Stp.refl z) (Ple.refl s) R ow⟩
    | l d => exact fr _ hm q
    | d d => exact fr _ hm q
    | o c d => exact fr _ hm q
    | p j => exact absurd rfl ((look_root hm).2 j)
def cV (d : Env → Re D) : Env → Re M := fun s => match d s with
  | .ok x s' => .ok (.f x) s'
  | .ex e s' => .ex e s'
  | .bad => .bad
theorem e_V {e : Expr} {d : Env → Re D} (h : VM X W vs e d) : EM X W vs e (cV d) := wkE h fun σ H Q _ h => by
  obtain ⟨z, s, ext, hz, R, q⟩ := h
  refine ⟨z, s, ext, hz, R, ?_⟩
  unfold cV at q
  cases hd : d s with
  | bad =>
    rw [hd] at q
    exact q.elim
  | ex e s' =>
    rw [hd] at q
    exact q
  | ok m s' =>
    rw [hd] at q
    exact q

/-! ### lists -/
def lNil {α : Type} : Env → Re (List α) := fun s => .ok [] s
def lCons {α : Type} (a : Env → Re α) (b : Env → Re (List α)) : Env → Re (List α) := fun s => match a s with
  | .ok x s1 => (match b s1 with
    | .ok xs s2 => .ok (x :: xs) s2
    | .ex e s2 => .ex e s2
    | .bad => .bad)
  | .ex e s1 => .ex e s1
  | .bad => .bad
def pNil : Env → Option (List M) := fun _ => some []
def pCons (a : Env → Option M) (b : Env → Option (List M)) : Env → Option (List M) := fun s => match a s, b s with
  | some x, some xs => some (x :: xs)
  | _, _ => none
theorem ps_nil : PMs X vs [] pNil := wkA pa_nil fun σ H Q _ h => by
  obtain ⟨z, s, ext, hz, R, m, hm, q⟩ := h
  cases hm
  exact q [] rfl
theorem ps_cons {e : Expr} {es : List Expr} {a : Env → Option M} {b : Env → Option (List M)} (h : PM X vs e a) (hs : PMs X vs es b) (hx : starEach (e :: es) X.env = (false, eval e X.env) :: starEach es X.env := by rfl) : PMs X vs (e :: es) (pCons a b) :=
  wkA (pa_cons h hs hx) fun σ H Q _ h => by
    obtain ⟨z, s, ext, hz, R, m, hm, q⟩ := h
    unfold pCons at hm
    cases ha : a s with
    | none => simp only [ha] at hm; cases hm
    | some x =>
      cases hb : b s with
      | none => simp only [ha, hb] at hm; cases hm
      | some xs =>
        simp only [ha, hb] at hm
        cases hm
        exact ⟨z, s, ext, hz, R, x, ha, fun v hv => ⟨z, s, ext, hz, R, xs, hb, fun us hu => q (v :: us) ⟨v, us, rfl, hv, hu⟩⟩⟩
theorem os_nil : OMs X W vs [] lNil := wkA pa_nil fun σ H Q _ h => by
  obtain ⟨z, s, ext, hz, R, q⟩ := h
  subst hz
  exact q [] z [] (Stp.refl z) (Ple.refl s) (by rw [List.append_nil]; exact R) rfl
theorem os_cons {e : Expr} {es : List Expr} {a : Env → Re Ref} {b : Env → Re (List Ref)} (h : OM X W vs e a) (hs : OMs X W vs es b) (hx : starEach (e :: es) X.env = (false, eval e X.env) :: starEach es X.env := by rfl) : OMs X W vs (e :: es) (lCons a b) :=
  wkA (pa_cons h hs hx) fun σ H Q _ h => by
    obtain ⟨z, s, ext, hz, R, q⟩ := h
    refine ⟨z, s, ext, hz, R, ?_⟩
    unfold lCons at q
    cases ha : a s with
    | bad => simp only [ha] at q
    | ex e s1 =>
      simp only [ha] at q
      exact q
    | ok r s1 =>
      simp only [ha] at q
      intro v z1 more st pl R1 rf
      refine ⟨z1, s1, ext ++ more, rfl, R1, ?_⟩
      cases hb : b s1 with
      | bad => simp only [hb] at q
      | ex e s2 =>
        simp only [hb] at q
        exact fun cls dd z' more' st' pl' R' x => q cls dd z' (more ++ more') (st.trans st') (pl'.trans pl) (by rw [← List.append_assoc]; exact R') x
      | ok rs s2 =>
        simp only [hb] at q
        intro us z2 more2 st2 pl2 R2 rf2
        refine q (v :: us) z2 (more ++ more2) (st.trans st2) (pl2.trans pl) (by rw [← List.append_assoc]; exact R2) ?_
        rw [← List.append_assoc]
        exact ⟨v, us, rfl, rfv_on st2 rf, rf2⟩
theorem vs_nil : VMs X W vs [] lNil := wkA pa_nil fun σ H Q _ h => by
  obtain ⟨z, s, ext, hz, R, q⟩ := h
  subst hz
  exact q [] z (Stp.refl z) (Ple.refl s) R rfl
theorem vs_cons {e : Expr} {es : List Expr} {a : Env → Re D} {b : Env → Re (List D)} (h : VM X W vs e a) (hs : VMs X W vs es b) (hx : starEach (e :: es) X.env = (false, eval e X.env) :: starEach es X.env := by rfl) : VMs X W vs (e :: es) (lCons a b) :=
  wkA (pa_cons h hs hx) fun σ H Q _ h => by
    obtain ⟨z, s, ext, hz, R, q⟩ := h
    refine ⟨z, s, ext, hz, R, ?_⟩
    unfold lCons at q
    cases ha : a s with
    | bad => simp only [ha] at q
    | ex e s1 =>
      simp only [ha] at q
      exact q
    | ok r s1 =>
      simp only [ha] at q
      intro v z1 st pl R1 rf
      refine ⟨z1, s1, ext, rfl, R1, ?_⟩
      cases hb : b s1 with
      | bad => simp only [hb] at q
      | ex e s2 =>
        simp only [hb] at q
        exact exQ_on st pl q
      | ok rs s2 =>
        simp only [hb] at q
        intro us z2 st2 pl2 R2 rf2
        exact q (v :: us) z2 (st.trans st2) (pl2.trans pl) R2 ⟨v, us, rfl, rep_ex st2.ef r v rf, rf2⟩

/-! ### displays -/
def fitsL {α : Type} (xs : List α) : Prop := xs.length ≤ 16777216
instance {α : Type} (xs : List α) : Decidable (fitsL xs) := inferInstanceAs (Decidable (xs.length ≤ 16777216))
theorem fitsL_ok {α : Type} {xs : List α} (h : fitsL xs) : xs.length ≤ sizeLine := by rw [sizeLine_eq]; exact h
def cTup (a : Env → Re (List D)) : Env → Re M := fun s => match a s with
  | .ok ds s1 => if fitsL ds then .ok (.f (.tup ds)) s1 else .bad
  | .ex e s1 => .ex e s1
  | .bad => .bad
def cLst (a : Env → Re (List D)) : Env → Re M := fun s => match a s with
  | .ok ds s1 => if fitsL ds then .ok (.l ds) s1 else .bad
  | .ex e s1 => .ex e s1
  | .bad => .bad
theorem e_tup {es : List Expr} {a : Env → Re (List D)} {x1 pos} (h : VMs X W vs es a) : EM X W vs (.Tuple es x1 pos) (cTup a) := wkE (pe_tup h) fun σ H Q _ h => by
  obtain ⟨z, s, ext, hz, R, q⟩ := h
  refine ⟨z, s, ext, hz, R, ?_⟩
  unfold cTup at q
  cases ha : a s with
  | bad => simp only [ha] at q
  | ex e s1 =>
    simp only [ha] at q
    exact q
  | ok ds s1 =>
    simp only [ha] at q
    intro us z1 st pl R1 rf
    by_cases hf : fitsL ds
    · rw [if_pos hf] at q
      refine ⟨by rw [reps_len rf]; exact fitsL_ok hf, fun p hp => ?_⟩
      exact q (.ref p) (z1.lay p (.tup us)) (st.trans (Stp.lay R1.ok hp)) pl (R1.lay hp) ⟨p, us, rfl, .inl (.inl upd_same), reps_ex (Stp.lay R1.ok hp).ef ds us rf⟩
    · rw [if_neg hf] at q
      exact q.elim
theorem e_lst {es : List Expr} {a : Env → Re (List D)} {pos} (h : VMs X W vs es a) : EM X W vs (.List es pos) (cLst a) := wkE (pe_lst h) fun σ H Q _ h => by
  obtain ⟨z, s, ext, hz, R, q⟩ := h
  refine ⟨z, s, ext, hz, R, ?_⟩
  unfold cLst at q
  cases ha : a s with
  | bad => simp only [ha] at q
  | ex e s1 =>
    simp only [ha] at q
    exact q
  | ok ds s1 =>
    simp only [ha] at q
    intro us z1 st pl R1 rf
    by_cases hf : fitsL ds
    · rw [if_pos hf] at q
      refine ⟨by rw [reps_len rf]; exact fitsL_ok hf, fun p hp => ?_⟩
      exact q (.ref p) (z1.hold p (.lst us) (none, [])) (st.trans (Stp.hold R1.ok hp)) pl (R1.hold hp) ⟨p, us, rfl, upd_same, if_pos rfl, rf⟩
    · rw [if_neg hf] at q
      exact q.elim

/-! ### operators -/
section
variable {a b : Expr} {pos : Pos} {r : R2} {f : M → M → Option Rs} {pa pb : Env → Option M} {oa ob : Env → Re Ref}
theorem p_op {op : Operator} (ho : OpR X (binaryOp op) r) (hr : Op2 X.K X.mg r f) (ha : PM X vs a pa) (hb : PM X vs b pb) : PM X vs (.BinOp a op b pos) (cP2 f pa pb) := wkE (pe_op ho ha hb) fun _ _ _ _ h => tP2 hr h
theorem e_op {op : Operator} (ho : OpR X (binaryOp op) r) (hr : Op2 X.K X.mg r f) (ha : OM X W vs a oa) (hb : OM X W vs b ob) : EM X W vs (.BinOp a op b pos) (cE2 f oa ob) := wkE (pe_op ho ha hb) fun _ _ _ _ h => tE2 hr h
theorem p_cmp {op : CmpOp} (ho : OpR X (compareOp op) r) (hr : Op2 X.K X.mg r f) (ha : PM X vs a pa) (hb : PM X vs b pb) (hm : behindInMarks op b = false) : PM X vs (.Compare a [op] [b] pos) (cP2 f pa pb) := wkE (pe_cmpR ho ha hb hm) fun _ _ _ _ h => tP2 hr h
theorem e_cmp {op : CmpOp} (ho : OpR X (compareOp op) r) (hr : Op2 X.K X.mg r f) (ha : OM X W vs a oa) (hb : OM X W vs b ob) (hm : behindInMarks op b = false) : EM X W vs (.Compare a [op] [b] pos) (cE2 f oa ob) := wkE (pe_cmpR ho ha hb hm) fun _ _ _ _ h => tE2 hr h
theorem p_ix (ho : IxR X r) (hr : Op2 X.K X.mg r f) (ha : PM X vs a pa) (hb : PM X vs b pb) (hs : PlainIx b := by exact fun _ _ => rfl) : PM X vs (.Subscript a b pos) (cP2 f pa pb) := wkE (pe_ix ho ha hb hs) fun _ _ _ _ h => tP2 hr h
theorem e_ix (ho : IxR X r) (hr : Op2 X.K X.mg r f) (ha : OM X W vs a oa) (hb : OM X W vs b ob) (hs : PlainIx b := by exact fun _ _ => rfl) : EM X W vs (.Subscript a b pos) (cE2 f oa ob) := wkE (pe_ix ho ha hb hs) fun _ _ _ _ h => tE2 hr h
theorem p_un {op : UnaryOp} {r : V → Hp → VK → Prop} {f : M → Option Rs} (ho : UnR X (unaryOp op) r) (hr : Op1 X.K X.mg r f) (ha : PM X vs a pa) : PM X vs (.UnaryOp op a pos) (cP1 f pa) := wkE (pe_un ho ha) fun _ _ _ _ h => tP1 hr h
end
section
variable {e : Expr} {es : List Expr} {x : Str} {p pos : Pos} {id T : String} {r : List V → Hp → VK → Prop} {f : List M → Option Rs} {pa : Env → Option (List M)} {oa : Env → Re (List Ref)}
theorem p_callB (hc : CallR X (.builtin id) r) (hr : OpL X.K X.mg r f) (hm : X.mg x = none) (hv : bootBuiltins x = some (.builtin id)) (ha : PMs X vs (e :: es) pa) (hg : Gl X x := by rfl) (hn : x ≠ "__name__" := by decide) (hdb : (x == ("__debug__" : Str)) = false := by decide)
    (he : starEach (e :: es) X.env = (false, eval e X.env) :: starEach es X.env := by rfl) (hpl : (backTo pos (starEach es X.env)).any (·.1) = false := by rfl) : PM X vs (.Call (.Name x p) (e :: es) [] pos) (cPL f pa) := wkE (pe_callB hc hg hm hv ha hn hdb he hpl) fun _ _ _ _ h => tPL hr h
theorem e_callB (hc : CallR X (.builtin id) r) (hr : OpL X.K X.mg r f) (hm : X.mg x = none) (hv : bootBuiltins x = some (.builtin id)) (ha : OMs X W vs (e :: es) oa) (hg : Gl X x := by rfl) (hn : x ≠ "__name__" := by decide) (hdb : (x == ("__debug__" : Str)) = false := by decide)
    (he : starEach (e :: es) X.env = (false, eval e X.env) :: starEach es X.env := by rfl) (hpl : (backTo pos (starEach es X.env)).any (·.1) = false := by rfl) : EM X W vs (.Call (.Name x p) (e :: es) [] pos) (cEL f oa) := wkE (pe_callB hc hg hm hv ha hn hdb he hpl) fun _ _ _ _ h => tEL hr h
theorem p_callTy (hc : CallR X (.type T) r) (hr : OpL X.K X.mg r f) (hm : X.mg x = none) (hv : bootBuiltins x = some (.type T)) (ha : PMs X vs (e :: es) pa) (hg : Gl X x := by rfl) (hn : x ≠ "__name__" := by decide) (hdb : (x == ("__debug__" : Str)) = false := by decide)
    (he : starEach (e :: es) X.env = (false, eval e X.env) :: starEach es X.env := by rfl) (hpl : (backTo pos (starEach es X.env)).any (·.1) = false := by rfl) : PM X vs (.Call (.Name x p) (e :: es) [] pos) (cPL f pa) := wkE (pe_callTy hc hg hm hv ha hn hdb he hpl) fun _ _ _ _ h => tPL hr h
theorem e_callTy (hc : CallR X (.type T) r) (hr : OpL X.K X.mg r f) (hm : X.mg x = none) (hv : bootBuiltins x = some (.type T)) (ha : OMs X W vs (e :: es) oa) (hg : Gl X x := by rfl) (hn : x ≠ "__name__" := by decide) (hdb : (x == ("__debug__" : Str)) = false := by decide)
    (he : starEach (e :: es) X.env = (false, eval e X.env) :: starEach es X.env := by rfl) (hpl : (backTo pos (starEach es X.env)).any (·.1) = false := by rfl) : EM X W vs (.Call (.Name x p) (e :: es) [] pos) (cEL f oa) := wkE (pe_callTy hc hg hm hv ha hn hdb he hpl) fun _ _ _ _ h => tEL hr h
end

/-! ### slices -/
def oPart (d : Option (Env → Re Ref)) : Env → Re (Option Int) := fun s => match d with
  | none => .ok none s
  | some d => (match d s with
    | .ok r s1 => (match rv s1 r with
      | some (.f (.int i)) => .ok (some i) s1
      | _ => .bad)
    | .ex e s1 => .ex e s1
    | .bad => .bad)
def OpS (K : PySem.W.Frag) (mg : Mg) (r : V → Option Int → Option Int → Hp → VK → Prop) (f : M → Option Int → Option Int → Option Rs) : Prop :=
  ∀ z m v lo hi rs Q, Ok z → see K mg z m v → f m lo hi = some rs → rsQ K mg z rs Q → r v lo hi z.H Q
def cSl (f : M → Option Int → Option Int → Option Rs) (a : Env → Re Ref) (lo hi : Option (Env → Re Ref)) : Env → Re M := fun s => match a s with
  | .ok r s1 => (match oPart lo s1 with
    | .ok l s2 => (match oPart hi s2 with
      | .ok h s3 => fin s (match rv s3 r with
        | some m => f m l h
        | none => none) s3
      | .ex e s3 => .ex e (s3.take s.length)
      | .bad => .bad)
    | .ex e s2 => .ex e (s2.take s.length)
    | .bad => .bad)
  | .ex e s1 => .ex e (s1.take s.length)
  | .bad => .bad
/-- a part of a slice, read -/
def rdPt (K : PySem.W.Frag) (mg : Mg) (W : WX) (vs : List V) (d : Env → Re (Option Int)) : TO := fun σ H Q => ∃ z s ext, z.H = H ∧ Rl K mg z s vs σ ext ∧ match d s with
  | .ok r s' => ∀ z' more, Stp z z' → Ple s' s → Rl K mg z' s' vs σ (ext ++ more) → Q r z'.H
  | .ex e s' => ∀ cls dd z' more, Stp z z' → Ple s' s → Rl K mg z' s' vs σ (ext ++ more) → exn K mg z' e cls dd → W cls dd σ z'.H
  | .bad => False
abbrev PtM (X : Cx) (W : WX) (vs : List V) (e : Option Expr) (d : Env → Re (Option Int)) : Prop := PO X e (rdPt X.K X.mg W vs d)
theorem wkO {e : Option Expr} {t t' : TO} (h : PO X e t) (k : ∀ σ H Q, t' σ H Q → t σ H Q) : PO X e t' := ⟨fun pins s σ H Q I q => h.run pins s σ H Q I (k σ H Q q)⟩
theorem pt_no : PtM X W vs none (oPart none) := wkO po_none fun σ H Q h => by
  obtain ⟨z, s, ext, hz, R, q⟩ := h
  subst hz
  exact q z [] (Stp.refl z) (Ple.refl s) (by rw [List.append_nil]; exact R)
theorem pt_e {e : Expr} {d : Env → Re Ref} (h : OM X W vs e d) : PtM X W vs (some e) (oPart (some d)) := wkO (po_some h) fun σ H Q h => by
  obtain ⟨z, s, ext, hz, R, q⟩ := h
  refine ⟨z, s, ext, hz, R, ?_⟩
  unfold oPart at q
  cases hd : d s with
  | bad => simp only [hd] at q
  | ex e s1 =>
    simp only [hd] at q
    exact q
  | ok r s1 =>
    simp only [hd] at q
    intro v z1 more st pl R1 rf
    cases hm : rv s1 r with
    | none => simp only [hm] at q
    | some m =>
      have sn := rv_see R1 hm rf
      cases m with
      | f x =>
        cases x with
        | int i =>
          simp only [hm] at q
          obtain ⟨π, ow⟩ := sn
          exact ⟨i, ow, q z1 more st pl R1⟩
        | _ => simp only [hm] at q
      | _ => simp only [hm] at q
theorem e_slice {e : Expr} {lo hi : Option Expr} {pos p2 : Pos} {r : V → Option Int → Option Int → Hp → VK → Prop} {f : M → Option Int → Option Int → Option Rs} {a : Env → Re Ref} {dl dh : Option (Env → Re Ref)} (hr : SlR X r) (hf : OpS X.K X.mg r f)
    (ha : OM X W vs e a) (hl : PtM X W vs lo (oPart dl)) (hu : PtM X W vs hi (oPart dh)) : EM X W vs (.Subscript e (.Slice lo hi none p2) pos) (cSl f a dl dh) := wkE (pe_slice hr ha hl hu) fun σ H Q _ h => by
  obtain ⟨z, s, ext, hz, R, q⟩ := h
  refine ⟨z, s, ext, hz, R, ?_⟩
  unfold cSl at q
  cases ha : a s with
  | bad => simp only [ha] at q
  | ex e s1 =>
    simp only [ha] at q
    exact fun cls dd z' more st pl R' x => fin_ex R R' st pl x q
  | ok r1 s1 =>
    simp only [ha] at q
    intro v z1 more st pl R1 rf
    refine ⟨z1, s1, ext ++ more, rfl, R1, ?_⟩
    cases hb : oPart dl s1 with
    | bad => simp only [hb] at q
    | ex e s2 =>
      simp only [hb] at q
      exact fun cls dd z' more' st' pl' R' x => fin_ex R (by rw [List.append_assoc] at R'; exact R') (st.trans st') (pl'.trans pl) x q
    | ok l s2 =>
      simp only [hb] at q
      intro z2 more2 st2 pl2 R2
      refine ⟨z2, s2, ext ++ more ++ more2, rfl, R2, ?_⟩
      have rf2 := rfv_on (more := more2) st2 rf
      cases hc : oPart dh s2 with
      | bad => simp only [hc] at q
      | ex e s3 =>
        simp only [hc] at q
        exact fun cls dd z' more' st' pl' R' x => fin_ex R (by rw [List.append_assoc, List.append_assoc] at R'; exact R') ((st.trans st2).trans st') ((pl'.trans pl2).trans pl) x q
      | ok u s3 =>
        simp only [hc] at q
        intro z3 more3 st3 pl3 R3
        have rf3 := rfv_on (more := more3) st3 rf2
        rw [List.append_assoc, List.append_assoc] at R3 rf3
        cases hm : rv s3 r1 with
        | none => simp only [hm, fin] at q
        | some m =>
          simp only [hm, fin] at q
          cases hf' : f m l u with
          | none => simp only [hf'] at q
          | some rs =>
            simp only [hf'] at q
            exact hf z3 m v l u rs Q R3.ok (rv_see R3 hm rf3) hf' (fin_ok R R3 ((st.trans st2).trans st3) ((pl3.trans pl2).trans pl) q)

/-! ### methods of built-in types that change nothing -/
section
variable {o e : Expr} {es : List Expr} {name : Str} {apos cpos : Pos} {T id : String} {r : V → List V → Hp → VK → Prop} {f : M → List M → Option Rs} {oa : Env → Re Ref} {ob : Env → Re (List Ref)}
/-- of the receiver's type -/
def isTy (T : String) : M → Bool
  | .f (.str _) => T == "str"
  | .f (.lst _) => T == "list"
  | .f (.rl _) => T == "list"
  | .l _ => T == "list"
  | .d _ => T == "dict"
  | .f (.dic _) => T == "dict"
  | _ => false
theorem isTy_ok {K : PySem.W.Frag} {mg : Mg} {z : Z} {T : String} {m : M} {v : V} (k : Ok z) (h : isTy T m = true) (sn : see K mg z m v) : tyV K T v z.H := by
  obtain ⟨π, ow⟩ := sn
  cases m with
  | f d =>
    cases d with
    | str x =>
      obtain rfl : v = .str x := ow
      exact (by simpa [isTy] using h : T = "str")
    | lst xs =>
      obtain ⟨a, us, rfl, h1, _⟩ := ow
      exact .inl ⟨by simpa [isTy] using h, us, .inl (.inl (k.ex _ _ h1))⟩
    | rl xs =>
      obtain ⟨a, us, rfl, h1, _⟩ := ow
      exact .inl ⟨by simpa [isTy] using h, us, sqL_ex k.ex h1⟩
    | dic xs =>
      obtain ⟨a, us, rfl, h1, _⟩ := ow
      exact .inr (.inr (.inl ⟨by simpa [isTy] using h, .inl ⟨us, k.ex _ _ h1⟩⟩))
    | _ => simp [isTy] at h
  | l xs =>
    obtain ⟨a, us, rfl, h1, _⟩ := ow
    exact .inl ⟨by simpa [isTy] using h, us, .inl (.inl h1)⟩
  | d xs =>
    obtain ⟨a, us, rfl, h1, _⟩ := ow
    exact .inr (.inr (.inl ⟨by simpa [isTy] using h, .inl ⟨us, h1⟩⟩))
  | o c fs => simp [isTy] at h
  | p j => simp [isTy] at h
def cBM (T : String) (f : M → List M → Option Rs) (a : Env → Re Ref) (b : Env → Re (List Ref)) : Env → Re M := fun s => match a s with
  | .ok r1 s1 => (match rv s1 r1 with
    | some m0 => if isTy T m0 = true then (match b s1 with
      | .ok r2 s2 => fin s (match rv s2 r1, rvs s2 r2 with
        | some m, some n => f m n
        | _, _ => none) s2
      | .ex e s2 => .ex e (s2.take s.length)
      | .bad => .bad) else .bad
    | none => .bad)
  | .ex e s1 => .ex e (s1.take s.length)
  | .bad => .bad
theorem tBM_ {K : PySem.W.Frag} {mg : Mg} {σ : L2.St} {H : Hp} {Q : VK} (hr : OpM K mg r f) (h : rdE K mg W vs (cBM T f oa ob) σ H Q) : tBM K T r (rdO K mg W vs oa) (rdOs K mg W vs ob) σ H Q := by
  obtain ⟨z, s, ext, hz, R, q⟩ := h
  refine ⟨z, s, ext, hz, R, ?_⟩
  unfold cBM at q
  cases ha : oa s with
  | bad => simp only [ha] at q
  | ex e s1 =>
    simp only [ha] at q
    exact fun cls dd z' more st pl R' x => fin_ex R R' st pl x q
  | ok r1 s1 =>
    simp only [ha] at q
    intro v z1 more st pl R1 rf
    cases h0 : rv s1 r1 with
    | none => simp only [h0] at q
    | some m0 =>
      simp only [h0] at q
      by_cases ht : isTy T m0 = true
      · rw [if_pos ht] at q
        refine ⟨isTy_ok R1.ok ht (rv_see R1 h0 rf), z1, s1, ext ++ more, rfl, R1, ?_⟩
        cases hb : ob s1 with
        | bad => simp only [hb] at q
        | ex e s2 =>
          simp only [hb] at q
          exact fun cls dd z' more' st' pl' R' x => fin_ex R (by rw [List.append_assoc] at R'; exact R') (st.trans st') (pl'.trans pl) x q
        | ok r2 s2 =>
          simp only [hb] at q
          intro v2 z2 more2 st2 pl2 R2 rf2
          rw [List.append_assoc] at R2 rf2
          cases hm : rv s2 r1 with
          | none =>
            simp only [hm, fin] at q
          | some m =>
            cases hn : rvs s2 r2 with
            | none =>
              simp only [hm, hn, fin] at q
            | some n =>
              simp only [hm, hn, fin] at q
              cases hf : f m n with
              | none =>
                simp only [hf] at q
              | some rs =>
                simp only [hf] at q
                have rf1 : rfv K mg z2 vs σ (ext ++ (more ++ more2)) r1 v := by
                  rw [← List.append_assoc]
                  exact rfv_on st2 rf
                exact hr z2 m n v v2 rs Q R2.ok (rv_see R2 hm rf1) (rvs_see R2 hn rf2) hf (fin_ok R R2 (st.trans st2) (pl2.trans pl) q)
      · rw [if_neg ht] at q
        exact q.elim
theorem e_bm (pt : PlainAttrs T) (slot : Slot T name id) (hty : typeOf (.builtin id) = pure (.type "method_descriptor")) (hm : MtR X id r) (hr : OpM X.K X.mg r f) (ho : OM X W vs o oa) (ha : OMs X W vs (e :: es) ob)
    (hbase : attributeBase o name X.env (eval o X.env) = eval o X.env := by rfl)
    (hfew : ((backTo cpos (starEach (e :: es) X.env)).all (fun x => !x.1) && (backToKw cpos (keywordEach [] X.env)).all (fun x => x.1.isSome)
      && decide ((e :: es).length + ([] : List Keyword).length + (if ([] : List Keyword).isEmpty then 0 else 1) < 30)) = true := by rfl)
    (hline : (apos.endLine == cpos.line) = true := by rfl) (hs : starEach (e :: es) X.env = (false, eval e X.env) :: starEach es X.env := by rfl) (hplain : (backTo cpos (starEach es X.env)).any (·.1) = false := by rfl) :
    EM X W vs (.Call (.Attribute o name apos) (e :: es) [] cpos) (cBM T f oa ob) :=
  wkE (pe_bm pt slot hty hm ho ha hbase hfew hline hs hplain) fun σ H Q _ h => tBM_ hr h
theorem e_bm0 (pt : PlainAttrs T) (slot : Slot T name id) (hty : typeOf (.builtin id) = pure (.type "method_descriptor")) (hm : MtR X id r) (hr : OpM X.K X.mg r f) (ho : OM X W vs o oa)
    (hbase : attributeBase o name X.env (eval o X.env) = eval o X.env := by rfl) (hline : (apos.endLine == cpos.line) = true := by rfl) :
    EM X W vs (.Call (.Attribute o name apos) [] [] cpos) (cBM T f oa lNil) :=
  wkE (pe_bm0 pt slot hty hm ho hbase hline) fun σ H Q _ h => by
    have h := tBM_ hr h
    obtain ⟨z, s, ext, hz, R, q⟩ := h
    refine ⟨z, s, ext, hz, R, ?_⟩
    cases ha : oa s with
    | bad =>
      rw [ha] at q
      exact q.elim
    | ex e s1 =>
      rw [ha] at q
      exact q
    | ok r1 s1 =>
      rw [ha] at q
      intro v z1 more st pl R1 rf
      obtain ⟨ty, z2, s2, ext2, hz2, R2, q2⟩ := q v z1 more st pl R1 rf
      subst_vars
      rw [← hz2]
      have q2 : ∀ (v : List V) (z' : Z) (more : List V), Stp z2 z' → Ple s2 s2 → Rl X.K X.mg z' s2 vs σ (ext2 ++ more) → rfvs X.K X.mg z' vs σ (ext2 ++ more) [] v → r _ v z'.H Q := q2
      exact ⟨by rw [hz2]; exact ty, q2 [] z2 [] (Stp.refl z2) (Ple.refl s2) (by rw [List.append_nil]; exact R2) rfl⟩
end
end
end Dn
end

section
set_option Elab.async false
set_option linter.all false
set_option maxRecDepth 100000
set_option maxHeartbeats 4000000
/-! DnE: the operations by values -/
namespace Dn
open PySem PySem.Spec PyProof.Rows L2
variable [Tb]

/-! ### what a thing is -/
def asL : M → Option (List D)
  | .f (.lst xs) => some xs
  | .f (.rl xs) => some xs
  | .l xs => some xs
  | _ => none
def asLs : M → Option (List D)
  | .f (.lst xs) => some xs
  | .l xs => some xs
  | _ => none
def asT : M → Option (List D)
  | .f (.tup xs) => some xs
  | _ => none
/-- the items of a list or tuple -/
def asS : M → Option (List D)
  | .f (.lst xs) => some xs
  | .f (.rl xs) => some xs
  | .l xs => some xs
  | .f (.tup xs) => some xs
  | _ => none
def asK : M → Option (List (Key × D))
  | .f (.dic xs) => some xs
  | .d xs => some xs
  | _ => none
section
variable {K : PySem.W.Frag} {mg : Mg} {z : Z} {m : M} {v : V} {ds : List D}
theorem see_L (k : Ok z) (h : asL m = some ds) (sn : see K mg z m v) : ∃ a us, v = .ref a ∧ SqL K z.H a us ∧ reps K mg z.F ds us := by
  obtain ⟨π, ow⟩ := sn
  unfold asL at h
  split at h
  · cases h
    obtain ⟨a, us, e, h1, h2⟩ := ow
    exact ⟨a, us, e, .inl (.inl (k.ex _ _ h1)), h2⟩
  · cases h
    obtain ⟨a, us, e, h1, h2⟩ := ow
    exact ⟨a, us, e, sqL_ex k.ex h1, h2⟩
  · cases h
    obtain ⟨a, us, e, h1, _, h2⟩ := ow
    exact ⟨a, us, e, .inl (.inl h1), h2⟩
  · cases h
theorem see_Ls (k : Ok z) (h : asLs m = some ds) (sn : see K mg z m v) : ∃ a us, v = .ref a ∧ z.H a = some (.lst us) ∧ reps K mg z.F ds us := by
  obtain ⟨π, ow⟩ := sn
  unfold asLs at h
  split at h
  · cases h
    obtain ⟨a, us, e, h1, h2⟩ := ow
    exact ⟨a, us, e, k.ex _ _ h1, h2⟩
  · cases h
    obtain ⟨a, us, e, h1, _, h2⟩ := ow
    exact ⟨a, us, e, h1, h2⟩
  · cases h
theorem see_T (k : Ok z) (h : asT m = some ds) (sn : see K mg z m v) : ∃ a us, v = .ref a ∧ SqT K z.H a us ∧ reps K mg z.F ds us := by
  obtain ⟨π, ow⟩ := sn
  unfold asT at h
  split at h
  · cases h
    obtain ⟨a, us, e, h1, h2⟩ := ow
    exact ⟨a, us, e, sqT_ex k.ex h1, h2⟩
  · cases h
theorem see_S (k : Ok z) (h : asS m = some ds) (sn : see K mg z m v) : ∃ a us, v = .ref a ∧ (SqL K z.H a us ∨ SqT K z.H a us) ∧ reps K mg z.F ds us := by
  unfold asS at h
  split at h
  · obtain ⟨a, us, e, h1, h2⟩ := see_L k (m := .f (.lst _)) (by exact h) sn
    exact ⟨a, us, e, .inl h1, h2⟩
  · obtain ⟨a, us, e, h1, h2⟩ := see_L k (m := .f (.rl _)) (by exact h) sn
    exact ⟨a, us, e, .inl h1, h2⟩
  · obtain ⟨a, us, e, h1, h2⟩ := see_L k (m := .l _) (by exact h) sn
    exact ⟨a, us, e, .inl h1, h2⟩
  · obtain ⟨a, us, e, h1, h2⟩ := see_T k (m := .f (.tup _)) (by exact h) sn
    exact ⟨a, us, e, .inr h1, h2⟩
  · cases h
theorem see_K {kvs : List (Key × D)} (k : Ok z) (h : asK m = some kvs) (sn : see K mg z m v) : ∃ a us, v = .ref a ∧ z.H a = some (.dK us) ∧ repk K mg z.F kvs us := by
  obtain ⟨π, ow⟩ := sn
  unfold asK at h
  split at h
  · cases h
    obtain ⟨a, us, e, h1, h2⟩ := ow
    exact ⟨a, us, e, k.ex _ _ h1, h2⟩
  · cases h
    obtain ⟨a, us, e, h1, _, h2⟩ := ow
    exact ⟨a, us, e, h1, h2⟩
  · cases h
theorem see_v {d : D} (sn : see K mg z (.f d) v) : rep K mg z.F d v := by
  obtain ⟨π, ow⟩ := sn
  exact ow
theorem sees1 {us : List V} (h : sees K mg z [m] us) : ∃ v, us = [v] ∧ see K mg z m v := by
  obtain ⟨u, w, e, h1, h2⟩ := h
  have h2 : w = [] := h2
  subst h2
  exact ⟨u, e, h1⟩
theorem sees2 {n : M} {us : List V} (h : sees K mg z [m, n] us) : ∃ v w, us = [v, w] ∧ see K mg z m v ∧ see K mg z n w := by
  obtain ⟨u, w, e, h1, h2⟩ := h
  obtain ⟨w', e2, h3⟩ := sees1 h2
  subst e2
  exact ⟨u, w', e, h1, h3⟩
theorem sees0 {us : List V} (h : sees K mg z [] us) : us = [] := h
end

/-! ### arithmetic -/
def f2I (c : Int → Int → Bool) (g : Int → Int → D) : M → M → Option Rs
  | .f (.int i), .f (.int j) => if c i j then some (.sc (g i j)) else none
  | _, _ => none
theorem op2I {K : PySem.W.Frag} {mg : Mg} {C : Int → Int → Prop} {c : Int → Int → Bool} {g : Int → Int → V} {gd : Int → Int → D} (hc : ∀ i j, c i j = true → C i j) (hg : ∀ F i j, rep K mg F (gd i j) (g i j)) : Op2 K mg (rI C g) (f2I c gd) := by
  intro z m n v w rs Q k sm sn hf q
  unfold f2I at hf
  split at hf
  · rename_i i j
    by_cases h : c i j = true
    · rw [if_pos h] at hf
      cases hf
      exact ⟨i, j, see_v sm, see_v sn, hc i j h, q _ (hg _ i j)⟩
    · rw [if_neg h] at hf; cases hf
  · cases hf
theorem op2I0 {K : PySem.W.Frag} {mg : Mg} {g : Int → Int → V} {gd : Int → Int → D} (hg : ∀ F i j, rep K mg F (gd i j) (g i j)) : Op2 K mg (rI0 g) (f2I (fun _ _ => true) gd) := by
  intro z m n v w rs Q k sm sn hf q
  unfold f2I at hf
  split at hf
  · rename_i i j
    rw [if_pos rfl] at hf
    cases hf
    exact ⟨i, j, see_v sm, see_v sn, q _ (hg _ i j)⟩
  · cases hf
section
variable {K : PySem.W.Frag} {mg : Mg}
def fSub : M → M → Option Rs := f2I (fun _ _ => true) fun i j => .int (i - j)
theorem op2_sub : Op2 K mg (rI0 fun i j => .int (i - j)) fSub := op2I0 fun _ _ _ => rfl
def mulOk (i j : Int) : Bool := decide (i.natAbs.log2 + j.natAbs.log2 < 1000000)
def fMul : M → M → Option Rs := f2I mulOk fun i j => .int (i * j)
theorem op2_mul : Op2 K mg (rI CMulW fun i j => .int (i * j)) fMul := op2I (fun i j h => (of_decide_eq_true h : i.natAbs.log2 + j.natAbs.log2 < 1000000)) fun _ _ _ => rfl
def fMod : M → M → Option Rs := f2I (fun _ j => decide (0 < j)) fun i j => .int (i % j)
theorem op2_mod : Op2 K mg (rI (fun _ j => 0 < j) fun i j => .int (i % j)) fMod := op2I (fun i j h => of_decide_eq_true h) fun _ _ _ => rfl
def divOk (_ j : Int) : Bool := decide (0 < j ∧ j.natAbs.log2 < 9000)
def fDiv : M → M → Option Rs := f2I divOk fun i j => .int (i / j)
theorem op2_div : Op2 K mg (rI CDivW fun i j => .int (i / j)) fDiv := op2I (fun i j h => (of_decide_eq_true h : 0 < j ∧ j.natAbs.log2 < 9000)) fun _ _ _ => rfl
def powOk (i j : Int) : Bool := decide (0 ≤ j ∧ j ≤ 1000000 ∧ i.natAbs < 2 ^ 64)
def fPow : M → M → Option Rs := f2I powOk fun i j => .int (i ^ j.toNat)
theorem op2_pow : Op2 K mg (rI CPow fun i j => .int (i ^ j.toNat)) fPow := op2I (fun i j h => (of_decide_eq_true h : 0 ≤ j ∧ j ≤ 1000000 ∧ i.natAbs < 2 ^ 64)) fun _ _ _ => rfl
def fShl : M → M → Option Rs := f2I powOk fun i j => .int (i * 2 ^ j.toNat)
theorem op2_shl : Op2 K mg (rI CPow fun i j => .int (i * 2 ^ j.toNat)) fShl := op2I (fun i j h => (of_decide_eq_true h : 0 ≤ j ∧ j ≤ 1000000 ∧ i.natAbs < 2 ^ 64)) fun _ _ _ => rfl
def fShr : M → M → Option Rs := f2I (fun _ j => decide (0 ≤ j)) fun i j => .int (i / 2 ^ j.toNat)
theorem op2_shr : Op2 K mg (rI (fun _ j => 0 ≤ j) fun i j => .int (i / 2 ^ j.toNat)) fShr := op2I (fun i j h => of_decide_eq_true h) fun _ _ _ => rfl
def fAnd : M → M → Option Rs := f2I (fun _ _ => true) fun i j => .int (Builtin.bitAnd i j)
theorem op2_and : Op2 K mg (rI0 fun i j => .int (Builtin.bitAnd i j)) fAnd := op2I0 fun _ _ _ => rfl
def fOr : M → M → Option Rs := f2I (fun _ _ => true) fun i j => .int (Builtin.bitOr i j)
theorem op2_or : Op2 K mg (rI0 fun i j => .int (Builtin.bitOr i j)) fOr := op2I0 fun _ _ _ => rfl
/-- numbers or texts in order -/
def f2B (g : Int → Int → Bool) (h : List Nat → List Nat → Bool) : M → M → Option Rs
  | .f (.int i), .f (.int j) => some (.sc (.bl (g i j)))
  | .f (.str x), .f (.str y) => some (.sc (.bl (h x.cps.toList y.cps.toList)))
  | _, _ => none
def r2B (g : Int → Int → Bool) (h : List Nat → List Nat → Bool) : R2 := fun x y H Q => (rI0 (fun i j => .bl (g i j)) x y H Q) ∨ ∃ i j, x = .str i ∧ y = .str j ∧ Q (.bl (h i.cps.toList j.cps.toList)) H
theorem op2B {g : Int → Int → Bool} {h : List Nat → List Nat → Bool} : Op2 K mg (r2B g h) (f2B g h) := by
  intro z m n v w rs Q k sm sn hf q
  unfold f2B at hf
  split at hf
  · rename_i i j
    cases hf
    exact .inl ⟨i, j, see_v sm, see_v sn, q _ rfl⟩
  · rename_i x y
    cases hf
    exact .inr ⟨x, y, see_v sm, see_v sn, q _ rfl⟩
  · cases hf
theorem opR_or {X : Cx} {f : Value → Value → Sem Value} {r r' : R2} (h : OpR X f r) (h' : OpR X f r') : OpR X f (fun x y H Q => r x y H Q ∨ r' x y H Q) := by
  intro pins s σ H x y v u Q I rx ry q
  rcases q with q | q
  · exact h pins s σ H x y v u Q I rx ry q
  · exact h' pins s σ H x y v u Q I rx ry q
abbrev gLt : Int → Int → Bool := fun i j => decide (i < j)
abbrev gLe : Int → Int → Bool := fun i j => decide (i ≤ j)
abbrev gGt : Int → Int → Bool := fun i j => decide (j < i)
abbrev gGe : Int → Int → Bool := fun i j => decide (j ≤ i)
abbrev hLt : List Nat → List Nat → Bool := fun a b => decide (a < b)
abbrev hLe : List Nat → List Nat → Bool := fun a b => !decide (b < a)
abbrev hGt : List Nat → List Nat → Bool := fun a b => decide (b < a)
abbrev hGe : List Nat → List Nat → Bool := fun a b => !decide (a < b)
theorem opB_lt {X : Cx} : OpR X (compareOp .Lt) (r2B gLt hLt) := opR_or op_lt op_lt_str
theorem opB_le {X : Cx} : OpR X (compareOp .LtE) (r2B gLe hLe) := opR_or op_le op_le_str
theorem opB_gt {X : Cx} : OpR X (compareOp .Gt) (r2B gGt hGt) := opR_or op_gt op_gt_str
theorem opB_ge {X : Cx} : OpR X (compareOp .GtE) (r2B gGe hGe) := opR_or op_ge op_ge_str
abbrev fLt := f2B gLt hLt
abbrev fLe := f2B gLe hLe
abbrev fGt := f2B gGt hGt
abbrev fGe := f2B gGe hGe
/-- + : numbers, texts, lists, tuples -/
def fAdd : M → M → Option Rs
  | .f (.int i), .f (.int j) => some (.sc (.int (i + j)))
  | .f (.str x), .f (.str y) => if x.length + y.length ≤ 16777216 then some (.sc (.str (x ++ y))) else none
  | .f (.tup xs), .f (.tup ys) => if xs.length + ys.length ≤ 16777216 then some (.nt (xs ++ ys)) else none
  | m, n => match asLs m, asLs n with
    | some xs, some ys => if xs.length + ys.length ≤ 16777216 then some (.nl (xs ++ ys)) else none
    | _, _ => none
def rAddA (K : PySem.W.Frag) : R2 := fun x y H Q => ((rI0 (fun i j => .int (i + j)) x y H Q ∨ ∃ i j, x = .str i ∧ y = .str j ∧ i.length + j.length ≤ sizeLine ∧ Q (.str (i ++ j)) H) ∨ rCat x y H Q) ∨ rCatA K x y H Q
theorem op_addA {X : Cx} : OpR X (binaryOp .Add) (rAddA X.K) := opR_or (opR_or (opR_or op_add op_add_str) op_cat) op_catA
theorem op2_add : Op2 K mg (rAddA K) fAdd := by
  intro z m n v w rs Q k sm sn hf q
  unfold fAdd at hf
  split at hf
  · rename_i i j
    cases hf
    exact .inl (.inl (.inl ⟨i, j, see_v sm, see_v sn, q _ rfl⟩))
  · rename_i x y
    split at hf
    · rename_i hl
      cases hf
      exact .inl (.inl (.inr ⟨x, y, see_v sm, see_v sn, by rw [sizeLine_eq]; exact hl, q _ rfl⟩))
    · cases hf
  · rename_i xs ys
    split at hf
    · rename_i hl
      cases hf
      obtain ⟨a, us, rfl, h1, h2⟩ := see_T k (m := .f (.tup xs)) rfl sm
      obtain ⟨b, ws, rfl, h3, h4⟩ := see_T k (m := .f (.tup ys)) rfl sn
      have l1 := reps_len h2
      have l2 := reps_len h4
      refine .inr ⟨a, b, us, ws, rfl, rfl, h1, h3, by rw [l1, l2, sizeLine_eq]; exact hl, fun e => ?_, fun e e2 => ?_, fun e e2 p hp => ?_⟩
      · subst e
        have e : xs = [] := by
          cases xs with
          | nil => rfl
          | cons x r => cases l1
        subst e
        exact q.1 _ (see_v sn)
      · subst e2
        have e : ys = [] := by
          cases ys with
          | nil => rfl
          | cons x r => cases l2
        subst e
        exact q.1 _ (by rw [List.append_nil]; exact see_v sm)
      · exact q.2 p _ hp (reps_app h2 h4)
    · cases hf
  · split at hf
    · rename_i xs ys e1 e2
      split at hf
      · rename_i hl
        cases hf
        obtain ⟨a, us, rfl, h1, h2⟩ := see_Ls k e1 sm
        obtain ⟨b, ws, rfl, h3, h4⟩ := see_Ls k e2 sn
        have l1 := reps_len h2
        have l2 := reps_len h4
        exact .inl (.inr ⟨a, b, us, ws, rfl, rfl, h1, h3, by rw [l1, l2, sizeLine_eq]; exact hl, fun p hp => q p _ hp (reps_app h2 h4)⟩)
      · cases hf
    · cases hf
end

/-! ### equality -/
mutual
def pyo : D → Option PyData
  | .non => some .none
  | .bl b => some (.bool b)
  | .int i => some (.int i)
  | .str x => some (.str x)
  | .tup xs => (pyos xs).map .tuple
  | .lst xs => (pyos xs).map .list
  | .rl xs => (pyos xs).map .list
  | _ => none
def pyos : List D → Option (List PyData)
  | [] => some []
  | d :: ds => match pyo d, pyos ds with
    | some x, some xs => some (x :: xs)
    | _, _ => none
end
def pym : M → Option PyData
  | .f d => pyo d
  | .l ds => (pyos ds).map .list
  | _ => none
section
variable {K : PySem.W.Frag} {mg : Mg} {F H : Hp}
mutual
theorem dp_of (e : Ex F H) : ∀ (d : D) (p : PyData) (v : V), pyo d = some p → rep K mg F d v → Dp K H v p
  | .non, _, _, h, r => by
    cases h
    obtain rfl : _ = V.non := r
    exact .non
  | .bl b, _, _, h, r => by
    cases h
    obtain rfl : _ = V.bl b := r
    exact .bl b
  | .int i, _, _, h, r => by
    cases h
    obtain rfl : _ = V.int i := r
    exact .int i
  | .str x, _, _, h, r => by
    cases h
    obtain rfl : _ = V.str x := r
    exact .str x
  | .tup ds, p, _, h, r => by
    unfold pyo at h
    cases hp : pyos ds with
    | none => rw [hp] at h; cases h
    | some ps =>
      rw [hp] at h
      cases h
      obtain ⟨a, us, rfl, h1, h2⟩ := r
      exact .tup (sqT_ex e h1) (dps_of e ds ps us hp h2)
  | .lst ds, p, _, h, r => by
    unfold pyo at h
    cases hp : pyos ds with
    | none => rw [hp] at h; cases h
    | some ps =>
      rw [hp] at h
      cases h
      obtain ⟨a, us, rfl, h1, h2⟩ := r
      exact .lst (.inl (.inl (e _ _ h1))) (dps_of e ds ps us hp h2)
  | .rl ds, p, _, h, r => by
    unfold pyo at h
    cases hp : pyos ds with
    | none => rw [hp] at h; cases h
    | some ps =>
      rw [hp] at h
      cases h
      obtain ⟨a, us, rfl, h1, h2⟩ := r
      exact .lst (sqL_ex e h1) (dps_of e ds ps us hp h2)
  | .ty _, _, _, h, _ => by cases h
  | .adr _, _, _, h, _ => by cases h
  | .dic _, _, _, h, _ => by cases h
  | .ins _ _, _, _, h, _ => by cases h
theorem dps_of (e : Ex F H) : ∀ (ds : List D) (ps : List PyData) (us : List V), pyos ds = some ps → reps K mg F ds us → DpAll K H us ps
  | [], _, _, h, r => by
    cases h
    obtain rfl : _ = [] := r
    exact .nil
  | d :: ds, ps, _, h, r => by
    unfold pyos at h
    cases h1 : pyo d with
    | none => simp only [h1] at h; cases h
    | some x =>
      cases h2 : pyos ds with
      | none => simp only [h1, h2] at h; cases h
      | some xs =>
        simp only [h1, h2] at h
        cases h
        obtain ⟨v, w, rfl, r1, r2⟩ := r
        exact .cons (dp_of e d x v h1 r1) (dps_of e ds xs w h2 r2)
end
theorem dp_see {z : Z} {m : M} {p : PyData} {v : V} (k : Ok z) (h : pym m = some p) (sn : see K mg z m v) : Dp K z.H v p := by
  obtain ⟨π, ow⟩ := sn
  cases m with
  | f d => exact dp_of k.ex d p v h ow
  | l ds =>
    have h : (pyos ds).map PyData.list = some p := h
    cases hp : pyos ds with
    | none => rw [hp] at h; cases h
    | some ps =>
      rw [hp] at h
      cases h
      obtain ⟨a, us, rfl, h1, _, h2⟩ := ow
      exact .lst (.inl (.inl h1)) (dps_of k.ex ds ps us hp h2)
  | d ds => cases h
  | o c ds => cases h
  | p j => cases h
def fEqB (neg : Bool) : M → M → Option Rs := fun m n => match pym m, pym n with
  | some p, some q => if SeqAt.shaped p && SeqAt.shaped q then some (.sc (.bl (if neg then !PyData.eqv p q else PyData.eqv p q))) else none
  | _, _ => none
abbrev fEq := fEqB false
abbrev fNe := fEqB true
theorem op2_eq : Op2 K mg (rEqD K) fEq := by
  intro z m n v w rs Q k sm sn hf q
  unfold fEq fEqB at hf
  split at hf
  · rename_i p1 p2 e1 e2
    split at hf
    · rename_i hs
      cases hf
      rw [Bool.and_eq_true] at hs
      exact ⟨p1, p2, dp_see k e1 sm, dp_see k e2 sn, hs.1, hs.2, q _ rfl⟩
    · cases hf
  · cases hf
theorem op2_ne : Op2 K mg (rNeD K) fNe := by
  intro z m n v w rs Q k sm sn hf q
  unfold fNe fEqB at hf
  split at hf
  · rename_i p1 p2 e1 e2
    split at hf
    · rename_i hs
      cases hf
      rw [Bool.and_eq_true] at hs
      exact ⟨p1, p2, dp_see k e1 sm, dp_see k e2 sn, hs.1, hs.2, q _ rfl⟩
    · cases hf
  · cases hf
/-- is None -/
def isN : M → Option Bool
  | .f .non => some true
  | .f _ => some false
  | .l _ => some false
  | .d _ => some false
  | .o _ _ => some false
  | .p _ => none
def fIsN (neg : Bool) : M → M → Option Rs := fun m n => match n with
  | .f .non => (isN m).map fun b => .sc (.bl (if neg then !b else b))
  | _ => none
theorem isN_ok {z : Z} {m : M} {b : Bool} {v : V} (h : isN m = some b) (sn : see K mg z m v) : decide (v = .non) = b := by
  obtain ⟨π, ow⟩ := sn
  have nr : ∀ a, decide (V.ref a = .non) = false := fun a => decide_eq_false fun e => by cases e
  unfold isN at h
  split at h
  · cases h
    exact decide_eq_true ow
  · rename_i d hd
    cases h
    cases d with
    | non => exact absurd rfl hd
    | bl b => obtain rfl : v = _ := ow; exact decide_eq_false fun e => by cases e
    | int b => obtain rfl : v = _ := ow; exact decide_eq_false fun e => by cases e
    | str b => obtain rfl : v = _ := ow; exact decide_eq_false fun e => by cases e
    | ty b => obtain rfl : v = _ := ow; exact decide_eq_false fun e => by cases e
    | adr b => obtain rfl : v = _ := ow; exact nr _
    | tup b => obtain ⟨a, _, rfl, _⟩ := ow; exact nr _
    | lst b => obtain ⟨a, _, rfl, _⟩ := ow; exact nr _
    | rl b => obtain ⟨a, _, rfl, _⟩ := ow; exact nr _
    | dic b => obtain ⟨a, _, rfl, _⟩ := ow; exact nr _
    | ins b c => obtain ⟨a, _, _, _, rfl, _⟩ := ow; exact nr _
    | exc a b c => obtain ⟨rfl, _⟩ := ow; exact nr _
  · cases h; obtain ⟨a, _, rfl, _⟩ := ow; exact nr _
  · cases h; obtain ⟨a, _, rfl, _⟩ := ow; exact nr _
  · cases h; obtain ⟨a, _, _, _, rfl, _⟩ := ow; exact nr _
  · cases h
theorem op2_isN : Op2 K mg (fun x y H Q => y = .non ∧ Q (.bl (decide (x = .non))) H) (fIsN false) := by
  intro z m n v w rs Q k sm sn hf q
  unfold fIsN at hf
  split at hf
  · cases hb : isN m with
    | none => rw [hb] at hf; cases hf
    | some b =>
      rw [hb] at hf
      cases hf
      refine ⟨see_v sn, ?_⟩
      rw [isN_ok hb sm]
      exact q _ rfl
  · cases hf
theorem op2_notN : Op2 K mg (fun x y H Q => y = .non ∧ Q (.bl (!decide (x = .non))) H) (fIsN true) := by
  intro z m n v w rs Q k sm sn hf q
  unfold fIsN at hf
  split at hf
  · cases hb : isN m with
    | none => rw [hb] at hf; cases hf
    | some b =>
      rw [hb] at hf
      cases hf
      refine ⟨see_v sn, ?_⟩
      rw [isN_ok hb sm]
      exact q _ rfl
  · cases hf

/-! ### in -/
def flD : D → Option V
  | .non => some .non
  | .bl b => some (.bl b)
  | .int i => some (.int i)
  | .str x => some (.str x)
  | _ => none
def flDs : List D → Option (List V)
  | [] => some []
  | d :: ds => match flD d, flDs ds with
    | some v, some vs => some (v :: vs)
    | _, _ => none
theorem flD_ok {d : D} {u v : V} (h : flD d = some u) (r : rep K mg F d v) : v = u ∧ flatV u = true := by
  cases d with
  | non => cases h; exact ⟨r, rfl⟩
  | bl b => cases h; exact ⟨r, rfl⟩
  | int b => cases h; exact ⟨r, rfl⟩
  | str b => cases h; exact ⟨r, rfl⟩
  | _ => cases h
theorem flDs_ok : ∀ {ds : List D} {us vs : List V}, flDs ds = some us → reps K mg F ds vs → vs = us ∧ us.all flatV = true
  | [], _, _, h, r => by
    cases h
    exact ⟨r, rfl⟩
  | d :: ds, us, _, h, r => by
    unfold flDs at h
    cases h1 : flD d with
    | none => simp only [h1] at h; cases h
    | some x =>
      cases h2 : flDs ds with
      | none => simp only [h1, h2] at h; cases h
      | some xs =>
        simp only [h1, h2] at h
        cases h
        obtain ⟨v, w, rfl, r1, r2⟩ := r
        obtain ⟨rfl, f1⟩ := flD_ok h1 r1
        obtain ⟨rfl, f2⟩ := flDs_ok h2 r2
        exact ⟨rfl, by rw [List.all_cons, f1, f2]; rfl⟩
/-- x in a list or tuple of flat things, or of data in a list; one sign in a text -/
def fInB (neg : Bool) : M → M → Option Rs := fun m n => match m, n with
  | .f (.str x), .f (.str y) => (match x.cps.toList with
    | [c] => some (.sc (.bl (if neg then !decide (c ∈ y.cps.toList) else decide (c ∈ y.cps.toList))))
    | _ => none)
  | m, n => match asS n with
    | some ds => (match m with
      | .f d => (match flD d, flDs ds with
        | some x, some xs => some (.sc (.bl (if neg then !inV x xs else inV x xs)))
        | _, _ => (match asL n, pyo d, pyos ds with
          | some _, some p, some ps => if SeqAt.shaped p && SeqAt.shaped (.list ps) then some (.sc (.bl (if neg then !ps.any (fun z => PyData.eqv z p) else ps.any (fun z => PyData.eqv z p)))) else none
          | _, _, _ => none))
      | _ => none)
    | none => none
abbrev fIn := fInB false
abbrev fNotIn := fInB true
def rInA (K : PySem.W.Frag) (neg : Bool) : R2 := fun x y H Q => (rIn K neg x y H Q ∨ (∃ d ds, Dp K H x d ∧ Dp K H y (.list ds) ∧ SeqAt.shaped d = true ∧ SeqAt.shaped (.list ds) = true ∧ Q (.bl (if neg then !ds.any fun z => PyData.eqv z d else ds.any fun z => PyData.eqv z d)) H)) ∨
  ∃ (c : Nat) (z : Str), x = .str ⟨#[c]⟩ ∧ y = .str z ∧ Q (.bl (if neg then !decide (c ∈ z.cps.toList) else decide (c ∈ z.cps.toList))) H
theorem op_inA {X : Cx} (hu : X.A.units + 65 < cLine) : OpR X (compareOp .In) (rInA X.K false) := opR_or (opR_or op_in_seq (op_inD hu)) op_in_sign
theorem op_notInA {X : Cx} (hu : X.A.units + 65 < cLine) : OpR X (compareOp .NotIn) (rInA X.K true) := opR_or (opR_or op_notIn_seq (op_notInD hu)) op_notIn_sign
theorem asL_S {n : M} {ds es : List D} (h : asL n = some ds) (h' : asS n = some es) : ds = es := by
  unfold asL at h
  unfold asS at h'
  cases n with
  | f d => cases d <;> simp_all
  | l d => simp_all
  | _ => simp_all
theorem op2_in {neg : Bool} : Op2 K mg (rInA K neg) (fInB neg) := by
  intro z m n v w rs Q k sm sn hf q
  unfold fInB at hf
  split at hf
  · rename_i x y
    split at hf
    · rename_i c hc
      cases hf
      have ex : x = ⟨#[c]⟩ := by
        cases x with
        | mk a =>
          have : a = #[c] := by
            apply Array.toList_inj.mp
            exact hc
          rw [this]
      exact .inr ⟨c, y, by rw [← ex]; exact see_v sm, see_v sn, q _ rfl⟩
    · cases hf
  · split at hf
    · rename_i ds hS
      split at hf
      · rename_i d hno
        obtain ⟨a, us, rfl, hq, hr⟩ := see_S k hS sn
        split at hf
        · rename_i x xs h1 h2
          cases hf
          obtain ⟨rfl, f1⟩ := flD_ok h1 (see_v sm)
          obtain ⟨rfl, f2⟩ := flDs_ok h2 hr
          exact .inl (.inl ⟨a, us, rfl, hq, f1, f2, q _ rfl⟩)
        · split at hf
          · rename_i es p ps h0 h1 h2
            split at hf
            · rename_i hs
              cases hf
              rw [Bool.and_eq_true] at hs
              obtain ⟨b, ws, e, hq', hr'⟩ := see_L k h0 sn
              cases e
              have e := asL_S h0 hS
              subst e
              exact .inl (.inr ⟨p, ps, dp_of k.ex d p v h1 (see_v sm), .lst hq' (dps_of k.ex es ps ws h2 hr'), hs.1, hs.2, q _ rfl⟩)
            · cases hf
          · cases hf
      · cases hf
    · cases hf
end

/-! ### items, length, truth -/
section
variable {K : PySem.W.Frag} {mg : Mg}
theorem atI_reps {F : Hp} {ds : List D} {us : List V} {i : Int} {d : D} (r : reps K mg F ds us) (h : atI ds i = some d) : ∃ v, atI us i = some v ∧ rep K mg F d v := by
  unfold atI at h ⊢
  rw [reps_len r]
  cases hi : ixN ds.length i with
  | none => rw [hi] at h; cases h
  | some j =>
    rw [hi] at h
    exact reps_get r h
def fIx : M → M → Option Rs := fun m n => match n with
  | .f (.int i) => (match m with
    | .f (.str x) => if x.length ≤ 16777216 then (atI x.cps.toList i).map fun c => .sc (.str ⟨#[c]⟩) else none
    | m => match asS m with
      | some ds => (atI ds i).map .sc
      | none => none)
  | _ => none
theorem op2_ix : Op2 K mg (rIx K) fIx := by
  intro z m n v w rs Q k sm sn hf q
  unfold fIx at hf
  split at hf
  · rename_i i
    split at hf
    · rename_i x
      split at hf
      · rename_i hl
        cases hc : atI x.cps.toList i with
        | none => rw [hc] at hf; cases hf
        | some c =>
          rw [hc] at hf
          cases hf
          exact .inr (.inr ⟨x, i, c, see_v sm, see_v sn, by rw [sizeLine_eq]; exact hl, hc, q _ rfl⟩)
      · cases hf
    · split at hf
      · rename_i ds hS
        cases hd : atI ds i with
        | none => rw [hd] at hf; cases hf
        | some d =>
          rw [hd] at hf
          cases hf
          obtain ⟨a, us, rfl, hq, hr⟩ := see_S k hS sm
          obtain ⟨u, h1, h2⟩ := atI_reps hr hd
          rcases hq with hq | hq
          · exact .inl ⟨a, us, i, u, rfl, see_v sn, hq, h1, q _ h2⟩
          · exact .inr (.inl ⟨a, us, i, u, rfl, see_v sn, hq, h1, q _ h2⟩)
      · cases hf
  · cases hf
def fLen : List M → Option Rs
  | [m] => (match m with
    | .f (.str x) => if x.length ≤ 16777216 then some (.sc (.int x.length)) else none
    | m => (asS m).map fun ds => .sc (.int ds.length))
  | _ => none
theorem opL_len : OpL K mg (fun xs H Q => ∃ x n, xs = [x] ∧ LenV K x H n ∧ Q (.int n) H) fLen := by
  intro z ms us rs Q k sn hf q
  unfold fLen at hf
  split at hf
  · rename_i m
    obtain ⟨v, rfl, sm⟩ := sees1 sn
    split at hf
    · rename_i x
      split at hf
      · rename_i hl
        cases hf
        obtain rfl : v = .str x := see_v sm
        exact ⟨_, x.length, rfl, ⟨by rw [sizeLine_eq]; exact hl, rfl⟩, q _ rfl⟩
      · cases hf
    · cases hS : asS m with
      | none => rw [hS] at hf; cases hf
      | some ds =>
        rw [hS] at hf
        cases hf
        obtain ⟨a, us, rfl, hq, hr⟩ := see_S k hS sm
        have l := reps_len hr
        rcases hq with hq | hq
        · exact ⟨_, us.length, rfl, .inl ⟨us, hq, rfl⟩, by rw [l]; exact q _ rfl⟩
        · exact ⟨_, us.length, rfl, .inr ⟨us, hq, rfl⟩, by rw [l]; exact q _ rfl⟩
  · cases hf
/-- a thing's truth -/
def tru : M → Option Bool
  | .f .non => some false
  | .f (.bl b) => some b
  | .f (.int i) => some (i != 0)
  | .f (.str x) => if x.length ≤ 16777216 then some ((x.length : Int) != 0) else none
  | .f (.dic kvs) => some (!kvs.isEmpty)
  | .d kvs => some (!kvs.isEmpty)
  | m => (asS m).map fun ds => !ds.isEmpty
theorem emp_reps {F : Hp} {ds : List D} {us : List V} (r : reps K mg F ds us) : (!us.isEmpty) = !ds.isEmpty := by
  have l := reps_len r
  cases us <;> cases ds <;> simp_all
theorem repk_len {F : Hp} : ∀ {ds : List (Key × D)} {us : List (Key × V)}, repk K mg F ds us → us.length = ds.length
  | [], _, h => by
    have h : _ = [] := h
    rw [h]; rfl
  | (k, d) :: ds, _, h => by
    obtain ⟨v, r, e1, _, h2⟩ := h
    rw [e1, List.length_cons, List.length_cons, repk_len h2]
theorem tru_ok' {z : Z} {m : M} {b : Bool} {v : V} (k : Ok z) (h : tru m = some b) (sn : see K mg z m v) : TruV K v z.H b := by
  unfold tru at h
  split at h
  · cases h
    obtain rfl : v = .non := see_v sn
    rfl
  · cases h
    obtain rfl : v = .bl b := see_v sn
    rfl
  · rename_i i
    cases h
    obtain rfl : v = .int i := see_v sn
    rfl
  · rename_i x
    split at h
    · rename_i hl
      cases h
      obtain rfl : v = .str x := see_v sn
      exact ⟨by rw [sizeLine_eq]; exact hl, rfl⟩
    · cases h
  · rename_i kvs
    cases h
    obtain ⟨a, us, rfl, h1, h2⟩ := see_K k (m := .f (.dic kvs)) rfl sn
    have l := repk_len h2
    refine .inr (.inr ⟨us, h1, ?_⟩)
    cases us <;> cases kvs <;> simp_all
  · rename_i kvs
    cases h
    obtain ⟨a, us, rfl, h1, h2⟩ := see_K k (m := .d kvs) rfl sn
    have l := repk_len h2
    refine .inr (.inr ⟨us, h1, ?_⟩)
    cases us <;> cases kvs <;> simp_all
  · cases hS : asS m with
    | none => rw [hS] at h; cases h
    | some ds =>
      rw [hS] at h
      cases h
      obtain ⟨a, us, rfl, hq, hr⟩ := see_S k hS sn
      rcases hq with hq | hq
      · exact .inl ⟨us, hq, (emp_reps hr).symm⟩
      · exact .inr (.inl ⟨us, hq, (emp_reps hr).symm⟩)
end
end Dn
end

section
set_option Elab.async false
set_option linter.all false
set_option maxRecDepth 100000
set_option maxHeartbeats 4000000
/-! DnF: tests, and, or, if as expressions; statements; a def's promise; calls -/
namespace Dn
open PySem PySem.Spec PyProof.Rows L2
variable [Tb]

/-! ### tests -/
section
variable {X : Cx} {W : WX} {vs : List V}
/-- a thing's truth -/
def tO (o : Env → Re Ref) : Env → Re Bool := fun s => match o s with
  | .ok r s1 => (match rv s1 r with
    | some m => (match tru m with
      | some b => .ok b (s1.take s.length)
      | none => .bad)
    | none => .bad)
  | .ex e s1 => .ex e (s1.take s.length)
  | .bad => .bad
theorem ple_take {s s1 : Env} (pl : Ple s1 s) : Ple (s1.take s.length) s := fun i j e => by
  by_cases hi : i < s.length
  · rw [List.getElem?_take_of_lt hi] at e
    exact pl i j e
  · rw [List.getElem?_take_eq_none (by omega)] at e; cases e
theorem t_O {e : Expr} {o : Env → Re Ref} (h : OM X W vs e o) (he : ∀ whole, isTrue e X.env whole = (do let v ← whole; standAt e.pos; holding [v] (truthy v)) := by intro _; rfl) : TM X W vs e (tO o) := wkT (pt_truth h he) fun σ H Q _ h => by
  obtain ⟨z, s, ext, hz, R, q⟩ := h
  refine ⟨z, s, ext, hz, R, ?_⟩
  unfold tO at q
  cases ho : o s with
  | bad => simp only [ho] at q
  | ex e s1 =>
    simp only [ho] at q
    exact fun cls dd z' more st pl R' x => fin_ex R R' st pl x q
  | ok r s1 =>
    simp only [ho] at q
    intro v z1 more st pl R1 rf
    cases hm : rv s1 r with
    | none => simp only [hm] at q
    | some m =>
      cases hb : tru m with
      | none => simp only [hm, hb] at q
      | some b =>
        simp only [hm, hb] at q
        exact ⟨b, tru_ok' R1.ok hb (rv_see R1 hm rf), q z1 st (ple_take pl) (R1.pop R fun i j _ e => pl i j e)⟩
def tPt (d : Env → Option M) : Env → Re Bool := fun s => match d s with
  | some m => (match tru m with
    | some b => .ok b s
    | none => .bad)
  | none => .bad
theorem t_P {e : Expr} {d : Env → Option M} (h : PM X vs e d) (he : ∀ whole, isTrue e X.env whole = (do let v ← whole; standAt e.pos; holding [v] (truthy v)) := by intro _; rfl) : TM X W vs e (tPt d) := wkT (pt_truth h he) fun σ H Q _ h => by
  obtain ⟨z, s, ext, hz, R, q⟩ := h
  unfold tPt at q
  subst hz
  cases hd : d s with
  | none => simp only [hd] at q
  | some m =>
    cases hb : tru m with
    | none => simp only [hd, hb] at q
    | some b =>
      simp only [hd, hb] at q
      exact ⟨z, s, ext, rfl, R, m, hd, fun v sn => ⟨b, tru_ok' R.ok hb sn, q z (Stp.refl z) (Ple.refl s) R⟩⟩
/-- a comparison -/
def tB2 (d : Env → Re M) : Env → Re Bool := fun s => match d s with
  | .ok (.f (.bl b)) s1 => .ok b s1
  | .ok _ _ => .bad
  | .ex e s1 => .ex e s1
  | .bad => .bad
theorem tB2_E {K : PySem.W.Frag} {mg : Mg} {d : Env → Re M} {σ : L2.St} {H : Hp} {Q : Bool → Hp → Prop} (h : rdT K mg W vs (tB2 d) σ H Q) : rdE K mg W vs d σ H fun x H1 => ∃ k, x = .bl k ∧ Q k H1 := by
  obtain ⟨z, s, ext, hz, R, q⟩ := h
  refine ⟨z, s, ext, hz, R, ?_⟩
  unfold tB2 at q
  cases hd : d s with
  | bad => simp only [hd] at q
  | ex e s1 =>
    simp only [hd] at q
    exact q
  | ok m s1 =>
    intro v z1 st pl R1 ow
    cases m with
    | f x =>
      cases x with
      | bl b =>
        simp only [hd] at q
        exact ⟨b, ow, q z1 st pl R1⟩
      | _ => simp only [hd] at q
    | _ => simp only [hd] at q
def tBp (d : Env → Option M) : Env → Re Bool := fun s => match d s with
  | some (.f (.bl b)) => .ok b s
  | _ => .bad
theorem tBp_P {K : PySem.W.Frag} {mg : Mg} {d : Env → Option M} {σ : L2.St} {H : Hp} {Q : Bool → Hp → Prop} (h : rdT K mg W vs (tBp d) σ H Q) : rdP K mg vs d σ H fun x H1 => ∃ k, x = .bl k ∧ Q k H1 := by
  obtain ⟨z, s, ext, hz, R, q⟩ := h
  unfold tBp at q
  subst hz
  cases hd : d s with
  | none => simp only [hd] at q
  | some m =>
    cases m with
    | f x =>
      cases x with
      | bl b =>
        simp only [hd] at q
        exact ⟨z, s, ext, rfl, R, _, hd, fun v sn => ⟨b, see_v sn, q z (Stp.refl z) (Ple.refl s) R⟩⟩
      | _ => simp only [hd] at q
    | _ => simp only [hd] at q
section
variable {a b : Expr} {pos : Pos} {op : CmpOp} {r : R2} {f : M → M → Option Rs} {pa pb : Env → Option M} {oa ob : Env → Re Ref}
theorem t_cmp (ho : OpR X (compareOp op) r) (hr : Op2 X.K X.mg r f) (ha : OM X W vs a oa) (hb : OM X W vs b ob) (hm : behindInMarks op b = false) : TM X W vs (.Compare a [op] [b] pos) (tB2 (cE2 f oa ob)) :=
  wkT (pt_cmpR ho ha hb hm) fun σ H Q _ h => tE2 hr (tB2_E h)
theorem t_cmpP (ho : OpR X (compareOp op) r) (hr : Op2 X.K X.mg r f) (ha : PM X vs a pa) (hb : PM X vs b pb) (hm : behindInMarks op b = false) : TM X W vs (.Compare a [op] [b] pos) (tBp (cP2 f pa pb)) :=
  wkT (pt_cmpR ho ha hb hm) fun σ H Q _ h => tP2 hr (tBp_P h)
end
def tN (t : Env → Re Bool) : Env → Re Bool := fun s => match t s with
  | .ok b s1 => .ok (!b) s1
  | .ex e s1 => .ex e s1
  | .bad => .bad
theorem t_not {a : Expr} {pos : Pos} {t : Env → Re Bool} (h : TM X W vs a t) : TM X W vs (.UnaryOp .Not a pos) (tN t) := wkT (pt_not h) fun σ H Q _ h => by
  obtain ⟨z, s, ext, hz, R, q⟩ := h
  refine ⟨z, s, ext, hz, R, ?_⟩
  unfold tN at q
  cases ht : t s with
  | bad => simp only [ht] at q
  | ex e s1 =>
    simp only [ht] at q
    exact q
  | ok b s1 =>
    simp only [ht] at q
    exact q
def tA (t u : Env → Re Bool) : Env → Re Bool := fun s => match t s with
  | .ok true s1 => u s1
  | .ok false s1 => .ok false s1
  | .ex e s1 => .ex e s1
  | .bad => .bad
def tOr (t u : Env → Re Bool) : Env → Re Bool := fun s => match t s with
  | .ok true s1 => .ok true s1
  | .ok false s1 => u s1
  | .ex e s1 => .ex e s1
  | .bad => .bad
abbrev WM (X : Cx) (W : WX) (vs : List V) (e : Expr) (d : Env → Re Bool) : Prop := PW X e (rdT X.K X.mg W vs d)
theorem wkW {e : Expr} {t t' : TT} (h : PW X e t) (k : ∀ σ H Q, t' σ H Q → t σ H Q) : PW X e t' := ⟨fun w pins s σ H Q I q => h.run w pins s σ H Q I (k σ H Q q)⟩
theorem w_and1 {a : Expr} {pos : Pos} {t : Env → Re Bool} (h : TM X W vs a t) : WM X W vs (.BoolOp .And [a] pos) t := pw_and1 h
theorem w_or1 {a : Expr} {pos : Pos} {t : Env → Re Bool} (h : TM X W vs a t) : WM X W vs (.BoolOp .Or [a] pos) t := pw_or1 h
theorem then_T {K : PySem.W.Frag} {mg : Mg} {u : Env → Re Bool} {z z1 : Z} {s s1 : Env} {ext : List V} {σ : L2.St} {Q : Bool → Hp → Prop} (st : Stp z z1) (pl : Ple s1 s) (R1 : Rl K mg z1 s1 vs σ ext)
    (q : match u s1 with
      | .ok b s' => ∀ z', Stp z z' → Ple s' s → Rl K mg z' s' vs σ ext → Q b z'.H
      | .ex e s' => exQ K mg W z s vs ext σ e s'
      | .bad => False) : rdT K mg W vs u σ z1.H Q := by
  refine ⟨z1, s1, ext, rfl, R1, ?_⟩
  cases hu : u s1 with
  | bad => simp only [hu] at q
  | ex e s2 =>
    simp only [hu] at q
    exact exQ_on st pl q
  | ok b s2 =>
    simp only [hu] at q
    exact fun z2 st2 pl2 R2 => q z2 (st.trans st2) (pl2.trans pl) R2
theorem w_and {a b : Expr} {rest : List Expr} {pos : Pos} {t u : Env → Re Bool} (h : TM X W vs a t) (h2 : WM X W vs (.BoolOp .And (b :: rest) pos) u) : WM X W vs (.BoolOp .And (a :: b :: rest) pos) (tA t u) := wkW (pw_and h h2) fun σ H Q h => by
  obtain ⟨z, s, ext, hz, R, q⟩ := h
  refine ⟨z, s, ext, hz, R, ?_⟩
  unfold tA at q
  cases ht : t s with
  | bad => simp only [ht] at q
  | ex e s1 =>
    simp only [ht] at q
    exact q
  | ok c s1 =>
    intro z1 st pl R1
    cases c with
    | true =>
      simp only [ht] at q
      show rdT X.K X.mg W vs u σ z1.H Q
      exact then_T st pl R1 q
    | false =>
      simp only [ht] at q
      exact q z1 st pl R1
theorem w_or {a b : Expr} {rest : List Expr} {pos : Pos} {t u : Env → Re Bool} (h : TM X W vs a t) (h2 : WM X W vs (.BoolOp .Or (b :: rest) pos) u) : WM X W vs (.BoolOp .Or (a :: b :: rest) pos) (tOr t u) := wkW (pw_or h h2) fun σ H Q h => by
  obtain ⟨z, s, ext, hz, R, q⟩ := h
  refine ⟨z, s, ext, hz, R, ?_⟩
  unfold tOr at q
  cases ht : t s with
  | bad => simp only [ht] at q
  | ex e s1 =>
    simp only [ht] at q
    exact q
  | ok c s1 =>
    intro z1 st pl R1
    cases c with
    | false =>
      simp only [ht] at q
      show rdT X.K X.mg W vs u σ z1.H Q
      exact then_T st pl R1 q
    | true =>
      simp only [ht] at q
      exact q z1 st pl R1
theorem t_W {e : Expr} {t : Env → Re Bool} (h : WM X W vs e t) : TM X W vs e t := h.pt

/-! ### and, or, not, if as values -/
theorem then_E {K : PySem.W.Frag} {mg : Mg} {u : Env → Re M} {z z1 : Z} {s s1 : Env} {ext : List V} {σ : L2.St} {Q : VK} (st : Stp z z1) (pl : Ple s1 s) (R1 : Rl K mg z1 s1 vs σ ext)
    (q : match u s1 with
      | .ok m s' => ∀ v z', Stp z z' → Ple s' s → Rl K mg z' s' vs σ ext → own K mg z' (none, []) m v → Q v z'.H
      | .ex e s' => exQ K mg W z s vs ext σ e s'
      | .bad => False) : rdE K mg W vs u σ z1.H Q := by
  refine ⟨z1, s1, ext, rfl, R1, ?_⟩
  cases hu : u s1 with
  | bad => simp only [hu] at q
  | ex e s2 =>
    simp only [hu] at q
    exact exQ_on st pl q
  | ok b s2 =>
    simp only [hu] at q
    exact fun v z2 st2 pl2 R2 => q v z2 (st.trans st2) (pl2.trans pl) R2
def cAndV (a b : Env → Re M) : Env → Re M := fun s => match a s with
  | .ok (.f (.bl true)) s1 => b s1
  | .ok (.f (.bl false)) s1 => .ok (.f (.bl false)) s1
  | .ok _ _ => .bad
  | .ex e s1 => .ex e s1
  | .bad => .bad
def cOrV (a b : Env → Re M) : Env → Re M := fun s => match a s with
  | .ok (.f (.bl true)) s1 => .ok (.f (.bl true)) s1
  | .ok (.f (.bl false)) s1 => b s1
  | .ok _ _ => .bad
  | .ex e s1 => .ex e s1
  | .bad => .bad
theorem e_one {op : BoolOp} {a : Expr} {pos : Pos} {d : Env → Re M} (h : EM X W vs a d) : EM X W vs (.BoolOp op [a] pos) d := pe_one h
theorem e_and {a b : Expr} {rest : List Expr} {pos : Pos} {da db : Env → Re M} (h : EM X W vs a da) (h2 : EM X W vs (.BoolOp .And (b :: rest) pos) db) : EM X W vs (.BoolOp .And (a :: b :: rest) pos) (cAndV da db) := wkE (pe_and h h2) fun σ H Q _ h => by
  obtain ⟨z, s, ext, hz, R, q⟩ := h
  refine ⟨z, s, ext, hz, R, ?_⟩
  unfold cAndV at q
  cases ht : da s with
  | bad => simp only [ht] at q
  | ex e s1 =>
    simp only [ht] at q
    exact q
  | ok m s1 =>
    intro v z1 st pl R1 ow
    cases m with
    | f x =>
      cases x with
      | bl c =>
        refine ⟨c, ow, ?_⟩
        cases c with
        | true =>
          simp only [ht] at q
          rw [if_pos rfl]
          exact then_E st pl R1 q
        | false =>
          simp only [ht] at q
          rw [if_neg Bool.false_ne_true]
          exact q _ z1 st pl R1 rfl
      | _ => simp only [ht] at q
    | _ => simp only [ht] at q
theorem e_or {a b : Expr} {rest : List Expr} {pos : Pos} {da db : Env → Re M} (h : EM X W vs a da) (h2 : EM X W vs (.BoolOp .Or (b :: rest) pos) db) : EM X W vs (.BoolOp .Or (a :: b :: rest) pos) (cOrV da db) := wkE (pe_or h h2) fun σ H Q _ h => by
  obtain ⟨z, s, ext, hz, R, q⟩ := h
  refine ⟨z, s, ext, hz, R, ?_⟩
  unfold cOrV at q
  cases ht : da s with
  | bad => simp only [ht] at q
  | ex e s1 =>
    simp only [ht] at q
    exact q
  | ok m s1 =>
    intro v z1 st pl R1 ow
    cases m with
    | f x =>
      cases x with
      | bl c =>
        refine ⟨c, ow, ?_⟩
        cases c with
        | false =>
          simp only [ht] at q
          rw [if_neg Bool.false_ne_true]
          exact then_E st pl R1 q
        | true =>
          simp only [ht] at q
          rw [if_pos rfl]
          exact q _ z1 st pl R1 rfl
      | _ => simp only [ht] at q
    | _ => simp only [ht] at q
def cNotV (a : Env → Re M) : Env → Re M := fun s => match a s with
  | .ok (.f (.bl b)) s1 => .ok (.f (.bl (!b))) s1
  | .ok _ _ => .bad
  | .ex e s1 => .ex e s1
  | .bad => .bad
theorem e_not {a : Expr} {pos : Pos} {da : Env → Re M} (h : EM X W vs a da) : EM X W vs (.UnaryOp .Not a pos) (cNotV da) := wkE (pe_not h) fun σ H Q _ h => by
  obtain ⟨z, s, ext, hz, R, q⟩ := h
  refine ⟨z, s, ext, hz, R, ?_⟩
  unfold cNotV at q
  cases ht : da s with
  | bad => simp only [ht] at q
  | ex e s1 =>
    simp only [ht] at q
    exact q
  | ok m s1 =>
    intro v z1 st pl R1 ow
    cases m with
    | f x =>
      cases x with
      | bl c =>
        simp only [ht] at q
        exact ⟨c, ow, q _ z1 st pl R1 rfl⟩
      | _ => simp only [ht] at q
    | _ => simp only [ht] at q
def cIf (t : Env → Re Bool) (a b : Env → Re M) : Env → Re M := fun s => match t s with
  | .ok true s1 => a s1
  | .ok false s1 => b s1
  | .ex e s1 => .ex e s1
  | .bad => .bad
theorem e_if {c a b : Expr} {pos : Pos} {t : Env → Re Bool} {da db : Env → Re M} (hc : TM X W vs c t) (ha : EM X W vs a da) (hb : EM X W vs b db) : EM X W vs (.IfExp c a b pos) (cIf t da db) := wkE (pe_ifExp hc ha hb) fun σ H Q _ h => by
  obtain ⟨z, s, ext, hz, R, q⟩ := h
  refine ⟨z, s, ext, hz, R, ?_⟩
  unfold cIf at q
  cases ht : t s with
  | bad => simp only [ht] at q
  | ex e s1 =>
    simp only [ht] at q
    exact q
  | ok c s1 =>
    intro z1 st pl R1
    cases c with
    | true =>
      simp only [ht] at q
      rw [if_pos rfl]
      exact then_E st pl R1 q
    | false =>
      simp only [ht] at q
      rw [if_neg Bool.false_ne_true]
      exact then_E st pl R1 q
end

/-! ### statements -/
inductive Out where
  | nx (s : Env) | bk (s : Env) | ct (s : Env) | rt (m : M) (s : Env) | ex (e : Exn) (s : Env) | bad
section
variable (K : PySem.W.Frag) (mg : Mg)
def nxQ (z : Z) (s : Env) (vs ext : List V) (n : Nat) (s' : Env) (Q : L2.St → Hp → Prop) : Prop := ∀ σ' z', σ'.length = n → Stp z z' → Ple s' s → Rl K mg z' s' vs σ' ext → Q σ' z'.H
def rtQ (z : Z) (s : Env) (vs ext : List V) (n : Nat) (m : M) (s' : Env) (Q : VK) : Prop := ∀ σ' v z', σ'.length = n → Stp z z' → Ple s' s → Rl K mg z' s' vs σ' ext → own K mg z' (none, []) m v → Q v z'.H
def xQ (W : WX) (z : Z) (s : Env) (vs ext : List V) (n : Nat) (e : Exn) (s' : Env) : Prop := ∀ σ' cls dd z', σ'.length = n → Stp z z' → Ple s' s → Rl K mg z' s' vs σ' ext → exn K mg z' e cls dd → W cls dd σ' z'.H
def outQ (W : WX) (D : Ends) (z : Z) (s : Env) (vs ext : List V) (n : Nat) : Out → Prop
  | .nx s' => nxQ K mg z s vs ext n s' D.nx
  | .bk s' => nxQ K mg z s vs ext n s' D.bk
  | .ct s' => nxQ K mg z s vs ext n s' D.ct
  | .rt m s' => rtQ K mg z s vs ext n m s' D.rt
  | .ex e s' => xQ K mg W z s vs ext n e s'
  | .bad => False
def rdS (W : WX) (vs : List V) (d : Env → Out) : TS := fun D σ H => ∃ z s ext, z.H = H ∧ Rl K mg z s vs σ ext ∧ outQ K mg W D z s vs ext σ.length (d s)
end
abbrev SM (X : Cx) (W : WX) (vs : List V) (st : Stmt) (d : Env → Out) : Prop := PS X st (rdS X.K X.mg W vs d)
abbrev SMs (X : Cx) (W : WX) (vs : List V) (st : List Stmt) (d : Env → Out) : Prop := PSs X st (rdS X.K X.mg W vs d)
section
variable {K : PySem.W.Frag} {mg : Mg} {z z1 : Z} {s s1 : Env} {vs ext : List V} {n : Nat} {W : WX} {D : Ends}
theorem outQ_on {o : Out} (st : Stp z z1) (pl : Ple s1 s) (q : outQ K mg W D z s vs ext n o) : outQ K mg W D z1 s1 vs ext n o := by
  cases o with
  | nx s' => exact fun σ' z' l st' pl' R => q σ' z' l (st.trans st') (pl'.trans pl) R
  | bk s' => exact fun σ' z' l st' pl' R => q σ' z' l (st.trans st') (pl'.trans pl) R
  | ct s' => exact fun σ' z' l st' pl' R => q σ' z' l (st.trans st') (pl'.trans pl) R
  | rt m s' => exact fun σ' v z' l st' pl' R => q σ' v z' l (st.trans st') (pl'.trans pl) R
  | ex e s' => exact fun σ' cls dd z' l st' pl' R => q σ' cls dd z' l (st.trans st') (pl'.trans pl) R
  | bad => exact q
theorem xQ_E {σ : L2.St} {e : Exn} {s' : Env} (h : xQ K mg W z s vs ext σ.length e s') : exQ K mg W z s vs ext σ e s' := fun cls dd z' st pl R x => h σ cls dd z' rfl st pl R x
end
section
variable {X : Cx} {W : WX} {vs : List V}
def dNx : Env → Out := fun s => .nx s
def dSeq (a b : Env → Out) : Env → Out := fun s => match a s with
  | .nx s1 => b s1
  | o => o
theorem ss_nil : SMs X W vs [] dNx := wkSs pss_nil fun D σ H _ h => by
  obtain ⟨z, s, ext, hz, R, q⟩ := h
  subst hz
  exact q σ z rfl (Stp.refl z) (Ple.refl s) R
theorem ss_cons {st : Stmt} {rest : List Stmt} {a b : Env → Out} (h : SM X W vs st a) (h2 : SMs X W vs rest b) : SMs X W vs (st :: rest) (dSeq a b) := wkSs (pss_cons h h2) fun D σ H _ h => by
  obtain ⟨z, s, ext, hz, R, q⟩ := h
  refine ⟨z, s, ext, hz, R, ?_⟩
  unfold dSeq at q
  cases ha : a s with
  | nx s1 =>
    simp only [ha] at q
    intro σ1 z1 l st pl R1
    refine ⟨z1, s1, ext, rfl, R1, ?_⟩
    rw [l]
    exact outQ_on st pl q
  | bk s1 => simp only [ha] at q; exact q
  | ct s1 => simp only [ha] at q; exact q
  | rt m s1 => simp only [ha] at q; exact q
  | ex e s1 => simp only [ha] at q; exact q
  | bad => simp only [ha] at q; exact q
theorem ss_one {st : Stmt} {a : Env → Out} (h : SM X W vs st a) : SMs X W vs [st] a := pss_one h
def dBad : Env → Out := fun _ => .bad
theorem s_bad {st : Stmt} : SM X W vs st dBad := wkS ps_never fun D σ H _ h => by
  obtain ⟨z, s, ext, hz, R, q⟩ := h
  exact q
theorem ss_bad {st : List Stmt} : SMs X W vs st dBad := wkSs pss_never fun D σ H _ h => by
  obtain ⟨z, s, ext, hz, R, q⟩ := h
  exact q
def dBk : Env → Out := fun s => .bk s
def dCt : Env → Out := fun s => .ct s
theorem s_pass {pos} : SM X W vs (.Pass pos) dNx := wkS ps_pass fun D σ H _ h => by
  obtain ⟨z, s, ext, hz, R, q⟩ := h
  subst hz
  exact q σ z rfl (Stp.refl z) (Ple.refl s) R
theorem s_break {pos} : SM X W vs (.Break pos) dBk := wkS ps_break fun D σ H _ h => by
  obtain ⟨z, s, ext, hz, R, q⟩ := h
  subst hz
  exact q σ z rfl (Stp.refl z) (Ple.refl s) R
theorem s_continue {pos} : SM X W vs (.Continue pos) dCt := wkS ps_continue fun D σ H _ h => by
  obtain ⟨z, s, ext, hz, R, q⟩ := h
  subst hz
  exact q σ z rfl (Stp.refl z) (Ple.refl s) R
/-- x = e -/
def dSet (i : Nat) (d : Env → Re M) : Env → Out := fun s => match d s with
  | .ok m s1 => .nx (s1.set i (some m))
  | .ex e s1 => .ex e s1
  | .bad => .bad
theorem s_set {i n : Nat} {x : Str} {e : Expr} {d : Env → Re M} {pos pos' : Pos} (hN : X.N.Nodup) (he : EM X W vs e d) (hi : X.N[i]? = some x := by rfl) (hx : Loc X.env.scope x := by first | exact Or.inl rfl | exact Or.inr rfl) (hn : vs.length = n := by rfl) (hs : swapsWith e (some (.Name x pos')) pos.line X.env = pure false := by rfl)
    (hf : X.fn x = true ∨ X.env.scope.names.lookup x = some .local := by first | exact .inl rfl | exact .inr rfl | assumption) : SM X W vs (.Assign [.Name x pos'] e pos) (dSet (n + i) d) := wkS (ps_set hN hi hx he hs hf) fun D σ H hl h => by
  obtain ⟨z, s, ext, hz, R, q⟩ := h
  refine ⟨z, s, ext, hz, R, ?_⟩
  unfold dSet at q
  have hi' : i < σ.length := by rw [hl]; exact (List.getElem?_eq_some_iff.mp hi).1
  cases hd : d s with
  | bad => simp only [hd] at q; exact q
  | ex e s1 =>
    simp only [hd] at q
    exact xQ_E q
  | ok m s1 =>
    simp only [hd] at q
    intro v z1 st pl R1 ow
    have P := R1.put hi' ow
    rw [hn] at P
    exact q _ (z1.rel (n + i)) (by rw [List.length_set]) (st.trans (Stp.rel _ _)) ((Ple.set fun j e => own_np ow j (Option.some.inj e)).trans pl) P
/-- x op= e, two numbers or texts -/
def dAug (i : Nat) (f : M → M → Option Rs) (d : Env → Re Ref) : Env → Out := fun s => match look s i with
  | none => .bad
  | some _ => match d s with
    | .ok r s1 => (match look s1 i, rv s1 r with
      | some m, some m2 => (match f m m2 with
        | some (.sc x) => .nx ((s1.take s.length).set i (some (.f x)))
        | _ => .bad)
      | _, _ => .bad)
    | .ex e s1 => .ex e (s1.take s.length)
    | .bad => .bad
theorem s_aug {i n : Nat} {x : Str} {e : Expr} {op : Operator} {r : R2} {f : M → M → Option Rs} {d : Env → Re Ref} {pos pos' : Pos} (hN : X.N.Nodup) (ho : PIp X op r) (hr : Op2 X.K X.mg r f) (he : OM X W vs e d) (hi : X.N[i]? = some x := by rfl) (hx : Loc X.env.scope x := by first | exact Or.inl rfl | exact Or.inr rfl) (hn : vs.length = n := by rfl)
    (hf : X.fn x = true ∨ X.env.scope.names.lookup x = some .local := by first | exact .inl rfl | exact .inr rfl | assumption) : SM X W vs (.AugAssign (.Name x pos') op e pos) (dAug (n + i) f d) := wkS (ps_aug hN hi hx he ho hf) fun D σ H hl h => by
  obtain ⟨z, s, ext, hz, R, q⟩ := h
  have hi' : i < σ.length := by rw [hl]; exact (List.getElem?_eq_some_iff.mp hi).1
  unfold dAug at q
  subst hz
  -- the name's value at the entry
  have key : ∀ {z1 : Z} {s1 : Env} {ext1 : List V} {m : M}, Rl X.K X.mg z1 s1 vs σ ext1 → look s1 (n + i) = some m → ∃ v, σ[i]? = some (some v) ∧ see X.K X.mg z1 m v := fun {z1 s1 ext1 m} R1 hm => by
    obtain ⟨v, a1, _, ow⟩ := R1.look hm
    rw [← hn, sx_loc hi'] at a1
    exact ⟨v, a1, _, ow⟩
  cases hm0 : look s (n + i) with
  | none => simp only [hm0] at q; exact q.elim
  | some m0 =>
  simp only [hm0] at q
  obtain ⟨v0, e0, _⟩ := key R hm0
  have cont : ∀ v, σ[i]? = some (some v) → rdO X.K X.mg W vs d σ z.H (fun y H1 => r v y H1 fun z H2 => D.nx (σ.set i (some z)) H2) := fun v e1 => by
    refine ⟨z, s, ext, rfl, R, ?_⟩
    cases hd : d s with
    | bad => simp only [hd] at q; exact q
    | ex e s1 =>
      simp only [hd] at q
      exact fun cls dd z' more st pl R' x => fin_ex R R' st pl x (xQ_E q)
    | ok r1 s1 =>
      simp only [hd] at q
      intro y z1 more st pl R1 rf
      cases hm : look s1 (n + i) with
      | none => simp only [hm] at q; exact q.elim
      | some m =>
        cases hm2 : rv s1 r1 with
        | none => simp only [hm, hm2] at q; exact q.elim
        | some m2 =>
          simp only [hm, hm2] at q
          obtain ⟨v', a1, sm⟩ := key R1 hm
          rw [e1] at a1
          cases a1
          cases hf' : f m m2 with
          | none => simp only [hf'] at q; exact q.elim
          | some rs =>
            cases rs with
            | sc x =>
              simp only [hf'] at q
              refine hr z1 m m2 v y _ _ R1.ok sm (rv_see R1 hm2 rf) hf' fun w hw => ?_
              have R2 := R1.pop R fun i j _ e => pl i j e
              have P := R2.put hi' (m := .f x) (v := w) hw
              rw [hn] at P
              exact q _ (z1.rel (n + i)) (by rw [List.length_set]) (st.trans (Stp.rel _ _)) ((Ple.set fun j e => by cases e).trans (ple_take pl)) P
            | _ => simp only [hf'] at q; exact q.elim
  exact ⟨v0, e0, cont v0 e0⟩
def dDo (d : Env → Re M) : Env → Out := fun s => match d s with
  | .ok _ s1 => .nx s1
  | .ex e s1 => .ex e s1
  | .bad => .bad
theorem s_do {e : Expr} {d : Env → Re M} {pos : Pos} (he : EM X W vs e d) (hs : swapsWith e none pos.line X.env = pure false := by rfl) : SM X W vs (.Expr e pos) (dDo d) := wkS (ps_expr he hs) fun D σ H _ h => by
  obtain ⟨z, s, ext, hz, R, q⟩ := h
  refine ⟨z, s, ext, hz, R, ?_⟩
  unfold dDo at q
  cases hd : d s with
  | bad => simp only [hd] at q; exact q
  | ex e s1 =>
    simp only [hd] at q
    exact xQ_E q
  | ok m s1 =>
    simp only [hd] at q
    exact fun v z1 st pl R1 ow => q σ z1 rfl st pl R1
theorem s_doc {x j pos pos'} : SM X W vs (.Expr (.Constant (.str x) j pos) pos') dNx := wkS ps_doc fun D σ H _ h => by
  obtain ⟨z, s, ext, hz, R, q⟩ := h
  subst hz
  exact q σ z rfl (Stp.refl z) (Ple.refl s) R
def dRt (d : Env → Re M) : Env → Out := fun s => match d s with
  | .ok m s1 => .rt m s1
  | .ex e s1 => .ex e s1
  | .bad => .bad
theorem s_ret {e : Expr} {d : Env → Re M} {pos : Pos} (he : EM X W vs e d) : SM X W vs (.Return (some e) pos) (dRt d) := wkS (ps_ret he) fun D σ H _ h => by
  obtain ⟨z, s, ext, hz, R, q⟩ := h
  refine ⟨z, s, ext, hz, R, ?_⟩
  unfold dRt at q
  cases hd : d s with
  | bad => simp only [hd] at q; exact q
  | ex e s1 =>
    simp only [hd] at q
    exact xQ_E q
  | ok m s1 =>
    simp only [hd] at q
    exact fun v z1 st pl R1 ow => q σ v z1 rfl st pl R1 ow
theorem s_retN {pos : Pos} : SM X W vs (.Return none pos) (fun s => .rt (.f .non) s) := wkS ps_retN fun D σ H _ h => by
  obtain ⟨z, s, ext, hz, R, q⟩ := h
  subst hz
  exact q σ .non z rfl (Stp.refl z) (Ple.refl s) R rfl
def dIf (t : Env → Re Bool) (a b : Env → Out) : Env → Out := fun s => match t s with
  | .ok true s1 => a s1
  | .ok false s1 => b s1
  | .ex e s1 => .ex e s1
  | .bad => .bad
theorem then_S {K : PySem.W.Frag} {mg : Mg} {u : Env → Out} {z z1 : Z} {s s1 : Env} {ext : List V} {σ : L2.St} {D : Ends} (st : Stp z z1) (pl : Ple s1 s) (R1 : Rl K mg z1 s1 vs σ ext) (q : outQ K mg W D z s vs ext σ.length (u s1)) : rdS K mg W vs u D σ z1.H :=
  ⟨z1, s1, ext, rfl, R1, outQ_on st pl q⟩
theorem s_if {c : Expr} {a b : List Stmt} {pos : Pos} {t : Env → Re Bool} {da db : Env → Out} (hc : TM X W vs c t) (ha : SMs X W vs a da) (hb : SMs X W vs b db) : SM X W vs (.If c a b pos) (dIf t da db) := wkS (ps_if hc ha hb) fun D σ H _ h => by
  obtain ⟨z, s, ext, hz, R, q⟩ := h
  refine ⟨z, s, ext, hz, R, ?_⟩
  unfold dIf at q
  cases ht : t s with
  | bad => simp only [ht] at q; exact q
  | ex e s1 =>
    simp only [ht] at q
    exact xQ_E q
  | ok c s1 =>
    intro z1 st pl R1
    cases c with
    | true =>
      simp only [ht] at q
      rw [if_pos rfl]
      exact then_S st pl R1 q
    | false =>
      simp only [ht] at q
      rw [if_neg Bool.false_ne_true]
      exact then_S st pl R1 q
/-- while, by fuel -/
def whileN (t : Env → Re Bool) (b : Env → Out) : Nat → Env → Out
  | 0, _ => .bad
  | n + 1, s => match t s with
    | .ok true s1 => (match b s1 with
      | .nx s2 => whileN t b n s2
      | .ct s2 => whileN t b n s2
      | .bk s2 => .nx s2
      | o => o)
    | .ok false s1 => .nx s1
    | .ex e s1 => .ex e s1
    | .bad => .bad
def dWhile (f : Env → Nat) (t : Env → Re Bool) (b : Env → Out) : Env → Out := fun s => whileN t b (f s) s
theorem s_while {c : Expr} {body : List Stmt} {pos : Pos} {t : Env → Re Bool} {db : Env → Out} (f : Env → Nat) (hp : PassesOwn (model X.prog X.w) X.A X.env X.xe) (hc : TM X W vs c t) (hb : SMs X W vs body db) : SM X W vs (.While c body [] pos) (dWhile f t db) := wkS (ps_while hp hc hb) fun D σ0 H _ h => by
  obtain ⟨z0, s0, ext, hz, R0, q0⟩ := h
  refine ⟨fun m σ H => ∃ z s, z.H = H ∧ Rl X.K X.mg z s vs σ ext ∧ σ.length = σ0.length ∧ Stp z0 z ∧ Ple s s0 ∧ outQ X.K X.mg W D z0 s0 vs ext σ0.length (whileN t db m s), ⟨f s0, z0, s0, hz, R0, rfl, Stp.refl _, Ple.refl _, q0⟩, fun m σ H hW => ?_⟩
  obtain ⟨z, s, hz, R, hl, st0, pl0, q⟩ := hW
  cases m with
  | zero => exact False.elim q
  | succ m =>
    refine ⟨z, s, ext, hz, R, ?_⟩
    unfold whileN at q
    cases ht : t s with
    | bad => simp only [ht] at q; exact q
    | ex e s1 =>
      simp only [ht] at q
      rw [← hl] at q
      exact exQ_on st0 pl0 (xQ_E q)
    | ok c s1 =>
      intro z1 st pl R1
      cases c with
      | false =>
        simp only [ht] at q
        rw [if_neg Bool.false_ne_true]
        exact q σ z1 hl (st0.trans st) (pl.trans pl0) R1
      | true =>
        simp only [ht] at q
        rw [if_pos rfl]
        refine ⟨fun σ' H' => ∃ m', m' < m + 1 ∧ ∃ z s, z.H = H' ∧ Rl X.K X.mg z s vs σ' ext ∧ σ'.length = σ0.length ∧ Stp z0 z ∧ Ple s s0 ∧ outQ X.K X.mg W D z0 s0 vs ext σ0.length (whileN t db m' s), fun σ' H' hN => hN, ?_⟩
        refine ⟨z1, s1, ext, rfl, R1, ?_⟩
        cases hb : db s1 with
        | nx s2 =>
          simp only [hb] at q
          exact fun σ' z' l st' pl' R' => ⟨m, Nat.lt_succ_self m, z', s2, rfl, R', l.trans hl, (st0.trans st).trans st', (pl'.trans pl).trans pl0, q⟩
        | ct s2 =>
          simp only [hb] at q
          exact fun σ' z' l st' pl' R' => ⟨m, Nat.lt_succ_self m, z', s2, rfl, R', l.trans hl, (st0.trans st).trans st', (pl'.trans pl).trans pl0, q⟩
        | bk s2 =>
          simp only [hb] at q
          exact fun σ' z' l st' pl' R' => q σ' z' (l.trans hl) ((st0.trans st).trans st') ((pl'.trans pl).trans pl0) R'
        | rt m2 s2 =>
          simp only [hb] at q
          exact fun σ' v z' l st' pl' R' ow => q σ' v z' (l.trans hl) ((st0.trans st).trans st') ((pl'.trans pl).trans pl0) R' ow
        | ex e s2 =>
          simp only [hb] at q
          exact fun σ' cls dd z' l st' pl' R' x => q σ' cls dd z' (l.trans hl) ((st0.trans st).trans st') ((pl'.trans pl).trans pl0) R' x
        | bad =>
          simp only [hb] at q
          exact q

/-! ### a name's thing goes out with a return -/
def Z.mov (z : Z) (i : Nat) : Z := ⟨z.F, z.H, fun a => match z.O a with
  | some (some j, q) => if j = i then some (none, q) else some (some j, q)
  | x => x⟩
theorem mov_none {z : Z} {a : Addr} {i : Nat} : (z.mov i).O a = none ↔ z.O a = none := by
  show (match z.O a with | some (some j, q) => if j = i then some (none, q) else some (some j, q) | x => x) = none ↔ _
  cases h : z.O a with
  | none => simp
  | some π =>
    obtain ⟨l, q⟩ := π
    cases l with
    | none => simp
    | some j =>
      by_cases e : j = i <;> simp [e]
theorem mov_other {z : Z} {a : Addr} {i j : Nat} {q : List Nat} (h : z.O a = some (some j, q)) (e : j ≠ i) : (z.mov i).O a = z.O a := by
  show (match z.O a with | some (some j, q) => if j = i then some (none, q) else some (some j, q) | x => x) = _
  rw [h]
  exact if_neg e
theorem mov_self {z : Z} {a : Addr} {i : Nat} {q : List Nat} (h : z.O a = some (some i, q)) : (z.mov i).O a = some (none, q) := by
  show (match z.O a with | some (some j, q) => if j = i then some (none, q) else some (some j, q) | x => x) = _
  rw [h]
  exact if_pos rfl
theorem Stp.mov (z : Z) (i : Nat) : Stp z (z.mov i) := ⟨Ex.refl _, fun a o e _ q => ⟨e, mov_none.mpr q, rfl⟩⟩
theorem Ok.mov {z : Z} (k : Ok z) (i : Nat) : Ok (z.mov i) := by
  have key : ∀ a π, (z.mov i).O a = some π → ∃ ρ, z.O a = some ρ := fun a π q => by
    cases h : z.O a with
    | none => rw [mov_none.mpr h] at q; cases q
    | some ρ => exact ⟨ρ, rfl⟩
  exact ⟨fun a π q => let ⟨ρ, h⟩ := key a π q; k.fr a ρ h, fun a π q => let ⟨ρ, h⟩ := key a π q; k.tr a ρ h, k.ex, fun a π q => let ⟨ρ, h⟩ := key a π q; k.nx a ρ h, k.tb⟩
def cMov (i : Nat) : Env → Re M := fun s => match s[i]? with
  | some (some (.p j)) => cV (vVar i) s
  | some (some (.f d)) => .ok (.f d) s
  | some (some m) => .ok m (s.set i none)
  | _ => .bad
theorem e_mov {i n : Nat} {x : Str} {pos : Pos} (hn : vs.length = n := by rfl) (hN : X.N[i]? = some x := by rfl) (hv : Vis X.env.scope x := by first | exact Or.inl rfl | exact Or.inr (Or.inl rfl) | exact Or.inr (Or.inr rfl)) (hd : (x == ("__debug__" : Str)) = false := by decide)
    (hcd : (x == ("__classdict__" : Str)) = false := by decide) : EM X W vs (.Name x pos) (cMov (n + i)) := wkE (pe_var hN hv hd hcd) fun σ H Q hl h => by
  obtain ⟨z, s, ext, hz, R, q⟩ := h
  have hi : i < σ.length := by rw [hl]; exact (List.getElem?_eq_some_iff.mp hN).1
  subst hz
  unfold cMov at q
  have mv : ∀ m, s[n + i]? = some (some m) → (∀ j, m ≠ .p j) → (∀ v z', Stp z z' → Ple (s.set (n + i) none) s → Rl X.K X.mg z' (s.set (n + i) none) vs σ ext → own X.K X.mg z' (none, []) m v → Q v z'.H) → tVar i σ z.H Q := fun m hm np q => by
    obtain ⟨v, a1, ce⟩ := R.at_ _ _ hm
    have ow := own_cel ce np
    rw [← hn, sx_loc hi] at a1
    have R1 := R.drop (n + i)
    have R2 : Rl X.K X.mg (z.mov (n + i)) (s.set (n + i) none) vs σ ext := by
      refine ⟨R.ok.mov _, R1.len, fun j m' hj => ?_⟩
      have ne : n + i ≠ j := fun e => by
        rw [← e, List.getElem?_set_self (List.getElem?_eq_some_iff.mp hm).1] at hj
        cases hj
      obtain ⟨u, u1, u2⟩ := R1.at_ j m' hj
      refine ⟨u, u1, ?_⟩
      have mv : ∀ m, own X.K X.mg z (some j, []) m u → own X.K X.mg (z.mov (n + i)) (some j, []) m u := fun m hm => own_move (z := z) (z' := z.mov (n + i)) (Ex.refl _) m [] [] u (fun a q o => ⟨rfl, (mov_other o (Ne.symm ne)).trans o⟩) hm
      cases m' with
      | f d => exact u2
      | l d => exact mv _ u2
      | d d => exact mv _ u2
      | o c d => exact mv _ u2
      | p t => exact u2
    exact ⟨v, a1, q v (z.mov (n + i)) (Stp.mov _ _) (Ple.set fun j e => by cases e) R2 (own_move (z := z) (z' := z.mov (n + i)) (Ex.refl _) m [] [] v (fun a q o => ⟨rfl, mov_self o⟩) ow)⟩
  cases hs : s[n + i]? with
  | none => simp only [hs] at q
  | some o =>
    cases o with
    | none => simp only [hs] at q
    | some m =>
      cases m with
      | p j =>
        simp only [hs] at q
        -- as a value that stays
        unfold cV at q
        have fr : ∀ m, look s (n + i) = some m → (∀ v z', Stp z z' → Ple (s.set (root s (n + i)) (some (.f (frz m)))) s → Rl X.K X.mg z' (s.set (root s (n + i)) (some (.f (frz m)))) vs σ ext → rep X.K X.mg z'.F (frz m) v → Q v z'.H) → tVar i σ z.H Q := fun m hm q => by
          obtain ⟨h1, np⟩ := look_root hm
          obtain ⟨R', v', e1, r⟩ := R.fzS h1 np
          obtain ⟨v, a1, a2, _⟩ := R.look hm
          rw [a2] at e1
          cases e1
          rw [← hn, sx_loc hi] at a1
          exact ⟨_, a1, q _ (z.fz (some (root s (n + i)))) (Stp.fz R.ok _) (Ple.set fun j e => by cases e) R' r⟩
        unfold vVar at q
        cases hm : look s (n + i) with
        | none => simp only [hm] at q
        | some m =>
          cases m with
          | f d =>
            simp only [hm] at q
            obtain ⟨v, a1, _, ow⟩ := R.look hm
            rw [← hn, sx_loc hi] at a1
            exact ⟨v, a1, q v z (Stp.refl z) (Ple.refl s) R ow⟩
          | l d => simp only [hm] at q; exact fr _ hm q
          | d d => simp only [hm] at q; exact fr _ hm q
          | o c d => simp only [hm] at q; exact fr _ hm q
          | p j => exact absurd rfl ((look_root hm).2 j)
      | f d =>
        simp only [hs] at q
        obtain ⟨v, a1, ce⟩ := R.at_ _ _ hs
        rw [← hn, sx_loc hi] at a1
        exact ⟨v, a1, q v z (Stp.refl z) (Ple.refl s) R ce⟩
      | l d => simp only [hs] at q; exact mv _ hs (fun j e => by cases e) q
      | d d => simp only [hs] at q; exact mv _ hs (fun j e => by cases e) q
      | o c d => simp only [hs] at q; exact mv _ hs (fun j e => by cases e) q
end
end Dn
end

section
set_option Elab.async false
set_option linter.all false
set_option maxRecDepth 100000
set_option maxHeartbeats 4000000
/-! DnG: what a def does; its promise; calls of the text's own defs -/
namespace Dn
open PySem PySem.Spec PyProof.Rows L2
variable [Tb]

inductive FR where
  | ok (m : M) (ms : List M) | ex (e : Exn) (ms : List M) | bad
abbrev Den := List M → FR
section
variable (K : PySem.W.Frag) (mg : Mg)
/-- the arguments' things, the j-th under the label j -/
def ownsA (z : Z) : Nat → List M → List V → Prop
  | _, [], vs => vs = []
  | j, m :: ms, vs => ∃ v r, vs = v :: r ∧ own K mg z (some j, []) m v ∧ ownsA z (j + 1) ms r
def spD (n : Nat) (df : Den) : Sp := fun vs H Q E => vs.length = n ∧ ∃ z ms, z.H = H ∧ Ok z ∧ ownsA K mg z 0 ms vs ∧ match df ms with
  | .ok m ms' => ∀ v z', Stp z z' → Ok z' → ownsA K mg z' 0 ms' vs → own K mg z' (none, []) m v → Q v z'.H
  | .ex e ms' => ∀ cls dd z', Stp z z' → Ok z' → ownsA K mg z' 0 ms' vs → exn K mg z' e cls dd → E cls dd z'.H
  | .bad => False
end
section
variable {K : PySem.W.Frag} {mg : Mg} {z z' : Z}
theorem ownsA_len : ∀ {ms : List M} {j : Nat} {vs : List V}, ownsA K mg z j ms vs → vs.length = ms.length
  | [], _, _, h => by
    have h : _ = [] := h
    rw [h]; rfl
  | m :: ms, j, _, h => by
    obtain ⟨v, r, e, _, h2⟩ := h
    rw [e, List.length_cons, List.length_cons, ownsA_len h2]
theorem ownsA_get : ∀ {ms : List M} {j : Nat} {vs : List V} {i : Nat} {m : M}, ownsA K mg z j ms vs → ms[i]? = some m → ∃ v, vs[i]? = some v ∧ own K mg z (some (j + i), []) m v
  | [], _, _, _, _, _, e => by simp at e
  | m :: ms, j, _, 0, m', h, e => by
    obtain ⟨v, r, e1, h1, _⟩ := h
    have e : m = m' := by simpa using e
    exact ⟨v, by rw [e1]; rfl, e ▸ h1⟩
  | m :: ms, j, _, i + 1, m', h, e => by
    obtain ⟨v, r, e1, _, h2⟩ := h
    obtain ⟨u, x, y⟩ := ownsA_get (i := i) (m := m') h2 (by simpa using e)
    exact ⟨u, by rw [e1]; simpa using x, by rw [show j + (i + 1) = j + 1 + i by omega]; exact y⟩
theorem ownsA_mk : ∀ {ms : List M} {j : Nat} {vs : List V}, vs.length = ms.length → (∀ (i : Nat) m v, ms[i]? = some m → vs[i]? = some v → own K mg z (some (j + i), []) m v) → ownsA K mg z j ms vs
  | [], _, vs, l, _ => by
    cases vs with
    | nil => rfl
    | cons v r => cases l
  | m :: ms, j, vs, l, h => by
    cases vs with
    | nil => cases l
    | cons v r => exact ⟨v, r, rfl, h 0 m v rfl rfl, ownsA_mk (by simpa using l) fun i m' v' a b => by
        have := h (i + 1) m' v' (by simpa using a) (by simpa using b)
        rw [show j + 1 + i = j + (i + 1) by omega]; exact this⟩
/-- a parameter's slot: the value itself, or where it stands -/
def slotOf (j : Nat) : M → Option M
  | .f d => some (.f d)
  | _ => some (.p j)
def slotsOf : Nat → List M → Env
  | _, [] => []
  | j, m :: ms => slotOf j m :: slotsOf (j + 1) ms
/-- a body's first state: the cells of the parameters, the names -/
def entry (N : Nat) (ms : List M) : Env := ms.map some ++ (slotsOf 0 ms ++ List.replicate (N - ms.length) none)
theorem slotsOf_len : ∀ (ms : List M) (j : Nat), (slotsOf j ms).length = ms.length
  | [], _ => rfl
  | m :: ms, j => by unfold slotsOf; rw [List.length_cons, List.length_cons, slotsOf_len ms]
theorem slotsOf_get : ∀ (ms : List M) (j i : Nat), (slotsOf j ms)[i]? = (ms[i]?).map fun m => slotOf (j + i) m
  | [], _, _ => by simp [slotsOf]
  | m :: ms, j, 0 => by simp [slotsOf]
  | m :: ms, j, i + 1 => by
    unfold slotsOf
    rw [List.getElem?_cons_succ, List.getElem?_cons_succ, slotsOf_get ms (j + 1) i, show j + 1 + i = j + (i + 1) by omega]
theorem entry_rl {N : List Str} {vs : List V} {ms : List M} (k : Ok z) (h : ownsA K mg z 0 ms vs) (hl : vs.length ≤ N.length) : Rl K mg z (entry N.length ms) vs (L2.start N vs) [] := by
  have l := ownsA_len h
  have ls : (L2.start N vs).length = N.length := by unfold L2.start; simp; omega
  have get : ∀ {i : Nat} {m : M}, ms[i]? = some m → ∃ v, vs[i]? = some v ∧ own K mg z (some i, []) m v := fun {i m} e => by
    obtain ⟨v, a, b⟩ := ownsA_get h e
    exact ⟨v, a, by rw [Nat.zero_add] at b; exact b⟩
  have par : ∀ {i : Nat} {v : V}, vs[i]? = some v → (sx vs (L2.start N vs) [])[i]? = some (some v) := fun {i v} e => by
    obtain ⟨hi, e'⟩ := List.getElem?_eq_some_iff.mp e
    rw [sx_par hi, e']
  refine ⟨k, ?_, fun i m hm => ?_⟩
  · unfold entry
    rw [List.length_append, List.length_append, List.length_map, slotsOf_len, List.length_replicate, ls]
    simp; omega
  · unfold entry at hm
    by_cases h1 : i < ms.length
    · rw [List.getElem?_append_left (by simpa using h1), List.getElem?_map] at hm
      cases e : ms[i]? with
      | none => rw [e] at hm; cases hm
      | some m' =>
        rw [e] at hm
        cases hm
        obtain ⟨v, a, b⟩ := get e
        exact ⟨v, par a, cel_own b⟩
    · rw [List.getElem?_append_right (by simpa using Nat.le_of_not_lt h1), List.length_map] at hm
      by_cases h2 : i - ms.length < ms.length
      · rw [List.getElem?_append_left (by rw [slotsOf_len]; exact h2), slotsOf_get] at hm
        cases e : ms[i - ms.length]? with
        | none => rw [e] at hm; cases hm
        | some m' =>
          rw [e] at hm
          have hm : slotOf (0 + (i - ms.length)) m' = some m := by simpa using hm
          obtain ⟨v, a, b⟩ := get e
          have hs : (sx vs (L2.start N vs) [])[i]? = some (some v) := by
            have e2 : i = vs.length + (i - ms.length) := by omega
            rw [e2, sx_loc (by rw [ls]; omega)]
            unfold L2.start
            rw [List.getElem?_append_left (by simp; omega), List.getElem?_map, a]; rfl
          refine ⟨v, hs, ?_⟩
          have ptr : m = .p (0 + (i - ms.length)) → cel K mg z vs (L2.start N vs) [] i m v := fun em => by
            rw [em]
            refine ⟨.inl (by omega), ?_⟩
            rw [Nat.zero_add]
            exact par a
          unfold slotOf at hm
          cases m' with
          | f d => cases hm; exact b
          | l d => exact ptr (Option.some.inj hm).symm
          | d d => exact ptr (Option.some.inj hm).symm
          | o c d => exact ptr (Option.some.inj hm).symm
          | p d => exact ptr (Option.some.inj hm).symm
      · rw [List.getElem?_append_right (by rw [slotsOf_len]; omega), List.getElem?_replicate] at hm
        split at hm <;> cases hm
/-- the parameters' things at the end -/
def fins : Nat → Env → Option (List M)
  | 0, _ => some []
  | n + 1, s => match s with
    | some (.p _) :: _ => none
    | some m :: r => (fins n r).map (m :: ·)
    | _ => none
theorem fins_get : ∀ {n : Nat} {s : Env} {ms : List M}, fins n s = some ms → ms.length = n ∧ ∀ (i : Nat) m, ms[i]? = some m → s[i]? = some (some m) ∧ ∀ j, m ≠ .p j
  | 0, s, ms, h => by
    cases h
    exact ⟨rfl, fun i m e => by simp at e⟩
  | n + 1, s, ms, h => by
    unfold fins at h
    split at h
    · cases h
    · rename_i m r hp
      cases hr : fins n r with
      | none => rw [hr] at h; cases h
      | some ms' =>
        rw [hr] at h
        cases h
        obtain ⟨l, g⟩ := fins_get hr
        refine ⟨by rw [List.length_cons, l], fun i m' e => ?_⟩
        cases i with
        | zero =>
          have e : m = m' := by simpa using e
          subst e
          exact ⟨rfl, fun j ej => hp j (by rw [ej])⟩
        | succ i => exact g i m' (by simpa using e)
    · cases h
theorem fins_own {n : Nat} {s : Env} {ms : List M} {vs ext : List V} {σ : L2.St} (hn : vs.length = n) (R : Rl K mg z s vs σ ext) (h : fins n s = some ms) : ownsA K mg z 0 ms vs := by
  obtain ⟨l, g⟩ := fins_get h
  refine ownsA_mk (by rw [l]; exact hn) fun i m v e1 e2 => ?_
  obtain ⟨g1, g2⟩ := g i m e1
  obtain ⟨u, u1, u2⟩ := R.at_ i m g1
  obtain ⟨hi, e2'⟩ := List.getElem?_eq_some_iff.mp e2
  rw [sx_par hi, e2'] at u1
  cases u1
  rw [Nat.zero_add]
  exact own_cel u2 g2
/-- a def: np parameters, N names, its body -/
def dDef (np N : Nat) (d : Env → Out) : Den := fun ms => if ms.length = np then (match d (entry N ms) with
  | .rt m s => (match fins np s with
    | some ms' => .ok m ms'
    | none => .bad)
  | .nx s => (match fins np s with
    | some ms' => .ok (.f .non) ms'
    | none => .bad)
  | .ex e s => (match fins np s with
    | some ms' => .ex e ms'
    | none => .bad)
  | _ => .bad) else .bad
end
section
variable {P : Program} {w : World} {K : PySem.W.Frag} {mg : Mg} {base : Heap}
/-- THE RULE of a def -/
theorem fn_den {x qual : Str} {st : Stmt} {f : Addr} {fd : FuncData} {N ps : List Str} {k : Nat} {d : Env → Out} (F : Fun K x qual st f fd) (S : FnScope N ps (defScope st)) (hpl : ps.length ≤ N.length)
    (hbody : ∀ (X : Cx) (vs : List V), X.prog = P → X.w = w → X.K = K → X.mg = mg → X.base = base → X.N = N → X.env.scope = defScope st → X.calm = true → X.fn = (fun _ => true) → Room k X.A → vs.length = ps.length → X.stack = X.env :: X.outer → X.env.frame = some X.env.locals → X.env.qual = qual ++ ".<locals>." →
      ∀ W, L2.Takes X W → PassesOwn (model X.prog X.w) X.A X.env X.xe → SMs X W vs (defBody st) d) :
    FnOk P w K mg base (L2.CX P w) (k + 1) f fd ps (spD K mg ps.length (dDef ps.length N.length d)) := by
  refine F.okX S (fun vs H Q E h => h.1) fun cdv A outer s H vs Q E hr h => ?_
  obtain ⟨hl, z, ms, hz, hk, ho, q⟩ := h
  refine ⟨_, hbody (cxOf (L2.CX P w) P w K mg base N qual (defScope st) f cdv A outer s H E) vs rfl rfl rfl rfl rfl rfl rfl rfl rfl hr hl rfl rfl rfl (fun cls d _ H => E cls d H) (takes_of rfl rfl rfl rfl) (passes_of rfl), ?_⟩
  have lm := ownsA_len ho
  refine ⟨z, entry N.length ms, [], hz, entry_rl hk ho (by rw [hl]; exact hpl), ?_⟩
  unfold dDef at q
  rw [if_pos (by rw [← lm]; exact hl)] at q
  show outQ K mg _ _ _ _ _ _ _ (d (entry N.length ms))
  cases hd : d (entry N.length ms) with
  | rt m s' =>
    simp only [hd] at q
    cases hf : fins ps.length s' with
    | none => simp only [hf] at q
    | some ms' =>
      simp only [hf] at q
      exact fun σ' v z' l st pl R ow => q v z' st R.ok (fins_own hl R hf) ow
  | nx s' =>
    simp only [hd] at q
    cases hf : fins ps.length s' with
    | none => simp only [hf] at q
    | some ms' =>
      simp only [hf] at q
      exact fun σ' z' l st pl R => q .non z' st R.ok (fins_own hl R hf) rfl
  | ex e s' =>
    simp only [hd] at q
    cases hf : fins ps.length s' with
    | none => simp only [hf] at q
    | some ms' =>
      simp only [hf] at q
      exact fun σ' cls dd z' l st pl R x => q cls dd z' st R.ok (fins_own hl R hf) x
  | bk s' => simp only [hd] at q
  | ct s' => simp only [hd] at q
  | bad => simp only [hd] at q
end

/-! ### calls -/
/-- what the callee is handed, and where what it owns meanwhile belongs -/
def argOf (s : Env) (r : Ref) : Option (M × Option Nat) := match r with
  | .v d => some (.f d, none)
  | .s i => match look s i with
    | some (.f d) => some (.f d, none)
    | some m => some (m, some (root s i))
    | none => none
def argsOf (s : Env) : List Ref → Option (List (M × Option Nat))
  | [] => some []
  | r :: rs => match argOf s r, argsOf s rs with
    | some a, some as => some (a :: as)
    | _, _ => none
/-- no thing is handed twice -/
def apart : List (M × Option Nat) → Bool
  | [] => true
  | (_, some t) :: as => !(as.any fun a => a.2 == some t) && apart as
  | (_, none) :: as => apart as
def putBack (s : Env) : List (M × Option Nat) → List M → Env
  | (_, some t) :: as, m :: ms => (putBack s as ms).set t (some m)
  | (_, none) :: as, _ :: ms => putBack s as ms
  | _, _ => s
def cCall (n : Nat) (df : Den) (a : Env → Re (List Ref)) : Env → Re M := fun s => match a s with
  | .ok rs s1 => (match argsOf s1 rs with
    | some as => if apart as && as.length == n then (match df (as.map (·.1)) with
      | .ok m ms => .ok m ((putBack s1 as ms).take s.length)
      | .ex e ms => .ex e ((putBack s1 as ms).take s.length)
      | .bad => .bad) else .bad
    | none => .bad)
  | .ex e s1 => .ex e (s1.take s.length)
  | .bad => .bad
section
open Classical
variable {K : PySem.W.Frag} {mg : Mg}
/-- the callee's view -/
noncomputable def Z.sub (z : Z) (ts : List (Option Nat)) : Z := ⟨z.F, z.H, fun a => match z.O a with
  | some (some t, q) => if h : ∃ j, ts[j]? = some (some t) then some (some (Classical.choose h), q) else none
  | _ => none⟩
/-- behind the call -/
noncomputable def Z.sup (z zc z' : Z) (ts : List (Option Nat)) : Z := ⟨z'.F, z'.H, fun a => match z'.O a with
  | some (some j, q) => (match ts[j]? with
    | some (some t) => some (some t, q)
    | _ => none)
  | some (none, q) => some (none, q)
  | none => if zc.O a = none then z.O a else none⟩
def Apart (ts : List (Option Nat)) : Prop := ∀ (i j : Nat) t, ts[i]? = some (some t) → ts[j]? = some (some t) → i = j
theorem apart_ok : ∀ {as : List (M × Option Nat)}, apart as = true → Apart (as.map (·.2))
  | [], _ => fun i j t e _ => by simp at e
  | (m, none) :: as, h => fun i j t e1 e2 => by
    have ih := apart_ok (as := as) h
    cases i with
    | zero => simp at e1
    | succ i =>
      cases j with
      | zero => simp at e2
      | succ j => rw [ih i j t (by simpa using e1) (by simpa using e2)]
  | (m, some u) :: as, h => by
    unfold apart at h
    rw [Bool.and_eq_true, Bool.not_eq_true'] at h
    have ih := apart_ok (as := as) h.2
    have no : ∀ j : Nat, (as.map (·.2))[j]? ≠ some (some u) := fun j e => by
      rw [List.getElem?_map] at e
      cases ea : as[j]? with
      | none => rw [ea] at e; cases e
      | some a =>
        rw [ea] at e
        have hm : a ∈ as := List.mem_of_getElem? ea
        have : as.any (fun a => a.2 == some u) = true := List.any_eq_true.mpr ⟨a, hm, by simpa using e⟩
        rw [h.1] at this; cases this
    intro i j t e1 e2
    cases i with
    | zero =>
      have : u = t := by simpa using e1
      subst this
      cases j with
      | zero => rfl
      | succ j => exact absurd (by simpa using e2) (no j)
    | succ i =>
      cases j with
      | zero =>
        have : u = t := by simpa using e2
        subst this
        exact absurd (by simpa using e1) (no i)
      | succ j => rw [ih i j t (by simpa using e1) (by simpa using e2)]
theorem sub_hit {z : Z} {ts : List (Option Nat)} (ap : Apart ts) {a : Addr} {t j : Nat} {q : List Nat} (h : z.O a = some (some t, q)) (hj : ts[j]? = some (some t)) : (z.sub ts).O a = some (some j, q) := by
  show (match z.O a with | some (some t, q) => if h : ∃ j, ts[j]? = some (some t) then some (some (Classical.choose h), q) else none | _ => none) = _
  rw [h]
  have ex : ∃ j, ts[j]? = some (some t) := ⟨j, hj⟩
  show (if h : ∃ j, ts[j]? = some (some t) then some (some (Classical.choose h), q) else none) = some (some j, q)
  rw [dif_pos ex, ap _ _ _ (Classical.choose_spec ex) hj]
theorem sub_some {z : Z} {ts : List (Option Nat)} {a : Addr} {π : Lab} (h : (z.sub ts).O a = some π) : ∃ t j q, z.O a = some (some t, q) ∧ ts[j]? = some (some t) ∧ π = (some j, q) := by
  have h : (match z.O a with | some (some t, q) => if h : ∃ j, ts[j]? = some (some t) then some (some (Classical.choose h), q) else none | _ => none) = some π := h
  split at h
  · rename_i t q e
    split at h
    · rename_i ex
      cases h
      exact ⟨t, _, q, e, Classical.choose_spec ex, rfl⟩
    · cases h
  · cases h
theorem sub_miss {z : Z} {ts : List (Option Nat)} {a : Addr} {t : Nat} {q : List Nat} (h : z.O a = some (some t, q)) (hn : ∀ j : Nat, ts[j]? ≠ some (some t)) : (z.sub ts).O a = none := by
  cases e : (z.sub ts).O a with
  | none => rfl
  | some π =>
    obtain ⟨t', j, q', e1, e2, _⟩ := sub_some e
    rw [h] at e1
    cases e1
    exact absurd e2 (hn j)
theorem Ok.sub {z : Z} (k : Ok z) (ts : List (Option Nat)) : Ok (z.sub ts) :=
  ⟨fun a π h => by
    obtain ⟨t, j, q, e, _⟩ := sub_some h
    exact k.fr a _ e, fun a π h => by
    obtain ⟨t, j, q, e, _⟩ := sub_some h
    exact k.tr a _ e, k.ex, fun a π h => by
    obtain ⟨t, j, q, e, _⟩ := sub_some h
    exact k.nx a _ e, k.tb⟩
theorem sup_cell {z zc z' : Z} {ts : List (Option Nat)} {a : Addr} {j t : Nat} {q : List Nat} (h : z'.O a = some (some j, q)) (hj : ts[j]? = some (some t)) : (z.sup zc z' ts).O a = some (some t, q) := by
  show (match z'.O a with | some (some j, q) => (match ts[j]? with | some (some t) => some (some t, q) | _ => none) | some (none, q) => some (none, q) | none => if zc.O a = none then z.O a else none) = _
  rw [h]
  show (match ts[j]? with | some (some t) => some (some t, q) | _ => none) = some (some t, q)
  rw [hj]
theorem sup_res {z zc z' : Z} {ts : List (Option Nat)} {a : Addr} {q : List Nat} (h : z'.O a = some (none, q)) : (z.sup zc z' ts).O a = some (none, q) := by
  show (match z'.O a with | some (some j, q) => (match ts[j]? with | some (some t) => some (some t, q) | _ => none) | some (none, q) => some (none, q) | none => if zc.O a = none then z.O a else none) = _
  rw [h]
theorem sup_keep {z zc z' : Z} {ts : List (Option Nat)} {a : Addr} (h : z'.O a = none) (h2 : zc.O a = none) : (z.sup zc z' ts).O a = z.O a := by
  show (match z'.O a with | some (some j, q) => (match ts[j]? with | some (some t) => some (some t, q) | _ => none) | some (none, q) => some (none, q) | none => if zc.O a = none then z.O a else none) = _
  rw [h]
  exact if_pos h2
theorem sup_some {z zc z' : Z} {ts : List (Option Nat)} {a : Addr} {π : Lab} (h : (z.sup zc z' ts).O a = some π) : (∃ ρ, z'.O a = some ρ) ∨ (z'.O a = none ∧ zc.O a = none ∧ z.O a = some π) := by
  have h : (match z'.O a with | some (some j, q) => (match ts[j]? with | some (some t) => some (some t, q) | _ => none) | some (none, q) => some (none, q) | none => if zc.O a = none then z.O a else none) = some π := h
  cases e : z'.O a with
  | some ρ => exact .inl ⟨ρ, rfl⟩
  | none =>
    rw [e] at h
    have h : (if zc.O a = none then z.O a else none) = some π := h
    by_cases h2 : zc.O a = none
    · rw [if_pos h2] at h
      exact .inr ⟨rfl, h2, h⟩
    · rw [if_neg h2] at h; cases h
theorem Ok.sup {z z' : Z} {ts : List (Option Nat)} (k : Ok z) (k' : Ok z') (st : Stp (z.sub ts) z') : Ok (z.sup (z.sub ts) z' ts) :=
  ⟨fun a π h => by
    rcases sup_some h with ⟨ρ, e⟩ | ⟨e1, e2, e3⟩
    · exact k'.fr a ρ e
    · obtain ⟨o, ho⟩ := k.tr a π e3
      obtain ⟨_, _, f⟩ := st.ch a o ho (k.nx a π e3 o ho).2 e2
      exact f.trans (k.fr a π e3), fun a π h => by
    rcases sup_some h with ⟨ρ, e⟩ | ⟨e1, e2, e3⟩
    · exact k'.tr a ρ e
    · obtain ⟨o, ho⟩ := k.tr a π e3
      obtain ⟨h1, _, _⟩ := st.ch a o ho (k.nx a π e3 o ho).2 e2
      exact ⟨o, h1⟩, k'.ex, fun a π h fs => by
    rcases sup_some h with ⟨ρ, e⟩ | ⟨e1, e2, e3⟩
    · exact k'.nx a ρ e fs
    · obtain ⟨o, ho⟩ := k.tr a π e3
      obtain ⟨h1, _, _⟩ := st.ch a o ho (k.nx a π e3 o ho).2 e2
      exact fun w => k.nx a π e3 fs (ho.trans (h1.symm.trans w)), k'.tb⟩
theorem Stp.sup {z z' : Z} {ts : List (Option Nat)} (st : Stp (z.sub ts) z') : Stp z (z.sup (z.sub ts) z' ts) :=
  ⟨st.ef, fun a o h nt q => by
    have n : (z.sub ts).O a = none := by
      cases e : (z.sub ts).O a with
      | none => rfl
      | some π =>
        obtain ⟨t, j, q', e1, _⟩ := sub_some e
        rw [q] at e1; cases e1
    obtain ⟨h1, h2, h3⟩ := st.ch a o h nt n
    exact ⟨h1, (sup_keep h2 n).trans q, h3⟩⟩
variable {z z' : Z} {s : Env} {vs ext : List V} {σ : L2.St}
theorem argsOf_own (R : Rl K mg z s vs σ ext) : ∀ {rs : List Ref} {as : List (M × Option Nat)} {us : List V}, argsOf s rs = some as → rfvs K mg z vs σ ext rs us →
    us.length = as.length ∧ ∀ (j : Nat) m t v, as[j]? = some (m, t) → us[j]? = some v → (∀ x, t = some x → own K mg z (some x, []) m v ∧ (∃ v', s[x]? = some (some m) ∧ (sx vs σ ext)[x]? = some (some v') ∧ v' = v)) ∧ (t = none → ∃ d, m = .f d ∧ rep K mg z.F d v)
  | [], as, us, h, r => by
    cases h
    have r : us = [] := r
    subst r
    exact ⟨rfl, fun j m t v e => by simp at e⟩
  | r :: rs, as, us, h, hr => by
    unfold argsOf at h
    cases ha : argOf s r with
    | none => simp only [ha] at h; cases h
    | some a =>
      cases hb : argsOf s rs with
      | none => simp only [ha, hb] at h; cases h
      | some as' =>
        simp only [ha, hb] at h
        cases h
        obtain ⟨u, w, rfl, h1, h2⟩ := hr
        obtain ⟨l, ih⟩ := argsOf_own R hb h2
        refine ⟨by rw [List.length_cons, List.length_cons, l], fun j m t v e1 e2 => ?_⟩
        cases j with
        | succ j => exact ih j m t v (by simpa using e1) (by simpa using e2)
        | zero =>
          have e1 : a = (m, t) := by simpa using e1
          have e2 : u = v := by simpa using e2
          subst e1 e2
          cases r with
          | v d =>
            cases ha
            exact ⟨fun x e => by (cases e), fun _ => ⟨d, rfl, h1⟩⟩
          | s i =>
            unfold argOf at ha
            cases hl : look s i with
            | none => simp only [hl] at ha; cases ha
            | some m0 =>
              obtain ⟨v0, a1, a2, a3⟩ := R.look hl
              have h1 : (sx vs σ ext)[i]? = some (some u) := h1
              rw [h1] at a1
              cases a1
              obtain ⟨b1, b2⟩ := look_root hl
              have big : some (m0, some (root s i)) = some (m, t) → (∀ x, t = some x → own K mg z (some x, []) m u ∧ (∃ v', s[x]? = some (some m) ∧ (sx vs σ ext)[x]? = some (some v') ∧ v' = u)) ∧ (t = none → ∃ d, m = .f d ∧ rep K mg z.F d u) := fun e => by
                cases e
                exact ⟨fun x e => by
                  cases e
                  exact ⟨a3, u, b1, a2, rfl⟩, fun e => by (cases e)⟩
              cases m0 with
              | f d =>
                simp only [hl] at ha
                cases ha
                exact ⟨fun x e => by (cases e), fun _ => ⟨d, rfl, a3⟩⟩
              | l d => simp only [hl] at ha; exact big ha
              | d d => simp only [hl] at ha; exact big ha
              | o c d => simp only [hl] at ha; exact big ha
              | p d => exact absurd rfl (b2 d)
theorem putBack_len : ∀ (as : List (M × Option Nat)) (ms : List M), (putBack s as ms).length = s.length
  | [], _ => rfl
  | (_, none) :: as, [] => rfl
  | (_, some t) :: as, [] => rfl
  | (_, none) :: as, _ :: ms => putBack_len as ms
  | (_, some t) :: as, m :: ms => by
    unfold putBack
    rw [List.length_set]; exact putBack_len as ms
theorem putBack_hit : ∀ {as : List (M × Option Nat)} {ms : List M}, Apart (as.map (·.2)) → ∀ {j t : Nat} {m0 m : M}, as[j]? = some (m0, some t) → ms[j]? = some m → t < s.length → (putBack s as ms)[t]? = some (some m)
  | [], ms, _, j, t, m0, m, e, _, _ => by simp at e
  | (_, none) :: as, [], _, j, t, m0, m, _, e, _ => by simp at e
  | (_, some _) :: as, [], _, j, t, m0, m, _, e, _ => by simp at e
  | (_, none) :: as, n :: ms, ap, j, t, m0, m, e1, e2, hl => by
    have ap' : Apart (as.map (·.2)) := fun i k u a b => by
      have := ap (i + 1) (k + 1) u (by simpa using a) (by simpa using b)
      omega
    cases j with
    | zero => simp at e1
    | succ j => exact putBack_hit ap' (j := j) (by simpa using e1) (by simpa using e2) hl
  | (_, some u) :: as, n :: ms, ap, j, t, m0, m, e1, e2, hl => by
    have ap' : Apart (as.map (·.2)) := fun i k u a b => by
      have := ap (i + 1) (k + 1) u (by simpa using a) (by simpa using b)
      omega
    unfold putBack
    cases j with
    | zero =>
      have e1 : u = t := by
        have e3 := Option.some.inj e1
        exact Option.some.inj (congrArg Prod.snd e3)
      have e2 : n = m := by simpa using e2
      subst e1 e2
      rw [List.getElem?_set_self (by rw [putBack_len]; exact hl)]
    | succ j =>
      have ne : u ≠ t := fun e => by
        subst e
        have hj : (as.map (·.2))[j]? = some (some u) := by
          rw [List.getElem?_map, show as[j]? = some (m0, some u) by simpa using e1]; rfl
        have := ap 0 (j + 1) u (by simp) (by simpa using hj)
        omega
      rw [List.getElem?_set_ne ne]
      exact putBack_hit ap' (j := j) (by simpa using e1) (by simpa using e2) hl
theorem putBack_miss : ∀ {as : List (M × Option Nat)} {ms : List M} {i : Nat}, (∀ (j : Nat) m, as[j]? ≠ some (m, some i)) → (putBack s as ms)[i]? = s[i]?
  | [], ms, i, _ => rfl
  | (_, none) :: as, [], i, _ => rfl
  | (_, some _) :: as, [], i, _ => rfl
  | (_, none) :: as, n :: ms, i, h => putBack_miss (as := as) (ms := ms) fun j m e => h (j + 1) m (by simpa using e)
  | (m0, some u) :: as, n :: ms, i, h => by
    unfold putBack
    have ne : u ≠ i := fun e => h 0 m0 (by rw [e]; rfl)
    rw [List.getElem?_set_ne ne]
    exact putBack_miss (as := as) (ms := ms) fun j m e => h (j + 1) m (by simpa using e)
/-- a call seen from the caller -/
theorem call_ghost (R : Rl K mg z s vs σ ext) {rs : List Ref} {as : List (M × Option Nat)} {us : List V} (ha : argsOf s rs = some as) (hr : rfvs K mg z vs σ ext rs us) (hp : apart as = true) :
    Ok (z.sub (as.map (·.2))) ∧ ownsA K mg (z.sub (as.map (·.2))) 0 (as.map (·.1)) us ∧
      ∀ z' ms', Stp (z.sub (as.map (·.2))) z' → Ok z' → ownsA K mg z' 0 ms' us →
        ∃ z2, z2.H = z'.H ∧ Stp z z2 ∧ Rl K mg z2 (putBack s as ms') vs σ ext ∧ Ple (putBack s as ms') s ∧ (∀ m v, own K mg z' (none, []) m v → own K mg z2 (none, []) m v) ∧ (∀ e cls dd, exn K mg z' e cls dd → exn K mg z2 e cls dd) := by
  obtain ⟨l, g⟩ := argsOf_own R ha hr
  have ap := apart_ok hp
  have tsj : ∀ {j : Nat} {m : M} {t : Option Nat}, as[j]? = some (m, t) → (as.map (·.2))[j]? = some t := fun {j m t} e => by rw [List.getElem?_map, e]; rfl
  have ajs : ∀ {j : Nat} {t : Option Nat}, (as.map (·.2))[j]? = some t → ∃ m, as[j]? = some (m, t) := fun {j t} e => by
    rw [List.getElem?_map] at e
    cases ea : as[j]? with
    | none => rw [ea] at e; cases e
    | some a =>
      rw [ea] at e
      obtain ⟨m, t'⟩ := a
      cases e
      exact ⟨m, rfl⟩
  refine ⟨R.ok.sub _, ownsA_mk (by rw [List.length_map]; exact l) fun j m v e1 e2 => ?_, fun z' ms' st k' ow' => ?_⟩
  · rw [List.getElem?_map] at e1
    cases ea : as[j]? with
    | none => rw [ea] at e1; cases e1
    | some a =>
      rw [ea] at e1
      obtain ⟨m0, t⟩ := a
      cases e1
      obtain ⟨g1, g2⟩ := g j _ t v ea e2
      rw [Nat.zero_add]
      cases t with
      | none =>
        obtain ⟨d, rfl, r⟩ := g2 rfl
        exact r
      | some x =>
        obtain ⟨ow, _⟩ := g1 x rfl
        exact own_move (z := z) (z' := z.sub _) (Ex.refl _) _ [] [] v (fun a q o => ⟨rfl, sub_hit ap o (tsj ea)⟩) ow
  · have l' := ownsA_len ow'
    refine ⟨z.sup (z.sub (as.map (·.2))) z' (as.map (·.2)), rfl, Stp.sup st, ⟨R.ok.sup k' st, by rw [putBack_len]; exact R.len, fun i m hm => ?_⟩, fun i j e => ?_, fun m v ow => ?_, fun e cls dd x => ?_⟩
    · by_cases hit : ∃ (j : Nat) (m0 : M), as[j]? = some (m0, some i)
      · obtain ⟨j, m0, ej⟩ := hit
        have hj : j < us.length := by rw [l]; exact (List.getElem?_eq_some_iff.mp ej).1
        obtain ⟨_, v', s1, s2, _⟩ := (g j m0 (some i) us[j] ej (List.getElem?_eq_getElem hj)).1 i rfl
        have hms : ms'[j]? = some ms'[j] := List.getElem?_eq_getElem (by rw [← l']; exact hj)
        rw [putBack_hit ap ej hms (List.getElem?_eq_some_iff.mp s1).1] at hm
        cases hm
        obtain ⟨v, v1, v2⟩ := ownsA_get ow' hms
        rw [Nat.zero_add] at v2
        rw [List.getElem?_eq_getElem hj] at v1
        cases v1
        obtain ⟨_, v', s1, s2, ev⟩ := (g j m0 (some i) us[j] ej (List.getElem?_eq_getElem hj)).1 i rfl
        subst ev
        refine ⟨_, s2, cel_own (own_move (z := z') (z' := z.sup _ z' _) (Ex.refl _) _ [] [] _ (fun a q o => ⟨rfl, sup_cell o (tsj ej)⟩) v2)⟩
      · have no : ∀ (j : Nat) m, as[j]? ≠ some (m, some i) := fun j m e => hit ⟨j, m, e⟩
        have not : ∀ j : Nat, (as.map (·.2))[j]? ≠ some (some i) := fun j e => by
          obtain ⟨m, e'⟩ := ajs e
          exact no j m e'
        rw [putBack_miss no] at hm
        obtain ⟨v, v1, v2⟩ := R.at_ i m hm
        refine ⟨v, v1, ?_⟩
        have mv : ∀ m, own K mg z (some i, []) m v → own K mg (z.sup (z.sub (as.map (·.2))) z' (as.map (·.2))) (some i, []) m v := fun m hm =>
          own_move (z := z) (z' := z.sup _ z' _) (show Ex z.F z'.F from st.ef) m [] [] v (fun a q o => by
            have n := sub_miss o not
            obtain ⟨oo, ho⟩ := R.ok.tr a _ o
            obtain ⟨h1, h2, _⟩ := st.ch a oo ho (R.ok.nx a _ o oo ho).2 n
            exact ⟨h1.trans ho.symm, (sup_keep h2 n).trans o⟩) hm
        cases m with
        | f d => exact rep_ex st.ef d v v2
        | l d => exact mv _ v2
        | d d => exact mv _ v2
        | o c d => exact mv _ v2
        | p j => exact v2
    · by_cases hit : ∃ (k : Nat) (m0 : M), as[k]? = some (m0, some i)
      · obtain ⟨k, m0, ek⟩ := hit
        have hk : k < us.length := by rw [l]; exact (List.getElem?_eq_some_iff.mp ek).1
        obtain ⟨_, v', s1, _⟩ := (g k m0 (some i) us[k] ek (List.getElem?_eq_getElem hk)).1 i rfl
        have hms : ms'[k]? = some ms'[k] := List.getElem?_eq_getElem (by rw [← l']; exact hk)
        rw [putBack_hit ap ek hms (List.getElem?_eq_some_iff.mp s1).1] at e
        obtain ⟨v, v1, v2⟩ := ownsA_get ow' hms
        exact absurd (Option.some.inj (Option.some.inj e)) (own_np v2 j)
      · rw [putBack_miss fun j m e => hit ⟨j, m, e⟩] at e
        exact e
    · exact own_move (z := z') (z' := z.sup _ z' _) (Ex.refl _) m [] [] v (fun a q o => ⟨rfl, sup_res o⟩) ow
    · exact x
end
theorem takes_F {X : Cx} : L2.Takes X (fun _ _ _ _ => False) := fun u s' ⟨_, _, _, _, _, _, _, _, _, _, _, _, _, _, _, _, w⟩ => w.elim
section
variable {X : Cx} {W : WX} {vs : List V} {k : Nat} {f : Addr} {fd : FuncData} {ps : List Str} {n : Nat} {df : Den} {x : Str} {p pos : Pos} {e : Expr} {es : List Expr} {oa : Env → Re (List Ref)}
theorem tCall_ {σ : L2.St} {H : Hp} {Q : VK} (h : rdE X.K X.mg W vs (cCall n df oa) σ H Q) : rdOs X.K X.mg W vs oa σ H fun us H1 => spD X.K X.mg n df us H1 Q (WE W σ) := by
  obtain ⟨z, s, ext, hz, R, q⟩ := h
  refine ⟨z, s, ext, hz, R, ?_⟩
  unfold cCall at q
  cases ha : oa s with
  | bad => simp only [ha] at q
  | ex e s1 =>
    simp only [ha] at q
    exact fun cls dd z' more st pl R' x => fin_ex R R' st pl x q
  | ok rs s1 =>
    simp only [ha] at q
    intro us z1 more st pl R1 rf
    cases hA : argsOf s1 rs with
    | none => simp only [hA] at q
    | some as =>
      simp only [hA] at q
      by_cases hp : (apart as && as.length == n) = true
      · rw [if_pos hp] at q
        rw [Bool.and_eq_true] at hp
        obtain ⟨k1, ow, back⟩ := call_ghost R1 hA rf hp.1
        have l := ownsA_len ow
        refine ⟨by rw [l, List.length_map]; exact of_decide_eq_true hp.2, z1.sub _, as.map (·.1), rfl, k1, ow, ?_⟩
        cases hd : df (as.map (·.1)) with
        | bad => simp only [hd] at q
        | ok m ms =>
          simp only [hd] at q
          intro v z' st' k' ow' om
          obtain ⟨z2, e2, st2, R2, pl2, om2, _⟩ := back z' ms st' k' ow'
          rw [← e2]
          exact q v z2 (st.trans st2) (ple_take (pl2.trans pl)) (R2.pop R fun i j _ e => (pl2.trans pl) i j e) (om2 m v om)
        | ex e ms =>
          simp only [hd] at q
          intro cls dd z' st' k' ow' x
          obtain ⟨z2, e2, st2, R2, pl2, _, ox⟩ := back z' ms st' k' ow'
          rw [← e2]
          exact fin_ex R R2 (st.trans st2) (pl2.trans pl) (ox e cls dd x) q
      · rw [if_neg hp] at q
        exact q.elim
/-- f(e, ..) -/
theorem e_call (F : FnOk X.prog X.w X.K X.mg X.base (L2.CX X.prog X.w) k f fd ps (spD X.K X.mg n df)) (hr : Room k X.A) (hm : X.mg x = some (.ref f)) (hk : PySem.W.keepIn X.K (.ref f) = true) (hb : Binds X.K fd ps []) (tk : L2.Takes X W) (ha : OMs X W vs (e :: es) oa)
    (hg : Gl X x := by rfl) (hdb : (x == ("__debug__" : Str)) = false := by decide) (he : starEach (e :: es) X.env = (false, eval e X.env) :: starEach es X.env := by rfl) (hpl : (backTo pos (starEach es X.env)).any (·.1) = false := by rfl) :
    EM X W vs (.Call (.Name x p) (e :: es) [] pos) (cCall n df oa) := wkE (pe_callS F hr hg hm hk hb (fun σ => passAt tk σ) ha hdb he hpl) fun σ H Q _ h => tCall_ h
/-- f() -/
def cCall0 (df : Den) : Env → Re M := fun s => match df [] with
  | .ok m _ => .ok m s
  | _ => .bad
theorem e_call0 (F : FnOk X.prog X.w X.K X.mg X.base (L2.CX X.prog X.w) k f fd ps (spD X.K X.mg 0 df)) (hr : Room k X.A) (hm : X.mg x = some (.ref f)) (hk : PySem.W.keepIn X.K (.ref f) = true) (hb : Binds X.K fd ps []) (hg : Gl X x := by rfl) (hdb : (x == ("__debug__" : Str)) = false := by decide) :
    EM X W vs (.Call (.Name x p) [] [] pos) (cCall0 df) := wkE (pe_call0 F hr hg hm hk hb .nil (E := fun _ _ _ => False) (fun _ _ _ _ _ _ _ ⟨_, _, _, _, _, _, _, _, _, _, _, _, w⟩ => w.elim) hdb) fun σ H Q _ h => by
  obtain ⟨z, s, ext, hz, R, q⟩ := h
  subst hz
  unfold cCall0 at q
  unfold tCall tNil
  refine ⟨rfl, z.sub [], [], rfl, R.ok.sub _, rfl, ?_⟩
  obtain ⟨k1, ow, back⟩ := call_ghost R (rs := []) (as := []) (us := []) rfl rfl rfl
  cases hd : df [] with
  | bad => simp only [hd] at q
  | ok m ms =>
    simp only [hd] at q
    intro v z' st' k' ow' om
    obtain ⟨z2, e2, st2, R2, pl2, om2, _⟩ := back z' ms st' k' ow'
    rw [← e2]
    exact q v z2 st2 pl2 R2 (om2 m v om)
  | ex e ms => simp only [hd] at q
end
end Dn
end

section
set_option Elab.async false
set_option linter.all false
set_option maxRecDepth 100000
set_option maxHeartbeats 4000000
/-! DnH: what is walked; targets; for; list comprehensions -/
namespace Dn
open PySem PySem.Spec PyProof.Rows L2
variable [Tb]

/-! ### list, tuple or text, as it comes -/
def iAny (K : PySem.W.Frag) (tl : TE) : TI := fun σ H R => tl σ H fun x H1 =>
  (∃ a, x = .ref a ∧ (((∃ xs, SqL K H1 a xs) ∧ R (Itl K a) H1) ∨ ((∃ xs, SqT K H1 a xs) ∧ R (Itt K a) H1))) ∨ ∃ y, x = .str y ∧ R (Its y) H1
theorem pi_any {X : Cx} {tg l : Expr} {tl : TE} (hl : PE X l tl) : PI X tg l (iAny X.K tl) := by
  constructor
  intro pins s0 σ H R I0 h
  refine thn (hl.run pins s0 σ H _ I0 h) ?_
  rintro v s1 ⟨x, H1, I1, rx, hx⟩
  rcases hx with ⟨a, e, hx⟩ | ⟨y, e, q⟩
  · subst e
    obtain rfl : v = Value.ref a := rx
    rcases hx with ⟨⟨xs, hq⟩, q⟩ | ⟨⟨xs, hq⟩, q⟩
    · obtain ⟨its, rr, pl, _⟩ := I1.list hq
      exact wpAny_pyIter_list pl.isList (pi_one (tk := s1.toks) I1 _ (turn_list a _) ⟨_, Heap.get?_push_size _ rfl, rfl, rfl⟩ q)
    · obtain ⟨its, rr, pl, _⟩ := I1.tuple hq
      have pt : s1.heap.IsTuple a its.toArray := pl
      exact wpAny_pyIter_tuple pt (pi_one (tk := s1.toks) I1 _ (turn_tuple a _) ⟨_, Heap.get?_push_size _ rfl, rfl, rfl⟩ q)
  · subst e
    obtain ⟨t, e2⟩ := rx
    subst e2
    cases hc : y.cps.all (· < 128) with
    | false => exact wpAny_pyIter_wide hc (pi_one (tk := s1.toks) I1 _ (turn_str _ y t "str_iterator" (.inr rfl)) ⟨_, Heap.get?_push_size _ rfl, rfl, rfl⟩ q)
    | true => exact wpAny_pyIter_ascii hc (pi_one (tk := s1.toks) I1 _ (turn_str _ y t "str_ascii_iterator" (.inl rfl)) ⟨_, Heap.get?_push_size _ rfl, rfl, rfl⟩ q)

/-! ### sources -/
structure Src where
  items : List D
  locks : List (Nat × List D)
  back : Env → Env
def lkB (s : Env) : List (Nat × List D) → Prop
  | [] => True
  | (j, ds) :: r => s[j]? = some (some (.l ds)) ∧ lkB s r
/-- in the turn's state z the things that are walked stand -/
def ItOk (K : PySem.W.Frag) (mg : Mg) (J : It) (z0 : Z) (vs ext : List V) (n : Nat) (S : Src) : Prop :=
  ∃ G : Z → Prop, (∀ z s σ, σ.length = n → Stp z0 z → Rl K mg z s vs σ ext → lkB s S.locks → G z) ∧
    (∀ z (i : Nat) d, Ok z → G z → S.items[i]? = some d → J.go i z.H ∧ ∀ x H', J.yld i z.H x H' → ∃ z2, z2.H = H' ∧ Stp z z2 ∧ Ok z2 ∧ (∀ a π, z.O a = some π → z2.H a = z.H a ∧ z2.O a = z.O a) ∧ rep K mg z2.F d x) ∧
    (∀ z, Ok z → G z → J.stop S.items.length z.H)
/-- from the walked state back -/
def BackOk (K : PySem.W.Frag) (mg : Mg) (s0 s1 : Env) (vs ext ext1 : List V) (n : Nat) (S : Src) : Prop :=
  ∀ z s σ, σ.length = n → Rl K mg z s vs σ ext1 → Ple s s1 → ∃ z2, z2.H = z.H ∧ Stp z z2 ∧ Rl K mg z2 (S.back s) vs σ ext ∧ Ple (S.back s) s0 ∧ (∀ m v, own K mg z (none, []) m v → own K mg z2 (none, []) m v) ∧ (∀ e cls dd, exn K mg z e cls dd → exn K mg z2 e cls dd)
def rdI (K : PySem.W.Frag) (mg : Mg) (W : WX) (vs : List V) (d : Env → Re Src) : TI := fun σ H R => ∃ z s ext, z.H = H ∧ Rl K mg z s vs σ ext ∧ match d s with
  | .ok S s1 => ∀ J z1 more, Stp z z1 → Ple s s → Rl K mg z1 s1 vs σ (ext ++ more) → ItOk K mg J z1 vs (ext ++ more) σ.length S → BackOk K mg s s1 vs ext (ext ++ more) σ.length S → R J z1.H
  | .ex e s1 => exQ K mg W z s vs ext σ e s1
  | .bad => False
abbrev IM (X : Cx) (W : WX) (vs : List V) (tg it : Expr) (d : Env → Re Src) : Prop := PI X tg it (rdI X.K X.mg W vs d)
theorem wkI {X : Cx} {tg e : Expr} {t t' : TI} (h : PI X tg e t) (k : ∀ σ H Q, σ.length = X.N.length → t' σ H Q → t σ H Q) : PI X tg e t' := ⟨fun pins s σ H Q I q => h.run pins s σ H Q I (k σ H Q I.len q)⟩
/-- the items of a value that stays -/
def itemsOf : D → Option (List D)
  | .lst ds => some ds
  | .rl ds => some ds
  | .tup ds => some ds
  | .str x => some (x.cps.toList.map fun c => .str ⟨#[c]⟩)
  | _ => none
section
variable {K : PySem.W.Frag} {mg : Mg}
theorem itl_ok {z0 : Z} {vs ext : List V} {n : Nat} {S : Src} {a : Addr} {us : List V} {G : Z → Prop} (g1 : ∀ z s σ, σ.length = n → Stp z0 z → Rl K mg z s vs σ ext → lkB s S.locks → G z)
    (g2 : ∀ z, Ok z → G z → ∃ us, SqL K z.H a us ∧ reps K mg z.F S.items us) : ItOk K mg (Itl K a) z0 vs ext n S := by
  refine ⟨G, g1, fun z i d k g hd => ?_, fun z k g => ?_⟩
  · obtain ⟨us, h1, h2⟩ := g2 z k g
    obtain ⟨u, e1, e2⟩ := reps_get h2 hd
    refine ⟨⟨us, u, h1, e1⟩, fun x H' hy => ?_⟩
    obtain ⟨rfl, hx⟩ := hy
    have := hx us h1
    rw [e1] at this
    cases this
    exact ⟨z, rfl, Stp.refl z, k, fun _ _ _ => ⟨rfl, rfl⟩, e2⟩
  · obtain ⟨us, h1, h2⟩ := g2 z k g
    exact ⟨us, h1, by rw [reps_len h2]; exact Nat.le_refl _⟩
theorem itt_ok {z0 : Z} {vs ext : List V} {n : Nat} {S : Src} {a : Addr} {us : List V} {G : Z → Prop} (g1 : ∀ z s σ, σ.length = n → Stp z0 z → Rl K mg z s vs σ ext → lkB s S.locks → G z)
    (g2 : ∀ z, Ok z → G z → ∃ us, SqT K z.H a us ∧ reps K mg z.F S.items us) : ItOk K mg (Itt K a) z0 vs ext n S := by
  refine ⟨G, g1, fun z i d k g hd => ?_, fun z k g => ?_⟩
  · obtain ⟨us, h1, h2⟩ := g2 z k g
    obtain ⟨u, e1, e2⟩ := reps_get h2 hd
    refine ⟨⟨us, u, h1, e1⟩, fun x H' hy => ?_⟩
    obtain ⟨rfl, hx⟩ := hy
    have := hx us h1
    rw [e1] at this
    cases this
    exact ⟨z, rfl, Stp.refl z, k, fun _ _ _ => ⟨rfl, rfl⟩, e2⟩
  · obtain ⟨us, h1, h2⟩ := g2 z k g
    exact ⟨us, h1, by rw [reps_len h2]; exact Nat.le_refl _⟩
/-- a value that stays -/
theorem it_stay {z0 : Z} {vs ext : List V} {n : Nat} {d : D} {ds : List D} {v : V} {b : Env → Env} {R : It → Hp → Prop} {H : Hp} (k0 : Ok z0) (hr : rep K mg z0.F d v) (hd : itemsOf d = some ds) (q : ∀ J, ItOk K mg J z0 vs ext n ⟨ds, [], b⟩ → R J H) :
    (∃ a, v = .ref a ∧ (((∃ xs, SqL K z0.H a xs) ∧ R (Itl K a) H) ∨ ((∃ xs, SqT K z0.H a xs) ∧ R (Itt K a) H))) ∨ ∃ y, v = .str y ∧ R (Its y) H := by
  cases d with
  | lst es =>
    cases hd
    obtain ⟨a, us, rfl, h1, h2⟩ := hr
    exact .inl ⟨a, rfl, .inl ⟨⟨us, .inl (.inl (k0.ex _ _ h1))⟩, q _ (itl_ok (us := us) (G := fun z => Stp z0 z) (fun z s σ _ st _ _ => st) fun z k st => ⟨us, .inl (.inl (k.ex _ _ (st.ef _ _ h1))), reps_ex st.ef ds us h2⟩)⟩⟩
  | rl es =>
    cases hd
    obtain ⟨a, us, rfl, h1, h2⟩ := hr
    exact .inl ⟨a, rfl, .inl ⟨⟨us, sqL_ex k0.ex h1⟩, q _ (itl_ok (us := us) (G := fun z => Stp z0 z) (fun z s σ _ st _ _ => st) fun z k st => ⟨us, sqL_ex k.ex (sqL_ex st.ef h1), reps_ex st.ef ds us h2⟩)⟩⟩
  | tup es =>
    cases hd
    obtain ⟨a, us, rfl, h1, h2⟩ := hr
    exact .inl ⟨a, rfl, .inr ⟨⟨us, sqT_ex k0.ex h1⟩, q _ (itt_ok (us := us) (G := fun z => Stp z0 z) (fun z s σ _ st _ _ => st) fun z k st => ⟨us, sqT_ex k.ex (sqT_ex st.ef h1), reps_ex st.ef ds us h2⟩)⟩⟩
  | str x =>
    cases hd
    obtain rfl : v = .str x := hr
    refine .inr ⟨x, rfl, q _ ⟨fun _ => True, fun _ _ _ _ _ _ _ => trivial, fun z i d k _ hd => ?_, fun z k _ => ?_⟩⟩
    · have hd : (x.cps.toList.map fun c => D.str ⟨#[c]⟩)[i]? = some d := hd
      rw [List.getElem?_map] at hd
      cases e : x.cps.toList[i]? with
      | none => rw [e] at hd; cases hd
      | some c =>
        rw [e] at hd
        cases hd
        have e2 : x.cps[i]? = some c := by simpa using e
        refine ⟨(Array.getElem?_eq_some_iff.mp e2).1, fun y H' hy => ?_⟩
        obtain ⟨rfl, c', e3, rfl⟩ := hy
        rw [e2] at e3
        cases e3
        exact ⟨z, rfl, Stp.refl z, k, fun _ _ _ => ⟨rfl, rfl⟩, rfl⟩
    · show x.cps.size ≤ (x.cps.toList.map fun c => D.str ⟨#[c]⟩).length
      simp
  | _ => cases hd
end
section
variable {X : Cx} {W : WX} {vs : List V}
/-- over an expression's value, which stays -/
def iV (d : Env → Re D) : Env → Re Src := fun s => match d s with
  | .ok x s1 => (match itemsOf x with
    | some ds => .ok ⟨ds, [], id⟩ s1
    | none => .bad)
  | .ex e s1 => .ex e s1
  | .bad => .bad
theorem back_id {K : PySem.W.Frag} {mg : Mg} {s0 s1 : Env} {ext : List V} {n : Nat} {ds : List D} (pl : Ple s1 s0) : BackOk K mg s0 s1 vs ext ext n ⟨ds, [], id⟩ :=
  fun z s σ _ R p => ⟨z, rfl, Stp.refl z, R, p.trans pl, fun _ _ h => h, fun _ _ _ h => h⟩
theorem i_V {tg e : Expr} {d : Env → Re D} (h : VM X W vs e d) : IM X W vs tg e (iV d) := wkI (pi_any h) fun σ H R _ h => by
  obtain ⟨z, s, ext, hz, Rl0, q⟩ := h
  refine ⟨z, s, ext, hz, Rl0, ?_⟩
  unfold iV at q
  cases hd : d s with
  | bad => simp only [hd] at q
  | ex e s1 =>
    simp only [hd] at q
    exact q
  | ok x s1 =>
    simp only [hd] at q
    intro v z1 st pl R1 r
    cases hi : itemsOf x with
    | none => simp only [hi] at q
    | some ds =>
      simp only [hi] at q
      refine it_stay R1.ok r hi fun J hJ => q J z1 [] st (Ple.refl s) (by rw [List.append_nil]; exact R1) (by rw [List.append_nil]; exact hJ) ?_
      rw [List.append_nil]
      exact back_id pl
/-! over a name's thing: where it is owned, it must stand so at each turn -/
def unl (i j : Nat) : Env → Env := fun s => match (s.take j)[i]? with
  | some (some (.p k)) => if k = j then (s.take j).set i (match s[j]? with
    | some (some (.p _)) => none
    | some m => m
    | none => none) else s.take j
  | _ => s.take j
def Z.sw (z : Z) (j i : Nat) : Z := ⟨z.F, z.H, fun a => match z.O a with
  | some (some k, q) => if k = j then some (some i, q) else some (some k, q)
  | x => x⟩
theorem sw_none {z : Z} {a : Addr} {i j : Nat} : (z.sw j i).O a = none ↔ z.O a = none := by
  show (match z.O a with | some (some k, q) => if k = j then some (some i, q) else some (some k, q) | x => x) = none ↔ _
  cases h : z.O a with
  | none => simp
  | some π =>
    obtain ⟨l, q⟩ := π
    cases l with
    | none => simp
    | some k =>
      by_cases e : k = j <;> simp [e]
theorem sw_other {z : Z} {a : Addr} {i j k : Nat} {q : List Nat} (h : z.O a = some (some k, q)) (e : k ≠ j) : (z.sw j i).O a = z.O a := by
  show (match z.O a with | some (some k, q) => if k = j then some (some i, q) else some (some k, q) | x => x) = _
  rw [h]
  exact if_neg e
theorem sw_res {z : Z} {a : Addr} {i j : Nat} {q : List Nat} (h : z.O a = some (none, q)) : (z.sw j i).O a = z.O a := by
  show (match z.O a with | some (some k, q) => if k = j then some (some i, q) else some (some k, q) | x => x) = _
  rw [h]
theorem sw_self {z : Z} {a : Addr} {i j : Nat} {q : List Nat} (h : z.O a = some (some j, q)) : (z.sw j i).O a = some (some i, q) := by
  show (match z.O a with | some (some k, q) => if k = j then some (some i, q) else some (some k, q) | x => x) = _
  rw [h]
  exact if_pos rfl
theorem Stp.sw (z : Z) (j i : Nat) : Stp z (z.sw j i) := ⟨Ex.refl _, fun a o e _ q => ⟨e, sw_none.mpr q, rfl⟩⟩
theorem Ok.sw {z : Z} (k : Ok z) (j i : Nat) : Ok (z.sw j i) := by
  have key : ∀ a π, (z.sw j i).O a = some π → ∃ ρ, z.O a = some ρ := fun a π q => by
    cases h : z.O a with
    | none => rw [sw_none.mpr h] at q; cases q
    | some ρ => exact ⟨ρ, rfl⟩
  exact ⟨fun a π q => let ⟨ρ, h⟩ := key a π q; k.fr a ρ h, fun a π q => let ⟨ρ, h⟩ := key a π q; k.tr a ρ h, k.ex, fun a π q => let ⟨ρ, h⟩ := key a π q; k.nx a ρ h, k.tb⟩
theorem back_unl {K : PySem.W.Frag} {mg : Mg} {z0 : Z} {s0 : Env} {ext : List V} {σ0 : L2.St} {v : V} {ds : List D} {i : Nat} {S : Src} (R0 : Rl K mg z0 s0 vs σ0 ext) (hi : i < s0.length) (hb : S.back = unl i s0.length) :
    BackOk K mg s0 (s0.set i (some (.p s0.length)) ++ [some (.l ds)]) vs ext (ext ++ [v]) σ0.length S := by
  intro z s σ hl R p
  have hs : s.length = s0.length + 1 := by rw [R.len, R0.len, hl, List.length_append, List.length_singleton]; omega
  have sxe : ∀ {k : Nat}, k < s0.length → (sx vs σ (ext ++ [v]))[k]? = (sx vs σ ext)[k]? := fun {k} hk => by
    have : sx vs σ (ext ++ [v]) = sx vs σ ext ++ [some v] := by unfold sx; simp
    rw [this, List.getElem?_append_left (by rw [sx_len, hl, ← R0.len]; exact hk)]
  have sxj : (sx vs σ (ext ++ [v]))[s0.length]? = some (some v) := by
    have : sx vs σ (ext ++ [v]) = sx vs σ ext ++ [some v] := by unfold sx; simp
    have l : (sx vs σ ext).length = s0.length := by rw [sx_len, hl, ← R0.len]
    rw [this, List.getElem?_append_right (by rw [l]; exact Nat.le_refl _), l, Nat.sub_self]; rfl
  -- pointers: of the elder ones, or the one to the lock
  have ptr : ∀ {k t : Nat}, k < s0.length → s[k]? = some (some (M.p t)) → (k = i ∧ t = s0.length) ∨ (k ≠ i ∧ s0[k]? = some (some (M.p t))) := fun {k t} hk e => by
    have e1 := p k t e
    rw [List.getElem?_append_left (by rw [List.length_set]; exact hk)] at e1
    by_cases ek : i = k
    · rw [ek, List.getElem?_set_self (by rw [← ek]; exact hi)] at e1
      cases e1
      exact .inl ⟨ek.symm, rfl⟩
    · rw [List.getElem?_set_ne ek] at e1
      exact .inr ⟨fun z => ek z.symm, e1⟩
  have tk : ∀ {k : Nat}, k < s0.length → (s.take s0.length)[k]? = s[k]? := fun {k} hk => List.getElem?_take_of_lt hk
  have tl : (s.take s0.length).length = s0.length := by rw [List.length_take]; omega
  -- all slots but i, in any ghost that keeps the labels below
  have rest : ∀ (z2 : Z), Ex z.F z2.F → (∀ a k q, k ≠ s0.length → z.O a = some (some k, q) → z2.H a = z.H a ∧ z2.O a = some (some k, q)) → ∀ (k : Nat) m, k ≠ i → k < s0.length → s[k]? = some (some m) → ∃ u, (sx vs σ ext)[k]? = some (some u) ∧ cel K mg z2 vs σ ext k m u := fun z2 ef keep k m ne hk hm => by
    obtain ⟨u, u1, u2⟩ := R.at_ k m hm
    rw [sxe hk] at u1
    refine ⟨u, u1, ?_⟩
    have mv : ∀ m, own K mg z (some k, []) m u → own K mg z2 (some k, []) m u := fun m hm => own_move ef m [] [] u (fun a q o => keep a k _ (by omega) o) hm
    cases m with
    | f d => exact rep_ex ef d u u2
    | l d => exact mv _ u2
    | d d => exact mv _ u2
    | o c d => exact mv _ u2
    | p t =>
      obtain ⟨t1, t2⟩ := u2
      rcases ptr hk hm with ⟨e, _⟩ | ⟨_, e⟩
      · exact absurd e ne
      · obtain ⟨u0, _, _, a3⟩ := R0.at_ k _ e
        have ht : t < s0.length := by
          have := (List.getElem?_eq_some_iff.mp a3).1
          rw [sx_len, ← R0.len] at this; exact this
        exact ⟨t1, by rw [← sxe ht]; exact t2⟩
  by_cases hp : s[i]? = some (some (M.p s0.length))
  · -- the thing goes back to its name
    have eb : S.back s = (s.take s0.length).set i (match s[s0.length]? with
        | some (some (.p _)) => none
        | some m => m
        | none => none) := by
      rw [hb]
      unfold unl
      rw [tk hi, hp]
      exact if_pos rfl
    refine ⟨z.sw s0.length i, rfl, Stp.sw _ _ _, ⟨R.ok.sw _ _, by rw [eb, List.length_set, tl, R0.len, hl], fun k m hm => ?_⟩, fun k t e => ?_, fun m w ow => own_move (z := z) (z' := z.sw s0.length i) (Ex.refl _) m [] [] w (fun a q o => ⟨rfl, (sw_res o).trans o⟩) ow, fun e cls dd x => x⟩
    · rw [eb] at hm
      by_cases ek : i = k
      · subst ek
        rw [List.getElem?_set_self (by rw [tl]; exact hi)] at hm
        obtain ⟨u, u1, u2⟩ := R.at_ i _ hp
        obtain ⟨_, u3⟩ := u2
        rw [sxj] at u3
        cases u3
        rw [sxe hi] at u1
        refine ⟨v, u1, ?_⟩
        have hm : (match s[s0.length]? with
          | some (some (.p _)) => none
          | some m => m
          | none => none) = some m := Option.some.inj hm
        cases hj : s[s0.length]? with
        | none => rw [hj] at hm; cases hm
        | some mj =>
          rw [hj] at hm
          cases mj with
          | none => cases hm
          | some mm =>
            obtain ⟨w, w1, w2⟩ := R.at_ _ _ hj
            rw [sxj] at w1
            cases w1
            have go : (∀ t, mm ≠ .p t) → mm = m → cel K mg (z.sw s0.length i) vs σ ext i m v := fun np e => by
              subst e
              exact cel_own (own_move (z := z) (z' := z.sw s0.length i) (Ex.refl _) mm [] [] v (fun a q o => ⟨rfl, sw_self o⟩) (own_cel w2 np))
            cases mm with
            | p t => cases hm
            | f d => exact go (fun t e => by cases e) (Option.some.inj hm)
            | l d => exact go (fun t e => by cases e) (Option.some.inj hm)
            | d d => exact go (fun t e => by cases e) (Option.some.inj hm)
            | o c d => exact go (fun t e => by cases e) (Option.some.inj hm)
      · rw [List.getElem?_set_ne ek] at hm
        have hk : k < s0.length := by
          have := (List.getElem?_eq_some_iff.mp hm).1
          rw [tl] at this; exact this
        rw [tk hk] at hm
        exact rest (z.sw s0.length i) (Ex.refl _) (fun a k q ne o => ⟨rfl, (sw_other o ne).trans o⟩) k m (fun e => ek e.symm) hk hm
    · rw [eb] at e
      by_cases ek : i = k
      · subst ek
        rw [List.getElem?_set_self (by rw [tl]; exact hi)] at e
        exfalso
        have e : (match s[s0.length]? with
          | some (some (.p _)) => none
          | some m => m
          | none => none) = some (M.p t) := Option.some.inj e
        cases hj : s[s0.length]? with
        | none => rw [hj] at e; cases e
        | some mj =>
          rw [hj] at e
          cases mj with
          | none => cases e
          | some mm => cases mm <;> cases e
      · rw [List.getElem?_set_ne ek] at e
        have hk : k < s0.length := by
          have := (List.getElem?_eq_some_iff.mp e).1
          rw [tl] at this; exact this
        rw [tk hk] at e
        rcases ptr hk e with ⟨z, _⟩ | ⟨_, z⟩
        · exact absurd z.symm ek
        · exact z
  · -- the name was bound anew
    have eb : S.back s = s.take s0.length := by
      rw [hb]
      unfold unl
      rw [tk hi]
      split
      · rename_i k hk
        split
        · rename_i ek
          rw [ek] at hk
          exact absurd hk hp
        · rfl
      · rfl
    refine ⟨z, rfl, Stp.refl z, ⟨R.ok, by rw [eb, tl, R0.len, hl], fun k m hm => ?_⟩, fun k t e => ?_, fun m w ow => ow, fun e cls dd x => x⟩
    · rw [eb] at hm
      have hk : k < s0.length := by
        have := (List.getElem?_eq_some_iff.mp hm).1
        rw [tl] at this; exact this
      rw [tk hk] at hm
      by_cases ek : k = i
      · subst ek
        obtain ⟨u, u1, u2⟩ := R.at_ k m hm
        rw [sxe hk] at u1
        refine ⟨u, u1, ?_⟩
        cases m with
        | f d => exact u2
        | l d => exact u2
        | d d => exact u2
        | o c d => exact u2
        | p t =>
          exfalso
          rcases ptr hk hm with ⟨_, e⟩ | ⟨e, _⟩
          · rw [e] at hm; exact hp hm
          · exact e rfl
      · exact rest z (Ex.refl _) (fun a k q ne o => ⟨rfl, o⟩) k m ek hk hm
    · rw [eb] at e
      have hk : k < s0.length := by
        have := (List.getElem?_eq_some_iff.mp e).1
        rw [tl] at this; exact this
      rw [tk hk] at e
      rcases ptr hk e with ⟨e1, e2⟩ | ⟨_, e1⟩
      · rw [e1, e2] at e; exact absurd e hp
      · exact e1
def iVar (i : Nat) : Env → Re Src := fun s => match s[i]? with
  | some (some (.p r)) => (match s[r]? with
    | some (some (.l ds)) => .ok ⟨ds, [(r, ds)], id⟩ s
    | some (some (.f d)) => (match itemsOf d with
      | some ds => .ok ⟨ds, [], id⟩ s
      | none => .bad)
    | _ => .bad)
  | some (some (.f d)) => (match itemsOf d with
    | some ds => .ok ⟨ds, [], id⟩ s
    | none => .bad)
  | some (some (.l ds)) => .ok ⟨ds, [(s.length, ds)], unl i s.length⟩ (s.set i (some (.p s.length)) ++ [some (.l ds)])
  | _ => .bad
/-- a list that is owned by the cell r -/
theorem it_lock {K : PySem.W.Frag} {mg : Mg} {z0 : Z} {ext : List V} {σ0 : L2.St} {r : Nat} {a : Addr} {ds : List D} {b : Env → Env} (hr : r < vs.length ∨ vs.length + σ0.length ≤ r) (ha : (sx vs σ0 ext)[r]? = some (some (.ref a))) :
    ItOk K mg (Itl K a) z0 vs ext σ0.length ⟨ds, [(r, ds)], b⟩ := by
  refine itl_ok (us := []) (G := fun z => ∃ us, z.H a = some (.lst us) ∧ reps K mg z.F ds us) (fun z s σ hl st R lk => ?_) fun z k ⟨us, h1, h2⟩ => ⟨us, .inl (.inl h1), h2⟩
  obtain ⟨h1, _⟩ := lk
  obtain ⟨v, v1, v2⟩ := R.at_ r _ h1
  have e : (sx vs σ ext)[r]? = (sx vs σ0 ext)[r]? := by
    rcases hr with hr | hr
    · rw [sx_par hr, sx_par hr]
    · obtain ⟨k, rfl⟩ : ∃ k, r = vs.length + σ0.length + k := ⟨r - (vs.length + σ0.length), by omega⟩
      rw [sx_ext, ← hl, sx_ext]
  rw [e, ha] at v1
  cases v1
  obtain ⟨a', us, e1, h1, _, h2⟩ := v2
  cases e1
  exact ⟨us, h1, h2⟩
theorem i_var {i n : Nat} {x : Str} {tg : Expr} {pos : Pos} (hn : vs.length = n := by rfl) (hN : X.N[i]? = some x := by rfl) (hv : Vis X.env.scope x := by first | exact Or.inl rfl | exact Or.inr (Or.inl rfl) | exact Or.inr (Or.inr rfl)) (hd : (x == ("__debug__" : Str)) = false := by decide)
    (hcd : (x == ("__classdict__" : Str)) = false := by decide) : IM X W vs tg (.Name x pos) (iVar (n + i)) := wkI (pi_any (pe_var hN hv hd hcd)) fun σ H R hl h => by
  obtain ⟨z, s, ext, hz, Rl0, q⟩ := h
  have hi : i < σ.length := by rw [hl]; exact (List.getElem?_eq_some_iff.mp hN).1
  subst hz
  unfold iVar at q
  have stay : ∀ {d : D} {ds : List D} {v : V}, (sx vs σ ext)[n + i]? = some (some v) → rep X.K X.mg z.F d v → itemsOf d = some ds → (∀ J z1 more, Stp z z1 → Ple s s → Rl X.K X.mg z1 s vs σ (ext ++ more) → ItOk X.K X.mg J z1 vs (ext ++ more) σ.length ⟨ds, [], id⟩ → BackOk X.K X.mg s s vs ext (ext ++ more) σ.length ⟨ds, [], id⟩ → R J z1.H) →
      iAny X.K (tVar i) σ z.H R := fun {d ds v} e1 r hi' q => by
    rw [← hn, sx_loc hi] at e1
    refine ⟨v, e1, it_stay Rl0.ok r hi' fun J hJ => q J z [] (Stp.refl z) (Ple.refl s) (by rw [List.append_nil]; exact Rl0) (by rw [List.append_nil]; exact hJ) ?_⟩
    rw [List.append_nil]
    exact back_id (Ple.refl s)
  cases hs : s[n + i]? with
  | none => simp only [hs] at q
  | some o =>
    cases o with
    | none => simp only [hs] at q
    | some m =>
      obtain ⟨v, v1, v2⟩ := Rl0.at_ _ _ hs
      cases m with
      | f d =>
        simp only [hs] at q
        cases hit : itemsOf d with
        | none => simp only [hit] at q
        | some ds =>
          simp only [hit] at q
          exact stay v1 v2 hit q
      | d d => simp only [hs] at q
      | o c d => simp only [hs] at q
      | p r =>
        simp only [hs] at q
        obtain ⟨r1, r2⟩ := v2
        cases hr : s[r]? with
        | none => simp only [hr] at q
        | some o =>
          cases o with
          | none => simp only [hr] at q
          | some m =>
            obtain ⟨u, u1, u2⟩ := Rl0.at_ _ _ hr
            rw [r2] at u1
            cases u1
            cases m with
            | f d =>
              simp only [hr] at q
              cases hit : itemsOf d with
              | none => simp only [hit] at q
              | some ds =>
                simp only [hit] at q
                exact stay v1 u2 hit q
            | l ds =>
              simp only [hr] at q
              obtain ⟨a, us, rfl, h1, h2, h3⟩ := u2
              rw [← hn, sx_loc hi] at v1
              refine ⟨_, v1, .inl ⟨a, rfl, .inl ⟨⟨us, .inl (.inl h1)⟩, q _ z [] (Stp.refl z) (Ple.refl s) (by rw [List.append_nil]; exact Rl0) (by rw [List.append_nil]; exact it_lock r1 r2) ?_⟩⟩⟩
              rw [List.append_nil]
              exact fun z s σ _ R p => ⟨z, rfl, Stp.refl z, R, p, fun _ _ h => h, fun _ _ _ h => h⟩
            | d d => simp only [hr] at q
            | o c d => simp only [hr] at q
            | p j => simp only [hr] at q
      | l ds =>
        simp only [hs] at q
        obtain ⟨a, us, rfl, h1, h2, h3⟩ := v2
        have hil : n + i < s.length := (List.getElem?_eq_some_iff.mp hs).1
        have v1' := v1
        rw [← hn, sx_loc hi] at v1'
        -- the thing moves to a cell of its own
        have R1 : Rl X.K X.mg ((z.mov (n + i)).rel s.length) (s.set (n + i) (some (.p s.length)) ++ [some (.l ds)]) vs σ (ext ++ [.ref a]) := by
          have Rm : Rl X.K X.mg (z.mov (n + i)) (s.set (n + i) none) vs σ ext := by
            have Rd := Rl0.drop (n + i)
            refine ⟨Rl0.ok.mov _, Rd.len, fun j m' hj => ?_⟩
            have ne : n + i ≠ j := fun e => by
              rw [← e, List.getElem?_set_self hil] at hj
              cases hj
            obtain ⟨u, u1, u2⟩ := Rd.at_ j m' hj
            refine ⟨u, u1, ?_⟩
            have mv : ∀ m, own X.K X.mg z (some j, []) m u → own X.K X.mg (z.mov (n + i)) (some j, []) m u := fun m hm => own_move (z := z) (z' := z.mov (n + i)) (Ex.refl _) m [] [] u (fun a q o => ⟨rfl, (mov_other o (Ne.symm ne)).trans o⟩) hm
            cases m' with
            | f d => exact u2
            | l d => exact mv _ u2
            | d d => exact mv _ u2
            | o c d => exact mv _ u2
            | p t => exact u2
          have P := Rm.push (m := .l ds) (v := .ref a) ⟨a, us, rfl, h1, mov_self h2, h3⟩
          rw [List.length_set] at P
          refine ⟨P.ok, by rw [← P.len]; simp, fun j m' hj => ?_⟩
          by_cases e : n + i = j
          · subst e
            rw [List.getElem?_append_left (by rw [List.length_set]; exact hil), List.getElem?_set_self hil] at hj
            cases hj
            refine ⟨.ref a, sx_app v1, .inr (by rw [Rl0.len]; omega), ?_⟩
            have l : (sx vs σ ext).length = s.length := by rw [sx_len, Rl0.len]
            have e2 : sx vs σ (ext ++ [.ref a]) = sx vs σ ext ++ [some (.ref a)] := by unfold sx; simp
            rw [e2, List.getElem?_append_right (by rw [l]; exact Nat.le_refl _), l, Nat.sub_self]; rfl
          · refine P.at_ j m' ?_
            by_cases hj2 : j < s.length
            · rw [List.getElem?_append_left (by rw [List.length_set]; exact hj2), List.getElem?_set_ne e] at hj
              rw [List.getElem?_append_left (by rw [List.length_set]; exact hj2), List.getElem?_set_ne e]
              exact hj
            · rw [List.getElem?_append_right (by rw [List.length_set]; omega), List.length_set] at hj
              rw [List.getElem?_append_right (by rw [List.length_set]; omega), List.length_set]
              exact hj
        have cellat : (sx vs σ (ext ++ [.ref a]))[s.length]? = some (some (.ref a)) := by
          have l : (sx vs σ ext).length = s.length := by rw [sx_len, Rl0.len]
          have e2 : sx vs σ (ext ++ [.ref a]) = sx vs σ ext ++ [some (.ref a)] := by unfold sx; simp
          rw [e2, List.getElem?_append_right (by rw [l]; exact Nat.le_refl _), l, Nat.sub_self]; rfl
        refine ⟨_, v1', .inl ⟨a, rfl, .inl ⟨⟨us, .inl (.inl h1)⟩, q _ ((z.mov (n + i)).rel s.length) [.ref a] ((Stp.mov _ _).trans (Stp.rel _ _)) (Ple.refl s) R1 (it_lock (.inr (by rw [Rl0.len]; omega)) cellat) (back_unl Rl0 hil rfl)⟩⟩⟩
end
end Dn
end

section
set_option Elab.async false
set_option linter.all false
set_option maxRecDepth 100000
set_option maxHeartbeats 4000000
/-! DnI: ranges, enumerate, zip; targets; for; list comprehensions -/
namespace Dn
open PySem PySem.Spec PyProof.Rows L2
variable [Tb]

section
variable {X : Cx} {W : WX} {vs : List V}
/-! ### ranges -/
def rgD (lo c : Int) (n : Nat) : List D := (List.range n).map fun i => .int (lo + (i : Nat) * c)
theorem rgD_get {lo c : Int} {n i : Nat} {d : D} (h : (rgD lo c n)[i]? = some d) : i < n ∧ d = .int (lo + (i : Nat) * c) := by
  unfold rgD at h
  rw [List.getElem?_map] at h
  by_cases hi : i < n
  · rw [List.getElem?_range hi] at h
    cases h
    exact ⟨hi, rfl⟩
  · rw [List.getElem?_eq_none (by simp; omega)] at h; cases h
theorem it_range {K : PySem.W.Frag} {mg : Mg} {z0 : Z} {ext : List V} {n0 : Nat} {lo c : Int} {n : Nat} {J : It} {b : Env → Env} (h1 : ∀ i H, J.go i H ↔ i < n) (h2 : ∀ i H x H', J.yld i H x H' → H' = H ∧ x = .int (lo + (i : Nat) * c)) (h3 : ∀ i H, n ≤ i → J.stop i H) :
    ItOk K mg J z0 vs ext n0 ⟨rgD lo c n, [], b⟩ := by
  refine ⟨fun _ => True, fun _ _ _ _ _ _ _ => trivial, fun z i d k _ hd => ?_, fun z k _ => h3 _ _ ?_⟩
  · obtain ⟨hi, rfl⟩ := rgD_get hd
    refine ⟨(h1 i _).mpr hi, fun x H' hy => ?_⟩
    obtain ⟨rfl, rfl⟩ := h2 _ _ _ _ hy
    exact ⟨z, rfl, Stp.refl z, k, fun _ _ _ => ⟨rfl, rfl⟩, rfl⟩
  · show n ≤ (rgD lo c n).length
    unfold rgD
    simp
def rngOk (i : Int) : Bool := decide (-(2 ^ 62) ≤ i ∧ i < 2 ^ 62)
theorem rngOk_ok {i : Int} (h : rngOk i = true) : -(2 ^ 62) ≤ i ∧ i < 2 ^ 62 := of_decide_eq_true h
/-- range(..), the arguments frozen -/
def rg1 : List D → Option (List D)
  | [.int j] => if rngOk j then some (rgD 0 1 j.toNat) else none
  | _ => none
def rg2 : List D → Option (List D)
  | [.int i, .int j] => if rngOk i && rngOk j then some (rgD i 1 (j - i).toNat) else none
  | _ => none
/-- downward by ones -/
def rg3 : List D → Option (List D)
  | [.int i, .int j, .int c] => if rngOk i && rngOk j && c == -1 then some (rgD i (-1) (i - j).toNat) else none
  | _ => none
def iRg (f : List D → Option (List D)) (a : Env → Re (List D)) : Env → Re Src := fun s => match a s with
  | .ok ds s1 => (match f ds with
    | some is => .ok ⟨is, [], id⟩ s1
    | none => .bad)
  | .ex e s1 => .ex e s1
  | .bad => .bad
theorem rg_step {K : PySem.W.Frag} {mg : Mg} {f : List D → Option (List D)} {a : Env → Re (List D)} {σ : L2.St} {H : Hp} {R : It → Hp → Prop} {T : List V → Hp → Prop} (h : rdI K mg W vs (iRg f a) σ H R)
    (k : ∀ ds is us z1 ext, f ds = some is → reps K mg z1.F ds us → (∀ J, (∀ b, ItOk K mg J z1 vs ext σ.length ⟨is, [], b⟩) → R J z1.H) → T us z1.H) : rdVs K mg W vs a σ H T := by
  obtain ⟨z, s, ext, hz, Rl0, q⟩ := h
  refine ⟨z, s, ext, hz, Rl0, ?_⟩
  unfold iRg at q
  cases hd : a s with
  | bad => simp only [hd] at q
  | ex e s1 =>
    simp only [hd] at q
    exact q
  | ok ds s1 =>
    simp only [hd] at q
    intro us z1 st pl R1 r
    cases hf : f ds with
    | none => simp only [hf] at q
    | some is =>
      simp only [hf] at q
      refine k ds is us z1 ext hf r fun J hJ => q J z1 [] st (Ple.refl s) (by rw [List.append_nil]; exact R1) (by rw [List.append_nil]; exact hJ _) ?_
      rw [List.append_nil]
      exact back_id pl
section
variable {p pos : Pos} {tg a b c : Expr} {da : Env → Re (List D)}
theorem i_range1 (hm : X.mg "range" = none) (ha : VMs X W vs [a] da) (hg : Gl X "range" := by rfl) (hs : starEach [a] X.env = [(false, eval a X.env)] := by rfl) : IM X W vs tg (.Call (.Name "range" p) [a] [] pos) (iRg rg1 da) := wkI (pi_range1 hg hm ha hs) fun σ H R _ h => rg_step h fun ds is us z1 ext hf r q => by
  unfold rg1 at hf
  split at hf
  · rename_i j
    split at hf
    · rename_i hj
      cases hf
      obtain ⟨u, w, rfl, h1, h2⟩ := r
      obtain rfl : w = [] := h2
      obtain rfl : u = .int j := h1
      obtain ⟨j1, j2⟩ := rngOk_ok hj
      exact ⟨j, rfl, j1, j2, q _ fun b => it_range (fun _ _ => Iff.rfl) (fun i H x H' hy => ⟨hy.1, by rw [hy.2, Int.mul_one]⟩) fun _ _ hn => hn⟩
    · cases hf
  · cases hf
theorem i_range2 (hm : X.mg "range" = none) (ha : VMs X W vs [a, b] da) (hg : Gl X "range" := by rfl) (hs : starEach [a, b] X.env = [(false, eval a X.env), (false, eval b X.env)] := by rfl) (hs2 : starEach [b] X.env = [(false, eval b X.env)] := by rfl) :
    IM X W vs tg (.Call (.Name "range" p) [a, b] [] pos) (iRg rg2 da) := wkI (pi_range2 hg hm ha hs hs2) fun σ H R _ h => rg_step h fun ds is us z1 ext hf r q => by
  unfold rg2 at hf
  split at hf
  · rename_i i j
    split at hf
    · rename_i hj
      cases hf
      rw [Bool.and_eq_true] at hj
      obtain ⟨u, w, rfl, h1, u2, w2, rfl, h3, h4⟩ := r
      obtain rfl : w2 = [] := h4
      obtain rfl : u = .int i := h1
      obtain rfl : u2 = .int j := h3
      obtain ⟨i1, i2⟩ := rngOk_ok hj.1
      obtain ⟨j1, j2⟩ := rngOk_ok hj.2
      exact ⟨i, j, rfl, ⟨i1, i2, j1, j2⟩, q _ fun b => it_range (fun _ _ => Iff.rfl) (fun i H x H' hy => ⟨hy.1, by rw [hy.2, Int.mul_one]⟩) fun _ _ hn => hn⟩
    · cases hf
  · cases hf
theorem i_range3 (hm : X.mg "range" = none) (ha : VMs X W vs [a, b, c] da) (hg : Gl X "range" := by rfl)
    (hs : starEach [a, b, c] X.env = (false, eval a X.env) :: starEach [b, c] X.env := by rfl) (hpl : (backTo pos (starEach [b, c] X.env)).any (·.1) = false := by rfl) :
    IM X W vs tg (.Call (.Name "range" p) [a, b, c] [] pos) (iRg rg3 da) := wkI (pi_range3 hg hm ha hs hpl) fun σ H R _ h => rg_step h fun ds is us z1 ext hf r q => by
  unfold rg3 at hf
  split at hf
  · rename_i i j k
    split at hf
    · rename_i hj
      cases hf
      rw [Bool.and_eq_true, Bool.and_eq_true] at hj
      obtain ⟨u, w, rfl, h1, u2, w2, rfl, h3, u3, w3, rfl, h5, h6⟩ := r
      obtain rfl : w3 = [] := h6
      obtain rfl : u = .int i := h1
      obtain rfl : u2 = .int j := h3
      obtain rfl : u3 = .int k := h5
      obtain ⟨i1, i2⟩ := rngOk_ok hj.1.1
      obtain ⟨j1, j2⟩ := rngOk_ok hj.1.2
      have ek : k = -1 := by simpa using hj.2
      subst ek
      exact ⟨i, j, -1, _, rfl, RgC.neg i1 i2 j1 j2, q _ fun b => it_range (fun _ _ => Iff.rfl) (fun i H x H' hy => hy) fun _ _ hn => hn⟩
    · cases hf
  · cases hf
end

/-! ### targets -/
def rdG (K : PySem.W.Frag) (mg : Mg) (vs : List V) (t : D → Env → Option Env) : TG := fun v σ H Q => ∃ z s ext d, z.H = H ∧ Rl K mg z s vs σ ext ∧ rep K mg z.F d v ∧ match t d s with
  | none => False
  | some s' => ∀ σ' z', σ'.length = σ.length → Stp z z' → Ple s' s → Rl K mg z' s' vs σ' ext → Q σ' z'.H
def rdGs (K : PySem.W.Frag) (mg : Mg) (vs : List V) (t : List D → Env → Option Env) : TGs := fun us σ H Q => ∃ z s ext d, z.H = H ∧ Rl K mg z s vs σ ext ∧ reps K mg z.F d us ∧ match t d s with
  | none => False
  | some s' => ∀ σ' z', σ'.length = σ.length → Stp z z' → Ple s' s → Rl K mg z' s' vs σ' ext → Q σ' z'.H
abbrev GM (X : Cx) (vs : List V) (tg : Expr) (t : D → Env → Option Env) : Prop := PG X tg (rdG X.K X.mg vs t)
abbrev GMs (X : Cx) (vs : List V) (tg : List Expr) (t : List D → Env → Option Env) : Prop := PGs X tg (rdGs X.K X.mg vs t)
theorem wkG {X : Cx} {e : Expr} {t t' : TG} (h : PG X e t) (k : ∀ v σ H Q, σ.length = X.N.length → t' v σ H Q → t v σ H Q) : PG X e t' := ⟨fun pins s σ H v u Q I r q => h.run pins s σ H v u Q I r (k v σ H Q I.len q)⟩
theorem wkGs {X : Cx} {e : List Expr} {t t' : TGs} (h : PGs X e t) (k : ∀ v σ H Q, σ.length = X.N.length → t' v σ H Q → t v σ H Q) : PGs X e t' := ⟨fun pins s σ H v u Q I r q => h.run pins s σ H v u Q I r (k v σ H Q I.len q)⟩
def gN (i : Nat) : D → Env → Option Env := fun d s => some (s.set i (some (.f d)))
theorem g_name {i n : Nat} {x : Str} {pos : Pos} (hN : X.N.Nodup) (hi : X.N[i]? = some x := by rfl) (hx : Loc X.env.scope x := by first | exact Or.inl rfl | exact Or.inr rfl) (hn : vs.length = n := by rfl) (hf : X.fn x = true ∨ X.env.scope.names.lookup x = some .local := by first | exact .inl rfl | exact .inr rfl | assumption) :
    GM X vs (.Name x pos) (gN (n + i)) := wkG (pg_name hN hi hx hf) fun v σ H Q hl h => by
  obtain ⟨z, s, ext, d, hz, R, r, q⟩ := h
  have hi' : i < σ.length := by rw [hl]; exact (List.getElem?_eq_some_iff.mp hi).1
  have P := R.put hi' (m := .f d) (v := v) r
  rw [hn] at P
  subst hz
  exact q _ (z.rel (n + i)) (by rw [List.length_set]) (Stp.rel _ _) (Ple.set fun j e => by cases e) P
def gNilD : List D → Env → Option Env := fun ds s => match ds with
  | [] => some s
  | _ => none
def gConsD (t : D → Env → Option Env) (u : List D → Env → Option Env) : List D → Env → Option Env := fun ds s => match ds with
  | d :: r => (match t d s with
    | some s1 => u r s1
    | none => none)
  | [] => none
theorem gs_nil : GMs X vs [] gNilD := wkGs pgs_nil fun us σ H Q _ h => by
  obtain ⟨z, s, ext, d, hz, R, r, q⟩ := h
  subst hz
  cases d with
  | nil =>
    obtain rfl : us = [] := r
    exact ⟨rfl, q σ z rfl (Stp.refl z) (Ple.refl s) R⟩
  | cons a b => exact q.elim
theorem gs_cons {e : Expr} {es : List Expr} {t : D → Env → Option Env} {u : List D → Env → Option Env} (h1 : GM X vs e t) (h2 : GMs X vs es u) (hs : (assignEach (e :: es) X.env).map (·.2) = assign e X.env :: (assignEach es X.env).map (·.2) := by rfl) : GMs X vs (e :: es) (gConsD t u) := wkGs (pgs_cons h1 h2 hs) fun us σ H Q _ h => by
  obtain ⟨z, s, ext, ds, hz, R, r, q⟩ := h
  cases ds with
  | nil => exact q.elim
  | cons d ds =>
    obtain ⟨v, w, rfl, r1, r2⟩ := r
    refine ⟨v, w, rfl, z, s, ext, d, hz, R, r1, ?_⟩
    unfold gConsD at q
    cases ht : t d s with
    | none => simp only [ht] at q
    | some s1 =>
      simp only [ht] at q
      intro σ1 z1 l st pl R1
      refine ⟨z1, s1, ext, ds, rfl, R1, reps_ex st.ef ds w r2, ?_⟩
      cases hu : u ds s1 with
      | none => simp only [hu] at q
      | some s2 =>
        simp only [hu] at q
        exact fun σ2 z2 l2 st2 pl2 R2 => q σ2 z2 (l2.trans l) (st.trans st2) (pl2.trans pl) R2
def gT (n : Nat) (u : List D → Env → Option Env) : D → Env → Option Env := fun d s => match d with
  | .tup ds => if ds.length = n then u ds s else none
  | _ => none
theorem g_tup {es : List Expr} {k : Nat} {pos : Pos} {u : List D → Env → Option Env} (hc : X.calm = true) (h : GMs X vs es u) (hn : (assignEach es X.env).length = es.length := by rfl) (hst : (assignEach es X.env).findIdx? (·.1) = none := by rfl) : GM X vs (.Tuple es k pos) (gT es.length u) := by
  refine wkG (pg_tup (n := es.length) hc h hn hst) fun v σ H Q _ h => ?_
  obtain ⟨z, s, ext, d, hz, R, r, q⟩ := h
  unfold gT at q
  cases d with
  | tup ds =>
    simp only at q
    by_cases hl : ds.length = es.length
    · rw [if_pos hl] at q
      obtain ⟨a, us, rfl, h1, h2⟩ := r
      subst hz
      exact ⟨a, us, rfl, sqT_ex R.ok.ex h1, by rw [reps_len h2]; exact hl, z, s, ext, ds, rfl, R, h2, q⟩
    · rw [if_neg hl] at q
      exact q.elim
  | _ => exact q.elim

/-! ### for -/
mutual
def deq : D → D → Bool
  | .non, .non => true
  | .bl a, .bl b => a == b
  | .int a, .int b => decide (a = b)
  | .str a, .str b => decide (a = b)
  | .ty a, .ty b => decide (a = b)
  | .adr a, .adr b => decide (a = b)
  | .tup a, .tup b => deqs a b
  | .lst a, .lst b => deqs a b
  | .rl a, .rl b => deqs a b
  | .dic a, .dic b => deqk a b
  | .ins c a, .ins d b => decide (c = d) && deqf a b
  | .exc c e a, .exc d f b => decide (c = d) && decide (e = f) && deqf a b
  | _, _ => false
def deqs : List D → List D → Bool
  | [], [] => true
  | x :: a, y :: b => deq x y && deqs a b
  | _, _ => false
def deqk : List (Key × D) → List (Key × D) → Bool
  | [], [] => true
  | (k, x) :: a, (l, y) :: b => decide (k = l) && deq x y && deqk a b
  | _, _ => false
def deqf : List (Str × D) → List (Str × D) → Bool
  | [], [] => true
  | (k, x) :: a, (l, y) :: b => decide (k = l) && deq x y && deqf a b
  | _, _ => false
end
mutual
theorem deq_eq : ∀ (a b : D), deq a b = true → a = b
  | .non, b, h => by cases b <;> first | rfl | simp [deq] at h
  | .bl x, b, h => by cases b <;> simp [deq] at h ⊢; exact h
  | .int x, b, h => by cases b <;> simp [deq] at h ⊢; exact h
  | .str x, b, h => by cases b <;> simp [deq] at h ⊢; exact h
  | .ty x, b, h => by cases b <;> simp [deq] at h ⊢; exact h
  | .adr x, b, h => by cases b <;> simp [deq] at h ⊢; exact h
  | .tup x, b, h => by cases b <;> simp [deq] at h ⊢; exact deqs_eq _ _ h
  | .lst x, b, h => by cases b <;> simp [deq] at h ⊢; exact deqs_eq _ _ h
  | .rl x, b, h => by cases b <;> simp [deq] at h ⊢; exact deqs_eq _ _ h
  | .dic x, b, h => by cases b <;> simp [deq] at h ⊢; exact deqk_eq _ _ h
  | .ins c x, b, h => by cases b <;> simp [deq] at h ⊢; exact ⟨h.1, deqf_eq _ _ h.2⟩
  | .exc c e x, b, h => by cases b <;> simp [deq] at h ⊢; exact ⟨h.1.1, h.1.2, deqf_eq _ _ h.2⟩
theorem deqs_eq : ∀ (a b : List D), deqs a b = true → a = b
  | [], [], _ => rfl
  | [], _ :: _, h => by simp [deqs] at h
  | _ :: _, [], h => by simp [deqs] at h
  | x :: a, y :: b, h => by
    simp [deqs] at h
    rw [deq_eq x y h.1, deqs_eq a b h.2]
theorem deqk_eq : ∀ (a b : List (Key × D)), deqk a b = true → a = b
  | [], [], _ => rfl
  | [], _ :: _, h => by simp [deqk] at h
  | _ :: _, [], h => by simp [deqk] at h
  | (k, x) :: a, (l, y) :: b, h => by
    simp [deqk] at h
    rw [h.1.1, deq_eq x y h.1.2, deqk_eq a b h.2]
theorem deqf_eq : ∀ (a b : List (Str × D)), deqf a b = true → a = b
  | [], [], _ => rfl
  | [], _ :: _, h => by simp [deqf] at h
  | _ :: _, [], h => by simp [deqf] at h
  | (k, x) :: a, (l, y) :: b, h => by
    simp [deqf] at h
    rw [h.1.1, deq_eq x y h.1.2, deqf_eq a b h.2]
end
mutual
theorem deq_self : ∀ a : D, deq a a = true
  | .non => by simp [deq]
  | .bl x => by simp [deq]
  | .int x => by simp [deq]
  | .str x => by simp [deq]
  | .ty x => by simp [deq]
  | .adr x => by simp [deq]
  | .tup x => by simp [deq, deqs_self x]
  | .lst x => by simp [deq, deqs_self x]
  | .rl x => by simp [deq, deqs_self x]
  | .dic x => by simp [deq, deqk_self x]
  | .ins c x => by simp [deq, deqf_self x]
  | .exc c e x => by simp [deq, deqf_self x]
theorem deqs_self : ∀ a : List D, deqs a a = true
  | [] => by simp [deqs]
  | x :: a => by simp [deqs, deq_self x, deqs_self a]
theorem deqk_self : ∀ a : List (Key × D), deqk a a = true
  | [] => by simp [deqk]
  | (k, x) :: a => by simp [deqk, deq_self x, deqk_self a]
theorem deqf_self : ∀ a : List (Str × D), deqf a a = true
  | [] => by simp [deqf]
  | (k, x) :: a => by simp [deqf, deq_self x, deqf_self a]
end
def lkBb (s : Env) : List (Nat × List D) → Bool
  | [] => true
  | (j, ds) :: r => (match s[j]? with
    | some (some (.l es)) => deqs es ds
    | _ => false) && lkBb s r
theorem lkBb_iff {s : Env} : ∀ {ls : List (Nat × List D)}, lkBb s ls = true ↔ lkB s ls
  | [] => by simp [lkBb, lkB]
  | (j, ds) :: r => by
    unfold lkBb lkB
    rw [Bool.and_eq_true, lkBb_iff (ls := r)]
    refine and_congr_left fun _ => ⟨fun h => ?_, fun h => ?_⟩
    · split at h
      · rename_i es e
        rw [e, deqs_eq _ _ h]
      · cases h
    · rw [h]
      exact deqs_self ds
instance (s : Env) (ls : List (Nat × List D)) : Decidable (lkB s ls) := decidable_of_iff _ lkBb_iff
def lkC (ls : List (Nat × List D)) (s : Env) (o : Out) : Out := match ls with
  | [] => o
  | l :: r => if lkB s (l :: r) then o else .bad
def forL (ls : List (Nat × List D)) (t : D → Env → Option Env) (b : Env → Out) : List D → Env → Out
  | [], s => lkC ls s (.nx s)
  | d :: ds, s => lkC ls s (match t d s with
    | none => .bad
    | some s1 => match b s1 with
      | .nx s2 => forL ls t b ds s2
      | .ct s2 => forL ls t b ds s2
      | .bk s2 => .nx s2
      | o => o)
def wrapO (f : Env → Env) : Out → Out
  | .nx s => .nx (f s)
  | .rt m s => .rt m (f s)
  | .ex e s => .ex e (f s)
  | _ => .bad
def dFor (src : Env → Re Src) (t : D → Env → Option Env) (b : Env → Out) : Env → Out := fun s => match src s with
  | .ok S s1 => wrapO S.back (forL S.locks t b S.items s1)
  | .ex e s1 => .ex e s1
  | .bad => .bad
theorem lkC_some {ls : List (Nat × List D)} {s : Env} {o : Out} {P : Out → Prop} (hb : ¬ P .bad) (h : P (lkC ls s o)) : lkB s ls ∧ P o := by
  unfold lkC at h
  cases ls with
  | nil => exact ⟨trivial, h⟩
  | cons l r =>
    simp only at h
    by_cases hk : lkB s (l :: r)
    · rw [if_pos hk] at h
      exact ⟨hk, h⟩
    · rw [if_neg hk] at h
      exact absurd h hb
theorem s_for {iter tg : Expr} {body : List Stmt} {pos : Pos} {src : Env → Re Src} {t : D → Env → Option Env} {db : Env → Out} (hp : PassesOwn (model X.prog X.w) X.A X.env X.xe) (hc : X.calm = true) (hi : IM X W vs tg iter src) (hg : GM X vs tg t) (hb : SMs X W vs body db)
    (hs : ∀ x, foldedSetIterable iter X.env x = pure x := by intro _; rfl) : SM X W vs (.For tg iter body [] pos) (dFor src t db) := wkS (ps_for hp hc hi hg hb hs) fun D σ0 H _ h => by
  obtain ⟨z0, s0, ext, hz, R0, q0⟩ := h
  refine ⟨z0, s0, ext, hz, R0, ?_⟩
  unfold dFor at q0
  cases hsr : src s0 with
  | bad => simp only [hsr] at q0; exact q0
  | ex e s1 =>
    simp only [hsr] at q0
    exact xQ_E q0
  | ok S s1 =>
    simp only [hsr] at q0
    intro J z1 more st1 _ R1 ⟨G, g1, g2, g3⟩ back
    -- the loop's end, seen from its start
    have out : ∀ {o : Out} (P : ∀ z s σ, σ.length = σ0.length → Stp z0 z → Ple s s1 → Rl X.K X.mg z s vs σ (ext ++ more) → Prop), True := fun _ => trivial
    refine ⟨fun i m σ H => ∃ z s, z.H = H ∧ Rl X.K X.mg z s vs σ (ext ++ more) ∧ σ.length = σ0.length ∧ Stp z1 z ∧ Ple s s1 ∧ i + m = S.items.length ∧ outQ X.K X.mg W D z0 s0 vs ext σ0.length (wrapO S.back (forL S.locks t db (S.items.drop i) s)),
      ⟨S.items.length, z1, s1, rfl, R1, rfl, Stp.refl _, Ple.refl _, by omega, by rw [List.drop_zero]; exact q0⟩, fun i m σ H hW => ?_⟩
    obtain ⟨z, s, hz, R, hl, st, pl, him, q⟩ := hW
    subst hz
    cases hd : S.items[i]? with
    | none =>
      have hi : i = S.items.length := by
        have := List.getElem?_eq_none_iff.mp hd
        omega
      rw [List.drop_eq_nil_of_le (by omega)] at q
      have q : outQ X.K X.mg W D z0 s0 vs ext σ0.length (wrapO S.back (lkC S.locks s (.nx s))) := q
      obtain ⟨lk, q⟩ := lkC_some (P := fun o => outQ X.K X.mg W D z0 s0 vs ext σ0.length (wrapO S.back o)) (fun h => h) q
      refine .inl ⟨?_, ?_⟩
      · rw [hi]
        exact g3 z R.ok (g1 z s σ hl st R lk)
      · obtain ⟨z2, e2, st2, R2, pl2, _, _⟩ := back z s σ hl R pl
        rw [← e2]
        exact q σ z2 hl ((st1.trans st).trans st2) pl2 R2
    | some d =>
      have hi : i < S.items.length := (List.getElem?_eq_some_iff.mp hd).1
      have ed : S.items.drop i = d :: S.items.drop (i + 1) := by
        rw [List.drop_eq_getElem_cons hi]
        rw [List.getElem?_eq_getElem hi] at hd
        cases hd; rfl
      rw [ed] at q
      have q : outQ X.K X.mg W D z0 s0 vs ext σ0.length (wrapO S.back (lkC S.locks s (match t d s with
        | none => .bad
        | some s1 => match db s1 with
          | .nx s2 => forL S.locks t db (S.items.drop (i + 1)) s2
          | .ct s2 => forL S.locks t db (S.items.drop (i + 1)) s2
          | .bk s2 => .nx s2
          | o => o))) := q
      obtain ⟨lk, q⟩ := lkC_some (P := fun o => outQ X.K X.mg W D z0 s0 vs ext σ0.length (wrapO S.back o)) (fun h => h) q
      obtain ⟨go, yl⟩ := g2 z i d R.ok (g1 z s σ hl st R lk) hd
      refine .inr ⟨go, fun σ' H' => ∃ z s, z.H = H' ∧ Rl X.K X.mg z s vs σ' (ext ++ more) ∧ σ'.length = σ0.length ∧ Stp z1 z ∧ Ple s s1 ∧ outQ X.K X.mg W D z0 s0 vs ext σ0.length (wrapO S.back (forL S.locks t db (S.items.drop (i + 1)) s)), fun σ' H' hN => ?_, fun x H' hy => ?_⟩
      · obtain ⟨z', s', a1, a2, a3, a4, a5, a6⟩ := hN
        exact ⟨m - 1, by omega, z', s', a1, a2, a3, a4, a5, by omega, a6⟩
      · obtain ⟨z2, e2, st2, k2, u2, r2⟩ := yl x H' hy
        have R2 : Rl X.K X.mg z2 s vs σ (ext ++ more) := R.to k2 st2.ef fun a i q o => u2 a _ o
        refine ⟨z2, s, ext ++ more, d, e2, R2, r2, ?_⟩
        cases ht : t d s with
        | none => simp only [ht] at q; exact q
        | some s3 =>
          simp only [ht] at q
          intro σ3 z3 l3 st3 pl3 R3
          refine ⟨z3, s3, ext ++ more, rfl, R3, ?_⟩
          have ST : Stp z1 z3 := (st.trans st2).trans st3
          have PL : Ple s3 s1 := pl3.trans pl
          cases hbd : db s3 with
          | nx s4 =>
            simp only [hbd] at q
            exact fun σ4 z4 l4 st4 pl4 R4 => ⟨z4, s4, rfl, R4, l4.trans (l3.trans hl), ST.trans st4, pl4.trans PL, q⟩
          | ct s4 =>
            simp only [hbd] at q
            exact fun σ4 z4 l4 st4 pl4 R4 => ⟨z4, s4, rfl, R4, l4.trans (l3.trans hl), ST.trans st4, pl4.trans PL, q⟩
          | bk s4 =>
            simp only [hbd] at q
            intro σ4 z4 l4 st4 pl4 R4
            obtain ⟨z5, e5, st5, R5, pl5, _, _⟩ := back z4 s4 σ4 (l4.trans (l3.trans hl)) R4 (pl4.trans PL)
            rw [← e5]
            exact q σ4 z5 (l4.trans (l3.trans hl)) (((st1.trans ST).trans st4).trans st5) pl5 R5
          | rt m4 s4 =>
            simp only [hbd] at q
            intro σ4 v4 z4 l4 st4 pl4 R4 ow
            obtain ⟨z5, e5, st5, R5, pl5, om, _⟩ := back z4 s4 σ4 (l4.trans (l3.trans hl)) R4 (pl4.trans PL)
            rw [← e5]
            exact q σ4 v4 z5 (l4.trans (l3.trans hl)) (((st1.trans ST).trans st4).trans st5) pl5 R5 (om _ _ ow)
          | ex e4 s4 =>
            simp only [hbd] at q
            intro σ4 cls dd z4 l4 st4 pl4 R4 x4
            obtain ⟨z5, e5, st5, R5, pl5, _, ox⟩ := back z4 s4 σ4 (l4.trans (l3.trans hl)) R4 (pl4.trans PL)
            rw [← e5]
            exact q σ4 cls dd z5 (l4.trans (l3.trans hl)) (((st1.trans ST).trans st4).trans st5) pl5 R5 (ox _ _ _ x4)
          | bad =>
            simp only [hbd] at q
            exact q
end
end Dn
end

section
set_option Elab.async false
set_option linter.all false
set_option maxRecDepth 100000
set_option maxHeartbeats 4000000
/-! DnJ: list comprehensions -/
namespace Dn
open PySem PySem.Spec PyProof.Rows L2
variable [Tb]

/-! ### targets that turn their own slots alone -/
def rdGw (K : PySem.W.Frag) (mg : Mg) (vs : List V) (ow : List Nat) (t : D → Env → Option Env) : TG := fun v σ H Q => ∃ z s ext d, z.H = H ∧ Rl K mg z s vs σ ext ∧ rep K mg z.F d v ∧ match t d s with
  | none => False
  | some s' => ∀ σ' z', wipe σ' ow = wipe σ ow → Stp z z' → Ple s' s → Rl K mg z' s' vs σ' ext → Q σ' z'.H
def rdGws (K : PySem.W.Frag) (mg : Mg) (vs : List V) (ow : List Nat) (t : List D → Env → Option Env) : TGs := fun us σ H Q => ∃ z s ext d, z.H = H ∧ Rl K mg z s vs σ ext ∧ reps K mg z.F d us ∧ match t d s with
  | none => False
  | some s' => ∀ σ' z', wipe σ' ow = wipe σ ow → Stp z z' → Ple s' s → Rl K mg z' s' vs σ' ext → Q σ' z'.H
abbrev GW (X : Cx) (vs : List V) (ow : List Nat) (tg : Expr) (t : D → Env → Option Env) : Prop := PG X tg (rdGw X.K X.mg vs ow t)
abbrev GWs (X : Cx) (vs : List V) (ow : List Nat) (tg : List Expr) (t : List D → Env → Option Env) : Prop := PGs X tg (rdGws X.K X.mg vs ow t)
theorem wipe_set {σ : L2.St} {i : Nat} {x : Option V} : ∀ {ow : List Nat}, i ∈ ow → wipe (σ.set i x) ow = wipe σ ow
  | [], h => by cases h
  | j :: ow, h => by
    unfold wipe
    by_cases hi : i ∈ ow
    · rw [wipe_set hi]
    · have e : i = j := by
        rcases List.mem_cons.mp h with e | h
        · exact e
        · exact absurd h hi
      subst e
      have key : ∀ ow : List Nat, (wipe (σ.set i x) ow).set i none = (wipe σ ow).set i none := fun ow => by
        induction ow with
        | nil => simp [wipe]
        | cons k ow ih =>
          by_cases hk : k = i
          · subst hk
            show ((wipe (σ.set k x) ow).set k none).set k none = ((wipe σ ow).set k none).set k none
            rw [ih]
          · show ((wipe (σ.set i x) ow).set k none).set i none = ((wipe σ ow).set k none).set i none
            rw [List.set_comm _ _ hk, ih, List.set_comm _ _ (Ne.symm hk)]
      exact key ow
theorem wipe_len2 {σ σ' : L2.St} {ow : List Nat} (h : wipe σ' ow = wipe σ ow) : σ'.length = σ.length := by
  have := congrArg List.length h
  rw [wipe_length, wipe_length] at this
  exact this
section
variable {X : Cx} {vs : List V} {ow : List Nat}
theorem gw_name {i n : Nat} {x : Str} {pos : Pos} (hN : X.N.Nodup) (hi : X.N[i]? = some x := by rfl) (hx : Loc X.env.scope x := by first | exact Or.inl rfl | exact Or.inr rfl) (hn : vs.length = n := by rfl) (hm : i ∈ ow := by decide) (hf : X.fn x = true ∨ X.env.scope.names.lookup x = some .local := by first | exact .inl rfl | exact .inr rfl | assumption) :
    GW X vs ow (.Name x pos) (gN (n + i)) := wkG (pg_name hN hi hx hf) fun v σ H Q hl h => by
  obtain ⟨z, s, ext, d, hz, R, r, q⟩ := h
  have hi' : i < σ.length := by rw [hl]; exact (List.getElem?_eq_some_iff.mp hi).1
  have P := R.put hi' (m := .f d) (v := v) r
  rw [hn] at P
  subst hz
  exact q _ (z.rel (n + i)) (wipe_set hm) (Stp.rel _ _) (Ple.set fun j e => by cases e) P
theorem gws_nil : GWs X vs ow [] gNilD := wkGs pgs_nil fun us σ H Q _ h => by
  obtain ⟨z, s, ext, d, hz, R, r, q⟩ := h
  subst hz
  cases d with
  | nil =>
    obtain rfl : us = [] := r
    exact ⟨rfl, q σ z rfl (Stp.refl z) (Ple.refl s) R⟩
  | cons a b => exact q.elim
theorem gws_cons {e : Expr} {es : List Expr} {t : D → Env → Option Env} {u : List D → Env → Option Env} (h1 : GW X vs ow e t) (h2 : GWs X vs ow es u) (hs : (assignEach (e :: es) X.env).map (·.2) = assign e X.env :: (assignEach es X.env).map (·.2) := by rfl) : GWs X vs ow (e :: es) (gConsD t u) := wkGs (pgs_cons h1 h2 hs) fun us σ H Q _ h => by
  obtain ⟨z, s, ext, ds, hz, R, r, q⟩ := h
  cases ds with
  | nil => exact q.elim
  | cons d ds =>
    obtain ⟨v, w, rfl, r1, r2⟩ := r
    refine ⟨v, w, rfl, z, s, ext, d, hz, R, r1, ?_⟩
    unfold gConsD at q
    cases ht : t d s with
    | none => simp only [ht] at q
    | some s1 =>
      simp only [ht] at q
      intro σ1 z1 l st pl R1
      refine ⟨z1, s1, ext, ds, rfl, R1, reps_ex st.ef ds w r2, ?_⟩
      cases hu : u ds s1 with
      | none => simp only [hu] at q
      | some s2 =>
        simp only [hu] at q
        exact fun σ2 z2 l2 st2 pl2 R2 => q σ2 z2 (l2.trans l) (st.trans st2) (pl2.trans pl) R2
theorem gw_tup {es : List Expr} {k : Nat} {pos : Pos} {u : List D → Env → Option Env} (hc : X.calm = true) (h : GWs X vs ow es u) (hn : (assignEach es X.env).length = es.length := by rfl) (hst : (assignEach es X.env).findIdx? (·.1) = none := by rfl) : GW X vs ow (.Tuple es k pos) (gT es.length u) := by
  refine wkG (pg_tup (n := es.length) hc h hn hst) fun v σ H Q _ h => ?_
  obtain ⟨z, s, ext, d, hz, R, r, q⟩ := h
  unfold gT at q
  cases d with
  | tup ds =>
    simp only at q
    by_cases hl : ds.length = es.length
    · rw [if_pos hl] at q
      obtain ⟨a, us, rfl, h1, h2⟩ := r
      subst hz
      exact ⟨a, us, rfl, sqT_ex R.ok.ex h1, by rw [reps_len h2]; exact hl, z, s, ext, ds, rfl, R, h2, q⟩
    · rw [if_neg hl] at q
      exact q.elim
  | _ => exact q.elim
end

/-! ### the block's own slots -/
/-- the own slots emptied -/
def clr (ow : List Nat) (s : Env) : Env := ow.foldl (fun s i => s.set i none) s
/-- the own slots as they were -/
def rst (ow : List Nat) (s0 s : Env) : Env := ow.foldl (fun s i => s.set i (s0[i]?.getD none)) s
/-- a comprehension may hide what is no thing of the slot's own -/
def hid (ow : List Nat) (s : Env) : Bool := ow.all fun i => match s[i]? with
  | some (some (.f _)) => true
  | some (some (.p _)) => true
  | some none => true
  | _ => false
theorem clr_len : ∀ (ow : List Nat) (s : Env), (clr ow s).length = s.length
  | [], _ => rfl
  | i :: ow, s => by
    show (clr ow (s.set i none)).length = _
    rw [clr_len ow]; simp
theorem clr_get : ∀ (ow : List Nat) (s : Env) (j : Nat), (clr ow s)[j]? = if j ∈ ow ∧ j < s.length then some none else s[j]?
  | [], s, j => by simp [clr]
  | i :: ow, s, j => by
    show (clr ow (s.set i none))[j]? = _
    rw [clr_get ow]
    simp only [List.length_set, List.mem_cons]
    by_cases hj : j ∈ ow
    · by_cases hl : j < s.length
      · simp [hj, hl]
      · simp [hj, hl]
    · by_cases e : j = i
      · subst e
        by_cases hl : j < s.length
        · simp [hj, hl]
        · simp [hj, hl]
      · simp [hj, e, List.getElem?_set_ne (Ne.symm e)]
theorem rst_len : ∀ (ow : List Nat) (s0 s : Env), (rst ow s0 s).length = s.length
  | [], _, _ => rfl
  | i :: ow, s0, s => by
    show (rst ow s0 (s.set i _)).length = _
    rw [rst_len ow]; simp
theorem rst_get : ∀ (ow : List Nat) (s0 s : Env) (j : Nat), s0.length = s.length → (rst ow s0 s)[j]? = if j ∈ ow then s0[j]? else s[j]?
  | [], s0, s, j, _ => by simp [rst]
  | i :: ow, s0, s, j, hl => by
    show (rst ow s0 (s.set i (s0[i]?.getD none)))[j]? = _
    rw [rst_get ow s0 _ j (by simpa using hl)]
    simp only [List.mem_cons]
    by_cases hj : j ∈ ow
    · simp [hj]
    · by_cases e : j = i
      · subst e
        simp only [hj, or_false, if_true]
        by_cases hb : j < s.length
        · simp [hb, hl]
        · have a : s0[j]? = none := List.getElem?_eq_none (by omega)
          have b : s[j]? = none := List.getElem?_eq_none (by omega)
          rw [a, List.getElem?_eq_none (by rw [List.length_set]; omega)]; simp
      · simp [hj, e, List.getElem?_set_ne (Ne.symm e)]
theorem wipe_get {σ : L2.St} {j : Nat} : ∀ {ow : List Nat}, j ∉ ow → (wipe σ ow)[j]? = σ[j]?
  | [], _ => rfl
  | i :: ow, h => by
    unfold wipe
    rw [List.getElem?_set_ne (fun e => h (by rw [← e]; exact List.mem_cons_self ..))]
    exact wipe_get fun hm => h (List.mem_cons_of_mem _ hm)
section
variable {K : PySem.W.Frag} {mg : Mg} {z z' : Z} {s s' : Env} {vs ext : List V} {σ : L2.St} {ow : List Nat}
theorem sx_wipe {n j : Nat} (hn : vs.length = n) (h : ∀ i ∈ ow, i < σ.length → n + i ≠ j) : (sx vs (wipe σ ow) ext)[j]? = (sx vs σ ext)[j]? := by
  by_cases h1 : j < vs.length
  · rw [sx_par h1, sx_par h1]
  · by_cases h2 : j < vs.length + σ.length
    · obtain ⟨k, rfl⟩ : ∃ k, j = vs.length + k := ⟨j - vs.length, by omega⟩
      rw [sx_loc (by rw [wipe_length]; omega), sx_loc (by omega), wipe_get fun hm => h k hm (by omega) (by omega)]
    · obtain ⟨k, rfl⟩ : ∃ k, j = vs.length + σ.length + k := ⟨j - (vs.length + σ.length), by omega⟩
      rw [sx_ext, ← wipe_length σ ow, sx_ext]
theorem Rl.wipe {n : Nat} (R : Rl K mg z s vs σ ext) (hn : vs.length = n) : Rl K mg z (clr (ow.map (n + ·)) s) vs (wipe σ ow) ext := by
  refine ⟨R.ok, by rw [clr_len, wipe_length]; exact R.len, fun j m hm => ?_⟩
  rw [clr_get] at hm
  by_cases hj : j ∈ ow.map (n + ·) ∧ j < s.length
  · rw [if_pos hj] at hm; cases hm
  · rw [if_neg hj] at hm
    have hjl := (List.getElem?_eq_some_iff.mp hm).1
    have no : ∀ i ∈ ow, i < σ.length → n + i ≠ j := fun i hi _ e => hj ⟨List.mem_map.mpr ⟨i, hi, e⟩, hjl⟩
    obtain ⟨v, v1, v2⟩ := R.at_ j m hm
    refine ⟨v, by rw [sx_wipe hn no]; exact v1, ?_⟩
    cases m with
    | f d => exact v2
    | l d => exact v2
    | d d => exact v2
    | o c d => exact v2
    | p t =>
      obtain ⟨t1, t2⟩ := v2
      refine ⟨by rw [wipe_length]; exact t1, ?_⟩
      rw [sx_wipe hn fun i hi hl e => by omega]
      exact t2
/-- the own slots come back -/
theorem Rl.unwipe {n : Nat} {z0 : Z} {s0 : Env} (R0 : Rl K mg z0 s0 vs σ ext) (R : Rl K mg z s vs (L2.wipe σ ow) ext) (hn : vs.length = n) (ef : Ex z0.F z.F) (hh : hid (ow.map (n + ·)) s0 = true) : Rl K mg z (rst (ow.map (n + ·)) s0 s) vs σ ext := by
  have hl : s0.length = s.length := by rw [R0.len, R.len, wipe_length]
  refine ⟨R.ok, by rw [rst_len, ← hl]; exact R0.len, fun j m hm => ?_⟩
  rw [rst_get _ _ _ _ hl] at hm
  by_cases hj : j ∈ ow.map (n + ·)
  · rw [if_pos hj] at hm
    obtain ⟨v, v1, v2⟩ := R0.at_ j m hm
    refine ⟨v, v1, ?_⟩
    have hh' := (List.all_eq_true.mp hh) j hj
    rw [hm] at hh'
    cases m with
    | f d => exact rep_ex ef d v v2
    | p t => exact v2
    | l d => cases hh'
    | d d => cases hh'
    | o c d => cases hh'
  · rw [if_neg hj] at hm
    have no : ∀ i ∈ ow, i < σ.length → n + i ≠ j := fun i hi _ e => hj (List.mem_map.mpr ⟨i, hi, e⟩)
    obtain ⟨v, v1, v2⟩ := R.at_ j m hm
    rw [sx_wipe hn no] at v1
    refine ⟨v, v1, ?_⟩
    cases m with
    | f d => exact v2
    | l d => exact v2
    | d d => exact v2
    | o c d => exact v2
    | p t =>
      obtain ⟨t1, t2⟩ := v2
      rw [wipe_length] at t1
      refine ⟨t1, ?_⟩
      rw [sx_wipe hn fun i hi hl e => by omega] at t2
      exact t2
end

/-! ### tests of a clause -/
def rdTs (K : PySem.W.Frag) (mg : Mg) (vs : List V) (d : Env → Re Bool) : TT := rdT K mg (fun _ _ _ _ => False) vs d
abbrev QM (X : Cx) (vs : List V) (ifs : List Expr) (d : Env → Re Bool) : Prop := PTs X ifs (rdT X.K X.mg (fun _ _ _ _ => False) vs d)
def qYes : Env → Re Bool := fun s => .ok true s
theorem q_nil {X : Cx} {vs : List V} : QM X vs [] qYes := ⟨fun pins s σ H Q I h => by
  obtain ⟨z, s', ext, hz, R, q⟩ := h
  subst hz
  exact pts_nil.run pins s σ _ Q I (q z (Stp.refl z) (Ple.refl s') R)⟩
theorem q_one {X : Cx} {vs : List V} {c : Expr} {d : Env → Re Bool} (h : TM X (fun _ _ _ _ => False) vs c d) : QM X vs [c] d := pts_one h

/-! ### the list -/
def lcL (ls : List (Nat × List D)) (ow : List Nat) (t : D → Env → Option Env) (q : Env → Re Bool) (b : Env → Re D) : List D → Env → List D → Re (List D)
  | [], s, acc => (match lkC ls s (.nx s) with
    | .nx _ => .ok acc s
    | _ => .bad)
  | d :: ds, s, acc => (match lkC ls s (.nx s) with
    | .nx _ => (match t d s with
      | none => .bad
      | some s1 => (match q s1 with
        | .ok true s2 => (match b s2 with
          | .ok x s3 => if acc.length < 16777216 then lcL ls ow t q b ds (clr ow s3) (acc ++ [x]) else .bad
          | _ => .bad)
        | .ok false s2 => lcL ls ow t q b ds (clr ow s2) acc
        | _ => .bad))
    | _ => .bad)
/-- own: the env places of the block's names -/
def cLc (ow : List Nat) (src : Env → Re Src) (t : D → Env → Option Env) (q : Env → Re Bool) (b : Env → Re D) : Env → Re M := fun s => match src s with
  | .ok S s1 => if hid ow s1 then (match lcL S.locks ow t q b S.items (clr ow s1) [] with
    | .ok ds s2 => .ok (.l ds) (S.back (rst ow s1 s2))
    | _ => .bad) else .bad
  | .ex e s1 => .ex e s1
  | .bad => .bad
theorem lkN {ls : List (Nat × List D)} {s : Env} (h : ∃ s', lkC ls s (.nx s) = .nx s') : lkB s ls ∧ lkC ls s (.nx s) = .nx s := by
  obtain ⟨s', h⟩ := h
  unfold lkC at h ⊢
  cases ls with
  | nil => exact ⟨trivial, rfl⟩
  | cons l r =>
    simp only at h ⊢
    by_cases hk : lkB s (l :: r)
    · rw [if_pos hk] at h ⊢
      exact ⟨hk, rfl⟩
    · rw [if_neg hk] at h; cases h
theorem ple_rst {ow : List Nat} {s1 s2 : Env} (hl : s1.length = s2.length) (h : Ple s2 s1) : Ple (rst ow s1 s2) s1 := fun j k e => by
  rw [rst_get _ _ _ _ hl] at e
  by_cases hj : j ∈ ow
  · rw [if_pos hj] at e; exact e
  · rw [if_neg hj] at e; exact h j k e
theorem ple_clr {ow : List Nat} {s1 s2 : Env} (h : Ple s2 s1) : Ple (clr ow s2) s1 := fun j k e => by
  rw [clr_get] at e
  split at e
  · cases e
  · exact h j k e
/-- D's own list, grown -/
theorem grow_ok {z : Z} {p : Addr} {o o' : HO} (k : Ok z) (h : z.H p = some o) (ho : z.O p = none) (hf : z.F p = none) (n : ∀ ps, o ≠ .tbl ps) (n2 : ∀ c q, o ≠ LamX.CodeO c q) (n' : ∀ ps, o' ≠ .tbl ps) : Ok ⟨z.F, upd z.H p o', z.O⟩ := by
  refine ⟨k.fr, fun a π q => ?_, fun a u q => ?_, fun a π q fs => ?_, k.tb.up h n n2 rfl n'⟩
  · have ne : a ≠ p := fun e => by
      have q : z.O a = some π := q
      rw [e, ho] at q; cases q
    show ∃ u, upd z.H p o' a = some u
    rw [upd_ne ne]; exact k.tr a π q
  · have ne : a ≠ p := fun e => by
      have q : z.F a = some u := q
      rw [e, hf] at q; cases q
    show upd z.H p o' a = some u
    rw [upd_ne ne]; exact k.ex a u q
  · have ne : a ≠ p := fun e => by
      have q : z.O a = some π := q
      rw [e, ho] at q; cases q
    show upd z.H p o' a = some fs → _
    rw [upd_ne ne]; exact k.nx a π q fs
theorem grow_rl {K : PySem.W.Frag} {mg : Mg} {z : Z} {s : Env} {vs ext : List V} {σ : L2.St} {p : Addr} {o o' : HO} (R : Rl K mg z s vs σ ext) (h : z.H p = some o) (ho : z.O p = none) (hf : z.F p = none) (n : ∀ ps, o ≠ .tbl ps) (n2 : ∀ c q, o ≠ LamX.CodeO c q) (n' : ∀ ps, o' ≠ .tbl ps) : Rl K mg ⟨z.F, upd z.H p o', z.O⟩ s vs σ ext :=
  R.to (grow_ok R.ok h ho hf n n2 n') (Ex.refl _) fun a i q e => ⟨upd_ne fun w => (by rw [w, ho] at e; cases e), rfl⟩
theorem wipe_one : ∀ {ow : List Nat} {τ : L2.St} {i : Nat}, i ∈ ow → (wipe τ ow).set i none = wipe τ ow
  | [], _, _, h => by cases h
  | k :: ow, τ, i, h => by
    show ((wipe τ ow).set k none).set i none = (wipe τ ow).set k none
    by_cases e : k = i
    · rw [e, List.set_set]
    · have h : i ∈ ow := by
        rcases List.mem_cons.mp h with h | h
        · exact absurd h.symm e
        · exact h
      rw [List.set_comm _ _ e, wipe_one h]
theorem wipe_idem (σ : L2.St) (ow : List Nat) : wipe (wipe σ ow) ow = wipe σ ow := by
  have key : ∀ ow2 : List Nat, (∀ i ∈ ow2, i ∈ ow) → wipe (wipe σ ow) ow2 = wipe σ ow := by
    intro ow2
    induction ow2 with
    | nil => intro _; rfl
    | cons k ow2 ih =>
      intro h
      show (wipe (wipe σ ow) ow2).set k none = wipe σ ow
      rw [ih fun i hi => h i (List.mem_cons_of_mem _ hi)]
      exact wipe_one (h k (List.mem_cons_self ..))
  exact key ow fun i h => h
theorem tLc_ {K : PySem.W.Frag} {mg : Mg} {W : WX} {vs : List V} {n : Nat} {ow : List Nat} {src : Env → Re Src} {t : D → Env → Option Env} {q : Env → Re Bool} {b : Env → Re D} {σ : L2.St} {H : Hp} {Q : VK} (hn : vs.length = n)
    (h : rdE K mg W vs (cLc (ow.map (n + ·)) src t q b) σ H Q) : tLc (rdI K mg W vs src) (rdGw K mg vs ow t) (rdT K mg (fun _ _ _ _ => False) vs q) (rdV K mg (fun _ _ _ _ => False) vs b) ow σ H Q := by
  obtain ⟨z0, s0, ext, hz, R0, q0⟩ := h
  refine ⟨z0, s0, ext, hz, R0, ?_⟩
  unfold cLc at q0
  cases hsr : src s0 with
  | bad => simp only [hsr] at q0
  | ex e s1 =>
    simp only [hsr] at q0
    exact q0
  | ok S s1 =>
    simp only [hsr] at q0
    intro J z1 more st1 _ R1 ⟨G, g1, g2, g3⟩ back D hD
    by_cases hh' : ¬ hid (ow.map (n + ·)) s1 = true
    · rw [if_neg hh'] at q0
      exact q0.elim
    have hh := Classical.not_not.mp hh'
    rw [if_pos hh] at q0
    have fr := R1.ok.fresh hD
    -- the list's first state
    have z1o : Ok ⟨z1.F, upd z1.H D (.lst []), z1.O⟩ := by
      refine ⟨R1.ok.fr, fun a π w => ?_, fun a u w => ?_, fun a π w fs => ?_, R1.ok.tb.new hD (.inl rfl) (fun _ e => (by cases e))⟩
      · have ne : a ≠ D := fun e => by
          have w : z1.O a = some π := w
          rw [e, fr.1] at w; cases w
        show ∃ u, upd z1.H D _ a = some u
        rw [upd_ne ne]; exact R1.ok.tr a π w
      · have ne : a ≠ D := fun e => by
          have w : z1.F a = some u := w
          rw [e, fr.2] at w; cases w
        show upd z1.H D _ a = some u
        rw [upd_ne ne]; exact R1.ok.ex a u w
      · have ne : a ≠ D := fun e => by
          have w : z1.O a = some π := w
          rw [e, fr.1] at w; cases w
        show upd z1.H D _ a = some fs → _
        rw [upd_ne ne]; exact R1.ok.nx a π w fs
    have st10 : Stp z1 ⟨z1.F, upd z1.H D (.lst []), z1.O⟩ := ⟨Ex.refl _, fun a o e _ w => ⟨by
      show upd z1.H D _ a = some o
      rw [upd_ne (ne_of_none e hD)]; exact e, w, rfl⟩⟩
    have R10 : Rl K mg ⟨z1.F, upd z1.H D (.lst []), z1.O⟩ (clr (ow.map (n + ·)) s1) vs (wipe σ ow) (ext ++ more) :=
      (R1.to z1o (Ex.refl _) fun a i w e => ⟨upd_ne fun v => (by rw [v, fr.1] at e; cases e), rfl⟩).wipe hn
    have wl : (wipe σ ow).length = σ.length := wipe_length σ ow
    refine ⟨fun i m H => ∃ z s acc accV, z.H = H ∧ Rl K mg z s vs (wipe σ ow) (ext ++ more) ∧ Stp z1 z ∧ Ple s s1 ∧ z.H D = some (.lst accV) ∧ z.O D = none ∧ z.F D = none ∧ reps K mg z.F acc accV ∧ i + m = S.items.length ∧
        (match lcL S.locks (ow.map (n + ·)) t q b (S.items.drop i) s acc with
          | .ok ds s2 => ∀ v z', Stp z0 z' → Ple (S.back (rst (ow.map (n + ·)) s1 s2)) s0 → Rl K mg z' (S.back (rst (ow.map (n + ·)) s1 s2)) vs σ ext → own K mg z' (none, []) (.l ds) v → Q v z'.H
          | _ => False),
      ⟨S.items.length, _, _, [], [], rfl, R10, st10, ple_clr (Ple.refl s1), upd_same, fr.1, fr.2, rfl, by omega, ?_⟩, fun i m H hW => ?_⟩
    · rw [List.drop_zero]
      cases hl : lcL S.locks (ow.map (n + ·)) t q b S.items (clr (ow.map (n + ·)) s1) [] with
      | ok ds s2 => simp only [hl] at q0 ⊢; exact q0
      | ex e s2 => simp only [hl] at q0
      | bad => simp only [hl] at q0
    obtain ⟨z, s, acc, accV, hz, R, st, pl, hDl, hDo, hDf, ra, him, qq⟩ := hW
    subst hz
    cases hd : S.items[i]? with
    | none =>
      have hi : i = S.items.length := by
        have := List.getElem?_eq_none_iff.mp hd
        omega
      rw [List.drop_eq_nil_of_le (by omega)] at qq
      unfold lcL at qq
      cases hlk : lkC S.locks s (.nx s) with
      | nx s' =>
        obtain ⟨lk, e⟩ := lkN ⟨s', hlk⟩
        simp only [hlk] at qq
        refine .inl ⟨?_, ?_⟩
        · rw [hi]
          exact g3 z R.ok (g1 z s _ wl st R lk)
        · -- the list goes out
          have k2 : Ok ⟨z.F, z.H, fun a => if a = D then some (none, []) else z.O a⟩ := by
            refine ⟨fun a π w => ?_, fun a π w => ?_, R.ok.ex, fun a π w fs => ?_, R.ok.tb⟩
            · by_cases e : a = D
              · rw [e]; exact hDf
              · have w : (if a = D then some (none, []) else z.O a) = some π := w
                rw [if_neg e] at w; exact R.ok.fr a π w
            · by_cases e : a = D
              · rw [e]; exact ⟨_, hDl⟩
              · have w : (if a = D then some (none, []) else z.O a) = some π := w
                rw [if_neg e] at w; exact R.ok.tr a π w
            · by_cases e : a = D
              · rw [e]
                intro w
                have w : z.H D = some fs := w
                rw [hDl] at w; cases w
                exact ⟨fun _ e => (by cases e), fun _ e => (by cases e)⟩
              · have w : (if a = D then some (none, []) else z.O a) = some π := w
                rw [if_neg e] at w; exact R.ok.nx a π w fs
          have R2 : Rl K mg ⟨z.F, z.H, fun a => if a = D then some (none, []) else z.O a⟩ s vs (wipe σ ow) (ext ++ more) :=
            R.to k2 (Ex.refl _) fun a i w e => ⟨rfl, if_neg fun v => by rw [v, hDo] at e; cases e⟩
          have R3 := R1.unwipe R2 hn (show Ex z1.F z.F from st.ef) hh
          have hl1 : s1.length = s.length := by rw [R1.len, R.len, wl]
          obtain ⟨z4, e4, st4, R4, pl4, om4, _⟩ := back _ _ σ rfl R3 (ple_rst hl1 pl)
          have e4 : z4.H = z.H := e4
          rw [← e4]
          have sD : Stp z1 ⟨z.F, z.H, fun a => if a = D then some (none, []) else z.O a⟩ := ⟨st.ef, fun a o e nt w => by
            obtain ⟨h1, h2, h3⟩ := st.ch a o e nt w
            exact ⟨h1, (if_neg (ne_of_none e hD)).trans h2, h3⟩⟩
          exact qq (.ref D) z4 ((st1.trans sD).trans st4) pl4 R4 (om4 _ _ ⟨D, accV, rfl, hDl, if_pos rfl, ra⟩)
      | _ => simp only [hlk] at qq
    | some d =>
      have hi : i < S.items.length := (List.getElem?_eq_some_iff.mp hd).1
      have ed : S.items.drop i = d :: S.items.drop (i + 1) := by
        rw [List.drop_eq_getElem_cons hi]
        rw [List.getElem?_eq_getElem hi] at hd
        cases hd; rfl
      rw [ed] at qq
      unfold lcL at qq
      cases hlk : lkC S.locks s (.nx s) with
      | nx s' =>
        obtain ⟨lk, e⟩ := lkN ⟨s', hlk⟩
        simp only [hlk] at qq
        obtain ⟨go, yl⟩ := g2 z i d R.ok (g1 z s _ wl st R lk) hd
        refine .inr ⟨go, fun H' => ∃ z s acc accV, z.H = H' ∧ Rl K mg z s vs (wipe σ ow) (ext ++ more) ∧ Stp z1 z ∧ Ple s s1 ∧ z.H D = some (.lst accV) ∧ z.O D = none ∧ z.F D = none ∧ reps K mg z.F acc accV ∧
            (match lcL S.locks (ow.map (n + ·)) t q b (S.items.drop (i + 1)) s acc with
              | .ok ds s2 => ∀ v z', Stp z0 z' → Ple (S.back (rst (ow.map (n + ·)) s1 s2)) s0 → Rl K mg z' (S.back (rst (ow.map (n + ·)) s1 s2)) vs σ ext → own K mg z' (none, []) (.l ds) v → Q v z'.H
              | _ => False), fun H' hN => ?_, fun x H' hy => ?_⟩
        · obtain ⟨z', s', acc', accV', a1, a2, a3, a4, a5, a6, a7, a8, a9⟩ := hN
          exact ⟨m - 1, by omega, z', s', acc', accV', a1, a2, a3, a4, a5, a6, a7, a8, by omega, a9⟩
        · obtain ⟨z2, e2, st2, k2, u2, r2⟩ := yl x H' hy
          have R2 : Rl K mg z2 s vs (wipe σ ow) (ext ++ more) := R.to k2 st2.ef fun a i w o => u2 a _ o
          refine ⟨z2, s, ext ++ more, d, e2, R2, r2, ?_⟩
          cases ht : t d s with
          | none => simp only [ht] at qq
          | some s3 =>
            simp only [ht] at qq
            intro σ3 z3 l3 st3 pl3 R3
            have l3' : wipe σ3 ow = wipe σ ow := by
              rw [l3]
              exact wipe_idem σ ow
            refine ⟨l3', z3, s3, ext ++ more, rfl, R3, ?_⟩
            have ST3 : Stp z z3 := st2.trans st3
            have PL3 : Ple s3 s1 := pl3.trans pl
            cases hq : q s3 with
            | bad => simp only [hq] at qq
            | ex e s4 => simp only [hq] at qq
            | ok c s4 =>
              intro z4 st4 pl4 R4
              have ST4 : Stp z z4 := ST3.trans st4
              have PL4 : Ple s4 s1 := pl4.trans PL3
              cases c with
              | false =>
                simp only [hq] at qq
                rw [if_neg Bool.false_ne_true]
                have R5 := R4.wipe (ow := ow) hn
                rw [l3'] at R5
                obtain ⟨d1, d2, d3⟩ := ST4.ch D _ hDl (fun _ e => (by cases e)) hDo
                exact ⟨z4, _, acc, accV, rfl, R5, st.trans ST4, ple_clr PL4, d1, d2, d3.trans hDf, reps_ex ST4.ef acc accV ra, qq⟩
              | true =>
                simp only [hq] at qq
                rw [if_pos rfl]
                refine ⟨z4, s4, ext ++ more, rfl, R4, ?_⟩
                cases hb : b s4 with
                | bad => simp only [hb] at qq
                | ex e s5 => simp only [hb] at qq
                | ok y s5 =>
                  simp only [hb] at qq
                  intro v z5 st5 pl5 R5 r5
                  have ST5 : Stp z z5 := ST4.trans st5
                  have PL5 : Ple s5 s1 := pl5.trans PL4
                  obtain ⟨d1, d2, d3⟩ := ST5.ch D _ hDl (fun _ e => (by cases e)) hDo
                  by_cases hs : acc.length < 16777216
                  · rw [if_pos hs] at qq
                    have ra5 := reps_ex ST5.ef acc accV ra
                    refine ⟨accV, d1, by rw [reps_len ra, sizeLine_eq]; exact hs, ?_⟩
                    have R6 := (grow_rl (o' := .lst (accV ++ [v])) R5 d1 d2 (d3.trans hDf) (fun _ e => (by cases e)) (fun _ _ e => (by unfold LamX.CodeO at e; cases e)) (fun _ e => (by cases e))).wipe (ow := ow) hn
                    rw [l3'] at R6
                    refine ⟨⟨z5.F, upd z5.H D (.lst (accV ++ [v])), z5.O⟩, _, acc ++ [y], accV ++ [v], rfl, R6, ⟨(st.trans ST5).ef, fun a o e nt w => ?_⟩, ple_clr PL5, upd_same, d2, d3.trans hDf, reps_app ra5 (reps_one r5), qq⟩
                    obtain ⟨h1, h2, h3⟩ := (st.trans ST5).ch a o e nt w
                    exact ⟨(upd_ne (ne_of_none e hD)).trans h1, h2, h3⟩
                  · rw [if_neg hs] at qq
                    exact qq.elim
      | _ => simp only [hlk] at qq
section
variable {X : Cx} {W : WX} {vs : List V}
/-- [elt for tg in iter if ..] -/
theorem e_lc {n : Nat} {elt tg iter : Expr} {ifs : List Expr} {scope : Scope} {ow : List (Str × Nat)} {pos : Pos} {src : Env → Re Src} {t : D → Env → Option Env} {q : Env → Re Bool} {b : Env → Re D} (hc : X.calm = true) (hN : X.N.Nodup) (hi : IM X W vs tg iter src) (ok : BlkOk X.N X.env.scope scope ow) (hn : vs.length = n)
    (hg : ∀ (s : Shared) (H : Hp) (C : Addr) (cl : List (Str × Addr)) (fp : List Addr), GW (X.blk s H scope (compEnvC scope cl C X.env) fp) vs (ow.map (·.2)) tg t) (ht : ∀ (s : Shared) (H : Hp) (C : Addr) (cl : List (Str × Addr)) (fp : List Addr), QM (X.blk s H scope (compEnvC scope cl C X.env) fp) vs ifs q)
    (he : ∀ (s : Shared) (H : Hp) (C : Addr) (cl : List (Str × Addr)) (fp : List Addr), VM (X.blk s H scope (compEnvC scope cl C X.env) fp) (fun _ _ _ _ => False) vs elt b) (hs : ∀ x, foldedSetIterable iter X.env x = pure x := by intro _; rfl) :
    EM X W vs (.ListComp elt [⟨tg, iter, ifs, 0⟩] scope pos) (cLc ((ow.map (·.2)).map (n + ·)) src t q b) := wkE (pe_lc hc hN hi ok hg ht he hs) fun σ H Q _ h => tLc_ hn h
/-- name = [..], in one line -/
theorem s_setLc {i n : Nat} {y : Str} {py spos : Pos} {elt tg iter : Expr} {ifs : List Expr} {scope : Scope} {ow : List (Str × Nat)} {pos : Pos} {src : Env → Re Src} {t : D → Env → Option Env} {q : Env → Re Bool} {b : Env → Re D} (hc : X.calm = true) (hN : X.N.Nodup) (hsw : swapsWith (.ListComp elt [⟨tg, iter, ifs, 0⟩] scope pos) (some (.Name y py)) spos.line X.env = pure true)
    (hi : IM X W vs tg iter src) (ok : BlkOk X.N X.env.scope scope ow) (hn : vs.length = n)
    (hg : ∀ (s : Shared) (H : Hp) (C : Addr) (cl : List (Str × Addr)) (fp : List Addr), GW (X.blk s H scope (compEnvC scope cl C X.env) fp) vs (ow.map (·.2)) tg t) (ht : ∀ (s : Shared) (H : Hp) (C : Addr) (cl : List (Str × Addr)) (fp : List Addr), QM (X.blk s H scope (compEnvC scope cl C X.env) fp) vs ifs q)
    (he : ∀ (s : Shared) (H : Hp) (C : Addr) (cl : List (Str × Addr)) (fp : List Addr), VM (X.blk s H scope (compEnvC scope cl C X.env) fp) (fun _ _ _ _ => False) vs elt b) (hy : X.N[i]? = some y := by rfl) (hyl : X.env.scope.names.lookup y = some .local := by rfl) (hs : ∀ x, foldedSetIterable iter X.env x = pure x := by intro _; rfl) :
    SM X W vs (.Assign [.Name y py] (.ListComp elt [⟨tg, iter, ifs, 0⟩] scope pos) spos) (dSet (n + i) (cLc ((ow.map (·.2)).map (n + ·)) src t q b)) := wkS (ps_setLc (wi := rdI X.K X.mg W vs src) (g := rdGw X.K X.mg vs (ow.map (·.2)) t) (tt := rdT X.K X.mg (fun _ _ _ _ => False) vs q) (te := rdV X.K X.mg (fun _ _ _ _ => False) vs b) hc hN hy hyl hsw hi ok hg ht he hs) fun D σ H hl h => by
  obtain ⟨z, s, ext, hz, R, qq⟩ := h
  refine tLc_ (t := t) (q := q) (b := b) hn ⟨z, s, ext, hz, R, ?_⟩
  unfold dSet at qq
  have hi' : i < σ.length := by rw [hl]; exact (List.getElem?_eq_some_iff.mp hy).1
  cases hd : cLc ((ow.map (·.2)).map (n + ·)) src t q b s with
  | bad => simp only [hd] at qq; exact qq
  | ex e s1 =>
    simp only [hd] at qq
    exact xQ_E qq
  | ok m s1 =>
    simp only [hd] at qq
    intro v z1 st pl R1 ow
    have P := R1.put hi' ow
    rw [hn] at P
    exact qq _ (z1.rel (n + i)) (by rw [List.length_set]) (st.trans (Stp.rel _ _)) ((Ple.set fun j e => own_np ow j (Option.some.inj e)).trans pl) P
end
end Dn
end

section
set_option Elab.async false
set_option linter.all false
set_option maxRecDepth 100000
set_option maxHeartbeats 4000000
/-! DnK: builtins, own things changed in place, dicts -/
namespace Dn
open PySem PySem.Spec PyProof.Rows L2
variable [Tb]

section
variable {K : PySem.W.Frag} {mg : Mg}
def fInt : List M → Option Rs
  | [.f (.int i)] => some (.sc (.int i))
  | [.f (.bl b)] => some (.sc (.int (if b then 1 else 0)))
  | _ => none
theorem opL_int : OpL K mg (fun xs H Q => (∃ i, xs = [.int i] ∧ Q (.int i) H) ∨ ∃ k, xs = [.bl k] ∧ Q (.int (if k then 1 else 0)) H) fInt := by
  intro z ms us rs Q k sn hf q
  unfold fInt at hf
  split at hf
  · cases hf
    obtain ⟨v, rfl, sm⟩ := sees1 sn
    have e : v = .int _ := see_v sm
    exact .inl ⟨_, by rw [e], q _ rfl⟩
  · cases hf
    obtain ⟨v, rfl, sm⟩ := sees1 sn
    have e : v = .bl _ := see_v sm
    exact .inr ⟨_, by rw [e], q _ rfl⟩
  · cases hf
def fList : List M → Option Rs
  | [m] => (asS m).map Rs.nl
  | _ => none
theorem opL_list : OpL K mg (fun xs H Q => ∃ p ys, xs = [.ref p] ∧ (SqL K H p ys ∨ SqT K H p ys) ∧ ∀ l, H l = none → Q (.ref l) (upd H l (.lst ys))) fList := by
  intro z ms us rs Q k sn hf q
  unfold fList at hf
  split at hf
  · rename_i m
    obtain ⟨v, rfl, sm⟩ := sees1 sn
    cases hs : asS m with
    | none => rw [hs] at hf; cases hf
    | some ds =>
      rw [hs] at hf
      cases hf
      obtain ⟨a, ws, rfl, h1, h2⟩ := see_S k hs sm
      exact ⟨a, ws, rfl, h1, fun l hl => q l ws hl h2⟩
  · cases hf
def fTuple : List M → Option Rs
  | [m] => match asL m with
    | some ds => some (.nt ds)
    | none => (asT m).map Rs.nt
  | _ => none
theorem opL_tuple : OpL K mg (fun xs H Q => ∃ p ys, xs = [.ref p] ∧ ((SqL K H p ys ∧ ∀ l, H l = none → Q (.ref l) (upd H l (.tup ys))) ∨ (SqT K H p ys ∧ Q (.ref p) H))) fTuple := by
  intro z ms us rs Q k sn hf q
  unfold fTuple at hf
  split at hf
  · rename_i m
    obtain ⟨v, rfl, sm⟩ := sees1 sn
    cases hs : asL m with
    | some ds =>
      rw [hs] at hf
      cases hf
      obtain ⟨a, ws, rfl, h1, h2⟩ := see_L k hs sm
      exact ⟨a, ws, rfl, .inl ⟨h1, fun l hl => q.2 l ws hl h2⟩⟩
    | none =>
      rw [hs] at hf
      cases ht : asT m with
      | none => rw [ht] at hf; cases hf
      | some ds =>
        rw [ht] at hf
        cases hf
        obtain ⟨a, ws, rfl, h1, h2⟩ := see_T k ht sm
        refine ⟨a, ws, rfl, .inr ⟨h1, q.1 _ ?_⟩⟩
        unfold asT at ht
        split at ht
        · cases ht
          exact see_v sm
        · cases ht
  · cases hf
def fMin : List M → Option Rs
  | [.f (.int i), .f (.int j)] => some (.sc (.int (if j < i then j else i)))
  | _ => none
def fMax : List M → Option Rs
  | [.f (.int i), .f (.int j)] => some (.sc (.int (if j > i then j else i)))
  | _ => none
theorem opL_min : OpL K mg (fun xs H Q => ∃ i j, xs = [.int i, .int j] ∧ Q (.int (if j < i then j else i)) H) fMin := by
  intro z ms us rs Q k sn hf q
  unfold fMin at hf
  split at hf
  · cases hf
    obtain ⟨v, w, rfl, s1, s2⟩ := sees2 sn
    have e1 : v = .int _ := see_v s1
    have e2 : w = .int _ := see_v s2
    exact ⟨_, _, by rw [e1, e2], q _ rfl⟩
  · cases hf
theorem opL_max : OpL K mg (fun xs H Q => ∃ i j, xs = [.int i, .int j] ∧ Q (.int (if j > i then j else i)) H) fMax := by
  intro z ms us rs Q k sn hf q
  unfold fMax at hf
  split at hf
  · cases hf
    obtain ⟨v, w, rfl, s1, s2⟩ := sees2 sn
    have e1 : v = .int _ := see_v s1
    have e2 : w = .int _ := see_v s2
    exact ⟨_, _, by rw [e1, e2], q _ rfl⟩
  · cases hf
def blsOf : List D → Option (List Bool)
  | [] => some []
  | .bl b :: r => (blsOf r).map (b :: ·)
  | _ => none
theorem blsOf_ok {F : Hp} : ∀ {ds : List D} {bs : List Bool} {us : List V}, blsOf ds = some bs → reps K mg F ds us → us = bs.map V.bl
  | [], _, _, h, r => by
    cases h
    exact r
  | d :: ds, bs, us, h, r => by
    obtain ⟨v, w, rfl, h1, h2⟩ := r
    cases d with
    | bl b =>
      have h : (blsOf ds).map (b :: ·) = some bs := h
      cases e : blsOf ds with
      | none => rw [e] at h; cases h
      | some bs' =>
        rw [e] at h
        cases h
        have h1 : v = .bl b := h1
        rw [h1, blsOf_ok e h2]; rfl
    | _ => cases h
def fAll : List M → Option Rs
  | [m] => match asL m with
    | some ds => (blsOf ds).map fun bs => .sc (.bl (bs.all id))
    | none => none
  | _ => none
theorem opL_all : OpL K mg (rAll K) fAll := by
  intro z ms us rs Q k sn hf q
  unfold fAll at hf
  split at hf
  · rename_i m
    obtain ⟨v, rfl, sm⟩ := sees1 sn
    cases hs : asL m with
    | none => rw [hs] at hf; cases hf
    | some ds =>
      rw [hs] at hf
      have hf : (blsOf ds).map (fun bs => Rs.sc (.bl (bs.all id))) = some rs := hf
      cases hb : blsOf ds with
      | none => rw [hb] at hf; cases hf
      | some bs =>
        rw [hb] at hf
        cases hf
        obtain ⟨a, ws, rfl, h1, h2⟩ := see_L k hs sm
        exact ⟨a, bs, rfl, by rw [← blsOf_ok hb h2]; exact h1, q _ rfl⟩
  · cases hf
def intsOf : List D → Option (List Int)
  | [] => some []
  | .int b :: r => (intsOf r).map (b :: ·)
  | _ => none
theorem intsOf_ok {F : Hp} : ∀ {ds : List D} {bs : List Int} {us : List V}, intsOf ds = some bs → reps K mg F ds us → us = bs.map V.int
  | [], _, _, h, r => by
    cases h
    exact r
  | d :: ds, bs, us, h, r => by
    obtain ⟨v, w, rfl, h1, h2⟩ := r
    cases d with
    | int b =>
      have h : (intsOf ds).map (b :: ·) = some bs := h
      cases e : intsOf ds with
      | none => rw [e] at h; cases h
      | some bs' =>
        rw [e] at h
        cases h
        have h1 : v = .int b := h1
        rw [h1, intsOf_ok e h2]; rfl
    | _ => cases h
theorem reps_ints {F : Hp} : ∀ (bs : List Int), reps K mg F (bs.map D.int) (bs.map V.int)
  | [] => rfl
  | b :: bs => ⟨_, _, rfl, rfl, reps_ints bs⟩
/-- sorted, as a list of whole numbers -/
def ins1 (a : Int) : List Int → List Int
  | [] => [a]
  | b :: r => if a ≤ b then a :: b :: r else b :: ins1 a r
def srt : List Int → List Int
  | [] => []
  | a :: r => ins1 a (srt r)
theorem ins1_perm (a : Int) : ∀ l : List Int, (ins1 a l).Perm (a :: l)
  | [] => .refl _
  | b :: r => by
    unfold ins1
    split
    · exact .refl _
    · exact ((ins1_perm a r).cons b).trans (.swap a b r)
theorem ins1_srt (a : Int) : ∀ l : List Int, l.Pairwise (· ≤ ·) → (ins1 a l).Pairwise (· ≤ ·)
  | [], _ => by simp [ins1]
  | b :: r, h => by
    obtain ⟨h1, h2⟩ := List.pairwise_cons.mp h
    unfold ins1
    split
    · rename_i q
      refine List.pairwise_cons.mpr ⟨fun x hx => ?_, h⟩
      rcases List.mem_cons.mp hx with e | e
      · rw [e]; exact q
      · exact Int.le_trans q (h1 x e)
    · rename_i q
      refine List.pairwise_cons.mpr ⟨fun x hx => ?_, ins1_srt a r h2⟩
      rcases List.mem_cons.mp ((ins1_perm a r).mem_iff.mp hx) with e | e
      · rw [e]; omega
      · exact h1 x e
theorem srt_perm : ∀ l : List Int, (srt l).Perm l
  | [] => .refl _
  | a :: r => (ins1_perm a _).trans ((srt_perm r).cons a)
theorem srt_srt : ∀ l : List Int, (srt l).Pairwise (· ≤ ·)
  | [] => List.Pairwise.nil
  | a :: r => ins1_srt a _ (srt_srt r)
theorem srt_one : ∀ {l m : List Int}, l.Perm m → l.Pairwise (· ≤ ·) → m.Pairwise (· ≤ ·) → l = m
  | [], m, p, _, _ => p.symm.eq_nil.symm
  | a :: l, [], p, _, _ => absurd p.eq_nil (by simp)
  | a :: l, b :: m, p, h, h' => by
    obtain ⟨h1, h2⟩ := List.pairwise_cons.mp h
    obtain ⟨h1', h2'⟩ := List.pairwise_cons.mp h'
    have e : a = b := by
      have x : a ≤ b := by
        rcases List.mem_cons.mp (p.mem_iff.mpr (List.mem_cons_self ..)) with e | e
        · exact Int.le_of_eq e.symm
        · exact h1 b e
      have y : b ≤ a := by
        rcases List.mem_cons.mp (p.mem_iff.mp (List.mem_cons_self ..)) with e | e
        · exact Int.le_of_eq e.symm
        · exact h1' a e
      omega
    subst e
    rw [srt_one p.cons_inv h2 h2']
def fSortI : List M → Option Rs
  | [m] => match asL m with
    | some ds => (intsOf ds).map fun ns => .nl ((srt ns).map D.int)
    | none => none
  | _ => none
theorem opL_sortI : OpL K mg (rSortedI K) fSortI := by
  intro z ms us rs Q k sn hf q
  unfold fSortI at hf
  split at hf
  · rename_i m
    obtain ⟨v, rfl, sm⟩ := sees1 sn
    cases hs : asL m with
    | none => rw [hs] at hf; cases hf
    | some ds =>
      rw [hs] at hf
      have hf : (intsOf ds).map (fun ns => Rs.nl ((srt ns).map D.int)) = some rs := hf
      cases hb : intsOf ds with
      | none => rw [hb] at hf; cases hf
      | some bs =>
        rw [hb] at hf
        cases hf
        obtain ⟨a, ws, rfl, h1, h2⟩ := see_L k hs sm
        refine ⟨a, bs, rfl, by rw [← intsOf_ok hb h2]; exact h1, fun ns' p hp ho hn => ?_⟩
        have e : ns' = srt bs := srt_one (hp.trans (srt_perm bs).symm) ho (srt_srt bs)
        rw [e]
        exact q p _ hn (reps_ints _)
  · cases hf
/-- sorted(d), d's keys whole numbers -/
def keysI : List (Key × D) → Option (List Int)
  | [] => some []
  | (.inl i, _) :: r => (keysI r).map (i :: ·)
  | _ => none
theorem keysI_ok {F : Hp} : ∀ {ds : List (Key × D)} {bs : List Int} {us : List (Key × V)}, keysI ds = some bs → repk K mg F ds us → us.map (·.1) = bs.map Sum.inl
  | [], _, _, h, r => by
    cases h
    have r : _ = [] := r
    rw [r]; rfl
  | (.inl i, d) :: ds, bs, us, h, r => by
    obtain ⟨v, w, rfl, h1, h2⟩ := r
    have h : (keysI ds).map (i :: ·) = some bs := h
    cases e : keysI ds with
    | none => rw [e] at h; cases h
    | some bs' =>
      rw [e] at h
      cases h
      rw [List.map_cons, keysI_ok e h2]; rfl
  | (.inr _, d) :: ds, bs, us, h, r => by cases h
def fSortDI : List M → Option Rs
  | [m] => match asK m with
    | some ds => match keysI ds with
      | some ns => if ns.length < 64 then some (.nl ((srt ns).map D.int)) else none
      | none => none
    | none => none
  | _ => none
theorem opL_sortDI : OpL K mg (fun xs H Q => ∃ (a : Addr) (kvs : List (Key × V)) (ks : List Int), xs = [.ref a] ∧ Rd H a (.dK kvs) ∧ kvs.map (·.1) = ks.map Sum.inl ∧ ks.length < 64 ∧
    ∀ (ys : List Int) (p : Addr), ys.Perm ks → ys.Pairwise (· ≤ ·) → H p = none → Q (.ref p) (upd H p (.lst (ys.map V.int)))) fSortDI := by
  intro z ms us rs Q k sn hf q
  unfold fSortDI at hf
  split at hf
  · rename_i m
    obtain ⟨v, rfl, sm⟩ := sees1 sn
    cases hs : asK m with
    | none => rw [hs] at hf; cases hf
    | some ds =>
      simp only [hs] at hf
      cases hb : keysI ds with
      | none => simp only [hb] at hf; cases hf
      | some bs =>
        simp only [hb] at hf
        by_cases hl : bs.length < 64
        · rw [if_pos hl] at hf
          cases hf
          obtain ⟨a, ws, rfl, h1, h2⟩ := see_K k hs sm
          refine ⟨a, ws, bs, rfl, .inl h1, keysI_ok hb h2, hl, fun ns' p hp ho hn => ?_⟩
          have e : ns' = srt bs := srt_one (hp.trans (srt_perm bs).symm) ho (srt_srt bs)
          rw [e]
          exact q p _ hn (reps_ints _)
        · rw [if_neg hl] at hf; cases hf
  · cases hf

/-! ### isinstance with a builtin type -/
def tyN : M → Option String
  | .f .non => some "NoneType"
  | .f (.bl _) => some "bool"
  | .f (.int _) => some "int"
  | .f (.str _) => some "str"
  | .f (.lst _) => some "list"
  | .f (.rl _) => some "list"
  | .l _ => some "list"
  | .f (.tup _) => some "tuple"
  | .f (.dic _) => some "dict"
  | .d _ => some "dict"
  | _ => none
theorem tyN_ok {z : Z} {m : M} {v : V} {T : String} (k : Ok z) (h : tyN m = some T) (sn : see K mg z m v) : TyX K z.H v (.type T) := by
  have L : ∀ {m ds}, asL m = some ds → see K mg z m v → TyX K z.H v (.type "list") := fun {m ds} e s => by
    obtain ⟨a, us, rfl, h1, h2⟩ := see_L k e s
    rcases h1 with (h | ⟨o, h⟩) | ⟨o, _, _, h, hc, _⟩
    · exact .base (.lst h)
    · exact .base (.frz h)
    · exact .kList h hc
  unfold tyN at h
  split at h <;> cases h
  · have e : v = .non := see_v sn
    rw [e]; exact .base .non
  · have e : v = .bl _ := see_v sn
    rw [e]; exact .base (.bl _)
  · have e : v = .int _ := see_v sn
    rw [e]; exact .base (.int _)
  · have e : v = .str _ := see_v sn
    rw [e]; exact .base (.str _)
  · exact L (m := .f (.lst _)) rfl sn
  · exact L (m := .f (.rl _)) rfl sn
  · exact L (m := .l _) rfl sn
  · obtain ⟨a, us, rfl, h1, h2⟩ := see_T k (m := .f (.tup _)) rfl sn
    rcases h1 with (h | ⟨o, h⟩) | ⟨o, _, _, h, hc, _⟩
    · exact .base (.tup h)
    · exact .fTuple h
    · exact .kTuple h hc
  · obtain ⟨a, us, rfl, h1, h2⟩ := see_K k (m := .f (.dic _)) rfl sn
    exact .base (.dK h1)
  · obtain ⟨a, us, rfl, h1, h2⟩ := see_K k (m := .d _) rfl sn
    exact .base (.dK h1)
/-- which types are kinds of which -/
def isK : String → String → Option Bool
  | "NoneType", "bool" => some false | "NoneType", "int" => some false | "NoneType", "str" => some false | "NoneType", "list" => some false | "NoneType", "tuple" => some false | "NoneType", "dict" => some false
  | "bool", "bool" => some true | "bool", "int" => some true | "bool", "str" => some false | "bool", "list" => some false | "bool", "tuple" => some false | "bool", "dict" => some false
  | "int", "bool" => some false | "int", "int" => some true | "int", "str" => some false | "int", "list" => some false | "int", "tuple" => some false | "int", "dict" => some false
  | "str", "bool" => some false | "str", "int" => some false | "str", "str" => some true | "str", "list" => some false | "str", "tuple" => some false | "str", "dict" => some false
  | "list", "bool" => some false | "list", "int" => some false | "list", "str" => some false | "list", "list" => some true | "list", "tuple" => some false | "list", "dict" => some false
  | "tuple", "bool" => some false | "tuple", "int" => some false | "tuple", "str" => some false | "tuple", "list" => some false | "tuple", "tuple" => some true | "tuple", "dict" => some false
  | "dict", "bool" => some false | "dict", "int" => some false | "dict", "str" => some false | "dict", "list" => some false | "dict", "tuple" => some false | "dict", "dict" => some true
  | _, _ => none
theorem isK_ok {a b : String} {r : Bool} (h : isK a b = some r) : kitB a b = some r := by
  unfold isK at h
  split at h <;> first | (cases h; decide +kernel) | cases h
def fIsi : List M → Option Rs
  | [m, .f (.ty T)] => match tyN m with
    | some a => (isK a T).map fun b => .sc (.bl b)
    | none => none
  | _ => none
theorem opL_isi : OpL K mg (rIsi K) fIsi := by
  intro z ms us rs Q k sn hf q
  unfold fIsi at hf
  split at hf
  · rename_i m T
    obtain ⟨v, w, rfl, s1, s2⟩ := sees2 sn
    have e2 : w = .ty T := see_v s2
    subst e2
    cases ht : tyN m with
    | none => simp only [ht] at hf; cases hf
    | some a =>
      simp only [ht] at hf
      cases hi : isK a T with
      | none => rw [hi] at hf; cases hf
      | some b =>
        rw [hi] at hf
        cases hf
        exact ⟨v, .ty T, _, _, b, rfl, .ty T, tyN_ok k ht s1, kit_ty (isK_ok hi), q _ rfl⟩
  · cases hf

/-! ### a dict of the module -/
def fTab (a : Addr) (tab : List (Str × D)) : M → M → Option Rs
  | .f (.adr b), .f (.str x) => if b = a then (tab.lookup x).map Rs.sc else none
  | _, _ => none
theorem op2_tab {w : World} {a : Addr} {tab : List (Str × D)} (ht : ∀ x d, tab.lookup x = some d → ∃ v, KDct K w a x v ∧ ∀ F, rep K mg F d v) : Op2 K mg (rIxD K w) (fTab a tab) := by
  intro z m n v u rs Q k sm sn hf q
  unfold fTab at hf
  split at hf
  · rename_i b x
    split at hf
    · rename_i e
      subst e
      cases hl : tab.lookup x with
      | none => rw [hl] at hf; cases hf
      | some d =>
        rw [hl] at hf
        cases hf
        obtain ⟨y, h1, h2⟩ := ht x d hl
        have e1 : v = .ref b := see_v sm
        have e2 : u = .str x := see_v sn
        exact ⟨b, x, y, e1, e2, h1, q y (h2 _)⟩
    · cases hf
  · cases hf
end

/-! ### own things changed in place -/
section
variable {K : PySem.W.Frag} {mg : Mg} {z : Z} {s : Env} {vs ext : List V} {σ : L2.St}
theorem own_ok {a : Addr} {o o' : HO} {l : Lab} (k : Ok z) (h : z.H a = some o) (hO : z.O a = some l) (n : ∀ c q, o ≠ LamX.CodeO c q) (p : Pl o') : Ok ⟨z.F, upd z.H a o', z.O⟩ := by
  refine ⟨k.fr, fun b π q => ?_, fun b u q => ?_, fun b π q u => ?_, k.tb.up h (k.nx a l hO o h).2 n rfl p.2⟩
  · show ∃ u, upd z.H a o' b = some u
    by_cases e : b = a
    · rw [e, upd_same]; exact ⟨_, rfl⟩
    · rw [upd_ne e]; exact k.tr b π q
  · show upd z.H a o' b = some u
    have ne : b ≠ a := fun e => by
      have q : z.F b = some u := q
      rw [e, k.fr a l hO] at q; cases q
    rw [upd_ne ne]; exact k.ex b u q
  · show upd z.H a o' b = some u → _
    by_cases e : b = a
    · rw [e, upd_same]; exact fun w => Option.some.inj w ▸ p
    · rw [upd_ne e]; exact k.nx b π q u
theorem own_st {a : Addr} {o' : HO} {l : Lab} (hO : z.O a = some l) : Stp z ⟨z.F, upd z.H a o', z.O⟩ := ⟨Ex.refl _, fun b u e _ q => by
  have ne : b ≠ a := fun w => by rw [w, hO] at q; cases q
  exact ⟨(upd_ne ne).trans e, q, rfl⟩⟩
theorem Rl.chg (R : Rl K mg z s vs σ ext) {j : Nat} {m' : M} {a : Addr} {o o' : HO} {v : V} (h : z.H a = some o) (hO : z.O a = some (some j, [])) (n : ∀ c q, o ≠ LamX.CodeO c q) (p : Pl o') (hv : (sx vs σ ext)[j]? = some (some v))
    (ow : own K mg ⟨z.F, upd z.H a o', z.O⟩ (some j, []) m' v) : Rl K mg ⟨z.F, upd z.H a o', z.O⟩ (s.set j (some m')) vs σ ext := by
  refine ⟨own_ok R.ok h hO n p, by rw [List.length_set]; exact R.len, fun i m hi => ?_⟩
  by_cases e : j = i
  · subst e
    by_cases hj : j < s.length
    · rw [List.getElem?_set_self hj] at hi
      cases hi
      exact ⟨v, hv, cel_own ow⟩
    · rw [List.getElem?_eq_none (by rw [List.length_set]; omega)] at hi; cases hi
  · rw [List.getElem?_set_ne e] at hi
    obtain ⟨u, u1, u2⟩ := R.at_ i m hi
    refine ⟨u, u1, ?_⟩
    have mv : ∀ m, own K mg z (some i, []) m u → own K mg ⟨z.F, upd z.H a o', z.O⟩ (some i, []) m u := fun m hm => own_move (z := z) (z' := ⟨z.F, upd z.H a o', z.O⟩) (Ex.refl _) m [] [] u (fun b q w => ⟨upd_ne fun x => by
      rw [x, hO] at w
      have w : j = i := Option.some.inj (congrArg Prod.fst (Option.some.inj w))
      exact e w, w⟩) hm
    cases m with
    | f d => exact u2
    | l d => exact mv _ u2
    | d d => exact mv _ u2
    | o c d => exact mv _ u2
    | p k => exact u2
theorem ple_set {s0 : Env} {j : Nat} {m : M} (pl : Ple s s0) (np : ∀ k, m ≠ .p k) : Ple (s.set j (some m)) s0 := (Ple.set fun k e => np k (Option.some.inj e)).trans pl
theorem more_nil {s : Env} {more : List V} {z' : Z} (R : Rl K mg z s vs σ ext) (R' : Rl K mg z' s vs σ (ext ++ more)) : more = [] := by
  have a := R.len
  have b := R'.len
  rw [List.length_append] at b
  exact List.length_eq_zero_iff.mp (by omega)
end
/-- what a list's method makes of a list and its arguments -/
def OpW (K : PySem.W.Frag) (mg : Mg) (r : V → List V → Hp → VK → Prop) (f : List D → List D → Option (D × List D)) : Prop := ∀ (z : Z) (a : Addr) (xs ds xs' : List D) (us ws : List V) (d : D) (Q : VK), Ok z → z.H a = some (.lst us) → reps K mg z.F xs us → reps K mg z.F ds ws →
  f xs ds = some (d, xs') → (∀ v us', reps K mg z.F xs' us' → rep K mg z.F d v → Q v (upd z.H a (.lst us'))) → r (.ref a) ws z.H Q
def cMt (i : Nat) (f : List D → List D → Option (D × List D)) (args : Env → Re (List D)) : Env → Re M := fun s => match look s i with
  | some (.l _) => (match args s with
    | .ok ds s1 => (match look s1 i with
      | some (.l xs) => (match f xs ds with
        | some (d, xs') => .ok (.f d) (s1.set (root s1 i) (some (.l xs')))
        | none => .bad)
      | _ => .bad)
    | .ex e s1 => .ex e s1
    | .bad => .bad)
  | _ => .bad
section
variable {X : Cx} {W : WX} {vs : List V}
theorem tMt_ {i : Nat} {f : List D → List D → Option (D × List D)} {args : Env → Re (List D)} {r : V → List V → Hp → VK → Prop} {σ : L2.St} {H : Hp} {Q : VK} (hr : OpW X.K X.mg r f) (h : rdE X.K X.mg W vs (cMt i f args) σ H Q) :
    tBM X.K "list" r (rdO X.K X.mg W vs (oVar i)) (rdVs X.K X.mg W vs args) σ H Q := by
  obtain ⟨z, s, ext, hz, R, q⟩ := h
  refine ⟨z, s, ext, hz, R, ?_⟩
  unfold cMt at q
  unfold oVar
  cases hl : look s i with
  | none => simp only [hl] at q
  | some m =>
    cases m with
    | l ys =>
      simp only [hl] at q ⊢
      intro v z1 more st1 pl1 R1 rf
      have en := more_nil R R1
      subst en
      rw [List.append_nil] at R1 rf
      obtain ⟨v0, h1, h2, h3⟩ := R1.look hl
      have rf : (sx vs σ ext)[i]? = some (some v) := rf
      rw [rf] at h1
      cases h1
      refine ⟨?_, z1, s, ext, rfl, R1, ?_⟩
      · obtain ⟨a, us, e, w1, w2, w3⟩ := h3
        rw [e]
        exact .inl ⟨rfl, us, .inl (.inl w1)⟩
      · cases ha : args s with
        | bad => simp only [ha] at q
        | ex e s1 =>
          simp only [ha] at q
          exact exQ_on st1 (Ple.refl s) q
        | ok ds s1 =>
          simp only [ha] at q
          intro ws z2 st2 pl2 R2 rd
          cases hl2 : look s1 i with
          | none => simp only [hl2] at q
          | some m2 =>
            cases m2 with
            | l xs =>
              simp only [hl2] at q
              obtain ⟨v0, g1, g2, g3⟩ := R2.look hl2
              rw [rf] at g1
              cases g1
              obtain ⟨a, us, e, w1, w2, w3⟩ := g3
              subst e
              cases hf : f xs ds with
              | none => simp only [hf] at q
              | some p =>
                obtain ⟨d, xs'⟩ := p
                simp only [hf] at q
                refine hr z2 a xs ds xs' us ws d Q R2.ok w1 w3 rd hf fun y us' hx hd => ?_
                have R3 := R2.chg (o' := .lst us') (m' := .l xs') w1 w2 (fun _ _ e => by (unfold LamX.CodeO at e; cases e)) ⟨fun _ e => (by cases e), fun _ e => (by cases e)⟩ g2 ⟨a, us', rfl, upd_same, w2, hx⟩
                exact q y _ ((st1.trans st2).trans (own_st w2)) (ple_set pl2 fun k e => (by cases e)) R3 hd
            | _ => simp only [hl2] at q
    | _ => simp only [hl] at q
/-- x.m(e, ..) -/
theorem e_mt {i n : Nat} {x name : Str} {apos cpos xpos : Pos} {id : String} {e : Expr} {es : List Expr} {r : V → List V → Hp → VK → Prop} {f : List D → List D → Option (D × List D)} {args : Env → Re (List D)} (slot : Slot "list" name id) (hty : typeOf (.builtin id) = pure (.type "method_descriptor")) (hm : MtR X id r) (hr : OpW X.K X.mg r f) (ho : OM X W vs (.Name x xpos) (oVar (n + i))) (ha : VMs X W vs (e :: es) args)
    (hbase : attributeBase (.Name x xpos) name X.env (eval (.Name x xpos) X.env) = eval (.Name x xpos) X.env := by rfl)
    (hfew : ((backTo cpos (starEach (e :: es) X.env)).all (fun x => !x.1) && (backToKw cpos (keywordEach [] X.env)).all (fun x => x.1.isSome) && decide ((e :: es).length + ([] : List Keyword).length + (if ([] : List Keyword).isEmpty then 0 else 1) < 30)) = true := by rfl)
    (hline : (apos.endLine == cpos.line) = true := by rfl) (hs : starEach (e :: es) X.env = (false, eval e X.env) :: starEach es X.env := by rfl) (hplain : (backTo cpos (starEach es X.env)).any (·.1) = false := by rfl) :
    EM X W vs (.Call (.Attribute (.Name x xpos) name apos) (e :: es) [] cpos) (cMt (n + i) f args) := wkE (pe_bm PySem.F.plainAttrs_list slot hty hm ho ha hbase hfew hline hs hplain) fun σ H Q _ h => tMt_ hr h
/-- x.m() -/
theorem e_mt0 {i n : Nat} {x name : Str} {apos cpos xpos : Pos} {id : String} {r : V → List V → Hp → VK → Prop} {f : List D → List D → Option (D × List D)} (slot : Slot "list" name id) (hty : typeOf (.builtin id) = pure (.type "method_descriptor")) (hm : MtR X id r) (hr : OpW X.K X.mg r f) (ho : OM X W vs (.Name x xpos) (oVar (n + i)))
    (hbase : attributeBase (.Name x xpos) name X.env (eval (.Name x xpos) X.env) = eval (.Name x xpos) X.env := by rfl) (hline : (apos.endLine == cpos.line) = true := by rfl) :
    EM X W vs (.Call (.Attribute (.Name x xpos) name apos) [] [] cpos) (cMt (n + i) f fun s => .ok [] s) := wkE (pe_bm0 PySem.F.plainAttrs_list slot hty hm ho hbase hline) fun σ H Q _ h => by
  have h := tMt_ hr h
  obtain ⟨z, s, ext, hz, R, q⟩ := h
  refine ⟨z, s, ext, hz, R, ?_⟩
  unfold oVar at q ⊢
  cases hl : look s (n + i) with
  | none => simp only [hl] at q
  | some m =>
    simp only [hl] at q ⊢
    intro v z1 more st1 pl1 R1 rf
    obtain ⟨ty, z2, s2, ext2, e2, R2, q2⟩ := q v z1 more st1 pl1 R1 rf
    rw [← e2] at ty ⊢
    exact ⟨ty, q2 [] z2 (Stp.refl _) (Ple.refl _) R2 rfl⟩
end
section
variable {K : PySem.W.Frag} {mg : Mg}
def wApp : List D → List D → Option (D × List D)
  | xs, [d] => if xs.length < 16777216 then some (.non, xs ++ [d]) else none
  | _, _ => none
theorem opW_app : OpW K mg rAppend wApp := by
  intro z a xs ds xs' us ws d Q k h hr hd hf q
  unfold wApp at hf
  split at hf
  · split at hf
    · rename_i e hl
      cases hf
      obtain ⟨w, r, rfl, h1, h2⟩ := hd
      have h2 : r = [] := h2
      subst h2
      exact ⟨a, us, w, rfl, rfl, h, by rw [reps_len hr, sizeLine_eq]; exact hl, q _ _ (reps_app hr (reps_one h1)) rfl⟩
    · cases hf
  · cases hf
def wPop : List D → List D → Option (D × List D)
  | xs, [] => match xs[xs.length - 1]? with
    | some d => some (d, xs.dropLast)
    | none => none
  | _, _ => none
theorem reps_dropLast {F : Hp} {ds : List D} {us : List V} (h : reps K mg F ds us) : reps K mg F ds.dropLast us.dropLast := by
  rw [List.dropLast_eq_take, List.dropLast_eq_take, reps_len h]
  exact reps_take _ h
theorem opW_pop : OpW K mg rPop wPop := by
  intro z a xs ds xs' us ws d Q k h hr hd hf q
  unfold wPop at hf
  split at hf
  · cases he : xs[xs.length - 1]? with
    | none => simp only [he] at hf; cases hf
    | some e =>
      simp only [he] at hf
      cases hf
      obtain ⟨u, u1, u2⟩ := reps_get hr he
      have hd : ws = [] := hd
      exact ⟨a, us, u, rfl, hd, h, by rw [reps_len hr]; exact u1, q _ _ (reps_dropLast hr) u2⟩
  · cases hf
def wPopAt : List D → List D → Option (D × List D)
  | xs, [.int i] => if -(2 ^ 63) ≤ i ∧ i < 2 ^ 63 then (match seqIndex? i xs.length with
      | some k => (match xs[k]? with
        | some d => some (d, xs.eraseIdx k)
        | none => none)
      | none => none) else none
  | _, _ => none
theorem opW_popAt : OpW K mg rPopAt wPopAt := by
  intro z a xs ds xs' us ws d Q k h hr hd hf q
  unfold wPopAt at hf
  split at hf
  · rename_i i
    split at hf
    · rename_i hb
      split at hf
      · rename_i j hj
        split at hf
        · rename_i y hy
          cases hf
          obtain ⟨u, u1, u2⟩ := reps_get hr hy
          obtain ⟨w, r, rfl, h1, h2⟩ := hd
          have h2 : r = [] := h2
          have h1 : w = .int i := h1
          subst h2 h1
          exact ⟨a, us, i, j, u, rfl, rfl, h, hb.1, hb.2, by rw [reps_len hr]; exact hj, u1, q _ _ (reps_eraseIdx _ hr) u2⟩
        · cases hf
      · cases hf
    · cases hf
  · cases hf
def wIns : List D → List D → Option (D × List D)
  | xs, [.int i, d] => if xs.length < 16777216 ∧ 0 ≤ i ∧ i < 2 ^ 63 then some (.non, xs.take i.toNat ++ [d] ++ xs.drop i.toNat) else none
  | _, _ => none
theorem opW_ins : OpW K mg (fun x vs H Q => ∃ (l : Addr) (xs : List V) (i : Int) (y : V), x = .ref l ∧ vs = [.int i, y] ∧ H l = some (.lst xs) ∧ xs.length < sizeLine ∧ 0 ≤ i ∧ i < 2 ^ 63 ∧
    Q .non (upd H l (.lst (xs.take i.toNat ++ [y] ++ xs.drop i.toNat)))) wIns := by
  intro z a xs ds xs' us ws d Q k h hr hd hf q
  unfold wIns at hf
  split at hf
  · rename_i i y
    split at hf
    · rename_i hb
      cases hf
      obtain ⟨w, r, rfl, h1, h2⟩ := hd
      obtain ⟨w2, r2, rfl, h3, h4⟩ := h2
      have h4 : r2 = [] := h4
      have h1 : w = .int i := h1
      subst h4 h1
      exact ⟨a, us, i, w2, rfl, rfl, h, by rw [reps_len hr, sizeLine_eq]; exact hb.1, hb.2.1, hb.2.2, q _ _ (reps_app (reps_app (reps_take _ hr) (reps_one h3)) (reps_drop _ hr)) rfl⟩
    · cases hf
  · cases hf
end

/-! ### x[i] = e -/
def keyOf : D → Option Key
  | .int i => some (.inl i)
  | .str x => some (.inr x)
  | _ => none
def putD (kvs : List (Key × D)) (k : Key) (v : D) : List (Key × D) :=
  if (kvs.any fun kv => decide (kv.1 = k)) = true then kvs.map (fun kv => if kv.1 = k then (kv.1, v) else kv) else kvs ++ [(k, v)]
def valD (kvs : List (Key × D)) (k : Key) : Option D := (kvs.find? fun kv => decide (kv.1 = k)).map (·.2)
section
variable {K : PySem.W.Frag} {mg : Mg} {F : Hp}
theorem keyOf_ok {d : D} {k : Key} {v : V} (h : keyOf d = some k) (r : rep K mg F d v) : v = kV k := by
  cases d with
  | int i => cases h; exact r
  | str x => cases h; exact r
  | _ => cases h
theorem repk_any {k : Key} : ∀ {ds : List (Key × D)} {us : List (Key × V)}, repk K mg F ds us → (us.any fun kv => decide (kv.1 = k)) = ds.any fun kv => decide (kv.1 = k)
  | [], _, h => by
    have h : _ = [] := h
    rw [h]; rfl
  | (k', d) :: ds, _, h => by
    obtain ⟨v, r, rfl, _, h2⟩ := h
    rw [List.any_cons, List.any_cons, repk_any h2]
theorem repk_app : ∀ {ds es : List (Key × D)} {us ws : List (Key × V)}, repk K mg F ds us → repk K mg F es ws → repk K mg F (ds ++ es) (us ++ ws)
  | [], _, _, _, h, h' => by
    have h : _ = [] := h
    rw [h]; exact h'
  | (k', d) :: ds, _, _, _, h, h' => by
    obtain ⟨v, r, rfl, h1, h2⟩ := h
    exact ⟨v, _, rfl, h1, repk_app h2 h'⟩
theorem repk_map {k : Key} {d : D} {v : V} (hv : rep K mg F d v) : ∀ {ds : List (Key × D)} {us : List (Key × V)}, repk K mg F ds us → repk K mg F (ds.map fun kv => if kv.1 = k then (kv.1, d) else kv) (us.map fun kv => if kv.1 = k then (kv.1, v) else kv)
  | [], _, h => by
    have h : _ = [] := h
    rw [h]; rfl
  | (k', e) :: ds, _, h => by
    obtain ⟨w, r, rfl, h1, h2⟩ := h
    by_cases q : k' = k
    · rw [List.map_cons, List.map_cons, if_pos q, if_pos q]
      exact ⟨v, _, rfl, hv, repk_map hv h2⟩
    · rw [List.map_cons, List.map_cons, if_neg q, if_neg q]
      exact ⟨w, _, rfl, h1, repk_map hv h2⟩
theorem repk_put {k : Key} {d : D} {v : V} {ds : List (Key × D)} {us : List (Key × V)} (h : repk K mg F ds us) (hv : rep K mg F d v) : repk K mg F (putD ds k d) (putK us k v) := by
  unfold putD putK
  rw [repk_any h]
  split
  · exact repk_map hv h
  · exact repk_app h ⟨v, [], rfl, hv, rfl⟩
theorem repk_val {k : Key} : ∀ {ds : List (Key × D)} {us : List (Key × V)}, repk K mg F ds us → (valD ds k = none ∧ valV us k = none) ∨ ∃ d v, valD ds k = some d ∧ valV us k = some v ∧ rep K mg F d v
  | [], _, h => by
    have h : _ = [] := h
    rw [h]; exact .inl ⟨rfl, rfl⟩
  | (k', e) :: ds, _, h => by
    obtain ⟨w, r, rfl, h1, h2⟩ := h
    by_cases q : k' = k
    · refine .inr ⟨e, w, ?_, valV_pos q, h1⟩
      simp [valD, q]
    · have a : valD ((k', e) :: ds) k = valD ds k := by simp [valD, q]
      have b : valV ((k', w) :: r) k = valV r k := valV_neg q
      rw [a, b]
      exact repk_val h2
end
def dPutL (i : Nat) (ix v : Env → Re D) : Env → Out := fun s => match v s with
  | .ok d s1 => (match look s1 i with
    | none => .bad
    | some _ => (match ix s1 with
      | .ok y s2 => (match look s2 i, y with
        | some (.l xs), .int k => (match ixN xs.length k with
          | some j => .nx (s2.set (root s2 i) (some (.l (xs.set j d))))
          | none => .bad)
        | _, _ => .bad)
      | .ex e s2 => .ex e s2
      | .bad => .bad))
  | .ex e s1 => .ex e s1
  | .bad => .bad
def dPutK (i : Nat) (ix v : Env → Re D) : Env → Out := fun s => match v s with
  | .ok d s1 => (match look s1 i with
    | none => .bad
    | some _ => (match ix s1 with
      | .ok y s2 => (match look s2 i, keyOf y with
        | some (.d kvs), some k => if kvs.length < 16777216 then .nx (s2.set (root s2 i) (some (.d (putD kvs k d)))) else .bad
        | _, _ => .bad)
      | .ex e s2 => .ex e s2
      | .bad => .bad))
  | .ex e s1 => .ex e s1
  | .bad => .bad
section
variable {X : Cx} {W : WX} {vs : List V}
theorem s_putL {i n : Nat} {x : Str} {xpos pos' pos : Pos} {ie e : Expr} {ix v : Env → Re D} (ho : OM X W vs (.Name x xpos) (oVar (n + i))) (hi : VM X W vs ie ix) (hv : VM X W vs e v) (hs : swapsWithSole [.Subscript (.Name x xpos) ie pos'] e pos.line X.env = pure false := by rfl)
    (hw : swappedStores [.Subscript (.Name x xpos) ie pos'] e X.env = pure none := by rfl)
    (hx : ∀ v, assign (.Subscript (.Name x xpos) ie pos') X.env v = (do
      let ov ← holding [v] (eval (.Name x xpos) X.env)
      let iv ← holding [v, ov] (eval ie X.env)
      standAt pos'
      holding [v, ov, iv] (setItem ov iv v)
      release [v, ov, iv] []) := by intro _; rfl) : SM X W vs (.Assign [.Subscript (.Name x xpos) ie pos'] e pos) (dPutL (n + i) ix v) := wkS (ps_asg hv (pg_sub ho hi set_list hx) hs hw) fun D σ H _ h => by
  obtain ⟨z, s, ext, hz, R, q⟩ := h
  refine ⟨z, s, ext, hz, R, ?_⟩
  unfold dPutL at q
  cases hd : v s with
  | bad => simp only [hd] at q; exact q
  | ex e s1 =>
    simp only [hd] at q
    exact xQ_E q
  | ok d s1 =>
    simp only [hd] at q
    intro u z1 st1 pl1 R1 r1
    cases hl : look s1 (n + i) with
    | none => simp only [hl] at q; exact q.elim
    | some m0 =>
      simp only [hl] at q
      refine ⟨z1, s1, ext, rfl, R1, ?_⟩
      unfold oVar
      simp only [hl]
      intro o z2 more st2 pl2 R2 rf
      have en := more_nil R1 R2
      subst en
      rw [List.append_nil] at R2 rf
      refine ⟨z2, s1, ext, rfl, R2, ?_⟩
      cases hi' : ix s1 with
      | bad => simp only [hi'] at q; exact q.elim
      | ex e s2 =>
        simp only [hi'] at q
        exact exQ_on (st1.trans st2) pl1 (xQ_E q)
      | ok y s2 =>
        simp only [hi'] at q
        intro w z3 st3 pl3 R3 r3
        cases hl2 : look s2 (n + i) with
        | none => simp only [hl2] at q; exact q.elim
        | some m2 =>
          cases m2 with
          | l xs =>
            cases y with
            | int k =>
              simp only [hl2] at q
              cases hj : ixN xs.length k with
              | none => simp only [hj] at q; exact q.elim
              | some j =>
                simp only [hj] at q
                obtain ⟨v0, g1, g2, g3⟩ := R3.look hl2
                have rf : (sx vs σ ext)[n + i]? = some (some o) := rf
                rw [rf] at g1
                cases g1
                obtain ⟨a, us, e, w1, w2, w3⟩ := g3
                subst e
                have r3 : w = .int k := r3
                refine ⟨a, us, k, j, rfl, r3, w1, by rw [reps_len w3]; exact hj, ?_⟩
                have r1' := rep_ex (st2.trans st3).ef d u r1
                have R4 := R3.chg (o' := .lst (us.set j u)) (m' := .l (xs.set j d)) w1 w2 (fun _ _ e => by (unfold LamX.CodeO at e; cases e)) ⟨fun _ e => (by cases e), fun _ e => (by cases e)⟩ g2 ⟨a, _, rfl, upd_same, w2, reps_set j w3 r1'⟩
                exact q σ _ rfl (((st1.trans st2).trans st3).trans (own_st w2)) (ple_set (pl3.trans pl1) fun k e => (by cases e)) R4
            | _ => simp only [hl2] at q; exact q.elim
          | _ => simp only [hl2] at q; exact q.elim
theorem s_putK {i n : Nat} {x : Str} {xpos pos' pos : Pos} {ie e : Expr} {ix v : Env → Re D} (hu : X.A.units + 1 < cLine) (ho : OM X W vs (.Name x xpos) (oVar (n + i))) (hi : VM X W vs ie ix) (hv : VM X W vs e v) (hs : swapsWith e (some (.Subscript (.Name x xpos) ie pos')) pos.line X.env = pure false := by rfl) :
    SM X W vs (.Assign [.Subscript (.Name x xpos) ie pos'] e pos) (dPutK (n + i) ix v) := wkS (ps_dput hu ho hi hv hs) fun D σ H _ h => by
  obtain ⟨z, s, ext, hz, R, q⟩ := h
  refine ⟨z, s, ext, hz, R, ?_⟩
  unfold dPutK at q
  cases hd : v s with
  | bad => simp only [hd] at q; exact q
  | ex e s1 =>
    simp only [hd] at q
    exact xQ_E q
  | ok d s1 =>
    simp only [hd] at q
    intro u z1 st1 pl1 R1 r1
    cases hl : look s1 (n + i) with
    | none => simp only [hl] at q; exact q.elim
    | some m0 =>
      simp only [hl] at q
      refine ⟨z1, s1, ext, rfl, R1, ?_⟩
      unfold oVar
      simp only [hl]
      intro o z2 more st2 pl2 R2 rf
      have en := more_nil R1 R2
      subst en
      rw [List.append_nil] at R2 rf
      refine ⟨z2, s1, ext, rfl, R2, ?_⟩
      cases hi' : ix s1 with
      | bad => simp only [hi'] at q; exact q.elim
      | ex e s2 =>
        simp only [hi'] at q
        exact exQ_on (st1.trans st2) pl1 (xQ_E q)
      | ok y s2 =>
        simp only [hi'] at q
        intro w z3 st3 pl3 R3 r3
        cases hl2 : look s2 (n + i) with
        | none => simp only [hl2] at q; exact q.elim
        | some m2 =>
          cases m2 with
          | d kvs =>
            cases hk : keyOf y with
            | none => simp only [hl2, hk] at q; exact q.elim
            | some k =>
              simp only [hl2, hk] at q
              split at q
              · rename_i hlen
                obtain ⟨v0, g1, g2, g3⟩ := R3.look hl2
                have rf : (sx vs σ ext)[n + i]? = some (some o) := rf
                rw [rf] at g1
                cases g1
                obtain ⟨a, us, e, w1, w2, w3⟩ := g3
                subst e
                refine ⟨a, _, rfl, .inl ⟨us, k, w1, keyOf_ok hk r3, by rw [repk_len w3, sizeLine_eq]; exact hlen, rfl⟩, ?_⟩
                have r1' := rep_ex (st2.trans st3).ef d u r1
                have R4 := R3.chg (o' := .dK (putK us k u)) (m' := .d (putD kvs k d)) w1 w2 (fun _ _ e => by (unfold LamX.CodeO at e; cases e)) ⟨fun _ e => (by cases e), fun _ e => (by cases e)⟩ g2 ⟨a, _, rfl, upd_same, w2, repk_put w3 r1'⟩
                exact q σ _ rfl (((st1.trans st2).trans st3).trans (own_st w2)) (ple_set (pl3.trans pl1) fun k e => (by cases e)) R4
              · exact q.elim
          | _ => simp only [hl2] at q; exact q.elim

/-! ### dicts -/
theorem e_dnew {pos : Pos} : EM X W vs (.Dict [] [] pos) (fun s => .ok (.d []) s) := wkE pe_dnewK fun σ H Q _ h => by
  obtain ⟨z, s, ext, hz, R, q⟩ := h
  intro p hp
  rw [← hz] at hp ⊢
  exact q (.ref p) (z.hold p (.dK []) (none, [])) (Stp.hold R.ok hp) (Ple.refl s) (R.hold hp) ⟨p, [], rfl, upd_same, if_pos rfl, rfl⟩
def fDGet : M → M → Option Rs
  | m, .f y => match asK m, keyOf y with
    | some kvs, some k => (valD kvs k).map Rs.sc
    | _, _ => none
  | _, _ => none
theorem op2_dget {K : PySem.W.Frag} {mg : Mg} : Op2 K mg (fun x y H Q => ∃ a v, x = .ref a ∧ DGet H a y (some v) ∧ Q v H) fDGet := by
  intro z m n v u rs Q k sm sn hf q
  unfold fDGet at hf
  split at hf
  · rename_i y
    split at hf
    · rename_i kvs ky h1 h2
      obtain ⟨a, us, rfl, g1, g2⟩ := see_K k h1 sm
      rcases repk_val (k := ky) g2 with ⟨e, _⟩ | ⟨d, w, e1, e2, e3⟩
      · rw [e] at hf; cases hf
      · rw [e1] at hf
        cases hf
        refine ⟨a, w, rfl, .inl ⟨us, ky, .inl g1, keyOf_ok h2 (see_v sn), e2.symm⟩, q w e3⟩
    · cases hf
  · cases hf
theorem e_dget {o i : Expr} {pos : Pos} {oa ob : Env → Re Ref} (hu : X.A.units + 1 < cLine) (ho : OM X W vs o oa) (hi : OM X W vs i ob) (hs : NoSl i := by exact fun _ _ => rfl) : EM X W vs (.Subscript o i pos) (cE2 fDGet oa ob) := wkE (pe_dget hu ho hi hs) fun _ _ _ _ h => tE2 op2_dget h
theorem p_dget {o i : Expr} {pos : Pos} {oa ob : Env → Option M} (hu : X.A.units + 1 < cLine) (ho : PM X vs o oa) (hi : PM X vs i ob) (hs : NoSl i := by exact fun _ _ => rfl) : PM X vs (.Subscript o i pos) (cP2 fDGet oa ob) := wkE (pe_dget hu ho hi hs) fun _ _ _ _ h => tP2 op2_dget h
/-- o.get(e, f), nothing of it makes anything -/
def cGet2 (po pe pf : Env → Option M) : Env → Option M := fun s => match po s, pe s, pf s with
  | some m, some (.f y), some (.f g) => (match asK m, keyOf y with
    | some kvs, some k => some (.f ((valD kvs k).getD g))
    | _, _ => none)
  | _, _, _ => none
theorem p_get2 {o e f : Expr} {apos cpos : Pos} {po pe pf : Env → Option M} (hu : X.A.units + 1 < cLine) (ho : PM X vs o po) (he : PM X vs e pe) (hf : PM X vs f pf) (m : M2 X o "get" apos e f cpos) : PM X vs (.Call (.Attribute o "get" apos) [e, f] [] cpos) (cGet2 po pe pf) := wkE (pe_dget2 hu ho he hf m) fun σ H Q _ h => by
  obtain ⟨z, s, ext, hz, R, x, hx, q⟩ := h
  unfold cGet2 at hx
  subst hz
  split at hx
  · rename_i m1 y g h1 h2 h3
    split at hx
    · rename_i kvs k h4 h5
      cases hx
      refine ⟨z, s, ext, rfl, R, m1, h1, fun v sv => ?_⟩
      obtain ⟨a, us, rfl, g1, g2⟩ := see_K R.ok h4 sv
      refine ⟨a, rfl, .inl ⟨us, .inl g1⟩, z, s, ext, rfl, R, .f y, h2, fun w sw => ⟨z, s, ext, rfl, R, .f g, h3, fun u su => ?_⟩⟩
      refine ⟨valV us k, .inl ⟨us, k, .inl g1, keyOf_ok h5 (see_v sw), rfl⟩, ?_⟩
      rcases repk_val (k := k) g2 with ⟨e1, e2⟩ | ⟨d, w, e1, e2, e3⟩
      · rw [e2]
        rw [e1] at q
        exact q u su
      · rw [e2]
        rw [e1] at q
        exact q w (see_f e3)
    · cases hx
  · cases hx
end
end Dn
end

section
set_option Elab.async false
set_option linter.all false
set_option maxRecDepth 100000
set_option maxHeartbeats 4000000
/-! DnL: own errors: made, raised, caught, told -/
namespace Dn
open PySem PySem.Spec PyProof.Rows L2
variable [Tb]

/-! ### __init__ that stores its parameters -/
def spX1 (K : PySem.W.Frag) (f : Str) : Sp := fun vs H Q _ => ∃ (a C : Addr) (y : V), vs = [.ref a, y] ∧ OexC K C ∧ PySem.W.findIn K (.ref C) f = some none ∧ H a = some (exo a C none) ∧
  ∀ dx, H dx = none → dx ≠ a → Q .non (upd (upd H dx (exd dx [(f, y)])) a (exo a C (some dx)))
def spX2 (K : PySem.W.Frag) (f g : Str) : Sp := fun vs H Q _ => ∃ (a C : Addr) (y u : V), vs = [.ref a, y, u] ∧ OexC K C ∧ PySem.W.findIn K (.ref C) f = some none ∧ PySem.W.findIn K (.ref C) g = some none ∧ H a = some (exo a C none) ∧
  ∀ dx, H dx = none → dx ≠ a → Q .non (upd (upd (upd H dx (exd dx [(f, y)])) a (exo a C (some dx))) dx (exd dx [(g, u), (f, y)]))
section
variable {P : Program} {w : World} {K : PySem.W.Frag} {mg : Str → Option Value} {base : Heap} {x qual : Str} {st : Stmt} {f : Addr} {fd : FuncData} {k : Nat} {p1 p2 p3 p4 q1 q2 q3 q4 : Pos}
theorem fn_x1 {a : Str} (F : Fun K x qual st f fd) (S : FnScope ["self", a] ["self", a] (defScope st)) (hb : defBody st = [.Assign [.Attribute (.Name "self" p1) a p2] (.Name a p3) p4]) (hd : (a == ("__debug__" : Str)) = false := by decide) (hcd : (a == ("__classdict__" : Str)) = false := by decide)
    (v0 : Vis (defScope st) "self" := by exact Or.inl rfl) (v1 : Vis (defScope st) a := by exact Or.inl rfl) :
    FnOk P w K mg base (L2.CX P w) (k + 1) f fd ["self", a] (spX1 K a) := by
  refine F.okX S (fun vs H Q E ⟨_, _, _, e, _⟩ => by rw [e]; rfl) fun cdv A outer s H vs Q E hr ⟨b, C, y, e, T, n1, h1, h2⟩ => ?_
  subst e
  rw [hb]
  refine ⟨_, pss_one (ps_ost (pe_var (i := 0) rfl v0) (pe_var (i := 1) rfl v1 hd hcd)), ?_⟩
  exact ⟨y, rfl, .ref b, rfl, b, C, rfl, T, n1, .inl ⟨h1, h2⟩⟩
theorem fn_x2 {a g : Str} (F : Fun K x qual st f fd) (S : FnScope ["self", a, g] ["self", a, g] (defScope st)) (hb : defBody st = [.Assign [.Attribute (.Name "self" p1) a p2] (.Name a p3) p4, .Assign [.Attribute (.Name "self" q1) g q2] (.Name g q3) q4]) (hd : (a == ("__debug__" : Str)) = false := by decide) (hcd : (a == ("__classdict__" : Str)) = false := by decide)
    (hd2 : (g == ("__debug__" : Str)) = false := by decide) (hcd2 : (g == ("__classdict__" : Str)) = false := by decide)
    (v0 : Vis (defScope st) "self" := by exact Or.inl rfl) (v1 : Vis (defScope st) a := by exact Or.inl rfl) (v2 : Vis (defScope st) g := by exact Or.inl rfl) :
    FnOk P w K mg base (L2.CX P w) (k + 1) f fd ["self", a, g] (spX2 K a g) := by
  refine F.okX S (fun vs H Q E ⟨_, _, _, _, e, _⟩ => by rw [e]; rfl) fun cdv A outer s H vs Q E hr ⟨b, C, y, u, e, T, n1, n2, h1, h2⟩ => ?_
  subst e
  rw [hb]
  refine ⟨_, pss_cons (ps_ost (pe_var (i := 0) rfl v0) (pe_var (i := 1) rfl v1 hd hcd)) (pss_one (ps_ost (pe_var (i := 0) rfl v0) (pe_var (i := 2) rfl v2 hd2 hcd2))), ?_⟩
  refine ⟨y, rfl, .ref b, rfl, b, C, rfl, T, n1, .inl ⟨h1, fun dx hx ne => ?_⟩⟩
  refine ⟨u, rfl, .ref b, rfl, b, C, rfl, T, n2, .inr ⟨dx, [(a, y)], upd_same, ?_, Nat.le_of_ble_eq_true rfl, h2 dx hx ne⟩⟩
  rw [upd_ne ne]; exact upd_same
end

/-! ### raise C(e, ..) -/
def dRaise (c : Str) (fs : List Str) (args : Env → Re (List D)) : Env → Out := fun s => match args s with
  | .ok ds s1 => if ds.length = fs.length then .ex ⟨c, (fs.zip ds).reverse⟩ s1 else .bad
  | .ex e s1 => .ex e s1
  | .bad => .bad
section
variable {X : Cx} {W : WX} {vs : List V}
theorem lay_xd {z : Z} {s : Env} {ext : List V} {σ : L2.St} {p : Addr} {o : HO} (R : Rl X.K X.mg z s vs σ ext) (hp : z.H p = none) (n : ∀ ps, o ≠ .tbl ps := by intro _ e; cases e) : Stp z (z.lay p o) ∧ Rl X.K X.mg (z.lay p o) s vs σ ext := ⟨Stp.lay R.ok hp, R.lay hp n⟩
theorem up_end {H : Hp} {a d : Addr} {o1 o2 o3 : HO} (ha : H a = none) (ne : d ≠ a) : upd (del (upd (upd H d o1) a o2) a) d o3 = upd H d o3 := by
  funext b
  by_cases h : b = d
  · rw [h, upd_same, upd_same]
  · rw [upd_ne h, upd_ne h]
    by_cases h2 : b = a
    · rw [h2, ha]; exact del_same
    · rw [del_ne h2, upd_ne h2, upd_ne h]
theorem up_end2 {H : Hp} {a d : Addr} {o0 o1 o2 o3 : HO} (ha : H a = none) (ne : d ≠ a) : upd (del (upd (upd (upd H d o1) a o2) d o0) a) d o3 = upd H d o3 := by
  funext b
  by_cases h : b = d
  · rw [h, upd_same, upd_same]
  · rw [upd_ne h, upd_ne h]
    by_cases h2 : b = a
    · rw [h2, ha]; exact del_same
    · rw [del_ne h2, upd_ne h, upd_ne h2, upd_ne h]
theorem up_a {H : Hp} {a d : Addr} {o : HO} (ha : H a = none) : upd (upd (upd H a o) d o) a o = upd (upd H d o) a o := by
  funext b
  by_cases h2 : b = a
  · rw [h2, upd_same, upd_same]
  · by_cases h : b = d
    · rw [upd_ne h2, upd_ne h2, h, upd_same, upd_same]
    · rw [upd_ne h2, upd_ne h2, upd_ne h, upd_ne h, upd_ne h2]
theorem up_a1 {H : Hp} {a d : Addr} {o o1 o2 : HO} : upd (upd (upd H a o) d o1) a o2 = upd (upd H d o1) a o2 := by
  funext b
  by_cases h2 : b = a
  · rw [h2, upd_same, upd_same]
  · by_cases h : b = d
    · rw [upd_ne h2, upd_ne h2, h, upd_same, upd_same]
    · rw [upd_ne h2, upd_ne h2, upd_ne h, upd_ne h, upd_ne h2]
section
variable {c x1 : Str} {C fI : Addr} {k : Nat} {fd : FuncData} {a g : Str} {e : Expr} {es : List Expr} {p p2 pos : Pos} {args : Env → Re (List D)}
theorem s_raise1 (tk : L2.Takes X W) (hc : X.calm = true) (hm : X.mg c = some (.ref C)) (T : OexC X.K C) (iC : PySem.W.findIn X.K (.ref C) "__init__" = some (some (.ref fI))) (tI : PySem.W.typeIn X.K (.ref fI) = some (.type "function")) (n1 : PySem.W.findIn X.K (.ref C) a = some none)
    (F1 : FnOk X.prog X.w X.K X.mg X.base (L2.CX X.prog X.w) k fI fd ["self", a] (spX1 X.K a)) (hr : Room (k + 1) X.A) (hb : Binds X.K fd ["self", a] []) (ha : VMs X W vs (e :: es) args) (hg : Gl X c := by rfl)
    (hdb : (c == ("__debug__" : Str)) = false := by decide) (he : starEach (e :: es) X.env = (false, eval e X.env) :: starEach es X.env := by rfl) (hpl : (backTo pos (starEach es X.env)).any (·.1) = false := by rfl) :
    SM X W vs (.Raise (some (.Call (.Name c p) (e :: es) [] pos)) none p2) (dRaise c [a] args) :=
  wkS (ps_raise hc tk (pmk_oex T iC tI F1 hr hb .nil (fun _ _ _ _ _ _ _ ⟨_, _, _, _, _, _, _, _, _, _, _, _, w⟩ => w.elim) hg hm ha hdb he hpl)) fun D σ H _ h => by
    obtain ⟨z, s, ext, hz, R, q⟩ := h
    refine ⟨z, s, ext, hz, R, ?_⟩
    unfold dRaise at q
    cases hd : args s with
    | bad => simp only [hd] at q; exact q
    | ex e s1 =>
      simp only [hd] at q
      exact xQ_E q
    | ok ds s1 =>
      simp only [hd] at q
      intro us z1 st1 pl1 R1 r1
      by_cases hl : ds.length = [a].length
      · rw [if_pos hl] at q
        match ds, hl, r1, q with
        | [d], _, r1, q =>
          obtain ⟨v, r, rfl, h1, h2⟩ := r1
          have h2 : r = [] := h2
          subst h2
          refine ⟨Nat.le_of_ble_eq_true rfl, fun b hb => ⟨b, C, v, rfl, T, n1, upd_same, fun dx hx ne => ⟨rfl, dx, [(a, v)], upd_same, ?_, ?_, ?_⟩⟩⟩
          · rw [upd_ne ne]; exact upd_same
          · rw [upd_ne ne] at hx; exact hx
          · rw [upd_ne ne] at hx
            rw [up_a1, up_end hb ne]
            obtain ⟨s2, R2⟩ := lay_xd (o := .xd [(a, v)]) R1 hx
            exact q σ (.ref C) (some dx) (z1.lay dx (.xd [(a, v)])) rfl (st1.trans s2) pl1 R2 ⟨C, hm, rfl, dx, _, rfl, upd_same, v, [], rfl, rep_ex s2.ef d v h1, rfl⟩
      · rw [if_neg hl] at q; exact q.elim
theorem s_raise2 (tk : L2.Takes X W) (hc : X.calm = true) (hm : X.mg c = some (.ref C)) (T : OexC X.K C) (iC : PySem.W.findIn X.K (.ref C) "__init__" = some (some (.ref fI))) (tI : PySem.W.typeIn X.K (.ref fI) = some (.type "function")) (n1 : PySem.W.findIn X.K (.ref C) a = some none) (n2 : PySem.W.findIn X.K (.ref C) g = some none)
    (F1 : FnOk X.prog X.w X.K X.mg X.base (L2.CX X.prog X.w) k fI fd ["self", a, g] (spX2 X.K a g)) (hr : Room (k + 1) X.A) (hb : Binds X.K fd ["self", a, g] []) (ha : VMs X W vs (e :: es) args) (hg : Gl X c := by rfl)
    (hdb : (c == ("__debug__" : Str)) = false := by decide) (he : starEach (e :: es) X.env = (false, eval e X.env) :: starEach es X.env := by rfl) (hpl : (backTo pos (starEach es X.env)).any (·.1) = false := by rfl) :
    SM X W vs (.Raise (some (.Call (.Name c p) (e :: es) [] pos)) none p2) (dRaise c [a, g] args) :=
  wkS (ps_raise hc tk (pmk_oex T iC tI F1 hr hb .nil (fun _ _ _ _ _ _ _ ⟨_, _, _, _, _, _, _, _, _, _, _, _, w⟩ => w.elim) hg hm ha hdb he hpl)) fun D σ H _ h => by
    obtain ⟨z, s, ext, hz, R, q⟩ := h
    refine ⟨z, s, ext, hz, R, ?_⟩
    unfold dRaise at q
    cases hd : args s with
    | bad => simp only [hd] at q; exact q
    | ex e s1 =>
      simp only [hd] at q
      exact xQ_E q
    | ok ds s1 =>
      simp only [hd] at q
      intro us z1 st1 pl1 R1 r1
      by_cases hl : ds.length = [a, g].length
      · rw [if_pos hl] at q
        match ds, hl, r1, q with
        | [d, e], _, r1, q =>
          obtain ⟨v, r, rfl, h1, h2⟩ := r1
          obtain ⟨u, r2, rfl, h3, h4⟩ := h2
          have h4 : r2 = [] := h4
          subst h4
          refine ⟨Nat.le_of_ble_eq_true rfl, fun b hb => ⟨b, C, v, u, rfl, T, n1, n2, upd_same, fun dx hx ne => ⟨rfl, dx, [(g, u), (a, v)], ?_, upd_same, ?_, ?_⟩⟩⟩
          · rw [upd_ne (Ne.symm ne)]; exact upd_same
          · rw [upd_ne ne] at hx; exact hx
          · rw [upd_ne ne] at hx
            rw [up_a1 (H := z1.H) (a := b) (d := dx), up_end2 hb ne]
            obtain ⟨s2, R2⟩ := lay_xd (o := .xd [(g, u), (a, v)]) R1 hx
            exact q σ (.ref C) (some dx) (z1.lay dx (.xd [(g, u), (a, v)])) rfl (st1.trans s2) pl1 R2 ⟨C, hm, rfl, dx, _, rfl, upd_same, u, _, rfl, rep_ex s2.ef e u h3, v, [], rfl, rep_ex s2.ef d v h1, rfl⟩
      · rw [if_neg hl] at q; exact q.elim
end
end
end Dn
end

section
set_option Elab.async false
set_option linter.all false
set_option maxRecDepth 100000
set_option maxHeartbeats 4000000
/-! DnM: an own error is caught and handed to a def that tells it -/
namespace Dn
open PySem PySem.Spec PyProof.Rows L2
variable [Tb]

/-! ### the error that a pin holds -/
structure Held (X : Cx) (p : Addr × Obj) (C d : Addr) : Prop where
  mem : p ∈ X.pn
  zc : Zc (.ref C) (some d) p.2
  fld : ∃ ws, p.2.data = .fields ws
section
variable {X : Cx} {W : WX} {vs : List V} {p : Addr × Obj} {C d : Addr}
theorem Held.at {pins : List (Addr × Obj)} {σ : L2.St} {H : Hp} {s : Shared} {fs : List (Str × V)} (T : Held X p C d) (I : Inv X pins σ H s) (hd : H d = some (.xd fs)) :
    ∃ od, PySem.W.InstAt s.heap p.1 p.2 C (some od) ∧ ∃ mA : Str → Option Value, (∀ f, RelO (fs.lookup f) (mA f)) ∧ ∀ n v, mA n = some v → PySem.W.lookIn n od = some (some v) := by
  have q : ObjOk X.prog X.w H s.heap d (.xd fs) := I.hok d _ hd
  obtain ⟨mA, ns, rel⟩ := q
  obtain ⟨od, at_, lk⟩ := lookIn_ns ns
  obtain ⟨ws, dt⟩ := T.fld
  have g := (I.pin p (List.mem_append_left _ T.mem)).1
  refine ⟨od, ⟨g, T.zc.1, by unfold PySem.W.notCls; rw [dt] <;> rfl, by rw [T.zc.2]; exact at_⟩, mA, rel, fun n v e => ?_⟩
  rw [lk, e]
/-- isinstance(e, c) for the held error -/
def rIsP (K : PySem.W.Frag) (p : Addr × Obj) (C d : Addr) : List V → Hp → VK → Prop := fun xs H Q => ∃ (c : V) (cv : Value) (b : Bool) (fs : List (Str × V)), xs = [.ref p.1, c] ∧ H d = some (.xd fs) ∧ (∀ u, RelV c u → u = cv) ∧ PySem.W.kitOne K (.ref C) cv = some b ∧ Q (.bl b) H
theorem call_isP (T : Held X p C d) (E : ExcC X.K C) : CallR X (.builtin "isinstance") (rIsP X.K p C d) := by
  intro pins s σ H xs us Q I r ⟨c, cv, b, fs, ex, hd, hc, e, q⟩
  subst ex
  obtain ⟨u1, u2, rfl, r1, r2⟩ := vals2 r
  obtain rfl : u1 = Value.ref p.1 := r1
  obtain rfl := hc _ r2
  obtain ⟨od, J, _⟩ := T.at I hd
  obtain ⟨cd, hcd, _⟩ := PySem.W.any_some E.hd
  exact PySem.W.kia_one (PySem.W.kitx_exc (by rw [hcd]; rfl) E.hg E.hk E.hs E.ha E.hn E.ht E.hm) I.kIn J e (fun z => nomatch z) fun tk => ⟨.bl b, H, I.tok tk, rfl, q⟩
/-- e.f for the held error -/
def tFldP (p : Addr × Obj) (d : Addr) (f : Str) (te : TE) : TE := fun σ H Q => te σ H fun x H1 => x = .ref p.1 ∧ ∃ (fs : List (Str × V)) (v : V), H1 d = some (.xd fs) ∧ fs.lookup f = some v ∧ Q v H1
theorem pe_fldP {e : Expr} {te : TE} {pos : Pos} {f : Str} (T : Held X p C d) (G : XfC X.K C) (no : PySem.W.findIn X.K (.ref C) f = some none) (he : PE X e te) (hb : attributeBase e f X.env (eval e X.env) = eval e X.env := by rfl) : PE X (.Attribute e f pos) (tFldP p d f te) := by
  refine ⟨fun pins s σ H Q I h => attr_of hb (thn (he.run pins s σ H _ I h) ?_)⟩
  rintro u s1 ⟨x, H1, I1, rx, ex, fs, v, hd, hl, q⟩
  subst ex
  obtain rfl : u = Value.ref p.1 := rx
  obtain ⟨od, J, mA, rel, lk⟩ := T.at I1 hd
  obtain ⟨w, hw, rw'⟩ := RelO.some_of (v := v) (o := mA f) (by rw [← hl]; exact rel f)
  exact HandSPX.exc_get I1.kIn J G.ga G.gg G.exC (PySem.W.findObj_own G.hdC no rfl (lk _ _ hw)) (handed_of rw') ⟨v, H1, I1.tok _, rw', q⟩
/-- the den of isinstance(e, c): T tells, c's class first -/
def fIsP (a d : Addr) (c : Str) (T : Str → Addr → Option Bool) : List M → Option Rs
  | [.f (.exc b dd _), .f (.adr C2)] => if b = a ∧ dd = d then (T c C2).map fun r => .sc (.bl r) else none
  | _ => none
theorem opL_isP {K : PySem.W.Frag} {mg : Mg} {c : Str} {T : Str → Addr → Option Bool} (hT : ∀ C2 b, T c C2 = some b → PySem.W.kitOne K (.ref C) (.ref C2) = some b) : OpL K mg (rIsP K p C d) (fIsP p.1 d c T) := by
  intro z ms us rs Q k sn hf q
  unfold fIsP at hf
  split at hf
  · rename_i b dd fs C2
    split at hf
    · rename_i eb
      obtain ⟨eb, ed⟩ := eb
      subst eb ed
      obtain ⟨v, w, rfl, s1, s2⟩ := sees2 sn
      have s1 := see_v s1
      obtain ⟨e1, fs', h1, h2⟩ := s1
      subst e1
      have e2 : w = .ref C2 := see_v s2
      subst e2
      cases ht : T c C2 with
      | none => rw [ht] at hf; cases hf
      | some r =>
        rw [ht] at hf
        cases hf
        exact ⟨.ref C2, .ref C2, r, fs', rfl, k.ex _ _ h1, fun u hu => hu, hT C2 r ht, q _ rfl⟩
    · cases hf
  · cases hf
/-- the den of e.f -/
def cFldP (a d : Addr) (f : Str) (o : Env → Option M) : Env → Option M := fun s => match o s with
  | some (.f (.exc b dd fs)) => if b = a ∧ dd = d then (fs.lookup f).map M.f else none
  | _ => none
theorem repf_look {K : PySem.W.Frag} {mg : Mg} {F : Hp} {f : Str} {d : D} : ∀ {fs : List (Str × D)} {us : List (Str × V)}, repf K mg F fs us → fs.lookup f = some d → ∃ v, us.lookup f = some v ∧ rep K mg F d v
  | [], _, _, h => by cases h
  | (g, e) :: fs, _, r, h => by
    obtain ⟨v, w, rfl, h1, h2⟩ := r
    by_cases q : f = g
    · subst q
      have h : some e = some d := by simpa [List.lookup] using h
      cases h
      exact ⟨v, by simp [List.lookup], h1⟩
    · have n : (f == g) = false := by simpa using q
      have h : fs.lookup f = some d := by simpa [List.lookup, n] using h
      obtain ⟨u, u1, u2⟩ := repf_look h2 h
      exact ⟨u, by simpa [List.lookup, n] using u1, u2⟩
theorem p_fldP {e : Expr} {pos : Pos} {f : Str} {o : Env → Option M} (T : Held X p C d) (G : XfC X.K C) (no : PySem.W.findIn X.K (.ref C) f = some none) (he : PM X vs e o) (hb : attributeBase e f X.env (eval e X.env) = eval e X.env := by rfl) : PM X vs (.Attribute e f pos) (cFldP p.1 d f o) := wkE (pe_fldP T G no he hb) fun σ H Q _ h => by
  obtain ⟨z, s, ext, hz, R, m, hm, q⟩ := h
  unfold cFldP at hm
  subst hz
  split at hm
  · rename_i b dd fs h1
    split at hm
    · rename_i eb
      obtain ⟨rfl, rfl⟩ := eb
      cases hl : fs.lookup f with
      | none => rw [hl] at hm; cases hm
      | some x =>
        rw [hl] at hm
        cases hm
        refine ⟨z, s, ext, rfl, R, _, h1, fun v sv => ?_⟩
        have sv := see_v sv
        obtain ⟨e1, fs', g1, g2⟩ := sv
        obtain ⟨u, u1, u2⟩ := repf_look g2 hl
        exact ⟨e1, fs', u, R.ok.ex _ _ g1, u1, q u (see_f u2)⟩
    · cases hm
  · cases hm
end

/-! ### a def that is called in the suite -/
structure FnP (P : Program) (w : World) (K : PySem.W.Frag) (mg : Mg) (base : Heap) (k : Nat) (f : Addr) (fd : FuncData) (ps : List Str) (sp : Addr × Obj → Sp) : Prop where
  many : ∀ p vs H Q E, sp p vs H Q E → vs.length = ps.length
  goes : ∀ (p : Addr × Obj) (A : Around) (outer : List PySem.Env) (s : Shared) (H : Hp) (args : Args) (us : List Value) (vs : List V) (Q : VK) (E : XK), L2H.RoomH k A → L2H.PinOk outer H s p → Env0 P w K mg base A outer s H →
    BindsTo s fd args (ps.zip us) → Vals vs us → sp p vs H Q E → codeAny (model P w) A (.call (.ref f) args) (CR (L2.CX P w) outer P w H s Q E) s
theorem fnP_of {P : Program} {w : World} {K : PySem.W.Frag} {mg : Mg} {base : Heap} {x qual : Str} {st : Stmt} {f : Addr} {fd : FuncData} {N ps : List Str} {k : Nat} {sp : Addr × Obj → Sp} (F : Fun K x qual st f fd) (S : FnScope N ps (defScope st)) (many : ∀ p vs H Q E, sp p vs H Q E → vs.length = ps.length)
    (hb : ∀ (cdv : Value) (p : Addr × Obj) (A : Around) (outer : List PySem.Env) (s : Shared) (H : Hp) (vs : List V) (Q : VK) (E : XK), L2H.RoomH k (A.deeper (envOfC qual (defScope st) s.heap.objs.size f cdv)) → sp p vs H Q E →
      ∃ t, PSs (L2H.cxH (L2.CX P w) P w K mg base N qual (defScope st) f cdv A outer s H E p) (defBody st) t ∧ t { nx := fun _ H' => Q .non H', rt := Q } (L2.start N vs) H) : FnP P w K mg base (k + 1) f fd ps sp := by
  obtain ⟨oc, od, kV, doc, pm, an, cdv, ct, osl, rfl, lk, code⟩ := F.ex
  refine ⟨many, fun p A outer s H args us vs Q E room pin e0 bind rel h => ?_⟩
  have n := many _ _ _ _ _ h
  have inK : K.In s.heap := e0.mod.kin.keeps fun b o e => (e0.bs b o e).1
  have noL : s.heap.NoLimit := e0.mod.nolimit.keeps fun b o e => (e0.bs b o e).1
  have kinds : ∀ y ∈ ps.zip us, (defScope st).names.lookup y.1 = some .local ∨ ((defScope st).names.lookup y.1 = some .cell ∧ ((cellsFrom (s.heap.objs.size + 1) (defScope st).names []).lookup y.1).isSome = true) := fun y hy =>
    (S.par y.1 (List.of_mem_zip hy).1).imp id fun q => ⟨q, PySem.W.cellsFrom_some _ _ _ (.inl q)⟩
  refine codeAny_call_function room.depth (inK _ _ lk) rfl S.co S.gen rfl (PySem.W.codeRec_of inK code) (bind _ _ _ _ ?_)
  refine wpAny_newFunctionEnv_cells S.kind kinds fun env he s1 call => ?_
  subst he
  refine ⟨noL.keeps call.toInCall.keep, codeAny_func ?_⟩
  obtain ⟨t, ht, hq⟩ := hb cdv p A outer s H vs Q E (room.deeper _) h
  have J := L2H.inv_startH S pin e0 n rel call (E := E) (CX := L2.CX P w)
  refine wpAny_mono (ht.run [] s1 (L2.start N vs) H _ J hq) (fun fl s' hs => ?_) fun _ _ hs => hs
  cases fl with
  | ret u => exact let ⟨v, _, H', I', rv, q⟩ := hs; ⟨v, H', I'.os, I'.bare, I'.base, I'.hok, rv, q⟩
  | next => exact let ⟨_, H', I', q⟩ := hs; ⟨.non, H', I'.os, I'.bare, I'.base, I'.hok, rfl, q⟩
  | brk => exact let ⟨_, _, _, q⟩ := hs; q.elim
  | cont => exact let ⟨_, _, _, q⟩ := hs; q.elim
/-- what such a def tells of the error -/
def spP (K : PySem.W.Frag) (mg : Mg) (told : Exn → Option D) : Addr × Obj → Sp := fun p vs H Q _ => ∃ z e r cls d, z.H = H ∧ Ok z ∧ Zc cls (some d) p.2 ∧ (∃ ws, p.2.data = .fields ws) ∧ exn K mg z e cls (some d) ∧ vs = [.ref p.1] ∧ told e = some r ∧
  ∀ v z', Stp z z' → Ok z' → rep K mg z'.F r v → Q v z'.H
theorem fnP_den {P : Program} {w : World} {K : PySem.W.Frag} {mg : Mg} {base : Heap} {x qual : Str} {st : Stmt} {f : Addr} {fd : FuncData} {N : List Str} {a : Str} {k : Nat} {told : Exn → Option D} {dB : Addr → Addr → Str → Env → Out} (F : Fun K x qual st f fd) (S : FnScope N [a] (defScope st)) (hN : 1 ≤ N.length)
    (ht : ∀ b d e r, told e = some r → ∃ s', dB b d e.c (entry N.length [.f (.exc b d e.fs)]) = .rt (.f r) s')
    (hbody : ∀ (X : Cx) (vs : List V) (p : Addr × Obj) (c : Str) (C d : Addr), X.prog = P → X.w = w → X.K = K → X.mg = mg → X.base = base → X.N = N → X.env.scope = defScope st → X.fn = (fun _ => true) → Held X p C d → X.mg c = some (.ref C) → vs.length = 1 →
      (∃ e r, told e = some r ∧ e.c = c) → SMs X (fun _ _ _ _ => False) vs (defBody st) (dB p.1 d c)) : FnP P w K mg base (k + 1) f fd [a] (spP K mg told) := by
  refine fnP_of F S (fun p vs H Q E ⟨_, _, _, _, _, _, _, _, _, _, e, _⟩ => by rw [e]; rfl) fun cdv p A outer s H vs Q E room h => ?_
  obtain ⟨z, e, r, cls, d, hz, kz, zc, fl, ⟨C, m1, ec, d', fs', ed, h1, h2⟩, ev, tr, q⟩ := h
  cases ed
  subst ec ev
  refine ⟨_, hbody (L2H.cxH (L2.CX P w) P w K mg base N qual (defScope st) f cdv A outer s H E p) [.ref p.1] p e.c C d rfl rfl rfl rfl rfl rfl rfl rfl ⟨List.mem_cons_self .., zc, fl⟩ m1 rfl ⟨e, r, tr, rfl⟩, ?_⟩
  have kz' : Ok (z.sub []) := kz.sub []
  have st0 : Stp z (z.sub []) := ⟨Ex.refl _, fun b o hb _ ho => ⟨hb, (by
    cases q : (z.sub []).O b with
    | none => rfl
    | some π =>
      obtain ⟨t, j, q', e1, _⟩ := sub_some q
      rw [ho] at e1; cases e1), rfl⟩⟩
  refine ⟨z.sub [], entry N.length [.f (.exc p.1 d e.fs)], [], hz, entry_rl kz' ⟨_, [], rfl, ⟨rfl, fs', h1, h2⟩, rfl⟩ hN, ?_⟩
  obtain ⟨s', hs⟩ := ht p.1 d e r tr
  rw [hs]
  exact fun σ' v z' _ st pl R ow => q v z' (st0.trans st) R.ok ow

/-! ### return tell(error), in the suite; the try around it -/
section
variable {X : Cx} {W : WX} {vs : List V} {k : Nat} {f : Addr} {fd : FuncData} {ps : List Str} {sp : Addr × Obj → Sp} {x : Str} {q pos : Pos} {e : Expr} {es : List Expr} {ta : TA}
theorem run_fnP {pins : List (Addr × Obj)} {σ : L2.St} {H : Hp} {s : Shared} {Q : VK} {us : List Value} {ws : List V} {p : Addr × Obj} (F : FnP X.prog X.w X.K X.mg X.base k f fd ps sp) (room : L2H.RoomH k X.A) (hp : p ∈ X.pn) (hb : Binds X.K fd ps []) (I : Inv X pins σ H s) (r : Vals ws us)
    (h : sp p ws H Q fun _ _ _ => False) : wpAny (model X.prog X.w) X.A (call (.ref f) us) (EP X pins σ Q) X.xe s := by
  have n : us.length = ps.length := r.length.symm.trans (F.many _ _ _ _ _ h)
  have b := hb s us I.kIn (by rw [List.append_nil]; exact n)
  rw [List.append_nil] at b
  obtain ⟨g1, g2, g3, g4, g5⟩ := I.pin p (List.mem_append_left _ hp)
  have po : L2H.PinOk X.stack H s p := ⟨g1, g2, fun m => (List.mem_cons.mp (I.stkSub p.1 m)).elim g3 g4, g5⟩
  refine wpAny_call (codeAny_mono (F.goes p X.A X.stack s H ⟨us, []⟩ us ws Q _ room po I.env0 b r h) fun r s' hq => ?_)
  cases r with
  | error e =>
    obtain ⟨_, _, _, _, _, _, _, _, _, _, _, _, no⟩ := hq
    exact no.elim
  | ok fl =>
    cases fl with
    | ret u => exact I.after hq
    | next => exact False.elim hq
    | brk => exact False.elim hq
    | cont => exact False.elim hq
theorem pe_callP {p : Addr × Obj} (F : FnP X.prog X.w X.K X.mg X.base k f fd ps sp) (room : L2H.RoomH k X.A) (hp : p ∈ X.pn) (hg : Gl X x) (hm : X.mg x = some (.ref f)) (hk : PySem.W.keepIn X.K (.ref f) = true) (hb : Binds X.K fd ps []) (ha : PA X (e :: es) ta)
    (hd : (x == ("__debug__" : Str)) = false) (he : starEach (e :: es) X.env = (false, eval e X.env) :: starEach es X.env) (hpl : (backTo pos (starEach es X.env)).any (·.1) = false) :
    PE X (.Call (.Name x q) (e :: es) [] pos) (fun σ H Q => ta σ H fun ws H1 => sp p ws H1 Q fun _ _ _ => False) := by
  refine ⟨fun pins s σ H Q I h => wpAny_Call_Name_kw (ld_glob I hg hm ?_ hd)⟩
  refine PySem.W.callWith_K (h₀ := X.base) I.ok.mod.kin hk (thn (ha.run pos pins s σ H _ I h) ?_) he hpl
  rintro us s1 ⟨ws, H1, I1, r, q⟩
  exact ⟨I1.kIn, run_fnP F room hp hb I1 r q⟩
/-- what the suite asks -/
def tsT (K : PySem.W.Frag) (mg : Mg) (vs : List V) (told : Exn → Option D) (i : Nat) : Addr → Value → Option Addr → TS := fun a cls d D σ H => ∃ z s ext e r, z.H = H ∧ Rl K mg z s vs σ ext ∧ exn K mg z e cls d ∧ σ[i]? = some (some (.ref a)) ∧ told e = some r ∧
  ∀ v z', Stp z z' → Rl K mg z' s vs σ ext → rep K mg z'.F r v → D.rt v z'.H
theorem ss_tell {told : Exn → Option D} {i : Nat} {a0 : Str} {en : Str} {ep rp : Pos} (F : FnP X.prog X.w X.K X.mg X.base k f fd [a0] (spP X.K X.mg told)) (room : L2H.RoomH k X.A) (hg : Gl X x) (hm : X.mg x = some (.ref f)) (hk : PySem.W.keepIn X.K (.ref f) = true) (hb : Binds X.K fd [a0] []) (hi : X.N[i]? = some en) (hv : Vis X.env.scope en)
    (hd : (x == ("__debug__" : Str)) = false) (hd2 : (en == ("__debug__" : Str)) = false) (hc2 : (en == ("__classdict__" : Str)) = false) (a : Addr) (oe : Obj) (cls : Value) (d : Option Addr) (pn : List (Addr × Obj)) (zc : Zc cls d oe) (fl : ∃ ws, oe.data = .fields ws)
    (he : starEach [.Name en ep] X.env = [(false, eval (.Name en ep) X.env)]) :
    PSs (X.suite a ((a, oe) :: pn)) [.Return (some (.Call (.Name x q) [.Name en ep] [] pos)) rp] (tsT X.K X.mg vs told i a cls d) := by
  have body := pss_one (ps_ret (pos := rp) (pe_callP (X := X.suite a ((a, oe) :: pn)) (q := q) (pos := pos) F (k := k) ⟨room.dp, room.un⟩ (p := (a, oe)) (List.mem_cons_self ..) hg hm hk hb (pa_cons (pe_var (i := i) (pos := ep) hi hv hd2 hc2) pa_nil) hd he rfl))
  refine wkSs body fun D σ H _ h => ?_
  obtain ⟨z, s0, ext, e, r, hz, R, x1, x2, x3, x4⟩ := h
  refine ⟨.ref a, x2, ?_⟩
  obtain ⟨C, m1, ec, d', fs', ed, h1, h2⟩ := x1
  subst ec ed
  obtain ⟨k1, ow, back⟩ := call_ghost R (rs := []) (as := []) (us := []) rfl rfl rfl
  have k1 : Ok (z.sub []) := k1
  refine ⟨z.sub [], e, r, .ref C, d', hz, k1, zc, fl, ⟨C, m1, rfl, d', fs', rfl, h1, h2⟩, rfl, x3, fun v z' st kz rp => ?_⟩
  obtain ⟨z2, e2, st2, R2, pl2, om2, _⟩ := back z' [] st kz rfl
  rw [← e2]
  exact x4 v z2 st2 R2 (om2 (.f r) v rp)
end
/-- try: .. except C as e: return tell(e) -/
def dTry (j : Nat) (told : Exn → Option D) (body : Env → Out) : Env → Out := fun s => match body s with
  | .ex e s1 => (match told e with
    | some r => .rt (.f r) (s1.set j none)
    | none => .bad)
  | o => o
theorem Rl.less {K : PySem.W.Frag} {mg : Mg} {z : Z} {s : Env} {vs ext : List V} {σ : L2.St} (R : Rl K mg z s vs σ ext) (j : Nat) : Rl K mg z (s.set j none) vs σ ext := ⟨R.ok, by rw [List.length_set]; exact R.len, fun i m h => by
  by_cases e : j = i
  · subst e
    by_cases hj : j < s.length
    · rw [List.getElem?_set_self hj] at h; cases h
    · rw [List.getElem?_eq_none (by rw [List.length_set]; omega)] at h; cases h
  · rw [List.getElem?_set_ne e] at h
    exact R.at_ i m h⟩
theorem Ple.less {s s0 : Env} (pl : Ple s s0) (j : Nat) : Ple (s.set j none) s0 := fun i k h => by
  by_cases e : j = i
  · subst e
    by_cases hj : j < s.length
    · rw [List.getElem?_set_self hj] at h; cases h
    · rw [List.getElem?_eq_none (by rw [List.length_set]; omega)] at h; cases h
  · rw [List.getElem?_set_ne e] at h
    exact pl i k h
section
variable {X : Cx} {W : WX} {vs : List V}
theorem s_try {n i : Nat} {told : Exn → Option D} {body : List Stmt} {b₀ : Stmt} {cn en : Str} {c : Value} {np pos' pos : Pos} {db : Env → Out} (hn : vs.length = n) (hs : X.stack = X.env :: X.outer) (hf : X.env.frame = some X.env.locals) (hN : X.N.Nodup) (hi : X.N[i]? = some en) (hln : X.env.kindOf en = some .local) (hc : Names X cn c) (tk : L2.Takes X W)
    (hb : ∀ (W' : WX) (pn : List (Addr × Obj)) (xe : Value → Shared → Prop), L2.Takes (X.tr pn xe) W' → PassesOwn (model X.prog X.w) X.A X.env xe → SMs (X.tr pn xe) W' vs body db)
    (hsu : ∀ (a : Addr) (oe : Obj) (cls : Value) (d : Option Addr) (pn : List (Addr × Obj)), Zc cls d oe → (∃ ws, oe.data = .fields ws) → PSs (X.suite a ((a, oe) :: pn)) [b₀] (tsT X.K X.mg vs told i a cls d))
    (hx : ∀ e r C, told e = some r → X.mg e.c = some (.ref C) → PySem.W.exmOne X.K (.ref C) c = some true) :
    SM X W vs (.Try body [.ExceptHandler (some (.Name cn np)) (some en) [b₀] pos'] [] [] pos) (dTry (n + i) told db) := wkS (ps_try_as (tb := fun W' => rdS X.K X.mg W' vs db) (ts := tsT X.K X.mg vs told i) (Wout := W) hs hf hN hi hln hc tk hb hsu) fun D σ H hl h => by
  obtain ⟨z, s, ext, hz, R, q⟩ := h
  refine ⟨z, s, ext, hz, R, ?_⟩
  unfold dTry at q
  cases hd : db s with
  | ex e s1 =>
    simp only [hd] at q
    cases ht : told e with
    | none => simp only [ht] at q; exact q.elim
    | some r =>
      simp only [ht] at q
      intro σ' cls dd z' l st pl R' xx
      have hi' : i < σ'.length := by rw [l, hl]; exact (List.getElem?_eq_some_iff.mp hi).1
      refine ⟨true, ?_, fun _ a na => ?_, fun w => by cases w⟩
      · obtain ⟨C, m1, ec, _⟩ := xx
        rw [ec]
        exact hx e r C ht m1
      · have P := R'.put (m := .f (.adr a)) (v := .ref a) hi' rfl
        rw [hn] at P
        have P2 := P.less (n + i)
        have es : (s1.set (n + i) (some (.f (.adr a)))).set (n + i) none = s1.set (n + i) none := List.set_set ..
        rw [es] at P2
        refine ⟨z'.rel (n + i), _, ext, e, r, rfl, P2, xx, by rw [List.getElem?_set_self hi'], ht, fun v z2 st2 R2 rp => ?_⟩
        exact q (σ'.set i (some (.ref a))) v z2 (by rw [List.length_set]; exact l) ((st.trans (Stp.rel _ _)).trans st2) (pl.less _) R2 rp
  | nx s1 => simp only [hd] at q; exact q
  | bk s1 => simp only [hd] at q; exact q
  | ct s1 => simp only [hd] at q; exact q
  | rt m s1 => simp only [hd] at q; exact q
  | bad => simp only [hd] at q; exact q
end
end Dn
end

section
set_option Elab.async false
set_option linter.all false
set_option maxRecDepth 100000
set_option maxHeartbeats 4000000
/-! DnN: sorted(xs, key=lambda p: (len(p), p)), the items tuples of whole numbers -/
namespace Dn
open PySem PySem.Spec PyProof.Rows L2
variable [Tb]

/-- (len(p), p) -/
abbrev lenKey (p : Str) (p1 p2 p3 p4 p5 : Pos) (k : Nat) : Expr := .Tuple [.Call (.Name "len" p1) [.Name p p2] [] p3, .Name p p4] k p5
structure LamK (scope : Scope) (p : Str) : Prop where
  kind : scope.kind = .function
  co : scope.isCoroutine = false
  gen : scope.isGenerator = false
  loc : scope.names.lookup p = some .local
  len : scope.names.lookup ("len" : Str) = some .globalImplicit
  cell : ∀ y ∈ scope.names, y.2 ≠ .cell
  free : ∀ y ∈ scope.names, y.2 ≠ .free
def keyL (ns : List Int) : PyData := .tuple [.int ns.length, .tuple (ns.map .int)]
section
variable {X : Cx} {pins : List (Addr × Obj)} {σ : L2.St} {H : Hp} {s : Shared}
theorem lamK_turn {scope : Scope} {p q : Str} {f c' : Addr} {params : Arguments} {cl : List (Str × Addr)} {pm ctv : Value} {p1 p2 p3 p4 p5 : Pos} {k : Nat} {A : Around} {h : Heap} {tk : Nat} {a : Addr} {its : List Value} {ns : List Int} (I : Inv X pins σ H s) (L : LamK scope p) (hm : X.mg "len" = none)
    (hd : (p == ("__debug__" : Str)) = false) (hf : s.heap.get? f = some (PySem.W.kla_obj "<lambda>" q params (lenKey p p1 p2 p3 p4 p5 k) scope cl pm c' ctv)) (hc : H c' = some (LamX.CodeO c' q))
    (hb : ∀ v, bindArgs (PySem.W.kla_fn "<lambda>" q params (lenKey p p1 p2 p3 p4 p5 k) scope cl pm (.ref c') ctv) ⟨[v], []⟩ = pure [(p, v)]) (room : A.depth < recursionLimit) (kp : ∀ b o, s.heap.get? b = some o → h.get? b = some o)
    (ht : IsTup s.heap a its.toArray) (hi : IntsAre its ns) (hz : its.length ≤ sizeLine) :
    wpAny (model X.prog X.w) A (call (.ref f) [.ref a]) (PySem.W.KeyPure (keyL ns) { s with heap := h, toks := tk }) (fun _ _ => False) { s with heap := h, toks := tk } := by
  obtain ⟨⟨oc, ws, t, hoc, hdc, hvc⟩, _, _⟩ := I.hok c' _ hc
  refine wpAny_call (PySem.W.kla_callFunE room (kp _ _ hf) rfl L.co L.gen rfl ⟨c', oc, ws, t, rfl, kp _ _ hoc, hdc, hvc⟩ ?_)
  rw [hb]
  refine wpAny_pure (wpAny_newFunctionEnv L.cell (fun x hx => by
    rw [List.mem_singleton.mp hx]
    exact L.loc) (fun h₁ hns hsb => ⟨(I.nolimit.keeps kp).fresh _ hsb, ?_⟩) L.kind)
  have kp1 : ∀ b o, h.get? b = some o → h₁.get? b = some o := fun b o e => hsb.extBut b o (Nat.ne_of_lt (Heap.lt_size e)) (Heap.get?_push_of_some _ e)
  have kp2 : ∀ b o, s.heap.get? b = some o → h₁.get? b = some o := fun b o e => kp1 b o (kp b o e)
  obtain ⟨mb, g1, g2⟩ := I.mod.blt
  have ht1 : IsTup h₁ a its.toArray := ht.keeps kp2
  have l63 := line63
  have hlen := hi.length
  refine PySem.W.kla_codeExpr ?_
  have ep : ∀ {tk' : Nat} {Q : Value → Shared → Prop} {E : Value → Shared → Prop} {A' : Around} {pp : Pos}, Q (.ref a) { s with heap := h₁, toks := tk' } →
      wpAny (model X.prog X.w) A' (eval (.Name p pp) (newEnv scope h.objs.size mainGlobals cl (q ++ ".<locals>.") (some f) (.ref c') none builtinsNs)) Q E { s with heap := h₁, toks := tk' } := fun {tk' Q E A' pp} hq =>
    wpAny_Name (wpAny_loadName_local (m := fun x => [(p, Value.ref a)].reverse.lookup x) L.kind L.loc hns (by simp [List.lookup]) hq) hd
  refine wpAny_Tuple_spliced ?_
  refine Calls.spliced_cons ?_
  refine wpAny_Call_Name_kw (Calls.Name_function_global L.kind L.len (Calls.loadGlobal_builtin (I.mod.glob.keeps fun b o e => kp2 b o (I.bk b o e)) hm (g1.keeps fun b o e => kp2 b o (I.bk b o e)) ((g2 "len" (by decide)).trans PyProof.Rows.Boot.len) ?_) (by decide))
  refine PyProof.Rows.callWith_builtin1 ?_ rfl rfl
  refine Calls.spliced_cons (ep ?_)
  refine Calls.spliced_nil ?_
  refine len_tuple (s := { s with heap := h₁, toks := _ }) ht1 (by rw [List.size_toArray]; omega) ?_
  refine Calls.spliced_cons (ep ?_)
  refine Calls.spliced_nil ⟨by rw [sizeLine_eq]; exact Nat.le_of_ble_eq_true rfl, ?_⟩
  refine ⟨_, _, rfl, fun b o e => Heap.get?_push_of_some _ (kp1 b o e), ?_⟩
  obtain ⟨o, ho, hoc2, n, hod⟩ := ht1
  refine .tuple (Heap.get?_push_size _ rfl) rfl rfl ?_
  have e1 : ((its.toArray.size : Nat) : Int) = (ns.length : Int) := by rw [List.size_toArray, hlen]
  rw [← e1]
  refine .cons (as := []) (bs := []) (.int _ _) (.cons (as := []) (bs := []) (.tuple (Heap.get?_push_of_some _ ho) hoc2 hod ?_) .nil)
  exact IntsAre.reads _ hi
end

/-! ### the order: by length, then item by item -/
def lexI : List Int → List Int → Bool
  | [], _ => true
  | _ :: _, [] => false
  | x :: a, y :: b => if x < y then true else if y < x then false else lexI a b
def leI (a b : List Int) : Bool := if a.length < b.length then true else if b.length < a.length then false else lexI a b
theorem lex_toks : ∀ (a b : List Int) (t : List (Int ⊕ List Nat)), PyProof.Rows.lexLt PyProof.Rows.itemOrd (PySem.W.keyToksAll (b.map PyData.int) ++ [.inl 0]) (PySem.W.keyToksAll (a.map PyData.int) ++ [.inl 0]) = !lexI a b
  | [], [], _ => by simp [PySem.W.keyToksAll, PyProof.Rows.lexLt, lexI, PyProof.Rows.itemLt]
  | [], y :: b, _ => by simp [PySem.W.keyToksAll, PyProof.Rows.lexLt, lexI, PyProof.Rows.itemLt]
  | x :: a, [], _ => by simp [PySem.W.keyToksAll, PyProof.Rows.lexLt, lexI, PyProof.Rows.itemLt]
  | x :: a, y :: b, t => by
    have ih := lex_toks a b t
    simp only [List.map_cons, PySem.W.keyToksAll, PySem.W.keyToks, List.cons_append, List.nil_append, PyProof.Rows.lexLt, PyProof.Rows.itemLt, lexI, List.append_assoc] at ih ⊢
    rw [ih]
    by_cases h1 : x < y
    · have h2 : ¬ y < x := by omega
      simp [h1, h2]
    · by_cases h2 : y < x
      · simp [h1, h2]
      · simp [h1, h2]
theorem le_toks (a b : List Int) : PySem.W.dataLe false keyL a b = leI a b := by
  have h := lex_toks a b []
  show (!PyProof.Rows.lexLt PyProof.Rows.itemOrd (PySem.W.keyToks (keyL b)) (PySem.W.keyToks (keyL a))) = leI a b
  unfold keyL leI
  simp only [PySem.W.keyToks, PySem.W.keyToksAll, List.cons_append, List.nil_append, PyProof.Rows.lexLt, PyProof.Rows.itemLt]
  rw [h]
  by_cases h1 : a.length < b.length
  · have h2 : ¬ b.length < a.length := by omega
    have e1 : ¬ ((b.length : Int) < (a.length : Int)) := by omega
    have e2 : ((a.length : Int) < (b.length : Int)) := by omega
    simp [h1, e1, e2]
  · by_cases h2 : b.length < a.length
    · have e1 : ((b.length : Int) < (a.length : Int)) := by omega
      simp [h1, h2, e1]
    · have e1 : ¬ ((b.length : Int) < (a.length : Int)) := by omega
      have e2 : ¬ ((a.length : Int) < (b.length : Int)) := by omega
      simp [h1, h2, e1, e2]
theorem lexI_anti : ∀ {a b : List Int}, lexI a b = true → lexI b a = true → a = b
  | [], [], _, _ => rfl
  | [], _ :: _, _, h => by simp [lexI] at h
  | _ :: _, [], h, _ => by simp [lexI] at h
  | x :: a, y :: b, h, h' => by
    unfold lexI at h h'
    by_cases h1 : x < y
    · have h2 : ¬ y < x := by omega
      simp [h1, h2] at h'
    · by_cases h2 : y < x
      · simp [h1, h2] at h
      · simp only [h1, h2, if_false] at h h'
        have e : x = y := by omega
        rw [e, lexI_anti h h']
theorem leI_anti {a b : List Int} (h : leI a b = true) (h' : leI b a = true) : a = b := by
  unfold leI at h h'
  by_cases h1 : a.length < b.length
  · have h2 : ¬ b.length < a.length := by omega
    simp [h1, h2] at h'
  · by_cases h2 : b.length < a.length
    · simp [h1, h2] at h
    · simp only [h1, h2, if_false] at h h'
      exact lexI_anti h h'
def insI (a : List Int) : List (List Int) → List (List Int)
  | [] => [a]
  | b :: r => if leI a b = true then a :: b :: r else b :: insI a r
def sortL : List (List Int) → List (List Int)
  | [] => []
  | a :: r => insI a (sortL r)
theorem leI_tr {a b c : List Int} (h : leI a b = true) (h' : leI b c = true) : leI a c = true := by
  rw [← le_toks] at h h' ⊢
  exact (PySem.W.sortLe_total _ _ _).trans _ _ _ h h'
theorem leI_tot (a b : List Int) : leI a b = true ∨ leI b a = true := by
  rw [← le_toks, ← le_toks]
  exact (PySem.W.sortLe_total _ _ _).total _ _
theorem insI_perm (a : List Int) : ∀ l, (insI a l).Perm (a :: l)
  | [] => .refl _
  | b :: r => by
    unfold insI
    split
    · exact .refl _
    · exact ((insI_perm a r).cons b).trans (.swap a b r)
theorem insI_srt (a : List Int) : ∀ l, l.Pairwise (fun x y => leI x y = true) → (insI a l).Pairwise fun x y => leI x y = true
  | [], _ => by simp [insI]
  | b :: r, h => by
    obtain ⟨h1, h2⟩ := List.pairwise_cons.mp h
    unfold insI
    split
    · rename_i q
      refine List.pairwise_cons.mpr ⟨fun x hx => ?_, h⟩
      rcases List.mem_cons.mp hx with e | e
      · rw [e]; exact q
      · exact leI_tr q (h1 x e)
    · rename_i q
      refine List.pairwise_cons.mpr ⟨fun x hx => ?_, insI_srt a r h2⟩
      rcases List.mem_cons.mp ((insI_perm a r).mem_iff.mp hx) with e | e
      · rw [e]; exact (leI_tot a b).resolve_left q
      · exact h1 x e
theorem sortL_perm : ∀ l, (sortL l).Perm l
  | [] => .refl _
  | a :: r => (insI_perm a _).trans ((sortL_perm r).cons a)
theorem sortL_srt : ∀ l, (sortL l).Pairwise fun x y => leI x y = true
  | [] => List.Pairwise.nil
  | a :: r => insI_srt a _ (sortL_srt r)
theorem srtI_one : ∀ {l m : List (List Int)}, l.Perm m → l.Pairwise (fun x y => leI x y = true) → m.Pairwise (fun x y => leI x y = true) → l = m
  | [], m, p, _, _ => p.symm.eq_nil.symm
  | a :: l, [], p, _, _ => absurd p.eq_nil (by simp)
  | a :: l, b :: m, p, h, h' => by
    obtain ⟨h1, h2⟩ := List.pairwise_cons.mp h
    obtain ⟨h1', h2'⟩ := List.pairwise_cons.mp h'
    have rf : ∀ a, leI a a = true := fun a => (leI_tot a a).elim id id
    have e : a = b := by
      have x : leI a b = true := by
        rcases List.mem_cons.mp (p.mem_iff.mpr (List.mem_cons_self ..)) with e | e
        · rw [e]; exact rf a
        · exact h1 b e
      have y : leI b a = true := by
        rcases List.mem_cons.mp (p.mem_iff.mp (List.mem_cons_self ..)) with e | e
        · rw [e]; exact rf b
        · exact h1' a e
      exact leI_anti x y
    subst e
    rw [srtI_one p.cons_inv h2 h2']
theorem merge_sortL (l : List (List Int)) : l.mergeSort (PySem.W.dataLe false keyL) = sortL l := by
  refine srtI_one ((List.mergeSort_perm l _).trans (sortL_perm l).symm) ?_ (sortL_srt l)
  have q := List.pairwise_mergeSort (le := PySem.W.dataLe false keyL) (PySem.W.sortLe_total _ _ _).trans (fun a b => by
    have := (PySem.W.sortLe_total (PyProof.Rows.listOrd PyProof.Rows.itemOrd) false fun b => PySem.W.keyToks (keyL b)).total a b
    rw [Bool.or_eq_true]; exact this) l
  exact q.imp fun {a b} h => by rw [← le_toks]; exact h
def tupsOf : List D → Option (List (List Int))
  | [] => some []
  | .tup ds :: r => (match intsOf ds with
    | some ns => (tupsOf r).map (ns :: ·)
    | none => none)
  | _ => none
def tupD (ns : List Int) : D := .tup (ns.map D.int)
def fSortL : M → Option Rs := fun m => match asL m with
  | some ds => (tupsOf ds).map fun nss => .nl ((sortL nss).map tupD)
  | none => none
section
variable {K : PySem.W.Frag} {mg : Mg} {F : Hp}
/-- the value stands for the numbers -/
def IsT (K : PySem.W.Frag) (F : Hp) (v : Value) (ns : List Int) : Prop := ∃ a, v = .ref a ∧ SqT K F a (ns.map V.int)
theorem tups_each : ∀ {ds : List D} {nss : List (List Int)} {us : List V} {ws : List Value}, tupsOf ds = some nss → reps K mg F ds us → Vals us ws → PySem.W.EachIs (IsT K F) ws nss
  | [], _, _, _, h, r, v => by
    cases h
    have r : _ = [] := r
    subst r
    cases v
    exact .nil
  | d :: ds, nss, us, ws, h, r, v => by
    obtain ⟨x, us', rfl, r1, r2⟩ := r
    cases v with
    | cons v1 v2 =>
      cases d with
      | tup es =>
        unfold tupsOf at h
        cases hi : intsOf es with
        | none => simp only [hi] at h; cases h
        | some ns =>
          simp only [hi] at h
          cases ht : tupsOf ds with
          | none => rw [ht] at h; cases h
          | some m =>
            rw [ht] at h
            cases h
            obtain ⟨a, es', rfl, q1, q2⟩ := r1
            cases v1
            refine .cons ⟨a, rfl, ?_⟩ (tups_each ht r2 v2)
            rw [← intsOf_ok hi q2]; exact q1
      | _ => cases h
theorem each_reps : ∀ {ws : List Value} {nss : List (List Int)}, PySem.W.EachIs (IsT K F) ws nss → ∃ us, Vals us ws ∧ reps K mg F (nss.map tupD) us
  | _, _, .nil => ⟨[], .nil, rfl⟩
  | _, _, .cons ⟨a, e, q⟩ t => by
    subst e
    obtain ⟨us, h1, h2⟩ := each_reps t
    exact ⟨.ref a :: us, .cons rfl h1, .ref a, us, rfl, ⟨a, _, rfl, q, reps_ints _⟩, h2⟩
theorem alike_ints : ∀ (a b : List Int), PySem.W.alikeAll (a.map PyData.int) (b.map PyData.int) = true
  | [], _ => by simp [PySem.W.alikeAll]
  | _ :: _, [] => by simp [PySem.W.alikeAll]
  | x :: a, y :: b => by simp [PySem.W.alikeAll, PySem.W.alike, alike_ints a b]
theorem alike_keyL (a b : List Int) : PySem.W.alike (keyL a) (keyL b) = true := by
  unfold keyL
  simp [PySem.W.alikeAll, PySem.W.alike, alike_ints a b]
theorem depth_keyL (a : List Int) : (keyL a).depth ≤ 8 := by
  have key : ∀ a : List Int, PyData.depthAll (a.map PyData.int) ≤ 2 := by
    intro a
    induction a with
    | nil => simp [PyData.depthAll]
    | cons x a ih => simp [PyData.depthAll, PyData.depth] at ih ⊢; omega
  have := key a
  unfold keyL
  simp [PyData.depth, PyData.depthAll]
  omega
end
section
variable {X : Cx} {W : WX} {vs : List V}
/-- the tables have grown, nothing else has changed -/
theorem tab_ok {z : Z} {H1 : Hp} (k : Ok z) (e : LamX.ExtN z.H H1) (t : LamX.Tabs Tb.T H1) : Ok ⟨z.F, H1, z.O⟩ ∧ Stp z ⟨z.F, H1, z.O⟩ ∧ ∀ a π, z.O a = some π → H1 a = z.H a := by
  have at_ : ∀ a π, z.O a = some π → H1 a = z.H a := fun a π q => by
    obtain ⟨o, ho⟩ := k.tr a π q
    rw [ho]
    exact e a o ho (k.nx a π q o ho).2
  have ff : ∀ a o, z.F a = some o → ∀ ps, o ≠ .tbl ps := fun a o q ps w => by
    subst w
    have := k.tb.2 a ps (k.ex a _ q)
    rw [q] at this; cases this
  refine ⟨⟨k.fr, fun a π q => ?_, fun a o q => e a o (k.ex a o q) (ff a o q), fun a π q o ho => ?_, t, fun a ps h => ?_⟩, ⟨Ex.refl _, fun a o h n q => ⟨e a o h n, q, rfl⟩⟩, at_⟩
  · obtain ⟨o, ho⟩ := k.tr a π q
    exact ⟨o, (at_ a π q).trans ho⟩
  · have ho : H1 a = some o := ho
    rw [at_ a π q] at ho
    exact k.nx a π q o ho
  · have h : H1 a = some (.tbl ps) := h
    show z.F a = none
    cases q : z.F a with
    | none => rfl
    | some o =>
      rw [e a o (k.ex a o q) (ff a o q)] at h
      exact absurd (Option.some.inj h) (ff a o q ps)
theorem e_sortL {xs : Expr} {oa : Env → Re Ref} {p p1 p2 p3 p4 p5 lpos kpos pos : Pos} {kk : Nat} {pn : Str} {params : Arguments} {scope : Scope} {c P : Addr} (ho : OM X W vs xs oa) (hr : Room 8 X.A) (TB : LamX.TabB X.base X.mg c P) (hcode : X.env.code = .ref c) (hT : (P, X.env.qual ++ "<lambda>") ∈ Tb.T)
    (hu : ∀ p ∈ Tb.T, p.1 = P → p.2 = X.env.qual ++ "<lambda>") (L : LamK scope pn) (hs : X.mg "sorted" = none) (hl : X.mg "len" = none) (hgs : Gl X "sorted") (hdef : defaultsOf params X.env = ([], [])) (hpd : (pn == ("__debug__" : Str)) = false)
    (hb : ∀ (q : Str) (cl : List (Str × Addr)) (pm cv ctv v : Value), bindArgs (PySem.W.kla_fn "<lambda>" q params (lenKey pn p1 p2 p3 p4 p5 kk) scope cl pm cv ctv) ⟨[v], []⟩ = pure [(pn, v)])
    (he : backTo pos (starEach [xs] X.env) = [(false, eval xs X.env)] := by rfl) (he2 : starEach [xs] X.env = (false, eval xs X.env) :: starEach [] X.env := by rfl) (hpl : (backTo pos (starEach [xs] X.env)).any (·.1) = false := by rfl) :
    EM X W vs (.Call (.Name "sorted" p) [xs] [⟨some "key", .Lambda params (lenKey pn p1 p2 p3 p4 p5 kk) scope lpos, kpos⟩] pos) (cE1 fSortL oa) := by
  refine ⟨fun pins s σ H Q I h => ?_⟩
  refine wpAny_Call_Name_kw (ld_blt I hgs hs PyProof.Rows.boot_sorted ?_ (by decide) (by decide))
  refine PyProof.Rows.callWith_kw (rest := []) ?_ he hpl (by rfl) (by rfl)
  have hA := (pa_cons (es := []) ho pa_nil he2).run pos pins s σ H (fun ws H1 => ∃ x, ws = [x] ∧ ∃ z1 m ds nss, z1.H = H1 ∧ Ok z1 ∧ see X.K X.mg z1 m x ∧ asL m = some ds ∧ tupsOf ds = some nss ∧
    ∀ H2, LamX.ExtN H1 H2 → LamX.Tabs Tb.T H2 → ∀ p us, H2 p = none → reps X.K X.mg z1.F ((sortL nss).map tupD) us → Q (.ref p) (upd H2 p (.lst us))) I (by
    obtain ⟨z, s0, ext, hz, R, q⟩ := h
    refine ⟨z, s0, ext, hz, R, ?_⟩
    unfold cE1 at q
    cases ha : oa s0 with
    | bad => simp only [ha] at q
    | ex e s1 =>
      simp only [ha] at q
      exact fun cls dd z' more st pl R' x => fin_ex R R' st pl x q
    | ok r1 s1 =>
      simp only [ha] at q
      intro v z1 more st pl R1 rf
      cases hm : rv s1 r1 with
      | none => simp only [hm, fin] at q
      | some m =>
        simp only [hm, fin] at q
        unfold fSortL at q
        cases h1 : asL m with
        | none => simp only [h1] at q
        | some ds =>
          simp only [h1] at q
          cases h2 : tupsOf ds with
          | none => simp only [h2, Option.map_none] at q
          | some nss =>
            simp only [h2, Option.map_some] at q
            refine ⟨v, rfl, z1, m, ds, nss, rfl, R1.ok, rv_see R1 hm rf, h1, h2, fun H2 eN T2 p us hp hr => ?_⟩
            obtain ⟨k2, s2, o2⟩ := tab_ok R1.ok eN T2
            have R2 : Rl X.K X.mg ⟨z1.F, H2, z1.O⟩ s1 vs σ (ext ++ more) := R1.to k2 (Ex.refl _) fun a i q w => ⟨o2 a _ w, rfl⟩
            have hp' : (⟨z1.F, H2, z1.O⟩ : Z).H p = none := hp
            have R3 : Rl X.K X.mg (Z.hold ⟨z1.F, H2, z1.O⟩ p (.lst us) (none, [])) s1 vs σ (ext ++ more) := R2.hold hp'
            exact q (.ref p) _ ((st.trans s2).trans (Stp.hold k2 hp')) (ple_take pl) (R3.pop R fun i j _ e => pl i j e) ⟨p, us, rfl, upd_same, if_pos rfl, hr⟩)
  refine thn hA ?_
  rintro us s1 ⟨ws, H1, I1, r1, x, rfl, z1, m, ds, nss, hz1, k1, sm, h1, h2, q⟩
  obtain ⟨u, rfl, ru⟩ := vals1 r1
  refine wpAny_evalAll_cons (wpAny_bind ?_)
  refine LamX.lam_make2 (T := Tb.T) I1 TB hcode hT hu (fun p hp => by rw [← hz1]; exact k1.tb.1 p hp) hdef (fun y hy e => absurd e (L.free y hy)) fun f c' pm ctv H2 s2 I2 eN T2 hf hfn hfr hco => ?_
  refine wpAny_bind (wpAny_standAt (wpAny_pure (wpAny_evalAll_nil ?_)))
  subst hz1
  obtain ⟨k2, st2, o2⟩ := tab_ok k1 eN T2
  have sm2 : see X.K X.mg ⟨z1.F, H2, z1.O⟩ m x := by
    obtain ⟨⟨l, π⟩, ow⟩ := sm
    exact ⟨(l, π), own_move (z := z1) (z' := ⟨z1.F, H2, z1.O⟩) (Ex.refl _) m π π x (fun a q w => ⟨o2 a _ w, w⟩) ow⟩
  obtain ⟨a, us, rfl, sq, rp⟩ := see_L k2 h1 sm2
  obtain rfl : u = Value.ref a := ru
  obtain ⟨its, rv', pl, hz⟩ := I2.list sq
  have ea := tups_each h2 rp rv'
  have un := hr.un
  have dp := hr.dp
  show wpAny _ _ (call (.builtin "sorted") [.ref a] [(Str.ofString "key", .ref f)]) _ _ s2
  refine PySem.W.sorted_key_data (b := false) (k := keyL) (R := IsT X.K z1.F) (bs := nss) pl.isList ea (fun d hd d' hd' => ?_) (.inl fun d hd => ?_) (by rw [← ea.length, ← rv'.length]; exact hz) (fun ns _ => ?_) (PyProof.Rows.ksk_s1 _ _) (fun x => PyProof.Rows.ksk_l1 _ _) (fun x => PyProof.Rows.ksk_t1 f x) (fun v ns hv _ h tk kp => ?_) (fun out c h' tk keep fr at_ ln each => ?_)
  · obtain ⟨n1, _, rfl⟩ := List.mem_map.mp hd
    obtain ⟨n2, _, rfl⟩ := List.mem_map.mp hd'
    exact alike_keyL n1 n2
  · obtain ⟨n1, _, rfl⟩ := List.mem_map.mp hd
    exact ⟨_, _, rfl⟩
  · have := depth_keyL ns
    omega
  · obtain ⟨b, rfl, sq2⟩ := hv
    obtain ⟨its2, rv2, pl2, hz2⟩ := I2.tuple (sqT_ex k2.ex sq2)
    exact lamK_turn I2 L hl hpd hf hco (fun v => hb _ _ _ _ _ v) (show X.A.depth < recursionLimit by omega) kp pl2 rv2.ints (by rw [← rv2.length]; exact hz2)
  · rw [merge_sortL] at each
    obtain ⟨us', v1, v2⟩ := each_reps each
    exact ⟨.ref _, upd H2 (s2.heap.objs.size + 1) (.lst us'), I2.laid (t' := tk) keep (Nat.le_succ _) ⟨by rw [v1.length, ln, ← ea.length, ← rv'.length]; exact hz, out, c, v1, at_⟩, rfl, q H2 eN T2 _ us' (I2.hok.fresh (Nat.le_succ _)) v2⟩
end
end Dn
end

section
set_option Elab.async false
set_option linter.all false
set_option maxRecDepth 100000
set_option maxHeartbeats 4000000
/-! DnO: zip -/
namespace Dn
open PySem PySem.Spec PyProof.Rows L2
variable [Tb]

def frzI : D → Option (Bool × List D × List (Nat × List D))
  | .lst ds => some (true, ds, [])
  | .rl ds => some (true, ds, [])
  | .tup ds => some (false, ds, [])
  | _ => none
/-- a thing that is walked: one that stays, or a parameter's own list -/
def srcP (n : Nat) (s : Env) : Ref → Option (Bool × List D × List (Nat × List D))
  | .v d => frzI d
  | .s i => match look s i with
    | some (.f d) => frzI d
    | some (.l ds) => if root s i < n then some (true, ds, [(root s i, ds)]) else none
    | _ => none
def SqB (K : PySem.W.Frag) (b : Bool) (H : Hp) (a : Addr) (us : List V) : Prop := if b then SqL K H a us else SqT K H a us
section
variable {K : PySem.W.Frag} {mg : Mg} {z : Z} {s : Env} {vs ext : List V} {σ : L2.St}
theorem frzI_ok {d : D} {b : Bool} {ds : List D} {lk : List (Nat × List D)} {v : V} (h : frzI d = some (b, ds, lk)) (r : rep K mg z.F d v) : ∃ a, v = .ref a ∧ ∀ z', Stp z z' → Ok z' → ∃ us, SqB K b z'.H a us ∧ reps K mg z'.F ds us := by
  cases d with
  | lst es =>
    cases h
    obtain ⟨a, us, e, h1, h2⟩ := r
    exact ⟨a, e, fun z' st k => ⟨us, .inl (.inl (k.ex _ _ (st.ef _ _ h1))), reps_ex st.ef _ _ h2⟩⟩
  | rl es =>
    cases h
    obtain ⟨a, us, e, h1, h2⟩ := r
    exact ⟨a, e, fun z' st k => ⟨us, sqL_ex k.ex (sqL_ex st.ef h1), reps_ex st.ef _ _ h2⟩⟩
  | tup es =>
    cases h
    obtain ⟨a, us, e, h1, h2⟩ := r
    exact ⟨a, e, fun z' st k => ⟨us, sqT_ex k.ex (sqT_ex st.ef h1), reps_ex st.ef _ _ h2⟩⟩
  | _ => cases h
theorem srcP_ok {r : Ref} {b : Bool} {ds : List D} {lk : List (Nat × List D)} {v : V} (R : Rl K mg z s vs σ ext) (h : srcP vs.length s r = some (b, ds, lk)) (rf : rfv K mg z vs σ ext r v) :
    ∃ a, v = .ref a ∧ ∀ z' s' σ', Stp z z' → Rl K mg z' s' vs σ' ext → lkB s' lk → ∃ us, SqB K b z'.H a us ∧ reps K mg z'.F ds us := by
  cases r with
  | v d =>
    obtain ⟨a, e, q⟩ := frzI_ok h rf
    exact ⟨a, e, fun z' s' σ' st R' _ => q z' st R'.ok⟩
  | s i =>
    unfold srcP at h
    cases hl : look s i with
    | none => simp only [hl] at h; cases h
    | some m =>
      obtain ⟨v0, h1, h2, h3⟩ := R.look hl
      have rf : (sx vs σ ext)[i]? = some (some v) := rf
      rw [rf] at h1
      cases h1
      cases m with
      | f d =>
        simp only [hl] at h
        obtain ⟨a, e, q⟩ := frzI_ok h h3
        exact ⟨a, e, fun z' s' σ' st R' _ => q z' st R'.ok⟩
      | l es =>
        simp only [hl] at h
        split at h
        · rename_i hn
          cases h
          obtain ⟨a, us, e, w1, w2, w3⟩ := h3
          refine ⟨a, e, fun z' s' σ' st R' lk => ?_⟩
          obtain ⟨lk, _⟩ := lk
          obtain ⟨u, u1, u2⟩ := R'.at_ _ _ lk
          have sxl : ∀ (τ : L2.St), (sx vs τ ext)[root s i]? = (vs.map some)[root s i]? := fun τ => by
            unfold sx
            rw [List.append_assoc, List.getElem?_append_left (by rw [List.length_map]; exact hn)]
          rw [sxl] at u1 h2
          rw [h2] at u1
          cases u1
          obtain ⟨a', us', e', x1, x2, x3⟩ := u2
          rw [e] at e'
          cases e'
          exact ⟨us', .inl (.inl x1), x3⟩
        · cases h
      | _ => simp only [hl] at h; cases h
end
def pairD (p : D × D) : D := .tup [p.1, p.2]
def iZip (n : Nat) (oa : Env → Re (List Ref)) : Env → Re Src := fun s => match oa s with
  | .ok rs s1 => (match rs with
    | [r1, r2] => if s1.length = s.length then (match srcP n s1 r1, srcP n s1 r2 with
      | some (b1, ds, l1), some (b2, es, l2) => if b1 = b2 then .ok ⟨(ds.zip es).map pairD, l1 ++ l2, id⟩ s1 else .bad
      | _, _ => .bad) else .bad
    | _ => .bad)
  | .ex e s1 => .ex e (s1.take s.length)
  | .bad => .bad
theorem lkB_app : ∀ {l1 l2 : List (Nat × List D)} {s : Env}, lkB s (l1 ++ l2) → lkB s l1 ∧ lkB s l2
  | [], _, _, h => ⟨trivial, h⟩
  | (j, ds) :: l1, l2, s, h => let ⟨h1, h2⟩ := h; let ⟨h3, h4⟩ := lkB_app h2; ⟨⟨h1, h3⟩, h4⟩
theorem zip_get {ds es : List D} {i : Nat} {d : D} (h : ((ds.zip es).map pairD)[i]? = some d) : ∃ x y, ds[i]? = some x ∧ es[i]? = some y ∧ d = pairD (x, y) := by
  rw [List.getElem?_map] at h
  cases hz : (ds.zip es)[i]? with
  | none => rw [hz] at h; cases h
  | some p =>
    rw [hz] at h
    cases h
    obtain ⟨x, y⟩ := p
    rw [List.getElem?_zip_eq_some] at hz
    exact ⟨x, y, hz.1, hz.2, rfl⟩
section
variable {X : Cx} {W : WX} {vs : List V}
theorem zip_lay {K : PySem.W.Frag} {mg : Mg} {z : Z} {T : Addr} {x y : V} {dx dy : D} (k : Ok z) (hT : z.H T = none) (r1 : rep K mg z.F dx x) (r2 : rep K mg z.F dy y) :
    ∃ z2, z2.H = upd z.H T (.tup [x, y]) ∧ Stp z z2 ∧ Ok z2 ∧ (∀ a π, z.O a = some π → z2.H a = z.H a ∧ z2.O a = z.O a) ∧ rep K mg z2.F (pairD (dx, dy)) (.ref T) := by
  have st := Stp.lay k (o := .tup [x, y]) hT
  refine ⟨z.lay T (.tup [x, y]), rfl, st, k.lay hT, fun a π q => ⟨upd_ne fun e => ?_, rfl⟩, ?_⟩
  · rw [e, (k.fresh hT).1] at q; cases q
  · exact ⟨T, [x, y], rfl, .inl (.inl upd_same), x, [y], rfl, rep_ex st.ef _ _ r1, y, [], rfl, rep_ex st.ef _ _ r2, rfl⟩
theorem i_zip {n : Nat} {e1 e2 : Expr} {p pos tpos : Pos} {elts : List Expr} {kk : Nat} {oa : Env → Re (List Ref)} (hn : vs.length = n) (hm : X.mg "zip" = none) (ha : OMs X W vs [e1, e2] oa) (hg : Gl X "zip" := by rfl)
    (hs : starEach [e1, e2] X.env = (false, eval e1 X.env) :: starEach [e2] X.env := by rfl) (hpl : (backTo pos (starEach [e2] X.env)).any (·.1) = false := by rfl) :
    IM X W vs (.Tuple elts kk tpos) (.Call (.Name "zip" p) [e1, e2] [] pos) (iZip n oa) := wkI (RZ.pi_zipA hg hm ha hs hpl) fun σ H R hl h => by
  obtain ⟨z, s, ext, hz, R0, q⟩ := h
  refine ⟨z, s, ext, hz, R0, ?_⟩
  unfold iZip at q
  cases ho : oa s with
  | bad => simp only [ho] at q
  | ex e s1 =>
    simp only [ho] at q
    exact fun cls dd z' more st pl R' x => fin_ex R0 R' st pl x q
  | ok rs s1 =>
    simp only [ho] at q ⊢
    rcases rs with _ | ⟨r1, _ | ⟨r2, _ | ⟨r3, rs⟩⟩⟩
    · exact q.elim
    · exact q.elim
    · simp only at q
      by_cases hlen : s1.length = s.length
      · rw [if_pos hlen] at q
        cases h1 : srcP n s1 r1 with
        | none => simp only [h1] at q
        | some t1 =>
          obtain ⟨b1, ds, l1⟩ := t1
          cases h2 : srcP n s1 r2 with
          | none => simp only [h1, h2] at q
          | some t2 =>
            obtain ⟨b2, es, l2⟩ := t2
            simp only [h1, h2] at q
            by_cases eb : b1 = b2
            · rw [if_pos eb] at q
              subst eb
              intro us z1 more st1 pl1 R1 rf
              have en : more = [] := by
                have a := R0.len
                have b := R1.len
                rw [List.length_append] at b
                exact List.length_eq_zero_iff.mp (by omega)
              subst en
              rw [List.append_nil] at R1 rf
              obtain ⟨u1, w1, rfl, f1, f2⟩ := rf
              obtain ⟨u2, w2, rfl, f2, f3⟩ := f2
              have f3 : w2 = [] := f3
              subst f3
              subst hn
              obtain ⟨a, rfl, g1⟩ := srcP_ok R1 h1 f1
              obtain ⟨b, rfl, g2⟩ := srcP_ok R1 h2 f2
              have now1 := fun lk => g1 z1 s1 σ (Stp.refl z1) R1 lk
              have lk0 : lkB s1 l1 ∧ lkB s1 l2 := by
                have key : ∀ {r : Ref} {bb : Bool} {ds : List D} {l : List (Nat × List D)}, srcP vs.length s1 r = some (bb, ds, l) → lkB s1 l := by
                  intro r bb ds l h
                  have fz : ∀ {d : D}, frzI d = some (bb, ds, l) → lkB s1 l := fun {d} h => by
                    cases d <;> first | (cases h; exact trivial) | cases h
                  cases r with
                  | v d => exact fz h
                  | s i =>
                    unfold srcP at h
                    cases hl : look s1 i with
                    | none => simp only [hl] at h; cases h
                    | some m =>
                      cases m with
                      | f d => simp only [hl] at h; exact fz h
                      | l es =>
                        simp only [hl] at h
                        split at h
                        · cases h
                          exact ⟨(look_root hl).1, trivial⟩
                        · cases h
                      | _ => simp only [hl] at h; cases h
                exact ⟨key h1, key h2⟩
              obtain ⟨xs0, q1, _⟩ := g1 z1 s1 σ (Stp.refl z1) R1 lk0.1
              obtain ⟨ys0, q2, _⟩ := g2 z1 s1 σ (Stp.refl z1) R1 lk0.2
              have fin : ∀ J, ItOk X.K X.mg J z1 vs ext σ.length ⟨(ds.zip es).map pairD, l1 ++ l2, id⟩ → R J z1.H := fun J hJ => by
                refine q J z1 [] st1 (Ple.refl s) (by rw [List.append_nil]; exact R1) (by rw [List.append_nil]; exact hJ) ?_
                rw [List.append_nil]
                exact fun z s' σ' _ R p => ⟨z, rfl, Stp.refl z, R, p.trans pl1, fun _ _ h => h, fun _ _ _ h => h⟩
              have gz : ∀ z' s' (σ' : L2.St), σ'.length = σ.length → Stp z1 z' → Rl X.K X.mg z' s' vs σ' ext → lkB s' (l1 ++ l2) → (∃ us, SqB X.K b1 z'.H a us ∧ reps X.K X.mg z'.F ds us) ∧ ∃ us, SqB X.K b1 z'.H b us ∧ reps X.K X.mg z'.F es us := fun z' s' σ' _ st R lk =>
                ⟨g1 z' s' σ' st R (lkB_app lk).1, g2 z' s' σ' st R (lkB_app lk).2⟩
              refine ⟨a, b, xs0, ys0, rfl, ?_⟩
              cases b1 with
              | true =>
                refine .inl ⟨q1, q2, fin _ ⟨fun z' => (∃ us, SqL X.K z'.H a us ∧ reps X.K X.mg z'.F ds us) ∧ ∃ us, SqL X.K z'.H b us ∧ reps X.K X.mg z'.F es us, gz, fun z' i d k g hd => ?_, fun z' k g => ?_⟩⟩
                · obtain ⟨⟨us, a1, a2⟩, ws, c1, c2⟩ := g
                  obtain ⟨x, y, e1, e2, rfl⟩ := zip_get hd
                  obtain ⟨ux, x1, x2⟩ := reps_get a2 e1
                  obtain ⟨uy, y1, y2⟩ := reps_get c2 e2
                  refine ⟨⟨us, ws, ux, uy, a1, c1, x1, y1⟩, fun v H' hy => ?_⟩
                  obtain ⟨T, vx, vy, rfl, hT, rfl, k1, k2⟩ := hy
                  have := k1 us a1
                  rw [x1] at this
                  cases this
                  have := k2 ws c1
                  rw [y1] at this
                  cases this
                  exact zip_lay k hT x2 y2
                · obtain ⟨⟨us, a1, a2⟩, ws, c1, c2⟩ := g
                  refine ⟨us, ws, a1, c1, ?_⟩
                  rw [reps_len a2, reps_len c2]
                  simp only [List.length_map, List.length_zip]
                  omega
              | false =>
                refine .inr ⟨q1, q2, fin _ ⟨fun z' => (∃ us, SqT X.K z'.H a us ∧ reps X.K X.mg z'.F ds us) ∧ ∃ us, SqT X.K z'.H b us ∧ reps X.K X.mg z'.F es us, gz, fun z' i d k g hd => ?_, fun z' k g => ?_⟩⟩
                · obtain ⟨⟨us, a1, a2⟩, ws, c1, c2⟩ := g
                  obtain ⟨x, y, e1, e2, rfl⟩ := zip_get hd
                  obtain ⟨ux, x1, x2⟩ := reps_get a2 e1
                  obtain ⟨uy, y1, y2⟩ := reps_get c2 e2
                  refine ⟨⟨us, ws, ux, uy, a1, c1, x1, y1⟩, fun v H' hy => ?_⟩
                  obtain ⟨T, vx, vy, rfl, hT, rfl, k1, k2⟩ := hy
                  have := k1 us a1
                  rw [x1] at this
                  cases this
                  have := k2 ws c1
                  rw [y1] at this
                  cases this
                  exact zip_lay k hT x2 y2
                · obtain ⟨⟨us, a1, a2⟩, ws, c1, c2⟩ := g
                  refine ⟨us, ws, a1, c1, ?_⟩
                  rw [reps_len a2, reps_len c2]
                  simp only [List.length_map, List.length_zip]
                  omega
            · rw [if_neg eb] at q
              exact q.elim
      · rw [if_neg hlen] at q
        exact q.elim
    · exact q.elim
end
end Dn
end

section
set_option Elab.async false
set_option linter.all false
set_option maxRecDepth 100000
set_option maxHeartbeats 4000000
/-! DnP: what the printed proofs lean on -/
namespace Dn
open PySem PySem.Spec PyProof.Rows L2
variable [Tb]

theorem bb_len : bootBuiltins "len" = some (.builtin "len") := by decide +kernel
theorem bb_all : bootBuiltins "all" = some (.builtin "all") := by decide +kernel
theorem bb_min : bootBuiltins "min" = some (.builtin "min") := by decide +kernel
theorem bb_max : bootBuiltins "max" = some (.builtin "max") := by decide +kernel
theorem bb_sorted : bootBuiltins "sorted" = some (.builtin "sorted") := by decide +kernel
theorem bb_isinstance : bootBuiltins "isinstance" = some (.builtin "isinstance") := by decide +kernel
theorem bb_int : bootBuiltins "int" = some (.type "int") := by decide +kernel
theorem bb_bool : bootBuiltins "bool" = some (.type "bool") := by decide +kernel
theorem bb_str : bootBuiltins "str" = some (.type "str") := by decide +kernel
theorem bb_list : bootBuiltins "list" = some (.type "list") := by decide +kernel
theorem bb_tuple : bootBuiltins "tuple" = some (.type "tuple") := by decide +kernel
theorem bb_dict : bootBuiltins "dict" = some (.type "dict") := by decide +kernel
/-- how many items the thing at i has -/
def lenAt (i : Nat) (s : Env) : Nat := match look s i with
  | some m => (match asL m with
    | some ds => ds.length
    | none => 0)
  | none => 0
theorem hu65 {A : Around} {k : Nat} (h : Room k A) : A.units + 65 < cLine := by have := h.un; omega
theorem hu64 {A : Around} {k : Nat} (h : Room k A) : A.units + 64 < cLine := by have := h.un; omega
theorem hu1 {A : Around} {k : Nat} (h : Room k A) : A.units + 1 < cLine := by have := h.un; omega
section
variable {K : PySem.W.Frag} {mg : Mg}
def fNeg : M → Option Rs
  | .f (.int i) => some (.sc (.int (-i)))
  | _ => none
theorem op1_neg : Op1 K mg (rU fun i => .int (-i)) fNeg := by
  intro z m v rs Q k sm hf q
  unfold fNeg at hf
  split at hf
  · cases hf
    have e : v = .int _ := see_v sm
    exact ⟨_, e, q _ rfl⟩
  · cases hf
def cutD (ds : List D) (lo hi : Option Int) : List D := (ds.drop (HT.sIx ds.length 0 lo)).take (HT.sIx ds.length ds.length hi - HT.sIx ds.length 0 lo)
def fCut : M → Option Int → Option Int → Option Rs := fun m lo hi => (asL m).map fun ds => .nl (cutD ds lo hi)
theorem reps_cut {F : Hp} {ds : List D} {us : List V} {lo hi : Option Int} (h : reps K mg F ds us) : reps K mg F (cutD ds lo hi) (cutV us lo hi) := by
  unfold cutD cutV
  rw [← reps_len h]
  exact reps_take _ (reps_drop _ h)
theorem opS_cut : OpS K mg (rSlL K) fCut := by
  intro z m v lo hi rs Q k sm hf q
  unfold fCut at hf
  cases hs : asL m with
  | none => rw [hs] at hf; cases hf
  | some ds =>
    rw [hs] at hf
    cases hf
    obtain ⟨a, us, rfl, h1, h2⟩ := see_L k hs sm
    exact ⟨a, us, rfl, h1, fun p hp => q p _ hp (reps_cut h2)⟩
end
structure Cl (P : Program) (w : World) (K : PySem.W.Frag) (mg : Mg) (base : Heap) (k : Nat) (x : Str) (ps : List Str) (df : Den) : Prop where
  ex : ∃ (f : Addr) (fd : FuncData), mg x = some (.ref f) ∧ PySem.W.keepIn K (.ref f) = true ∧ Binds K fd ps [] ∧ FnOk P w K mg base (L2.CX P w) k f fd ps (spD K mg ps.length df)
theorem fk_of {P : Program} {w : World} {K : PySem.W.Frag} {mg : Mg} {base : Heap} {x qual : Str} {st : Stmt} {f : Addr} {fd : FuncData} {N ps : List Str} {k : Nat} {d : Env → Out} (F : Fun K x qual st f fd) (S : FnScope N ps (defScope st)) (hpl : ps.length ≤ N.length)
    (hbody : ∀ (cdv : Value) (A : Around) (outer : List PySem.Env) (s : Shared) (H : Hp) (E : XK) (vs : List V), Room k (A.deeper (envOfC qual (defScope st) s.heap.objs.size f cdv)) → vs.length = ps.length → ∀ W, L2.Takes (cxOf (L2.CX P w) P w K mg base N qual (defScope st) f cdv A outer s H E) W →
      PassesOwn (model P w) (A.deeper (envOfC qual (defScope st) s.heap.objs.size f cdv)) (envOfC qual (defScope st) s.heap.objs.size f cdv) (cxOf (L2.CX P w) P w K mg base N qual (defScope st) f cdv A outer s H E).xe →
      SMs (cxOf (L2.CX P w) P w K mg base N qual (defScope st) f cdv A outer s H E) W vs (defBody st) d) :
    FnOk P w K mg base (L2.CX P w) (k + 1) f fd ps (spD K mg ps.length (dDef ps.length N.length d)) := by
  refine F.okX S (fun vs H Q E h => h.1) fun cdv A outer s H vs Q E hr h => ?_
  obtain ⟨hl, z, ms, hz, hk, ho, q⟩ := h
  refine ⟨_, hbody cdv A outer s H E vs hr hl (fun cls d _ H => E cls d H) (takes_of rfl rfl rfl rfl) (passes_of rfl), ?_⟩
  have lm := ownsA_len ho
  refine ⟨z, entry N.length ms, [], hz, entry_rl hk ho (by rw [hl]; exact hpl), ?_⟩
  unfold dDef at q
  rw [if_pos (by rw [← lm]; exact hl)] at q
  show outQ K mg _ _ _ _ _ _ _ (d (entry N.length ms))
  cases hd : d (entry N.length ms) with
  | rt m s' =>
    simp only [hd] at q
    cases hf : fins ps.length s' with
    | none => simp only [hf] at q
    | some ms' =>
      simp only [hf] at q
      exact fun σ' v z' l st pl R ow => q v z' st R.ok (fins_own hl R hf) ow
  | nx s' =>
    simp only [hd] at q
    cases hf : fins ps.length s' with
    | none => simp only [hf] at q
    | some ms' =>
      simp only [hf] at q
      exact fun σ' z' l st pl R => q .non z' st R.ok (fins_own hl R hf) rfl
  | ex e s' =>
    simp only [hd] at q
    cases hf : fins ps.length s' with
    | none => simp only [hf] at q
    | some ms' =>
      simp only [hf] at q
      exact fun σ' cls dd z' l st pl R x => q cls dd z' st R.ok (fins_own hl R hf) x
  | bk s' => simp only [hd] at q
  | ct s' => simp only [hd] at q
  | bad => simp only [hd] at q
theorem cl_of {P : Program} {w : World} {K : PySem.W.Frag} {mg : Mg} {base : Heap} {x qual : Str} {st : Stmt} {f : Addr} {fd : FuncData} {N ps : List Str} {k : Nat} {d : Env → Out} (F : Fun K x qual st f fd) (gf : mg x = some (.ref f)) (hb : Binds K fd ps []) (S : FnScope N ps (defScope st)) (hpl : ps.length ≤ N.length)
    (hbody : ∀ (cdv : Value) (A : Around) (outer : List PySem.Env) (s : Shared) (H : Hp) (E : XK) (vs : List V), Room k (A.deeper (envOfC qual (defScope st) s.heap.objs.size f cdv)) → vs.length = ps.length → ∀ W, L2.Takes (cxOf (L2.CX P w) P w K mg base N qual (defScope st) f cdv A outer s H E) W →
      PassesOwn (model P w) (A.deeper (envOfC qual (defScope st) s.heap.objs.size f cdv)) (envOfC qual (defScope st) s.heap.objs.size f cdv) (cxOf (L2.CX P w) P w K mg base N qual (defScope st) f cdv A outer s H E).xe →
      SMs (cxOf (L2.CX P w) P w K mg base N qual (defScope st) f cdv A outer s H E) W vs (defBody st) d) :
    Cl P w K mg base (k + 1) x ps (dDef ps.length N.length d) :=
  ⟨f, fd, gf, F.kp, hb, fk_of F S hpl hbody⟩
/-- a def that is not known as yet: nothing may be asked of it -/
theorem cl_no {P : Program} {w : World} {K : PySem.W.Frag} {mg : Mg} {base : Heap} {x qual : Str} {st : Stmt} {f : Addr} {fd : FuncData} {ps : List Str} {k : Nat} (F : Fun K x qual st f fd) (gf : mg x = some (.ref f)) (hb : Binds K fd ps []) : Cl P w K mg base k x ps (fun _ => .bad) :=
  ⟨f, fd, gf, F.kp, hb, ⟨fun vs H Q E h => h.1, fun A outer s H args us vs Q E _ _ _ _ h => by
    obtain ⟨_, z, ms, _, _, _, q⟩ := h
    exact q.elim⟩⟩
section
variable {X : Cx} {W : WX} {vs : List V}
theorem e_cl {k j : Nat} {x : Str} {ps : List Str} {df : Den} {e : Expr} {es : List Expr} {p pos : Pos} {oa : Env → Re (List Ref)} (C : Cl X.prog X.w X.K X.mg X.base k x ps df) (hr : Room j X.A) (hk : k ≤ j) (tk : L2.Takes X W) (ha : OMs X W vs (e :: es) oa)
    (hg : Gl X x := by rfl) (hdb : (x == ("__debug__" : Str)) = false := by decide) (he : starEach (e :: es) X.env = (false, eval e X.env) :: starEach es X.env := by rfl) (hpl : (backTo pos (starEach es X.env)).any (·.1) = false := by rfl) :
    EM X W vs (.Call (.Name x p) (e :: es) [] pos) (cCall ps.length df oa) := by
  obtain ⟨f, fd, gf, kp, hb, F⟩ := C.ex
  exact e_call (F.mono hk) hr gf kp hb tk ha hg hdb he hpl
end

/-- a def of the text whose code object is known -/
theorem cl_ofL {P : Program} {w : World} {K : PySem.W.Frag} {mg : Mg} {base : Heap} {x qual : Str} {st : Stmt} {f c : Addr} {N ps : List Str} {k : Nat} {d : Dn.Env → Out} {kV doc pm ct oc : Value} {an od : Option Addr} {osl : Array (Option Value)}
    (lk : K.lookup f = some ⟨oc, od, .func (PySem.W.fnOf x qual (defArgs st) (defBody st) (defScope st) .none kV doc pm an (.ref c) ct), osl⟩) (cd : PySem.W.codeIn K (.ref c) qual = true) (kp : PySem.W.keepIn K (.ref f) = true) (gf : mg x = some (.ref f))
    (hb : Binds K (PySem.W.fnOf x qual (defArgs st) (defBody st) (defScope st) .none kV doc pm an (.ref c) ct) ps []) (S : FnScope N ps (defScope st)) (hpl : ps.length ≤ N.length)
    (hbody : ∀ (A : Around) (outer : List PySem.Env) (s : Shared) (H : Hp) (E : XK) (vs : List V), Room k (A.deeper (envOfC qual (defScope st) s.heap.objs.size f (.ref c))) → vs.length = ps.length → ∀ W, L2.Takes (cxOf (L2.CX P w) P w K mg base N qual (defScope st) f (.ref c) A outer s H E) W →
      PassesOwn (model P w) (A.deeper (envOfC qual (defScope st) s.heap.objs.size f (.ref c))) (envOfC qual (defScope st) s.heap.objs.size f (.ref c)) (cxOf (L2.CX P w) P w K mg base N qual (defScope st) f (.ref c) A outer s H E).xe →
      SMs (cxOf (L2.CX P w) P w K mg base N qual (defScope st) f (.ref c) A outer s H E) W vs (defBody st) d) :
    Cl P w K mg base (k + 1) x ps (dDef ps.length N.length d) := by
  refine ⟨f, _, gf, kp, hb, fn_of lk cd S (fun vs H Q E h => h.1) fun A outer s H vs Q E hr h => ?_⟩
  obtain ⟨hl, z, ms, hz, hk, ho, q⟩ := h
  refine ⟨_, hbody A outer s H E vs hr hl (fun cls d _ H => E cls d H) (takes_of rfl rfl rfl rfl) (passes_of rfl), ?_⟩
  have lm := ownsA_len ho
  refine ⟨z, entry N.length ms, [], hz, entry_rl hk ho (by rw [hl]; exact hpl), ?_⟩
  unfold dDef at q
  rw [if_pos (by rw [← lm]; exact hl)] at q
  show outQ K mg _ _ _ _ _ _ _ (d (entry N.length ms))
  cases hd : d (entry N.length ms) with
  | rt m s' =>
    simp only [hd] at q
    cases hf : fins ps.length s' with
    | none => simp only [hf] at q
    | some ms' =>
      simp only [hf] at q
      exact fun σ' v z' l st pl R ow => q v z' st R.ok (fins_own hl R hf) ow
  | nx s' =>
    simp only [hd] at q
    cases hf : fins ps.length s' with
    | none => simp only [hf] at q
    | some ms' =>
      simp only [hf] at q
      exact fun σ' z' l st pl R => q .non z' st R.ok (fins_own hl R hf) rfl
  | ex e s' =>
    simp only [hd] at q
    cases hf : fins ps.length s' with
    | none => simp only [hf] at q
    | some ms' =>
      simp only [hf] at q
      exact fun σ' cls dd z' l st pl R x => q cls dd z' st R.ok (fins_own hl R hf) x
  | bk s' => simp only [hd] at q
  | ct s' => simp only [hd] at q
  | bad => simp only [hd] at q
/-- fnP_den at its own context -/
theorem fnP_den2 {P : Program} {w : World} {K : PySem.W.Frag} {mg : Mg} {base : Heap} {x qual : Str} {st : Stmt} {f : Addr} {fd : FuncData} {N : List Str} {a : Str} {k : Nat} {told : Exn → Option D} {dB : Addr → Addr → Str → Dn.Env → Out} (F : Fun K x qual st f fd) (S : FnScope N [a] (defScope st)) (hN : 1 ≤ N.length)
    (ht : ∀ b d e r, told e = some r → ∃ s', dB b d e.c (entry N.length [.f (.exc b d e.fs)]) = .rt (.f r) s')
    (hbody : ∀ (cdv : Value) (A : Around) (outer : List PySem.Env) (s : Shared) (H : Hp) (E : XK) (p : Addr × Obj) (c : Str) (C d : Addr), Held (L2H.cxH (L2.CX P w) P w K mg base N qual (defScope st) f cdv A outer s H E p) p C d → mg c = some (.ref C) → (∃ e r, told e = some r ∧ e.c = c) →
      SMs (L2H.cxH (L2.CX P w) P w K mg base N qual (defScope st) f cdv A outer s H E p) (fun _ _ _ _ => False) [.ref p.1] (defBody st) (dB p.1 d c)) : FnP P w K mg base (k + 1) f fd [a] (spP K mg told) := by
  refine fnP_of F S (fun p vs H Q E ⟨_, _, _, _, _, _, _, _, _, _, e, _⟩ => by rw [e]; rfl) fun cdv p A outer s H vs Q E room h => ?_
  obtain ⟨z, e, r, cls, d, hz, kz, zc, fl, ⟨C, m1, ec, d', fs', ed, h1, h2⟩, ev, tr, q⟩ := h
  cases ed
  subst ec ev
  refine ⟨_, hbody cdv A outer s H E p e.c C d ⟨List.mem_cons_self .., zc, fl⟩ m1 ⟨e, r, tr, rfl⟩, ?_⟩
  have kz' : Ok (z.sub []) := kz.sub []
  have st0 : Stp z (z.sub []) := ⟨Ex.refl _, fun b o hb _ ho => ⟨hb, (by
    cases q : (z.sub []).O b with
    | none => rfl
    | some π =>
      obtain ⟨t, j, q', e1, _⟩ := sub_some q
      rw [ho] at e1; cases e1), rfl⟩⟩
  refine ⟨z.sub [], entry N.length [.f (.exc p.1 d e.fs)], [], hz, entry_rl kz' ⟨_, [], rfl, ⟨rfl, fs', h1, h2⟩, rfl⟩ hN, ?_⟩
  obtain ⟨s', hs⟩ := ht p.1 d e r tr
  rw [hs]
  exact fun σ' v z' _ st pl R ow => q v z' (st0.trans st) R.ok ow

/-- T[e], T a dict of the module -/
def fTab1 (tab : List (Str × D)) : M → Option Rs
  | .f (.str x) => (tab.lookup x).map Rs.sc
  | _ => none
theorem p_tab {X : Cx} {vs : List V} {x : Str} {a : Addr} {tab : List (Str × D)} {i : Expr} {p pos : Pos} {pi : Dn.Env → Option M} (hm : X.mg x = some (.ref a)) (ht : ∀ x d, tab.lookup x = some d → ∃ v, KDct X.K X.w a x v ∧ ∀ F, rep X.K X.mg F d v) (hb : PM X vs i pi)
    (hg : Gl X x := by rfl) (hd : (x == ("__debug__" : Str)) = false := by decide) (hs : PlainIx i := by exact fun _ _ => rfl) : PM X vs (.Subscript (.Name x p) i pos) (cP1 (fTab1 tab) pi) := wkE (pe_ix ix_kdict (pe_glob hg hm (v := .ref a) rfl hd) hb hs) fun σ H Q _ h => by
  obtain ⟨z, s, ext, hz, R, m, hm, q⟩ := h
  unfold cP1 at hm
  split at hm
  · rename_i m1 e1
    obtain ⟨d, e2, rfl⟩ := scOf_some hm
    refine ⟨z, s, ext, hz, R, m1, e1, fun v sv => ?_⟩
    unfold fTab1 at e2
    split at e2
    · rename_i y
      cases hl : tab.lookup y with
      | none => rw [hl] at e2; cases e2
      | some d' =>
        rw [hl] at e2
        cases e2
        obtain ⟨u, h1, h2⟩ := ht y d hl
        have ev : v = .str y := see_v sv
        exact ⟨a, y, u, rfl, ev, h1, q u (see_f (h2 _))⟩
    · cases e2
  · cases hm
end Dn
end

section
set_option Elab.async false
set_option linter.all false
set_option maxRecDepth 100000
set_option maxHeartbeats 4000000
/-! DnQ: extend, index, sum, str of a number; what is walked from its end -/
namespace Dn
open PySem PySem.Spec PyProof.Rows L2 RT
variable [Tb]
section
variable {K : PySem.W.Frag} {mg : Mg}
def wExt : List D → List D → Option (D × List D)
  | xs, [.lst ys] => if xs.length + ys.length ≤ 16777216 then some (.non, xs ++ ys) else none
  | _, _ => none
theorem opW_ext : OpW K mg rExtend wExt := by
  intro z a xs ds xs' us ws d Q k h hr hd hf q
  unfold wExt at hf
  split at hf
  · rename_i ys
    split at hf
    · rename_i hl
      cases hf
      obtain ⟨w, r, rfl, h1, h2⟩ := hd
      have h2 : r = [] := h2
      subst h2
      obtain ⟨b, vs, rfl, hb, hv⟩ := h1
      exact ⟨a, b, us, vs, rfl, rfl, h, k.ex _ _ hb, by rw [reps_len hr, reps_len hv, sizeLine_eq]; exact hl, q _ _ (reps_app hr hv) rfl⟩
    · cases hf
  · cases hf
def fSum : List M → Option Rs
  | [m] => match asL m with
    | some ds => (intsOf ds).map fun ns => .sc (.int ns.sum)
    | none => none
  | _ => none
theorem opL_sum : OpL K mg (rSum K) fSum := by
  intro z ms us rs Q k sn hf q
  unfold fSum at hf
  split at hf
  · rename_i m
    obtain ⟨v, rfl, sm⟩ := sees1 sn
    cases hs : asL m with
    | none => rw [hs] at hf; cases hf
    | some ds =>
      rw [hs] at hf
      have hf : (intsOf ds).map (fun ns => Rs.sc (.int ns.sum)) = some rs := hf
      cases hb : intsOf ds with
      | none => rw [hb] at hf; cases hf
      | some bs =>
        rw [hb] at hf
        cases hf
        obtain ⟨a, us, rfl, hq, hr⟩ := see_L k hs sm
        have e := intsOf_ok hb hr
        subst e
        exact ⟨a, bs, rfl, hq, q _ rfl⟩
  · cases hf
def strI (i : Int) : Str := if 0 ≤ i ∧ i < 10 then ⟨#[48 + i.toNat]⟩ else Str.ofString (toString i)
theorem strI_ok (i : Int) : strI i = Str.ofString (toString i) := by
  unfold strI
  split
  · rename_i h
    obtain ⟨h0, h1⟩ := h
    obtain ⟨n, rfl⟩ := Int.eq_ofNat_of_zero_le h0
    have hn : n < 10 := by omega
    match n, hn with
    | 0, _ => decide +kernel
    | 1, _ => decide +kernel
    | 2, _ => decide +kernel
    | 3, _ => decide +kernel
    | 4, _ => decide +kernel
    | 5, _ => decide +kernel
    | 6, _ => decide +kernel
    | 7, _ => decide +kernel
    | 8, _ => decide +kernel
    | 9, _ => decide +kernel
  · rfl
def fStr : List M → Option Rs
  | [.f (.int i)] => if i.natAbs.log2 < 1920 then some (.sc (.str (strI i))) else none
  | _ => none
theorem opL_str : OpL K mg (fun xs H Q => ∃ i, xs = [.int i] ∧ i.natAbs.log2 < 1920 ∧ Q (.str (toString i)) H) fStr := by
  intro z ms us rs Q k sn hf q
  unfold fStr at hf
  split at hf
  · rename_i i
    split at hf
    · rename_i hl
      cases hf
      obtain ⟨v, rfl, sm⟩ := sees1 sn
      have e1 : v = .int i := see_v sm
      exact ⟨i, by rw [e1], hl, q _ (by rw [strI_ok]; rfl)⟩
    · cases hf
  · cases hf
def ixD (d : PyData) : List PyData → Nat → Option Nat
  | [], _ => none
  | z :: r, n => if PyData.eqv z d then some n else ixD d r (n + 1)
theorem ixD_ok {d : PyData} : ∀ (ds : List PyData) (n j : Nat), ixD d ds n = some j → ∃ i z, j = n + i ∧ ds[i]? = some z ∧ PyData.eqv z d = true ∧ ∀ (m : Nat) (z' : PyData), m < i → ds[m]? = some z' → PyData.eqv z' d = false
  | [], _, _, h => by cases h
  | z :: r, n, j, h => by
    unfold ixD at h
    split at h
    · rename_i e
      cases h
      exact ⟨0, z, rfl, rfl, e, fun m z' hm => absurd hm (Nat.not_lt_zero _)⟩
    · rename_i e
      obtain ⟨i, z2, e1, e2, e3, e4⟩ := ixD_ok r (n + 1) j h
      refine ⟨i + 1, z2, by omega, e2, e3, fun m z' hm hz => ?_⟩
      cases m with
      | zero =>
        cases hz
        exact Bool.eq_false_iff.mpr e
      | succ m => exact e4 m z' (by omega) hz
def fIndex : M → List M → Option Rs
  | m, [x] => match asL m, pym m, pym x with
    | some _, some (.list ps), some p => if SeqAt.shaped (.list ps) = true ∧ SeqAt.shaped p = true then (ixD p ps 0).map fun j => .sc (.int (j : Nat)) else none
    | _, _, _ => none
  | _, _ => none
theorem opM_index : OpM K mg (rIndexD K) fIndex := by
  intro z m ms v us rs Q k sm sn hf q
  unfold fIndex at hf
  split at hf
  · rename_i x
    split at hf
    · rename_i l ps p h0 h1 h2
      split at hf
      · rename_i hs
        cases hi : ixD p ps 0 with
        | none => rw [hi] at hf; cases hf
        | some j =>
          rw [hi] at hf
          cases hf
          obtain ⟨i, y, e1, e2, e3, e4⟩ := ixD_ok ps 0 j hi
          obtain ⟨u, rfl, sx⟩ := sees1 sn
          obtain ⟨a, vs, rfl, _, _⟩ := see_L k h0 sm
          have e1 : j = i := by omega
          subst e1
          exact ⟨a, u, p, ps, j, y, rfl, rfl, dp_see k h1 sm, dp_see k h2 sx, hs.1, hs.2, e2, e3, e4, q _ rfl⟩
      · cases hf
    · cases hf
  · cases hf
end
/-! ### from the end -/
section
variable {K : PySem.W.Frag} {mg : Mg}
def itemsQ : D → Option (List D)
  | .lst ds => some ds
  | .rl ds => some ds
  | .tup ds => some ds
  | _ => none
theorem rev_get {α : Type} {xs : List α} {i : Nat} {d : α} (h : xs.reverse[i]? = some d) : i < xs.length ∧ xs[xs.length - 1 - i]? = some d := by
  have hi : i < xs.length := by
    have := (List.getElem?_eq_some_iff.mp h).1
    rwa [List.length_reverse] at this
  rw [List.getElem?_reverse hi] at h
  exact ⟨hi, h⟩
theorem itv_ok {z0 : Z} {vs ext : List V} {n : Nat} {a : Addr} {ds : List D} {k : Nat} {b : Env → Env} (hk : k = ds.length)
    (g2 : ∀ z, Ok z → Stp z0 z → ∃ us, SqL K z.H a us ∧ reps K mg z.F ds us) : ItOk K mg (Itv K a k) z0 vs ext n ⟨ds.reverse, [], b⟩ := by
  subst hk
  refine ⟨fun z => Stp z0 z, fun z s σ _ st _ _ => st, fun z i d k g hd => ?_, fun z k g => ?_⟩
  · obtain ⟨us, h1, h2⟩ := g2 z k g
    obtain ⟨hi, hd⟩ := rev_get hd
    obtain ⟨u, e1, e2⟩ := reps_get h2 hd
    refine ⟨⟨hi, us, u, h1, e1⟩, fun x H' hy => ?_⟩
    obtain ⟨rfl, hx⟩ := hy
    have := hx us h1
    rw [e1] at this
    cases this
    exact ⟨z, rfl, Stp.refl z, k, fun _ _ _ => ⟨rfl, rfl⟩, e2⟩
  · show ds.length ≤ ds.reverse.length
    rw [List.length_reverse]
    exact Nat.le_refl _
theorem itvT_ok {z0 : Z} {vs ext : List V} {n : Nat} {a : Addr} {ds : List D} {k : Nat} {b : Env → Env} (hk : k = ds.length)
    (g2 : ∀ z, Ok z → Stp z0 z → ∃ us, SqT K z.H a us ∧ reps K mg z.F ds us) : ItOk K mg (ItvT K a k) z0 vs ext n ⟨ds.reverse, [], b⟩ := by
  subst hk
  refine ⟨fun z => Stp z0 z, fun z s σ _ st _ _ => st, fun z i d k g hd => ?_, fun z k g => ?_⟩
  · obtain ⟨us, h1, h2⟩ := g2 z k g
    obtain ⟨hi, hd⟩ := rev_get hd
    obtain ⟨u, e1, e2⟩ := reps_get h2 hd
    refine ⟨⟨hi, us, u, h1, e1⟩, fun x H' hy => ?_⟩
    obtain ⟨rfl, hx⟩ := hy
    have := hx us h1
    rw [e1] at this
    cases this
    exact ⟨z, rfl, Stp.refl z, k, fun _ _ _ => ⟨rfl, rfl⟩, e2⟩
  · show ds.length ≤ ds.reverse.length
    rw [List.length_reverse]
    exact Nat.le_refl _
theorem it_rev {z0 : Z} {vs ext : List V} {n : Nat} {d : D} {ds : List D} {v : V} {b : Env → Env} {R : It → Hp → Prop} (k0 : Ok z0) (hr : rep K mg z0.F d v) (hd : itemsQ d = some ds) (q : ∀ J, ItOk K mg J z0 vs ext n ⟨ds.reverse, [], b⟩ → R J z0.H) :
    ∃ (a : Addr) (xs : List V), v = .ref a ∧ ((SqL K z0.H a xs ∧ R (Itv K a xs.length) z0.H) ∨ (SqT K z0.H a xs ∧ R (ItvT K a xs.length) z0.H)) := by
  cases d with
  | lst es =>
    cases hd
    obtain ⟨a, us, rfl, h1, h2⟩ := hr
    exact ⟨a, us, rfl, .inl ⟨.inl (.inl (k0.ex _ _ h1)), q _ (itv_ok (reps_len h2) fun z k st => ⟨us, .inl (.inl (k.ex _ _ (st.ef _ _ h1))), reps_ex st.ef ds us h2⟩)⟩⟩
  | rl es =>
    cases hd
    obtain ⟨a, us, rfl, h1, h2⟩ := hr
    exact ⟨a, us, rfl, .inl ⟨sqL_ex k0.ex h1, q _ (itv_ok (reps_len h2) fun z k st => ⟨us, sqL_ex k.ex (sqL_ex st.ef h1), reps_ex st.ef ds us h2⟩)⟩⟩
  | tup es =>
    cases hd
    obtain ⟨a, us, rfl, h1, h2⟩ := hr
    exact ⟨a, us, rfl, .inr ⟨sqT_ex k0.ex h1, q _ (itvT_ok (reps_len h2) fun z k st => ⟨us, sqT_ex k.ex (sqT_ex st.ef h1), reps_ex st.ef ds us h2⟩)⟩⟩
  | _ => cases hd
end
section
variable {X : Cx} {W : WX} {vs : List V}
def iRv (d : Env → Re D) : Env → Re Src := fun s => match d s with
  | .ok x s1 => (match itemsQ x with
    | some ds => .ok ⟨ds.reverse, [], id⟩ s1
    | none => .bad)
  | .ex e s1 => .ex e s1
  | .bad => .bad
theorem i_rev {tg e : Expr} {d : Env → Re D} {p pos : Pos} (hm : X.mg "reversed" = none) (h : VM X W vs e d) (hg : Gl X "reversed" := by rfl) (hs : starEach [e] X.env = (false, eval e X.env) :: starEach [] X.env := by rfl) : IM X W vs tg (.Call (.Name "reversed" p) [e] [] pos) (iRv d) := wkI (pi_revA hg hm h hs) fun σ H R _ h => by
  obtain ⟨z, s, ext, hz, Rl0, q⟩ := h
  refine ⟨z, s, ext, hz, Rl0, ?_⟩
  unfold iRv at q
  cases hd : d s with
  | bad => simp only [hd] at q
  | ex e s1 =>
    simp only [hd] at q
    exact q
  | ok x s1 =>
    simp only [hd] at q
    intro v z1 st pl R1 r
    cases hi : itemsQ x with
    | none => simp only [hi] at q
    | some ds =>
      simp only [hi] at q
      refine it_rev R1.ok r hi fun J hJ => q J z1 [] st (Ple.refl s) (by rw [List.append_nil]; exact R1) (by rw [List.append_nil]; exact hJ) ?_
      rw [List.append_nil]
      exact back_id pl
end
/-! ### x in a tuple of data -/
def rInT (K : PySem.W.Frag) (neg : Bool) : R2 := fun x y H Q => ∃ d ds, Dp K H x d ∧ Dp K H y (.tuple ds) ∧ SeqAt.shaped d = true ∧ SeqAt.shaped (.tuple ds) = true ∧ Q (.bl (if neg then !ds.any (fun z => PyData.eqv z d) else ds.any (fun z => PyData.eqv z d))) H
section
variable {X : Cx}
theorem op_inT (hu : X.A.units + 65 < cLine) : OpR X (compareOp .In) (rInT X.K false) := by
  intro pins s σ H x y v u Q I rx ry h
  obtain ⟨d, ds, hd, he, sd, se, q⟩ := h
  obtain ⟨as, r1⟩ := Dp.reads I d x v hd rx
  obtain ⟨bs, r2⟩ := Dp.reads I (.tuple ds) y u he ry
  exact SeqAt.in_tuple_reads r2 r1 (SeqAt.canLay_of_shaped se) (SeqAt.canLay_of_shaped sd) (room_in_shaped sd hu) ⟨.bl _, H, I, rfl, q⟩
theorem op_notInT (hu : X.A.units + 65 < cLine) : OpR X (compareOp .NotIn) (rInT X.K true) := by
  intro pins s σ H x y v u Q I rx ry h
  obtain ⟨d, ds, hd, he, sd, se, q⟩ := h
  obtain ⟨as, r1⟩ := Dp.reads I d x v hd rx
  obtain ⟨bs, r2⟩ := Dp.reads I (.tuple ds) y u he ry
  exact SeqAt.notIn_tuple_reads r2 r1 (SeqAt.canLay_of_shaped se) (SeqAt.canLay_of_shaped sd) (room_in_shaped sd hu) ⟨.bl _, H, I, rfl, q⟩
def rInC (K : PySem.W.Frag) (neg : Bool) : R2 := fun x y H Q => rInA K neg x y H Q ∨ rInT K neg x y H Q
theorem op_inC (hu : X.A.units + 65 < cLine) : OpR X (compareOp .In) (rInC X.K false) := opR_or (op_inA hu) (op_inT hu)
theorem op_notInC (hu : X.A.units + 65 < cLine) : OpR X (compareOp .NotIn) (rInC X.K true) := opR_or (op_notInA hu) (op_notInT hu)
end
def fInT (neg : Bool) : M → M → Option Rs := fun m n => match pym m, pym n with
  | some p, some (.tuple ps) => if SeqAt.shaped p && SeqAt.shaped (.tuple ps) then some (.sc (.bl (if neg then !ps.any (fun z => PyData.eqv z p) else ps.any (fun z => PyData.eqv z p)))) else none
  | _, _ => none
def fInC (neg : Bool) : M → M → Option Rs := fun m n => match fInB neg m n with
  | some r => some r
  | none => fInT neg m n
theorem op2_inC {K : PySem.W.Frag} {mg : Mg} {neg : Bool} : Op2 K mg (rInC K neg) (fInC neg) := by
  intro z m n v w rs Q k sm sn hf q
  unfold fInC at hf
  cases h : fInB neg m n with
  | some r =>
    simp only [h] at hf
    cases hf
    exact .inl (op2_in z m n v w rs Q k sm sn h q)
  | none =>
    simp only [h] at hf
    unfold fInT at hf
    split at hf
    · rename_i p ps h1 h2
      split at hf
      · rename_i hs
        cases hf
        rw [Bool.and_eq_true] at hs
        exact .inr ⟨p, ps, dp_see k h1 sm, dp_see k h2 sn, hs.1, hs.2, q _ rfl⟩
      · cases hf
    · cases hf
end Dn
end

section
set_option Elab.async false
set_option linter.all false
set_option maxRecDepth 100000
set_option maxHeartbeats 4000000
/-! DnR: loops and comprehensions by invariants (the plain side) -/
namespace Dn
open PySem PySem.Spec PyProof.Rows L2
variable [Tb]

theorem lkC_of {ls : List (Nat × List D)} {s : Env} {o : Out} (h : lkBb s ls = true) : lkC ls s o = o := by
  cases ls with
  | nil => rfl
  | cons l r => exact if_pos (lkBb_iff.mp h)
def okO (B : Env → Prop) (X : Out → Prop) : Out → Prop
  | .nx s => B s
  | .rt m s => X (.rt m s)
  | .ex e s => X (.ex e s)
  | _ => False
/-- a for loop: I k ahead of the k-th item, B behind the loop, X of what leaves it -/
theorem forL_sp {ls : List (Nat × List D)} {t : D → Env → Option Env} {b : Env → Out} (B : Env → Prop) (X : Out → Prop) : ∀ (items : List D) (I : Nat → Env → Prop) (s : Env),
    (∀ i d s, items[i]? = some d → I i s → lkBb s ls = true ∧ ∃ s1, t d s = some s1 ∧ (match b s1 with
      | .nx s2 => I (i + 1) s2
      | .ct s2 => I (i + 1) s2
      | .bk s2 => B s2
      | .bad => False
      | o => X o)) → (∀ s, I items.length s → lkBb s ls = true ∧ B s) → I 0 s → okO B X (forL ls t b items s)
  | [], I, s, _, he, h0 => by
    obtain ⟨a, c⟩ := he s h0
    unfold forL
    rw [lkC_of a]; exact c
  | d :: ds, I, s, hs, he, h0 => by
    obtain ⟨a, s1, e1, h1⟩ := hs 0 d s rfl h0
    unfold forL
    rw [lkC_of a, e1]
    have go : ∀ s2, I 1 s2 → okO B X (forL ls t b ds s2) := fun s2 h2 =>
      forL_sp B X ds (fun i s => I (i + 1) s) s2 (fun i d s hi h => hs (i + 1) d s (by simpa using hi) h) (fun s h => he s h) h2
    show okO B X (match b s1 with
      | .nx s2 => forL ls t b ds s2
      | .ct s2 => forL ls t b ds s2
      | .bk s2 => .nx s2
      | o => o)
    cases hb : b s1 with
    | nx s2 => rw [hb] at h1; exact go s2 h1
    | ct s2 => rw [hb] at h1; exact go s2 h1
    | bk s2 => rw [hb] at h1; exact h1
    | rt m s2 => rw [hb] at h1; exact h1
    | ex m s2 => rw [hb] at h1; exact h1
    | bad => rw [hb] at h1; exact h1.elim
/-- the body never leaves the loop -/
theorem forL_nx {ls : List (Nat × List D)} {t : D → Env → Option Env} {b : Env → Out} {items : List D} {s : Env} (I : Nat → Env → Prop)
    (hs : ∀ i d s, items[i]? = some d → I i s → lkBb s ls = true ∧ ∃ s1 s2, t d s = some s1 ∧ (b s1 = .nx s2 ∨ b s1 = .ct s2) ∧ I (i + 1) s2) (he : ∀ s, I items.length s → lkBb s ls = true) (h0 : I 0 s) :
    ∃ s', forL ls t b items s = .nx s' ∧ I items.length s' := by
  have h := forL_sp (ls := ls) (t := t) (b := b) (fun s => I items.length s) (fun _ => False) items I s (fun i d s hi h => by
    obtain ⟨a, s1, s2, e1, e2, h2⟩ := hs i d s hi h
    refine ⟨a, s1, e1, ?_⟩
    rcases e2 with e2 | e2 <;> rw [e2] <;> exact h2) (fun s h => ⟨he s h, h⟩) h0
  cases hf : forL ls t b items s with
  | nx s' => rw [hf] at h; exact ⟨s', rfl, h⟩
  | _ => rw [hf] at h; exact h.elim
/-- the same over typed things, what is carried a fold -/
theorem forL_fold {α β : Type} {ls : List (Nat × List D)} {t : D → Env → Option Env} {b : Env → Out} (g : β → D) (f : α → β → α) (E : α → Env → Prop) : ∀ (xs : List β) (a : α) (s : Env),
    (∀ a x s, x ∈ xs → E a s → ∃ s1 s2, t (g x) s = some s1 ∧ (b s1 = .nx s2 ∨ b s1 = .ct s2) ∧ E (f a x) s2) → (∀ a s, E a s → lkBb s ls = true) → E a s →
    ∃ s', forL ls t b (xs.map g) s = .nx s' ∧ E (xs.foldl f a) s'
  | [], a, s, _, he, h0 => by
    refine ⟨s, ?_, h0⟩
    show lkC ls s _ = _
    rw [lkC_of (he a s h0)]
  | x :: xs, a, s, hs, he, h0 => by
    obtain ⟨s1, s2, e1, e2, h2⟩ := hs a x s (List.mem_cons_self ..) h0
    obtain ⟨s', q1, q2⟩ := forL_fold g f E xs (f a x) s2 (fun a y s hy h => hs a y s (List.mem_cons_of_mem _ hy) h) he h2
    refine ⟨s', ?_, q2⟩
    show lkC ls s (match t (g x) s with
      | none => .bad
      | some s1 => match b s1 with
        | .nx s2 => forL ls t b (xs.map g) s2
        | .ct s2 => forL ls t b (xs.map g) s2
        | .bk s2 => .nx s2
        | o => o) = _
    rw [lkC_of (he a s h0), e1]
    rcases e2 with e2 | e2 <;> simp only [e2] <;> exact q1
/-- a comprehension that changes things on its way -/
theorem lcL_sp {ls : List (Nat × List D)} {ow : List Nat} {t : D → Env → Option Env} {q : Env → Re Bool} {b : Env → Re D} : ∀ (items : List D) (I : Nat → Env → List D → Prop) (s : Env) (acc : List D),
    (∀ i d s acc, items[i]? = some d → I i s acc → lkBb s ls = true ∧ ∃ s1, t d s = some s1 ∧ (match q s1 with
      | .ok true s2 => ∃ x s3, b s2 = .ok x s3 ∧ acc.length < 16777216 ∧ I (i + 1) (clr ow s3) (acc ++ [x])
      | .ok false s2 => I (i + 1) (clr ow s2) acc
      | _ => False)) → (∀ s acc, I items.length s acc → lkBb s ls = true) → I 0 s acc → ∃ ds s', lcL ls ow t q b items s acc = .ok ds s' ∧ I items.length s' ds
  | [], I, s, acc, _, he, h0 => by
    refine ⟨acc, s, ?_, h0⟩
    unfold lcL
    rw [lkC_of (he s acc h0)]
  | d :: items, I, s, acc, hs, he, h0 => by
    obtain ⟨a, s1, e1, h1⟩ := hs 0 d s acc rfl h0
    have go : ∀ s2 ac2, I 1 s2 ac2 → ∃ ds s', lcL ls ow t q b items s2 ac2 = .ok ds s' ∧ I (items.length + 1) s' ds := fun s2 ac2 h2 =>
      lcL_sp items (fun i s ac => I (i + 1) s ac) s2 ac2 (fun i d s ac hi h => hs (i + 1) d s ac (by simpa using hi) h) (fun s ac h => he s ac h) h2
    unfold lcL
    rw [lkC_of a, e1]
    cases hq : q s1 with
    | ok k s2 =>
      rw [hq] at h1
      cases k with
      | false =>
        simp only [hq]
        exact go _ _ h1
      | true =>
        obtain ⟨x, s3, e3, hl, h3⟩ := h1
        simp only [hq, e3, hl, if_true]
        exact go _ _ h3
    | ex e s2 => rw [hq] at h1; exact h1.elim
    | bad => rw [hq] at h1; exact h1.elim
/-- a comprehension that changes nothing -/
theorem lcL_map {β : Type} {ls : List (Nat × List D)} {ow : List Nat} {t : D → Env → Option Env} {q : Env → Re Bool} {b : Env → Re D} (g : β → D) (p : β → Bool) (f : β → D) {S : Env} (hl : lkBb S ls = true) : ∀ (xs : List β) (acc : List D),
    (∀ x ∈ xs, ∃ s1 s2, t (g x) S = some s1 ∧ q s1 = .ok (p x) s2 ∧ (if p x then ∃ s3, b s2 = .ok (f x) s3 ∧ clr ow s3 = S else clr ow s2 = S)) → acc.length + xs.length ≤ 16777216 →
    lcL ls ow t q b (xs.map g) S acc = .ok (acc ++ (xs.filter p).map f) S
  | [], acc, _, _ => by
    show lcL ls ow t q b [] S acc = _
    unfold lcL
    rw [lkC_of hl]
    simp
  | x :: xs, acc, hs, hn => by
    rw [List.length_cons] at hn
    obtain ⟨s1, s2, e1, e2, h⟩ := hs x (List.mem_cons_self ..)
    rw [List.map_cons]
    unfold lcL
    rw [lkC_of hl]
    simp only [e1, e2]
    cases hp : p x with
    | true =>
      rw [hp] at h
      obtain ⟨s3, e3, hc⟩ := h
      have ih := lcL_map g p f hl xs (acc ++ [f x]) (fun y hy => hs y (List.mem_cons_of_mem _ hy)) (by rw [List.length_append, List.length_singleton]; omega)
      have ha : acc.length < 16777216 := by omega
      simp only [e3, ha, if_true, hc, ih]
      rw [List.filter_cons, if_pos hp, List.map_cons, List.append_assoc]
      rfl
    | false =>
      rw [hp] at h
      have h : clr ow s2 = S := h
      have ih := lcL_map g p f hl xs acc (fun y hy => hs y (List.mem_cons_of_mem _ hy)) (by omega)
      simp only [h, ih]
      rw [List.filter_cons, if_neg (by rw [hp]; decide)]
/-! ### one step -/
section
variable {s s1 : Env} {m : M}
theorem dSeq_nx {a b : Env → Out} (h : a s = .nx s1) : dSeq a b s = b s1 := by unfold dSeq; rw [h]
theorem dSeq_rt {a b : Env → Out} (h : a s = .rt m s1) : dSeq a b s = .rt m s1 := by unfold dSeq; rw [h]
theorem dSeq_ex {a b : Env → Out} {e : Exn} (h : a s = .ex e s1) : dSeq a b s = .ex e s1 := by unfold dSeq; rw [h]
theorem dSeq_bk {a b : Env → Out} (h : a s = .bk s1) : dSeq a b s = .bk s1 := by unfold dSeq; rw [h]
theorem dSeq_ct {a b : Env → Out} (h : a s = .ct s1) : dSeq a b s = .ct s1 := by unfold dSeq; rw [h]
theorem dIf_t {t : Env → Re Bool} {a b : Env → Out} (h : t s = .ok true s1) : dIf t a b s = a s1 := by unfold dIf; rw [h]
theorem dIf_f {t : Env → Re Bool} {a b : Env → Out} (h : t s = .ok false s1) : dIf t a b s = b s1 := by unfold dIf; rw [h]
theorem dIf_b {t : Env → Re Bool} {a b : Env → Out} {c : Bool} (h : t s = .ok c s1) : dIf t a b s = if c then a s1 else b s1 := by cases c <;> (unfold dIf; rw [h]) <;> rfl
theorem dSet_ok {d : Env → Re M} {i : Nat} (h : d s = .ok m s1) : dSet i d s = .nx (s1.set i (some m)) := by unfold dSet; rw [h]
theorem dSet_ex {d : Env → Re M} {i : Nat} {e : Exn} (h : d s = .ex e s1) : dSet i d s = .ex e s1 := by unfold dSet; rw [h]
theorem dDo_ok {d : Env → Re M} (h : d s = .ok m s1) : dDo d s = .nx s1 := by unfold dDo; rw [h]
theorem dDo_ex {d : Env → Re M} {e : Exn} (h : d s = .ex e s1) : dDo d s = .ex e s1 := by unfold dDo; rw [h]
theorem dRt_ok {d : Env → Re M} (h : d s = .ok m s1) : dRt d s = .rt m s1 := by unfold dRt; rw [h]
theorem dRt_ex {d : Env → Re M} {e : Exn} (h : d s = .ex e s1) : dRt d s = .ex e s1 := by unfold dRt; rw [h]
theorem dFor_ok {src : Env → Re Src} {t : D → Env → Option Env} {b : Env → Out} {S : Src} (h : src s = .ok S s1) : dFor src t b s = wrapO S.back (forL S.locks t b S.items s1) := by unfold dFor; rw [h]
theorem dFor_nx {src : Env → Re Src} {t : D → Env → Option Env} {b : Env → Out} {ds : List D} {lk : List (Nat × List D)} {s2 : Env} (h : src s = .ok ⟨ds, lk, id⟩ s1) (h2 : forL lk t b ds s1 = .nx s2) : dFor src t b s = .nx s2 := by
  rw [dFor_ok h]
  show wrapO id (forL lk t b ds s1) = _
  rw [h2]; rfl
theorem dFor_rt {src : Env → Re Src} {t : D → Env → Option Env} {b : Env → Out} {ds : List D} {lk : List (Nat × List D)} {s2 : Env} (h : src s = .ok ⟨ds, lk, id⟩ s1) (h2 : forL lk t b ds s1 = .rt m s2) : dFor src t b s = .rt m s2 := by
  rw [dFor_ok h]
  show wrapO id (forL lk t b ds s1) = _
  rw [h2]; rfl
theorem dFor_ex {src : Env → Re Src} {t : D → Env → Option Env} {b : Env → Out} {ds : List D} {lk : List (Nat × List D)} {s2 : Env} {e : Exn} (h : src s = .ok ⟨ds, lk, id⟩ s1) (h2 : forL lk t b ds s1 = .ex e s2) : dFor src t b s = .ex e s2 := by
  rw [dFor_ok h]
  show wrapO id (forL lk t b ds s1) = _
  rw [h2]; rfl
theorem iRg1_ok {a : Env → Re (List D)} {i : Int} (h : a s = .ok [.int i] s1) (hr : rngOk i = true) : iRg rg1 a s = .ok ⟨rgD 0 1 i.toNat, [], id⟩ s1 := by
  unfold iRg rg1
  rw [h]
  simp only [hr, if_true]
theorem iRg2_ok {a : Env → Re (List D)} {i j : Int} (h : a s = .ok [.int i, .int j] s1) (hi : rngOk i = true) (hj : rngOk j = true) : iRg rg2 a s = .ok ⟨rgD i 1 (j - i).toNat, [], id⟩ s1 := by
  unfold iRg rg2
  rw [h]
  simp only [hi, hj, Bool.and_true, if_true]
theorem iRg3_ok {a : Env → Re (List D)} {i j : Int} (h : a s = .ok [.int i, .int j, .int (-1)] s1) (hi : rngOk i = true) (hj : rngOk j = true) : iRg rg3 a s = .ok ⟨rgD i (-1) (i - j).toNat, [], id⟩ s1 := by
  unfold iRg rg3
  rw [h]
  simp [hi, hj]
theorem rngOk_of {i : Int} (h0 : -(2 ^ 40) ≤ i) (h1 : i ≤ 2 ^ 40) : rngOk i = true := by
  unfold rngOk
  rw [decide_eq_true_eq]
  omega
theorem rgD_map (lo c : Int) (n : Nat) : rgD lo c n = (List.range n).map fun i => D.int (lo + (i : Nat) * c) := rfl
theorem rgD_len (lo c : Int) (n : Nat) : (rgD lo c n).length = n := by simp [rgD]
theorem dDef_rt {np N : Nat} {d : Env → Out} {ms ms' : List M} (hl : ms.length = np) (h : d (entry N ms) = .rt m s1) (hf : fins np s1 = some ms') : dDef np N d ms = .ok m ms' := by
  unfold dDef
  rw [if_pos hl, h]
  simp only [hf]
theorem dDef_nx {np N : Nat} {d : Env → Out} {ms ms' : List M} (hl : ms.length = np) (h : d (entry N ms) = .nx s1) (hf : fins np s1 = some ms') : dDef np N d ms = .ok (.f .non) ms' := by
  unfold dDef
  rw [if_pos hl, h]
  simp only [hf]
theorem dDef_ex {np N : Nat} {d : Env → Out} {ms ms' : List M} {e : Exn} (hl : ms.length = np) (h : d (entry N ms) = .ex e s1) (hf : fins np s1 = some ms') : dDef np N d ms = .ex e ms' := by
  unfold dDef
  rw [if_pos hl, h]
  simp only [hf]
theorem cLc_ok {ow : List Nat} {src : Env → Re Src} {t : D → Env → Option Env} {q : Env → Re Bool} {b : Env → Re D} {ds is : List D} {lk : List (Nat × List D)} {s2 : Env} (h : src s = .ok ⟨is, lk, id⟩ s1) (hh : hid ow s1 = true)
    (h2 : lcL lk ow t q b is (clr ow s1) [] = .ok ds s2) : cLc ow src t q b s = .ok (.l ds) (rst ow s1 s2) := by
  unfold cLc
  rw [h]
  simp only [hh, if_true, h2]
  rfl
theorem cCall_ok {n : Nat} {df : Den} {a : Env → Re (List Ref)} {rs : List Ref} {as : List (M × Option Nat)} {ms : List M} (h : a s = .ok rs s1) (ha : argsOf s1 rs = some as) (hp : apart as = true) (hl : as.length = n) (hd : df (as.map (·.1)) = .ok m ms) : cCall n df a s = .ok m ((putBack s1 as ms).take s.length) := by
  unfold cCall
  rw [h]
  simp only [ha, hp, hl, beq_self_eq_true, Bool.and_self, if_true, hd]
theorem cCall_ex {n : Nat} {df : Den} {a : Env → Re (List Ref)} {rs : List Ref} {as : List (M × Option Nat)} {ms : List M} {e : Exn} (h : a s = .ok rs s1) (ha : argsOf s1 rs = some as) (hp : apart as = true) (hl : as.length = n) (hd : df (as.map (·.1)) = .ex e ms) : cCall n df a s = .ex e ((putBack s1 as ms).take s.length) := by
  unfold cCall
  rw [h]
  simp only [ha, hp, hl, beq_self_eq_true, Bool.and_self, if_true, hd]
theorem whileN_t {t : Env → Re Bool} {b : Env → Out} {n : Nat} {s2 : Env} (h : t s = .ok true s1) (h2 : b s1 = .nx s2) : whileN t b (n + 1) s = whileN t b n s2 := by
  conv => lhs; unfold whileN
  rw [h]
  simp only [h2]
theorem whileN_f {t : Env → Re Bool} {b : Env → Out} {n : Nat} (h : t s = .ok false s1) : whileN t b (n + 1) s = .nx s1 := by
  conv => lhs; unfold whileN
  rw [h]
end
/-! ### lists of whole numbers; calls that change one list -/
theorem pyos_ints : ∀ ns : List Int, pyos (ns.map D.int) = some (ns.map PyData.int)
  | [] => rfl
  | n :: ns => by
    rw [List.map_cons]
    unfold pyos
    rw [pyos_ints ns]; rfl
theorem can_ints : ∀ ns : List Int, PyData.canLayAll0 (ns.map PyData.int) = true
  | [] => by simp [PyData.canLayAll0]
  | n :: ns => by
    rw [List.map_cons, PyData.canLayAll0, can_ints ns]
    simp [PyData.canLay0]
theorem depth_ints : ∀ ns : List Int, PyData.depthAll (ns.map PyData.int) = 0
  | [] => by simp [PyData.depthAll]
  | n :: ns => by
    rw [List.map_cons, PyData.depthAll, depth_ints ns]
    simp [PyData.depth]
theorem eqv_int (i j : Int) : PyData.eqv (.int i) (.int j) = decide (i = j) := by
  rw [PyData.eqv]
  rfl
theorem eqv_ints : ∀ xs ys : List Int, PyData.eqvAll (xs.map PyData.int) (ys.map PyData.int) = decide (xs = ys)
  | [], [] => by simp [PyData.eqvAll]
  | [], _ :: _ => by simp [PyData.eqvAll]
  | _ :: _, [] => by simp [PyData.eqvAll]
  | x :: xs, y :: ys => by
    rw [List.map_cons, List.map_cons, PyData.eqvAll, eqv_int, eqv_ints xs ys]
    by_cases h : x = y <;> simp [h]
theorem shaped_ints (xs : List Int) : SeqAt.shaped (.list (xs.map PyData.int)) = true := by
  unfold SeqAt.shaped
  rw [PyData.canLay0, can_ints, PyData.depth, depth_ints]
  rfl
theorem shaped_tints (xs : List Int) : SeqAt.shaped (.tuple (xs.map PyData.int)) = true := by
  unfold SeqAt.shaped
  rw [PyData.canLay0, can_ints, PyData.depth, depth_ints]
  rfl
theorem fEqB_ints {neg : Bool} {m n : M} {xs ys : List Int} (hm : asL m = some (xs.map D.int)) (hn : asL n = some (ys.map D.int)) : fEqB neg m n = some (.sc (.bl (if neg then !decide (xs = ys) else decide (xs = ys)))) := by
  have k : ∀ {m : M} {xs : List Int}, asL m = some (xs.map D.int) → pym m = some (.list (xs.map PyData.int)) := fun {m xs} h => by
    unfold asL at h
    split at h
    · cases h
      show (pyos _).map PyData.list = _
      rw [pyos_ints]; rfl
    · cases h
      show (pyos _).map PyData.list = _
      rw [pyos_ints]; rfl
    · cases h
      show (pyos _).map PyData.list = _
      rw [pyos_ints]; rfl
    · cases h
  unfold fEqB
  rw [k hm, k hn]
  simp only [shaped_ints, Bool.and_self, if_true]
  rw [PyData.eqv, eqv_ints]
theorem intsOf_map : ∀ ns : List Int, intsOf (ns.map D.int) = some ns
  | [] => rfl
  | n :: ns => by
    show (intsOf (ns.map D.int)).map (n :: ·) = _
    rw [intsOf_map ns]; rfl
/-- a def that changes its first argument, a list of the caller's -/
theorem call_l2 {df : Den} {e : Env → Re (List Ref)} {s : Env} {i : Nat} {xs ys : List D} {r : M} {d d' : D} (he : e s = .ok [.s i, .v d] s) (hs : s[i]? = some (some (.l xs))) (hd : df [.l xs, .f d] = .ok r [.l ys, .f d']) : cCall 2 df e s = .ok r (s.set i (some (.l ys))) := by
  have hl : look s i = some (.l xs) := by unfold look; rw [hs]
  have hr : root s i = i := by unfold root; rw [hs]
  have ha : argsOf s [.s i, .v d] = some [(.l xs, some i), (.f d, none)] := by
    simp [argsOf, argOf, hl, hr]
  refine (cCall_ok he ha rfl rfl hd).trans ?_
  show Re.ok _ ((s.set i (some (.l ys))).take s.length) = _
  rw [List.take_of_length_le (by simp)]
theorem call_l1 {df : Den} {e : Env → Re (List Ref)} {s : Env} {i : Nat} {xs ys : List D} {r : M} (he : e s = .ok [.s i] s) (hs : s[i]? = some (some (.l xs))) (hd : df [.l xs] = .ok r [.l ys]) : cCall 1 df e s = .ok r (s.set i (some (.l ys))) := by
  have hl : look s i = some (.l xs) := by unfold look; rw [hs]
  have hr : root s i = i := by unfold root; rw [hs]
  have ha : argsOf s [.s i] = some [(.l xs, some i)] := by
    simp [argsOf, argOf, hl, hr]
  refine (cCall_ok he ha rfl rfl hd).trans ?_
  show Re.ok _ ((s.set i (some (.l ys))).take s.length) = _
  rw [List.take_of_length_le (by simp)]
/-- a def of frozen arguments -/
theorem call_f1 {df : Den} {e : Env → Re (List Ref)} {s : Env} {r : M} {d d' : D} (he : ∃ a, e s = .ok [a] s ∧ argOf s a = some (.f d, none)) (hd : df [.f d] = .ok r [.f d']) : cCall 1 df e s = .ok r s := by
  obtain ⟨a, he, ha⟩ := he
  refine (cCall_ok (as := [(.f d, none)]) he (by simp [argsOf, ha]) rfl rfl hd).trans ?_
  show Re.ok _ (s.take s.length) = _
  rw [List.take_length]
theorem call_f2 {df : Den} {e : Env → Re (List Ref)} {s : Env} {r : M} {d1 d2 d1' d2' : D} (he : ∃ a b, e s = .ok [a, b] s ∧ argOf s a = some (.f d1, none) ∧ argOf s b = some (.f d2, none)) (hd : df [.f d1, .f d2] = .ok r [.f d1', .f d2']) : cCall 2 df e s = .ok r s := by
  obtain ⟨a, b, he, ha, hb⟩ := he
  refine (cCall_ok (as := [(.f d1, none), (.f d2, none)]) he (by simp [argsOf, ha, hb]) rfl rfl hd).trans ?_
  show Re.ok _ (s.take s.length) = _
  rw [List.take_length]
theorem ixN_of {n : Nat} {i : Int} (h0 : 0 ≤ i) (h1 : i < n) : ixN n i = some i.toNat := by
  unfold ixN
  rw [if_pos h0, if_pos (by omega)]
section
variable {s s1 s2 : Env}
theorem vE_ok {d : Env → Re M} {m : M} (h : d s = .ok m s1) : vE d s = .ok (frz m) s1 := by unfold vE; rw [h]
theorem vP_ok {d : Env → Option M} {x : D} (h : d s = some (.f x)) : vP d s = .ok x s := by unfold vP; rw [h]
theorem cP_ok {d : Env → Option M} {m : D} (h : d s = some (.f m)) : cP d s = .ok (.f m) s := by unfold cP; rw [h]
theorem oE_v {d : Env → Re M} {x : D} (h : d s = .ok (.f x) s1) : oE d s = .ok (.v x) s1 := by unfold oE; rw [h]
theorem oE_l {d : Env → Re M} {xs : List D} (h : d s = .ok (.l xs) s1) : oE d s = .ok (.s s1.length) (s1 ++ [some (.l xs)]) := by unfold oE; rw [h]
theorem lCons_ok {α : Type} {a : Env → Re α} {b : Env → Re (List α)} {x : α} {xs : List α} (h : a s = .ok x s1) (h2 : b s1 = .ok xs s2) : lCons a b s = .ok (x :: xs) s2 := by
  unfold lCons
  rw [h]
  simp only [h2]
theorem cE2_ok {f : M → M → Option Rs} {a b : Env → Re Ref} {r1 r2 : Ref} {m n : M} {rs : Rs} (h : a s = .ok r1 s1) (h2 : b s1 = .ok r2 s2) (hm : rv s2 r1 = some m) (hn : rv s2 r2 = some n) (hf : f m n = some rs) : cE2 f a b s = .ok rs.m (s2.take s.length) := by
  unfold cE2
  rw [h]
  simp only [h2, hm, hn, hf, fin]
theorem cEL_ok {f : List M → Option Rs} {a : Env → Re (List Ref)} {rl : List Ref} {ms : List M} {rs : Rs} (h : a s = .ok rl s1) (hm : rvs s1 rl = some ms) (hf : f ms = some rs) : cEL f a s = .ok rs.m (s1.take s.length) := by
  unfold cEL
  rw [h]
  simp only [hm, hf, fin]
theorem cMt_ok {i : Nat} {f : List D → List D → Option (D × List D)} {a : Env → Re (List D)} {ds xs xs0 xs' : List D} {d : D} (h0 : look s i = some (.l xs0)) (h : a s = .ok ds s1) (h1 : look s1 i = some (.l xs)) (hf : f xs ds = some (d, xs')) : cMt i f a s = .ok (.f d) (s1.set (root s1 i) (some (.l xs'))) := by
  unfold cMt
  rw [h0]
  simp only [h, h1, hf]
theorem tBp_ok {d : Env → Option M} {b : Bool} (h : d s = some (.f (.bl b))) : tBp d s = .ok b s := by unfold tBp; rw [h]
theorem tB2_ok {d : Env → Re M} {b : Bool} (h : d s = .ok (.f (.bl b)) s1) : tB2 d s = .ok b s1 := by unfold tB2; rw [h]
theorem iRg1_ok' {a : Env → Re (List D)} {n : Nat} (h : a s = .ok [.int n] s1) (hr : (n : Int) ≤ 2 ^ 40) : iRg rg1 a s = .ok ⟨rgD 0 1 n, [], id⟩ s1 := iRg1_ok h (rngOk_of (by omega) hr)
end
end Dn
end

section
set_option Elab.async false
set_option linter.all false
set_option maxRecDepth 100000
set_option maxHeartbeats 4000000
namespace K45
open PySem PySem.Spec PyProof.Rows L2 Dn
variable [Tb]
def limT : List (Str × D) := [("layers", .int 6), ("flags", .int 3), ("faces", .int 1000000000)]
def told : Exn → Option D := fun e => if e.c = "TooMany" then (e.fs.lookup ("what" : Str)).map fun d => .tup [.str "TooMany", d] else none
structure Ex1 (K : PySem.W.Frag) (mg : Mg) (c : Str) (C fI : Addr) (a : Str) : Prop where
  gC : mg c = some (.ref C)
  T : OexC K C
  iC : PySem.W.findIn K (.ref C) "__init__" = some (some (.ref fI))
  tI : PySem.W.typeIn K (.ref fI) = some (.type "function")
  n1 : PySem.W.findIn K (.ref C) a = some none
section
variable {aL : Addr}
structure Bn (K : PySem.W.Frag) (mg : Mg) (w : World) (aL : Addr) : Prop where
  g_LIMITS : mg "LIMITS" = some (.ref aL)
  t_LIMITS : ∀ x d, limT.lookup x = some d → ∃ v, KDct K w aL x v ∧ ∀ F, rep K mg F d v
  m_len : mg "len" = none
  m_min : mg "min" = none
  m_isinstance : mg "isinstance" = none
  m_sorted : mg "sorted" = none
  m_range : mg "range" = none
  m_zip : mg "zip" = none
  m_int : mg "int" = none
  m_bool : mg "bool" = none
  m_str : mg "str" = none
  m_list : mg "list" = none
  m_tuple : mg "tuple" = none
  m_dict : mg "dict" = none
  m_reversed : mg "reversed" = none
  m_sum : mg "sum" = none
theorem bb_sum : bootBuiltins "sum" = some (.builtin "sum") := by decide +kernel
def topS (i : Nat) : Stmt := PySem.Challenge.pw_letstand_k45_families_counted_by_all_lot.main.body.getD i (.Pass ⟨0, 0, 0, 0⟩)
abbrev Pw : Program := PySem.Challenge.pw_letstand_k45_families_counted_by_all_lot
abbrev s_bound : Stmt := topS 14
theorem sc_bound : FnScope ["what", "number"] ["what", "number"] (defScope s_bound) := ⟨rfl, rfl, rfl, by decide +kernel, rfl, by decide +kernel, by decide +kernel⟩
noncomputable def d_bound : Dn.Env → Out := (dIf (tBp (cP2 fGt (cVar (2 + 1)) (cP1 (fTab1 limT) (cVar (2 + 0))))) (dRaise "TooMany" ["what"] (lCons (vVar (2 + 0)) lNil)) dNx)
noncomputable def n_bound : Den := dDef 2 2 (d_bound)
theorem ok_bound {P : Program} {w : World} {K : PySem.W.Frag} {mg : Mg} {base : Heap} (B : Bn K mg w aL) {CT fI : Addr} {fdI : FuncData} (x_TooMany : Ex1 K mg "TooMany" CT fI "what") (F_TooMany : FnOk P w K mg base (L2.CX P w) 1 fI fdI ["self", "what"] (spX1 K "what")) (b_TooMany : Binds K fdI ["self", "what"] [])  {f : Addr} {fd : FuncData} (F : Fun K "bound" "bound" s_bound f fd) (gf : mg "bound" = some (.ref f)) : Cl P w K mg base 3 "bound" ["what", "number"] (n_bound) :=
  cl_of (k := 2) F gf (F.binds fun _ _ _ _ _ _ us hl => match us, hl with | [_, _], _ => rfl) sc_bound (by decide) fun cdv A outer s H E vs hr hn W tk pp => by
    have S := sc_bound
    have hn : vs.length = 2 := hn
    exact (ss_one (s_if (t_cmpP opB_gt op2B (p_var (i := 1) hn) (p_tab B.g_LIMITS B.t_LIMITS (p_var (i := 0) hn)) (nomark _)) (ss_one (s_raise1 tk rfl x_TooMany.gC x_TooMany.T x_TooMany.iC x_TooMany.tI x_TooMany.n1 F_TooMany (hr.mono (by omega)) b_TooMany (vs_cons (v_var (i := 0) hn) vs_nil))) ss_nil))
abbrev s_full_set : Stmt := topS 16
theorem sc_full_set : FnScope ["many"] ["many"] (defScope s_full_set) := ⟨rfl, rfl, rfl, by decide +kernel, rfl, by decide +kernel, by decide +kernel⟩
noncomputable def d_full_set : Dn.Env → Out := (dRt (cP (cP2 fSub (cP2 fShl (cD (.int 1)) (cVar (1 + 0))) (cD (.int 1)))))
noncomputable def n_full_set : Den := dDef 1 1 (d_full_set)
theorem ok_full_set {P : Program} {w : World} {K : PySem.W.Frag} {mg : Mg} {base : Heap} (B : Bn K mg w aL)   {f : Addr} {fd : FuncData} (F : Fun K "full_set" "full_set" s_full_set f fd) (gf : mg "full_set" = some (.ref f)) : Cl P w K mg base 1 "full_set" ["many"] (n_full_set) :=
  cl_of (k := 0) F gf (F.binds fun _ _ _ _ _ _ us hl => match us, hl with | [_], _ => rfl) sc_full_set (by decide) fun cdv A outer s H E vs hr hn W tk pp => by
    have S := sc_full_set
    have hn : vs.length = 1 := hn
    exact (ss_one (s_ret (e_P (p_op op_sub op2_sub (p_op op_shl op2_shl p_int (p_var (i := 0) hn)) p_int))))
abbrev s_is_closed : Stmt := topS 17
theorem sc_is_closed : FnScope ["sets", "one", "other"] ["sets"] (defScope s_is_closed) := ⟨rfl, rfl, rfl, by decide +kernel, rfl, by decide +kernel, by decide +kernel⟩
noncomputable def d_is_closed : Dn.Env → Out := (dSeq (dFor (iVar (1 + 0)) (gN (1 + 1)) (dFor (iVar (1 + 0)) (gN (1 + 2)) (dIf (tBp (cP2 (fInC true) (cP2 fAnd (cVar (1 + 1)) (cVar (1 + 2))) (cVar (1 + 0)))) (dRt (cP (cD (.bl false)))) dNx)))
  (dRt (cP (cD (.bl true)))))
noncomputable def n_is_closed : Den := dDef 1 3 (d_is_closed)
theorem ok_is_closed {P : Program} {w : World} {K : PySem.W.Frag} {mg : Mg} {base : Heap} (B : Bn K mg w aL)   {f : Addr} {fd : FuncData} (F : Fun K "is_closed" "is_closed" s_is_closed f fd) (gf : mg "is_closed" = some (.ref f)) : Cl P w K mg base 1 "is_closed" ["sets"] (n_is_closed) :=
  cl_of (k := 0) F gf (F.binds fun _ _ _ _ _ _ us hl => match us, hl with | [_], _ => rfl) sc_is_closed (by decide) fun cdv A outer s H E vs hr hn W tk pp => by
    have S := sc_is_closed
    have hn : vs.length = 1 := hn
    exact (ss_cons (s_for pp rfl (i_var (i := 0) hn) (g_name (i := 1) S.nd rfl (by first | exact Or.inl rfl | exact Or.inr rfl) hn) (ss_one (s_for pp rfl (i_var (i := 0) hn) (g_name (i := 2) S.nd rfl (by first | exact Or.inl rfl | exact Or.inr rfl) hn) (ss_one (s_if (t_cmpP (op_notInC (hu65 hr)) op2_inC (p_op op_and op2_and (p_var (i := 1) hn) (p_var (i := 2) hn)) (p_var (i := 0) hn) rfl) (ss_one (s_ret (e_P p_bl))) ss_nil)))))
      (ss_one (s_ret (e_P p_bl))))
abbrev s_closed_families : Stmt := topS 18
theorem sc_closed_families : FnScope ["many", "full", "choices", "one", "found", "choice", "sets"] ["many"] (defScope s_closed_families) := ⟨rfl, rfl, rfl, by decide +kernel, rfl, by decide +kernel, by decide +kernel⟩
noncomputable def d_closed_families : Dn.Env → Out := (dSeq (dDo (cCall 2 n_bound (lCons (oP (cD (.str "flags"))) (lCons (oVar (1 + 0)) lNil))))
  (dSeq (dSet (1 + 1) (cCall 1 n_full_set (lCons (oVar (1 + 0)) lNil)))
  (dSeq (dSet (1 + 2) (cLst (lCons (vE (cTup lNil)) lNil)))
  (dSeq (dFor (iRg rg1 (lCons (vVar (1 + 1)) lNil)) (gN (1 + 3)) (dSet (1 + 2) (cE2 fAdd (oVar (1 + 2)) (oE (cLc ([("choice", 5)].map (·.2) |>.map (1 + ·)) (iVar (1 + 2)) (gN (1 + 5)) qYes (vE (cE2 fAdd (oVar (1 + 5)) (oE (cTup (lCons (vVar (1 + 3)) lNil))))))))))
  (dSeq (dSet (1 + 4) (cLst lNil))
  (dSeq (dFor (iVar (1 + 2)) (gN (1 + 5)) (dSeq (dSet (1 + 6) (cE2 fAdd (oVar (1 + 5)) (oE (cTup (lCons (vVar (1 + 1)) lNil)))))
  (dIf (tO (oE (cCall 1 n_is_closed (lCons (oVar (1 + 6)) lNil)))) (dDo (cMt (1 + 4) wApp (lCons (vVar (1 + 6)) lNil))) dNx)))
  (dRt (cE1 fSortL (oVar (1 + 4))))))))))
noncomputable def n_closed_families : Den := dDef 1 7 (d_closed_families)
theorem ok_closed_families {P : Program} {w : World} {K : PySem.W.Frag} {mg : Mg} {base : Heap} (B : Bn K mg w aL)  (c_bound : Cl P w K mg base 3 "bound" ["what", "number"] n_bound) (c_full_set : Cl P w K mg base 1 "full_set" ["many"] n_full_set) (c_is_closed : Cl P w K mg base 1 "is_closed" ["sets"] n_is_closed) {c0 P0 : Addr} (TB : LamX.TabB base mg c0 P0) (hT : (P0, (("closed_families" : Str) ++ ".<locals>.") ++ "<lambda>") ∈ Tb.T) (hT1 : ∀ p ∈ Tb.T, p.1 = P0 → p.2 = (("closed_families" : Str) ++ ".<locals>.") ++ "<lambda>") {f : Addr} {kV doc pm ct oc : Value} {an od : Option Addr} {osl : Array (Option Value)}
    (lk : K.lookup f = some ⟨oc, od, .func (PySem.W.fnOf "closed_families" "closed_families" (defArgs s_closed_families) (defBody s_closed_families) (defScope s_closed_families) .none kV doc pm an (.ref c0) ct), osl⟩) (cd : PySem.W.codeIn K (.ref c0) "closed_families" = true) (kp : PySem.W.keepIn K (.ref f) = true) (gf : mg "closed_families" = some (.ref f)) : Cl P w K mg base 10 "closed_families" ["many"] n_closed_families :=
  cl_ofL (k := 9) lk cd kp gf (.all fun us hl => match us, hl with | [_], _ => rfl) sc_closed_families (by decide) fun A outer s H E vs hr hn W tk pp => by
    have S := sc_closed_families
    have hn : vs.length = 1 := hn
    exact (ss_cons (s_do (e_cl c_bound hr (by omega) tk (os_cons (o_P p_str) (os_cons (o_var (i := 0) hn) os_nil))))
      (ss_cons (s_set (i := 1) S.nd (e_cl c_full_set hr (by omega) tk (os_cons (o_var (i := 0) hn) os_nil)) rfl (by first | exact Or.inl rfl | exact Or.inr rfl) hn)
      (ss_cons (s_set (i := 2) S.nd (e_lst (vs_cons (v_E (e_tup vs_nil)) vs_nil)) rfl (by first | exact Or.inl rfl | exact Or.inr rfl) hn)
      (ss_cons (s_for pp rfl (i_range1 B.m_range (vs_cons (v_var (i := 1) hn) vs_nil)) (g_name (i := 3) S.nd rfl (by first | exact Or.inl rfl | exact Or.inr rfl) hn) (ss_one (s_set (i := 2) S.nd (e_op op_addA op2_add (o_var (i := 2) hn) (o_E (e_lc (ow := [("choice", 5)]) rfl S.nd (i_var (i := 2) hn) (blkOk_by (by kernel_rfl)) hn (fun _ _ _ _ _ => (gw_name (i := 5) S.nd rfl (by first | exact Or.inl rfl | exact Or.inr rfl) hn)) (fun _ _ _ _ _ => q_nil) (fun _ _ _ _ _ => (v_E (e_op op_addA op2_add (o_var (i := 5) hn) (o_E (e_tup (vs_cons (v_var (i := 3) hn) vs_nil))))))))) rfl (by first | exact Or.inl rfl | exact Or.inr rfl) hn)))
      (ss_cons (s_set (i := 4) S.nd (e_lst vs_nil) rfl (by first | exact Or.inl rfl | exact Or.inr rfl) hn)
      (ss_cons (s_for pp rfl (i_var (i := 2) hn) (g_name (i := 5) S.nd rfl (by first | exact Or.inl rfl | exact Or.inr rfl) hn) (ss_cons (s_set (i := 6) S.nd (e_op op_addA op2_add (o_var (i := 5) hn) (o_E (e_tup (vs_cons (v_var (i := 1) hn) vs_nil)))) rfl (by first | exact Or.inl rfl | exact Or.inr rfl) hn)
      (ss_one (s_if (t_O (o_E (e_cl c_is_closed hr (by omega) tk (os_cons (o_var (i := 6) hn) os_nil)))) (ss_one (s_do (e_mt (i := 4) (n := 1) PySem.F.slot_list_append PySem.F.type_list_append mt_append opW_app (o_var (i := 4) hn) (vs_cons (v_var (i := 6) hn) vs_nil)))) ss_nil))))
      (ss_one (s_ret (e_sortL (c := c0) (P := P0) (o_var (i := 4) hn) (hr.mono (by omega)) TB rfl hT hT1 ⟨rfl, rfl, rfl, rfl, rfl, by decide +kernel, by decide +kernel⟩ B.m_sorted B.m_len rfl rfl (by decide) (fun _ _ _ _ _ _ => rfl))))))))))
abbrev s_size_poly : Stmt := topS 20
theorem sc_size_poly : FnScope ["many", "counts", "sets", "size"] ["many"] (defScope s_size_poly) := ⟨rfl, rfl, rfl, by decide +kernel, rfl, by decide +kernel, by decide +kernel⟩
noncomputable def d_size_poly : Dn.Env → Out := (dSeq (dSet (1 + 1) (fun s => .ok (.d []) s))
  (dSeq (dFor (iV (vE (cCall 1 n_closed_families (lCons (oVar (1 + 0)) lNil)))) (gN (1 + 2)) (dPutK (1 + 1) (vP (cPL fLen (pCons (cVar (1 + 2)) pNil))) (vP (cP2 fAdd (cGet2 (cVar (1 + 1)) (cPL fLen (pCons (cVar (1 + 2)) pNil)) (cD (.int 0))) (cD (.int 1))))))
  (dRt (cLc ([("size", 3)].map (·.2) |>.map (1 + ·)) (iV (vE (cEL fSortDI (lCons (oVar (1 + 1)) lNil)))) (gN (1 + 3)) qYes (vE (cTup (lCons (vVar (1 + 3)) (lCons (vP (cP2 fDGet (cVar (1 + 1)) (cVar (1 + 3)))) lNil))))))))
noncomputable def n_size_poly : Den := dDef 1 4 (d_size_poly)
theorem ok_size_poly {P : Program} {w : World} {K : PySem.W.Frag} {mg : Mg} {base : Heap} (B : Bn K mg w aL)  (c_closed_families : Cl P w K mg base 10 "closed_families" ["many"] n_closed_families) {f : Addr} {fd : FuncData} (F : Fun K "size_poly" "size_poly" s_size_poly f fd) (gf : mg "size_poly" = some (.ref f)) : Cl P w K mg base 11 "size_poly" ["many"] (n_size_poly) :=
  cl_of (k := 10) F gf (F.binds fun _ _ _ _ _ _ us hl => match us, hl with | [_], _ => rfl) sc_size_poly (by decide) fun cdv A outer s H E vs hr hn W tk pp => by
    have S := sc_size_poly
    have hn : vs.length = 1 := hn
    exact (ss_cons (s_set (i := 1) S.nd e_dnew rfl (by first | exact Or.inl rfl | exact Or.inr rfl) hn)
      (ss_cons (s_for pp rfl (i_V (v_E (e_cl c_closed_families hr (by omega) tk (os_cons (o_var (i := 0) hn) os_nil)))) (g_name (i := 2) S.nd rfl (by first | exact Or.inl rfl | exact Or.inr rfl) hn) (ss_one (s_putK (i := 1) (n := 1) (hu1 hr) (o_var (i := 1) hn) (v_P (p_callB call_len opL_len B.m_len bb_len (ps_cons (p_var (i := 2) hn) ps_nil))) (v_P (p_op op_addA op2_add (p_get2 (hu1 hr) (p_var (i := 1) hn) (p_callB call_len opL_len B.m_len bb_len (ps_cons (p_var (i := 2) hn) ps_nil)) p_int ⟨rfl, rfl, rfl, rfl⟩) p_int)))))
      (ss_one (s_ret (e_lc (ow := [("size", 3)]) rfl S.nd (i_V (v_E (e_callB (call_sortedDI rfl) opL_sortDI B.m_sorted bb_sorted (os_cons (o_var (i := 1) hn) os_nil)))) (blkOk_by (by kernel_rfl)) hn (fun _ _ _ _ _ => (gw_name (i := 3) S.nd rfl (by first | exact Or.inl rfl | exact Or.inr rfl) hn)) (fun _ _ _ _ _ => q_nil) (fun _ _ _ _ _ => (v_E (e_tup (vs_cons (v_var (i := 3) hn) (vs_cons (v_P (p_dget (hu1 hr) (p_var (i := 1) hn) (p_var (i := 3) hn))) vs_nil))))))))))
abbrev s_poly_worth : Stmt := topS 21
theorem sc_poly_worth : FnScope ["poly", "x", "total", "size", "count", "power", "at"] ["poly", "x"] (defScope s_poly_worth) := ⟨rfl, rfl, rfl, by decide +kernel, rfl, by decide +kernel, by decide +kernel⟩
noncomputable def d_poly_worth : Dn.Env → Out := (dSeq (dSet (2 + 2) (cP (cD (.int 0))))
  (dSeq (dFor (iVar (2 + 0)) (gT 2 (gConsD (gN (2 + 3)) (gConsD (gN (2 + 4)) gNilD))) (dSeq (dSet (2 + 5) (cP (cD (.int 1))))
  (dSeq (dFor (iRg rg1 (lCons (vVar (2 + 3)) lNil)) (gN (2 + 6)) (dSet (2 + 5) (cP (cP2 fMul (cVar (2 + 5)) (cVar (2 + 1))))))
  (dSet (2 + 2) (cP (cP2 fAdd (cVar (2 + 2)) (cP2 fMul (cVar (2 + 4)) (cVar (2 + 5)))))))))
  (dRt (cMov (2 + 2)))))
noncomputable def n_poly_worth : Den := dDef 2 7 (d_poly_worth)
theorem ok_poly_worth {P : Program} {w : World} {K : PySem.W.Frag} {mg : Mg} {base : Heap} (B : Bn K mg w aL)   {f : Addr} {fd : FuncData} (F : Fun K "poly_worth" "poly_worth" s_poly_worth f fd) (gf : mg "poly_worth" = some (.ref f)) : Cl P w K mg base 1 "poly_worth" ["poly", "x"] (n_poly_worth) :=
  cl_of (k := 0) F gf (F.binds fun _ _ _ _ _ _ us hl => match us, hl with | [_, _], _ => rfl) sc_poly_worth (by decide) fun cdv A outer s H E vs hr hn W tk pp => by
    have S := sc_poly_worth
    have hn : vs.length = 2 := hn
    exact (ss_cons (s_set (i := 2) S.nd (e_P p_int) rfl (by first | exact Or.inl rfl | exact Or.inr rfl) hn)
      (ss_cons (s_for pp rfl (i_var (i := 0) hn) (g_tup rfl (gs_cons (g_name (i := 3) S.nd rfl (by first | exact Or.inl rfl | exact Or.inr rfl) hn) (gs_cons (g_name (i := 4) S.nd rfl (by first | exact Or.inl rfl | exact Or.inr rfl) hn) gs_nil))) (ss_cons (s_set (i := 5) S.nd (e_P p_int) rfl (by first | exact Or.inl rfl | exact Or.inr rfl) hn)
      (ss_cons (s_for pp rfl (i_range1 B.m_range (vs_cons (v_var (i := 3) hn) vs_nil)) (g_name (i := 6) S.nd rfl (by first | exact Or.inl rfl | exact Or.inr rfl) hn) (ss_one (s_set (i := 5) S.nd (e_P (p_op op_mulW op2_mul (p_var (i := 5) hn) (p_var (i := 1) hn))) rfl (by first | exact Or.inl rfl | exact Or.inr rfl) hn)))
      (ss_one (s_set (i := 2) S.nd (e_P (p_op op_addA op2_add (p_var (i := 2) hn) (p_op op_mulW op2_mul (p_var (i := 4) hn) (p_var (i := 5) hn)))) rfl (by first | exact Or.inl rfl | exact Or.inr rfl) hn)))))
      (ss_one (s_ret (e_mov (i := 2) hn)))))
abbrev s_faces_by_layer : Stmt := topS 22
theorem sc_faces_by_layer : FnScope ["sizes", "many", "found", "worth"] ["sizes"] (defScope s_faces_by_layer) := ⟨rfl, rfl, rfl, by decide +kernel, rfl, by decide +kernel, by decide +kernel⟩
noncomputable def d_faces_by_layer : Dn.Env → Out := (dSeq (dDo (cCall 2 n_bound (lCons (oP (cD (.str "layers"))) (lCons (oP (cPL fLen (pCons (cVar (1 + 0)) pNil))) lNil))))
  (dSeq (dFor (iVar (1 + 0)) (gN (1 + 1)) (dDo (cCall 2 n_bound (lCons (oP (cD (.str "flags"))) (lCons (oVar (1 + 1)) lNil)))))
  (dSeq (dSet (1 + 2) (cLst (lCons (vP (cD (.int 1))) lNil)))
  (dSeq (dFor (iRv (vVar (1 + 0))) (gN (1 + 1)) (dSeq (dSet (1 + 3) (cCall 2 n_poly_worth (lCons (oE (cCall 1 n_size_poly (lCons (oVar (1 + 1)) lNil))) (lCons (oP (cP2 fIx (cVar (1 + 2)) (cD (.int 0)))) lNil))))
  (dSeq (dDo (cCall 2 n_bound (lCons (oP (cD (.str "faces"))) (lCons (oVar (1 + 3)) lNil))))
  (dDo (cMt (1 + 2) wIns (lCons (vP (cD (.int 0))) (lCons (vVar (1 + 3)) lNil)))))))
  (dRt (cMov (1 + 2)))))))
noncomputable def n_faces_by_layer : Den := dDef 1 4 (d_faces_by_layer)
theorem ok_faces_by_layer {P : Program} {w : World} {K : PySem.W.Frag} {mg : Mg} {base : Heap} (B : Bn K mg w aL)  (c_bound : Cl P w K mg base 3 "bound" ["what", "number"] n_bound) (c_poly_worth : Cl P w K mg base 1 "poly_worth" ["poly", "x"] n_poly_worth) (c_size_poly : Cl P w K mg base 11 "size_poly" ["many"] n_size_poly) {f : Addr} {fd : FuncData} (F : Fun K "faces_by_layer" "faces_by_layer" s_faces_by_layer f fd) (gf : mg "faces_by_layer" = some (.ref f)) : Cl P w K mg base 12 "faces_by_layer" ["sizes"] (n_faces_by_layer) :=
  cl_of (k := 11) F gf (F.binds fun _ _ _ _ _ _ us hl => match us, hl with | [_], _ => rfl) sc_faces_by_layer (by decide) fun cdv A outer s H E vs hr hn W tk pp => by
    have S := sc_faces_by_layer
    have hn : vs.length = 1 := hn
    exact (ss_cons (s_do (e_cl c_bound hr (by omega) tk (os_cons (o_P p_str) (os_cons (o_P (p_callB call_len opL_len B.m_len bb_len (ps_cons (p_var (i := 0) hn) ps_nil))) os_nil))))
      (ss_cons (s_for pp rfl (i_var (i := 0) hn) (g_name (i := 1) S.nd rfl (by first | exact Or.inl rfl | exact Or.inr rfl) hn) (ss_one (s_do (e_cl c_bound hr (by omega) tk (os_cons (o_P p_str) (os_cons (o_var (i := 1) hn) os_nil))))))
      (ss_cons (s_set (i := 2) S.nd (e_lst (vs_cons (v_P p_int) vs_nil)) rfl (by first | exact Or.inl rfl | exact Or.inr rfl) hn)
      (ss_cons (s_for pp rfl (i_rev B.m_reversed (v_var (i := 0) hn)) (g_name (i := 1) S.nd rfl (by first | exact Or.inl rfl | exact Or.inr rfl) hn) (ss_cons (s_set (i := 3) S.nd (e_cl c_poly_worth hr (by omega) tk (os_cons (o_E (e_cl c_size_poly hr (by omega) tk (os_cons (o_var (i := 1) hn) os_nil))) (os_cons (o_P (p_ix ix_seq op2_ix (p_var (i := 2) hn) p_int)) os_nil))) rfl (by first | exact Or.inl rfl | exact Or.inr rfl) hn)
      (ss_cons (s_do (e_cl c_bound hr (by omega) tk (os_cons (o_P p_str) (os_cons (o_var (i := 3) hn) os_nil))))
      (ss_one (s_do (e_mt (i := 2) (n := 1) PySem.F.slot_list_insert PySem.F.type_list_insert mt_insert opW_ins (o_var (i := 2) hn) (vs_cons (v_P p_int) (vs_cons (v_var (i := 3) hn) vs_nil))))))))
      (ss_one (s_ret (e_mov (i := 2) hn)))))))
abbrev s_faces_of : Stmt := topS 23
theorem sc_faces_of : FnScope ["sizes"] ["sizes"] (defScope s_faces_of) := ⟨rfl, rfl, rfl, by decide +kernel, rfl, by decide +kernel, by decide +kernel⟩
noncomputable def d_faces_of : Dn.Env → Out := (dRt (cE2 fIx (oE (cCall 1 n_faces_by_layer (lCons (oE (cEL fList (lCons (oVar (1 + 0)) lNil))) lNil))) (oP (cD (.int 0)))))
noncomputable def n_faces_of : Den := dDef 1 1 (d_faces_of)
theorem ok_faces_of {P : Program} {w : World} {K : PySem.W.Frag} {mg : Mg} {base : Heap} (B : Bn K mg w aL)  (c_faces_by_layer : Cl P w K mg base 12 "faces_by_layer" ["sizes"] n_faces_by_layer) {f : Addr} {fd : FuncData} (F : Fun K "faces_of" "faces_of" s_faces_of f fd) (gf : mg "faces_of" = some (.ref f)) : Cl P w K mg base 13 "faces_of" ["sizes"] (n_faces_of) :=
  cl_of (k := 12) F gf (F.binds fun _ _ _ _ _ _ us hl => match us, hl with | [_], _ => rfl) sc_faces_of (by decide) fun cdv A outer s H E vs hr hn W tk pp => by
    have S := sc_faces_of
    have hn : vs.length = 1 := hn
    exact (ss_one (s_ret (e_ix ix_seq op2_ix (o_E (e_cl c_faces_by_layer hr (by omega) tk (os_cons (o_E (e_callTy call_list_of opL_list B.m_list bb_list (os_cons (o_var (i := 0) hn) os_nil))) os_nil))) (o_P p_int))))
abbrev s_law_source : Stmt := topS 25
theorem sc_law_source : FnScope ["script", "at", "limit", "cells", "state", "cell", "great"] ["script", "at"] (defScope s_law_source) := ⟨rfl, rfl, rfl, by decide +kernel, rfl, by decide +kernel, by decide +kernel⟩
noncomputable def d_law_source : Dn.Env → Out := (dSeq (dSet (2 + 2) (cP (cP2 fMul (cP2 fMul (cP2 fMul (cP2 fMul (cP2 fMul (cP2 fPow (cD (.int 10)) (cD (.int 64))) (cP2 fPow (cD (.int 10)) (cD (.int 64)))) (cP2 fPow (cD (.int 10)) (cD (.int 64)))) (cP2 fPow (cD (.int 10)) (cD (.int 64)))) (cP2 fPow (cD (.int 10)) (cD (.int 64)))) (cP2 fPow (cD (.int 10)) (cD (.int 64))))))
  (dSeq (dSet (2 + 3) (cLc ([("cell", 5)].map (·.2) |>.map (2 + ·)) (iV (vE (cSl fCut (oVar (2 + 0)) none (some (oP (cD (.int 63))))))) (gN (2 + 5)) qYes (vP (cP2 fMod (cPL fInt (pCons (cVar (2 + 5)) pNil)) (cVar (2 + 2))))))
  (dSeq (dSet (2 + 4) (cP (cP2 fAdd (cD (.int 7919)) (cP2 fMul (cVar (2 + 1)) (cD (.int 104729))))))
  (dSeq (dFor (iVar (2 + 3)) (gN (2 + 5)) (dSet (2 + 4) (cP (cP2 fMod (cP2 fAdd (cP2 fAdd (cP2 fMul (cVar (2 + 4)) (cD (.int 48271))) (cP2 fMod (cVar (2 + 5)) (cD (.int 1000000007)))) (cD (.int 17))) (cD (.int 2147483647))))))
  (dSeq (dSet (2 + 6) (cIf (tBp (cP2 fGt (cPL fLen (pCons (cVar (2 + 3)) pNil)) (cD (.int 0)))) (cP (cP2 fIx (cVar (2 + 3)) (cP2 fMod (cVar (2 + 1)) (cPL fLen (pCons (cVar (2 + 3)) pNil))))) (cP (cD (.int 0)))))
  (dRt (cLst (lCons (vE (cIf (tBp (cP2 fGe (cVar (2 + 6)) (cP2 fPow (cD (.int 10)) (cD (.int 18))))) (cV (vVar (2 + 6))) (cP (cD (.int 0))))) (lCons (vVar (2 + 4)) (lCons (vP (cP2 fMod (cVar (2 + 1)) (cD (.int 1009)))) lNil))))))))))
noncomputable def n_law_source : Den := dDef 2 7 (d_law_source)
theorem ok_law_source {P : Program} {w : World} {K : PySem.W.Frag} {mg : Mg} {base : Heap} (B : Bn K mg w aL)   {f : Addr} {fd : FuncData} (F : Fun K "_law_source" "_law_source" s_law_source f fd) (gf : mg "_law_source" = some (.ref f)) : Cl P w K mg base 1 "_law_source" ["script", "at"] (n_law_source) :=
  cl_of (k := 0) F gf (F.binds fun _ _ _ _ _ _ us hl => match us, hl with | [_, _], _ => rfl) sc_law_source (by decide) fun cdv A outer s H E vs hr hn W tk pp => by
    have S := sc_law_source
    have hn : vs.length = 2 := hn
    exact (ss_cons (s_set (i := 2) S.nd (e_P (p_op op_mulW op2_mul (p_op op_mulW op2_mul (p_op op_mulW op2_mul (p_op op_mulW op2_mul (p_op op_mulW op2_mul (p_op op_pow op2_pow p_int p_int) (p_op op_pow op2_pow p_int p_int)) (p_op op_pow op2_pow p_int p_int)) (p_op op_pow op2_pow p_int p_int)) (p_op op_pow op2_pow p_int p_int)) (p_op op_pow op2_pow p_int p_int))) rfl (by first | exact Or.inl rfl | exact Or.inr rfl) hn)
      (ss_cons (s_setLc (i := 3) (ow := [("cell", 5)]) rfl S.nd (sw_true rfl rfl rfl (by decide +kernel)) (i_V (v_E (e_slice sl_list opS_cut (o_var (i := 0) hn) pt_no (pt_e (o_P p_int))))) (blkOk_by (by kernel_rfl)) hn (fun _ _ _ _ _ => (gw_name (i := 5) S.nd rfl (by first | exact Or.inl rfl | exact Or.inr rfl) hn)) (fun _ _ _ _ _ => q_nil) (fun _ _ _ _ _ => (v_P (p_op op_mod op2_mod (p_callTy call_int1 opL_int B.m_int bb_int (ps_cons (p_var (i := 5) hn) ps_nil)) (p_var (i := 2) hn)))))
      (ss_cons (s_set (i := 4) S.nd (e_P (p_op op_addA op2_add p_int (p_op op_mulW op2_mul (p_var (i := 1) hn) p_int))) rfl (by first | exact Or.inl rfl | exact Or.inr rfl) hn)
      (ss_cons (s_for pp rfl (i_var (i := 3) hn) (g_name (i := 5) S.nd rfl (by first | exact Or.inl rfl | exact Or.inr rfl) hn) (ss_one (s_set (i := 4) S.nd (e_P (p_op op_mod op2_mod (p_op op_addA op2_add (p_op op_addA op2_add (p_op op_mulW op2_mul (p_var (i := 4) hn) p_int) (p_op op_mod op2_mod (p_var (i := 5) hn) p_int)) p_int) p_int)) rfl (by first | exact Or.inl rfl | exact Or.inr rfl) hn)))
      (ss_cons (s_set (i := 6) S.nd (e_if (t_cmpP opB_gt op2B (p_callB call_len opL_len B.m_len bb_len (ps_cons (p_var (i := 3) hn) ps_nil)) p_int (nomark _)) (e_P (p_ix ix_seq op2_ix (p_var (i := 3) hn) (p_op op_mod op2_mod (p_var (i := 1) hn) (p_callB call_len opL_len B.m_len bb_len (ps_cons (p_var (i := 3) hn) ps_nil))))) (e_P p_int)) rfl (by first | exact Or.inl rfl | exact Or.inr rfl) hn)
      (ss_one (s_ret (e_lst (vs_cons (v_E (e_if (t_cmpP opB_ge op2B (p_var (i := 6) hn) (p_op op_pow op2_pow p_int p_int) (nomark _)) (e_V (v_var (i := 6) hn)) (e_P p_int))) (vs_cons (v_var (i := 4) hn) (vs_cons (v_P (p_op op_mod op2_mod (p_var (i := 1) hn) p_int)) vs_nil)))))))))))
abbrev s_law_pick : Stmt := topS 26
theorem sc_law_pick : FnScope ["source", "many", "found", "state"] ["source", "many"] (defScope s_law_pick) := ⟨rfl, rfl, rfl, by decide +kernel, rfl, by decide +kernel, by decide +kernel⟩
noncomputable def d_law_pick : Dn.Env → Out := (dSeq (dIf (tBp (cP2 fGt (cP2 fIx (cVar (2 + 0)) (cD (.int 0))) (cD (.int 0)))) (dSeq (dSet (2 + 2) (cP (cP2 fMod (cP2 fIx (cVar (2 + 0)) (cD (.int 0))) (cVar (2 + 1)))))
  (dSeq (dPutL (2 + 0) (vP (cD (.int 0))) (vP (cP2 fDiv (cP2 fIx (cVar (2 + 0)) (cD (.int 0))) (cVar (2 + 1)))))
  (dRt (cMov (2 + 2))))) dNx)
  (dSeq (dPutL (2 + 0) (vP (cD (.int 2))) (vP (cP2 fAdd (cP2 fIx (cVar (2 + 0)) (cD (.int 2))) (cD (.int 1)))))
  (dSeq (dSet (2 + 3) (cP (cP2 fMod (cP2 fAdd (cP2 fAdd (cP2 fMul (cP2 fIx (cVar (2 + 0)) (cD (.int 1))) (cD (.int 48271))) (cP2 fMul (cP2 fIx (cVar (2 + 0)) (cD (.int 2))) (cD (.int 69621)))) (cD (.int 11))) (cD (.int 2147483647)))))
  (dSeq (dSet (2 + 3) (cP (cP2 fMod (cP2 fAdd (cP2 fAdd (cP2 fMul (cVar (2 + 3)) (cD (.int 16807))) (cP2 fMul (cP2 fIx (cVar (2 + 0)) (cD (.int 2))) (cD (.int 40692)))) (cD (.int 7))) (cD (.int 2147483399)))))
  (dSeq (dPutL (2 + 0) (vP (cD (.int 1))) (vVar (2 + 3)))
  (dRt (cP (cP2 fMod (cP2 fDiv (cVar (2 + 3)) (cD (.int 7))) (cVar (2 + 1))))))))))
noncomputable def n_law_pick : Den := dDef 2 4 (d_law_pick)
theorem ok_law_pick {P : Program} {w : World} {K : PySem.W.Frag} {mg : Mg} {base : Heap} (B : Bn K mg w aL)   {f : Addr} {fd : FuncData} (F : Fun K "_law_pick" "_law_pick" s_law_pick f fd) (gf : mg "_law_pick" = some (.ref f)) : Cl P w K mg base 1 "_law_pick" ["source", "many"] (n_law_pick) :=
  cl_of (k := 0) F gf (F.binds fun _ _ _ _ _ _ us hl => match us, hl with | [_, _], _ => rfl) sc_law_pick (by decide) fun cdv A outer s H E vs hr hn W tk pp => by
    have S := sc_law_pick
    have hn : vs.length = 2 := hn
    exact (ss_cons (s_if (t_cmpP opB_gt op2B (p_ix ix_seq op2_ix (p_var (i := 0) hn) p_int) p_int (nomark _)) (ss_cons (s_set (i := 2) S.nd (e_P (p_op op_mod op2_mod (p_ix ix_seq op2_ix (p_var (i := 0) hn) p_int) (p_var (i := 1) hn))) rfl (by first | exact Or.inl rfl | exact Or.inr rfl) hn)
      (ss_cons (s_putL (i := 0) (n := 2) (o_var (i := 0) hn) (v_P p_int) (v_P (p_op op_fdivW op2_div (p_ix ix_seq op2_ix (p_var (i := 0) hn) p_int) (p_var (i := 1) hn))))
      (ss_one (s_ret (e_mov (i := 2) hn))))) ss_nil)
      (ss_cons (s_putL (i := 0) (n := 2) (o_var (i := 0) hn) (v_P p_int) (v_P (p_op op_addA op2_add (p_ix ix_seq op2_ix (p_var (i := 0) hn) p_int) p_int)))
      (ss_cons (s_set (i := 3) S.nd (e_P (p_op op_mod op2_mod (p_op op_addA op2_add (p_op op_addA op2_add (p_op op_mulW op2_mul (p_ix ix_seq op2_ix (p_var (i := 0) hn) p_int) p_int) (p_op op_mulW op2_mul (p_ix ix_seq op2_ix (p_var (i := 0) hn) p_int) p_int)) p_int) p_int)) rfl (by first | exact Or.inl rfl | exact Or.inr rfl) hn)
      (ss_cons (s_set (i := 3) S.nd (e_P (p_op op_mod op2_mod (p_op op_addA op2_add (p_op op_addA op2_add (p_op op_mulW op2_mul (p_var (i := 3) hn) p_int) (p_op op_mulW op2_mul (p_ix ix_seq op2_ix (p_var (i := 0) hn) p_int) p_int)) p_int) p_int)) rfl (by first | exact Or.inl rfl | exact Or.inr rfl) hn)
      (ss_cons (s_putL (i := 0) (n := 2) (o_var (i := 0) hn) (v_P p_int) (v_var (i := 3) hn))
      (ss_one (s_ret (e_P (p_op op_mod op2_mod (p_op op_fdivW op2_div (p_var (i := 3) hn) p_int) (p_var (i := 1) hn))))))))))
abbrev s_law_number : Stmt := topS 27
theorem sc_law_number : FnScope ["source", "limit", "found", "turn"] ["source", "limit"] (defScope s_law_number) := ⟨rfl, rfl, rfl, by decide +kernel, rfl, by decide +kernel, by decide +kernel⟩
noncomputable def d_law_number : Dn.Env → Out := (dSeq (dIf (tB2 (cE2 fEq (oE (cCall 2 n_law_pick (lCons (oVar (2 + 0)) (lCons (oP (cD (.int 3))) lNil)))) (oP (cD (.int 0))))) (dRt (cCall 2 n_law_pick (lCons (oVar (2 + 0)) (lCons (oP (cPL fMin (pCons (cVar (2 + 1)) (pCons (cD (.int 5)) pNil)))) lNil)))) dNx)
  (dSeq (dSet (2 + 2) (cP (cD (.int 0))))
  (dSeq (dFor (iRg rg1 (lCons (vP (cD (.int 6))) lNil)) (gN (2 + 3)) (dSet (2 + 2) (cE2 fAdd (oP (cP2 fMul (cVar (2 + 2)) (cD (.int 1000003)))) (oE (cCall 2 n_law_pick (lCons (oVar (2 + 0)) (lCons (oP (cD (.int 1000003))) lNil)))))))
  (dRt (cP (cP2 fMod (cVar (2 + 2)) (cVar (2 + 1))))))))
noncomputable def n_law_number : Den := dDef 2 4 (d_law_number)
theorem ok_law_number {P : Program} {w : World} {K : PySem.W.Frag} {mg : Mg} {base : Heap} (B : Bn K mg w aL)  (c_law_pick : Cl P w K mg base 1 "_law_pick" ["source", "many"] n_law_pick) {f : Addr} {fd : FuncData} (F : Fun K "_law_number" "_law_number" s_law_number f fd) (gf : mg "_law_number" = some (.ref f)) : Cl P w K mg base 2 "_law_number" ["source", "limit"] (n_law_number) :=
  cl_of (k := 1) F gf (F.binds fun _ _ _ _ _ _ us hl => match us, hl with | [_, _], _ => rfl) sc_law_number (by decide) fun cdv A outer s H E vs hr hn W tk pp => by
    have S := sc_law_number
    have hn : vs.length = 2 := hn
    exact (ss_cons (s_if (t_cmp (op_eqD (hu64 hr)) op2_eq (o_E (e_cl c_law_pick hr (by omega) tk (os_cons (o_var (i := 0) hn) (os_cons (o_P p_int) os_nil)))) (o_P p_int) (nomark _)) (ss_one (s_ret (e_cl c_law_pick hr (by omega) tk (os_cons (o_var (i := 0) hn) (os_cons (o_P (p_callB (call_min2 rfl) opL_min B.m_min bb_min (ps_cons (p_var (i := 1) hn) (ps_cons p_int ps_nil)))) os_nil))))) ss_nil)
      (ss_cons (s_set (i := 2) S.nd (e_P p_int) rfl (by first | exact Or.inl rfl | exact Or.inr rfl) hn)
      (ss_cons (s_for pp rfl (i_range1 B.m_range (vs_cons (v_P p_int) vs_nil)) (g_name (i := 3) S.nd rfl (by first | exact Or.inl rfl | exact Or.inr rfl) hn) (ss_one (s_set (i := 2) S.nd (e_op op_addA op2_add (o_P (p_op op_mulW op2_mul (p_var (i := 2) hn) p_int)) (o_E (e_cl c_law_pick hr (by omega) tk (os_cons (o_var (i := 0) hn) (os_cons (o_P p_int) os_nil))))) rfl (by first | exact Or.inl rfl | exact Or.inr rfl) hn)))
      (ss_one (s_ret (e_P (p_op op_mod op2_mod (p_var (i := 2) hn) (p_var (i := 1) hn))))))))
abbrev s_law_same : Stmt := topS 28
theorem sc_law_same : FnScope ["answer", "due", "key", "one", "other"] ["answer", "due"] (defScope s_law_same) := ⟨rfl, rfl, rfl, by decide +kernel, rfl, by decide +kernel, by decide +kernel⟩
noncomputable def d_law_same (me : Den) : Dn.Env → Out := (dSeq (dIf (tBp (cP2 (fIsN false) (cVar (2 + 1)) (cD .non))) (dRt (cP (cP2 (fIsN false) (cVar (2 + 0)) (cD .non)))) dNx)
  (dSeq (dIf (tPt (cPL fIsi (pCons (cVar (2 + 1)) (pCons (cD (.ty "bool")) pNil)))) (dRt (cAndV (cP (cPL fIsi (pCons (cVar (2 + 0)) (pCons (cD (.ty "bool")) pNil)))) (cP (cP2 fEq (cVar (2 + 0)) (cVar (2 + 1)))))) dNx)
  (dSeq (dIf (tPt (cPL fIsi (pCons (cVar (2 + 1)) (pCons (cD (.ty "int")) pNil)))) (dRt (cAndV (cP (cPL fIsi (pCons (cVar (2 + 0)) (pCons (cD (.ty "int")) pNil)))) (cAndV (cNotV (cP (cPL fIsi (pCons (cVar (2 + 0)) (pCons (cD (.ty "bool")) pNil))))) (cP (cP2 fEq (cVar (2 + 0)) (cVar (2 + 1))))))) dNx)
  (dSeq (dIf (tPt (cPL fIsi (pCons (cVar (2 + 1)) (pCons (cD (.ty "str")) pNil)))) (dRt (cAndV (cP (cPL fIsi (pCons (cVar (2 + 0)) (pCons (cD (.ty "str")) pNil)))) (cP (cP2 fEq (cVar (2 + 0)) (cVar (2 + 1)))))) dNx)
  (dSeq (dIf (tPt (cPL fIsi (pCons (cVar (2 + 1)) (pCons (cD (.ty "dict")) pNil)))) (dSeq dBad
  (dSeq dBad
  (dRt (cP (cD (.bl true)))))) dNx)
  (dSeq (dIf (tPt (cPL fIsi (pCons (cVar (2 + 1)) (pCons (cD (.ty "tuple")) pNil)))) (dIf (tN (tPt (cPL fIsi (pCons (cVar (2 + 0)) (pCons (cD (.ty "tuple")) pNil))))) (dRt (cP (cD (.bl false)))) dNx) (dIf (tN (tPt (cPL fIsi (pCons (cVar (2 + 0)) (pCons (cD (.ty "list")) pNil))))) (dRt (cP (cD (.bl false)))) dNx))
  (dSeq (dIf (tBp (cP2 fNe (cPL fLen (pCons (cVar (2 + 0)) pNil)) (cPL fLen (pCons (cVar (2 + 1)) pNil)))) (dRt (cP (cD (.bl false)))) dNx)
  (dSeq (dFor (iZip 2 (lCons (oVar (2 + 0)) (lCons (oVar (2 + 1)) lNil))) (gT 2 (gConsD (gN (2 + 3)) (gConsD (gN (2 + 4)) gNilD))) (dIf (tN (tO (oE (cCall 2 me (lCons (oVar (2 + 3)) (lCons (oVar (2 + 4)) lNil)))))) (dRt (cP (cD (.bl false)))) dNx))
  (dRt (cP (cD (.bl true))))))))))))
noncomputable def n_law_same : Nat → Den
  | 0 => fun _ => .bad
  | k + 1 => dDef 2 5 (d_law_same (n_law_same k))
theorem ok_law_same {P : Program} {w : World} {K : PySem.W.Frag} {mg : Mg} {base : Heap} (B : Bn K mg w aL)   {f : Addr} {fd : FuncData} (F : Fun K "_law_same" "_law_same" s_law_same f fd) (gf : mg "_law_same" = some (.ref f)) : ∀ j, Cl P w K mg base (0 + j) "_law_same" ["answer", "due"] (n_law_same j)
  | 0 => cl_no F gf (F.binds fun _ _ _ _ _ _ us hl => match us, hl with | [_, _], _ => rfl)
  | j + 1 => cl_of F gf (F.binds fun _ _ _ _ _ _ us hl => match us, hl with | [_, _], _ => rfl) sc_law_same (by decide) fun cdv A outer s H E vs hr hn W tk pp => by
    have S := sc_law_same
    have C := ok_law_same (P := P) (base := base) B F gf j
    have hn : vs.length = 2 := hn
    exact (ss_cons (s_if (t_cmpP op_isN op2_isN (p_var (i := 1) hn) p_non (nomark _)) (ss_one (s_ret (e_P (p_cmp op_isN op2_isN (p_var (i := 0) hn) p_non (nomark _))))) ss_nil)
      (ss_cons (s_if (t_P (p_callB call_isi opL_isi B.m_isinstance bb_isinstance (ps_cons (p_var (i := 1) hn) (ps_cons (p_bltn B.m_bool bb_bool) ps_nil)))) (ss_one (s_ret (e_and (e_P (p_callB call_isi opL_isi B.m_isinstance bb_isinstance (ps_cons (p_var (i := 0) hn) (ps_cons (p_bltn B.m_bool bb_bool) ps_nil)))) (e_one (e_P (p_cmp (op_eqD (hu64 hr)) op2_eq (p_var (i := 0) hn) (p_var (i := 1) hn) (nomark _))))))) ss_nil)
      (ss_cons (s_if (t_P (p_callB call_isi opL_isi B.m_isinstance bb_isinstance (ps_cons (p_var (i := 1) hn) (ps_cons (p_bltn B.m_int bb_int) ps_nil)))) (ss_one (s_ret (e_and (e_P (p_callB call_isi opL_isi B.m_isinstance bb_isinstance (ps_cons (p_var (i := 0) hn) (ps_cons (p_bltn B.m_int bb_int) ps_nil)))) (e_and (e_not (e_P (p_callB call_isi opL_isi B.m_isinstance bb_isinstance (ps_cons (p_var (i := 0) hn) (ps_cons (p_bltn B.m_bool bb_bool) ps_nil))))) (e_one (e_P (p_cmp (op_eqD (hu64 hr)) op2_eq (p_var (i := 0) hn) (p_var (i := 1) hn) (nomark _)))))))) ss_nil)
      (ss_cons (s_if (t_P (p_callB call_isi opL_isi B.m_isinstance bb_isinstance (ps_cons (p_var (i := 1) hn) (ps_cons (p_bltn B.m_str bb_str) ps_nil)))) (ss_one (s_ret (e_and (e_P (p_callB call_isi opL_isi B.m_isinstance bb_isinstance (ps_cons (p_var (i := 0) hn) (ps_cons (p_bltn B.m_str bb_str) ps_nil)))) (e_one (e_P (p_cmp (op_eqD (hu64 hr)) op2_eq (p_var (i := 0) hn) (p_var (i := 1) hn) (nomark _))))))) ss_nil)
      (ss_cons (s_if (t_P (p_callB call_isi opL_isi B.m_isinstance bb_isinstance (ps_cons (p_var (i := 1) hn) (ps_cons (p_bltn B.m_dict bb_dict) ps_nil)))) (ss_cons s_bad
      (ss_cons s_bad
      (ss_one (s_ret (e_P p_bl))))) ss_nil)
      (ss_cons (s_if (t_P (p_callB call_isi opL_isi B.m_isinstance bb_isinstance (ps_cons (p_var (i := 1) hn) (ps_cons (p_bltn B.m_tuple bb_tuple) ps_nil)))) (ss_one (s_if (t_not (t_P (p_callB call_isi opL_isi B.m_isinstance bb_isinstance (ps_cons (p_var (i := 0) hn) (ps_cons (p_bltn B.m_tuple bb_tuple) ps_nil))))) (ss_one (s_ret (e_P p_bl))) ss_nil)) (ss_one (s_if (t_not (t_P (p_callB call_isi opL_isi B.m_isinstance bb_isinstance (ps_cons (p_var (i := 0) hn) (ps_cons (p_bltn B.m_list bb_list) ps_nil))))) (ss_one (s_ret (e_P p_bl))) ss_nil)))
      (ss_cons (s_if (t_cmpP (op_neD (hu64 hr)) op2_ne (p_callB call_len opL_len B.m_len bb_len (ps_cons (p_var (i := 0) hn) ps_nil)) (p_callB call_len opL_len B.m_len bb_len (ps_cons (p_var (i := 1) hn) ps_nil)) (nomark _)) (ss_one (s_ret (e_P p_bl))) ss_nil)
      (ss_cons (s_for pp rfl (i_zip hn B.m_zip (os_cons (o_var (i := 0) hn) (os_cons (o_var (i := 1) hn) os_nil))) (g_tup rfl (gs_cons (g_name (i := 3) S.nd rfl (by first | exact Or.inl rfl | exact Or.inr rfl) hn) (gs_cons (g_name (i := 4) S.nd rfl (by first | exact Or.inl rfl | exact Or.inr rfl) hn) gs_nil))) (ss_one (s_if (t_not (t_O (o_E (e_cl C hr (Nat.le_refl _) tk (os_cons (o_var (i := 3) hn) (os_cons (o_var (i := 4) hn) os_nil)))))) (ss_one (s_ret (e_P p_bl))) ss_nil)))
      (ss_one (s_ret (e_P p_bl)))))))))))
abbrev s_law_g_times : Stmt := topS 30
theorem sc_law_g_times : FnScope ["one", "many", "found", "at"] ["one", "many"] (defScope s_law_g_times) := ⟨rfl, rfl, rfl, by decide +kernel, rfl, by decide +kernel, by decide +kernel⟩
noncomputable def d_law_g_times : Dn.Env → Out := (dSeq (dSet (2 + 2) (cP (cD (.int 1))))
  (dSeq (dFor (iRg rg1 (lCons (vVar (2 + 1)) lNil)) (gN (2 + 3)) (dSet (2 + 2) (cP (cP2 fMul (cVar (2 + 2)) (cVar (2 + 0))))))
  (dRt (cMov (2 + 2)))))
noncomputable def n_law_g_times : Den := dDef 2 4 (d_law_g_times)
theorem ok_law_g_times {P : Program} {w : World} {K : PySem.W.Frag} {mg : Mg} {base : Heap} (B : Bn K mg w aL)   {f : Addr} {fd : FuncData} (F : Fun K "_law_g_times" "_law_g_times" s_law_g_times f fd) (gf : mg "_law_g_times" = some (.ref f)) : Cl P w K mg base 1 "_law_g_times" ["one", "many"] (n_law_g_times) :=
  cl_of (k := 0) F gf (F.binds fun _ _ _ _ _ _ us hl => match us, hl with | [_, _], _ => rfl) sc_law_g_times (by decide) fun cdv A outer s H E vs hr hn W tk pp => by
    have S := sc_law_g_times
    have hn : vs.length = 2 := hn
    exact (ss_cons (s_set (i := 2) S.nd (e_P p_int) rfl (by first | exact Or.inl rfl | exact Or.inr rfl) hn)
      (ss_cons (s_for pp rfl (i_range1 B.m_range (vs_cons (v_var (i := 1) hn) vs_nil)) (g_name (i := 3) S.nd rfl (by first | exact Or.inl rfl | exact Or.inr rfl) hn) (ss_one (s_set (i := 2) S.nd (e_P (p_op op_mulW op2_mul (p_var (i := 2) hn) (p_var (i := 0) hn))) rfl (by first | exact Or.inl rfl | exact Or.inr rfl) hn)))
      (ss_one (s_ret (e_mov (i := 2) hn)))))
abbrev s_law_g_poly : Stmt := topS 31
theorem sc_law_g_poly : FnScope ["many", "table"] ["many"] (defScope s_law_g_poly) := ⟨rfl, rfl, rfl, by decide +kernel, rfl, by decide +kernel, by decide +kernel⟩
noncomputable def d_law_g_poly : Dn.Env → Out := (dSeq (dSet (1 + 1) (cLst (lCons (vE (cLst (lCons (vE (cTup (lCons (vP (cD (.int 1))) (lCons (vP (cD (.int 1))) lNil)))) lNil))) (lCons (vE (cLst (lCons (vE (cTup (lCons (vP (cD (.int 1))) (lCons (vP (cD (.int 1))) lNil)))) (lCons (vE (cTup (lCons (vP (cD (.int 2))) (lCons (vP (cD (.int 1))) lNil)))) lNil)))) (lCons (vE (cLst (lCons (vE (cTup (lCons (vP (cD (.int 1))) (lCons (vP (cD (.int 1))) lNil)))) (lCons (vE (cTup (lCons (vP (cD (.int 2))) (lCons (vP (cD (.int 3))) lNil)))) (lCons (vE (cTup (lCons (vP (cD (.int 3))) (lCons (vP (cD (.int 2))) lNil)))) (lCons (vE (cTup (lCons (vP (cD (.int 4))) (lCons (vP (cD (.int 1))) lNil)))) lNil)))))) lNil)))))
  (dSeq (dDo (cMt (1 + 1) wApp (lCons (vE (cLst (lCons (vE (cTup (lCons (vP (cD (.int 1))) (lCons (vP (cD (.int 1))) lNil)))) (lCons (vE (cTup (lCons (vP (cD (.int 2))) (lCons (vP (cD (.int 7))) lNil)))) (lCons (vE (cTup (lCons (vP (cD (.int 3))) (lCons (vP (cD (.int 12))) lNil)))) (lCons (vE (cTup (lCons (vP (cD (.int 4))) (lCons (vP (cD (.int 15))) lNil)))) (lCons (vE (cTup (lCons (vP (cD (.int 5))) (lCons (vP (cD (.int 13))) lNil)))) (lCons (vE (cTup (lCons (vP (cD (.int 6))) (lCons (vP (cD (.int 9))) lNil)))) (lCons (vE (cTup (lCons (vP (cD (.int 7))) (lCons (vP (cD (.int 3))) lNil)))) (lCons (vE (cTup (lCons (vP (cD (.int 8))) (lCons (vP (cD (.int 1))) lNil)))) lNil)))))))))) lNil)))
  (dRt (cP (cP2 fIx (cVar (1 + 1)) (cVar (1 + 0)))))))
noncomputable def n_law_g_poly : Den := dDef 1 2 (d_law_g_poly)
theorem ok_law_g_poly {P : Program} {w : World} {K : PySem.W.Frag} {mg : Mg} {base : Heap} (B : Bn K mg w aL)   {f : Addr} {fd : FuncData} (F : Fun K "_law_g_poly" "_law_g_poly" s_law_g_poly f fd) (gf : mg "_law_g_poly" = some (.ref f)) : Cl P w K mg base 1 "_law_g_poly" ["many"] (n_law_g_poly) :=
  cl_of (k := 0) F gf (F.binds fun _ _ _ _ _ _ us hl => match us, hl with | [_], _ => rfl) sc_law_g_poly (by decide) fun cdv A outer s H E vs hr hn W tk pp => by
    have S := sc_law_g_poly
    have hn : vs.length = 1 := hn
    exact (ss_cons (s_set (i := 1) S.nd (e_lst (vs_cons (v_E (e_lst (vs_cons (v_E (e_tup (vs_cons (v_P p_int) (vs_cons (v_P p_int) vs_nil)))) vs_nil))) (vs_cons (v_E (e_lst (vs_cons (v_E (e_tup (vs_cons (v_P p_int) (vs_cons (v_P p_int) vs_nil)))) (vs_cons (v_E (e_tup (vs_cons (v_P p_int) (vs_cons (v_P p_int) vs_nil)))) vs_nil)))) (vs_cons (v_E (e_lst (vs_cons (v_E (e_tup (vs_cons (v_P p_int) (vs_cons (v_P p_int) vs_nil)))) (vs_cons (v_E (e_tup (vs_cons (v_P p_int) (vs_cons (v_P p_int) vs_nil)))) (vs_cons (v_E (e_tup (vs_cons (v_P p_int) (vs_cons (v_P p_int) vs_nil)))) (vs_cons (v_E (e_tup (vs_cons (v_P p_int) (vs_cons (v_P p_int) vs_nil)))) vs_nil)))))) vs_nil)))) rfl (by first | exact Or.inl rfl | exact Or.inr rfl) hn)
      (ss_cons (s_do (e_mt (i := 1) (n := 1) PySem.F.slot_list_append PySem.F.type_list_append mt_append opW_app (o_var (i := 1) hn) (vs_cons (v_E (e_lst (vs_cons (v_E (e_tup (vs_cons (v_P p_int) (vs_cons (v_P p_int) vs_nil)))) (vs_cons (v_E (e_tup (vs_cons (v_P p_int) (vs_cons (v_P p_int) vs_nil)))) (vs_cons (v_E (e_tup (vs_cons (v_P p_int) (vs_cons (v_P p_int) vs_nil)))) (vs_cons (v_E (e_tup (vs_cons (v_P p_int) (vs_cons (v_P p_int) vs_nil)))) (vs_cons (v_E (e_tup (vs_cons (v_P p_int) (vs_cons (v_P p_int) vs_nil)))) (vs_cons (v_E (e_tup (vs_cons (v_P p_int) (vs_cons (v_P p_int) vs_nil)))) (vs_cons (v_E (e_tup (vs_cons (v_P p_int) (vs_cons (v_P p_int) vs_nil)))) (vs_cons (v_E (e_tup (vs_cons (v_P p_int) (vs_cons (v_P p_int) vs_nil)))) vs_nil)))))))))) vs_nil)))
      (ss_one (s_ret (e_P (p_ix ix_seq op2_ix (p_var (i := 1) hn) (p_var (i := 0) hn)))))))
abbrev s_law_g_names : Stmt := topS 32
theorem sc_law_g_names : FnScope ["sizes", "found", "at", "place"] ["sizes"] (defScope s_law_g_names) := ⟨rfl, rfl, rfl, by decide +kernel, rfl, by decide +kernel, by decide +kernel⟩
noncomputable def d_law_g_names : Dn.Env → Out := (dSeq (dSet (1 + 1) (cLst lNil))
  (dSeq (dFor (iRg rg1 (lCons (vP (cPL fLen (pCons (cVar (1 + 0)) pNil))) lNil)) (gN (1 + 2)) (dDo (cMt (1 + 1) wExt (lCons (vE (cLc ([("place", 3)].map (·.2) |>.map (1 + ·)) (iRg rg1 (lCons (vP (cP2 fIx (cVar (1 + 0)) (cVar (1 + 2)))) lNil)) (gN (1 + 3)) qYes (vP (cP2 fAdd (cP2 fAdd (cD (.str "f")) (cPL fStr (pCons (cP2 fAdd (cVar (1 + 2)) (cD (.int 1))) pNil))) (cPL fStr (pCons (cP2 fAdd (cVar (1 + 3)) (cD (.int 1))) pNil)))))) lNil))))
  (dRt (cMov (1 + 1)))))
noncomputable def n_law_g_names : Den := dDef 1 4 (d_law_g_names)
theorem ok_law_g_names {P : Program} {w : World} {K : PySem.W.Frag} {mg : Mg} {base : Heap} (B : Bn K mg w aL)   {f : Addr} {fd : FuncData} (F : Fun K "_law_g_names" "_law_g_names" s_law_g_names f fd) (gf : mg "_law_g_names" = some (.ref f)) : Cl P w K mg base 1 "_law_g_names" ["sizes"] (n_law_g_names) :=
  cl_of (k := 0) F gf (F.binds fun _ _ _ _ _ _ us hl => match us, hl with | [_], _ => rfl) sc_law_g_names (by decide) fun cdv A outer s H E vs hr hn W tk pp => by
    have S := sc_law_g_names
    have hn : vs.length = 1 := hn
    exact (ss_cons (s_set (i := 1) S.nd (e_lst vs_nil) rfl (by first | exact Or.inl rfl | exact Or.inr rfl) hn)
      (ss_cons (s_for pp rfl (i_range1 B.m_range (vs_cons (v_P (p_callB call_len opL_len B.m_len bb_len (ps_cons (p_var (i := 0) hn) ps_nil))) vs_nil)) (g_name (i := 2) S.nd rfl (by first | exact Or.inl rfl | exact Or.inr rfl) hn) (ss_one (s_do (e_mt (i := 1) (n := 1) PySem.F.slot_list_extend PySem.F.type_list_extend mt_extend opW_ext (o_var (i := 1) hn) (vs_cons (v_E (e_lc (ow := [("place", 3)]) rfl S.nd (i_range1 B.m_range (vs_cons (v_P (p_ix ix_seq op2_ix (p_var (i := 0) hn) (p_var (i := 2) hn))) vs_nil)) (blkOk_by (by kernel_rfl)) hn (fun _ _ _ _ _ => (gw_name (i := 3) S.nd rfl (by first | exact Or.inl rfl | exact Or.inr rfl) hn)) (fun _ _ _ _ _ => q_nil) (fun _ _ _ _ _ => (v_P (p_op op_addA op2_add (p_op op_addA op2_add p_str (p_callTy call_str_int opL_str B.m_str bb_str (ps_cons (p_op op_addA op2_add (p_var (i := 2) hn) p_int) ps_nil))) (p_callTy call_str_int opL_str B.m_str bb_str (ps_cons (p_op op_addA op2_add (p_var (i := 3) hn) p_int) ps_nil))))))) vs_nil)))))
      (ss_one (s_ret (e_mov (i := 1) hn)))))
abbrev s_law_g_rows : Stmt := topS 33
theorem sc_law_g_rows : FnScope ["sizes", "name"] ["sizes"] (defScope s_law_g_rows) := ⟨rfl, rfl, rfl, by decide +kernel, rfl, by decide +kernel, by decide +kernel⟩
noncomputable def d_law_g_rows : Dn.Env → Out := (dRt (cLc ([("name", 1)].map (·.2) |>.map (1 + ·)) (iV (vE (cCall 1 n_law_g_names (lCons (oVar (1 + 0)) lNil)))) (gN (1 + 1)) qYes (vE (cTup (lCons (vVar (1 + 1)) (lCons (vE (cTup lNil)) lNil))))))
noncomputable def n_law_g_rows : Den := dDef 1 2 (d_law_g_rows)
theorem ok_law_g_rows {P : Program} {w : World} {K : PySem.W.Frag} {mg : Mg} {base : Heap} (B : Bn K mg w aL)  (c_law_g_names : Cl P w K mg base 1 "_law_g_names" ["sizes"] n_law_g_names) {f : Addr} {fd : FuncData} (F : Fun K "_law_g_rows" "_law_g_rows" s_law_g_rows f fd) (gf : mg "_law_g_rows" = some (.ref f)) : Cl P w K mg base 2 "_law_g_rows" ["sizes"] (n_law_g_rows) :=
  cl_of (k := 1) F gf (F.binds fun _ _ _ _ _ _ us hl => match us, hl with | [_], _ => rfl) sc_law_g_rows (by decide) fun cdv A outer s H E vs hr hn W tk pp => by
    have S := sc_law_g_rows
    have hn : vs.length = 1 := hn
    exact (ss_one (s_ret (e_lc (ow := [("name", 1)]) rfl S.nd (i_V (v_E (e_cl c_law_g_names hr (by omega) tk (os_cons (o_var (i := 0) hn) os_nil)))) (blkOk_by (by kernel_rfl)) hn (fun _ _ _ _ _ => (gw_name (i := 1) S.nd rfl (by first | exact Or.inl rfl | exact Or.inr rfl) hn)) (fun _ _ _ _ _ => q_nil) (fun _ _ _ _ _ => (v_E (e_tup (vs_cons (v_var (i := 1) hn) (vs_cons (v_E (e_tup vs_nil)) vs_nil))))))))
abbrev s_law_g_bits : Stmt := topS 34
theorem sc_law_g_bits : FnScope ["rows", "told", "found", "row"] ["rows", "told"] (defScope s_law_g_bits) := ⟨rfl, rfl, rfl, by decide +kernel, rfl, by decide +kernel, by decide +kernel⟩
noncomputable def d_law_g_bits : Dn.Env → Out := (dSeq (dSet (2 + 2) (cP (cD (.int 0))))
  (dSeq (dFor (iVar (2 + 1)) (gN (2 + 3)) (dSet (2 + 2) (cE2 fOr (oVar (2 + 2)) (oE (cCall 2 n_law_g_times (lCons (oP (cD (.int 2))) (lCons (oE (cBM "list" fIndex (oVar (2 + 0)) (lCons (oVar (2 + 3)) lNil))) lNil)))))))
  (dRt (cMov (2 + 2)))))
noncomputable def n_law_g_bits : Den := dDef 2 4 (d_law_g_bits)
theorem ok_law_g_bits {P : Program} {w : World} {K : PySem.W.Frag} {mg : Mg} {base : Heap} (B : Bn K mg w aL)  (c_law_g_times : Cl P w K mg base 1 "_law_g_times" ["one", "many"] n_law_g_times) {f : Addr} {fd : FuncData} (F : Fun K "_law_g_bits" "_law_g_bits" s_law_g_bits f fd) (gf : mg "_law_g_bits" = some (.ref f)) : Cl P w K mg base 2 "_law_g_bits" ["rows", "told"] (n_law_g_bits) :=
  cl_of (k := 1) F gf (F.binds fun _ _ _ _ _ _ us hl => match us, hl with | [_, _], _ => rfl) sc_law_g_bits (by decide) fun cdv A outer s H E vs hr hn W tk pp => by
    have S := sc_law_g_bits
    have hn : vs.length = 2 := hn
    exact (ss_cons (s_set (i := 2) S.nd (e_P p_int) rfl (by first | exact Or.inl rfl | exact Or.inr rfl) hn)
      (ss_cons (s_for pp rfl (i_var (i := 1) hn) (g_name (i := 3) S.nd rfl (by first | exact Or.inl rfl | exact Or.inr rfl) hn) (ss_one (s_set (i := 2) S.nd (e_op op_or op2_or (o_var (i := 2) hn) (o_E (e_cl c_law_g_times hr (by omega) tk (os_cons (o_P p_int) (os_cons (o_E (e_bm (T := "list") PySem.F.plainAttrs_list PySem.F.slot_list_index PySem.F.type_list_index (mt_indexD (hu65 hr)) opM_index (o_var (i := 0) hn) (os_cons (o_var (i := 3) hn) os_nil))) os_nil))))) rfl (by first | exact Or.inl rfl | exact Or.inr rfl) hn)))
      (ss_one (s_ret (e_mov (i := 2) hn)))))
abbrev s_law_g_family : Stmt := topS 35
theorem sc_law_g_family : FnScope ["rows", "lot", "masks", "found", "state", "stands", "needs", "nots", "head", "rule"] ["rows", "lot"] (defScope s_law_g_family) := ⟨rfl, rfl, rfl, by decide +kernel, rfl, by decide +kernel, by decide +kernel⟩
noncomputable def d_law_g_family : Dn.Env → Out := (dSeq (dSet (2 + 2) (cLc ([("rule", 9)].map (·.2) |>.map (2 + ·)) (iVar (2 + 1)) (gN (2 + 9)) qYes (vE (cTup (lCons (vE (cCall 2 n_law_g_bits (lCons (oVar (2 + 0)) (lCons (oP (cP2 fIx (cVar (2 + 9)) (cD (.int 1)))) lNil)))) (lCons (vE (cCall 2 n_law_g_bits (lCons (oVar (2 + 0)) (lCons (oP (cP2 fIx (cVar (2 + 9)) (cD (.int 2)))) lNil)))) (lCons (vE (cCall 2 n_law_g_bits (lCons (oVar (2 + 0)) (lCons (oE (cLst (lCons (vP (cP2 fIx (cVar (2 + 9)) (cD (.int 0)))) lNil))) lNil)))) lNil)))))))
  (dSeq (dSet (2 + 3) (cLst lNil))
  (dSeq (dFor (iRg rg1 (lCons (vE (cCall 2 n_law_g_times (lCons (oP (cD (.int 2))) (lCons (oP (cPL fLen (pCons (cVar (2 + 0)) pNil))) lNil)))) lNil)) (gN (2 + 4)) (dSeq (dSet (2 + 5) (cP (cD (.bl true))))
  (dSeq (dFor (iVar (2 + 2)) (gT 3 (gConsD (gN (2 + 6)) (gConsD (gN (2 + 7)) (gConsD (gN (2 + 8)) gNilD)))) (dIf (tA (tBp (cP2 fEq (cP2 fAnd (cVar (2 + 4)) (cVar (2 + 6))) (cVar (2 + 6)))) (tA (tBp (cP2 fEq (cP2 fAnd (cVar (2 + 4)) (cVar (2 + 7))) (cD (.int 0)))) (tBp (cP2 fEq (cP2 fAnd (cVar (2 + 4)) (cVar (2 + 8))) (cD (.int 0)))))) (dSeq (dSet (2 + 5) (cP (cD (.bl false))))
  dBk) dNx))
  (dIf (tO (oVar (2 + 5))) (dDo (cMt (2 + 3) wApp (lCons (vVar (2 + 4)) lNil))) dNx))))
  (dRt (cMov (2 + 3))))))
noncomputable def n_law_g_family : Den := dDef 2 10 (d_law_g_family)
theorem ok_law_g_family {P : Program} {w : World} {K : PySem.W.Frag} {mg : Mg} {base : Heap} (B : Bn K mg w aL)  (c_law_g_bits : Cl P w K mg base 2 "_law_g_bits" ["rows", "told"] n_law_g_bits) (c_law_g_times : Cl P w K mg base 1 "_law_g_times" ["one", "many"] n_law_g_times) {f : Addr} {fd : FuncData} (F : Fun K "_law_g_family" "_law_g_family" s_law_g_family f fd) (gf : mg "_law_g_family" = some (.ref f)) : Cl P w K mg base 3 "_law_g_family" ["rows", "lot"] (n_law_g_family) :=
  cl_of (k := 2) F gf (F.binds fun _ _ _ _ _ _ us hl => match us, hl with | [_, _], _ => rfl) sc_law_g_family (by decide) fun cdv A outer s H E vs hr hn W tk pp => by
    have S := sc_law_g_family
    have hn : vs.length = 2 := hn
    exact (ss_cons (s_setLc (i := 2) (ow := [("rule", 9)]) rfl S.nd (sw_true rfl rfl rfl (by decide +kernel)) (i_var (i := 1) hn) (blkOk_by (by kernel_rfl)) hn (fun _ _ _ _ _ => (gw_name (i := 9) S.nd rfl (by first | exact Or.inl rfl | exact Or.inr rfl) hn)) (fun _ _ _ _ _ => q_nil) (fun _ _ _ _ _ => (by refine v_E (e_tup (vs_cons ?z1_0 (vs_cons ?z1_1 (vs_cons ?z1_2 vs_nil)))); (case z1_0 => exact (v_E (by refine e_cl (x := "_law_g_bits") (k := 2) (j := 2) (ps := ["rows", "told"]) (df := n_law_g_bits) ?h1 ?h2 (by decide) takes_F ?h4; (case h1 => exact c_law_g_bits); (case h2 => exact hr); (case h4 => exact (os_cons (o_var (i := 0) hn) (os_cons (o_P (p_ix ix_seq op2_ix (p_var (i := 9) hn) p_int)) os_nil)))))); (case z1_1 => exact (v_E (by refine e_cl (x := "_law_g_bits") (k := 2) (j := 2) (ps := ["rows", "told"]) (df := n_law_g_bits) ?h1 ?h2 (by decide) takes_F ?h4; (case h1 => exact c_law_g_bits); (case h2 => exact hr); (case h4 => exact (os_cons (o_var (i := 0) hn) (os_cons (o_P (p_ix ix_seq op2_ix (p_var (i := 9) hn) p_int)) os_nil)))))); (case z1_2 => exact (v_E (by refine e_cl (x := "_law_g_bits") (k := 2) (j := 2) (ps := ["rows", "told"]) (df := n_law_g_bits) ?h1 ?h2 (by decide) takes_F ?h4; (case h1 => exact c_law_g_bits); (case h2 => exact hr); (case h4 => exact (os_cons (o_var (i := 0) hn) (os_cons (o_E (e_lst (vs_cons (v_P (p_ix ix_seq op2_ix (p_var (i := 9) hn) p_int)) vs_nil))) os_nil)))))))))
      (ss_cons (s_set (i := 3) S.nd (e_lst vs_nil) rfl (by first | exact Or.inl rfl | exact Or.inr rfl) hn)
      (ss_cons (s_for pp rfl (i_range1 B.m_range (vs_cons (v_E (e_cl c_law_g_times hr (by omega) tk (os_cons (o_P p_int) (os_cons (o_P (p_callB call_len opL_len B.m_len bb_len (ps_cons (p_var (i := 0) hn) ps_nil))) os_nil)))) vs_nil)) (g_name (i := 4) S.nd rfl (by first | exact Or.inl rfl | exact Or.inr rfl) hn) (ss_cons (s_set (i := 5) S.nd (e_P p_bl) rfl (by first | exact Or.inl rfl | exact Or.inr rfl) hn)
      (ss_cons (s_for pp rfl (i_var (i := 2) hn) (g_tup rfl (gs_cons (g_name (i := 6) S.nd rfl (by first | exact Or.inl rfl | exact Or.inr rfl) hn) (gs_cons (g_name (i := 7) S.nd rfl (by first | exact Or.inl rfl | exact Or.inr rfl) hn) (gs_cons (g_name (i := 8) S.nd rfl (by first | exact Or.inl rfl | exact Or.inr rfl) hn) gs_nil)))) (ss_one (s_if (t_W (w_and (t_cmpP (op_eqD (hu64 hr)) op2_eq (p_op op_and op2_and (p_var (i := 4) hn) (p_var (i := 6) hn)) (p_var (i := 6) hn) (nomark _)) (w_and (t_cmpP (op_eqD (hu64 hr)) op2_eq (p_op op_and op2_and (p_var (i := 4) hn) (p_var (i := 7) hn)) p_int (nomark _)) (w_and1 (t_cmpP (op_eqD (hu64 hr)) op2_eq (p_op op_and op2_and (p_var (i := 4) hn) (p_var (i := 8) hn)) p_int (nomark _)))))) (ss_cons (s_set (i := 5) S.nd (e_P p_bl) rfl (by first | exact Or.inl rfl | exact Or.inr rfl) hn)
      (ss_one s_break)) ss_nil)))
      (ss_one (s_if (t_O (o_var (i := 5) hn)) (ss_one (s_do (e_mt (i := 3) (n := 2) PySem.F.slot_list_append PySem.F.type_list_append mt_append opW_app (o_var (i := 3) hn) (vs_cons (v_var (i := 4) hn) vs_nil)))) ss_nil)))))
      (ss_one (s_ret (e_mov (i := 3) hn))))))
abbrev s_law_g_due_faces : Stmt := topS 36
theorem sc_law_g_due_faces : FnScope ["sizes", "found", "many", "pair"] ["sizes"] (defScope s_law_g_due_faces) := ⟨rfl, rfl, rfl, by decide +kernel, rfl, by decide +kernel, by decide +kernel⟩
noncomputable def d_law_g_due_faces : Dn.Env → Out := (dSeq (dIf (tBp (cP2 fGt (cPL fLen (pCons (cVar (1 + 0)) pNil)) (cD (.int 6)))) (dRt (cTup (lCons (vP (cD (.str "TooMany"))) (lCons (vP (cD (.str "layers"))) lNil)))) dNx)
  (dSeq (dIf (tB2 (cE2 fGt (oE (cEL fLen (lCons (oE (cLc ([("many", 2)].map (·.2) |>.map (1 + ·)) (iVar (1 + 0)) (gN (1 + 2)) (tBp (cP2 fGt (cVar (1 + 2)) (cD (.int 3)))) (vVar (1 + 2)))) lNil))) (oP (cD (.int 0))))) (dRt (cTup (lCons (vP (cD (.str "TooMany"))) (lCons (vP (cD (.str "flags"))) lNil)))) dNx)
  (dSeq (dSet (1 + 1) (cP (cD (.int 1))))
  (dSeq (dFor (iRv (vE (cEL fList (lCons (oVar (1 + 0)) lNil)))) (gN (1 + 2)) (dSeq (dSet (1 + 1) (cEL fSum (lCons (oE (cLc ([("pair", 3)].map (·.2) |>.map (1 + ·)) (iV (vE (cCall 1 n_law_g_poly (lCons (oVar (1 + 2)) lNil)))) (gN (1 + 3)) qYes (vE (cE2 fMul (oP (cP2 fIx (cVar (1 + 3)) (cD (.int 1)))) (oE (cCall 2 n_law_g_times (lCons (oVar (1 + 1)) (lCons (oP (cP2 fIx (cVar (1 + 3)) (cD (.int 0)))) lNil)))))))) lNil)))
  (dIf (tBp (cP2 fGt (cVar (1 + 1)) (cP2 fPow (cD (.int 10)) (cD (.int 9))))) (dRt (cTup (lCons (vP (cD (.str "TooMany"))) (lCons (vP (cD (.str "faces"))) lNil)))) dNx)))
  (dRt (cTup (lCons (vP (cD (.str "told"))) (lCons (vVar (1 + 1)) lNil))))))))
noncomputable def n_law_g_due_faces : Den := dDef 1 4 (d_law_g_due_faces)
theorem ok_law_g_due_faces {P : Program} {w : World} {K : PySem.W.Frag} {mg : Mg} {base : Heap} (B : Bn K mg w aL)  (c_law_g_poly : Cl P w K mg base 1 "_law_g_poly" ["many"] n_law_g_poly) (c_law_g_times : Cl P w K mg base 1 "_law_g_times" ["one", "many"] n_law_g_times) {f : Addr} {fd : FuncData} (F : Fun K "_law_g_due_faces" "_law_g_due_faces" s_law_g_due_faces f fd) (gf : mg "_law_g_due_faces" = some (.ref f)) : Cl P w K mg base 2 "_law_g_due_faces" ["sizes"] (n_law_g_due_faces) :=
  cl_of (k := 1) F gf (F.binds fun _ _ _ _ _ _ us hl => match us, hl with | [_], _ => rfl) sc_law_g_due_faces (by decide) fun cdv A outer s H E vs hr hn W tk pp => by
    have S := sc_law_g_due_faces
    have hn : vs.length = 1 := hn
    exact (ss_cons (s_if (t_cmpP opB_gt op2B (p_callB call_len opL_len B.m_len bb_len (ps_cons (p_var (i := 0) hn) ps_nil)) p_int (nomark _)) (ss_one (s_ret (e_tup (vs_cons (v_P p_str) (vs_cons (v_P p_str) vs_nil))))) ss_nil)
      (ss_cons (s_if (t_cmp opB_gt op2B (o_E (e_callB call_len opL_len B.m_len bb_len (os_cons (o_E (e_lc (ow := [("many", 2)]) rfl S.nd (i_var (i := 0) hn) (blkOk_by (by kernel_rfl)) hn (fun _ _ _ _ _ => (gw_name (i := 2) S.nd rfl (by first | exact Or.inl rfl | exact Or.inr rfl) hn)) (fun _ _ _ _ _ => (q_one (t_cmpP opB_gt op2B (p_var (i := 2) hn) p_int (nomark _)))) (fun _ _ _ _ _ => (v_var (i := 2) hn)))) os_nil))) (o_P p_int) (nomark _)) (ss_one (s_ret (e_tup (vs_cons (v_P p_str) (vs_cons (v_P p_str) vs_nil))))) ss_nil)
      (ss_cons (s_set (i := 1) S.nd (e_P p_int) rfl (by first | exact Or.inl rfl | exact Or.inr rfl) hn)
      (ss_cons (s_for pp rfl (i_rev B.m_reversed (v_E (e_callTy call_list_of opL_list B.m_list bb_list (os_cons (o_var (i := 0) hn) os_nil)))) (g_name (i := 2) S.nd rfl (by first | exact Or.inl rfl | exact Or.inr rfl) hn) (ss_cons (s_set (i := 1) S.nd (e_callB (cr_sum rfl) opL_sum B.m_sum bb_sum (os_cons (o_E (e_lc (ow := [("pair", 3)]) rfl S.nd (i_V (v_E (e_cl c_law_g_poly hr (by omega) tk (os_cons (o_var (i := 2) hn) os_nil)))) (blkOk_by (by kernel_rfl)) hn (fun _ _ _ _ _ => (gw_name (i := 3) S.nd rfl (by first | exact Or.inl rfl | exact Or.inr rfl) hn)) (fun _ _ _ _ _ => q_nil) (fun _ _ _ _ _ => (v_E (e_op op_mulW op2_mul (o_P (p_ix ix_seq op2_ix (p_var (i := 3) hn) p_int)) (o_E (by refine e_cl (x := "_law_g_times") (k := 1) (j := 1) (ps := ["one", "many"]) (df := n_law_g_times) ?h1 ?h2 (by decide) takes_F ?h4; (case h1 => exact c_law_g_times); (case h2 => exact hr); (case h4 => exact (os_cons (o_var (i := 1) hn) (os_cons (o_P (p_ix ix_seq op2_ix (p_var (i := 3) hn) p_int)) os_nil)))))))))) os_nil)) rfl (by first | exact Or.inl rfl | exact Or.inr rfl) hn)
      (ss_one (s_if (t_cmpP opB_gt op2B (p_var (i := 1) hn) (p_op op_pow op2_pow p_int p_int) (nomark _)) (ss_one (s_ret (e_tup (vs_cons (v_P p_str) (vs_cons (v_P p_str) vs_nil))))) ss_nil))))
      (ss_one (s_ret (e_tup (vs_cons (v_P p_str) (vs_cons (v_var (i := 1) hn) vs_nil)))))))))
abbrev s_law_g_told_faces : Stmt := topS 37
theorem sc_law_g_told_faces : FnScope ["sizes", "told", "error"] ["sizes"] (defScope s_law_g_told_faces) := ⟨rfl, rfl, rfl, by decide +kernel, rfl, by decide +kernel, by decide +kernel⟩
noncomputable def d_law_g_told_faces : Dn.Env → Out := (dSeq (dTry (1 + 2) told (dSet (1 + 1) (cCall 1 n_faces_of (lCons (oVar (1 + 0)) lNil))))
  (dRt (cTup (lCons (vP (cD (.str "told"))) (lCons (vVar (1 + 1)) lNil)))))
noncomputable def n_law_g_told_faces : Den := dDef 1 3 (d_law_g_told_faces)
theorem ok_law_g_told_faces {P : Program} {w : World} {K : PySem.W.Frag} {mg : Mg} {base : Heap} (B : Bn K mg w aL) {fF CS : Addr} {fdF : FuncData} (pF : FnP P w K mg base 1 fF fdF ["error"] (spP K mg told)) (pg : mg "_law_fault" = some (.ref fF)) (pk : PySem.W.keepIn K (.ref fF) = true) (pb : Binds K fdF ["error"] []) (gS : mg "StandError" = some (.ref CS)) (px : ∀ e r C, told e = some r → mg e.c = some (.ref C) → PySem.W.exmOne K (.ref C) (.ref CS) = some true) (c_faces_of : Cl P w K mg base 13 "faces_of" ["sizes"] n_faces_of) {f : Addr} {fd : FuncData} (F : Fun K "_law_g_told_faces" "_law_g_told_faces" s_law_g_told_faces f fd) (gf : mg "_law_g_told_faces" = some (.ref f)) : Cl P w K mg base 14 "_law_g_told_faces" ["sizes"] (n_law_g_told_faces) :=
  cl_of (k := 13) F gf (F.binds fun _ _ _ _ _ _ us hl => match us, hl with | [_], _ => rfl) sc_law_g_told_faces (by decide) fun cdv A outer s H E vs hr hn W tk pp => by
    have S := sc_law_g_told_faces
    have hn : vs.length = 1 := hn
    exact (ss_cons (s_try (i := 2) hn rfl rfl S.nd rfl rfl ⟨rfl, by decide, .inl gS⟩ tk (fun W' pn xe tk' pp => (ss_one (s_set (i := 1) S.nd (e_cl c_faces_of hr (by omega) tk' (os_cons (o_var (i := 0) hn) os_nil)) rfl (by first | exact Or.inl rfl | exact Or.inr rfl) hn))) (fun a oe cls d pn hz hf => ss_tell (i := 2) pF ((L2H.roomH_of hr).mono (by omega)) (by rfl) pg pk pb (by rfl) (by exact Or.inl rfl) (by decide) (by decide) (by decide) a oe cls d pn hz hf (by rfl)) px)
      (ss_one (s_ret (e_tup (vs_cons (v_P p_str) (vs_cons (v_var (i := 1) hn) vs_nil))))))
abbrev s_law_g_subsets : Stmt := topS 38
theorem sc_law_g_subsets : FnScope ["rows", "found", "row", "lot"] ["rows"] (defScope s_law_g_subsets) := ⟨rfl, rfl, rfl, by decide +kernel, rfl, by decide +kernel, by decide +kernel⟩
noncomputable def d_law_g_subsets : Dn.Env → Out := (dSeq (dSet (1 + 1) (cLst (lCons (vE (cTup lNil)) lNil)))
  (dSeq (dFor (iVar (1 + 0)) (gN (1 + 2)) (dSet (1 + 1) (cE2 fAdd (oVar (1 + 1)) (oE (cLc ([("lot", 3)].map (·.2) |>.map (1 + ·)) (iVar (1 + 1)) (gN (1 + 3)) qYes (vE (cE2 fAdd (oVar (1 + 3)) (oE (cTup (lCons (vVar (1 + 2)) lNil))))))))))
  (dRt (cMov (1 + 1)))))
noncomputable def n_law_g_subsets : Den := dDef 1 4 (d_law_g_subsets)
theorem ok_law_g_subsets {P : Program} {w : World} {K : PySem.W.Frag} {mg : Mg} {base : Heap} (B : Bn K mg w aL)   {f : Addr} {fd : FuncData} (F : Fun K "_law_g_subsets" "_law_g_subsets" s_law_g_subsets f fd) (gf : mg "_law_g_subsets" = some (.ref f)) : Cl P w K mg base 1 "_law_g_subsets" ["rows"] (n_law_g_subsets) :=
  cl_of (k := 0) F gf (F.binds fun _ _ _ _ _ _ us hl => match us, hl with | [_], _ => rfl) sc_law_g_subsets (by decide) fun cdv A outer s H E vs hr hn W tk pp => by
    have S := sc_law_g_subsets
    have hn : vs.length = 1 := hn
    exact (ss_cons (s_set (i := 1) S.nd (e_lst (vs_cons (v_E (e_tup vs_nil)) vs_nil)) rfl (by first | exact Or.inl rfl | exact Or.inr rfl) hn)
      (ss_cons (s_for pp rfl (i_var (i := 0) hn) (g_name (i := 2) S.nd rfl (by first | exact Or.inl rfl | exact Or.inr rfl) hn) (ss_one (s_set (i := 1) S.nd (e_op op_addA op2_add (o_var (i := 1) hn) (o_E (e_lc (ow := [("lot", 3)]) rfl S.nd (i_var (i := 1) hn) (blkOk_by (by kernel_rfl)) hn (fun _ _ _ _ _ => (gw_name (i := 3) S.nd rfl (by first | exact Or.inl rfl | exact Or.inr rfl) hn)) (fun _ _ _ _ _ => q_nil) (fun _ _ _ _ _ => (v_E (e_op op_addA op2_add (o_var (i := 3) hn) (o_E (e_tup (vs_cons (v_var (i := 2) hn) vs_nil))))))))) rfl (by first | exact Or.inl rfl | exact Or.inr rfl) hn)))
      (ss_one (s_ret (e_mov (i := 1) hn)))))
abbrev s_law_g_all_rules : Stmt := topS 39
theorem sc_law_g_all_rules : FnScope ["sizes", "names", "at", "found", "head", "layer", "lower", "below", "needs", "nots", "name", "row"] ["sizes"] (defScope s_law_g_all_rules) := ⟨rfl, rfl, rfl, by decide +kernel, rfl, by decide +kernel, by decide +kernel⟩
noncomputable def d_law_g_all_rules : Dn.Env → Out := (dSeq (dSet (1 + 1) (cLst lNil))
  (dSeq (dFor (iRg rg1 (lCons (vP (cPL fLen (pCons (cVar (1 + 0)) pNil))) lNil)) (gN (1 + 2)) (dDo (cMt (1 + 1) wExt (lCons (vE (cLc ([("name", 10)].map (·.2) |>.map (1 + ·)) (iV (vE (cCall 1 n_law_g_names (lCons (oVar (1 + 0)) lNil)))) (gN (1 + 10)) (tBp (cP2 fEq (cP2 fIx (cVar (1 + 10)) (cD (.int 1))) (cPL fStr (pCons (cP2 fAdd (cVar (1 + 2)) (cD (.int 1))) pNil)))) (vE (cTup (lCons (vE (cTup (lCons (vVar (1 + 10)) (lCons (vE (cTup lNil)) lNil)))) (lCons (vVar (1 + 2)) lNil)))))) lNil))))
  (dSeq (dSet (1 + 3) (cLst lNil))
  (dSeq (dFor (iVar (1 + 1)) (gT 2 (gConsD (gN (1 + 4)) (gConsD (gN (1 + 5)) gNilD))) (dSeq (dSet (1 + 6) (cLc ([("row", 11), ("at", 2)].map (·.2) |>.map (1 + ·)) (iVar (1 + 1)) (gT 2 (gConsD (gN (1 + 11)) (gConsD (gN (1 + 2)) gNilD))) (tA (tBp (cP2 fLe (cVar (1 + 2)) (cVar (1 + 5)))) (tBp (cP2 fNe (cVar (1 + 11)) (cVar (1 + 4))))) (vVar (1 + 11))))
  (dSeq (dSet (1 + 7) (cLc ([("row", 11), ("at", 2)].map (·.2) |>.map (1 + ·)) (iVar (1 + 1)) (gT 2 (gConsD (gN (1 + 11)) (gConsD (gN (1 + 2)) gNilD))) (tBp (cP2 fLt (cVar (1 + 2)) (cVar (1 + 5)))) (vVar (1 + 11))))
  (dFor (iV (vE (cCall 1 n_law_g_subsets (lCons (oVar (1 + 6)) lNil)))) (gN (1 + 8)) (dFor (iV (vE (cCall 1 n_law_g_subsets (lCons (oE (cLc ([("row", 11)].map (·.2) |>.map (1 + ·)) (iVar (1 + 7)) (gN (1 + 11)) (tBp (cP2 (fInC true) (cVar (1 + 11)) (cVar (1 + 8)))) (vVar (1 + 11)))) lNil)))) (gN (1 + 9)) (dDo (cMt (1 + 3) wApp (lCons (vE (cTup (lCons (vVar (1 + 4)) (lCons (vVar (1 + 8)) (lCons (vVar (1 + 9)) (lCons (vE (cTup lNil)) lNil)))))) lNil))))))))
  (dRt (cMov (1 + 3)))))))
noncomputable def n_law_g_all_rules : Den := dDef 1 12 (d_law_g_all_rules)
theorem ok_law_g_all_rules {P : Program} {w : World} {K : PySem.W.Frag} {mg : Mg} {base : Heap} (B : Bn K mg w aL)  (c_law_g_names : Cl P w K mg base 1 "_law_g_names" ["sizes"] n_law_g_names) (c_law_g_subsets : Cl P w K mg base 1 "_law_g_subsets" ["rows"] n_law_g_subsets) {f : Addr} {fd : FuncData} (F : Fun K "_law_g_all_rules" "_law_g_all_rules" s_law_g_all_rules f fd) (gf : mg "_law_g_all_rules" = some (.ref f)) : Cl P w K mg base 2 "_law_g_all_rules" ["sizes"] (n_law_g_all_rules) :=
  cl_of (k := 1) F gf (F.binds fun _ _ _ _ _ _ us hl => match us, hl with | [_], _ => rfl) sc_law_g_all_rules (by decide) fun cdv A outer s H E vs hr hn W tk pp => by
    have S := sc_law_g_all_rules
    have hn : vs.length = 1 := hn
    exact (ss_cons (s_set (i := 1) S.nd (e_lst vs_nil) rfl (by first | exact Or.inl rfl | exact Or.inr rfl) hn)
      (ss_cons (s_for pp rfl (i_range1 B.m_range (vs_cons (v_P (p_callB call_len opL_len B.m_len bb_len (ps_cons (p_var (i := 0) hn) ps_nil))) vs_nil)) (g_name (i := 2) S.nd rfl (by first | exact Or.inl rfl | exact Or.inr rfl) hn) (ss_one (s_do (e_mt (i := 1) (n := 1) PySem.F.slot_list_extend PySem.F.type_list_extend mt_extend opW_ext (o_var (i := 1) hn) (vs_cons (v_E (e_lc (ow := [("name", 10)]) rfl S.nd (i_V (v_E (e_cl c_law_g_names hr (by omega) tk (os_cons (o_var (i := 0) hn) os_nil)))) (blkOk_by (by kernel_rfl)) hn (fun _ _ _ _ _ => (gw_name (i := 10) S.nd rfl (by first | exact Or.inl rfl | exact Or.inr rfl) hn)) (fun _ _ _ _ _ => (q_one (t_cmpP (op_eqD (hu64 hr)) op2_eq (p_ix ix_seq op2_ix (p_var (i := 10) hn) p_int) (p_callTy call_str_int opL_str B.m_str bb_str (ps_cons (p_op op_addA op2_add (p_var (i := 2) hn) p_int) ps_nil)) (nomark _)))) (fun _ _ _ _ _ => (v_E (e_tup (vs_cons (v_E (e_tup (vs_cons (v_var (i := 10) hn) (vs_cons (v_E (e_tup vs_nil)) vs_nil)))) (vs_cons (v_var (i := 2) hn) vs_nil))))))) vs_nil)))))
      (ss_cons (s_set (i := 3) S.nd (e_lst vs_nil) rfl (by first | exact Or.inl rfl | exact Or.inr rfl) hn)
      (ss_cons (s_for pp rfl (i_var (i := 1) hn) (g_tup rfl (gs_cons (g_name (i := 4) S.nd rfl (by first | exact Or.inl rfl | exact Or.inr rfl) hn) (gs_cons (g_name (i := 5) S.nd rfl (by first | exact Or.inl rfl | exact Or.inr rfl) hn) gs_nil))) (ss_cons (s_setLc (i := 6) (ow := [("row", 11), ("at", 2)]) rfl S.nd (sw_true rfl rfl rfl (by decide +kernel)) (i_var (i := 1) hn) (blkOk_by (by kernel_rfl)) hn (fun _ _ _ _ _ => (gw_tup rfl (gws_cons (gw_name (i := 11) S.nd rfl (by first | exact Or.inl rfl | exact Or.inr rfl) hn) (gws_cons (gw_name (i := 2) S.nd rfl (by first | exact Or.inl rfl | exact Or.inr rfl) hn) gws_nil)))) (fun _ _ _ _ _ => (q_one (t_W (w_and (t_cmpP opB_le op2B (p_var (i := 2) hn) (p_var (i := 5) hn) (nomark _)) (w_and1 (t_cmpP (op_neD (hu64 hr)) op2_ne (p_var (i := 11) hn) (p_var (i := 4) hn) (nomark _))))))) (fun _ _ _ _ _ => (v_var (i := 11) hn)))
      (ss_cons (s_setLc (i := 7) (ow := [("row", 11), ("at", 2)]) rfl S.nd (sw_true rfl rfl rfl (by decide +kernel)) (i_var (i := 1) hn) (blkOk_by (by kernel_rfl)) hn (fun _ _ _ _ _ => (gw_tup rfl (gws_cons (gw_name (i := 11) S.nd rfl (by first | exact Or.inl rfl | exact Or.inr rfl) hn) (gws_cons (gw_name (i := 2) S.nd rfl (by first | exact Or.inl rfl | exact Or.inr rfl) hn) gws_nil)))) (fun _ _ _ _ _ => (q_one (t_cmpP opB_lt op2B (p_var (i := 2) hn) (p_var (i := 5) hn) (nomark _)))) (fun _ _ _ _ _ => (v_var (i := 11) hn)))
      (ss_one (s_for pp rfl (i_V (v_E (e_cl c_law_g_subsets hr (by omega) tk (os_cons (o_var (i := 6) hn) os_nil)))) (g_name (i := 8) S.nd rfl (by first | exact Or.inl rfl | exact Or.inr rfl) hn) (ss_one (s_for pp rfl (i_V (v_E (e_cl c_law_g_subsets hr (by omega) tk (os_cons (o_E (e_lc (ow := [("row", 11)]) rfl S.nd (i_var (i := 7) hn) (blkOk_by (by kernel_rfl)) hn (fun _ _ _ _ _ => (gw_name (i := 11) S.nd rfl (by first | exact Or.inl rfl | exact Or.inr rfl) hn)) (fun _ _ _ _ _ => (q_one (t_cmpP (op_notInC (hu65 hr)) op2_inC (p_var (i := 11) hn) (p_var (i := 8) hn) rfl))) (fun _ _ _ _ _ => (v_var (i := 11) hn)))) os_nil)))) (g_name (i := 9) S.nd rfl (by first | exact Or.inl rfl | exact Or.inr rfl) hn) (ss_one (s_do (e_mt (i := 3) (n := 1) PySem.F.slot_list_append PySem.F.type_list_append mt_append opW_app (o_var (i := 3) hn) (vs_cons (v_E (e_tup (vs_cons (v_var (i := 4) hn) (vs_cons (v_var (i := 8) hn) (vs_cons (v_var (i := 9) hn) (vs_cons (v_E (e_tup vs_nil)) vs_nil)))))) vs_nil)))))))))))
      (ss_one (s_ret (e_mov (i := 3) hn)))))))
abbrev s_law_g_all_families : Stmt := topS 40
theorem sc_law_g_all_families : FnScope ["sizes", "rows", "found", "rule", "family", "other", "shared", "state"] ["sizes"] (defScope s_law_g_all_families) := ⟨rfl, rfl, rfl, by decide +kernel, rfl, by decide +kernel, by decide +kernel⟩
noncomputable def d_law_g_all_families : Dn.Env → Out := (dSeq (dSet (1 + 1) (cCall 1 n_law_g_rows (lCons (oVar (1 + 0)) lNil)))
  (dSeq (dSet (1 + 2) (cLst (lCons (vE (cEL fTuple (lCons (oE (cCall 2 n_law_g_family (lCons (oVar (1 + 1)) (lCons (oE (cLst lNil)) lNil)))) lNil))) lNil)))
  (dSeq (dFor (iV (vE (cCall 1 n_law_g_all_rules (lCons (oVar (1 + 0)) lNil)))) (gN (1 + 3)) (dSeq (dSet (1 + 4) (cCall 2 n_law_g_family (lCons (oVar (1 + 1)) (lCons (oE (cLst (lCons (vVar (1 + 3)) lNil))) lNil))))
  (dFor (iV (vE (cEL fList (lCons (oVar (1 + 2)) lNil)))) (gN (1 + 5)) (dSeq (dSet (1 + 6) (cEL fTuple (lCons (oE (cLc ([("state", 7)].map (·.2) |>.map (1 + ·)) (iVar (1 + 5)) (gN (1 + 7)) (tBp (cP2 (fInC false) (cVar (1 + 7)) (cVar (1 + 4)))) (vVar (1 + 7)))) lNil)))
  (dIf (tBp (cP2 (fInC true) (cVar (1 + 6)) (cVar (1 + 2)))) (dDo (cMt (1 + 2) wApp (lCons (vVar (1 + 6)) lNil))) dNx)))))
  (dRt (cP (cPL fLen (pCons (cVar (1 + 2)) pNil)))))))
noncomputable def n_law_g_all_families : Den := dDef 1 8 (d_law_g_all_families)
theorem ok_law_g_all_families {P : Program} {w : World} {K : PySem.W.Frag} {mg : Mg} {base : Heap} (B : Bn K mg w aL)  (c_law_g_all_rules : Cl P w K mg base 2 "_law_g_all_rules" ["sizes"] n_law_g_all_rules) (c_law_g_family : Cl P w K mg base 3 "_law_g_family" ["rows", "lot"] n_law_g_family) (c_law_g_rows : Cl P w K mg base 2 "_law_g_rows" ["sizes"] n_law_g_rows) {f : Addr} {fd : FuncData} (F : Fun K "_law_g_all_families" "_law_g_all_families" s_law_g_all_families f fd) (gf : mg "_law_g_all_families" = some (.ref f)) : Cl P w K mg base 4 "_law_g_all_families" ["sizes"] (n_law_g_all_families) :=
  cl_of (k := 3) F gf (F.binds fun _ _ _ _ _ _ us hl => match us, hl with | [_], _ => rfl) sc_law_g_all_families (by decide) fun cdv A outer s H E vs hr hn W tk pp => by
    have S := sc_law_g_all_families
    have hn : vs.length = 1 := hn
    exact (ss_cons (s_set (i := 1) S.nd (e_cl c_law_g_rows hr (by omega) tk (os_cons (o_var (i := 0) hn) os_nil)) rfl (by first | exact Or.inl rfl | exact Or.inr rfl) hn)
      (ss_cons (s_set (i := 2) S.nd (e_lst (vs_cons (v_E (e_callTy call_tuple_of opL_tuple B.m_tuple bb_tuple (os_cons (o_E (e_cl c_law_g_family hr (by omega) tk (os_cons (o_var (i := 1) hn) (os_cons (o_E (e_lst vs_nil)) os_nil)))) os_nil))) vs_nil)) rfl (by first | exact Or.inl rfl | exact Or.inr rfl) hn)
      (ss_cons (s_for pp rfl (i_V (v_E (e_cl c_law_g_all_rules hr (by omega) tk (os_cons (o_var (i := 0) hn) os_nil)))) (g_name (i := 3) S.nd rfl (by first | exact Or.inl rfl | exact Or.inr rfl) hn) (ss_cons (s_set (i := 4) S.nd (e_cl c_law_g_family hr (by omega) tk (os_cons (o_var (i := 1) hn) (os_cons (o_E (e_lst (vs_cons (v_var (i := 3) hn) vs_nil))) os_nil))) rfl (by first | exact Or.inl rfl | exact Or.inr rfl) hn)
      (ss_one (s_for pp rfl (i_V (v_E (e_callTy call_list_of opL_list B.m_list bb_list (os_cons (o_var (i := 2) hn) os_nil)))) (g_name (i := 5) S.nd rfl (by first | exact Or.inl rfl | exact Or.inr rfl) hn) (ss_cons (s_set (i := 6) S.nd (e_callTy call_tuple_of opL_tuple B.m_tuple bb_tuple (os_cons (o_E (e_lc (ow := [("state", 7)]) rfl S.nd (i_var (i := 5) hn) (blkOk_by (by kernel_rfl)) hn (fun _ _ _ _ _ => (gw_name (i := 7) S.nd rfl (by first | exact Or.inl rfl | exact Or.inr rfl) hn)) (fun _ _ _ _ _ => (q_one (t_cmpP (op_inC (hu65 hr)) op2_inC (p_var (i := 7) hn) (p_var (i := 4) hn) rfl))) (fun _ _ _ _ _ => (v_var (i := 7) hn)))) os_nil)) rfl (by first | exact Or.inl rfl | exact Or.inr rfl) hn)
      (ss_one (s_if (t_cmpP (op_notInC (hu65 hr)) op2_inC (p_var (i := 6) hn) (p_var (i := 2) hn) rfl) (ss_one (s_do (e_mt (i := 2) (n := 1) PySem.F.slot_list_append PySem.F.type_list_append mt_append opW_app (o_var (i := 2) hn) (vs_cons (v_var (i := 6) hn) vs_nil)))) ss_nil)))))))
      (ss_one (s_ret (e_P (p_callB call_len opL_len B.m_len bb_len (ps_cons (p_var (i := 2) hn) ps_nil))))))))
abbrev s_law : Stmt := topS 41
theorem sc_law : FnScope ["script", "source", "sizes", "menu", "near", "long", "wide", "asked", "handed", "small", "at"] ["script"] (defScope s_law) := ⟨rfl, rfl, rfl, by decide +kernel, rfl, by decide +kernel, by decide +kernel⟩
noncomputable def d_law : Dn.Env → Out := (dSeq (dSet (1 + 1) (cCall 2 n_law_source (lCons (oVar (1 + 0)) (lCons (oP (cD (.int 0))) lNil))))
  (dSeq (dSet (1 + 2) (cLc ([("at", 10)].map (·.2) |>.map (1 + ·)) (iRg rg1 (lCons (vE (cCall 2 n_law_pick (lCons (oVar (1 + 1)) (lCons (oP (cD (.int 7))) lNil)))) lNil)) (gN (1 + 10)) qYes (vE (cCall 2 n_law_pick (lCons (oVar (1 + 1)) (lCons (oP (cD (.int 4))) lNil))))))
  (dSeq (dSet (1 + 3) (cLst (lCons (vE (cLst (lCons (vP (cD (.int 3))) (lCons (vP (cD (.int 2))) lNil)))) (lCons (vE (cLst (lCons (vP (cD (.int 2))) (lCons (vP (cD (.int 3))) lNil)))) (lCons (vE (cLst (lCons (vP (cD (.int 2))) (lCons (vP (cD (.int 2))) (lCons (vP (cD (.int 1))) lNil))))) (lCons (vE (cLst (lCons (vP (cD (.int 1))) (lCons (vP (cD (.int 1))) (lCons (vP (cD (.int 1))) (lCons (vP (cD (.int 2))) lNil)))))) (lCons (vE (cLst (lCons (vP (cD (.int 1))) (lCons (vP (cD (.int 1))) (lCons (vP (cD (.int 1))) (lCons (vP (cD (.int 1))) (lCons (vP (cD (.int 1))) lNil))))))) (lCons (vE (cLst (lCons (vP (cD (.int 3))) (lCons (vP (cD (.int 1))) (lCons (vP (cD (.int 1))) lNil))))) (lCons (vE (cLst (lCons (vP (cD (.int 1))) (lCons (vP (cD (.int 3))) (lCons (vP (cD (.int 1))) lNil))))) (lCons (vE (cLst (lCons (vP (cD (.int 3))) (lCons (vP (cD (.int 3))) lNil)))) (lCons (vE (cLst (lCons (vP (cD (.int 2))) (lCons (vP (cD (.int 2))) (lCons (vP (cD (.int 2))) lNil))))) (lCons (vE (cLst (lCons (vP (cD (.int 3))) (lCons (vP (cD (.int 2))) (lCons (vP (cD (.int 1))) lNil))))) (lCons (vE (cLst (lCons (vP (cD (.int 1))) (lCons (vP (cD (.int 1))) (lCons (vP (cD (.int 1))) (lCons (vP (cD (.int 1))) (lCons (vP (cD (.int 2))) lNil))))))) (lCons (vE (cLst (lCons (vP (cD (.int 1))) (lCons (vP (cD (.int 1))) (lCons (vP (cD (.int 1))) (lCons (vP (cD (.int 1))) (lCons (vP (cD (.int 1))) (lCons (vP (cD (.int 1))) lNil)))))))) lNil))))))))))))))
  (dSeq (dSet (1 + 4) (cEL fList (lCons (oE (cE2 fIx (oVar (1 + 3)) (oE (cCall 2 n_law_pick (lCons (oVar (1 + 1)) (lCons (oP (cPL fLen (pCons (cVar (1 + 3)) pNil))) lNil)))))) lNil)))
  (dSeq (dIf (tBp (cP2 fLt (cPL fLen (pCons (cVar (1 + 4)) pNil)) (cD (.int 6)))) (dDo (cMt (1 + 4) wIns (lCons (vE (cCall 2 n_law_pick (lCons (oVar (1 + 1)) (lCons (oP (cP2 fAdd (cPL fLen (pCons (cVar (1 + 4)) pNil)) (cD (.int 1)))) lNil)))) (lCons (vP (cD (.int 0))) lNil)))) dNx)
  (dSeq (dSet (1 + 5) (cLc ([("at", 10)].map (·.2) |>.map (1 + ·)) (iRg rg1 (lCons (vE (cE2 fAdd (oP (cD (.int 7))) (oE (cCall 2 n_law_pick (lCons (oVar (1 + 1)) (lCons (oP (cD (.int 4))) lNil)))))) lNil)) (gN (1 + 10)) qYes (vE (cCall 2 n_law_pick (lCons (oVar (1 + 1)) (lCons (oP (cD (.int 6))) lNil))))))
  (dSeq (dSet (1 + 6) (cIf (tBp (cP2 fLt (cPL fLen (pCons (cVar (1 + 2)) pNil)) (cD (.int 6)))) (cEL fList (lCons (oVar (1 + 2)) lNil)) (cSl fCut (oVar (1 + 2)) none (some (oP (cD (.int 5)))))))
  (dSeq (dDo (cMt (1 + 6) wIns (lCons (vE (cCall 2 n_law_pick (lCons (oVar (1 + 1)) (lCons (oP (cP2 fAdd (cPL fLen (pCons (cVar (1 + 6)) pNil)) (cD (.int 1)))) lNil)))) (lCons (vE (cE2 fAdd (oP (cD (.int 4))) (oE (cCall 2 n_law_number (lCons (oVar (1 + 1)) (lCons (oP (cP2 fPow (cD (.int 10)) (cD (.int 30)))) lNil)))))) lNil))))
  (dSeq (dFor (iV (vE (cLst (lCons (vVar (1 + 2)) (lCons (vVar (1 + 4)) (lCons (vE (cLst lNil)) (lCons (vVar (1 + 5)) (lCons (vVar (1 + 6)) (lCons (vVar (1 + 2)) lNil))))))))) (gN (1 + 7)) (dSeq (dSet (1 + 8) (cEL fList (lCons (oVar (1 + 7)) lNil)))
  (dIf (tOr (tN (tO (oE (cCall 2 (n_law_same 2) (lCons (oE (cCall 1 n_law_g_told_faces (lCons (oVar (1 + 8)) lNil))) (lCons (oE (cCall 1 n_law_g_due_faces (lCons (oVar (1 + 7)) lNil))) lNil)))))) (tBp (cP2 fNe (cVar (1 + 8)) (cVar (1 + 7))))) (dRt (cP (cD (.bl false)))) dNx)))
  (dSeq (dSet (1 + 9) (cLst (lCons (vE (cLst (lCons (vP (cD (.int 3))) lNil))) (lCons (vE (cLst (lCons (vP (cD (.int 1))) (lCons (vP (cD (.int 2))) lNil)))) (lCons (vE (cLst (lCons (vP (cD (.int 2))) (lCons (vP (cD (.int 1))) lNil)))) (lCons (vE (cLst (lCons (vP (cD (.int 1))) (lCons (vP (cD (.int 1))) (lCons (vP (cD (.int 1))) lNil))))) (lCons (vE (cLst (lCons (vP (cD (.int 1))) (lCons (vP (cD (.int 1))) lNil)))) (lCons (vE (cLst (lCons (vP (cD (.int 2))) lNil))) (lCons (vE (cLst (lCons (vP (cD (.int 0))) (lCons (vP (cD (.int 1))) lNil)))) (lCons (vE (cLst (lCons (vP (cD (.int 1))) (lCons (vP (cD (.int 0))) (lCons (vP (cD (.int 1))) lNil))))) lNil))))))))))
  (dSeq (dSet (1 + 9) (cE2 fIx (oVar (1 + 9)) (oE (cCall 2 n_law_pick (lCons (oVar (1 + 1)) (lCons (oP (cPL fLen (pCons (cVar (1 + 9)) pNil))) lNil))))))
  (dRt (cCall 2 (n_law_same 2) (lCons (oE (cCall 1 n_faces_of (lCons (oVar (1 + 9)) lNil))) (lCons (oE (cCall 1 n_law_g_all_families (lCons (oVar (1 + 9)) lNil))) lNil)))))))))))))))
noncomputable def n_law : Den := dDef 1 11 (d_law)
theorem ok_law {P : Program} {w : World} {K : PySem.W.Frag} {mg : Mg} {base : Heap} (B : Bn K mg w aL)  (c_law_g_all_families : Cl P w K mg base 4 "_law_g_all_families" ["sizes"] n_law_g_all_families) (c_law_g_due_faces : Cl P w K mg base 2 "_law_g_due_faces" ["sizes"] n_law_g_due_faces) (c_law_g_told_faces : Cl P w K mg base 14 "_law_g_told_faces" ["sizes"] n_law_g_told_faces) (c_law_number : Cl P w K mg base 2 "_law_number" ["source", "limit"] n_law_number) (c_law_pick : Cl P w K mg base 1 "_law_pick" ["source", "many"] n_law_pick) (c_law_same : Cl P w K mg base 2 "_law_same" ["answer", "due"] (n_law_same 2)) (c_law_source : Cl P w K mg base 1 "_law_source" ["script", "at"] n_law_source) (c_faces_of : Cl P w K mg base 13 "faces_of" ["sizes"] n_faces_of) {f : Addr} {fd : FuncData} (F : Fun K "law" "law" s_law f fd) : FnOk P w K mg base (L2.CX P w) 15 f fd ["script"] (spD K mg 1 n_law) :=
  fk_of (k := 14) F sc_law (by decide) fun cdv A outer s H E vs hr hn W tk pp => by
    have S := sc_law
    have hn : vs.length = 1 := hn
    exact (ss_cons (s_set (i := 1) S.nd (e_cl c_law_source hr (by omega) tk (os_cons (o_var (i := 0) hn) (os_cons (o_P p_int) os_nil))) rfl (by first | exact Or.inl rfl | exact Or.inr rfl) hn)
      (ss_cons (s_setLc (i := 2) (ow := [("at", 10)]) rfl S.nd (sw_true rfl rfl rfl (by decide +kernel)) (i_range1 B.m_range (vs_cons (v_E (e_cl c_law_pick hr (by omega) tk (os_cons (o_var (i := 1) hn) (os_cons (o_P p_int) os_nil)))) vs_nil)) (blkOk_by (by kernel_rfl)) hn (fun _ _ _ _ _ => (gw_name (i := 10) S.nd rfl (by first | exact Or.inl rfl | exact Or.inr rfl) hn)) (fun _ _ _ _ _ => q_nil) (fun _ _ _ _ _ => (v_E (by refine e_cl (x := "_law_pick") (k := 1) (j := 14) (ps := ["source", "many"]) (df := n_law_pick) ?h1 ?h2 (by decide) takes_F ?h4; (case h1 => exact c_law_pick); (case h2 => exact hr); (case h4 => exact (os_cons (o_var (i := 1) hn) (os_cons (o_P p_int) os_nil)))))))
      (ss_cons (s_set (i := 3) S.nd (e_lst (vs_cons (v_E (e_lst (vs_cons (v_P p_int) (vs_cons (v_P p_int) vs_nil)))) (vs_cons (v_E (e_lst (vs_cons (v_P p_int) (vs_cons (v_P p_int) vs_nil)))) (vs_cons (v_E (e_lst (vs_cons (v_P p_int) (vs_cons (v_P p_int) (vs_cons (v_P p_int) vs_nil))))) (vs_cons (v_E (e_lst (vs_cons (v_P p_int) (vs_cons (v_P p_int) (vs_cons (v_P p_int) (vs_cons (v_P p_int) vs_nil)))))) (vs_cons (v_E (e_lst (vs_cons (v_P p_int) (vs_cons (v_P p_int) (vs_cons (v_P p_int) (vs_cons (v_P p_int) (vs_cons (v_P p_int) vs_nil))))))) (vs_cons (v_E (e_lst (vs_cons (v_P p_int) (vs_cons (v_P p_int) (vs_cons (v_P p_int) vs_nil))))) (vs_cons (v_E (e_lst (vs_cons (v_P p_int) (vs_cons (v_P p_int) (vs_cons (v_P p_int) vs_nil))))) (vs_cons (v_E (e_lst (vs_cons (v_P p_int) (vs_cons (v_P p_int) vs_nil)))) (vs_cons (v_E (e_lst (vs_cons (v_P p_int) (vs_cons (v_P p_int) (vs_cons (v_P p_int) vs_nil))))) (vs_cons (v_E (e_lst (vs_cons (v_P p_int) (vs_cons (v_P p_int) (vs_cons (v_P p_int) vs_nil))))) (vs_cons (v_E (e_lst (vs_cons (v_P p_int) (vs_cons (v_P p_int) (vs_cons (v_P p_int) (vs_cons (v_P p_int) (vs_cons (v_P p_int) vs_nil))))))) (vs_cons (v_E (e_lst (vs_cons (v_P p_int) (vs_cons (v_P p_int) (vs_cons (v_P p_int) (vs_cons (v_P p_int) (vs_cons (v_P p_int) (vs_cons (v_P p_int) vs_nil)))))))) vs_nil))))))))))))) rfl (by first | exact Or.inl rfl | exact Or.inr rfl) hn)
      (ss_cons (s_set (i := 4) S.nd (e_callTy call_list_of opL_list B.m_list bb_list (os_cons (o_E (e_ix ix_seq op2_ix (o_var (i := 3) hn) (o_E (e_cl c_law_pick hr (by omega) tk (os_cons (o_var (i := 1) hn) (os_cons (o_P (p_callB call_len opL_len B.m_len bb_len (ps_cons (p_var (i := 3) hn) ps_nil))) os_nil)))))) os_nil)) rfl (by first | exact Or.inl rfl | exact Or.inr rfl) hn)
      (ss_cons (s_if (t_cmpP opB_lt op2B (p_callB call_len opL_len B.m_len bb_len (ps_cons (p_var (i := 4) hn) ps_nil)) p_int (nomark _)) (ss_one (s_do (e_mt (i := 4) (n := 1) PySem.F.slot_list_insert PySem.F.type_list_insert mt_insert opW_ins (o_var (i := 4) hn) (vs_cons (v_E (e_cl c_law_pick hr (by omega) tk (os_cons (o_var (i := 1) hn) (os_cons (o_P (p_op op_addA op2_add (p_callB call_len opL_len B.m_len bb_len (ps_cons (p_var (i := 4) hn) ps_nil)) p_int)) os_nil)))) (vs_cons (v_P p_int) vs_nil))))) ss_nil)
      (ss_cons (s_setLc (i := 5) (ow := [("at", 10)]) rfl S.nd (sw_true rfl rfl rfl (by decide +kernel)) (i_range1 B.m_range (vs_cons (v_E (e_op op_addA op2_add (o_P p_int) (o_E (e_cl c_law_pick hr (by omega) tk (os_cons (o_var (i := 1) hn) (os_cons (o_P p_int) os_nil)))))) vs_nil)) (blkOk_by (by kernel_rfl)) hn (fun _ _ _ _ _ => (gw_name (i := 10) S.nd rfl (by first | exact Or.inl rfl | exact Or.inr rfl) hn)) (fun _ _ _ _ _ => q_nil) (fun _ _ _ _ _ => (v_E (by refine e_cl (x := "_law_pick") (k := 1) (j := 14) (ps := ["source", "many"]) (df := n_law_pick) ?h1 ?h2 (by decide) takes_F ?h4; (case h1 => exact c_law_pick); (case h2 => exact hr); (case h4 => exact (os_cons (o_var (i := 1) hn) (os_cons (o_P p_int) os_nil)))))))
      (ss_cons (s_set (i := 6) S.nd (e_if (t_cmpP opB_lt op2B (p_callB call_len opL_len B.m_len bb_len (ps_cons (p_var (i := 2) hn) ps_nil)) p_int (nomark _)) (e_callTy call_list_of opL_list B.m_list bb_list (os_cons (o_var (i := 2) hn) os_nil)) (e_slice sl_list opS_cut (o_var (i := 2) hn) pt_no (pt_e (o_P p_int)))) rfl (by first | exact Or.inl rfl | exact Or.inr rfl) hn)
      (ss_cons (s_do (e_mt (i := 6) (n := 1) PySem.F.slot_list_insert PySem.F.type_list_insert mt_insert opW_ins (o_var (i := 6) hn) (vs_cons (v_E (e_cl c_law_pick hr (by omega) tk (os_cons (o_var (i := 1) hn) (os_cons (o_P (p_op op_addA op2_add (p_callB call_len opL_len B.m_len bb_len (ps_cons (p_var (i := 6) hn) ps_nil)) p_int)) os_nil)))) (vs_cons (v_E (e_op op_addA op2_add (o_P p_int) (o_E (e_cl c_law_number hr (by omega) tk (os_cons (o_var (i := 1) hn) (os_cons (o_P (p_op op_pow op2_pow p_int p_int)) os_nil)))))) vs_nil))))
      (ss_cons (s_for pp rfl (i_V (v_E (e_lst (vs_cons (v_var (i := 2) hn) (vs_cons (v_var (i := 4) hn) (vs_cons (v_E (e_lst vs_nil)) (vs_cons (v_var (i := 5) hn) (vs_cons (v_var (i := 6) hn) (vs_cons (v_var (i := 2) hn) vs_nil))))))))) (g_name (i := 7) S.nd rfl (by first | exact Or.inl rfl | exact Or.inr rfl) hn) (ss_cons (s_set (i := 8) S.nd (e_callTy call_list_of opL_list B.m_list bb_list (os_cons (o_var (i := 7) hn) os_nil)) rfl (by first | exact Or.inl rfl | exact Or.inr rfl) hn)
      (ss_one (s_if (t_W (w_or (t_not (t_O (o_E (e_cl c_law_same hr (by omega) tk (os_cons (o_E (e_cl c_law_g_told_faces hr (by omega) tk (os_cons (o_var (i := 8) hn) os_nil))) (os_cons (o_E (e_cl c_law_g_due_faces hr (by omega) tk (os_cons (o_var (i := 7) hn) os_nil))) os_nil)))))) (w_or1 (t_cmpP (op_neD (hu64 hr)) op2_ne (p_var (i := 8) hn) (p_var (i := 7) hn) (nomark _))))) (ss_one (s_ret (e_P p_bl))) ss_nil))))
      (ss_cons (s_set (i := 9) S.nd (e_lst (vs_cons (v_E (e_lst (vs_cons (v_P p_int) vs_nil))) (vs_cons (v_E (e_lst (vs_cons (v_P p_int) (vs_cons (v_P p_int) vs_nil)))) (vs_cons (v_E (e_lst (vs_cons (v_P p_int) (vs_cons (v_P p_int) vs_nil)))) (vs_cons (v_E (e_lst (vs_cons (v_P p_int) (vs_cons (v_P p_int) (vs_cons (v_P p_int) vs_nil))))) (vs_cons (v_E (e_lst (vs_cons (v_P p_int) (vs_cons (v_P p_int) vs_nil)))) (vs_cons (v_E (e_lst (vs_cons (v_P p_int) vs_nil))) (vs_cons (v_E (e_lst (vs_cons (v_P p_int) (vs_cons (v_P p_int) vs_nil)))) (vs_cons (v_E (e_lst (vs_cons (v_P p_int) (vs_cons (v_P p_int) (vs_cons (v_P p_int) vs_nil))))) vs_nil))))))))) rfl (by first | exact Or.inl rfl | exact Or.inr rfl) hn)
      (ss_cons (s_set (i := 9) S.nd (e_ix ix_seq op2_ix (o_var (i := 9) hn) (o_E (e_cl c_law_pick hr (by omega) tk (os_cons (o_var (i := 1) hn) (os_cons (o_P (p_callB call_len opL_len B.m_len bb_len (ps_cons (p_var (i := 9) hn) ps_nil))) os_nil))))) rfl (by first | exact Or.inl rfl | exact Or.inr rfl) hn)
      (ss_one (s_ret (e_cl c_law_same hr (by omega) tk (os_cons (o_E (e_cl c_faces_of hr (by omega) tk (os_cons (o_var (i := 9) hn) os_nil))) (os_cons (o_E (e_cl c_law_g_all_families hr (by omega) tk (os_cons (o_var (i := 9) hn) os_nil))) os_nil))))))))))))))))

end
end K45
end

section
set_option Elab.async false
set_option linter.all false
set_option maxRecDepth 100000
set_option maxHeartbeats 4000000
/-! K45f: the error that is told; __init__ -/
namespace K45
open PySem PySem.Spec PyProof.Rows L2 Dn
variable [Tb]
abbrev s_law_fault : Stmt := topS 29
def memC (st : Stmt) (i : Nat) : Stmt := match st with
  | .ClassDef _ _ _ body .. => body.getD i (.Pass ⟨0, 0, 0, 0⟩)
  | _ => .Pass ⟨0, 0, 0, 0⟩
abbrev s_TooMany_init : Stmt := memC (topS 2) 0
theorem sc_law_fault : FnScope ["error"] ["error"] (defScope s_law_fault) := ⟨rfl, rfl, rfl, by decide +kernel, rfl, by decide +kernel, by decide +kernel⟩
theorem sc_TooMany_init : FnScope ["self", "what"] ["self", "what"] (defScope s_TooMany_init) := ⟨rfl, rfl, rfl, by decide +kernel, rfl, by decide +kernel, by decide +kernel⟩
theorem ok_TooMany_init {P : Program} {w : World} {K : PySem.W.Frag} {mg : Mg} {base : Heap} {f : Addr} {fd : FuncData} (F : Fun K "__init__" "TooMany.__init__" s_TooMany_init f fd) : FnOk P w K mg base (L2.CX P w) 1 f fd ["self", "what"] (spX1 K "what") :=
  fn_x1 F sc_TooMany_init rfl
def isT (CT : Addr) : Str → Addr → Option Bool := fun c C2 => if c = "TooMany" ∧ C2 = CT then some true else none
def dB (CT : Addr) (a d : Addr) (c : Str) : Dn.Env → Out := dSeq (dIf (tPt (cPL (fIsP a d c (isT CT)) (pCons (cVar (1 + 0)) (pCons (cD (.adr CT)) pNil)))) (dRt (cTup (lCons (vP (cD (.str "TooMany"))) (lCons (vP (cFldP a d "what" (cVar (1 + 0)))) lNil)))) dNx) dBad
theorem ok_fault {P : Program} {w : World} {K : PySem.W.Frag} {mg : Mg} {base : Heap} {CT : Addr} {f : Addr} {fd : FuncData} (mi : mg "isinstance" = none) (gT : mg "TooMany" = some (.ref CT)) (E : ExcC K CT) (G : XfC K CT) (no : PySem.W.findIn K (.ref CT) "what" = some none) (kT : PySem.W.kitOne K (.ref CT) (.ref CT) = some true)
    (F : Fun K "_law_fault" "_law_fault" s_law_fault f fd) : FnP P w K mg base 1 f fd ["error"] (spP K mg told) :=
  fnP_den2 (dB := dB CT) F sc_law_fault (by decide) (fun b d e r ht => by
    obtain ⟨c, fs⟩ := e
    unfold told at ht
    by_cases hc : c = "TooMany"
    · subst hc
      simp only [if_true] at ht
      cases hl : fs.lookup (Str.ofString "what") with
      | none => rw [hl] at ht; cases ht
      | some x =>
        rw [hl] at ht
        cases ht
        exact ⟨_, by simp [dB, dSeq, dIf, tPt, cPL, pCons, pNil, cVar, cD, look, entry, slotsOf, slotOf, fIsP, isT, scOf, tru, dRt, cTup, lCons, lNil, vP, cFldP, hl, fitsL]; rfl⟩
    · simp only [if_neg hc] at ht; cases ht)
    fun cdv A outer s H E0 p c C d T m1 hc => by
      obtain ⟨e, r, he, rfl⟩ := hc
      have ec : e.c = "TooMany" := by
        unfold told at he
        by_cases hc : e.c = "TooMany"
        · exact hc
        · simp only [if_neg hc] at he; cases he
      have m1' : mg "TooMany" = some (.ref C) := ec ▸ m1
      rw [gT] at m1'
      cases m1'
      have S := sc_law_fault
      exact ss_cons (s_if (t_P (p_callB (call_isP T E) (opL_isP (c := e.c) (T := isT CT) fun C2 b h => by
          unfold isT at h
          by_cases q : e.c = "TooMany" ∧ C2 = CT
          · rw [if_pos q] at h
            cases h
            rw [q.2]; exact kT
          · rw [if_neg q] at h; cases h) mi bb_isinstance (ps_cons (p_var (i := 0) rfl) (ps_cons (p_glob (d := .adr CT) gT (v := .ref CT) rfl (fun _ => rfl)) ps_nil))))
        (ss_one (s_ret (e_tup (vs_cons (v_P p_str) (vs_cons (v_P (p_fldP T G no (p_var (i := 0) rfl))) vs_nil))))) ss_nil) ss_bad
end K45
end

section
set_option Elab.async false
set_option linter.all false
set_option maxRecDepth 1000000
set_option maxHeartbeats 0
/-! M45a: the eight small lists of sizes, by the kernel -/
namespace K45
open PySem PySem.Spec PyProof.Rows L2 Dn
variable [Tb]
def szf (l : List Int) : M := .f (.lst (l.map D.int))
theorem fa1 : n_law_g_all_families [szf [3]] = .ok (.f (.int 61)) [szf [3]] := by kernel_rfl
theorem fa2 : n_law_g_all_families [szf [1, 2]] = .ok (.f (.int 56)) [szf [1, 2]] := by kernel_rfl
theorem fa3 : n_law_g_all_families [szf [2, 1]] = .ok (.f (.int 46)) [szf [2, 1]] := by kernel_rfl
theorem fa4 : n_law_g_all_families [szf [1, 1, 1]] = .ok (.f (.int 42)) [szf [1, 1, 1]] := by kernel_rfl
theorem fa5 : n_law_g_all_families [szf [1, 1]] = .ok (.f (.int 6)) [szf [1, 1]] := by kernel_rfl
theorem fa6 : n_law_g_all_families [szf [2]] = .ok (.f (.int 7)) [szf [2]] := by kernel_rfl
theorem fa7 : n_law_g_all_families [szf [0, 1]] = .ok (.f (.int 2)) [szf [0, 1]] := by kernel_rfl
theorem fa8 : n_law_g_all_families [szf [1, 0, 1]] = .ok (.f (.int 6)) [szf [1, 0, 1]] := by kernel_rfl
theorem ff1 : n_faces_of [szf [3]] = .ok (.f (.int 61)) [szf [3]] := by kernel_rfl
theorem ff2 : n_faces_of [szf [1, 2]] = .ok (.f (.int 56)) [szf [1, 2]] := by kernel_rfl
theorem ff3 : n_faces_of [szf [2, 1]] = .ok (.f (.int 46)) [szf [2, 1]] := by kernel_rfl
theorem ff4 : n_faces_of [szf [1, 1, 1]] = .ok (.f (.int 42)) [szf [1, 1, 1]] := by kernel_rfl
theorem ff5 : n_faces_of [szf [1, 1]] = .ok (.f (.int 6)) [szf [1, 1]] := by kernel_rfl
theorem ff6 : n_faces_of [szf [2]] = .ok (.f (.int 7)) [szf [2]] := by kernel_rfl
theorem ff7 : n_faces_of [szf [0, 1]] = .ok (.f (.int 2)) [szf [0, 1]] := by kernel_rfl
theorem ff8 : n_faces_of [szf [1, 0, 1]] = .ok (.f (.int 6)) [szf [1, 0, 1]] := by kernel_rfl
end K45
end

section
set_option Elab.async false
set_option linter.all false
set_option maxRecDepth 1000000
set_option maxHeartbeats 4000000
/-! M45c: the source's numbers -/
namespace K45
open PySem PySem.Spec PyProof.Rows L2 Dn
variable [Tb]
def src (a st k : Int) : M := .l [.int a, .int st, .int k]
theorem mulOk_of {i j : Int} {n : Nat} (h0 : 0 ≤ i) (h : i < 2 ^ n) (hn : n + j.natAbs.log2 < 1000000) : mulOk i j = true := by
  refine decide_eq_true ?_
  have h1 : i.natAbs < 2 ^ n := by
    have : ((i.natAbs : Nat) : Int) < ((2 ^ n : Nat) : Int) := by
      rw [Int.natAbs_of_nonneg h0]
      simpa using h
    exact Int.ofNat_lt.mp this
  have h2 : i.natAbs.log2 ≤ n := by
    by_cases z : i.natAbs = 0
    · rw [z]; exact Nat.zero_le _
    · exact Nat.le_of_lt ((Nat.log2_lt z).mpr h1)
  omega
theorem pick_hi {a st k m : Int} (ha : 0 < a) (hm : 0 < m) (hd : divOk a m = true) : n_law_pick [src a st k, .f (.int m)] = .ok (.f (.int (a % m))) [src (a / m) st k, .f (.int m)] := by
  simp [n_law_pick, dDef, d_law_pick, dSeq, dIf, tBp, cP2, cVar, cD, look, root, entry, slotsOf, slotOf, fins, src, fGt, gGt, f2B, fIx, atI, ixN, asS, scOf, dSet, cP, vP, fMod, fDiv, f2I, dPutL, dRt, cMov, dNx, ha, hm, hd, List.replicate]
theorem pick_lo {st k m : Int} (hm : 0 < m) (hd : divOk 0 7 = true) (h1 : mulOk st 48271 = true) (h2 : mulOk (k + 1) 69621 = true) (h3 : ∀ x, mulOk (x % 2147483647) 16807 = true) (h4 : mulOk (k + 1) 40692 = true) :
    n_law_pick [src 0 st k, .f (.int m)] = .ok (.f (.int (((st * 48271 + (k + 1) * 69621 + 11) % 2147483647 * 16807 + (k + 1) * 40692 + 7) % 2147483399 / 7 % m))) [src 0 (((st * 48271 + (k + 1) * 69621 + 11) % 2147483647 * 16807 + (k + 1) * 40692 + 7) % 2147483399) (k + 1), .f (.int m)] := by
  have d7 : ∀ i : Int, divOk i 7 = true := fun i => by unfold divOk; decide
  simp [n_law_pick, dDef, d_law_pick, dSeq, dIf, tBp, cP2, cVar, vVar, cD, look, root, entry, slotsOf, slotOf, fins, src, fGt, gGt, f2B, fIx, atI, ixN, asS, scOf, dSet, cP, vP, fMod, fDiv, fMul, fAdd, f2I, dPutL, dRt, cMov, dNx, hm, d7, h1, h2, h3, h4, List.replicate]
structure Sg (n : Nat) (a st k : Int) : Prop where
  a0 : 0 ≤ a
  s0 : 0 ≤ st
  s1 : st < 2147483647
  k0 : 0 ≤ k
  k1 : k < 1009 + n
theorem pick_ok {n : Nat} {a st k m : Int} (g : Sg n a st k) (hn : n ≤ 1000000) (hm : 0 < m) (hm2 : m < 2 ^ 100) : ∃ r a' st' k', n_law_pick [src a st k, .f (.int m)] = .ok (.f (.int r)) [src a' st' k', .f (.int m)] ∧ 0 ≤ r ∧ r < m ∧ Sg (n + 1) a' st' k' := by
  obtain ⟨a0, s0, s1, k0, k1⟩ := g
  by_cases ha : 0 < a
  · refine ⟨_, _, _, _, pick_hi ha hm ?_, Int.emod_nonneg _ (by omega), Int.emod_lt_of_pos _ hm, ⟨Int.ediv_nonneg a0 (by omega), s0, s1, k0, by omega⟩⟩
    refine decide_eq_true ⟨hm, ?_⟩
    have h1 : m.natAbs < 2 ^ 100 := by omega
    have : m.natAbs.log2 < 100 := (Nat.log2_lt (by omega)).mpr h1
    omega
  · have ha : a = 0 := by omega
    subst ha
    refine ⟨_, _, _, _, pick_lo hm (by decide) (mulOk_of (n := 31) s0 (by omega) (by decide)) (mulOk_of (n := 31) (by omega) (by omega) (by decide)) (fun x => mulOk_of (n := 31) (Int.emod_nonneg _ (by decide)) (by have := Int.emod_lt_of_pos x (show (0:Int) < 2147483647 by decide); omega) (by decide)) (mulOk_of (n := 31) (by omega) (by omega) (by decide)),
      Int.emod_nonneg _ (by omega), Int.emod_lt_of_pos _ hm, ⟨by omega, Int.emod_nonneg _ (by decide), ?_, by omega, by omega⟩⟩
    have := Int.emod_lt_of_pos ((st * 48271 + (k + 1) * 69621 + 11) % 2147483647 * 16807 + (k + 1) * 40692 + 7) (show (0:Int) < 2147483399 by decide)
    omega
end K45
end

section
set_option Elab.async false
set_option linter.all false
set_option maxRecDepth 1000000
set_option maxHeartbeats 4000000
/-! M45d: numbers, shuffling, the source -/
namespace K45
open PySem PySem.Spec PyProof.Rows L2 Dn
variable [Tb]
theorem fEq_int (i j : Int) : fEqB false (.f (.int i)) (.f (.int j)) = some (.sc (.bl (decide (i = j)))) := by
  have h : ∀ i : Int, SeqAt.shaped (.int i) = true := fun i => by simp [SeqAt.shaped, PyData.canLay0, PyData.depth]
  simp [fEqB, pym, pyo, h, PyData.eqv]
  rfl
noncomputable def nbody : Dn.Env → Out := (dSet (2 + 2) (cE2 fAdd (oP (cP2 fMul (cVar (2 + 2)) (cD (.int 1000003)))) (oE (cCall 2 n_law_pick (lCons (oVar (2 + 0)) (lCons (oP (cD (.int 1000003))) lNil))))))
theorem nbody_ok {a st k a' st' k' f r : Int} {c1 s1 s3 : Option M} (h : n_law_pick [src a st k, .f (.int 1000003)] = .ok (.f (.int r)) [src a' st' k', .f (.int 1000003)]) (hm : mulOk f 1000003 = true) :
    nbody [some (src a st k), c1, some (.p 0), s1, some (.f (.int f)), s3] = .nx [some (src a' st' k'), c1, some (.p 0), s1, some (.f (.int (f * 1000003 + r))), s3] := by
  unfold src at h ⊢
  simp [nbody, dSet, cE2, oP, cP2, cVar, cD, look, root, fMul, f2I, hm, scOf, oE, cCall, lCons, oVar, lNil, argsOf, argOf, apart, h, putBack, rv, fin, fAdd, Rs.m]
theorem nloop {m0 : Nat} : ∀ (items : List D) (n j : Nat) (a st k f : Int) (c1 s1 s3 : Option M), Sg n a st k → n + items.length ≤ 1000 → j + items.length ≤ 6 → 0 ≤ f → f < 2 ^ (20 * j) →
    ∃ a' st' k' f' s3', forL [] (gN (2 + 3)) nbody items [some (src a st k), c1, some (.p 0), s1, some (.f (.int f)), s3] = .nx [some (src a' st' k'), c1, some (.p 0), s1, some (.f (.int f')), s3'] ∧ 0 ≤ f' ∧ Sg (n + items.length) a' st' k'
  | [], n, j, a, st, k, f, c1, s1, s3, g, _, _, h0, _ => ⟨a, st, k, f, s3, rfl, h0, g⟩
  | d :: ds, n, j, a, st, k, f, c1, s1, s3, g, hn, hj, h0, h1 => by
    rw [List.length_cons] at hn hj
    obtain ⟨r, a', st', k', hp, r0, r1, g'⟩ := pick_ok (m := 1000003) g (by omega) (by decide) (by decide)
    have hj6 : 20 * j ≤ 120 := by omega
    have hm : mulOk f 1000003 = true := mulOk_of (n := 20 * j) h0 h1 (by
      have : (1000003 : Int).natAbs.log2 ≤ 20 := by decide
      omega)
    have e : (2 : Int) ^ (20 * (j + 1)) = 2 ^ (20 * j) * 1048576 := by rw [show 20 * (j + 1) = 20 * j + 20 by omega, Int.pow_add]; rfl
    have hb : f * 1000003 + r < 2 ^ (20 * (j + 1)) := by
      rw [e]
      have : f * 1000003 + 1000003 ≤ 2 ^ (20 * j) * 1000003 := by
        have := Int.mul_le_mul_of_nonneg_right (show f + 1 ≤ 2 ^ (20 * j) by omega) (show (0:Int) ≤ 1000003 by decide)
        omega
      have h2 : (0:Int) < 2 ^ (20 * j) := Int.pow_pos (by decide)
      omega
    have f0 : 0 ≤ f * 1000003 + r := by
      have := Int.mul_nonneg h0 (show (0:Int) ≤ 1000003 by decide)
      omega
    obtain ⟨a2, st2, k2, f2, s32, q1, q2, q3⟩ := nloop (m0 := m0) ds (n + 1) (j + 1) a' st' k' (f * 1000003 + r) c1 s1 (some (.f d)) g' (by omega) (by omega) f0 hb
    refine ⟨a2, st2, k2, f2, s32, ?_, q2, by rw [List.length_cons, show n + (ds.length + 1) = n + 1 + ds.length by omega]; exact q3⟩
    have nb := nbody_ok (c1 := c1) (s1 := s1) (s3 := some (.f d)) hp hm
    show lkC [] _ (match gN (2 + 3) d [some (src a st k), c1, some (.p 0), s1, some (.f (.int f)), s3] with
      | none => .bad
      | some s1 => match nbody s1 with
        | .nx s2 => forL [] (gN (2 + 3)) nbody ds s2
        | .ct s2 => forL [] (gN (2 + 3)) nbody ds s2
        | .bk s2 => .nx s2
        | o => o) = _
    have eg : gN (2 + 3) d [some (src a st k), c1, some (.p 0), s1, some (.f (.int f)), s3] = some [some (src a st k), c1, some (.p 0), s1, some (.f (.int f)), some (.f d)] := rfl
    rw [eg]
    simp only [nb]
    exact q1
theorem Sg.mono {n m : Nat} {a st k : Int} (g : Sg n a st k) (h : n ≤ m) : Sg m a st k := ⟨g.a0, g.s0, g.s1, g.k0, by have := g.k1; omega⟩
theorem number_ok {n : Nat} {a st k l : Int} (g : Sg n a st k) (hn : n ≤ 100) (hl : 5 < l) : ∃ r a' st' k', n_law_number [src a st k, .f (.int l)] = .ok (.f (.int r)) [src a' st' k', .f (.int l)] ∧ 0 ≤ r ∧ r < l ∧ Sg (n + 7) a' st' k' := by
  obtain ⟨r, a1, st1, k1, hp, r0, r1, g1⟩ := pick_ok (m := 3) g (by omega) (by decide) (by decide)
  by_cases hr : r = 0
  · subst hr
    obtain ⟨r2, a2, st2, k2, hp2, q0, q1, g2⟩ := pick_ok (m := 5) g1 (by omega) (by decide) (by decide)
    refine ⟨r2, a2, st2, k2, ?_, q0, by omega, g2.mono (by omega)⟩
    unfold src at hp hp2 ⊢
    simp [n_law_number, dDef, d_law_number, dSeq, dIf, dRt, entry, slotsOf, slotOf, fins, List.replicate, tB2, cE2, oP, cP2, cPL, pCons, pNil, fMin, hl, cVar, cD, look, root, scOf, oE, cCall, lCons, oVar, lNil, argsOf, argOf, apart, hp, hp2, putBack, rv, fin, fEq_int, Rs.m]
  · obtain ⟨a2, st2, k2, f2, s3, q1, q2, q3⟩ := nloop (m0 := 0) (rgD 0 1 6) (n + 1) 0 a1 st1 k1 0 (some (.f (.int l))) (some (.f (.int l))) none g1 (by simp [rgD]; omega) (by simp [rgD]) (by omega) (by decide)
    refine ⟨f2 % l, a2, st2, k2, ?_, Int.emod_nonneg _ (by omega), Int.emod_lt_of_pos _ (by omega), q3.mono (by simp [rgD])⟩
    have hl0 : 0 < l := by omega
    unfold src at hp q1 ⊢
    have q1' := q1
    unfold nbody at q1'
    simp only [Nat.reduceAdd] at q1'
    simp [n_law_number, dDef, d_law_number, dSeq, dIf, dRt, dNx, dSet, dFor, iRg, rg1, rngOk, wrapO, vP, cP, entry, slotsOf, slotOf, fins, List.replicate, tB2, cE2, oP, cP2, cVar, cD, look, root, scOf, oE, cCall, lCons, oVar, lNil, argsOf, argOf, apart, hp, putBack, rv, fin, fEq_int, hr, Rs.m, q1', fMod, f2I, hl0]
end K45
end

section
set_option Elab.async false
set_option linter.all false
set_option maxRecDepth 1000000
set_option maxHeartbeats 4000000
/-! M45f: the refusal; the source of the numbers -/
namespace K45
open PySem PySem.Spec PyProof.Rows L2 Dn
variable [Tb]
def tooMany : Exn := ⟨"TooMany", [("what", .str "flags")]⟩
def tooX (x : Str) : Exn := ⟨"TooMany", [("what", .str x)]⟩
theorem bound_hiX {x : Str} {L n : Int} (hx : limT.lookup x = some (.int L)) (h : L < n) : n_bound [.f (.str x), .f (.int n)] = .ex (tooX x) [.f (.str x), .f (.int n)] := by
  simp [n_bound, dDef, d_bound, dIf, tBp, cP2, cP1, fTab1, hx, cVar, look, entry, slotsOf, slotOf, fins, scOf, fGt, gGt, f2B, h, dRaise, lCons, lNil, vVar, frz, tooX]
theorem bound_hi {n : Int} (h : 3 < n) : n_bound [.f (.str "flags"), .f (.int n)] = .ex tooMany [.f (.str "flags"), .f (.int n)] := bound_hiX (by rfl) h
theorem bound_loX {x : Str} {L n : Int} (hx : limT.lookup x = some (.int L)) (h : ¬ L < n) : n_bound [.f (.str x), .f (.int n)] = .ok (.f .non) [.f (.str x), .f (.int n)] := by
  simp [n_bound, dDef, d_bound, dIf, tBp, cP2, cP1, fTab1, hx, cVar, look, entry, slotsOf, slotOf, fins, scOf, fGt, gGt, f2B, h, dRaise, lCons, lNil, vVar, frz, tooX, dNx]
theorem closed_hi {n : Int} (h : 3 < n) : n_closed_families [.f (.int n)] = .ex tooMany [.f (.int n)] := by
  simp [n_closed_families, dDef, d_closed_families, dSeq, dDo, cCall, lCons, lNil, oP, cD, oVar, look, entry, slotsOf, slotOf, fins, List.replicate, argsOf, argOf, apart, bound_hi h, putBack]
theorem poly_hi {n : Int} (h : 3 < n) : n_size_poly [.f (.int n)] = .ex tooMany [.f (.int n)] := by
  simp [n_size_poly, dDef, d_size_poly, dSeq, dSet, dFor, iV, vE, cCall, lCons, lNil, oVar, look, entry, slotsOf, slotOf, fins, List.replicate, argsOf, argOf, apart, closed_hi h, putBack]
theorem lim_ok : ∃ L : Int, 0 < L ∧ ∀ s, cP (cP2 fMul (cP2 fMul (cP2 fMul (cP2 fMul (cP2 fMul (cP2 fPow (cD (.int 10)) (cD (.int 64))) (cP2 fPow (cD (.int 10)) (cD (.int 64)))) (cP2 fPow (cD (.int 10)) (cD (.int 64)))) (cP2 fPow (cD (.int 10)) (cD (.int 64)))) (cP2 fPow (cD (.int 10)) (cD (.int 64)))) (cP2 fPow (cD (.int 10)) (cD (.int 64)))) s = .ok (.f (.int L)) s :=
  ⟨10 ^ 384, by decide +kernel, fun s => by kernel_rfl⟩
noncomputable def cellT : Dn.Env → Re D := (vP (cP2 fMod (cPL fInt (pCons (cVar (2 + 5)) pNil)) (cVar (2 + 2))))
theorem cells_ok {L : Int} (hL : 0 < L) : ∀ (xs acc : List Int) (c0 c1 s0 s1 s3 s4 s6 : Option M), xs.length + acc.length ≤ 1000 → (∀ x ∈ acc, 0 ≤ x) →
    ∃ ys : List Int, lcL [] [7] (gN (2 + 5)) qYes cellT (xs.map D.int) [c0, c1, s0, s1, some (.f (.int L)), s3, s4, none, s6] (acc.map D.int) = .ok (ys.map D.int) [c0, c1, s0, s1, some (.f (.int L)), s3, s4, none, s6] ∧ (∀ y ∈ ys, 0 ≤ y) ∧ ys.length ≤ 1000
  | [], acc, c0, c1, s0, s1, s3, s4, s6, hl, ha => ⟨acc, rfl, ha, by simpa using hl⟩
  | x :: xs, acc, c0, c1, s0, s1, s3, s4, s6, hl, ha => by
    rw [List.length_cons] at hl
    obtain ⟨ys, h1, h2, h3⟩ := cells_ok hL xs (acc ++ [x % L]) c0 c1 s0 s1 s3 s4 s6 (by rw [List.length_append, List.length_singleton]; omega) (fun y hy => by
      rcases List.mem_append.mp hy with h | h
      · exact ha y h
      · rw [List.mem_singleton.mp h]
        exact Int.emod_nonneg _ (by omega))
    refine ⟨ys, ?_, h2, h3⟩
    rw [List.map_append, List.map_cons, List.map_nil] at h1
    rw [List.map_cons]
    have hacc : acc.length < 16777216 := by omega
    have ht : cellT [c0, c1, s0, s1, some (.f (.int L)), s3, s4, some (.f (.int x)), s6] = .ok (.int (x % L)) [c0, c1, s0, s1, some (.f (.int L)), s3, s4, some (.f (.int x)), s6] := by
      simp [cellT, vP, cP2, cPL, pCons, pNil, cVar, look, fInt, scOf, fMod, f2I, hL, frz]
    have hg : gN (2 + 5) (.int x) [c0, c1, s0, s1, some (.f (.int L)), s3, s4, none, s6] = some [c0, c1, s0, s1, some (.f (.int L)), s3, s4, some (.f (.int x)), s6] := rfl
    have hc : clr [7] [c0, c1, s0, s1, some (.f (.int L)), s3, s4, some (.f (.int x)), s6] = [c0, c1, s0, s1, some (.f (.int L)), s3, s4, none, s6] := rfl
    rw [← h1]
    conv => lhs; unfold lcL
    simp [lkC, hg, qYes, ht, hacc, hc]
noncomputable def stT : Dn.Env → Out := (dSet (2 + 4) (cP (cP2 fMod (cP2 fAdd (cP2 fAdd (cP2 fMul (cVar (2 + 4)) (cD (.int 48271))) (cP2 fMod (cVar (2 + 5)) (cD (.int 1000000007)))) (cD (.int 17))) (cD (.int 2147483647)))))
theorem state_ok {ds : List D} : ∀ (ys : List Int) (st : Int) (c0 c1 s0 s1 s2 s3 s5 s6 : Option M), 0 ≤ st → st < 2147483647 → ∃ st' s5', forL [(9, ds)] (gN (2 + 5)) stT (ys.map D.int) [c0, c1, s0, s1, s2, s3, some (.f (.int st)), s5, s6, some (.l ds)] = .nx [c0, c1, s0, s1, s2, s3, some (.f (.int st')), s5', s6, some (.l ds)] ∧ 0 ≤ st' ∧ st' < 2147483647
  | [], st, c0, c1, s0, s1, s2, s3, s5, s6, h0, h1 => ⟨st, s5, by
      show lkC _ _ _ = _
      exact if_pos ⟨rfl, trivial⟩, h0, h1⟩
  | y :: ys, st, c0, c1, s0, s1, s2, s3, s5, s6, h0, h1 => by
    have hm : mulOk st 48271 = true := mulOk_of (n := 31) h0 (by omega) (by decide)
    obtain ⟨st', s5', q, a, b⟩ := state_ok (ds := ds) ys ((st * 48271 + y % 1000000007 + 17) % 2147483647) c0 c1 s0 s1 s2 s3 (some (.f (.int y))) s6 (Int.emod_nonneg _ (by decide)) (Int.emod_lt_of_pos _ (by decide))
    refine ⟨st', s5', ?_, a, b⟩
    have hb : stT [c0, c1, s0, s1, s2, s3, some (.f (.int st)), some (.f (.int y)), s6, some (.l ds)] = .nx [c0, c1, s0, s1, s2, s3, some (.f (.int ((st * 48271 + y % 1000000007 + 17) % 2147483647))), some (.f (.int y)), s6, some (.l ds)] := by
      simp [stT, dSet, cP, cP2, cVar, cD, look, fMod, fMul, fAdd, f2I, hm, scOf]
    show lkC [(9, ds)] _ (match gN (2 + 5) (.int y) [c0, c1, s0, s1, s2, s3, some (.f (.int st)), s5, s6, some (.l ds)] with
      | none => .bad
      | some s1 => match stT s1 with
        | .nx s2 => forL [(9, ds)] (gN (2 + 5)) stT (ys.map D.int) s2
        | .ct s2 => forL [(9, ds)] (gN (2 + 5)) stT (ys.map D.int) s2
        | .bk s2 => .nx s2
        | o => o) = _
    have hg : gN (2 + 5) (.int y) [c0, c1, s0, s1, s2, s3, some (.f (.int st)), s5, s6, some (.l ds)] = some [c0, c1, s0, s1, s2, s3, some (.f (.int st)), some (.f (.int y)), s6, some (.l ds)] := rfl
    rw [hg]
    simp only [hb]
    refine Eq.trans (if_pos ⟨rfl, trivial⟩) q
end K45
end

section
set_option Elab.async false
set_option linter.all false
set_option maxRecDepth 1000000
set_option maxHeartbeats 4000000
/-! M45g: the source -/
namespace K45
open PySem PySem.Spec PyProof.Rows L2 Dn
variable [Tb]
theorem cut_map (ns : List Int) (lo hi : Option Int) : ∃ xs : List Int, Dn.cutD (ns.map D.int) lo hi = xs.map D.int ∧ xs.length ≤ ns.length := by
  refine ⟨(ns.drop (HT.sIx ns.length 0 lo)).take (HT.sIx ns.length ns.length hi - HT.sIx ns.length 0 lo), ?_, ?_⟩
  · unfold Dn.cutD
    rw [List.length_map, List.map_take, List.map_drop]
  · rw [List.length_take, List.length_drop]; omega
theorem source_ok {ns : List Int} (hn : ns.length ≤ 63) : ∃ a st k, n_law_source [.f (.rl (ns.map D.int)), .f (.int 0)] = .ok (src a st k) [.f (.rl (ns.map D.int)), .f (.int 0)] ∧ Sg 0 a st k := by
  obtain ⟨L, hL, hlim⟩ := lim_ok
  obtain ⟨xs, hx, hxl⟩ := cut_map ns none (some 63)
  generalize ns.map D.int = R at hx ⊢
  obtain ⟨ys, h1, h2, h3⟩ := cells_ok hL xs [] (some (.f (.rl R))) (some (.f (.int 0))) (some (.f (.rl R))) (some (.f (.int 0))) none none none (by simp; omega) (by simp)
  obtain ⟨st', s5', q, b0, b1⟩ := state_ok (ds := ys.map D.int) ys 7919 (some (.f (.rl R))) (some (.f (.int 0))) (some (.f (.rl R))) (some (.f (.int 0))) (some (.f (.int L))) (some (.p 9)) none none (by decide) (by decide)
  have e1 : dSet (2 + 3) (cLc ([("cell", 5)].map (·.2) |>.map (2 + ·)) (iV (vE (cSl fCut (oVar (2 + 0)) none (some (oP (cD (.int 63))))))) (gN (2 + 5)) qYes (vP (cP2 fMod (cPL fInt (pCons (cVar (2 + 5)) pNil)) (cVar (2 + 2))))) [some (.f (.rl R)), some (.f (.int 0)), some (.f (.rl R)), some (.f (.int 0)), some (.f (.int L)), none, none, none, none] =
      .nx [some (.f (.rl R)), some (.f (.int 0)), some (.f (.rl R)), some (.f (.int 0)), some (.f (.int L)), some (.l (ys.map D.int)), none, none, none] := by
    unfold cellT at h1
    have hs : iV (vE (cSl fCut (oVar (2 + 0)) none (some (oP (cD (.int 63)))))) [some (.f (.rl R)), some (.f (.int 0)), some (.f (.rl R)), some (.f (.int 0)), some (.f (.int L)), none, none, none, none] = .ok ⟨xs.map D.int, [], id⟩ [some (.f (.rl R)), some (.f (.int 0)), some (.f (.rl R)), some (.f (.int 0)), some (.f (.int L)), none, none, none, none] := by
      simp [iV, vE, cSl, fCut, oVar, look, oP, cD, oPart, rv, asL, hx, fin, Rs.m, frz, itemsOf]
    have hh : hid [7] [some (.f (.rl R)), some (.f (.int 0)), some (.f (.rl R)), some (.f (.int 0)), some (.f (.int L)), none, none, none, none] = true := rfl
    have hc : clr [7] [some (M.f (.rl R)), some (.f (.int 0)), some (.f (.rl R)), some (.f (.int 0)), some (.f (.int L)), none, none, none, none] = [some (.f (.rl R)), some (.f (.int 0)), some (.f (.rl R)), some (.f (.int 0)), some (.f (.int L)), none, none, none, none] := rfl
    have ho : ([("cell", 5)].map (·.2) |>.map (2 + ·)) = [7] := rfl
    unfold dSet cLc
    rw [hs]
    simp only [ho, hh, if_true, hc]
    simp only [List.map_nil] at h1
    rw [h1]
    rfl
  have e2 : dSet (2 + 4) (cP (cP2 fAdd (cD (.int 7919)) (cP2 fMul (cVar (2 + 1)) (cD (.int 104729))))) [some (.f (.rl R)), some (.f (.int 0)), some (.f (.rl R)), some (.f (.int 0)), some (.f (.int L)), some (.l (ys.map D.int)), none, none, none] =
      .nx [some (.f (.rl R)), some (.f (.int 0)), some (.f (.rl R)), some (.f (.int 0)), some (.f (.int L)), some (.l (ys.map D.int)), some (.f (.int 7919)), none, none] := by
    have hm : mulOk 0 104729 = true := by decide
    simp [dSet, cP, cP2, cVar, cD, look, fAdd, fMul, f2I, hm, scOf]
  have e3 : dFor (iVar (2 + 3)) (gN (2 + 5)) (dSet (2 + 4) (cP (cP2 fMod (cP2 fAdd (cP2 fAdd (cP2 fMul (cVar (2 + 4)) (cD (.int 48271))) (cP2 fMod (cVar (2 + 5)) (cD (.int 1000000007)))) (cD (.int 17))) (cD (.int 2147483647))))) [some (.f (.rl R)), some (.f (.int 0)), some (.f (.rl R)), some (.f (.int 0)), some (.f (.int L)), some (.l (ys.map D.int)), some (.f (.int 7919)), none, none] =
      .nx [some (.f (.rl R)), some (.f (.int 0)), some (.f (.rl R)), some (.f (.int 0)), some (.f (.int L)), some (.l (ys.map D.int)), some (.f (.int st')), s5', none] := by
    unfold dFor
    show wrapO (unl 5 9) (forL [(9, ys.map D.int)] (gN (2 + 5)) stT (ys.map D.int) [some (.f (.rl R)), some (.f (.int 0)), some (.f (.rl R)), some (.f (.int 0)), some (.f (.int L)), some (.p 9), some (.f (.int 7919)), none, none, some (.l (ys.map D.int))]) = _
    rw [q]
    rfl
  have e4 : ∃ g : Int, 0 ≤ g ∧ dSet (2 + 6) (cIf (tBp (cP2 fGt (cPL fLen (pCons (cVar (2 + 3)) pNil)) (cD (.int 0)))) (cP (cP2 fIx (cVar (2 + 3)) (cP2 fMod (cVar (2 + 1)) (cPL fLen (pCons (cVar (2 + 3)) pNil))))) (cP (cD (.int 0)))) [some (.f (.rl R)), some (.f (.int 0)), some (.f (.rl R)), some (.f (.int 0)), some (.f (.int L)), some (.l (ys.map D.int)), some (.f (.int st')), s5', none] =
      .nx [some (.f (.rl R)), some (.f (.int 0)), some (.f (.rl R)), some (.f (.int 0)), some (.f (.int L)), some (.l (ys.map D.int)), some (.f (.int st')), s5', some (.f (.int g))] := by
    cases ys with
    | nil =>
      refine ⟨0, by decide, ?_⟩
      simp [dSet, cIf, tBp, cP, cP2, cPL, pCons, pNil, cVar, cD, look, fLen, asS, fGt, gGt, f2B, scOf]
    | cons y ys =>
      refine ⟨y, h2 y (List.mem_cons_self ..), ?_⟩
      have hp : (0 : Int) < (ys.length : Int) + 1 := by omega
      simp [dSet, cIf, tBp, cP, cP2, cPL, pCons, pNil, cVar, cD, look, fLen, asS, fGt, gGt, f2B, scOf, fIx, atI, ixN, fMod, f2I, hp]
  obtain ⟨g, g0, e4⟩ := e4
  refine ⟨if 10 ^ 18 ≤ g then g else 0, st', 0, ?_, ⟨by split <;> omega, b0, b1, by decide, by decide⟩⟩
  have e5 : dRt (cLst (lCons (vE (cIf (tBp (cP2 fGe (cVar (2 + 6)) (cP2 fPow (cD (.int 10)) (cD (.int 18))))) (cV (vVar (2 + 6))) (cP (cD (.int 0))))) (lCons (vVar (2 + 4)) (lCons (vP (cP2 fMod (cVar (2 + 1)) (cD (.int 1009)))) lNil)))) [some (.f (.rl R)), some (.f (.int 0)), some (.f (.rl R)), some (.f (.int 0)), some (.f (.int L)), some (.l (ys.map D.int)), some (.f (.int st')), s5', some (.f (.int g))] =
      .rt (src (if 10 ^ 18 ≤ g then g else 0) st' 0) [some (.f (.rl R)), some (.f (.int 0)), some (.f (.rl R)), some (.f (.int 0)), some (.f (.int L)), some (.l (ys.map D.int)), some (.f (.int st')), s5', some (.f (.int g))] := by
    have hp : powOk 10 18 = true := by decide
    by_cases hg : (10 : Int) ^ 18 ≤ g
    · have hg' : (1000000000000000000 : Int) ≤ g := hg
      simp [dRt, cLst, lCons, lNil, vE, cIf, tBp, cP, cV, cP2, cVar, vVar, vP, cD, look, fGe, gGe, f2B, fPow, f2I, hp, scOf, hg', frz, fMod, fitsL, src]
    · have hg' : ¬ (1000000000000000000 : Int) ≤ g := hg
      simp [dRt, cLst, lCons, lNil, vE, cIf, tBp, cP, cV, cP2, cVar, vVar, vP, cD, look, fGe, gGe, f2B, fPow, f2I, hp, scOf, hg', frz, fMod, fitsL, src]
  have e0 : dSet (2 + 2) (cP (cP2 fMul (cP2 fMul (cP2 fMul (cP2 fMul (cP2 fMul (cP2 fPow (cD (.int 10)) (cD (.int 64))) (cP2 fPow (cD (.int 10)) (cD (.int 64)))) (cP2 fPow (cD (.int 10)) (cD (.int 64)))) (cP2 fPow (cD (.int 10)) (cD (.int 64)))) (cP2 fPow (cD (.int 10)) (cD (.int 64)))) (cP2 fPow (cD (.int 10)) (cD (.int 64))))) [some (.f (.rl R)), some (.f (.int 0)), some (.f (.rl R)), some (.f (.int 0)), none, none, none, none, none] =
      .nx [some (.f (.rl R)), some (.f (.int 0)), some (.f (.rl R)), some (.f (.int 0)), some (.f (.int L)), none, none, none, none] := by
    unfold dSet
    rw [hlim]; rfl
  unfold n_law_source dDef
  have he : entry 7 [.f (.rl R), .f (.int 0)] = [some (M.f (.rl R)), some (.f (.int 0)), some (.f (.rl R)), some (.f (.int 0)), none, none, none, none, none] := rfl
  rw [if_pos (by rfl), he]
  unfold d_law_source
  simp only [dSeq, e0, e1, e2, e3, e4, e5]
  rfl
end K45
end

section
set_option Elab.async false
set_option linter.all false
set_option maxRecDepth 1000000
set_option maxHeartbeats 4000000
/-! M45h: powers -/
namespace K45
open PySem PySem.Spec PyProof.Rows L2 Dn
variable [Tb]
noncomputable def tb : Dn.Env → Out := (dSet (2 + 2) (cP (cP2 fMul (cVar (2 + 2)) (cVar (2 + 0)))))
theorem tb_ok {c0 c1 s1 s3 : Option M} {x a : Int} (h : mulOk a x = true) : tb [c0, c1, some (.f (.int x)), s1, some (.f (.int a)), s3] = .nx [c0, c1, some (.f (.int x)), s1, some (.f (.int (a * x))), s3] := by
  simp [tb, dSet, cP, cP2, cVar, look, root, fMul, f2I, h, scOf]
theorem tloop {x : Int} : ∀ (items : List D) (a : Int) (c0 c1 s1 s3 : Option M), (∀ j, j < items.length → mulOk (a * x ^ j) x = true) →
    ∃ s3', forL [] (gN (2 + 3)) tb items [c0, c1, some (.f (.int x)), s1, some (.f (.int a)), s3] = .nx [c0, c1, some (.f (.int x)), s1, some (.f (.int (a * x ^ items.length))), s3']
  | [], a, c0, c1, s1, s3, _ => ⟨s3, by
      show Out.nx _ = _
      rw [List.length_nil, Int.pow_zero, Int.mul_one]⟩
  | d :: ds, a, c0, c1, s1, s3, h => by
    have h0 : mulOk a x = true := by
      have := h 0 (by simp)
      rwa [Int.pow_zero, Int.mul_one] at this
    obtain ⟨s3', e⟩ := tloop ds (a * x) c0 c1 s1 (some (.f d)) fun j hj => by
      have := h (j + 1) (by simp; omega)
      rw [Int.pow_succ, ← Int.mul_assoc] at this
      rwa [show a * x * x ^ j = a * x ^ j * x by rw [Int.mul_assoc, Int.mul_assoc, Int.mul_comm x]]
    refine ⟨s3', ?_⟩
    have nb := tb_ok (c0 := c0) (c1 := c1) (s1 := s1) (s3 := some (.f d)) h0
    show lkC [] _ (match gN (2 + 3) d [c0, c1, some (.f (.int x)), s1, some (.f (.int a)), s3] with
      | none => .bad
      | some s1 => match tb s1 with
        | .nx s2 => forL [] (gN (2 + 3)) tb ds s2
        | .ct s2 => forL [] (gN (2 + 3)) tb ds s2
        | .bk s2 => .nx s2
        | o => o) = _
    have eg : gN (2 + 3) d [c0, c1, some (.f (.int x)), s1, some (.f (.int a)), s3] = some [c0, c1, some (.f (.int x)), s1, some (.f (.int a)), some (.f d)] := rfl
    rw [eg]
    simp only [nb]
    rw [List.length_cons, Int.pow_succ]
    rw [show a * (x ^ ds.length * x) = a * x * x ^ ds.length by rw [Int.mul_assoc, Int.mul_comm x]]
    exact e
theorem pow_lt30 {x : Int} {k : Nat} (h0 : 0 ≤ x) (h1 : x < 2 ^ 30) : ∀ j : Nat, 0 ≤ x ^ j ∧ x ^ j ≤ 2 ^ (30 * j)
  | 0 => by simp
  | j + 1 => by
    obtain ⟨a, b⟩ := pow_lt30 (k := k) h0 h1 j
    rw [Int.pow_succ]
    refine ⟨Int.mul_nonneg a h0, ?_⟩
    rw [show 30 * (j + 1) = 30 * j + 30 by omega, Int.pow_add]
    exact Int.mul_le_mul b (by omega) h0 (Int.le_trans a b)
theorem mul8 {x : Int} {j : Nat} (h0 : 0 ≤ x) (h1 : x < 2 ^ 30) (hj : j < 9) : mulOk (1 * x ^ j) x = true := by
  obtain ⟨a, b⟩ := pow_lt30 (k := 0) h0 h1 j
  rw [Int.one_mul]
  refine mulOk_of (n := 30 * j + 1) a ?_ ?_
  · refine Int.lt_of_le_of_lt b ?_
    rw [Int.pow_succ]
    have : (0 : Int) < 2 ^ (30 * j) := Int.pow_pos (by decide)
    omega
  · have : x.natAbs.log2 ≤ 30 := by
      by_cases z : x.natAbs = 0
      · rw [z]; decide
      · exact Nat.le_of_lt ((Nat.log2_lt z).mpr (by omega))
    omega
end K45
end

section
set_option Elab.async false
set_option linter.all false
set_option maxRecDepth 1000000
set_option maxHeartbeats 4000000
/-! M45i: powers; the worth of a polynomial -/
namespace K45
open PySem PySem.Spec PyProof.Rows L2 Dn
variable [Tb]
theorem times_ok {x : Int} {n : Nat} (h0 : 0 ≤ x) (h1 : x < 2 ^ 30) (hn : n < 9) : n_law_g_times [.f (.int x), .f (.int n)] = .ok (.f (.int (x ^ n))) [.f (.int x), .f (.int n)] := by
  obtain ⟨s3, e⟩ := tloop (x := x) (rgD 0 1 n) 1 (some (.f (.int x))) (some (.f (.int n))) (some (.f (.int n))) none fun j hj => mul8 h0 h1 (by simp [rgD] at hj; omega)
  have hl : (rgD 0 1 n).length = n := by simp [rgD]
  rw [hl, Int.one_mul] at e
  have hr : rngOk (n : Int) = true := Dn.rngOk_of (by omega) (by omega)
  have he : entry 4 [.f (.int x), .f (.int (n : Int))] = [some (M.f (.int x)), some (.f (.int n)), some (.f (.int x)), some (.f (.int n)), none, none] := rfl
  have e0 : dSet (2 + 2) (cP (cD (.int 1))) [some (M.f (.int x)), some (.f (.int n)), some (.f (.int x)), some (.f (.int n)), none, none] = .nx [some (M.f (.int x)), some (.f (.int n)), some (.f (.int x)), some (.f (.int n)), some (.f (.int 1)), none] := rfl
  have e1 : dFor (iRg rg1 (lCons (vVar (2 + 1)) lNil)) (gN (2 + 3)) (dSet (2 + 2) (cP (cP2 fMul (cVar (2 + 2)) (cVar (2 + 0))))) [some (M.f (.int x)), some (.f (.int n)), some (.f (.int x)), some (.f (.int n)), some (.f (.int 1)), none] = .nx [some (M.f (.int x)), some (.f (.int n)), some (.f (.int x)), some (.f (.int n)), some (.f (.int (x ^ n))), s3] := by
    refine dFor_nx (iRg1_ok (i := n) rfl hr) ?_
    exact e
  refine dDef_rt (s1 := [some (M.f (.int x)), some (.f (.int n)), some (.f (.int x)), some (.f (.int n)), some (.f (.int (x ^ n))), s3]) rfl ?_ rfl
  rw [he]
  unfold d_law_g_times
  rw [dSeq_nx e0, dSeq_nx e1]
  rfl
/-- the worth of a polynomial -/
def wst (x : Int) (a : Int) (p : Nat × Int) : Int := a + p.2 * x ^ p.1
def W (ps : List (Nat × Int)) (x : Int) : Int := ps.foldl (wst x) 0
def prD (p : Nat × Int) : D := .tup [.int p.1, .int p.2]
theorem mulOk_sm {c x : Int} {n : Nat} (h0 : 0 ≤ x) (h1 : x < 2 ^ 30) (hn : n < 9) (hc0 : 0 ≤ c) (hc : c < 2 ^ 10) : mulOk c (x ^ n) = true := by
  obtain ⟨a, b⟩ := pow_lt30 (k := 0) h0 h1 n
  refine mulOk_of (n := 10) hc0 hc ?_
  have h3 : x ^ n < 2 ^ (30 * n + 1) := by
    rw [Int.pow_succ]
    have : (0 : Int) < 2 ^ (30 * n) := Int.pow_pos (by decide)
    omega
  have h2 : (x ^ n).natAbs < 2 ^ (30 * n + 1) := by
    have : (((x ^ n).natAbs : Nat) : Int) < ((2 ^ (30 * n + 1) : Nat) : Int) := by
      rw [Int.natAbs_of_nonneg a]
      simpa using h3
    exact Int.ofNat_lt.mp this
  have : (x ^ n).natAbs.log2 ≤ 30 * n + 1 := by
    by_cases z : (x ^ n).natAbs = 0
    · rw [z]; exact Nat.zero_le _
    · exact Nat.le_of_lt ((Nat.log2_lt z).mpr h2)
  omega
theorem worth_ok {ps : List (Nat × Int)} {x : Int} (h0 : 0 ≤ x) (h1 : x < 2 ^ 30) (hp : ∀ p ∈ ps, p.1 < 9 ∧ 0 ≤ p.2 ∧ p.2 < 2 ^ 10) :
    n_poly_worth [.l (ps.map prD), .f (.int x)] = .ok (.f (.int (W ps x))) [.l (ps.map prD), .f (.int x)] := by
  generalize hds : ps.map prD = ds
  have he : entry 7 [.l ds, .f (.int x)] = [some (M.l ds), some (.f (.int x)), some (.p 0), some (.f (.int x)), none, none, none, none, none] := rfl
  have inner : ∀ (tot : Int) (n : Nat) (c : Int) (a8 : Option M), n < 9 → ∃ a8', dFor (iRg rg1 (lCons (vVar (2 + 3)) lNil)) (gN (2 + 6)) (dSet (2 + 5) (cP (cP2 fMul (cVar (2 + 5)) (cVar (2 + 1))))) [some (M.l ds), some (.f (.int x)), some (.p 0), some (.f (.int x)), some (.f (.int tot)), some (.f (.int n)), some (.f (.int c)), some (.f (.int 1)), a8] =
      .nx [some (M.l ds), some (.f (.int x)), some (.p 0), some (.f (.int x)), some (.f (.int tot)), some (.f (.int n)), some (.f (.int c)), some (.f (.int (x ^ n))), a8'] := fun tot n c a8 hn => by
    have hl : (rgD 0 1 n).length = n := by simp [rgD]
    obtain ⟨s', q1, q2⟩ := forL_nx (ls := []) (t := gN (2 + 6)) (b := dSet (2 + 5) (cP (cP2 fMul (cVar (2 + 5)) (cVar (2 + 1))))) (items := rgD 0 1 n)
      (s := [some (M.l ds), some (.f (.int x)), some (.p 0), some (.f (.int x)), some (.f (.int tot)), some (.f (.int n)), some (.f (.int c)), some (.f (.int 1)), a8])
      (fun i s => i ≤ n ∧ ∃ a, s = [some (M.l ds), some (.f (.int x)), some (.p 0), some (.f (.int x)), some (.f (.int tot)), some (.f (.int n)), some (.f (.int c)), some (.f (.int (x ^ i))), a])
      (fun i d s hi ⟨_, a, hI⟩ => by
        have hi' : i < n := by
          have := (List.getElem?_eq_some_iff.mp hi).1
          omega
        subst hI
        have hm := mul8 h0 h1 (show i < 9 by omega)
        rw [Int.one_mul] at hm
        refine ⟨rfl, [some (M.l ds), some (.f (.int x)), some (.p 0), some (.f (.int x)), some (.f (.int tot)), some (.f (.int n)), some (.f (.int c)), some (.f (.int (x ^ i))), some (.f d)], [some (M.l ds), some (.f (.int x)), some (.p 0), some (.f (.int x)), some (.f (.int tot)), some (.f (.int n)), some (.f (.int c)), some (.f (.int (x ^ (i + 1)))), some (.f d)], rfl, .inl ?_, hi', _, rfl⟩
        show (match cP (cP2 fMul (cVar (2 + 5)) (cVar (2 + 1))) _ with
          | .ok m s' => Out.nx (s'.set (2 + 5) (some m))
          | .ex e s' => .ex e s'
          | .bad => .bad) = _
        have : cP (cP2 fMul (cVar (2 + 5)) (cVar (2 + 1))) [some (M.l ds), some (.f (.int x)), some (.p 0), some (.f (.int x)), some (.f (.int tot)), some (.f (.int n)), some (.f (.int c)), some (.f (.int (x ^ i))), some (.f d)] = .ok (.f (.int (x ^ (i + 1)))) [some (M.l ds), some (.f (.int x)), some (.p 0), some (.f (.int x)), some (.f (.int tot)), some (.f (.int n)), some (.f (.int c)), some (.f (.int (x ^ i))), some (.f d)] := by
          simp [cP, cP2, cVar, look, fMul, f2I, hm, scOf, Int.pow_succ]
        rw [this]; rfl)
      (fun _ _ => rfl) ⟨by omega, a8, by rw [Int.pow_zero]⟩
    obtain ⟨_, a8', q2⟩ := q2
    rw [hl] at q2
    refine ⟨a8', ?_⟩
    refine dFor_nx (iRg1_ok (i := n) rfl (Dn.rngOk_of (by omega) (by omega))) ?_
    rw [← q2]
    exact q1
  have e0 : dSet (2 + 2) (cP (cD (.int 0))) [some (M.l ds), some (.f (.int x)), some (.p 0), some (.f (.int x)), none, none, none, none, none] = .nx [some (M.l ds), some (.f (.int x)), some (.p 0), some (.f (.int x)), some (.f (.int 0)), none, none, none, none] := rfl
  have hS : iVar (2 + 0) [some (M.l ds), some (.f (.int x)), some (.p 0), some (.f (.int x)), some (.f (.int 0)), none, none, none, none] = .ok ⟨ds, [(0, ds)], id⟩ [some (M.l ds), some (.f (.int x)), some (.p 0), some (.f (.int x)), some (.f (.int 0)), none, none, none, none] := rfl
  have out := forL_fold (ls := [(0, ds)]) (t := gT 2 (gConsD (gN (2 + 3)) (gConsD (gN (2 + 4)) gNilD))) (b := (dSeq (dSet (2 + 5) (cP (cD (.int 1))))
  (dSeq (dFor (iRg rg1 (lCons (vVar (2 + 3)) lNil)) (gN (2 + 6)) (dSet (2 + 5) (cP (cP2 fMul (cVar (2 + 5)) (cVar (2 + 1))))))
  (dSet (2 + 2) (cP (cP2 fAdd (cVar (2 + 2)) (cP2 fMul (cVar (2 + 4)) (cVar (2 + 5))))))))) prD (wst x)
    (fun a s => ∃ a5 a6 a7 a8, s = [some (M.l ds), some (.f (.int x)), some (.p 0), some (.f (.int x)), some (.f (.int a)), a5, a6, a7, a8]) ps 0 [some (M.l ds), some (.f (.int x)), some (.p 0), some (.f (.int x)), some (.f (.int 0)), none, none, none, none]
    (fun a p s hpm ⟨a5, a6, a7, a8, hI⟩ => by
      subst hI
      obtain ⟨n, c⟩ := p
      obtain ⟨p1, p2, p3⟩ := hp _ hpm
      obtain ⟨a8', q⟩ := inner a n c a8 p1
      have hm := mulOk_sm h0 h1 p1 p2 p3
      refine ⟨[some (M.l ds), some (.f (.int x)), some (.p 0), some (.f (.int x)), some (.f (.int a)), some (.f (.int n)), some (.f (.int c)), a7, a8], [some (M.l ds), some (.f (.int x)), some (.p 0), some (.f (.int x)), some (.f (.int (a + c * x ^ n))), some (.f (.int n)), some (.f (.int c)), some (.f (.int (x ^ n))), a8'], rfl, .inl ?_, _, _, _, _, rfl⟩
      have f1 : dSet (2 + 5) (cP (cD (.int 1))) [some (M.l ds), some (.f (.int x)), some (.p 0), some (.f (.int x)), some (.f (.int a)), some (.f (.int n)), some (.f (.int c)), a7, a8] = .nx [some (M.l ds), some (.f (.int x)), some (.p 0), some (.f (.int x)), some (.f (.int a)), some (.f (.int n)), some (.f (.int c)), some (.f (.int 1)), a8] := rfl
      have f2 : dSet (2 + 2) (cP (cP2 fAdd (cVar (2 + 2)) (cP2 fMul (cVar (2 + 4)) (cVar (2 + 5))))) [some (M.l ds), some (.f (.int x)), some (.p 0), some (.f (.int x)), some (.f (.int a)), some (.f (.int n)), some (.f (.int c)), some (.f (.int (x ^ n))), a8'] = .nx [some (M.l ds), some (.f (.int x)), some (.p 0), some (.f (.int x)), some (.f (.int (a + c * x ^ n))), some (.f (.int n)), some (.f (.int c)), some (.f (.int (x ^ n))), a8'] := by
        simp [dSet, cP, cP2, cVar, look, fAdd, fMul, f2I, hm, scOf]
      rw [dSeq_nx f1, dSeq_nx q, f2])
    (fun a s ⟨a5, a6, a7, a8, hI⟩ => by
      subst hI
      exact lkBb_iff.mpr ⟨rfl, trivial⟩)
    ⟨_, _, _, _, rfl⟩
  rw [hds] at out
  obtain ⟨s', q1, a5, a6, a7, a8, q2⟩ := out
  refine dDef_rt (s1 := [some (M.l ds), some (.f (.int x)), some (.p 0), some (.f (.int x)), some (.f (.int (W ps x))), a5, a6, a7, a8]) rfl ?_ rfl
  rw [he]
  unfold d_poly_worth
  rw [dSeq_nx e0, dSeq_nx (dFor_nx hS (q1.trans (congrArg Out.nx q2)))]
  rfl
end K45
end

section
set_option Elab.async false
set_option linter.all false
set_option maxRecDepth 1000000
set_option maxHeartbeats 4000000
/-! M45j: how many families, as the program tells it -/
namespace K45
open PySem PySem.Spec PyProof.Rows L2 Dn
variable [Tb]
def polyT : Nat → List (Nat × Int)
  | 0 => [(1, 1)]
  | 1 => [(1, 1), (2, 1)]
  | 2 => [(1, 1), (2, 3), (3, 2), (4, 1)]
  | _ => [(1, 1), (2, 7), (3, 12), (4, 15), (5, 13), (6, 9), (7, 3), (8, 1)]
theorem polyT_ok (m : Nat) : ∀ p ∈ polyT m, p.1 < 9 ∧ 0 ≤ p.2 ∧ p.2 < 2 ^ 10 := by
  have : ∀ l : List (Nat × Int), (l.all fun p => decide (p.1 < 9 ∧ 0 ≤ p.2 ∧ p.2 < 2 ^ 10)) = true → ∀ p ∈ l, p.1 < 9 ∧ 0 ≤ p.2 ∧ p.2 < 2 ^ 10 := fun l h p hp => by
    have := List.all_eq_true.mp h p hp
    simpa using this
  refine this _ ?_
  match m with
  | 0 => decide
  | 1 => decide
  | 2 => decide
  | n + 3 =>
    show ([(1, 1), (2, 7), (3, 12), (4, 15), (5, 13), (6, 9), (7, 3), (8, 1)] : List (Nat × Int)).all _ = true
    decide
theorem sz0 : n_size_poly [.f (.int 0)] = .ok (.l ((polyT 0).map prD)) [.f (.int 0)] := by kernel_rfl
theorem sz1 : n_size_poly [.f (.int 1)] = .ok (.l ((polyT 1).map prD)) [.f (.int 1)] := by kernel_rfl
theorem sz2 : n_size_poly [.f (.int 2)] = .ok (.l ((polyT 2).map prD)) [.f (.int 2)] := by kernel_rfl
theorem sz3 : n_size_poly [.f (.int 3)] = .ok (.l ((polyT 3).map prD)) [.f (.int 3)] := by kernel_rfl
theorem size_ok {m : Nat} (h : m ≤ 3) : n_size_poly [.f (.int m)] = .ok (.l ((polyT m).map prD)) [.f (.int m)] := by
  match m, h with
  | 0, _ => exact sz0
  | 1, _ => exact sz1
  | 2, _ => exact sz2
  | 3, _ => exact sz3
theorem gp0 : n_law_g_poly [.f (.int 0)] = .ok (.f (.lst ((polyT 0).map prD))) [.f (.int 0)] := by kernel_rfl
theorem gp1 : n_law_g_poly [.f (.int 1)] = .ok (.f (.lst ((polyT 1).map prD))) [.f (.int 1)] := by kernel_rfl
theorem gp2 : n_law_g_poly [.f (.int 2)] = .ok (.f (.lst ((polyT 2).map prD))) [.f (.int 2)] := by kernel_rfl
theorem gp3 : n_law_g_poly [.f (.int 3)] = .ok (.f (.lst ((polyT 3).map prD))) [.f (.int 3)] := by kernel_rfl
theorem gpoly_ok {m : Nat} (h : m ≤ 3) : n_law_g_poly [.f (.int m)] = .ok (.f (.lst ((polyT m).map prD))) [.f (.int m)] := by
  match m, h with
  | 0, _ => exact gp0
  | 1, _ => exact gp1
  | 2, _ => exact gp2
  | 3, _ => exact gp3
theorem W_nonneg {x : Int} (h : 0 ≤ x) : ∀ (ps : List (Nat × Int)) (a : Int), 0 ≤ a → (∀ p ∈ ps, 0 ≤ p.2) → 0 ≤ ps.foldl (wst x) a
  | [], a, ha, _ => ha
  | p :: ps, a, ha, hp => W_nonneg h ps _ (Int.add_nonneg ha (Int.mul_nonneg (hp p (List.mem_cons_self ..)) (Int.pow_nonneg h))) fun q hq => hp q (List.mem_cons_of_mem _ hq)
def run : List Nat → Int → Option Int
  | [], x => some x
  | m :: r, x => if 10 ^ 9 < W (polyT m) x then none else run r (W (polyT m) x)
noncomputable def fbody : Dn.Env → Out := (dSeq (dSet (1 + 3) (cCall 2 n_poly_worth (lCons (oE (cCall 1 n_size_poly (lCons (oVar (1 + 1)) lNil))) (lCons (oP (cP2 fIx (cVar (1 + 2)) (cD (.int 0)))) lNil))))
  (dSeq (dDo (cCall 2 n_bound (lCons (oP (cD (.str "faces"))) (lCons (oVar (1 + 3)) lNil))))
  (dDo (cMt (1 + 2) wIns (lCons (vP (cD (.int 0))) (lCons (vVar (1 + 3)) lNil))))))
def natD (m : Nat) : D := .int m
theorem intD_map (ms : List Nat) : ms.map natD = (ms.map fun m : Nat => (m : Int)).map D.int := by rw [List.map_map]; rfl
section
variable {c0 s0 a2 a4 : Option M}
theorem fstep1 {m : Nat} {x : Int} {rest : List D} (hm : m ≤ 3) (h0 : 0 ≤ x) (h1 : x ≤ 10 ^ 9) : dSet (1 + 3) (cCall 2 n_poly_worth (lCons (oE (cCall 1 n_size_poly (lCons (oVar (1 + 1)) lNil))) (lCons (oP (cP2 fIx (cVar (1 + 2)) (cD (.int 0)))) lNil))) [c0, s0, some (.f (natD m)), some (.l (.int x :: rest)), a4] =
    .nx [c0, s0, some (.f (natD m)), some (.l (.int x :: rest)), some (.f (.int (W (polyT m) x)))] := by
  have hw := worth_ok (ps := polyT m) h0 (by omega) (polyT_ok m)
  have hs := size_ok hm
  simp [dSet, cCall, lCons, lNil, oE, oP, oVar, cP2, cVar, cD, look, root, natD, argsOf, argOf, apart, hs, hw, putBack, fIx, asS, atI, ixN, scOf]
theorem bound_ex {x : Str} {L : Int} (hL : limT.lookup x = some (.int L)) {w : Int} (h : L < w) {s : Dn.Env} {e : Dn.Env → Re (List Ref)} {rs : List Ref} (he : e s = .ok rs s) (ha : argsOf s rs = some [(.f (.str x), none), (.f (.int w), none)]) : dDo (cCall 2 n_bound e) s = .ex (tooX x) s := by
  refine (dDo_ex (cCall_ex he ha rfl rfl (bound_hiX hL h))).trans ?_
  show Out.ex _ (s.take s.length) = _
  rw [List.take_length]
theorem bound_nx {x : Str} {L : Int} (hL : limT.lookup x = some (.int L)) {w : Int} (h : ¬ L < w) {s : Dn.Env} {e : Dn.Env → Re (List Ref)} {rs : List Ref} (he : e s = .ok rs s) (ha : argsOf s rs = some [(.f (.str x), none), (.f (.int w), none)]) : dDo (cCall 2 n_bound e) s = .nx s := by
  refine (dDo_ok (cCall_ok he ha rfl rfl (bound_loX hL h))).trans ?_
  show Out.nx (s.take s.length) = _
  rw [List.take_length]
theorem fturn_hi {m : Nat} {x : Int} {rest : List D} (hm : m ≤ 3) (h0 : 0 ≤ x) (h1 : x ≤ 10 ^ 9) (hw : 10 ^ 9 < W (polyT m) x) : fbody [c0, s0, some (.f (natD m)), some (.l (.int x :: rest)), a4] =
    .ex (tooX "faces") [c0, s0, some (.f (natD m)), some (.l (.int x :: rest)), some (.f (.int (W (polyT m) x)))] := by
  unfold fbody
  refine Eq.trans (dSeq_nx (fstep1 hm h0 h1)) ?_
  exact dSeq_ex (bound_ex (x := "faces") rfl hw rfl rfl)
theorem fturn_lo {m : Nat} {x : Int} {rest : List D} (hm : m ≤ 3) (h0 : 0 ≤ x) (h1 : x ≤ 10 ^ 9) (hr : rest.length < 100) (hw : ¬ 10 ^ 9 < W (polyT m) x) : fbody [c0, s0, some (.f (natD m)), some (.l (.int x :: rest)), a4] =
    .nx [c0, s0, some (.f (natD m)), some (.l (.int (W (polyT m) x) :: .int x :: rest)), some (.f (.int (W (polyT m) x)))] := by
  unfold fbody
  refine Eq.trans (dSeq_nx (fstep1 hm h0 h1)) ?_
  refine Eq.trans (dSeq_nx (bound_nx (x := "faces") rfl hw rfl rfl)) ?_
  have : rest.length + 1 < 16777216 := by omega
  simp [dDo, cMt, lCons, lNil, vP, vVar, cD, look, root, wIns, this]
end
theorem floop {c0 s0 : Option M} : ∀ (ms : List Nat) (x : Int) (rest : List D) (a2 a4 : Option M), (∀ m ∈ ms, m ≤ 3) → 0 ≤ x → x ≤ 10 ^ 9 → rest.length + ms.length < 100 →
    match run ms x with
    | some y => 0 ≤ y ∧ ∃ r t2 t4, forL [] (gN (1 + 1)) fbody (ms.map natD) [c0, s0, a2, some (.l (.int x :: rest)), a4] = .nx [c0, s0, t2, some (.l (.int y :: r)), t4]
    | none => ∃ t2 t3 t4, forL [] (gN (1 + 1)) fbody (ms.map natD) [c0, s0, a2, some (.l (.int x :: rest)), a4] = .ex (tooX "faces") [c0, s0, t2, t3, t4]
  | [], x, rest, a2, a4, _, h0, _, _ => ⟨h0, rest, a2, a4, rfl⟩
  | m :: ms, x, rest, a2, a4, hm, h0, h1, hl => by
    rw [List.length_cons] at hl
    have m3 := hm m (List.mem_cons_self ..)
    have eg : gN (1 + 1) (natD m) [c0, s0, a2, some (.l (.int x :: rest)), a4] = some [c0, s0, some (.f (natD m)), some (.l (.int x :: rest)), a4] := rfl
    have un : forL [] (gN (1 + 1)) fbody ((m :: ms).map natD) [c0, s0, a2, some (.l (.int x :: rest)), a4] = (match fbody [c0, s0, some (.f (natD m)), some (.l (.int x :: rest)), a4] with
        | .nx s2 => forL [] (gN (1 + 1)) fbody (ms.map natD) s2
        | .ct s2 => forL [] (gN (1 + 1)) fbody (ms.map natD) s2
        | .bk s2 => .nx s2
        | o => o) := rfl
    unfold run
    by_cases hw : 10 ^ 9 < W (polyT m) x
    · rw [if_pos hw, un, fturn_hi m3 h0 h1 hw]
      exact ⟨_, _, _, rfl⟩
    · rw [if_neg hw, un, fturn_lo m3 h0 h1 (by omega) hw]
      exact floop ms (W (polyT m) x) (.int x :: rest) _ _ (fun k hk => hm k (List.mem_cons_of_mem _ hk)) (W_nonneg h0 _ 0 (by omega) fun p hp => (polyT_ok m p hp).2.1) (by omega) (by rw [List.length_cons]; omega)
theorem lk0 {ds : List D} {s : Dn.Env} (h : s[0]? = some (some (.l ds))) : lkBb s [(0, ds)] = true := lkBb_iff.mpr ⟨h, trivial⟩
/-- the due end for a list of numbers of rows -/
def due (ns : List Nat) : Except Str Int := if 6 < ns.length then .error "layers" else if ns.any (fun n => decide (3 < n)) then .error "flags" else match run ns.reverse 1 with
  | some x => .ok x
  | none => .error "faces"
theorem fbound : ∀ (ns : List Nat) (ds : List D) (t0 t1 t2 t3 t4 : Option M), t0 = some (.l ds) →
    if ns.any (fun n => decide (3 < n)) then ∃ u2, forL [(0, ds)] (gN (1 + 1)) (dDo (cCall 2 n_bound (lCons (oP (cD (.str "flags"))) (lCons (oVar (1 + 1)) lNil)))) (ns.map natD) [t0, t1, t2, t3, t4] = .ex (tooX "flags") [t0, t1, u2, t3, t4]
    else ∃ u2, forL [(0, ds)] (gN (1 + 1)) (dDo (cCall 2 n_bound (lCons (oP (cD (.str "flags"))) (lCons (oVar (1 + 1)) lNil)))) (ns.map natD) [t0, t1, t2, t3, t4] = .nx [t0, t1, u2, t3, t4]
  | [], ds, t0, t1, t2, t3, t4, h0 => by
    subst h0
    exact ⟨t2, lkC_of (lk0 rfl)⟩
  | n :: ns, ds, t0, t1, t2, t3, t4, h0 => by
    subst h0
    have un : forL [(0, ds)] (gN (1 + 1)) (dDo (cCall 2 n_bound (lCons (oP (cD (.str "flags"))) (lCons (oVar (1 + 1)) lNil)))) ((n :: ns).map natD) [some (.l ds), t1, t2, t3, t4] = lkC [(0, ds)] [some (.l ds), t1, t2, t3, t4] (match dDo (cCall 2 n_bound (lCons (oP (cD (.str "flags"))) (lCons (oVar (1 + 1)) lNil))) [some (.l ds), t1, some (.f (natD n)), t3, t4] with
        | .nx s2 => forL [(0, ds)] (gN (1 + 1)) (dDo (cCall 2 n_bound (lCons (oP (cD (.str "flags"))) (lCons (oVar (1 + 1)) lNil)))) (ns.map natD) s2
        | .ct s2 => forL [(0, ds)] (gN (1 + 1)) (dDo (cCall 2 n_bound (lCons (oP (cD (.str "flags"))) (lCons (oVar (1 + 1)) lNil)))) (ns.map natD) s2
        | .bk s2 => .nx s2
        | o => o) := rfl
    rw [un, lkC_of (lk0 rfl)]
    by_cases hn : 3 < n
    · have : ((n :: ns).any fun n => decide (3 < n)) = true := by simp [hn]
      have hb : dDo (cCall 2 n_bound (lCons (oP (cD (.str "flags"))) (lCons (oVar (1 + 1)) lNil))) [some (.l ds), t1, some (.f (natD n)), t3, t4] = .ex (tooX "flags") [some (.l ds), t1, some (.f (natD n)), t3, t4] := bound_ex (x := "flags") (L := 3) (w := n) rfl (by omega) rfl rfl
      rw [if_pos this, hb]
      exact ⟨_, rfl⟩
    · have : ((n :: ns).any fun n => decide (3 < n)) = (ns.any fun n => decide (3 < n)) := by simp [hn]
      have hb : dDo (cCall 2 n_bound (lCons (oP (cD (.str "flags"))) (lCons (oVar (1 + 1)) lNil))) [some (.l ds), t1, some (.f (natD n)), t3, t4] = .nx [some (.l ds), t1, some (.f (natD n)), t3, t4] := bound_nx (x := "flags") (L := 3) (w := n) rfl (by omega) rfl rfl
      rw [this, hb]
      exact fbound ns ds (some (.l ds)) t1 (some (.f (natD n))) t3 t4 rfl
theorem layer_ok (ns : List Nat) (hl : ns.length < 90) : ∃ u, match due ns with
    | .ok x => ∃ r, n_faces_by_layer [.l (ns.map natD)] = .ok (.l (.int x :: r)) [u]
    | .error e => n_faces_by_layer [.l (ns.map natD)] = .ex (tooX e) [u] := by
  generalize hds : ns.map natD = ds
  have hln : ds.length = ns.length := by rw [← hds, List.length_map]
  have he : entry 4 [.l ds] = [some (M.l ds), some (.p 0), none, none, none] := rfl
  unfold due
  by_cases h6 : 6 < ns.length
  · rw [if_pos h6]
    refine ⟨.l ds, dDef_ex (s1 := [some (M.l ds), some (.p 0), none, none, none]) rfl ?_ rfl⟩
    rw [he]
    unfold d_faces_by_layer
    exact dSeq_ex (bound_ex (x := "layers") (L := 6) (w := ds.length) rfl (by omega) rfl rfl)
  · rw [if_neg h6]
    have b1 : dDo (cCall 2 n_bound (lCons (oP (cD (.str "layers"))) (lCons (oP (cPL fLen (pCons (cVar (1 + 0)) pNil))) lNil))) [some (M.l ds), some (.p 0), none, none, none] = .nx [some (M.l ds), some (.p 0), none, none, none] :=
      bound_nx (x := "layers") (L := 6) (w := ds.length) rfl (by omega) rfl rfl
    have fb := fbound ns ds (some (.l ds)) (some (.p 0)) none none none rfl
    rw [hds] at fb
    have hv : iVar (1 + 0) [some (M.l ds), some (.p 0), none, none, none] = .ok ⟨ds, [(0, ds)], id⟩ [some (M.l ds), some (.p 0), none, none, none] := rfl
    by_cases h3 : (ns.any fun n => decide (3 < n)) = true
    · rw [if_pos h3] at fb ⊢
      obtain ⟨u2, fb⟩ := fb
      refine ⟨.l ds, dDef_ex (s1 := [some (M.l ds), some (.p 0), u2, none, none]) rfl ?_ rfl⟩
      rw [he]
      unfold d_faces_by_layer
      rw [dSeq_nx b1, dSeq_ex (dFor_ex hv fb)]
    · rw [if_neg h3] at fb ⊢
      obtain ⟨u2, fb⟩ := fb
      have hm : ∀ m ∈ ns.reverse, m ≤ 3 := fun m hm => by
        have hm := List.mem_reverse.mp hm
        rcases Nat.lt_or_ge 3 m with h | h
        · exact absurd (List.any_eq_true.mpr ⟨m, hm, by simp [h]⟩) h3
        · exact h
      have fl := floop (c0 := some (.f (.lst ds))) (s0 := some (.p 0)) ns.reverse 1 [] u2 none hm (by decide) (by decide) (by rw [List.length_reverse, List.length_nil]; omega)
      rw [List.map_reverse, hds] at fl
      have b2 : dSet (1 + 2) (cLst (lCons (vP (cD (.int 1))) lNil)) [some (M.l ds), some (.p 0), u2, none, none] = .nx [some (M.l ds), some (.p 0), u2, some (.l [.int 1]), none] := dSet_ok rfl
      have hsrc : iRv (vVar (1 + 0)) [some (M.l ds), some (.p 0), u2, some (.l [.int 1]), none] = .ok ⟨ds.reverse, [], id⟩ [some (M.f (.lst ds)), some (.p 0), u2, some (.l [.int 1]), none] := rfl
      cases hr : run ns.reverse 1 with
      | some x =>
        rw [hr] at fl
        obtain ⟨_, r, t2, t4, fl⟩ := fl
        refine ⟨.f (.lst ds), r, dDef_rt (s1 := [some (M.f (.lst ds)), some (.p 0), t2, none, t4]) rfl ?_ rfl⟩
        rw [he]
        unfold d_faces_by_layer
        rw [dSeq_nx b1, dSeq_nx (dFor_nx hv fb), dSeq_nx b2]
        refine Eq.trans (dSeq_nx (dFor_nx hsrc fl)) ?_
        rfl
      | none =>
        rw [hr] at fl
        obtain ⟨t2, t3, t4, fl⟩ := fl
        refine ⟨.f (.lst ds), dDef_ex (s1 := [some (M.f (.lst ds)), some (.p 0), t2, t3, t4]) rfl ?_ rfl⟩
        rw [he]
        unfold d_faces_by_layer
        rw [dSeq_nx b1, dSeq_nx (dFor_nx hv fb), dSeq_nx b2]
        exact dSeq_ex (dFor_ex hsrc fl)
theorem faces_ok (ns : List Nat) (hl : ns.length < 90) : n_faces_of [.l (ns.map natD)] = match due ns with
    | .ok x => .ok (.f (.int x)) [.l (ns.map natD)]
    | .error e => .ex (tooX e) [.l (ns.map natD)] := by
  obtain ⟨u, h⟩ := layer_ok ns hl
  generalize hds : ns.map natD = ds at h ⊢
  have he : entry 1 [.l ds] = [some (M.l ds), some (.p 0)] := rfl
  cases hd : due ns with
  | ok x =>
    rw [hd] at h
    obtain ⟨r, h⟩ := h
    refine dDef_rt (s1 := [some (M.l ds), some (.p 0)]) rfl ?_ rfl
    rw [he]
    unfold d_faces_of
    simp [dRt, cE2, oE, cEL, lCons, lNil, oVar, look, root, rvs, rv, fList, asLs, asL, asS, fin, Rs.m, cCall, argsOf, argOf, apart, h, putBack, oP, cD, fIx, asS, atI, ixN]
  | error e =>
    rw [hd] at h
    replace h : n_faces_by_layer [.l ds] = .ex (tooX e) [u] := h
    refine dDef_ex (s1 := [some (M.l ds), some (.p 0)]) rfl ?_ rfl
    rw [he]
    unfold d_faces_of
    simp [dRt, cE2, oE, cEL, lCons, lNil, oVar, look, root, rvs, rv, fList, asLs, asL, asS, fin, Rs.m, cCall, argsOf, argOf, apart, h, putBack]
def dueD : Except Str Int → D
  | .ok x => .tup [.str "told", .int x]
  | .error e => .tup [.str "TooMany", .str e]
theorem told_ok (ns : List Nat) (hl : ns.length < 90) : n_law_g_told_faces [.l (ns.map natD)] = .ok (.f (dueD (due ns))) [.l (ns.map natD)] := by
  have h := faces_ok ns hl
  generalize hds : ns.map natD = ds at h ⊢
  have he : entry 3 [.l ds] = [some (M.l ds), some (.p 0), none, none] := rfl
  unfold n_law_g_told_faces
  cases hd : due ns with
  | ok x =>
    rw [hd] at h
    replace h : n_faces_of [.l ds] = .ok (.f (.int x)) [.l ds] := h
    refine dDef_rt (s1 := [some (M.l ds), some (.p 0), some (.f (.int x)), none]) rfl ?_ rfl
    rw [he]
    simp [d_law_g_told_faces, dSeq, dTry, dSet, cCall, lCons, lNil, oVar, look, root, argsOf, argOf, apart, h, putBack, dRt, cTup, vP, cD, vVar, fitsL, dueD]
  | error e =>
    rw [hd] at h
    replace h : n_faces_of [.l ds] = .ex (tooX e) [.l ds] := h
    refine dDef_rt (s1 := [some (M.l ds), some (.p 0), none, none]) rfl ?_ rfl
    rw [he]
    have ht : told (tooX e) = some (.tup [.str "TooMany", .str e]) := by
      unfold told tooX
      simp
    simp [d_law_g_told_faces, dSeq, dTry, dSet, cCall, lCons, lNil, oVar, look, root, argsOf, argOf, apart, h, putBack, ht, dueD]
end K45
end

section
set_option Elab.async false
set_option linter.all false
set_option maxRecDepth 1000000
set_option maxHeartbeats 4000000
/-! M45k: how many families, as the law counts them -/
namespace K45
open PySem PySem.Spec PyProof.Rows L2 Dn
variable [Tb]
theorem W_sum {x : Int} : ∀ (ps : List (Nat × Int)) (a : Int), ps.foldl (wst x) a = a + (ps.map fun p => p.2 * x ^ p.1).sum
  | [], a => by simp
  | p :: ps, a => by
    rw [List.foldl_cons, W_sum ps, List.map_cons, List.sum_cons]
    unfold wst
    omega
noncomputable def pairC : Dn.Env → Re M := (cLc ([("pair", 3)].map (·.2) |>.map (1 + ·)) (iV (vE (cCall 1 n_law_g_poly (lCons (oVar (1 + 2)) lNil)))) (gN (1 + 3)) qYes (vE (cE2 fMul (oP (cP2 fIx (cVar (1 + 3)) (cD (.int 1)))) (oE (cCall 2 n_law_g_times (lCons (oVar (1 + 1)) (lCons (oP (cP2 fIx (cVar (1 + 3)) (cD (.int 0)))) lNil)))))))
noncomputable def gbody : Dn.Env → Out := (dSeq (dSet (1 + 1) (cEL fSum (lCons (oE pairC) lNil)))
  (dIf (tBp (cP2 fGt (cVar (1 + 1)) (cP2 fPow (cD (.int 10)) (cD (.int 9))))) (dRt (cTup (lCons (vP (cD (.str "TooMany"))) (lCons (vP (cD (.str "faces"))) lNil)))) dNx))
section
variable {L : D}
theorem pairC_src {x : Int} {m : Nat} (hm : m ≤ 3) : iV (vE (cCall 1 n_law_g_poly (lCons (oVar (1 + 2)) lNil))) [some (.f L), some (.f L), some (.f (.int x)), some (.f (natD m)), none] = .ok ⟨(polyT m).map prD, [], id⟩ [some (.f L), some (.f L), some (.f (.int x)), some (.f (natD m)), none] := by
  have hg := gpoly_ok hm
  simp [iV, vE, cCall, lCons, lNil, oVar, look, natD, argsOf, argOf, apart, hg, putBack, frz, itemsOf]
theorem pairT {x : Int} {n : Nat} {s : Dn.Env} (ht : n_law_g_times [.f (.int x), .f (.int n)] = .ok (.f (.int (x ^ n))) [.f (.int x), .f (.int n)]) (h2 : (lCons (oVar (1 + 1)) (lCons (oP (cP2 fIx (cVar (1 + 3)) (cD (.int 0)))) lNil)) s = .ok [.s 2, .v (.int n)] s) (h3 : argsOf s [.s 2, .v (.int n)] = some [(.f (.int x), none), (.f (.int n), none)]) : cCall 2 n_law_g_times (lCons (oVar (1 + 1)) (lCons (oP (cP2 fIx (cVar (1 + 3)) (cD (.int 0)))) lNil)) s = .ok (.f (.int (x ^ n))) s := by
  refine (cCall_ok h2 h3 rfl rfl ht).trans ?_
  show Re.ok _ (s.take s.length) = _
  rw [List.take_length]
noncomputable def pairE : Dn.Env → Re D := (vE (cE2 fMul (oP (cP2 fIx (cVar (1 + 3)) (cD (.int 1)))) (oE (cCall 2 n_law_g_times (lCons (oVar (1 + 1)) (lCons (oP (cP2 fIx (cVar (1 + 3)) (cD (.int 0)))) lNil))))))
theorem pairU {x c : Int} {n : Nat} {s : Dn.Env} (h1 : oP (cP2 fIx (cVar (1 + 3)) (cD (.int 1))) s = .ok (.v (.int c)) s) (h4 : cCall 2 n_law_g_times (lCons (oVar (1 + 1)) (lCons (oP (cP2 fIx (cVar (1 + 3)) (cD (.int 0)))) lNil)) s = .ok (.f (.int (x ^ n))) s)
  (h6 : fMul (.f (.int c)) (.f (.int (x ^ n))) = some (.sc (.int (c * x ^ n)))) : pairE s = .ok (.int (c * x ^ n)) s := by
  have h5 : oE (cCall 2 n_law_g_times (lCons (oVar (1 + 1)) (lCons (oP (cP2 fIx (cVar (1 + 3)) (cD (.int 0)))) lNil))) s = .ok (.v (.int (x ^ n))) s := by
    unfold oE
    rw [h4]
  unfold pairE vE cE2
  rw [h1]
  simp only [h5]
  simp only [rv, h6, fin, Rs.m, List.take_length, frz]
theorem pairM {x c : Int} {n : Nat} (hmu : mulOk c (x ^ n) = true) : fMul (.f (.int c)) (.f (.int (x ^ n))) = some (.sc (.int (c * x ^ n))) := by
  show (if mulOk c (x ^ n) then _ else _) = _
  rw [if_pos hmu]
theorem pairE_ok {x : Int} {m n : Nat} {c : Int} (ht : n_law_g_times [.f (.int x), .f (.int n)] = .ok (.f (.int (x ^ n))) [.f (.int x), .f (.int n)]) (hmu : mulOk c (x ^ n) = true) : pairE [some (.f L), some (.f L), some (.f (.int x)), some (.f (natD m)), some (.f (prD (n, c)))] = .ok (.int (c * x ^ n)) [some (.f L), some (.f L), some (.f (.int x)), some (.f (natD m)), some (.f (prD (n, c)))] := by
  generalize hs : [some (M.f L), some (M.f L), some (M.f (.int x)), some (M.f (natD m)), some (M.f (prD (n, c)))] = s
  exact pairU (by subst hs; rfl) (pairT ht (by subst hs; rfl) (by subst hs; rfl)) (pairM hmu)
theorem poly_len {m : Nat} (hm : m ≤ 3) : (polyT m).length ≤ 8 := by
  match m, hm with
  | 0, _ => decide
  | 1, _ => decide
  | 2, _ => decide
  | 3, _ => decide
theorem pairC_lc {x : Int} {m : Nat} (hm : m ≤ 3) (h0 : 0 ≤ x) (h1 : x < 2 ^ 30) : lcL [] [4] (gN (1 + 3)) qYes pairE ((polyT m).map prD) [some (.f L), some (.f L), some (.f (.int x)), some (.f (natD m)), none] [] = .ok ((polyT m).map fun p => .int (p.2 * x ^ p.1)) [some (.f L), some (.f L), some (.f (.int x)), some (.f (natD m)), none] := by
  have hl := poly_len hm
  have := lcL_map (ls := []) (ow := [4]) (t := gN (1 + 3)) (q := qYes) (b := pairE) prD (fun _ => true) (fun p => .int (p.2 * x ^ p.1)) (S := [some (.f L), some (.f L), some (.f (.int x)), some (.f (natD m)), none]) rfl (polyT m) [] (fun p hp => by
    obtain ⟨p1, p2, p3⟩ := polyT_ok m p hp
    refine ⟨_, _, rfl, rfl, ?_⟩
    rw [if_pos rfl]
    exact ⟨_, pairE_ok (times_ok h0 h1 p1) (mulOk_sm h0 h1 p1 p2 p3), rfl⟩) (by rw [List.length_nil]; omega)
  rw [List.filter_eq_self.mpr (fun _ _ => rfl), List.nil_append] at this
  exact this
theorem pairC_ok {x : Int} {m : Nat} {a4 : Option M} (h4 : a4 = none) (hm : m ≤ 3) (h0 : 0 ≤ x) (h1 : x ≤ 10 ^ 9) : pairC [some (.f L), some (.f L), some (.f (.int x)), some (.f (natD m)), a4] = .ok (.l ((polyT m).map fun p => .int (p.2 * x ^ p.1))) [some (.f L), some (.f L), some (.f (.int x)), some (.f (natD m)), a4] := by
  subst h4
  have h2 : x < 2 ^ 30 := by omega
  exact (cLc_ok (pairC_src hm) rfl (pairC_lc (L := L) hm h0 h2)).trans rfl
theorem gturn {x : Int} {m : Nat} {a4 : Option M} (h4 : a4 = none) (hm : m ≤ 3) (h0 : 0 ≤ x) (h1 : x ≤ 10 ^ 9) : gbody [some (.f L), some (.f L), some (.f (.int x)), some (.f (natD m)), a4] =
    if 10 ^ 9 < W (polyT m) x then .rt (.f (dueD (.error "faces"))) [some (.f L), some (.f L), some (.f (.int (W (polyT m) x))), some (.f (natD m)), a4] else .nx [some (.f L), some (.f L), some (.f (.int (W (polyT m) x))), some (.f (natD m)), a4] := by
  have hp := pairC_ok (L := L) h4 hm h0 h1
  have hsum : W (polyT m) x = ((polyT m).map fun p => p.2 * x ^ p.1).sum := by
    unfold W
    rw [W_sum]; omega
  have hi : intsOf ((polyT m).map fun p => D.int (p.2 * x ^ p.1)) = some ((polyT m).map fun p => p.2 * x ^ p.1) := by
    rw [← intsOf_map, List.map_map]; rfl
  have e1 : dSet (1 + 1) (cEL fSum (lCons (oE pairC) lNil)) [some (.f L), some (.f L), some (.f (.int x)), some (.f (natD m)), a4] = .nx [some (.f L), some (.f L), some (.f (.int (W (polyT m) x))), some (.f (natD m)), a4] := by
    simp [dSet, cEL, lCons, lNil, oE, hp, rvs, rv, look, fSum, asL, hi, fin, Rs.m, hsum]
  unfold gbody
  refine Eq.trans (dSeq_nx e1) ?_
  have hpw : powOk 10 9 = true := by decide
  have ht : tBp (cP2 fGt (cVar (1 + 1)) (cP2 fPow (cD (.int 10)) (cD (.int 9)))) [some (.f L), some (.f L), some (.f (.int (W (polyT m) x))), some (.f (natD m)), a4] = .ok (decide (10 ^ 9 < W (polyT m) x)) [some (.f L), some (.f L), some (.f (.int (W (polyT m) x))), some (.f (natD m)), a4] := by
    simp [tBp, cP2, cVar, cD, look, fPow, f2I, hpw, scOf, fGt, gGt, f2B]
  by_cases h : 10 ^ 9 < W (polyT m) x
  · rw [decide_eq_true h] at ht
    rw [if_pos h]
    exact (dIf_t ht).trans rfl
  · rw [decide_eq_false h] at ht
    rw [if_neg h]
    exact (dIf_f ht).trans rfl
theorem gloop : ∀ (ms : List Nat) (x : Int) (a3 : Option M), (∀ m ∈ ms, m ≤ 3) → 0 ≤ x → x ≤ 10 ^ 9 →
    match run ms x with
    | some y => ∃ t3, forL [] (gN (1 + 2)) gbody (ms.map natD) [some (.f L), some (.f L), some (.f (.int x)), a3, none] = .nx [some (.f L), some (.f L), some (.f (.int y)), t3, none]
    | none => ∃ t2 t3, forL [] (gN (1 + 2)) gbody (ms.map natD) [some (.f L), some (.f L), some (.f (.int x)), a3, none] = .rt (.f (dueD (.error "faces"))) [some (.f L), some (.f L), t2, t3, none]
  | [], x, a3, _, _, _ => ⟨a3, rfl⟩
  | m :: ms, x, a3, hm, h0, h1 => by
    have m3 := hm m (List.mem_cons_self ..)
    have un : forL [] (gN (1 + 2)) gbody ((m :: ms).map natD) [some (.f L), some (.f L), some (.f (.int x)), a3, none] = (match gbody [some (.f L), some (.f L), some (.f (.int x)), some (.f (natD m)), none] with
        | .nx s2 => forL [] (gN (1 + 2)) gbody (ms.map natD) s2
        | .ct s2 => forL [] (gN (1 + 2)) gbody (ms.map natD) s2
        | .bk s2 => .nx s2
        | o => o) := rfl
    unfold run
    rw [un, gturn rfl m3 h0 h1]
    by_cases hw : 10 ^ 9 < W (polyT m) x
    · rw [if_pos hw, if_pos hw]
      exact ⟨_, _, rfl⟩
    · rw [if_neg hw, if_neg hw]
      exact gloop ms (W (polyT m) x) _ (fun k hk => hm k (List.mem_cons_of_mem _ hk)) (W_nonneg h0 _ 0 (by omega) fun p hp => (polyT_ok m p hp).2.1) (by omega)
end
noncomputable def overC : Dn.Env → Re M := (cLc ([("many", 2)].map (·.2) |>.map (1 + ·)) (iVar (1 + 0)) (gN (1 + 2)) (tBp (cP2 fGt (cVar (1 + 2)) (cD (.int 3)))) (vVar (1 + 2)))
theorem due_ok (ns : List Nat) (hl : ns.length < 90) : n_law_g_due_faces [.f (.lst (ns.map natD))] = .ok (.f (dueD (due ns))) [.f (.lst (ns.map natD))] := by
  have hlen : (ns.map natD).length = ns.length := List.length_map ..
  generalize hL : D.lst (ns.map natD) = L
  have he : entry 4 [.f L] = [some (M.f L), some (.f L), none, none, none] := rfl
  have t1 : tBp (cP2 fGt (cPL fLen (pCons (cVar (1 + 0)) pNil)) (cD (.int 6))) [some (M.f L), some (.f L), none, none, none] = .ok (decide (6 < ns.length)) [some (M.f L), some (.f L), none, none, none] := by
    subst hL
    simp [tBp, cP2, cPL, pCons, pNil, cVar, cD, look, fLen, asS, scOf, fGt, gGt, f2B]
    omega
  unfold due
  by_cases h6 : 6 < ns.length
  · rw [if_pos h6]
    rw [decide_eq_true h6] at t1
    refine dDef_rt (s1 := [some (M.f L), some (.f L), none, none, none]) rfl ?_ rfl
    rw [he]
    unfold d_law_g_due_faces
    exact dSeq_rt ((dIf_t t1).trans rfl)
  · rw [if_neg h6]
    rw [decide_eq_false h6] at t1
    have b1 : dIf (tBp (cP2 fGt (cPL fLen (pCons (cVar (1 + 0)) pNil)) (cD (.int 6)))) (dRt (cTup (lCons (vP (cD (.str "TooMany"))) (lCons (vP (cD (.str "layers"))) lNil)))) dNx [some (M.f L), some (.f L), none, none, none] = .nx [some (M.f L), some (.f L), none, none, none] := (dIf_f t1).trans rfl
    have ov : overC [some (M.f L), some (.f L), none, none, none] = .ok (.l ((ns.filter fun n => decide (3 < n)).map natD)) [some (M.f L), some (.f L), none, none, none] := by
      have hs : iVar (1 + 0) [some (M.f L), some (.f L), none, none, none] = .ok ⟨ns.map natD, [], id⟩ [some (M.f L), some (.f L), none, none, none] := by
        subst hL; rfl
      refine (cLc_ok hs rfl (s2 := [some (M.f L), some (.f L), none, none, none]) (ds := (ns.filter fun n => decide (3 < n)).map natD) ?_).trans rfl
      exact lcL_map (ls := []) (ow := [3]) natD (fun n => decide (3 < n)) natD (S := [some (M.f L), some (.f L), none, none, none]) rfl ns [] (fun n _ => ⟨[some (M.f L), some (.f L), none, some (.f (natD n)), none], [some (M.f L), some (.f L), none, some (.f (natD n)), none], rfl, by
          have : (3 < (n : Int)) ↔ 3 < n := by omega
          simp [tBp, cP2, cVar, cD, look, natD, fGt, gGt, f2B, scOf, this], by
          split
          · exact ⟨_, rfl, rfl⟩
          · rfl⟩) (by rw [List.length_nil]; omega)
    have t2 : tB2 (cE2 fGt (oE (cEL fLen (lCons (oE overC) lNil))) (oP (cD (.int 0)))) [some (M.f L), some (.f L), none, none, none] = .ok (ns.any fun n => decide (3 < n)) [some (M.f L), some (.f L), none, none, none] := by
      have : decide (0 < (((ns.filter fun n => decide (3 < n)).length : Nat) : Int)) = (ns.any fun n => decide (3 < n)) := by
        rw [Bool.eq_iff_iff, decide_eq_true_eq, List.any_eq_true]
        constructor
        · intro h
          have : 0 < (ns.filter fun n => decide (3 < n)).length := by omega
          obtain ⟨a, ha⟩ := List.exists_mem_of_length_pos this
          exact ⟨a, (List.mem_filter.mp ha).1, (List.mem_filter.mp ha).2⟩
        · intro ⟨a, h1, h2⟩
          have := List.length_pos_of_mem (List.mem_filter (p := fun n => decide (3 < n)).mpr ⟨h1, h2⟩)
          omega
      rw [← this]
      simp [tB2, cE2, oE, cEL, lCons, lNil, ov, rvs, rv, look, fLen, asS, fin, Rs.m, oP, cD, fGt, gGt, f2B]
    by_cases h3 : (ns.any fun n => decide (3 < n)) = true
    · rw [if_pos h3]
      rw [h3] at t2
      refine dDef_rt (s1 := [some (M.f L), some (.f L), none, none, none]) rfl ?_ rfl
      rw [he]
      unfold d_law_g_due_faces
      refine Eq.trans (dSeq_nx b1) ?_
      exact dSeq_rt ((dIf_t t2).trans rfl)
    · rw [if_neg h3]
      rw [Bool.eq_false_iff.mpr h3] at t2
      have hm : ∀ m ∈ ns.reverse, m ≤ 3 := fun m hm => by
        have hm := List.mem_reverse.mp hm
        rcases Nat.lt_or_ge 3 m with h | h
        · exact absurd (List.any_eq_true.mpr ⟨m, hm, by simp [h]⟩) h3
        · exact h
      have gl := gloop (L := L) ns.reverse 1 none hm (by decide) (by decide)
      have hsrc : iRv (vE (cEL fList (lCons (oVar (1 + 0)) lNil))) [some (M.f L), some (.f L), some (.f (.int 1)), none, none] = .ok ⟨ns.reverse.map natD, [], id⟩ [some (M.f L), some (.f L), some (.f (.int 1)), none, none] := by
        subst hL
        simp [iRv, vE, cEL, lCons, lNil, oVar, look, rvs, rv, fList, asLs, asL, asS, fin, Rs.m, frz, itemsQ]
      cases hr : run ns.reverse 1 with
      | some y =>
        rw [hr] at gl
        obtain ⟨t3, gl⟩ := gl
        refine dDef_rt (s1 := [some (M.f L), some (.f L), some (.f (.int y)), t3, none]) rfl ?_ rfl
        rw [he]
        unfold d_law_g_due_faces
        refine Eq.trans (dSeq_nx b1) ?_
        refine Eq.trans (dSeq_nx ((dIf_f t2).trans rfl)) ?_
        refine Eq.trans (dSeq_nx (dSet_ok rfl)) ?_
        exact Eq.trans (dSeq_nx (dFor_nx hsrc gl)) rfl
      | none =>
        rw [hr] at gl
        obtain ⟨t2', t3, gl⟩ := gl
        refine dDef_rt (s1 := [some (M.f L), some (.f L), t2', t3, none]) rfl ?_ rfl
        rw [he]
        unfold d_law_g_due_faces
        refine Eq.trans (dSeq_nx b1) ?_
        refine Eq.trans (dSeq_nx ((dIf_f t2).trans rfl)) ?_
        refine Eq.trans (dSeq_nx (dSet_ok rfl)) ?_
        exact dSeq_rt (dFor_rt hsrc gl)
end K45
end

section
set_option Elab.async false
set_option linter.all false
set_option maxRecDepth 1000000
set_option maxHeartbeats 4000000
/-! M45l: same -/
namespace K45
open PySem PySem.Spec PyProof.Rows L2 Dn
variable [Tb]
/-- plain data of a depth below k -/
def plain : Nat → D → Bool
  | 0, _ => false
  | _ + 1, .non => true
  | _ + 1, .bl _ => true
  | _ + 1, .int _ => true
  | _ + 1, .str x => PyData.strOk x
  | k + 1, .tup ds => ds.all (plain k)
  | k + 1, .lst ds => ds.all (plain k)
  | _ + 1, _ => false
noncomputable def sbd (me : Den) : Dn.Env → Out := (dIf (tN (tO (oE (cCall 2 me (lCons (oVar (2 + 3)) (lCons (oVar (2 + 4)) lNil)))))) (dRt (cP (cD (.bl false)))) dNx)
theorem sm_loop {me : Den} {m1 m2 s1 s2 : Option M} {lk : List (Nat × List D)} (hk : ∀ s : Dn.Env, s[0]? = some m1 → s[1]? = some m2 → lkBb s lk = true) : ∀ (ds : List D) (u v : Option M), (∀ d ∈ ds, me [.f d, .f d] = .ok (.f (.bl true)) [.f d, .f d]) →
    ∃ u' v', forL lk (gT 2 (gConsD (gN (2 + 3)) (gConsD (gN (2 + 4)) gNilD))) (sbd me) ((ds.zip ds).map pairD) [m1, m2, s1, s2, none, u, v] = .nx [m1, m2, s1, s2, none, u', v']
  | [], u, v, _ => ⟨u, v, lkC_of (hk _ rfl rfl)⟩
  | d :: ds, u, v, h => by
    obtain ⟨u', v', q⟩ := sm_loop hk ds (some (.f d)) (some (.f d)) fun e he => h e (List.mem_cons_of_mem _ he)
    refine ⟨u', v', ?_⟩
    have hd := h d (List.mem_cons_self ..)
    have e1 : sbd me [m1, m2, s1, s2, none, some (.f d), some (.f d)] = .nx [m1, m2, s1, s2, none, some (.f d), some (.f d)] := by
      have hc : cCall 2 me (lCons (oVar (2 + 3)) (lCons (oVar (2 + 4)) lNil)) [m1, m2, s1, s2, none, some (.f d), some (.f d)] = .ok (.f (.bl true)) [m1, m2, s1, s2, none, some (.f d), some (.f d)] := call_f2 ⟨_, _, rfl, rfl, rfl⟩ hd
      unfold sbd
      refine (dIf_f (s1 := [m1, m2, s1, s2, none, some (.f d), some (.f d)]) ?_).trans rfl
      simp [tN, tO, oE, hc, rv, tru]
    show lkC lk _ (match sbd me [m1, m2, s1, s2, none, some (.f d), some (.f d)] with
        | .nx s2 => forL lk _ (sbd me) ((ds.zip ds).map pairD) s2
        | .ct s2 => forL lk _ (sbd me) ((ds.zip ds).map pairD) s2
        | .bk s2 => .nx s2
        | o => o) = _
    rw [lkC_of (hk _ rfl rfl), e1]
    exact q
theorem sm_int (k : Nat) (i : Int) : n_law_same (k + 1) [.f (.int i), .f (.int i)] = .ok (.f (.bl true)) [.f (.int i), .f (.int i)] := by
  simp [n_law_same, dDef, d_law_same, entry, slotsOf, slotOf, fins, List.replicate, dSeq, dIf, dNx, dRt, tBp, tPt, cP, cP2, cPL, pCons, pNil, cVar, cD, look, fIsN, isN, scOf, fIsi, tyN, isK, tru, cAndV, cNotV, fEq_int]
theorem sm_str (k : Nat) {x : Str} (h : PyData.strOk x = true) : n_law_same (k + 1) [.f (.str x), .f (.str x)] = .ok (.f (.bl true)) [.f (.str x), .f (.str x)] := by
  have he : fEqB false (.f (.str x)) (.f (.str x)) = some (.sc (.bl true)) := by
    have hs : SeqAt.shaped (.str x) = true := by simp [SeqAt.shaped, PyData.canLay0, PyData.depth, h]
    simp [fEqB, pym, pyo, hs, PyData.eqv]
  simp [n_law_same, dDef, d_law_same, entry, slotsOf, slotOf, fins, List.replicate, dSeq, dIf, dNx, dRt, tBp, tPt, cP, cP2, cPL, pCons, pNil, cVar, cD, look, fIsN, isN, scOf, fIsi, tyN, isK, tru, cAndV, cNotV, he]
theorem sm_non (k : Nat) : n_law_same (k + 1) [.f .non, .f .non] = .ok (.f (.bl true)) [.f .non, .f .non] := by
  simp [n_law_same, dDef, d_law_same, entry, slotsOf, slotOf, fins, List.replicate, dSeq, dIf, dNx, dRt, tBp, tPt, cP, cP2, cPL, pCons, pNil, cVar, cD, look, fIsN, isN, scOf]
theorem sm_bl (k : Nat) (b : Bool) : n_law_same (k + 1) [.f (.bl b), .f (.bl b)] = .ok (.f (.bl true)) [.f (.bl b), .f (.bl b)] := by
  have he : fEqB false (.f (.bl b)) (.f (.bl b)) = some (.sc (.bl true)) := by
    have hs : SeqAt.shaped (.bool b) = true := by simp [SeqAt.shaped, PyData.canLay0, PyData.depth]
    simp [fEqB, pym, pyo, hs, PyData.eqv]
  simp [n_law_same, dDef, d_law_same, entry, slotsOf, slotOf, fins, List.replicate, dSeq, dIf, dNx, dRt, tBp, tPt, cP, cP2, cPL, pCons, pNil, cVar, cD, look, fIsN, isN, scOf, fIsi, tyN, isK, tru, cAndV, cNotV, he]
theorem ne_len (n : Nat) : fEqB true (.f (.int n)) (.f (.int n)) = some (.sc (.bl false)) := by
  have h : ∀ i : Int, SeqAt.shaped (.int i) = true := fun i => by simp [SeqAt.shaped, PyData.canLay0, PyData.depth]
  simp [fEqB, pym, pyo, h, PyData.eqv]
theorem sm_tup (k : Nat) {ds : List D} (h : ∀ d ∈ ds, n_law_same k [.f d, .f d] = .ok (.f (.bl true)) [.f d, .f d]) : n_law_same (k + 1) [.f (.tup ds), .f (.tup ds)] = .ok (.f (.bl true)) [.f (.tup ds), .f (.tup ds)] := by
  obtain ⟨u, v, q⟩ := sm_loop (me := n_law_same k) (m1 := some (.f (.tup ds))) (m2 := some (.f (.tup ds))) (s1 := some (.f (.tup ds))) (s2 := some (.f (.tup ds))) (lk := []) (fun _ _ _ => rfl) ds none none h
  have hz : iZip 2 (lCons (oVar (2 + 0)) (lCons (oVar (2 + 1)) lNil)) [some (.f (.tup ds)), some (.f (.tup ds)), some (.f (.tup ds)), some (.f (.tup ds)), none, none, none] = .ok ⟨(ds.zip ds).map pairD, [], id⟩ [some (.f (.tup ds)), some (.f (.tup ds)), some (.f (.tup ds)), some (.f (.tup ds)), none, none, none] := rfl
  refine dDef_rt (s1 := [some (.f (.tup ds)), some (.f (.tup ds)), some (.f (.tup ds)), some (.f (.tup ds)), none, u, v]) rfl ?_ rfl
  have he : entry 5 [.f (.tup ds), .f (.tup ds)] = [some (.f (.tup ds)), some (.f (.tup ds)), some (.f (.tup ds)), some (.f (.tup ds)), none, none, none] := rfl
  rw [he]
  unfold sbd at q
  have hf := dFor_nx hz q
  have hn := ne_len ds.length
  simp [d_law_same, dSeq, dIf, dNx, tBp, tPt, tN, cP2, cPL, pCons, pNil, cVar, cD, look, fIsN, isN, scOf, fIsi, tyN, isK, tru, fLen, asS, hn] at hf ⊢
  rw [hf]
  rfl
theorem sm_lst (k : Nat) {ds : List D} (h : ∀ d ∈ ds, n_law_same k [.f d, .f d] = .ok (.f (.bl true)) [.f d, .f d]) : n_law_same (k + 1) [.f (.lst ds), .f (.lst ds)] = .ok (.f (.bl true)) [.f (.lst ds), .f (.lst ds)] := by
  obtain ⟨u, v, q⟩ := sm_loop (me := n_law_same k) (m1 := some (.f (.lst ds))) (m2 := some (.f (.lst ds))) (s1 := some (.f (.lst ds))) (s2 := some (.f (.lst ds))) (lk := []) (fun _ _ _ => rfl) ds none none h
  have hz : iZip 2 (lCons (oVar (2 + 0)) (lCons (oVar (2 + 1)) lNil)) [some (.f (.lst ds)), some (.f (.lst ds)), some (.f (.lst ds)), some (.f (.lst ds)), none, none, none] = .ok ⟨(ds.zip ds).map pairD, [], id⟩ [some (.f (.lst ds)), some (.f (.lst ds)), some (.f (.lst ds)), some (.f (.lst ds)), none, none, none] := rfl
  refine dDef_rt (s1 := [some (.f (.lst ds)), some (.f (.lst ds)), some (.f (.lst ds)), some (.f (.lst ds)), none, u, v]) rfl ?_ rfl
  have he : entry 5 [.f (.lst ds), .f (.lst ds)] = [some (.f (.lst ds)), some (.f (.lst ds)), some (.f (.lst ds)), some (.f (.lst ds)), none, none, none] := rfl
  rw [he]
  unfold sbd at q
  have hf := dFor_nx hz q
  have hn := ne_len ds.length
  simp [d_law_same, dSeq, dIf, dNx, tBp, tPt, tN, cP2, cPL, pCons, pNil, cVar, cD, look, fIsN, isN, scOf, fIsi, tyN, isK, tru, fLen, asS, hn] at hf ⊢
  rw [hf]
  rfl
theorem sm_plain : ∀ (k : Nat) (d : D), plain k d = true → n_law_same k [.f d, .f d] = .ok (.f (.bl true)) [.f d, .f d]
  | 0, d, h => by
    cases d <;> (unfold plain at h; cases h)
  | k + 1, d, h => by
    cases d with
    | non => exact sm_non k
    | bl b => exact sm_bl k b
    | int i => exact sm_int k i
    | str x => exact sm_str k (by simpa [plain] using h)
    | tup ds => exact sm_tup k fun d hd => sm_plain k d (List.all_eq_true.mp (by simpa [plain] using h : ds.all (plain k) = true) d hd)
    | lst ds => exact sm_lst k fun d hd => sm_plain k d (List.all_eq_true.mp (by simpa [plain] using h : ds.all (plain k) = true) d hd)
    | _ => simp [plain] at h
end K45
end

section
set_option Elab.async false
set_option linter.all false
set_option maxRecDepth 1000000
set_option maxHeartbeats 4000000
/-! M45m: the law's own body -/
namespace K45
open PySem PySem.Spec PyProof.Rows L2 Dn
variable [Tb]
theorem due_plain (ns : List Nat) : plain 2 (dueD (due ns)) = true := by
  unfold due
  split
  · decide +kernel
  · split
    · decide +kernel
    · split
      · rename_i x _
        show ([D.str "told", D.int x]).all (plain 1) = true
        have h1 : plain 1 (.str "told") = true := by decide +kernel
        have h2 : plain 1 (.int x) = true := by simp [plain]
        simp [h1, h2]
      · decide +kernel
/-- one of the six lists -/
noncomputable def abody : Dn.Env → Out := (dSeq (dSet (1 + 8) (cEL fList (lCons (oVar (1 + 7)) lNil)))
  (dIf (tOr (tN (tO (oE (cCall 2 (n_law_same 2) (lCons (oE (cCall 1 n_law_g_told_faces (lCons (oVar (1 + 8)) lNil))) (lCons (oE (cCall 1 n_law_g_due_faces (lCons (oVar (1 + 7)) lNil))) lNil)))))) (tBp (cP2 fNe (cVar (1 + 8)) (cVar (1 + 7))))) (dRt (cP (cD (.bl false)))) dNx))
section
variable {t0 t1 t2 t3 t4 t5 t6 t7 t9 t10 t11 : Option M}
theorem abody_ok (ns : List Nat) (hl : ns.length < 90) : abody [t0, t1, t2, t3, t4, t5, t6, t7, some (.f (.lst (ns.map natD))), t9, t10, t11] = .nx [t0, t1, t2, t3, t4, t5, t6, t7, some (.f (.lst (ns.map natD))), some (.l (ns.map natD)), t10, t11] := by
  have h1 := told_ok ns hl
  have h2 := due_ok ns hl
  have h3 := sm_plain 2 _ (due_plain ns)
  have hne : fEqB true (.l (ns.map natD)) (.f (.lst (ns.map natD))) = some (.sc (.bl false)) := by
    rw [intD_map, fEqB_ints (xs := ns.map fun m : Nat => (m : Int)) (ys := ns.map fun m : Nat => (m : Int)) rfl rfl]
    simp
  generalize ns.map natD = ds at h1 h2 hne ⊢
  generalize dueD (due ns) = e at h1 h2 h3
  have e1 : dSet (1 + 8) (cEL fList (lCons (oVar (1 + 7)) lNil)) [t0, t1, t2, t3, t4, t5, t6, t7, some (.f (.lst ds)), t9, t10, t11] = .nx [t0, t1, t2, t3, t4, t5, t6, t7, some (.f (.lst ds)), some (.l ds), t10, t11] := dSet_ok rfl
  generalize hs : [t0, t1, t2, t3, t4, t5, t6, t7, some (M.f (.lst ds)), some (M.l ds), t10, t11] = s at e1 ⊢
  have c1 : cCall 1 n_law_g_told_faces (lCons (oVar (1 + 8)) lNil) s = .ok (.f e) (s.set 9 (some (.l ds))) := call_l1 (by subst hs; rfl) (by subst hs; rfl) h1
  have hs9 : s.set 9 (some (.l ds)) = s := by subst hs; rfl
  rw [hs9] at c1
  have c2 : cCall 1 n_law_g_due_faces (lCons (oVar (1 + 7)) lNil) s = .ok (.f e) s := call_f1 ⟨.s 8, by subst hs; rfl, by subst hs; rfl⟩ h2
  have c3 : cCall 2 (n_law_same 2) (lCons (oE (cCall 1 n_law_g_told_faces (lCons (oVar (1 + 8)) lNil))) (lCons (oE (cCall 1 n_law_g_due_faces (lCons (oVar (1 + 7)) lNil))) lNil)) s = .ok (.f (.bl true)) s := by
    refine call_f2 ⟨.v e, .v e, ?_, rfl, rfl⟩ h3
    simp [lCons, lNil, oE, c1, c2]
  have c4 : tBp (cP2 fNe (cVar (1 + 8)) (cVar (1 + 7))) s = .ok false s := by
    have v1 : cVar (1 + 8) s = some (.l ds) := by subst hs; rfl
    have v2 : cVar (1 + 7) s = some (.f (.lst ds)) := by subst hs; rfl
    unfold tBp cP2
    rw [v1, v2]
    simp only [hne, scOf]
  unfold abody
  refine Eq.trans (dSeq_nx e1) ?_
  refine (dIf_f (s1 := s) ?_).trans rfl
  have hr : rv s (.v (.bl true)) = some (.f (.bl true)) := rfl
  simp only [Dn.tOr, tN, tO, oE, c3, hr, tru, c4, List.take_length, Bool.not_true]
theorem aloop : ∀ (ls : List (List Nat)) (t8 t9 : Option M), (∀ ns ∈ ls, ns.length < 90) → ∃ u8 u9, forL [] (gN (1 + 7)) abody (ls.map fun ns => D.lst (ns.map natD)) [t0, t1, t2, t3, t4, t5, t6, t7, t8, t9, t10, t11] = .nx [t0, t1, t2, t3, t4, t5, t6, t7, u8, u9, t10, t11]
  | [], t8, t9, _ => ⟨t8, t9, rfl⟩
  | ns :: ls, t8, t9, h => by
    obtain ⟨u8, u9, q⟩ := aloop ls (some (.f (.lst (ns.map natD)))) (some (.l (ns.map natD))) fun x hx => h x (List.mem_cons_of_mem _ hx)
    refine ⟨u8, u9, ?_⟩
    have un : forL [] (gN (1 + 7)) abody ((ns :: ls).map fun ns => D.lst (ns.map natD)) [t0, t1, t2, t3, t4, t5, t6, t7, t8, t9, t10, t11] = (match abody [t0, t1, t2, t3, t4, t5, t6, t7, some (.f (.lst (ns.map natD))), t9, t10, t11] with
        | .nx s2 => forL [] (gN (1 + 7)) abody (ls.map fun ns => D.lst (ns.map natD)) s2
        | .ct s2 => forL [] (gN (1 + 7)) abody (ls.map fun ns => D.lst (ns.map natD)) s2
        | .bk s2 => .nx s2
        | o => o) := rfl
    rw [un, abody_ok ns (h ns (List.mem_cons_self ..))]
    exact q
/-- numbers drawn -/
theorem draws {k : Int} (hk : 0 < k) (hk2 : k < 2 ^ 100) {n r : Nat} {a st kk : Int} (g : Sg n a st kk) (hn : n + r ≤ 1000000) (hr : r ≤ 1000) :
    ∃ (ds : List Nat) (a' st' kk' : Int), lcL [] [11] (gN (1 + 10)) qYes (vE (cCall 2 n_law_pick (lCons (oVar (1 + 1)) (lCons (oP (cD (.int k))) lNil)))) (rgD 0 1 r) [t0, t1, some (src a st kk), t3, t4, t5, t6, t7, none, t9, t10, none] [] = .ok (ds.map natD) [t0, t1, some (src a' st' kk'), t3, t4, t5, t6, t7, none, t9, t10, none] ∧ Sg (n + r) a' st' kk' ∧ ds.length = r := by
  obtain ⟨ds, s', q, q2⟩ := lcL_sp (ls := []) (ow := [11]) (t := gN (1 + 10)) (q := qYes) (b := vE (cCall 2 n_law_pick (lCons (oVar (1 + 1)) (lCons (oP (cD (.int k))) lNil)))) (rgD 0 1 r)
    (fun i s acc => ∃ (ds : List Nat) (a' st' kk' : Int), acc = ds.map natD ∧ s = [t0, t1, some (src a' st' kk'), t3, t4, t5, t6, t7, none, t9, t10, none] ∧ Sg (n + i) a' st' kk' ∧ ds.length = i ∧ i ≤ r) [t0, t1, some (src a st kk), t3, t4, t5, t6, t7, none, t9, t10, none] []
    (fun i d s acc hi ⟨ds, a', st', kk', h1, h2, h3, h4, h5⟩ => by
      have hir : i < r := by
        have := (List.getElem?_eq_some_iff.mp hi).1
        rwa [rgD_len] at this
      obtain ⟨x, a2, st2, kk2, hp, x0, x1, g2⟩ := pick_ok h3 (by omega) hk hk2
      subst h1 h2
      have hx : D.int x = natD x.toNat := by
        show D.int x = D.int (x.toNat : Int)
        rw [Int.toNat_of_nonneg x0]
      refine ⟨rfl, _, rfl, ?_⟩
      refine ⟨natD x.toNat, [t0, t1, some (src a2 st2 kk2), t3, t4, t5, t6, t7, none, t9, t10, some (.f d)], ?_, by rw [List.length_map]; omega, ⟨ds ++ [x.toNat], a2, st2, kk2, by rw [List.map_append]; rfl, rfl, g2, by rw [List.length_append, List.length_singleton, h4], hir⟩⟩
      refine Eq.trans (vE_ok (call_l2 (i := 2) rfl rfl hp)) ?_
      rw [← hx]; rfl) (fun _ _ _ => rfl) ⟨[], a, st, kk, rfl, rfl, g, rfl, by omega⟩
  obtain ⟨ds', a', st', kk', h1, h2, h3, h4, _⟩ := q2
  rw [rgD_len] at h3 h4
  subst h1 h2
  exact ⟨ds', a', st', kk', q, h3, h4⟩
end
def menu : List (List Nat) := [[3, 2], [2, 3], [2, 2, 1], [1, 1, 1, 2], [1, 1, 1, 1, 1], [3, 1, 1], [1, 3, 1], [3, 3], [2, 2, 2], [3, 2, 1], [1, 1, 1, 1, 2], [1, 1, 1, 1, 1, 1]]
def smalls : List (List Nat) := [[3], [1, 2], [2, 1], [1, 1, 1], [1, 1], [2], [0, 1], [1, 0, 1]]
def nats (l : List Nat) : D := .lst (l.map natD)
theorem smalls_ok {l : List Nat} (h : l ∈ smalls) : ∃ i : Int, n_faces_of [.f (nats l)] = .ok (.f (.int i)) [.f (nats l)] ∧ n_law_g_all_families [.f (nats l)] = .ok (.f (.int i)) [.f (nats l)] := by
  simp only [smalls, List.mem_cons, List.not_mem_nil, or_false] at h
  rcases h with rfl | rfl | rfl | rfl | rfl | rfl | rfl | rfl
  · exact ⟨_, ff1, fa1⟩
  · exact ⟨_, ff2, fa2⟩
  · exact ⟨_, ff3, fa3⟩
  · exact ⟨_, ff4, fa4⟩
  · exact ⟨_, ff5, fa5⟩
  · exact ⟨_, ff6, fa6⟩
  · exact ⟨_, ff7, fa7⟩
  · exact ⟨_, ff8, fa8⟩
theorem ins_nat (l : List Nat) (j : Nat) (x : Nat) : (l.map natD).take j ++ [natD x] ++ (l.map natD).drop j = (l.take j ++ [x] ++ l.drop j).map natD := by
  rw [List.map_append, List.map_append, List.map_take, List.map_drop]; rfl
theorem cut5 (l : List Nat) : ∃ l' : List Nat, Dn.cutD (l.map natD) none (some 5) = l'.map natD ∧ l'.length ≤ l.length := by
  refine ⟨(l.drop (HT.sIx (l.map natD).length 0 none)).take (HT.sIx (l.map natD).length (l.map natD).length (some 5) - HT.sIx (l.map natD).length 0 none), ?_, ?_⟩
  · unfold Dn.cutD
    rw [List.map_take, List.map_drop]
  · rw [List.length_take, List.length_drop]; omega
end K45
end

section
set_option Elab.async false
set_option linter.all false
set_option maxRecDepth 1000000
set_option maxHeartbeats 4000000
/-! M45n: the law is kept -/
namespace K45
open PySem PySem.Spec PyProof.Rows L2 Dn
variable [Tb]
noncomputable abbrev drawsD (k : Int) : Dn.Env → Re D := vE (cCall 2 n_law_pick (lCons (oVar (1 + 1)) (lCons (oP (cD (.int k))) lNil)))
theorem toN {x : Int} (h : 0 ≤ x) : D.int x = natD x.toNat := by
  show D.int x = D.int (x.toNat : Int)
  rw [Int.toNat_of_nonneg h]
theorem ix_nats {ls : List (List Nat)} {x : Int} (h0 : 0 ≤ x) (h1 : x < ls.length) : ∃ l ∈ ls, fIx (.l (ls.map nats)) (.f (.int x)) = some (.sc (nats l)) := by
  have hx : x.toNat < ls.length := by omega
  refine ⟨ls[x.toNat], List.getElem_mem hx, ?_⟩
  have : ixN (ls.map nats).length x = some x.toNat := ixN_of h0 (by rw [List.length_map]; exact h1)
  show (atI (ls.map nats) x).map Rs.sc = _
  have h2 : atI (ls.map nats) x = some (nats ls[x.toNat]) := by
    unfold atI
    rw [this]
    show (ls.map nats)[x.toNat]? = _
    rw [List.getElem?_map, List.getElem?_eq_getElem hx]; rfl
  rw [h2]; rfl
theorem menu_len : ∀ l ∈ menu, l.length ≤ 6 := by
  have : menu.all (fun l => decide (l.length ≤ 6)) = true := by decide
  intro l hl
  simpa using List.all_eq_true.mp this l hl
theorem src6 {c s2 s4 : Option M} {xs ys zs ws : List D} : iV (vE (cLst (lCons (vVar (1 + 2)) (lCons (vVar (1 + 4)) (lCons (vE (cLst lNil)) (lCons (vVar (1 + 5)) (lCons (vVar (1 + 6)) (lCons (vVar (1 + 2)) lNil)))))))) [c, c, s2, some (.l xs), s4, some (.l ys), some (.l zs), some (.l ws), none, none, none, none] =
    .ok ⟨[.lst xs, .lst ys, .lst [], .lst zs, .lst ws, .lst xs], [], id⟩ [c, c, s2, some (.f (.lst xs)), s4, some (.f (.lst ys)), some (.f (.lst zs)), some (.f (.lst ws)), none, none, none, none] := by
  simp [iV, vE, cLst, lCons, lNil, vVar, look, root, frz, fitsL, itemsOf]
theorem src6' {c s2 s4 : Option M} {xs ys zs ws : List Nat} : iV (vE (cLst (lCons (vVar (1 + 2)) (lCons (vVar (1 + 4)) (lCons (vE (cLst lNil)) (lCons (vVar (1 + 5)) (lCons (vVar (1 + 6)) (lCons (vVar (1 + 2)) lNil)))))))) [c, c, s2, some (.l (xs.map natD)), s4, some (.l (ys.map natD)), some (.l (zs.map natD)), some (.l (ws.map natD)), none, none, none, none] =
    .ok ⟨[xs, ys, [], zs, ws, xs].map fun ns => D.lst (ns.map natD), [], id⟩ [c, c, s2, some (.f (nats xs)), s4, some (.f (nats ys)), some (.f (nats zs)), some (.f (nats ws)), none, none, none, none] := by
  rw [src6]; rfl
theorem e9_ok {c s2 s4 : Option M} {xs ys zs ws : List Nat} {s' : Dn.Env} (qa : forL [] (gN (1 + 7)) abody ([xs, ys, [], zs, ws, xs].map fun ns => D.lst (ns.map natD)) [c, c, s2, some (.f (nats xs)), s4, some (.f (nats ys)), some (.f (nats zs)), some (.f (nats ws)), none, none, none, none] = .nx s') :
    dFor (iV (vE (cLst (lCons (vVar (1 + 2)) (lCons (vVar (1 + 4)) (lCons (vE (cLst lNil)) (lCons (vVar (1 + 5)) (lCons (vVar (1 + 6)) (lCons (vVar (1 + 2)) lNil))))))))) (gN (1 + 7)) abody [c, c, s2, some (.l (xs.map natD)), s4, some (.l (ys.map natD)), some (.l (zs.map natD)), some (.l (ws.map natD)), none, none, none, none] = .nx s' := dFor_nx src6' qa
section
variable {c : Option M}
theorem p2_30 : powOk 10 30 = true := by decide
theorem law_ok {ns : List Int} (hn : ns.length ≤ 63) : ∃ ms, n_law [.f (.rl (ns.map D.int))] = .ok (.f (.bl true)) ms := by
  obtain ⟨a, st, k, hs, g⟩ := source_ok hn
  generalize ns.map D.int = R at hs ⊢
  generalize hc : some (M.f (.rl R)) = c
  have e1 : dSet (1 + 1) (cCall 2 n_law_source (lCons (oVar (1 + 0)) (lCons (oP (cD (.int 0))) lNil))) [c, c, none, none, none, none, none, none, none, none, none, none] = .nx [c, c, some (src a st k), none, none, none, none, none, none, none, none, none] := by
    subst hc
    refine Eq.trans (dSet_ok (call_f2 ⟨_, _, rfl, rfl, rfl⟩ hs)) rfl
  -- sizes
  obtain ⟨x1, a1, st1, k1, p1, x10, x11, g1⟩ := pick_ok (m := 7) g (by decide) (by decide) (by decide)
  obtain ⟨sizes, a2, st2, k2, q2, g2, l2⟩ := draws (t0 := c) (t1 := c) (t3 := none) (t4 := none) (t5 := none) (t6 := none) (t7 := none) (t9 := none) (t10 := none) (k := 4) (by decide) (by decide) (r := x1.toNat) g1 (by omega) (by omega)
  have e2 : dSet (1 + 2) (cLc ([("at", 10)].map (·.2) |>.map (1 + ·)) (iRg rg1 (lCons (vE (cCall 2 n_law_pick (lCons (oVar (1 + 1)) (lCons (oP (cD (.int 7))) lNil)))) lNil)) (gN (1 + 10)) qYes (drawsD 4)) [c, c, some (src a st k), none, none, none, none, none, none, none, none, none] =
      .nx [c, c, some (src a2 st2 k2), some (.l (sizes.map natD)), none, none, none, none, none, none, none, none] := by
    have hi : iRg rg1 (lCons (vE (cCall 2 n_law_pick (lCons (oVar (1 + 1)) (lCons (oP (cD (.int 7))) lNil)))) lNil) [c, c, some (src a st k), none, none, none, none, none, none, none, none, none] = .ok ⟨rgD 0 1 x1.toNat, [], id⟩ [c, c, some (src a1 st1 k1), none, none, none, none, none, none, none, none, none] := by
      refine iRg1_ok' (lCons_ok (x := D.int (x1.toNat : Int)) ?_ rfl) (by omega)
      refine Eq.trans (vE_ok (call_l2 (i := 2) rfl rfl p1)) ?_
      rw [Int.toNat_of_nonneg x10]; rfl
    exact Eq.trans (dSet_ok (cLc_ok hi rfl q2)) rfl
  -- menu
  have e3 : dSet (1 + 3) (cLst (lCons (vE (cLst (lCons (vP (cD (.int 3))) (lCons (vP (cD (.int 2))) lNil)))) (lCons (vE (cLst (lCons (vP (cD (.int 2))) (lCons (vP (cD (.int 3))) lNil)))) (lCons (vE (cLst (lCons (vP (cD (.int 2))) (lCons (vP (cD (.int 2))) (lCons (vP (cD (.int 1))) lNil))))) (lCons (vE (cLst (lCons (vP (cD (.int 1))) (lCons (vP (cD (.int 1))) (lCons (vP (cD (.int 1))) (lCons (vP (cD (.int 2))) lNil)))))) (lCons (vE (cLst (lCons (vP (cD (.int 1))) (lCons (vP (cD (.int 1))) (lCons (vP (cD (.int 1))) (lCons (vP (cD (.int 1))) (lCons (vP (cD (.int 1))) lNil))))))) (lCons (vE (cLst (lCons (vP (cD (.int 3))) (lCons (vP (cD (.int 1))) (lCons (vP (cD (.int 1))) lNil))))) (lCons (vE (cLst (lCons (vP (cD (.int 1))) (lCons (vP (cD (.int 3))) (lCons (vP (cD (.int 1))) lNil))))) (lCons (vE (cLst (lCons (vP (cD (.int 3))) (lCons (vP (cD (.int 3))) lNil)))) (lCons (vE (cLst (lCons (vP (cD (.int 2))) (lCons (vP (cD (.int 2))) (lCons (vP (cD (.int 2))) lNil))))) (lCons (vE (cLst (lCons (vP (cD (.int 3))) (lCons (vP (cD (.int 2))) (lCons (vP (cD (.int 1))) lNil))))) (lCons (vE (cLst (lCons (vP (cD (.int 1))) (lCons (vP (cD (.int 1))) (lCons (vP (cD (.int 1))) (lCons (vP (cD (.int 1))) (lCons (vP (cD (.int 2))) lNil))))))) (lCons (vE (cLst (lCons (vP (cD (.int 1))) (lCons (vP (cD (.int 1))) (lCons (vP (cD (.int 1))) (lCons (vP (cD (.int 1))) (lCons (vP (cD (.int 1))) (lCons (vP (cD (.int 1))) lNil)))))))) lNil))))))))))))) [c, c, some (src a2 st2 k2), some (.l (sizes.map natD)), none, none, none, none, none, none, none, none] =
      .nx [c, c, some (src a2 st2 k2), some (.l (sizes.map natD)), some (.l (menu.map nats)), none, none, none, none, none, none, none] := Eq.trans (dSet_ok rfl) rfl
  -- near
  obtain ⟨x3, a3, st3, k3, p3, x30, x31, g3⟩ := pick_ok (m := 12) g2 (by omega) (by decide) (by decide)
  obtain ⟨near, hnear, hix⟩ := ix_nats (ls := menu) x30 x31
  have hnl := menu_len near hnear
  have e4 : dSet (1 + 4) (cEL fList (lCons (oE (cE2 fIx (oVar (1 + 3)) (oE (cCall 2 n_law_pick (lCons (oVar (1 + 1)) (lCons (oP (cPL fLen (pCons (cVar (1 + 3)) pNil))) lNil)))))) lNil)) [c, c, some (src a2 st2 k2), some (.l (sizes.map natD)), some (.l (menu.map nats)), none, none, none, none, none, none, none] =
      .nx [c, c, some (src a3 st3 k3), some (.l (sizes.map natD)), some (.l (menu.map nats)), some (.l (near.map natD)), none, none, none, none, none, none] := by
    have h1 : cCall 2 n_law_pick (lCons (oVar (1 + 1)) (lCons (oP (cPL fLen (pCons (cVar (1 + 3)) pNil))) lNil)) [c, c, some (src a2 st2 k2), some (.l (sizes.map natD)), some (.l (menu.map nats)), none, none, none, none, none, none, none] = .ok (.f (.int x3)) [c, c, some (src a3 st3 k3), some (.l (sizes.map natD)), some (.l (menu.map nats)), none, none, none, none, none, none, none] := Eq.trans (call_l2 (i := 2) rfl rfl p3) rfl
    have h2 : cE2 fIx (oVar (1 + 3)) (oE (cCall 2 n_law_pick (lCons (oVar (1 + 1)) (lCons (oP (cPL fLen (pCons (cVar (1 + 3)) pNil))) lNil)))) [c, c, some (src a2 st2 k2), some (.l (sizes.map natD)), some (.l (menu.map nats)), none, none, none, none, none, none, none] = .ok (.f (nats near)) [c, c, some (src a3 st3 k3), some (.l (sizes.map natD)), some (.l (menu.map nats)), none, none, none, none, none, none, none] := Eq.trans (cE2_ok (r1 := .s 4) rfl (oE_v h1) rfl rfl hix) rfl
    exact Eq.trans (dSet_ok (cEL_ok (lCons_ok (oE_v h2) rfl) rfl rfl)) rfl
  -- an empty layer put in
  obtain ⟨near2, a4, st4, k4, e5, g4, hn2⟩ : ∃ (near2 : List Nat) (a4 st4 k4 : Int), dIf (tBp (cP2 fLt (cPL fLen (pCons (cVar (1 + 4)) pNil)) (cD (.int 6)))) (dDo (cMt (1 + 4) wIns (lCons (vE (cCall 2 n_law_pick (lCons (oVar (1 + 1)) (lCons (oP (cP2 fAdd (cPL fLen (pCons (cVar (1 + 4)) pNil)) (cD (.int 1)))) lNil)))) (lCons (vP (cD (.int 0))) lNil)))) dNx [c, c, some (src a3 st3 k3), some (.l (sizes.map natD)), some (.l (menu.map nats)), some (.l (near.map natD)), none, none, none, none, none, none] =
      .nx [c, c, some (src a4 st4 k4), some (.l (sizes.map natD)), some (.l (menu.map nats)), some (.l (near2.map natD)), none, none, none, none, none, none] ∧ Sg (0 + 1 + x1.toNat + 1 + 1) a4 st4 k4 ∧ near2.length ≤ 10 := by
    have ht : tBp (cP2 fLt (cPL fLen (pCons (cVar (1 + 4)) pNil)) (cD (.int 6))) [c, c, some (src a3 st3 k3), some (.l (sizes.map natD)), some (.l (menu.map nats)), some (.l (near.map natD)), none, none, none, none, none, none] = .ok (decide (((near.map natD).length : Int) < 6)) [c, c, some (src a3 st3 k3), some (.l (sizes.map natD)), some (.l (menu.map nats)), some (.l (near.map natD)), none, none, none, none, none, none] := rfl
    by_cases h6 : ((near.map natD).length : Int) < 6
    · rw [decide_eq_true h6] at ht
      obtain ⟨x4, a4, st4, k4, p4, x40, x41, g4⟩ := pick_ok (m := ((near.map natD).length : Int) + 1) g3 (by omega) (by omega) (by omega)
      refine ⟨near.take x4.toNat ++ [0] ++ near.drop x4.toNat, a4, st4, k4, ?_, g4, by simp; omega⟩
      refine Eq.trans (dIf_t ht) ?_
      have h1 : cCall 2 n_law_pick (lCons (oVar (1 + 1)) (lCons (oP (cP2 fAdd (cPL fLen (pCons (cVar (1 + 4)) pNil)) (cD (.int 1)))) lNil)) [c, c, some (src a3 st3 k3), some (.l (sizes.map natD)), some (.l (menu.map nats)), some (.l (near.map natD)), none, none, none, none, none, none] = .ok (.f (.int x4)) [c, c, some (src a4 st4 k4), some (.l (sizes.map natD)), some (.l (menu.map nats)), some (.l (near.map natD)), none, none, none, none, none, none] := Eq.trans (call_l2 (i := 2) rfl rfl p4) rfl
      have hw : wIns (near.map natD) [.int x4, .int 0] = some (.non, (near.take x4.toNat ++ [0] ++ near.drop x4.toNat).map natD) := by
        rw [← ins_nat]
        exact if_pos ⟨by rw [List.length_map]; omega, x40, by omega⟩
      exact Eq.trans (dDo_ok (cMt_ok (xs0 := near.map natD) rfl (lCons_ok (vE_ok h1) rfl) rfl hw)) rfl
    · rw [decide_eq_false h6] at ht
      exact ⟨near, a3, st3, k3, Eq.trans (dIf_f ht) rfl, ⟨g3.a0, g3.s0, g3.s1, g3.k0, by have := g3.k1; omega⟩, by omega⟩
  -- long
  obtain ⟨x5, a5, st5, k5, p5, x50, x51, g5⟩ := pick_ok (m := 4) g4 (by omega) (by decide) (by decide)
  obtain ⟨long, a6, st6, k6, q6, g6, l6⟩ := draws (t0 := c) (t1 := c) (t3 := some (.l (sizes.map natD))) (t4 := some (.l (menu.map nats))) (t5 := some (.l (near2.map natD))) (t6 := none) (t7 := none) (t9 := none) (t10 := none) (k := 6) (by decide) (by decide) (r := (7 + x5).toNat) g5 (by omega) (by omega)
  have e6 : dSet (1 + 5) (cLc ([("at", 10)].map (·.2) |>.map (1 + ·)) (iRg rg1 (lCons (vE (cE2 fAdd (oP (cD (.int 7))) (oE (cCall 2 n_law_pick (lCons (oVar (1 + 1)) (lCons (oP (cD (.int 4))) lNil)))))) lNil)) (gN (1 + 10)) qYes (drawsD 6)) [c, c, some (src a4 st4 k4), some (.l (sizes.map natD)), some (.l (menu.map nats)), some (.l (near2.map natD)), none, none, none, none, none, none] =
      .nx [c, c, some (src a6 st6 k6), some (.l (sizes.map natD)), some (.l (menu.map nats)), some (.l (near2.map natD)), some (.l (long.map natD)), none, none, none, none, none] := by
    have hi : iRg rg1 (lCons (vE (cE2 fAdd (oP (cD (.int 7))) (oE (cCall 2 n_law_pick (lCons (oVar (1 + 1)) (lCons (oP (cD (.int 4))) lNil)))))) lNil) [c, c, some (src a4 st4 k4), some (.l (sizes.map natD)), some (.l (menu.map nats)), some (.l (near2.map natD)), none, none, none, none, none, none] = .ok ⟨rgD 0 1 (7 + x5).toNat, [], id⟩ [c, c, some (src a5 st5 k5), some (.l (sizes.map natD)), some (.l (menu.map nats)), some (.l (near2.map natD)), none, none, none, none, none, none] := by
      refine iRg1_ok' (lCons_ok (x := D.int ((7 + x5).toNat : Int)) ?_ rfl) (by omega)
      have h1 : cCall 2 n_law_pick (lCons (oVar (1 + 1)) (lCons (oP (cD (.int 4))) lNil)) [c, c, some (src a4 st4 k4), some (.l (sizes.map natD)), some (.l (menu.map nats)), some (.l (near2.map natD)), none, none, none, none, none, none] = .ok (.f (.int x5)) [c, c, some (src a5 st5 k5), some (.l (sizes.map natD)), some (.l (menu.map nats)), some (.l (near2.map natD)), none, none, none, none, none, none] := Eq.trans (call_l2 (i := 2) rfl rfl p5) rfl
      refine Eq.trans (vE_ok (cE2_ok (r1 := .v (.int 7)) rfl (oE_v h1) rfl rfl rfl)) ?_
      rw [Int.toNat_of_nonneg (by omega)]; rfl
    exact Eq.trans (dSet_ok (cLc_ok hi rfl q6)) rfl
  -- wide
  obtain ⟨wide, e7, hw7⟩ : ∃ wide : List Nat, dSet (1 + 6) (cIf (tBp (cP2 fLt (cPL fLen (pCons (cVar (1 + 2)) pNil)) (cD (.int 6)))) (cEL fList (lCons (oVar (1 + 2)) lNil)) (cSl fCut (oVar (1 + 2)) none (some (oP (cD (.int 5)))))) [c, c, some (src a6 st6 k6), some (.l (sizes.map natD)), some (.l (menu.map nats)), some (.l (near2.map natD)), some (.l (long.map natD)), none, none, none, none, none] =
      .nx [c, c, some (src a6 st6 k6), some (.l (sizes.map natD)), some (.l (menu.map nats)), some (.l (near2.map natD)), some (.l (long.map natD)), some (.l (wide.map natD)), none, none, none, none] ∧ wide.length ≤ 10 := by
    by_cases h6 : ((sizes.map natD).length : Int) < 6
    · refine ⟨sizes, Eq.trans (dSet_ok (m := .l (sizes.map natD)) (s1 := [c, c, some (src a6 st6 k6), some (.l (sizes.map natD)), some (.l (menu.map nats)), some (.l (near2.map natD)), some (.l (long.map natD)), none, none, none, none, none]) ?_) rfl, by omega⟩
      unfold cIf
      rw [tBp_ok (b := true) (by rw [← decide_eq_true h6]; rfl)]
      rfl
    · obtain ⟨w, hw, hwl⟩ := cut5 sizes
      refine ⟨w, Eq.trans (dSet_ok (m := .l (w.map natD)) (s1 := [c, c, some (src a6 st6 k6), some (.l (sizes.map natD)), some (.l (menu.map nats)), some (.l (near2.map natD)), some (.l (long.map natD)), none, none, none, none, none]) ?_) rfl, by omega⟩
      unfold cIf
      rw [tBp_ok (b := false) (by rw [← decide_eq_false h6]; rfl), ← hw]
      rfl
  obtain ⟨x8, a8, st8, k8, p8, x80, x81, g8⟩ := pick_ok (m := ((wide.map natD).length : Int) + 1) g6 (by omega) (by omega) (by rw [List.length_map]; omega)
  obtain ⟨x9, a9, st9, k9, p9, x90, _, g9⟩ := number_ok (l := 1000000000000000000000000000000) g8 (by omega) (by decide)
  obtain ⟨wide2, hwide2⟩ : ∃ w : List Nat, w = wide.take x8.toNat ++ [(4 + x9).toNat] ++ wide.drop x8.toNat := ⟨_, rfl⟩
  have e8 : dDo (cMt (1 + 6) wIns (lCons (vE (cCall 2 n_law_pick (lCons (oVar (1 + 1)) (lCons (oP (cP2 fAdd (cPL fLen (pCons (cVar (1 + 6)) pNil)) (cD (.int 1)))) lNil)))) (lCons (vE (cE2 fAdd (oP (cD (.int 4))) (oE (cCall 2 n_law_number (lCons (oVar (1 + 1)) (lCons (oP (cP2 fPow (cD (.int 10)) (cD (.int 30)))) lNil)))))) lNil))) [c, c, some (src a6 st6 k6), some (.l (sizes.map natD)), some (.l (menu.map nats)), some (.l (near2.map natD)), some (.l (long.map natD)), some (.l (wide.map natD)), none, none, none, none] =
      .nx [c, c, some (src a9 st9 k9), some (.l (sizes.map natD)), some (.l (menu.map nats)), some (.l (near2.map natD)), some (.l (long.map natD)), some (.l (wide2.map natD)), none, none, none, none] := by
    have h1 : cCall 2 n_law_pick (lCons (oVar (1 + 1)) (lCons (oP (cP2 fAdd (cPL fLen (pCons (cVar (1 + 6)) pNil)) (cD (.int 1)))) lNil)) [c, c, some (src a6 st6 k6), some (.l (sizes.map natD)), some (.l (menu.map nats)), some (.l (near2.map natD)), some (.l (long.map natD)), some (.l (wide.map natD)), none, none, none, none] = .ok (.f (.int x8)) [c, c, some (src a8 st8 k8), some (.l (sizes.map natD)), some (.l (menu.map nats)), some (.l (near2.map natD)), some (.l (long.map natD)), some (.l (wide.map natD)), none, none, none, none] := Eq.trans (call_l2 (i := 2) rfl rfl p8) rfl
    have hp : cP2 fPow (cD (.int 10)) (cD (.int 30)) [c, c, some (src a8 st8 k8), some (.l (sizes.map natD)), some (.l (menu.map nats)), some (.l (near2.map natD)), some (.l (long.map natD)), some (.l (wide.map natD)), none, none, none, none] = some (.f (.int 1000000000000000000000000000000)) := by
      simp [cP2, cD, fPow, f2I, p2_30, scOf]
    have h2a : lCons (oVar (1 + 1)) (lCons (oP (cP2 fPow (cD (.int 10)) (cD (.int 30)))) lNil) [c, c, some (src a8 st8 k8), some (.l (sizes.map natD)), some (.l (menu.map nats)), some (.l (near2.map natD)), some (.l (long.map natD)), some (.l (wide.map natD)), none, none, none, none] = .ok [.s 2, .v (.int 1000000000000000000000000000000)] [c, c, some (src a8 st8 k8), some (.l (sizes.map natD)), some (.l (menu.map nats)), some (.l (near2.map natD)), some (.l (long.map natD)), some (.l (wide.map natD)), none, none, none, none] := by
      refine lCons_ok (s1 := [c, c, some (src a8 st8 k8), some (.l (sizes.map natD)), some (.l (menu.map nats)), some (.l (near2.map natD)), some (.l (long.map natD)), some (.l (wide.map natD)), none, none, none, none]) rfl (lCons_ok (s1 := [c, c, some (src a8 st8 k8), some (.l (sizes.map natD)), some (.l (menu.map nats)), some (.l (near2.map natD)), some (.l (long.map natD)), some (.l (wide.map natD)), none, none, none, none]) ?_ rfl)
      unfold oP
      rw [hp]
    have h2 : cCall 2 n_law_number (lCons (oVar (1 + 1)) (lCons (oP (cP2 fPow (cD (.int 10)) (cD (.int 30)))) lNil)) [c, c, some (src a8 st8 k8), some (.l (sizes.map natD)), some (.l (menu.map nats)), some (.l (near2.map natD)), some (.l (long.map natD)), some (.l (wide.map natD)), none, none, none, none] = .ok (.f (.int x9)) [c, c, some (src a9 st9 k9), some (.l (sizes.map natD)), some (.l (menu.map nats)), some (.l (near2.map natD)), some (.l (long.map natD)), some (.l (wide.map natD)), none, none, none, none] := Eq.trans (call_l2 (i := 2) h2a rfl p9) rfl
    have hw : wIns (wide.map natD) [.int x8, .int (4 + x9)] = some (.non, wide2.map natD) := by
      rw [hwide2, ← ins_nat, ← toN (x := 4 + x9) (by omega)]
      exact if_pos ⟨by rw [List.length_map]; omega, x80, by rw [List.length_map] at x81; omega⟩
    exact Eq.trans (dDo_ok (cMt_ok (xs0 := wide.map natD) rfl (lCons_ok (vE_ok h1) (lCons_ok (vE_ok (cE2_ok (r1 := .v (.int 4)) rfl (oE_v h2) rfl rfl rfl)) rfl)) rfl hw)) rfl
  have hw2 : wide2.length < 90 := by rw [hwide2]; simp; omega
  -- the six lists
  obtain ⟨u8, u9, qa⟩ := aloop (t0 := c) (t1 := c) (t2 := some (src a9 st9 k9)) (t3 := some (.f (nats sizes))) (t4 := some (.l (menu.map nats))) (t5 := some (.f (nats near2))) (t6 := some (.f (nats long))) (t7 := some (.f (nats wide2))) (t10 := none) (t11 := none) [sizes, near2, [], long, wide2, sizes] none none (fun l hl => by
    simp only [List.mem_cons, List.not_mem_nil, or_false] at hl
    rcases hl with rfl | rfl | rfl | rfl | rfl | rfl
    · omega
    · omega
    · decide
    · omega
    · exact hw2
    · omega)
  have e9 : dFor (iV (vE (cLst (lCons (vVar (1 + 2)) (lCons (vVar (1 + 4)) (lCons (vE (cLst lNil)) (lCons (vVar (1 + 5)) (lCons (vVar (1 + 6)) (lCons (vVar (1 + 2)) lNil))))))))) (gN (1 + 7)) abody [c, c, some (src a9 st9 k9), some (.l (sizes.map natD)), some (.l (menu.map nats)), some (.l (near2.map natD)), some (.l (long.map natD)), some (.l (wide2.map natD)), none, none, none, none] =
      .nx [c, c, some (src a9 st9 k9), some (.f (nats sizes)), some (.l (menu.map nats)), some (.f (nats near2)), some (.f (nats long)), some (.f (nats wide2)), u8, u9, none, none] := by
    exact e9_ok qa
  -- the small one
  have e10 : dSet (1 + 9) (cLst (lCons (vE (cLst (lCons (vP (cD (.int 3))) lNil))) (lCons (vE (cLst (lCons (vP (cD (.int 1))) (lCons (vP (cD (.int 2))) lNil)))) (lCons (vE (cLst (lCons (vP (cD (.int 2))) (lCons (vP (cD (.int 1))) lNil)))) (lCons (vE (cLst (lCons (vP (cD (.int 1))) (lCons (vP (cD (.int 1))) (lCons (vP (cD (.int 1))) lNil))))) (lCons (vE (cLst (lCons (vP (cD (.int 1))) (lCons (vP (cD (.int 1))) lNil)))) (lCons (vE (cLst (lCons (vP (cD (.int 2))) lNil))) (lCons (vE (cLst (lCons (vP (cD (.int 0))) (lCons (vP (cD (.int 1))) lNil)))) (lCons (vE (cLst (lCons (vP (cD (.int 1))) (lCons (vP (cD (.int 0))) (lCons (vP (cD (.int 1))) lNil))))) lNil))))))))) [c, c, some (src a9 st9 k9), some (.f (nats sizes)), some (.l (menu.map nats)), some (.f (nats near2)), some (.f (nats long)), some (.f (nats wide2)), u8, u9, none, none] =
      .nx [c, c, some (src a9 st9 k9), some (.f (nats sizes)), some (.l (menu.map nats)), some (.f (nats near2)), some (.f (nats long)), some (.f (nats wide2)), u8, u9, some (.l (smalls.map nats)), none] := Eq.trans (dSet_ok rfl) rfl
  obtain ⟨x11', a11, st11, k11, p11, x110, x111, g11⟩ := pick_ok (m := 8) g9 (by omega) (by decide) (by decide)
  obtain ⟨sm, hsm, hix2⟩ := ix_nats (ls := smalls) x110 x111
  obtain ⟨f, hf1, hf2⟩ := smalls_ok hsm
  have e11 : dSet (1 + 9) (cE2 fIx (oVar (1 + 9)) (oE (cCall 2 n_law_pick (lCons (oVar (1 + 1)) (lCons (oP (cPL fLen (pCons (cVar (1 + 9)) pNil))) lNil))))) [c, c, some (src a9 st9 k9), some (.f (nats sizes)), some (.l (menu.map nats)), some (.f (nats near2)), some (.f (nats long)), some (.f (nats wide2)), u8, u9, some (.l (smalls.map nats)), none] =
      .nx [c, c, some (src a11 st11 k11), some (.f (nats sizes)), some (.l (menu.map nats)), some (.f (nats near2)), some (.f (nats long)), some (.f (nats wide2)), u8, u9, some (.f (nats sm)), none] := by
    have h1 : cCall 2 n_law_pick (lCons (oVar (1 + 1)) (lCons (oP (cPL fLen (pCons (cVar (1 + 9)) pNil))) lNil)) [c, c, some (src a9 st9 k9), some (.f (nats sizes)), some (.l (menu.map nats)), some (.f (nats near2)), some (.f (nats long)), some (.f (nats wide2)), u8, u9, some (.l (smalls.map nats)), none] = .ok (.f (.int x11')) [c, c, some (src a11 st11 k11), some (.f (nats sizes)), some (.l (menu.map nats)), some (.f (nats near2)), some (.f (nats long)), some (.f (nats wide2)), u8, u9, some (.l (smalls.map nats)), none] := Eq.trans (call_l2 (i := 2) rfl rfl p11) rfl
    exact Eq.trans (dSet_ok (cE2_ok (r1 := .s 10) rfl (oE_v h1) rfl rfl hix2)) rfl
  have e12 : dRt (cCall 2 (n_law_same 2) (lCons (oE (cCall 1 n_faces_of (lCons (oVar (1 + 9)) lNil))) (lCons (oE (cCall 1 n_law_g_all_families (lCons (oVar (1 + 9)) lNil))) lNil))) [c, c, some (src a11 st11 k11), some (.f (nats sizes)), some (.l (menu.map nats)), some (.f (nats near2)), some (.f (nats long)), some (.f (nats wide2)), u8, u9, some (.f (nats sm)), none] =
      .rt (.f (.bl true)) [c, c, some (src a11 st11 k11), some (.f (nats sizes)), some (.l (menu.map nats)), some (.f (nats near2)), some (.f (nats long)), some (.f (nats wide2)), u8, u9, some (.f (nats sm)), none] := by
    generalize hS : [c, c, some (src a11 st11 k11), some (M.f (nats sizes)), some (M.l (menu.map nats)), some (M.f (nats near2)), some (M.f (nats long)), some (M.f (nats wide2)), u8, u9, some (M.f (nats sm)), none] = S
    have c1 : cCall 1 n_faces_of (lCons (oVar (1 + 9)) lNil) S = .ok (.f (.int f)) S := call_f1 ⟨.s 10, by subst hS; rfl, by subst hS; rfl⟩ hf1
    have c2 : cCall 1 n_law_g_all_families (lCons (oVar (1 + 9)) lNil) S = .ok (.f (.int f)) S := call_f1 ⟨.s 10, by subst hS; rfl, by subst hS; rfl⟩ hf2
    exact dRt_ok (call_f2 ⟨.v (.int f), .v (.int f), lCons_ok (oE_v c1) (lCons_ok (oE_v c2) rfl), rfl, rfl⟩ (sm_int 1 f))
  refine ⟨[.f (.rl R)], ?_⟩
  refine dDef_rt (s1 := [c, c, some (src a11 st11 k11), some (.f (nats sizes)), some (.l (menu.map nats)), some (.f (nats near2)), some (.f (nats long)), some (.f (nats wide2)), u8, u9, some (.f (nats sm)), none]) rfl ?_ (by subst hc; rfl)
  have he : entry 11 [.f (.rl R)] = [c, c, none, none, none, none, none, none, none, none, none, none] := by subst hc; rfl
  rw [he]
  unfold d_law
  refine Eq.trans (dSeq_nx e1) ?_
  refine Eq.trans (dSeq_nx e2) ?_
  refine Eq.trans (dSeq_nx e3) ?_
  refine Eq.trans (dSeq_nx e4) ?_
  refine Eq.trans (dSeq_nx e5) ?_
  refine Eq.trans (dSeq_nx e6) ?_
  refine Eq.trans (dSeq_nx e7) ?_
  refine Eq.trans (dSeq_nx e8) ?_
  refine Eq.trans (dSeq_nx e9) ?_
  refine Eq.trans (dSeq_nx e10) ?_
  refine Eq.trans (dSeq_nx e11) ?_
  exact e12
end
end K45
end

section
set_option Elab.async false
set_option linter.all false
set_option maxRecDepth 100000
set_option maxHeartbeats 4000000
/-! J45: what the top has written; the promise of the law -/
namespace K45
open PySem PySem.Spec PyProof.Rows L2 Dn
def q1 : Str := (("closed_families" : Str) ++ ".<locals>.") ++ "<lambda>"
def free0 (H : Hp) : Hp := fun b => match H b with
  | some (.tbl _) => none
  | o => o
theorem free0_get {H : Hp} {b : Addr} {o : HO} (h : H b = some o) (n : ∀ ps, o ≠ .tbl ps) : free0 H b = some o := by
  unfold free0
  rw [h]
  cases o <;> first | rfl | exact absurd rfl (n _)
theorem law_promise [Tb] {K : PySem.W.Frag} {mg : Mg} {H : Hp} {a : Addr} {ns : List Int} (hl : ns.length ≤ 63) (ht : ∀ p ∈ Tb.T, H p.1 = some (.tbl #[])) (hs : SqL K H a (ns.map V.int)) :
    spD K mg 1 n_law [.ref a] H (fun v _ => v = .bl true) fun _ _ _ => False := by
  obtain ⟨ms, e⟩ := law_ok hl
  have ok : Ok (⟨free0 H, H, fun _ => none⟩ : Z) := by
    refine ⟨fun a π q => by (cases q), fun a π q => by (cases q), fun a o q => ?_, fun a π q => by (cases q), fun p hp => ?_, fun a ps q => ?_⟩
    · have q : free0 H a = some o := q
      unfold free0 at q
      split at q
      · cases q
      · exact q
    · exact LamX.TabS.nil (ht p hp)
    · show free0 H a = none
      unfold free0
      have q : H a = some (.tbl ps) := q
      rw [q]
  refine ⟨rfl, ⟨free0 H, H, fun _ => none⟩, [.f (.rl (ns.map D.int))], rfl, ok, ⟨_, [], rfl, ⟨a, ns.map V.int, rfl, ?_, reps_ints ns⟩, rfl⟩, ?_⟩
  · rcases hs with (hs | ⟨o, hs⟩) | hs
    · exact .inl (.inl (free0_get hs fun _ e => by (cases e)))
    · exact .inl (.inr ⟨o, free0_get hs fun _ e => by (cases e)⟩)
    · exact .inr hs
  · rw [e]
    exact fun v z' _ _ _ ow => ow

theorem all_mk {w : World} {K : PySem.W.Frag} {h : Heap} {mg : Str → Option Value} {fa : Addr}
    {A_bound : Addr} {oc_bound kV_bound dc_bound pm_bound cd_bound ct_bound : Value} {od_bound an_bound : Option Addr} {sl_bound : Array (Option Value)}
    {A_full_set : Addr} {oc_full_set kV_full_set dc_full_set pm_full_set cd_full_set ct_full_set : Value} {od_full_set an_full_set : Option Addr} {sl_full_set : Array (Option Value)}
    {A_is_closed : Addr} {oc_is_closed kV_is_closed dc_is_closed pm_is_closed cd_is_closed ct_is_closed : Value} {od_is_closed an_is_closed : Option Addr} {sl_is_closed : Array (Option Value)}
    {A_closed_families : Addr} {oc_closed_families kV_closed_families dc_closed_families pm_closed_families cd_closed_families ct_closed_families : Value} {od_closed_families an_closed_families : Option Addr} {sl_closed_families : Array (Option Value)}
    {A_size_poly : Addr} {oc_size_poly kV_size_poly dc_size_poly pm_size_poly cd_size_poly ct_size_poly : Value} {od_size_poly an_size_poly : Option Addr} {sl_size_poly : Array (Option Value)}
    {A_poly_worth : Addr} {oc_poly_worth kV_poly_worth dc_poly_worth pm_poly_worth cd_poly_worth ct_poly_worth : Value} {od_poly_worth an_poly_worth : Option Addr} {sl_poly_worth : Array (Option Value)}
    {A_faces_by_layer : Addr} {oc_faces_by_layer kV_faces_by_layer dc_faces_by_layer pm_faces_by_layer cd_faces_by_layer ct_faces_by_layer : Value} {od_faces_by_layer an_faces_by_layer : Option Addr} {sl_faces_by_layer : Array (Option Value)}
    {A_faces_of : Addr} {oc_faces_of kV_faces_of dc_faces_of pm_faces_of cd_faces_of ct_faces_of : Value} {od_faces_of an_faces_of : Option Addr} {sl_faces_of : Array (Option Value)}
    {A_law_source : Addr} {oc_law_source kV_law_source dc_law_source pm_law_source cd_law_source ct_law_source : Value} {od_law_source an_law_source : Option Addr} {sl_law_source : Array (Option Value)}
    {A_law_pick : Addr} {oc_law_pick kV_law_pick dc_law_pick pm_law_pick cd_law_pick ct_law_pick : Value} {od_law_pick an_law_pick : Option Addr} {sl_law_pick : Array (Option Value)}
    {A_law_number : Addr} {oc_law_number kV_law_number dc_law_number pm_law_number cd_law_number ct_law_number : Value} {od_law_number an_law_number : Option Addr} {sl_law_number : Array (Option Value)}
    {A_law_same : Addr} {oc_law_same kV_law_same dc_law_same pm_law_same cd_law_same ct_law_same : Value} {od_law_same an_law_same : Option Addr} {sl_law_same : Array (Option Value)}
    {A_law_fault : Addr} {oc_law_fault kV_law_fault dc_law_fault pm_law_fault cd_law_fault ct_law_fault : Value} {od_law_fault an_law_fault : Option Addr} {sl_law_fault : Array (Option Value)}
    {A_law_g_times : Addr} {oc_law_g_times kV_law_g_times dc_law_g_times pm_law_g_times cd_law_g_times ct_law_g_times : Value} {od_law_g_times an_law_g_times : Option Addr} {sl_law_g_times : Array (Option Value)}
    {A_law_g_poly : Addr} {oc_law_g_poly kV_law_g_poly dc_law_g_poly pm_law_g_poly cd_law_g_poly ct_law_g_poly : Value} {od_law_g_poly an_law_g_poly : Option Addr} {sl_law_g_poly : Array (Option Value)}
    {A_law_g_names : Addr} {oc_law_g_names kV_law_g_names dc_law_g_names pm_law_g_names cd_law_g_names ct_law_g_names : Value} {od_law_g_names an_law_g_names : Option Addr} {sl_law_g_names : Array (Option Value)}
    {A_law_g_rows : Addr} {oc_law_g_rows kV_law_g_rows dc_law_g_rows pm_law_g_rows cd_law_g_rows ct_law_g_rows : Value} {od_law_g_rows an_law_g_rows : Option Addr} {sl_law_g_rows : Array (Option Value)}
    {A_law_g_bits : Addr} {oc_law_g_bits kV_law_g_bits dc_law_g_bits pm_law_g_bits cd_law_g_bits ct_law_g_bits : Value} {od_law_g_bits an_law_g_bits : Option Addr} {sl_law_g_bits : Array (Option Value)}
    {A_law_g_family : Addr} {oc_law_g_family kV_law_g_family dc_law_g_family pm_law_g_family cd_law_g_family ct_law_g_family : Value} {od_law_g_family an_law_g_family : Option Addr} {sl_law_g_family : Array (Option Value)}
    {A_law_g_due_faces : Addr} {oc_law_g_due_faces kV_law_g_due_faces dc_law_g_due_faces pm_law_g_due_faces cd_law_g_due_faces ct_law_g_due_faces : Value} {od_law_g_due_faces an_law_g_due_faces : Option Addr} {sl_law_g_due_faces : Array (Option Value)}
    {A_law_g_told_faces : Addr} {oc_law_g_told_faces kV_law_g_told_faces dc_law_g_told_faces pm_law_g_told_faces cd_law_g_told_faces ct_law_g_told_faces : Value} {od_law_g_told_faces an_law_g_told_faces : Option Addr} {sl_law_g_told_faces : Array (Option Value)}
    {A_law_g_subsets : Addr} {oc_law_g_subsets kV_law_g_subsets dc_law_g_subsets pm_law_g_subsets cd_law_g_subsets ct_law_g_subsets : Value} {od_law_g_subsets an_law_g_subsets : Option Addr} {sl_law_g_subsets : Array (Option Value)}
    {A_law_g_all_rules : Addr} {oc_law_g_all_rules kV_law_g_all_rules dc_law_g_all_rules pm_law_g_all_rules cd_law_g_all_rules ct_law_g_all_rules : Value} {od_law_g_all_rules an_law_g_all_rules : Option Addr} {sl_law_g_all_rules : Array (Option Value)}
    {A_law_g_all_families : Addr} {oc_law_g_all_families kV_law_g_all_families dc_law_g_all_families pm_law_g_all_families cd_law_g_all_families ct_law_g_all_families : Value} {od_law_g_all_families an_law_g_all_families : Option Addr} {sl_law_g_all_families : Array (Option Value)}
    {A_law : Addr} {oc_law kV_law dc_law pm_law cd_law ct_law : Value} {od_law an_law : Option Addr} {sl_law : Array (Option Value)}
    {c1 P1 aL CT CS fI : Addr} {oI kVI dcI pmI cdI ctI : Value} {odI anI : Option Addr} {slI : Array (Option Value)} {nm q : Str} {N : Addr} {bs bm : List Value} {sn : List Str} {sub : List Value} {ab : Bool} {col : Option Bool} {dd : Option Addr} {k0 k1 k2 k3 k5 : Option Value} {es : Array DictEntry} {en : Nat} {tk0 tk1 tk2 : Tok} {ts : List Addr}
    (X : K.In h) (G : h.Ns mainGlobals mg) (hfa : mg "law" = some (.ref fa)) (hT : ∀ P ∈ ts, h.get? P = some (PySem.W.tabObj #[]))
    (a_bound : PySem.W.nsIn K mainGlobals "bound" = some (some (.ref A_bound))) (l_bound : K.lookup A_bound = some ⟨oc_bound, od_bound, .func (PySem.W.fnOf "bound" "bound" (defArgs s_bound) (defBody s_bound) (defScope s_bound) .none kV_bound dc_bound pm_bound an_bound cd_bound ct_bound), sl_bound⟩)
    (c_bound : PySem.W.codeIn K cd_bound "bound" = true) (k_bound : PySem.W.keepIn K (.ref A_bound) = true)
    (a_full_set : PySem.W.nsIn K mainGlobals "full_set" = some (some (.ref A_full_set))) (l_full_set : K.lookup A_full_set = some ⟨oc_full_set, od_full_set, .func (PySem.W.fnOf "full_set" "full_set" (defArgs s_full_set) (defBody s_full_set) (defScope s_full_set) .none kV_full_set dc_full_set pm_full_set an_full_set cd_full_set ct_full_set), sl_full_set⟩)
    (c_full_set : PySem.W.codeIn K cd_full_set "full_set" = true) (k_full_set : PySem.W.keepIn K (.ref A_full_set) = true)
    (a_is_closed : PySem.W.nsIn K mainGlobals "is_closed" = some (some (.ref A_is_closed))) (l_is_closed : K.lookup A_is_closed = some ⟨oc_is_closed, od_is_closed, .func (PySem.W.fnOf "is_closed" "is_closed" (defArgs s_is_closed) (defBody s_is_closed) (defScope s_is_closed) .none kV_is_closed dc_is_closed pm_is_closed an_is_closed cd_is_closed ct_is_closed), sl_is_closed⟩)
    (c_is_closed : PySem.W.codeIn K cd_is_closed "is_closed" = true) (k_is_closed : PySem.W.keepIn K (.ref A_is_closed) = true)
    (a_closed_families : PySem.W.nsIn K mainGlobals "closed_families" = some (some (.ref A_closed_families))) (l_closed_families : K.lookup A_closed_families = some ⟨oc_closed_families, od_closed_families, .func (PySem.W.fnOf "closed_families" "closed_families" (defArgs s_closed_families) (defBody s_closed_families) (defScope s_closed_families) .none kV_closed_families dc_closed_families pm_closed_families an_closed_families (.ref c1) ct_closed_families), sl_closed_families⟩)
    (c_closed_families : PySem.W.codeIn K (.ref c1) "closed_families" = true) (k_closed_families : PySem.W.keepIn K (.ref A_closed_families) = true)
    (a_size_poly : PySem.W.nsIn K mainGlobals "size_poly" = some (some (.ref A_size_poly))) (l_size_poly : K.lookup A_size_poly = some ⟨oc_size_poly, od_size_poly, .func (PySem.W.fnOf "size_poly" "size_poly" (defArgs s_size_poly) (defBody s_size_poly) (defScope s_size_poly) .none kV_size_poly dc_size_poly pm_size_poly an_size_poly cd_size_poly ct_size_poly), sl_size_poly⟩)
    (c_size_poly : PySem.W.codeIn K cd_size_poly "size_poly" = true) (k_size_poly : PySem.W.keepIn K (.ref A_size_poly) = true)
    (a_poly_worth : PySem.W.nsIn K mainGlobals "poly_worth" = some (some (.ref A_poly_worth))) (l_poly_worth : K.lookup A_poly_worth = some ⟨oc_poly_worth, od_poly_worth, .func (PySem.W.fnOf "poly_worth" "poly_worth" (defArgs s_poly_worth) (defBody s_poly_worth) (defScope s_poly_worth) .none kV_poly_worth dc_poly_worth pm_poly_worth an_poly_worth cd_poly_worth ct_poly_worth), sl_poly_worth⟩)
    (c_poly_worth : PySem.W.codeIn K cd_poly_worth "poly_worth" = true) (k_poly_worth : PySem.W.keepIn K (.ref A_poly_worth) = true)
    (a_faces_by_layer : PySem.W.nsIn K mainGlobals "faces_by_layer" = some (some (.ref A_faces_by_layer))) (l_faces_by_layer : K.lookup A_faces_by_layer = some ⟨oc_faces_by_layer, od_faces_by_layer, .func (PySem.W.fnOf "faces_by_layer" "faces_by_layer" (defArgs s_faces_by_layer) (defBody s_faces_by_layer) (defScope s_faces_by_layer) .none kV_faces_by_layer dc_faces_by_layer pm_faces_by_layer an_faces_by_layer cd_faces_by_layer ct_faces_by_layer), sl_faces_by_layer⟩)
    (c_faces_by_layer : PySem.W.codeIn K cd_faces_by_layer "faces_by_layer" = true) (k_faces_by_layer : PySem.W.keepIn K (.ref A_faces_by_layer) = true)
    (a_faces_of : PySem.W.nsIn K mainGlobals "faces_of" = some (some (.ref A_faces_of))) (l_faces_of : K.lookup A_faces_of = some ⟨oc_faces_of, od_faces_of, .func (PySem.W.fnOf "faces_of" "faces_of" (defArgs s_faces_of) (defBody s_faces_of) (defScope s_faces_of) .none kV_faces_of dc_faces_of pm_faces_of an_faces_of cd_faces_of ct_faces_of), sl_faces_of⟩)
    (c_faces_of : PySem.W.codeIn K cd_faces_of "faces_of" = true) (k_faces_of : PySem.W.keepIn K (.ref A_faces_of) = true)
    (a_law_source : PySem.W.nsIn K mainGlobals "_law_source" = some (some (.ref A_law_source))) (l_law_source : K.lookup A_law_source = some ⟨oc_law_source, od_law_source, .func (PySem.W.fnOf "_law_source" "_law_source" (defArgs s_law_source) (defBody s_law_source) (defScope s_law_source) .none kV_law_source dc_law_source pm_law_source an_law_source cd_law_source ct_law_source), sl_law_source⟩)
    (c_law_source : PySem.W.codeIn K cd_law_source "_law_source" = true) (k_law_source : PySem.W.keepIn K (.ref A_law_source) = true)
    (a_law_pick : PySem.W.nsIn K mainGlobals "_law_pick" = some (some (.ref A_law_pick))) (l_law_pick : K.lookup A_law_pick = some ⟨oc_law_pick, od_law_pick, .func (PySem.W.fnOf "_law_pick" "_law_pick" (defArgs s_law_pick) (defBody s_law_pick) (defScope s_law_pick) .none kV_law_pick dc_law_pick pm_law_pick an_law_pick cd_law_pick ct_law_pick), sl_law_pick⟩)
    (c_law_pick : PySem.W.codeIn K cd_law_pick "_law_pick" = true) (k_law_pick : PySem.W.keepIn K (.ref A_law_pick) = true)
    (a_law_number : PySem.W.nsIn K mainGlobals "_law_number" = some (some (.ref A_law_number))) (l_law_number : K.lookup A_law_number = some ⟨oc_law_number, od_law_number, .func (PySem.W.fnOf "_law_number" "_law_number" (defArgs s_law_number) (defBody s_law_number) (defScope s_law_number) .none kV_law_number dc_law_number pm_law_number an_law_number cd_law_number ct_law_number), sl_law_number⟩)
    (c_law_number : PySem.W.codeIn K cd_law_number "_law_number" = true) (k_law_number : PySem.W.keepIn K (.ref A_law_number) = true)
    (a_law_same : PySem.W.nsIn K mainGlobals "_law_same" = some (some (.ref A_law_same))) (l_law_same : K.lookup A_law_same = some ⟨oc_law_same, od_law_same, .func (PySem.W.fnOf "_law_same" "_law_same" (defArgs s_law_same) (defBody s_law_same) (defScope s_law_same) .none kV_law_same dc_law_same pm_law_same an_law_same cd_law_same ct_law_same), sl_law_same⟩)
    (c_law_same : PySem.W.codeIn K cd_law_same "_law_same" = true) (k_law_same : PySem.W.keepIn K (.ref A_law_same) = true)
    (a_law_fault : PySem.W.nsIn K mainGlobals "_law_fault" = some (some (.ref A_law_fault))) (l_law_fault : K.lookup A_law_fault = some ⟨oc_law_fault, od_law_fault, .func (PySem.W.fnOf "_law_fault" "_law_fault" (defArgs s_law_fault) (defBody s_law_fault) (defScope s_law_fault) .none kV_law_fault dc_law_fault pm_law_fault an_law_fault cd_law_fault ct_law_fault), sl_law_fault⟩)
    (c_law_fault : PySem.W.codeIn K cd_law_fault "_law_fault" = true) (k_law_fault : PySem.W.keepIn K (.ref A_law_fault) = true)
    (a_law_g_times : PySem.W.nsIn K mainGlobals "_law_g_times" = some (some (.ref A_law_g_times))) (l_law_g_times : K.lookup A_law_g_times = some ⟨oc_law_g_times, od_law_g_times, .func (PySem.W.fnOf "_law_g_times" "_law_g_times" (defArgs s_law_g_times) (defBody s_law_g_times) (defScope s_law_g_times) .none kV_law_g_times dc_law_g_times pm_law_g_times an_law_g_times cd_law_g_times ct_law_g_times), sl_law_g_times⟩)
    (c_law_g_times : PySem.W.codeIn K cd_law_g_times "_law_g_times" = true) (k_law_g_times : PySem.W.keepIn K (.ref A_law_g_times) = true)
    (a_law_g_poly : PySem.W.nsIn K mainGlobals "_law_g_poly" = some (some (.ref A_law_g_poly))) (l_law_g_poly : K.lookup A_law_g_poly = some ⟨oc_law_g_poly, od_law_g_poly, .func (PySem.W.fnOf "_law_g_poly" "_law_g_poly" (defArgs s_law_g_poly) (defBody s_law_g_poly) (defScope s_law_g_poly) .none kV_law_g_poly dc_law_g_poly pm_law_g_poly an_law_g_poly cd_law_g_poly ct_law_g_poly), sl_law_g_poly⟩)
    (c_law_g_poly : PySem.W.codeIn K cd_law_g_poly "_law_g_poly" = true) (k_law_g_poly : PySem.W.keepIn K (.ref A_law_g_poly) = true)
    (a_law_g_names : PySem.W.nsIn K mainGlobals "_law_g_names" = some (some (.ref A_law_g_names))) (l_law_g_names : K.lookup A_law_g_names = some ⟨oc_law_g_names, od_law_g_names, .func (PySem.W.fnOf "_law_g_names" "_law_g_names" (defArgs s_law_g_names) (defBody s_law_g_names) (defScope s_law_g_names) .none kV_law_g_names dc_law_g_names pm_law_g_names an_law_g_names cd_law_g_names ct_law_g_names), sl_law_g_names⟩)
    (c_law_g_names : PySem.W.codeIn K cd_law_g_names "_law_g_names" = true) (k_law_g_names : PySem.W.keepIn K (.ref A_law_g_names) = true)
    (a_law_g_rows : PySem.W.nsIn K mainGlobals "_law_g_rows" = some (some (.ref A_law_g_rows))) (l_law_g_rows : K.lookup A_law_g_rows = some ⟨oc_law_g_rows, od_law_g_rows, .func (PySem.W.fnOf "_law_g_rows" "_law_g_rows" (defArgs s_law_g_rows) (defBody s_law_g_rows) (defScope s_law_g_rows) .none kV_law_g_rows dc_law_g_rows pm_law_g_rows an_law_g_rows cd_law_g_rows ct_law_g_rows), sl_law_g_rows⟩)
    (c_law_g_rows : PySem.W.codeIn K cd_law_g_rows "_law_g_rows" = true) (k_law_g_rows : PySem.W.keepIn K (.ref A_law_g_rows) = true)
    (a_law_g_bits : PySem.W.nsIn K mainGlobals "_law_g_bits" = some (some (.ref A_law_g_bits))) (l_law_g_bits : K.lookup A_law_g_bits = some ⟨oc_law_g_bits, od_law_g_bits, .func (PySem.W.fnOf "_law_g_bits" "_law_g_bits" (defArgs s_law_g_bits) (defBody s_law_g_bits) (defScope s_law_g_bits) .none kV_law_g_bits dc_law_g_bits pm_law_g_bits an_law_g_bits cd_law_g_bits ct_law_g_bits), sl_law_g_bits⟩)
    (c_law_g_bits : PySem.W.codeIn K cd_law_g_bits "_law_g_bits" = true) (k_law_g_bits : PySem.W.keepIn K (.ref A_law_g_bits) = true)
    (a_law_g_family : PySem.W.nsIn K mainGlobals "_law_g_family" = some (some (.ref A_law_g_family))) (l_law_g_family : K.lookup A_law_g_family = some ⟨oc_law_g_family, od_law_g_family, .func (PySem.W.fnOf "_law_g_family" "_law_g_family" (defArgs s_law_g_family) (defBody s_law_g_family) (defScope s_law_g_family) .none kV_law_g_family dc_law_g_family pm_law_g_family an_law_g_family cd_law_g_family ct_law_g_family), sl_law_g_family⟩)
    (c_law_g_family : PySem.W.codeIn K cd_law_g_family "_law_g_family" = true) (k_law_g_family : PySem.W.keepIn K (.ref A_law_g_family) = true)
    (a_law_g_due_faces : PySem.W.nsIn K mainGlobals "_law_g_due_faces" = some (some (.ref A_law_g_due_faces))) (l_law_g_due_faces : K.lookup A_law_g_due_faces = some ⟨oc_law_g_due_faces, od_law_g_due_faces, .func (PySem.W.fnOf "_law_g_due_faces" "_law_g_due_faces" (defArgs s_law_g_due_faces) (defBody s_law_g_due_faces) (defScope s_law_g_due_faces) .none kV_law_g_due_faces dc_law_g_due_faces pm_law_g_due_faces an_law_g_due_faces cd_law_g_due_faces ct_law_g_due_faces), sl_law_g_due_faces⟩)
    (c_law_g_due_faces : PySem.W.codeIn K cd_law_g_due_faces "_law_g_due_faces" = true) (k_law_g_due_faces : PySem.W.keepIn K (.ref A_law_g_due_faces) = true)
    (a_law_g_told_faces : PySem.W.nsIn K mainGlobals "_law_g_told_faces" = some (some (.ref A_law_g_told_faces))) (l_law_g_told_faces : K.lookup A_law_g_told_faces = some ⟨oc_law_g_told_faces, od_law_g_told_faces, .func (PySem.W.fnOf "_law_g_told_faces" "_law_g_told_faces" (defArgs s_law_g_told_faces) (defBody s_law_g_told_faces) (defScope s_law_g_told_faces) .none kV_law_g_told_faces dc_law_g_told_faces pm_law_g_told_faces an_law_g_told_faces cd_law_g_told_faces ct_law_g_told_faces), sl_law_g_told_faces⟩)
    (c_law_g_told_faces : PySem.W.codeIn K cd_law_g_told_faces "_law_g_told_faces" = true) (k_law_g_told_faces : PySem.W.keepIn K (.ref A_law_g_told_faces) = true)
    (a_law_g_subsets : PySem.W.nsIn K mainGlobals "_law_g_subsets" = some (some (.ref A_law_g_subsets))) (l_law_g_subsets : K.lookup A_law_g_subsets = some ⟨oc_law_g_subsets, od_law_g_subsets, .func (PySem.W.fnOf "_law_g_subsets" "_law_g_subsets" (defArgs s_law_g_subsets) (defBody s_law_g_subsets) (defScope s_law_g_subsets) .none kV_law_g_subsets dc_law_g_subsets pm_law_g_subsets an_law_g_subsets cd_law_g_subsets ct_law_g_subsets), sl_law_g_subsets⟩)
    (c_law_g_subsets : PySem.W.codeIn K cd_law_g_subsets "_law_g_subsets" = true) (k_law_g_subsets : PySem.W.keepIn K (.ref A_law_g_subsets) = true)
    (a_law_g_all_rules : PySem.W.nsIn K mainGlobals "_law_g_all_rules" = some (some (.ref A_law_g_all_rules))) (l_law_g_all_rules : K.lookup A_law_g_all_rules = some ⟨oc_law_g_all_rules, od_law_g_all_rules, .func (PySem.W.fnOf "_law_g_all_rules" "_law_g_all_rules" (defArgs s_law_g_all_rules) (defBody s_law_g_all_rules) (defScope s_law_g_all_rules) .none kV_law_g_all_rules dc_law_g_all_rules pm_law_g_all_rules an_law_g_all_rules cd_law_g_all_rules ct_law_g_all_rules), sl_law_g_all_rules⟩)
    (c_law_g_all_rules : PySem.W.codeIn K cd_law_g_all_rules "_law_g_all_rules" = true) (k_law_g_all_rules : PySem.W.keepIn K (.ref A_law_g_all_rules) = true)
    (a_law_g_all_families : PySem.W.nsIn K mainGlobals "_law_g_all_families" = some (some (.ref A_law_g_all_families))) (l_law_g_all_families : K.lookup A_law_g_all_families = some ⟨oc_law_g_all_families, od_law_g_all_families, .func (PySem.W.fnOf "_law_g_all_families" "_law_g_all_families" (defArgs s_law_g_all_families) (defBody s_law_g_all_families) (defScope s_law_g_all_families) .none kV_law_g_all_families dc_law_g_all_families pm_law_g_all_families an_law_g_all_families cd_law_g_all_families ct_law_g_all_families), sl_law_g_all_families⟩)
    (c_law_g_all_families : PySem.W.codeIn K cd_law_g_all_families "_law_g_all_families" = true) (k_law_g_all_families : PySem.W.keepIn K (.ref A_law_g_all_families) = true)
    (a_law : PySem.W.nsIn K mainGlobals "law" = some (some (.ref A_law))) (l_law : K.lookup A_law = some ⟨oc_law, od_law, .func (PySem.W.fnOf "law" "law" (defArgs s_law) (defBody s_law) (defScope s_law) .none kV_law dc_law pm_law an_law cd_law ct_law), sl_law⟩)
    (c_law : PySem.W.codeIn K cd_law "law" = true) (k_law : PySem.W.keepIn K (.ref A_law) = true)
    (z_len : PySem.W.nsIn K mainGlobals "len" = some none) (z_min : PySem.W.nsIn K mainGlobals "min" = some none)
    (z_isinstance : PySem.W.nsIn K mainGlobals "isinstance" = some none) (z_sorted : PySem.W.nsIn K mainGlobals "sorted" = some none)
    (z_range : PySem.W.nsIn K mainGlobals "range" = some none) (z_zip : PySem.W.nsIn K mainGlobals "zip" = some none)
    (z_int : PySem.W.nsIn K mainGlobals "int" = some none) (z_bool : PySem.W.nsIn K mainGlobals "bool" = some none)
    (z_str : PySem.W.nsIn K mainGlobals "str" = some none) (z_list : PySem.W.nsIn K mainGlobals "list" = some none)
    (z_tuple : PySem.W.nsIn K mainGlobals "tuple" = some none) (z_dict : PySem.W.nsIn K mainGlobals "dict" = some none)
    (z_reversed : PySem.W.nsIn K mainGlobals "reversed" = some none) (z_sum : PySem.W.nsIn K mainGlobals "sum" = some none)
    (t1 : PySem.W.codeHdIn K c1 P1 = true) (u1 : K.lookup P1 = none)
    (a_L : PySem.W.nsIn K mainGlobals "LIMITS" = some (some (.ref aL))) (l_L : K.lookup aL = some ⟨.type "dict", none, .dict es en, #[]⟩)
    (b_L0 : PySem.W.nsIn K aL "layers" = some (some (.int 6 tk0))) (b_L1 : PySem.W.nsIn K aL "flags" = some (some (.int 3 tk1)))
    (b_L2 : PySem.W.nsIn K aL "faces" = some (some (.int 1000000000 tk2))) (a_T : PySem.W.nsIn K mainGlobals "TooMany" = some (some (.ref CT)))
    (l_T : K.lookup CT = some (excClassObj nm q CT N bs bm true sn sub ab col dd k0 k1 k2 k3 k5 "ValueError.__new__")) (v_T : PySem.HandSPX.refsVE bm = true)
    (sa : PySem.W.findIn K (.ref CT) "__setattr__" = some (some (.builtin "object.__setattr__"))) (exC : PySem.W.subIn K (.ref CT) (.type "BaseException") = some true)
    (tyC : PySem.W.typeIn K (.ref CT) = some (.type "type")) (kC : PySem.W.keepIn K (.ref CT) = true)
    (iC : PySem.W.findIn K (.ref CT) "__init__" = some (some (.ref fI))) (tI : PySem.W.typeIn K (.ref fI) = some (.type "function"))
    (n1 : PySem.W.findIn K (.ref CT) "what" = some none) (l_I : K.lookup fI = some ⟨oI, odI, .func (PySem.W.fnOf "__init__" "TooMany.__init__" (defArgs s_TooMany_init) (defBody s_TooMany_init) (defScope s_TooMany_init) .none kVI dcI pmI anI cdI ctI), slI⟩)
    (c_I : PySem.W.codeIn K cdI "TooMany.__init__" = true) (k_I : PySem.W.keepIn K (.ref fI) = true)
    (ga : PySem.W.findIn K (.ref CT) "__getattribute__" = some (some (.builtin "BaseException.__getattribute__"))) (gg : PySem.W.findIn K (.ref CT) "__getattr__" = some none)
    (hdC : PySem.W.hasDictIn K CT = true) (cla : PySem.W.findIn K (.ref CT) "__class__" = some (some (.builtin "object.__class__")))
    (clg : PySem.W.specialIn K (.builtin "object.__class__") "__get__" = some (some (.builtin "getset_descriptor.__get__"))) (clt : PySem.W.takesIn K (.builtin "object.__class__") = some true)
    (mro : PySem.W.mroIn K CT (.type "object") = some true) (a_S : PySem.W.nsIn K mainGlobals "StandError" = some (some (.ref CS)))
    (xe : PySem.W.exmOne K (.ref CT) (.ref CS) = some true) (kl : PySem.W.KeysLit w.params es.toList)
    (m1 : P1 ∈ ts)
    : LamX.LawAtS PySem.Challenge.rw_letstand_k45_families_counted_by_all_lot w K (L2.CX PySem.Challenge.pw_letstand_k45_families_counted_by_all_lot w) 15 63 "script" mg fa h := by
  have e := hfa.symm.trans (PySem.W.mg_of X G a_law)
  cases e
  letI : Tb := ⟨[(P1, q1)]⟩
  have F_bound := fun_mk (st := s_bound) l_bound c_bound k_bound
  have F_full_set := fun_mk (st := s_full_set) l_full_set c_full_set k_full_set
  have F_is_closed := fun_mk (st := s_is_closed) l_is_closed c_is_closed k_is_closed
  have F_size_poly := fun_mk (st := s_size_poly) l_size_poly c_size_poly k_size_poly
  have F_poly_worth := fun_mk (st := s_poly_worth) l_poly_worth c_poly_worth k_poly_worth
  have F_faces_by_layer := fun_mk (st := s_faces_by_layer) l_faces_by_layer c_faces_by_layer k_faces_by_layer
  have F_faces_of := fun_mk (st := s_faces_of) l_faces_of c_faces_of k_faces_of
  have F_law_source := fun_mk (st := s_law_source) l_law_source c_law_source k_law_source
  have F_law_pick := fun_mk (st := s_law_pick) l_law_pick c_law_pick k_law_pick
  have F_law_number := fun_mk (st := s_law_number) l_law_number c_law_number k_law_number
  have F_law_same := fun_mk (st := s_law_same) l_law_same c_law_same k_law_same
  have F_law_fault := fun_mk (st := s_law_fault) l_law_fault c_law_fault k_law_fault
  have F_law_g_times := fun_mk (st := s_law_g_times) l_law_g_times c_law_g_times k_law_g_times
  have F_law_g_poly := fun_mk (st := s_law_g_poly) l_law_g_poly c_law_g_poly k_law_g_poly
  have F_law_g_names := fun_mk (st := s_law_g_names) l_law_g_names c_law_g_names k_law_g_names
  have F_law_g_rows := fun_mk (st := s_law_g_rows) l_law_g_rows c_law_g_rows k_law_g_rows
  have F_law_g_bits := fun_mk (st := s_law_g_bits) l_law_g_bits c_law_g_bits k_law_g_bits
  have F_law_g_family := fun_mk (st := s_law_g_family) l_law_g_family c_law_g_family k_law_g_family
  have F_law_g_due_faces := fun_mk (st := s_law_g_due_faces) l_law_g_due_faces c_law_g_due_faces k_law_g_due_faces
  have F_law_g_told_faces := fun_mk (st := s_law_g_told_faces) l_law_g_told_faces c_law_g_told_faces k_law_g_told_faces
  have F_law_g_subsets := fun_mk (st := s_law_g_subsets) l_law_g_subsets c_law_g_subsets k_law_g_subsets
  have F_law_g_all_rules := fun_mk (st := s_law_g_all_rules) l_law_g_all_rules c_law_g_all_rules k_law_g_all_rules
  have F_law_g_all_families := fun_mk (st := s_law_g_all_families) l_law_g_all_families c_law_g_all_families k_law_g_all_families
  have F_law := fun_mk (st := s_law) l_law c_law k_law
  have g_bound := PySem.W.mg_of X G a_bound
  have g_full_set := PySem.W.mg_of X G a_full_set
  have g_is_closed := PySem.W.mg_of X G a_is_closed
  have g_closed_families := PySem.W.mg_of X G a_closed_families
  have g_size_poly := PySem.W.mg_of X G a_size_poly
  have g_poly_worth := PySem.W.mg_of X G a_poly_worth
  have g_faces_by_layer := PySem.W.mg_of X G a_faces_by_layer
  have g_faces_of := PySem.W.mg_of X G a_faces_of
  have g_law_source := PySem.W.mg_of X G a_law_source
  have g_law_pick := PySem.W.mg_of X G a_law_pick
  have g_law_number := PySem.W.mg_of X G a_law_number
  have g_law_same := PySem.W.mg_of X G a_law_same
  have g_law_fault := PySem.W.mg_of X G a_law_fault
  have g_law_g_times := PySem.W.mg_of X G a_law_g_times
  have g_law_g_poly := PySem.W.mg_of X G a_law_g_poly
  have g_law_g_names := PySem.W.mg_of X G a_law_g_names
  have g_law_g_rows := PySem.W.mg_of X G a_law_g_rows
  have g_law_g_bits := PySem.W.mg_of X G a_law_g_bits
  have g_law_g_family := PySem.W.mg_of X G a_law_g_family
  have g_law_g_due_faces := PySem.W.mg_of X G a_law_g_due_faces
  have g_law_g_told_faces := PySem.W.mg_of X G a_law_g_told_faces
  have g_law_g_subsets := PySem.W.mg_of X G a_law_g_subsets
  have g_law_g_all_rules := PySem.W.mg_of X G a_law_g_all_rules
  have g_law_g_all_families := PySem.W.mg_of X G a_law_g_all_families
  have F_I := fun_mk (st := s_TooMany_init) l_I c_I k_I
  have gT := PySem.W.mg_of X G a_T
  have gS := PySem.W.mg_of X G a_S
  have TO : OexC K CT := ⟨⟨_, _, _, _, _, _, _, _, _, _, _, _, _, _, _, l_T, v_T⟩, sa, exC, tyC, kC⟩
  have x1 : Ex1 K mg "TooMany" CT fI "what" := ⟨gT, TO, iC, tI, n1⟩
  have B : Bn K mg w aL := ⟨PySem.W.mg_of X G a_L, fun x d hd => by
    unfold limT at hd
    by_cases q0 : x = "layers"
    · subst q0
      have hd : some (D.int 6) = some d := hd
      cases hd
      exact ⟨.int 6, ⟨es, en, _, l_L, kl, b_L0, tk0, rfl⟩, fun _ => rfl⟩
    have e0 : (x == Str.ofString "layers") = false := by simpa using q0
    by_cases q1 : x = "flags"
    · subst q1
      have hd : some (D.int 3) = some d := hd
      cases hd
      exact ⟨.int 3, ⟨es, en, _, l_L, kl, b_L1, tk1, rfl⟩, fun _ => rfl⟩
    have e1 : (x == Str.ofString "flags") = false := by simpa using q1
    by_cases q2 : x = "faces"
    · subst q2
      have hd : some (D.int 1000000000) = some d := hd
      cases hd
      exact ⟨.int 1000000000, ⟨es, en, _, l_L, kl, b_L2, tk2, rfl⟩, fun _ => rfl⟩
    have e2 : (x == Str.ofString "faces") = false := by simpa using q2
    simp [List.lookup, e0, e1, e2] at hd, PySem.W.mg_none_of X G z_len, PySem.W.mg_none_of X G z_min, PySem.W.mg_none_of X G z_isinstance, PySem.W.mg_none_of X G z_sorted, PySem.W.mg_none_of X G z_range, PySem.W.mg_none_of X G z_zip, PySem.W.mg_none_of X G z_int, PySem.W.mg_none_of X G z_bool, PySem.W.mg_none_of X G z_str, PySem.W.mg_none_of X G z_list, PySem.W.mg_none_of X G z_tuple, PySem.W.mg_none_of X G z_dict, PySem.W.mg_none_of X G z_reversed, PySem.W.mg_none_of X G z_sum⟩
  have kT : PySem.W.kitOne K (.ref CT) (.ref CT) = some true := by
    unfold PySem.W.kitOne
    rw [if_pos (by simp)]
  have bI := F_I.binds (ps := ["self", "what"]) fun _ _ _ _ _ _ us hl => match us, hl with | [_, _], _ => rfl
  have pb := F_law_fault.binds (ps := ["error"]) fun _ _ _ _ _ _ us hl => match us, hl with | [_], _ => rfl
  have px : ∀ e r C, told e = some r → mg e.c = some (.ref C) → PySem.W.exmOne K (.ref C) (.ref CS) = some true := fun e r C ht hm => by
    unfold told at ht
    by_cases hc : e.c = "TooMany"
    · rw [hc, gT] at hm
      cases hm
      exact xe
    · rw [if_neg hc] at ht; cases ht
  refine ⟨PySem.W.fnOf "law" "law" (defArgs s_law) (defBody s_law) (defScope s_law) .none kV_law dc_law pm_law an_law cd_law ct_law, [(c1, P1)], spD K mg 1 n_law, fun p hp => ?_, fun p hp => ?_, fun p hp => ?_, fun s v => .of_eq rfl, fun H a ns hl _ hH hs => ?_, fun base KB GB TBs => ?_⟩
  · rw [List.mem_singleton.mp hp]; exact hT P1 m1
  · rw [List.mem_singleton.mp hp]; exact u1
  · rw [List.mem_singleton.mp hp]; exact PySem.W.codeHd_of_K X t1
  · refine law_promise hl (fun p hp => ?_) hs
    have hp : p ∈ [(P1, q1)] := hp
    rw [List.mem_singleton.mp hp]; exact hH (c1, P1) (List.mem_cons_self ..)
  · have TB1 : LamX.TabB base mg c1 P1 := TBs _ (List.mem_cons_self ..)
    have hT1 : (P1, q1) ∈ Tb.T := List.mem_cons_self ..
    have hU1 : ∀ p ∈ Tb.T, p.1 = P1 → p.2 = q1 := fun p hp e => by
      have hp : p ∈ [(P1, q1)] := hp
      rw [List.mem_singleton.mp hp]
    have x_init := ok_TooMany_init (P := PySem.Challenge.pw_letstand_k45_families_counted_by_all_lot) (w := w) (mg := mg) (base := base) F_I
    have pF := ok_fault (P := PySem.Challenge.pw_letstand_k45_families_counted_by_all_lot) (w := w) (base := base) B.m_isinstance gT ⟨ga, gg, exC, hdC, cla, clg, clt, mro⟩ ⟨ga, gg, exC, hdC⟩ n1 kT F_law_fault
    have C_bound := ok_bound (P := PySem.Challenge.pw_letstand_k45_families_counted_by_all_lot) (base := base) B x1 x_init bI  F_bound g_bound
    have C_full_set := ok_full_set (P := PySem.Challenge.pw_letstand_k45_families_counted_by_all_lot) (base := base) B   F_full_set g_full_set
    have C_is_closed := ok_is_closed (P := PySem.Challenge.pw_letstand_k45_families_counted_by_all_lot) (base := base) B   F_is_closed g_is_closed
    have C_closed_families := ok_closed_families (P := PySem.Challenge.pw_letstand_k45_families_counted_by_all_lot) (base := base) B  C_bound C_full_set C_is_closed TB1 hT1 hU1 l_closed_families c_closed_families k_closed_families g_closed_families
    have C_size_poly := ok_size_poly (P := PySem.Challenge.pw_letstand_k45_families_counted_by_all_lot) (base := base) B  C_closed_families F_size_poly g_size_poly
    have C_poly_worth := ok_poly_worth (P := PySem.Challenge.pw_letstand_k45_families_counted_by_all_lot) (base := base) B   F_poly_worth g_poly_worth
    have C_faces_by_layer := ok_faces_by_layer (P := PySem.Challenge.pw_letstand_k45_families_counted_by_all_lot) (base := base) B  C_bound C_poly_worth C_size_poly F_faces_by_layer g_faces_by_layer
    have C_faces_of := ok_faces_of (P := PySem.Challenge.pw_letstand_k45_families_counted_by_all_lot) (base := base) B  C_faces_by_layer F_faces_of g_faces_of
    have C_law_source := ok_law_source (P := PySem.Challenge.pw_letstand_k45_families_counted_by_all_lot) (base := base) B   F_law_source g_law_source
    have C_law_pick := ok_law_pick (P := PySem.Challenge.pw_letstand_k45_families_counted_by_all_lot) (base := base) B   F_law_pick g_law_pick
    have C_law_number := ok_law_number (P := PySem.Challenge.pw_letstand_k45_families_counted_by_all_lot) (base := base) B  C_law_pick F_law_number g_law_number
    have C_law_same := ok_law_same (P := PySem.Challenge.pw_letstand_k45_families_counted_by_all_lot) (base := base) B   F_law_same g_law_same 2
    have C_law_g_times := ok_law_g_times (P := PySem.Challenge.pw_letstand_k45_families_counted_by_all_lot) (base := base) B   F_law_g_times g_law_g_times
    have C_law_g_poly := ok_law_g_poly (P := PySem.Challenge.pw_letstand_k45_families_counted_by_all_lot) (base := base) B   F_law_g_poly g_law_g_poly
    have C_law_g_names := ok_law_g_names (P := PySem.Challenge.pw_letstand_k45_families_counted_by_all_lot) (base := base) B   F_law_g_names g_law_g_names
    have C_law_g_rows := ok_law_g_rows (P := PySem.Challenge.pw_letstand_k45_families_counted_by_all_lot) (base := base) B  C_law_g_names F_law_g_rows g_law_g_rows
    have C_law_g_bits := ok_law_g_bits (P := PySem.Challenge.pw_letstand_k45_families_counted_by_all_lot) (base := base) B  C_law_g_times F_law_g_bits g_law_g_bits
    have C_law_g_family := ok_law_g_family (P := PySem.Challenge.pw_letstand_k45_families_counted_by_all_lot) (base := base) B  C_law_g_bits C_law_g_times F_law_g_family g_law_g_family
    have C_law_g_due_faces := ok_law_g_due_faces (P := PySem.Challenge.pw_letstand_k45_families_counted_by_all_lot) (base := base) B  C_law_g_poly C_law_g_times F_law_g_due_faces g_law_g_due_faces
    have C_law_g_told_faces := ok_law_g_told_faces (P := PySem.Challenge.pw_letstand_k45_families_counted_by_all_lot) (base := base) B pF g_law_fault k_law_fault pb gS px C_faces_of F_law_g_told_faces g_law_g_told_faces
    have C_law_g_subsets := ok_law_g_subsets (P := PySem.Challenge.pw_letstand_k45_families_counted_by_all_lot) (base := base) B   F_law_g_subsets g_law_g_subsets
    have C_law_g_all_rules := ok_law_g_all_rules (P := PySem.Challenge.pw_letstand_k45_families_counted_by_all_lot) (base := base) B  C_law_g_names C_law_g_subsets F_law_g_all_rules g_law_g_all_rules
    have C_law_g_all_families := ok_law_g_all_families (P := PySem.Challenge.pw_letstand_k45_families_counted_by_all_lot) (base := base) B  C_law_g_all_rules C_law_g_family C_law_g_rows F_law_g_all_families g_law_g_all_families
    exact ok_law B  C_law_g_all_families C_law_g_due_faces C_law_g_told_faces C_law_number C_law_pick C_law_same C_law_source C_faces_of F_law
end K45
end
open PySem PySem.W PyProof.Rows
set_option maxRecDepth 100000 in
set_option maxHeartbeats 0 in
theorem PySem.Challenge.cw_letstand_k45_families_counted_by_all_lot_holds : PySem.Challenge.rw_letstand_k45_families_counted_by_all_lot.Holds := by
  w_on; o_law; k_head; (case hw => w_witness2)
  k_fill
  refine LamX.walk_ofTs (l := PySem.Challenge.rw_letstand_k45_families_counted_by_all_lot) (n := 63) (k := 15) (x := "script") (CX := fun w => L2.CX PySem.Challenge.pw_letstand_k45_families_counted_by_all_lot w) rfl (by decide) rfl ⟨rfl, by decide, by decide⟩ (fun w h Y => PySem.W.km_in_of Y) ?F (fun w H s e s' h => ?G)
  case G =>
    obtain ⟨_, _, _, _, _, _, _, _, _, _, _, _, no⟩ := h
    exact no.elim
  case F =>
    intro w mg fa h Y KX G hmg
    refine' K45.all_mk (P1 := 223) KX G hmg (PySem.W.km_tabs_of Y) ?a_bound ?l_bound ?c_bound ?k_bound ?a_full_set ?l_full_set ?c_full_set ?k_full_set ?a_is_closed ?l_is_closed ?c_is_closed ?k_is_closed ?a_closed_families ?l_closed_families ?c_closed_families ?k_closed_families ?a_size_poly ?l_size_poly ?c_size_poly ?k_size_poly ?a_poly_worth ?l_poly_worth ?c_poly_worth ?k_poly_worth ?a_faces_by_layer ?l_faces_by_layer ?c_faces_by_layer ?k_faces_by_layer ?a_faces_of ?l_faces_of ?c_faces_of ?k_faces_of ?a_law_source ?l_law_source ?c_law_source ?k_law_source ?a_law_pick ?l_law_pick ?c_law_pick ?k_law_pick ?a_law_number ?l_law_number ?c_law_number ?k_law_number ?a_law_same ?l_law_same ?c_law_same ?k_law_same ?a_law_fault ?l_law_fault ?c_law_fault ?k_law_fault ?a_law_g_times ?l_law_g_times ?c_law_g_times ?k_law_g_times ?a_law_g_poly ?l_law_g_poly ?c_law_g_poly ?k_law_g_poly ?a_law_g_names ?l_law_g_names ?c_law_g_names ?k_law_g_names ?a_law_g_rows ?l_law_g_rows ?c_law_g_rows ?k_law_g_rows ?a_law_g_bits ?l_law_g_bits ?c_law_g_bits ?k_law_g_bits ?a_law_g_family ?l_law_g_family ?c_law_g_family ?k_law_g_family ?a_law_g_due_faces ?l_law_g_due_faces ?c_law_g_due_faces ?k_law_g_due_faces ?a_law_g_told_faces ?l_law_g_told_faces ?c_law_g_told_faces ?k_law_g_told_faces ?a_law_g_subsets ?l_law_g_subsets ?c_law_g_subsets ?k_law_g_subsets ?a_law_g_all_rules ?l_law_g_all_rules ?c_law_g_all_rules ?k_law_g_all_rules ?a_law_g_all_families ?l_law_g_all_families ?c_law_g_all_families ?k_law_g_all_families ?a_law ?l_law ?c_law ?k_law ?z_len ?z_min ?z_isinstance ?z_sorted ?z_range ?z_zip ?z_int ?z_bool ?z_str ?z_list ?z_tuple ?z_dict ?z_reversed ?z_sum ?t1 ?u1 ?a_L ?l_L ?b_L0 ?b_L1 ?b_L2 ?a_T ?l_T ?v_T ?sa ?exC ?tyC ?kC ?iC ?tI ?n1 ?l_I ?c_I ?k_I ?ga ?gg ?hdC ?cla ?clg ?clt ?mro ?a_S ?xe ?kl ?m1
    (case a_bound => k_is)
    (case l_bound => k_is)
    (case c_bound => k_is)
    (case k_bound => k_is)
    (case a_full_set => k_is)
    (case l_full_set => k_is)
    (case c_full_set => k_is)
    (case k_full_set => k_is)
    (case a_is_closed => k_is)
    (case l_is_closed => k_is)
    (case c_is_closed => k_is)
    (case k_is_closed => k_is)
    (case a_closed_families => k_is)
    (case l_closed_families => k_is)
    (case c_closed_families => k_is)
    (case k_closed_families => k_is)
    (case a_size_poly => k_is)
    (case l_size_poly => k_is)
    (case c_size_poly => k_is)
    (case k_size_poly => k_is)
    (case a_poly_worth => k_is)
    (case l_poly_worth => k_is)
    (case c_poly_worth => k_is)
    (case k_poly_worth => k_is)
    (case a_faces_by_layer => k_is)
    (case l_faces_by_layer => k_is)
    (case c_faces_by_layer => k_is)
    (case k_faces_by_layer => k_is)
    (case a_faces_of => k_is)
    (case l_faces_of => k_is)
    (case c_faces_of => k_is)
    (case k_faces_of => k_is)
    (case a_law_source => k_is)
    (case l_law_source => k_is)
    (case c_law_source => k_is)
    (case k_law_source => k_is)
    (case a_law_pick => k_is)
    (case l_law_pick => k_is)
    (case c_law_pick => k_is)
    (case k_law_pick => k_is)
    (case a_law_number => k_is)
    (case l_law_number => k_is)
    (case c_law_number => k_is)
    (case k_law_number => k_is)
    (case a_law_same => k_is)
    (case l_law_same => k_is)
    (case c_law_same => k_is)
    (case k_law_same => k_is)
    (case a_law_fault => k_is)
    (case l_law_fault => k_is)
    (case c_law_fault => k_is)
    (case k_law_fault => k_is)
    (case a_law_g_times => k_is)
    (case l_law_g_times => k_is)
    (case c_law_g_times => k_is)
    (case k_law_g_times => k_is)
    (case a_law_g_poly => k_is)
    (case l_law_g_poly => k_is)
    (case c_law_g_poly => k_is)
    (case k_law_g_poly => k_is)
    (case a_law_g_names => k_is)
    (case l_law_g_names => k_is)
    (case c_law_g_names => k_is)
    (case k_law_g_names => k_is)
    (case a_law_g_rows => k_is)
    (case l_law_g_rows => k_is)
    (case c_law_g_rows => k_is)
    (case k_law_g_rows => k_is)
    (case a_law_g_bits => k_is)
    (case l_law_g_bits => k_is)
    (case c_law_g_bits => k_is)
    (case k_law_g_bits => k_is)
    (case a_law_g_family => k_is)
    (case l_law_g_family => k_is)
    (case c_law_g_family => k_is)
    (case k_law_g_family => k_is)
    (case a_law_g_due_faces => k_is)
    (case l_law_g_due_faces => k_is)
    (case c_law_g_due_faces => k_is)
    (case k_law_g_due_faces => k_is)
    (case a_law_g_told_faces => k_is)
    (case l_law_g_told_faces => k_is)
    (case c_law_g_told_faces => k_is)
    (case k_law_g_told_faces => k_is)
    (case a_law_g_subsets => k_is)
    (case l_law_g_subsets => k_is)
    (case c_law_g_subsets => k_is)
    (case k_law_g_subsets => k_is)
    (case a_law_g_all_rules => k_is)
    (case l_law_g_all_rules => k_is)
    (case c_law_g_all_rules => k_is)
    (case k_law_g_all_rules => k_is)
    (case a_law_g_all_families => k_is)
    (case l_law_g_all_families => k_is)
    (case c_law_g_all_families => k_is)
    (case k_law_g_all_families => k_is)
    (case a_law => k_is)
    (case l_law => k_is)
    (case c_law => k_is)
    (case k_law => k_is)
    (case z_len => k_is)
    (case z_min => k_is)
    (case z_isinstance => k_is)
    (case z_sorted => k_is)
    (case z_range => k_is)
    (case z_zip => k_is)
    (case z_int => k_is)
    (case z_bool => k_is)
    (case z_str => k_is)
    (case z_list => k_is)
    (case z_tuple => k_is)
    (case z_dict => k_is)
    (case z_reversed => k_is)
    (case z_sum => k_is)
    (case t1 => first | kernel_rfl | rfl | decide)
    (case u1 => first | kernel_rfl | rfl | decide)
    (case a_L => k_is)
    (case l_L => k_is)
    (case b_L0 => k_is)
    (case b_L1 => k_is)
    (case b_L2 => k_is)
    (case a_T => k_is)
    (case l_T => k_is)
    (case v_T => rfl)
    (case sa => k_is)
    (case exC => k_is)
    (case tyC => k_is)
    (case kC => k_is)
    (case iC => k_is)
    (case tI => k_is)
    (case n1 => k_is)
    (case l_I => k_is)
    (case c_I => k_is)
    (case k_I => k_is)
    (case ga => k_is)
    (case gg => k_is)
    (case hdC => k_is)
    (case cla => k_is)
    (case clg => k_is)
    (case clt => k_is)
    (case mro => k_is)
    (case a_S => k_is)
    (case xe => kts_exm)
    (case kl => repeat (first | exact True.intro | refine ⟨⟨_, _, rfl, rfl⟩, ?_⟩))
    (case m1 => first | decide | simp)
    all_goals exact Value.none
