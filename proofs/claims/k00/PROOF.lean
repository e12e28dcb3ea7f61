import PyProof.Rows.All
import Wide.All
import OpenK.AllK
import Wide.FinOn
import HandS.ForMost
import HandS.ForExc
import HandS.SlotsOwn
import HandS.TupAny
import HandS.TupMul
import HandS.Wide
import HandS.Flow
import HandS.IsInst
import HandS.Conv
import HandS.Style
import PyProof.ReprRoads
import HandS.Deep
import HandS.Text
import HandS.Strs
import KE.KExcSuper
import HandS.ExcInit
import HandS.ExcField
import KE.KExcIs
import HandS.Ends
import PySem.Challenge.RW_whotakes_k00_errors_and_what_they_keep
set_option Elab.async false
set_option linter.all false
set_option maxRecDepth 100000
/-! Ow: plain data behind the abstract heap. Things that nobody changes any more are data (D); those that still change lie in a small store (M). -/
namespace Ow
open PySem L2

inductive D where
  | non | bl (b : Bool) | int (i : Int) | str (x : Str) | ty (n : String) | glb (x : Str)
  | tup (xs : List D) | lst (xs : List D)
  | dic (kvs : List (Key × D)) | dit (kvs : List (List Key × D))
  | obj (c : Str) (fs : List D) | exc (c : Str) (v : D) | scr (ns : List Int)

inductive A where
  | val (d : D) | ref (n : Nat)

inductive MO where
  | lst (xs : List D) | dic (kvs : List (Key × D)) | dit (kvs : List (List Key × D))
  | obj (c : Str) (fs : List (Option D)) | any | gone

inductive Rs where
  | ok (x : A) | err (c : Str) (v : D)

abbrev Sl := List (Option A)
abbrev Mm := List MO
abbrev Ban := Addr → Prop

/-- an exception of the class at C, its own dict at dx -/
def ExO (C dx a : Addr) : HO := .ext fun h => ∃ vs sl, h.get? a = some { cls := .ref C, dict := some dx, data := .fields vs, slots := sl }

section
variable (K : PySem.W.Frag) (mg : Str → Option Value) (bn : Ban) (H : Hp)
mutual
def RelD : D → V → Prop
  | .non, v => v = .non
  | .bl b, v => v = .bl b
  | .int i, v => v = .int i
  | .str x, v => v = .str x
  | .ty n, v => v = .ty n
  | .glb x, v => ∃ u, mg x = some u ∧ RelV v u
  | .tup ds, v => ∃ a xs, v = .ref a ∧ SqT K H a xs ∧ RelDs ds xs
  | .lst ds, v => ∃ a xs, v = .ref a ∧ ¬ bn a ∧ H a = some (.lst xs) ∧ RelDs ds xs
  | .scr ns, v => ∃ a, v = .ref a ∧ ((¬ bn a ∧ Rd H a (.lst (ns.map V.int))) ∨ SqL K (fun _ => none) a (ns.map V.int))
  | .dic ds, v => ∃ a xs, v = .ref a ∧ ¬ bn a ∧ Rd H a (.dK xs) ∧ RelKs ds xs
  | .dit ds, v => ∃ a xs, v = .ref a ∧ ¬ bn a ∧ Rd H a (.dT xs) ∧ RelTs ds xs
  | .obj c ds, v => ∃ a C dx xs, v = .ref a ∧ ¬ bn a ∧ ¬ bn dx ∧ mg c = some (.ref C) ∧ H a = some (SlX.SlO a C dx (xs.map some)) ∧ H dx = some (.xd []) ∧ RelDs ds xs
  | .exc c d, v => ∃ a C dx x, v = .ref a ∧ ¬ bn a ∧ ¬ bn dx ∧ mg c = some (.ref C) ∧ H a = some (ExO C dx a) ∧ H dx = some (.xd [("value", x)]) ∧ RelD d x
def RelDs : List D → List V → Prop
  | [], xs => xs = []
  | d :: ds, xs => ∃ v vs, xs = v :: vs ∧ RelD d v ∧ RelDs ds vs
def RelKs : List (Key × D) → List (Key × V) → Prop
  | [], xs => xs = []
  | (k, d) :: ds, xs => ∃ v vs, xs = (k, v) :: vs ∧ RelD d v ∧ RelKs ds vs
def RelTs : List (List Key × D) → List (List Key × V) → Prop
  | [], xs => xs = []
  | (k, d) :: ds, xs => ∃ v vs, xs = (k, v) :: vs ∧ RelD d v ∧ RelTs ds vs
end
end

/-- what is kept of the heap -/
structure Kp (bn : Ban) (H H' : Hp) : Prop where
  rd : ∀ b u, ¬ bn b → Rd H b u → Rd H' b u
  tp : ∀ b xs, Rd H b (.tup xs) → Rd H' b (.tup xs)
  ex : ∀ b p, ¬ bn b → H b = some (.ext p) → H' b = some (.ext p)
  xd : ∀ b fs, ¬ bn b → H b = some (.xd fs) → H' b = some (.xd fs)
  ls : ∀ b xs, ¬ bn b → H b = some (.lst xs) → H' b = some (.lst xs)

theorem rd_some {H : Hp} {a : Addr} {u : HO} (h : Rd H a u) : H a ≠ none := by
  rcases h with h | ⟨o, h⟩ <;> rw [h] <;> exact fun z => nomatch z

section
variable {K : PySem.W.Frag} {mg : Str → Option Value} {bn bn' : Ban} {H H' : Hp}
theorem sqT_kp {a : Addr} {xs : List V} (k : Kp bn H H') (h : SqT K H a xs) : SqT K H' a xs := by
  rcases h with h | h
  · exact .inl (k.tp _ _ h)
  · exact .inr h
theorem nb {a : Addr} (hb : ∀ a, bn' a → bn a ∨ H a = none) (n : ¬ bn a) (h : H a ≠ none) : ¬ bn' a := fun z => (hb a z).elim n h
mutual
theorem RelD.mono (k : Kp bn H H') (hb : ∀ a, bn' a → bn a ∨ H a = none) : ∀ {d : D} {v : V}, RelD K mg bn H d v → RelD K mg bn' H' d v
  | .non, _, h => h
  | .bl _, _, h => h
  | .int _, _, h => h
  | .str _, _, h => h
  | .ty _, _, h => h
  | .glb _, _, h => h
  | .tup ds, v, h => by
    simp only [RelD] at h ⊢
    obtain ⟨a, xs, e, s, r⟩ := h
    exact ⟨a, xs, e, sqT_kp k s, RelDs.mono k hb r⟩
  | .lst ds, v, h => by
    simp only [RelD] at h ⊢
    obtain ⟨a, xs, e, n, s, r⟩ := h
    exact ⟨a, xs, e, nb hb n (by rw [s]; exact fun z => nomatch z), k.ls _ _ n s, RelDs.mono k hb r⟩
  | .scr ns, v, h => by
    simp only [RelD] at h ⊢
    obtain ⟨a, e, s⟩ := h
    exact ⟨a, e, s.imp (fun ⟨n, s⟩ => ⟨nb hb n (rd_some s), k.rd _ _ n s⟩) id⟩
  | .dic ds, v, h => by
    simp only [RelD] at h ⊢
    obtain ⟨a, xs, e, n, s, r⟩ := h
    exact ⟨a, xs, e, nb hb n (rd_some s), k.rd _ _ n s, RelKs.mono k hb r⟩
  | .dit ds, v, h => by
    simp only [RelD] at h ⊢
    obtain ⟨a, xs, e, n, s, r⟩ := h
    exact ⟨a, xs, e, nb hb n (rd_some s), k.rd _ _ n s, RelTs.mono k hb r⟩
  | .obj c ds, v, h => by
    simp only [RelD] at h ⊢
    obtain ⟨a, C, dx, xs, e, n1, n2, g, h1, h2, r⟩ := h
    exact ⟨a, C, dx, xs, e, nb hb n1 (by rw [h1]; exact fun z => nomatch z), nb hb n2 (by rw [h2]; exact fun z => nomatch z), g, k.ex _ _ n1 h1, k.xd _ _ n2 h2, RelDs.mono k hb r⟩
  | .exc c d, v, h => by
    simp only [RelD] at h ⊢
    obtain ⟨a, C, dx, x, e, n1, n2, g, h1, h2, r⟩ := h
    exact ⟨a, C, dx, x, e, nb hb n1 (by rw [h1]; exact fun z => nomatch z), nb hb n2 (by rw [h2]; exact fun z => nomatch z), g, k.ex _ _ n1 h1, k.xd _ _ n2 h2, RelD.mono k hb r⟩
theorem RelDs.mono (k : Kp bn H H') (hb : ∀ a, bn' a → bn a ∨ H a = none) : ∀ {d : List D} {v : List V}, RelDs K mg bn H d v → RelDs K mg bn' H' d v
  | [], _, h => h
  | d :: ds, v, h => by
    simp only [RelDs] at h ⊢
    obtain ⟨x, xs, e, r, rs⟩ := h
    exact ⟨x, xs, e, RelD.mono k hb r, RelDs.mono k hb rs⟩
theorem RelKs.mono (k : Kp bn H H') (hb : ∀ a, bn' a → bn a ∨ H a = none) : ∀ {d : List (Key × D)} {v : List (Key × V)}, RelKs K mg bn H d v → RelKs K mg bn' H' d v
  | [], _, h => h
  | (_, d) :: ds, v, h => by
    simp only [RelKs] at h ⊢
    obtain ⟨x, xs, e, r, rs⟩ := h
    exact ⟨x, xs, e, RelD.mono k hb r, RelKs.mono k hb rs⟩
theorem RelTs.mono (k : Kp bn H H') (hb : ∀ a, bn' a → bn a ∨ H a = none) : ∀ {d : List (List Key × D)} {v : List (List Key × V)}, RelTs K mg bn H d v → RelTs K mg bn' H' d v
  | [], _, h => h
  | (_, d) :: ds, v, h => by
    simp only [RelTs] at h ⊢
    obtain ⟨x, xs, e, r, rs⟩ := h
    exact ⟨x, xs, e, RelD.mono k hb r, RelTs.mono k hb rs⟩
end
theorem Kp.refl : Kp bn H H := ⟨fun _ _ _ h => h, fun _ _ h => h, fun _ _ _ h => h, fun _ _ _ h => h, fun _ _ _ h => h⟩
/-- all that is tracked and not banned is kept; tuples are never changed -/
theorem Kp.of (h : ∀ b o, H b = some o → ¬ bn b → H' b = some o) (t : ∀ b xs, bn b → ¬ Rd H b (.tup xs)) : Kp bn H H' where
  rd := fun b u n r => by
    rcases r with r | ⟨o, r⟩
    · exact .inl (h _ _ r n)
    · exact .inr ⟨o, h _ _ r n⟩
  tp := fun b xs r => by
    have n : ¬ bn b := fun z => t b xs z r
    rcases r with r | ⟨o, r⟩
    · exact .inl (h _ _ r n)
    · exact .inr ⟨o, h _ _ r n⟩
  ex := fun b p n r => h _ _ r n
  xd := fun b p n r => h _ _ r n
  ls := fun b p n r => h _ _ r n
theorem Kp.same (h : Same H H') : Kp bn H H' where
  rd := fun b u _ r => by
    rcases r with r | ⟨o, r⟩
    · exact .inl (h _ _ r)
    · exact .inr ⟨o, h _ _ r⟩
  tp := fun b xs r => by
    rcases r with r | ⟨o, r⟩
    · exact .inl (h _ _ r)
    · exact .inr ⟨o, h _ _ r⟩
  ex := fun b p n r => h _ _ r
  xd := fun b p n r => h _ _ r
  ls := fun b p n r => h _ _ r
theorem RelD.same (h : Same H H') {d : D} {v : V} (r : RelD K mg bn H d v) : RelD K mg bn H' d v := r.mono (Kp.same h) fun _ z => .inl z
theorem RelDs.same (h : Same H H') {d : List D} {v : List V} (r : RelDs K mg bn H d v) : RelDs K mg bn H' d v := r.mono (Kp.same h) fun _ z => .inl z
theorem RelDs.len : ∀ {ds : List D} {vs : List V}, RelDs K mg bn H ds vs → ds.length = vs.length
  | [], _, h => by simp only [RelDs] at h; rw [h]; rfl
  | d :: ds, _, h => by
    simp only [RelDs] at h
    obtain ⟨x, xs, rfl, _, rs⟩ := h
    rw [List.length_cons, List.length_cons, rs.len]
theorem RelDs.get : ∀ {ds : List D} {vs : List V} {i : Nat} {d : D}, RelDs K mg bn H ds vs → ds[i]? = some d → ∃ v, vs[i]? = some v ∧ RelD K mg bn H d v
  | [], _, _, _, _, e => by simp at e
  | d :: ds, _, 0, _, h, e => by
    simp only [RelDs] at h
    obtain ⟨x, xs, rfl, r, _⟩ := h
    simp at e; subst e
    exact ⟨x, rfl, r⟩
  | d :: ds, _, i + 1, d', h, e => by
    simp only [RelDs] at h
    obtain ⟨x, xs, rfl, _, rs⟩ := h
    obtain ⟨v, e', r⟩ := rs.get (i := i) (d := d') (by simpa using e)
    exact ⟨v, by simpa using e', r⟩
theorem RelDs.get' : ∀ {ds : List D} {vs : List V} {i : Nat} {v : V}, RelDs K mg bn H ds vs → vs[i]? = some v → ∃ d, ds[i]? = some d ∧ RelD K mg bn H d v
  | [], _, _, _, h, e => by simp only [RelDs] at h; subst h; simp at e
  | d :: ds, _, 0, _, h, e => by
    simp only [RelDs] at h
    obtain ⟨x, xs, rfl, r, _⟩ := h
    simp at e; subst e
    exact ⟨d, rfl, r⟩
  | d :: ds, _, i + 1, v, h, e => by
    simp only [RelDs] at h
    obtain ⟨x, xs, rfl, _, rs⟩ := h
    obtain ⟨w, e', r⟩ := rs.get' (i := i) (v := v) (by simpa using e)
    exact ⟨w, by simpa using e', r⟩
theorem RelDs.append : ∀ {ds es : List D} {vs us : List V}, RelDs K mg bn H ds vs → RelDs K mg bn H es us → RelDs K mg bn H (ds ++ es) (vs ++ us)
  | [], _, _, _, h, h' => by simp only [RelDs] at h; subst h; exact h'
  | d :: ds, _, _, _, h, h' => by
    simp only [RelDs] at h
    obtain ⟨x, xs, rfl, r, rs⟩ := h
    show RelDs K mg bn H (d :: (ds ++ _)) (x :: (xs ++ _))
    simp only [RelDs]
    exact ⟨_, _, rfl, r, rs.append h'⟩
theorem RelDs.one {d : D} {v : V} (r : RelD K mg bn H d v) : RelDs K mg bn H [d] [v] := by
  simp only [RelDs]
  exact ⟨_, _, rfl, r, rfl⟩
theorem RelDs.cons {d : D} {v : V} {ds : List D} {vs : List V} (r : RelD K mg bn H d v) (rs : RelDs K mg bn H ds vs) : RelDs K mg bn H (d :: ds) (v :: vs) := by
  simp only [RelDs]
  exact ⟨_, _, rfl, r, rs⟩
theorem RelDs.take : ∀ {ds : List D} {vs : List V} (n : Nat), RelDs K mg bn H ds vs → RelDs K mg bn H (ds.take n) (vs.take n)
  | _, _, 0, _ => by simp only [List.take_zero, RelDs]
  | [], _, n + 1, h => by simp only [RelDs] at h; subst h; simp only [List.take_nil, RelDs]
  | d :: ds, _, n + 1, h => by
    simp only [RelDs] at h
    obtain ⟨x, xs, rfl, r, rs⟩ := h
    rw [List.take_succ_cons, List.take_succ_cons]
    exact .cons r (rs.take n)
theorem RelDs.drop : ∀ {ds : List D} {vs : List V} (n : Nat), RelDs K mg bn H ds vs → RelDs K mg bn H (ds.drop n) (vs.drop n)
  | _, _, 0, h => h
  | [], _, n + 1, h => by simp only [RelDs] at h; subst h; simp only [List.drop_nil, RelDs]
  | d :: ds, _, n + 1, h => by
    simp only [RelDs] at h
    obtain ⟨x, xs, rfl, r, rs⟩ := h
    exact rs.drop n
theorem RelDs.set {d : D} {v : V} (r : RelD K mg bn H d v) : ∀ {ds : List D} {vs : List V} (n : Nat), RelDs K mg bn H ds vs → RelDs K mg bn H (ds.set n d) (vs.set n v)
  | [], _, n, h => by simp only [RelDs] at h; subst h; simp only [List.set_nil, RelDs]
  | d' :: ds, _, 0, h => by
    simp only [RelDs] at h
    obtain ⟨x, xs, rfl, _, rs⟩ := h
    exact .cons r rs
  | d' :: ds, _, n + 1, h => by
    simp only [RelDs] at h
    obtain ⟨x, xs, rfl, r', rs⟩ := h
    exact .cons r' (rs.set r n)
theorem RelDs.reverse : ∀ {ds : List D} {vs : List V}, RelDs K mg bn H ds vs → RelDs K mg bn H ds.reverse vs.reverse
  | [], _, h => by simp only [RelDs] at h; subst h; exact (by simp only [List.reverse_nil, RelDs])
  | d :: ds, _, h => by
    simp only [RelDs] at h
    obtain ⟨x, xs, rfl, r, rs⟩ := h
    rw [List.reverse_cons, List.reverse_cons]
    exact rs.reverse.append (.one r)
end

/-! ### the store -/
def live (φ : List Addr) (M : Mm) (a : Addr) : Prop := ∃ (n : Nat) (mo : MO), φ[n]? = some a ∧ M[n]? = some mo ∧ mo ≠ .gone
def bnd (B : Ban) (φ : List Addr) (M : Mm) : Ban := fun a => B a ∨ live φ M a

section
variable (K : PySem.W.Frag) (mg : Str → Option Value)
def RelOs (bn : Ban) (H : Hp) : List (Option D) → List (Option V) → Prop
  | [], xs => xs = []
  | none :: ds, xs => ∃ o vs, xs = o :: vs ∧ RelOs bn H ds vs
  | some d :: ds, xs => ∃ v vs, xs = some v :: vs ∧ RelD K mg bn H d v ∧ RelOs bn H ds vs
def MOk (bn : Ban) (H : Hp) (a : Addr) : MO → Prop
  | .lst ds => ∃ xs, H a = some (.lst xs) ∧ RelDs K mg bn H ds xs
  | .dic ds => ∃ xs, H a = some (.dK xs) ∧ RelKs K mg bn H ds xs
  | .dit ds => ∃ xs, H a = some (.dT xs) ∧ RelTs K mg bn H ds xs
  | .obj c ds => ∃ C dx xs, mg c = some (.ref C) ∧ SlX.Slt H a C dx xs ∧ RelOs K mg bn H ds xs
  | .any => H a ≠ none ∧ ∀ xs, ¬ Rd H a (.tup xs)
  | .gone => H a ≠ none
structure Rl (B : Ban) (φ : List Addr) (M : Mm) (H : Hp) : Prop where
  len : φ.length = M.length
  nd : φ.Nodup
  out : ∀ a ∈ φ, ¬ B a
  trk : ∀ a, B a → H a ≠ none ∧ ∀ xs, ¬ Rd H a (.tup xs)
  obj : ∀ (n : Nat) (mo : MO) (a : Addr), M[n]? = some mo → φ[n]? = some a → MOk K mg (bnd B φ M) H a mo
def RelA (bn : Ban) (φ : List Addr) (H : Hp) : A → V → Prop
  | .val d, v => RelD K mg bn H d v
  | .ref n, v => ∃ a, φ[n]? = some a ∧ v = .ref a
structure SlR (bn : Ban) (φ : List Addr) (H : Hp) (ρ : Sl) (σ : St) : Prop where
  len : ρ.length = σ.length
  at_ : ∀ (i : Nat) (x : A), ρ[i]? = some (some x) → ∃ v, σ[i]? = some (some v) ∧ RelA K mg bn φ H x v
end
structure Ex (φ : List Addr) (M : Mm) (H : Hp) (φ' : List Addr) (M' : Mm) (H' : Hp) : Prop where
  pre : ∃ new, φ' = φ ++ new
  new : ∀ a, a ∈ φ' → a ∉ φ → H a = none
  gon : ∀ n : Nat, M[n]? = some .gone → M'[n]? = some .gone
  keep : ∀ b o, H b = some o → ¬ live φ M b → H' b = some o

section
variable {K : PySem.W.Frag} {mg : Str → Option Value} {bn bn' : Ban} {H H' H'' : Hp} {B : Ban} {φ φ' φ'' : List Addr} {M M' M'' : Mm}
theorem RelOs.mono (k : Kp bn H H') (hb : ∀ a, bn' a → bn a ∨ H a = none) : ∀ {d : List (Option D)} {v : List (Option V)}, RelOs K mg bn H d v → RelOs K mg bn' H' d v
  | [], _, h => h
  | none :: ds, v, h => by
    simp only [RelOs] at h ⊢
    obtain ⟨x, xs, e, rs⟩ := h
    exact ⟨x, xs, e, RelOs.mono k hb rs⟩
  | some d :: ds, v, h => by
    simp only [RelOs] at h ⊢
    obtain ⟨x, xs, e, r, rs⟩ := h
    exact ⟨x, xs, e, r.mono k hb, RelOs.mono k hb rs⟩
theorem MOk.trk {a : Addr} {mo : MO} (h : MOk K mg bn H a mo) : H a ≠ none := by
  cases mo with
  | lst _ => obtain ⟨_, h, _⟩ := h; rw [h]; exact fun z => nomatch z
  | dic _ => obtain ⟨_, h, _⟩ := h; rw [h]; exact fun z => nomatch z
  | dit _ => obtain ⟨_, h, _⟩ := h; rw [h]; exact fun z => nomatch z
  | obj _ _ =>
    obtain ⟨C, dx, xs, _, h, _⟩ := h
    rcases h with ⟨h, _⟩ | ⟨h, _⟩ <;> rw [h] <;> exact fun z => nomatch z
  | any => exact h.1
  | gone => exact h
theorem rd_not {a : Addr} {o : HO} (h : H a = some o) (h1 : ∀ xs, o ≠ .tup xs) (h2 : ∀ b u, o ≠ .frz b u) (xs : List V) : ¬ Rd H a (.tup xs) := by
  rintro (r | ⟨q, r⟩) <;> rw [h] at r <;> cases r
  · exact h1 _ rfl
  · exact h2 _ _ rfl
theorem MOk.notup {a : Addr} {mo : MO} (h : MOk K mg bn H a mo) (hg : mo ≠ .gone) (xs : List V) : ¬ Rd H a (.tup xs) := by
  cases mo with
  | lst _ => obtain ⟨_, h, _⟩ := h; exact rd_not h (fun _ z => nomatch z) (fun _ _ z => nomatch z) xs
  | dic _ => obtain ⟨_, h, _⟩ := h; exact rd_not h (fun _ z => nomatch z) (fun _ _ z => nomatch z) xs
  | dit _ => obtain ⟨_, h, _⟩ := h; exact rd_not h (fun _ z => nomatch z) (fun _ _ z => nomatch z) xs
  | obj _ _ =>
    obtain ⟨C, dx, xs, _, h, _⟩ := h
    rcases h with ⟨h, _⟩ | ⟨h, _⟩ <;> exact rd_not h (fun _ z => nomatch z) (fun _ _ z => nomatch z) _
  | any => exact h.2 xs
  | gone => exact absurd rfl hg
theorem Rl.at (R : Rl K mg B φ M H) {a : Addr} (h : a ∈ φ) : ∃ (n : Nat) (mo : MO), φ[n]? = some a ∧ M[n]? = some mo ∧ MOk K mg (bnd B φ M) H a mo := by
  obtain ⟨n, hn, e⟩ := List.getElem_of_mem h
  have hm : n < M.length := by rw [← R.len]; exact hn
  exact ⟨n, M[n], by rw [List.getElem?_eq_getElem hn, e], List.getElem?_eq_getElem hm, R.obj n _ a (List.getElem?_eq_getElem hm) (by rw [List.getElem?_eq_getElem hn, e])⟩
theorem Rl.there (R : Rl K mg B φ M H) {a : Addr} (h : a ∈ φ) : H a ≠ none := by
  obtain ⟨_, _, _, _, m⟩ := R.at h
  exact m.trk
theorem Rl.bnd_some (R : Rl K mg B φ M H) {a : Addr} (h : bnd B φ M a) : H a ≠ none := by
  rcases h with h | ⟨n, mo, e, _, _⟩
  · exact (R.trk a h).1
  · exact R.there (List.mem_of_getElem? e)
theorem Rl.bnd_notup (R : Rl K mg B φ M H) {a : Addr} (h : bnd B φ M a) (xs : List V) : ¬ Rd H a (.tup xs) := by
  rcases h with h | ⟨n, mo, e, em, g⟩
  · exact (R.trk a h).2 xs
  · exact (R.obj n mo a em e).notup g xs
theorem Ex.kp (R : Rl K mg B φ M H) (E : Ex φ M H φ' M' H') : Kp (bnd B φ M) H H' :=
  .of (fun b o h n => E.keep b o h fun z => n (.inr z)) fun b xs h => R.bnd_notup h xs
theorem nodup_at {l : List Addr} (nd : l.Nodup) {i j : Nat} {a : Addr} (h1 : l[i]? = some a) (h2 : l[j]? = some a) : i = j := by
  obtain ⟨p, e1⟩ := List.getElem?_eq_some_iff.mp h1
  obtain ⟨q, e2⟩ := List.getElem?_eq_some_iff.mp h2
  exact (List.getElem_inj nd).mp (e1.trans e2.symm)
theorem Ex.live' {B2 : Ban} (R : Rl K mg B φ M H) (R' : Rl K mg B2 φ' M' H') (E : Ex φ M H φ' M' H') {a : Addr} (h : live φ' M' a) : live φ M a ∨ H a = none := by
  obtain ⟨n, mo, e, em, g⟩ := h
  by_cases ha : a ∈ φ
  · obtain ⟨k, mo', e', em', _⟩ := R.at ha
    refine .inl ⟨k, mo', e', em', ?_⟩
    rintro rfl
    obtain ⟨new, rfl⟩ := E.pre
    obtain ⟨hk, _⟩ := List.getElem?_eq_some_iff.mp e'
    have e2 : (φ ++ new)[k]? = some a := by rw [List.getElem?_append_left hk]; exact e'
    have : n = k := nodup_at R'.nd e e2
    subst this
    have := E.gon _ em'
    rw [em] at this; cases this
    exact g rfl
  · exact .inr (E.new a (List.mem_of_getElem? e) ha)
theorem Ex.bnd' (R : Rl K mg B φ M H) (R' : Rl K mg B φ' M' H') (E : Ex φ M H φ' M' H') : ∀ a, bnd B φ' M' a → bnd B φ M a ∨ H a = none := fun a h => by
  rcases h with h | h
  · exact .inl (.inl h)
  · exact (E.live' R R' h).imp .inr id
theorem Ex.refl : Ex φ M H φ M H := ⟨⟨[], by simp⟩, fun a h n => absurd h n, fun _ h => h, fun _ _ h _ => h⟩
theorem Ex.trans {B2 : Ban} (R : Rl K mg B φ M H) (R' : Rl K mg B2 φ' M' H') (E : Ex φ M H φ' M' H') (E' : Ex φ' M' H' φ'' M'' H'') : Ex φ M H φ'' M'' H'' where
  pre := by
    obtain ⟨n1, rfl⟩ := E.pre
    obtain ⟨n2, rfl⟩ := E'.pre
    exact ⟨n1 ++ n2, by rw [List.append_assoc]⟩
  new := fun a h n => by
    by_cases ha : a ∈ φ'
    · exact E.new a ha n
    · have z := E'.new a h ha
      cases q : H a with
      | none => rfl
      | some o =>
        have := E.keep a o q fun ⟨k, mo, e, _, _⟩ => n (List.mem_of_getElem? e)
        rw [z] at this; cases this
  gon := fun n h => E'.gon n (E.gon n h)
  keep := fun b o h n => E'.keep b o (E.keep b o h n) fun z => by
    rcases E.live' R R' z with z | z
    · exact n z
    · rw [z] at h; cases h
theorem Ex.same (h : Same H H') : Ex φ M H φ M H' := ⟨⟨[], by simp⟩, fun a h n => absurd h n, fun _ h => h, fun _ _ e _ => h _ _ e⟩
theorem RelA.mono (k : Kp bn H H') (hb : ∀ a, bn' a → bn a ∨ H a = none) (hp : ∃ new, φ' = φ ++ new) {x : A} {v : V} (r : RelA K mg bn φ H x v) : RelA K mg bn' φ' H' x v := by
  cases x with
  | val d => exact RelD.mono k hb r
  | ref n =>
    obtain ⟨a, e, rfl⟩ := r
    obtain ⟨new, rfl⟩ := hp
    exact ⟨a, by rw [List.getElem?_append_left (List.getElem?_eq_some_iff.mp e).1]; exact e, rfl⟩
theorem SlR.mono {ρ : Sl} {σ : St} (k : Kp bn H H') (hb : ∀ a, bn' a → bn a ∨ H a = none) (hp : ∃ new, φ' = φ ++ new) (r : SlR K mg bn φ H ρ σ) : SlR K mg bn' φ' H' ρ σ :=
  ⟨r.len, fun i x e => let ⟨v, e', q⟩ := r.at_ i x e; ⟨v, e', q.mono k hb hp⟩⟩
theorem SlR.ex {ρ : Sl} {σ : St} (R : Rl K mg B φ M H) (R' : Rl K mg B φ' M' H') (E : Ex φ M H φ' M' H') (r : SlR K mg (bnd B φ M) φ H ρ σ) : SlR K mg (bnd B φ' M') φ' H' ρ σ := r.mono (E.kp R) (E.bnd' R R') E.pre
theorem RelA.ex {x : A} {v : V} (R : Rl K mg B φ M H) (R' : Rl K mg B φ' M' H') (E : Ex φ M H φ' M' H') (r : RelA K mg (bnd B φ M) φ H x v) : RelA K mg (bnd B φ' M') φ' H' x v := r.mono (E.kp R) (E.bnd' R R') E.pre
theorem RelD.ex {x : D} {v : V} (R : Rl K mg B φ M H) (R' : Rl K mg B φ' M' H') (E : Ex φ M H φ' M' H') (r : RelD K mg (bnd B φ M) H x v) : RelD K mg (bnd B φ' M') H' x v := RelD.mono (E.kp R) (E.bnd' R R') r
theorem RelDs.ex {x : List D} {v : List V} (R : Rl K mg B φ M H) (R' : Rl K mg B φ' M' H') (E : Ex φ M H φ' M' H') (r : RelDs K mg (bnd B φ M) H x v) : RelDs K mg (bnd B φ' M') H' x v := RelDs.mono (E.kp R) (E.bnd' R R') r
theorem SlR.set {ρ : Sl} {σ : St} {x : A} {v : V} (r : SlR K mg bn φ H ρ σ) (i : Nat) (q : RelA K mg bn φ H x v) : SlR K mg bn φ H (ρ.set i (some x)) (σ.set i (some v)) := by
  refine ⟨by simpa using r.len, fun j y e => ?_⟩
  by_cases h : j = i
  · subst h
    by_cases hj : j < ρ.length
    · rw [List.getElem?_set_self hj] at e
      cases e
      exact ⟨v, List.getElem?_set_self (by rw [← r.len]; exact hj), q⟩
    · rw [List.getElem?_eq_none (by simpa using hj)] at e
      cases e
  · rw [List.getElem?_set_ne (Ne.symm h)] at e
    obtain ⟨w, e', q'⟩ := r.at_ j y e
    exact ⟨w, by rw [List.getElem?_set_ne (Ne.symm h)]; exact e', q'⟩
/-! a new thing that is data at once: nothing but it is new -/
theorem same_upd {p : Addr} {o : HO} (h : H p = none) : Same H (upd H p o) := fun b u e => by rw [upd_ne (ne_of_none e h)]; exact e
theorem MOk.same {a : Addr} {mo : MO} (h : Same H H') (m : MOk K mg bn H a mo) : MOk K mg bn H' a mo := by
  cases mo with
  | lst _ => obtain ⟨xs, e, r⟩ := m; exact ⟨xs, h _ _ e, r.same h⟩
  | dic _ => obtain ⟨xs, e, r⟩ := m; exact ⟨xs, h _ _ e, r.mono (Kp.same h) fun _ z => .inl z⟩
  | dit _ => obtain ⟨xs, e, r⟩ := m; exact ⟨xs, h _ _ e, r.mono (Kp.same h) fun _ z => .inl z⟩
  | obj _ _ =>
    obtain ⟨C, dx, xs, g, e, r⟩ := m
    refine ⟨C, dx, xs, g, ?_, r.mono (Kp.same h) fun _ z => .inl z⟩
    rcases e with ⟨e, e'⟩ | ⟨e, e'⟩
    · exact .inl ⟨h _ _ e, e'⟩
    · exact .inr ⟨h _ _ e, h _ _ e'⟩
  | any =>
    obtain ⟨m1, m2⟩ := m
    cases q : H a with
    | none => exact absurd q m1
    | some o =>
      refine ⟨by rw [h _ _ q]; exact fun z => (nomatch z), fun xs r => m2 xs ?_⟩
      rcases r with r | ⟨u, r⟩
      · rw [h _ _ q] at r; exact .inl (q.trans r)
      · rw [h _ _ q] at r; exact .inr ⟨u, q.trans r⟩
  | gone =>
    cases q : H a with
    | none => exact absurd q m
    | some o => show H' a ≠ none; rw [h _ _ q]; exact fun z => (nomatch z)
theorem Rl.same (R : Rl K mg B φ M H) (h : Same H H') : Rl K mg B φ M H' where
  len := R.len
  nd := R.nd
  out := R.out
  trk := fun a z => by
    obtain ⟨m1, m2⟩ := R.trk a z
    cases q : H a with
    | none => exact absurd q m1
    | some o =>
      refine ⟨by rw [h _ _ q]; exact fun z => (nomatch z), fun xs r => m2 xs ?_⟩
      rcases r with r | ⟨u, r⟩
      · rw [h _ _ q] at r; exact .inl (q.trans r)
      · rw [h _ _ q] at r; exact .inr ⟨u, q.trans r⟩
  obj := fun n mo a e1 e2 => (R.obj n mo a e1 e2).same h
end

/-! ### the judgement of an expression -/
abbrev Ev := Sl → Mm → Option (Rs × Mm)
def PostE (K : PySem.W.Frag) (mg : Str → Option Value) (W : WX) (B : Ban) (φ : List Addr) (M : Mm) (H : Hp) (σ : St) (M' : Mm) (Q : VK) : Rs → Prop
  | .ok x => ∀ v H' φ', Ex φ M H φ' M' H' → Rl K mg B φ' M' H' → RelA K mg (bnd B φ' M') φ' H' x v → Q v H'
  | .err c d => ∀ C dx v H' φ', mg c = some (.ref C) → Ex φ M H φ' M' H' → Rl K mg B φ' M' H' → H' dx = some (.xd [("value", v)]) → ¬ bnd B φ' M' dx → RelD K mg (bnd B φ' M') H' d v → W (.ref C) (some dx) σ H'
def tD (K : PySem.W.Frag) (mg : Str → Option Value) (W : WX) (f : Ev) : TE := fun σ H Q =>
  ∃ B φ ρ M r M', Rl K mg B φ M H ∧ SlR K mg (bnd B φ M) φ H ρ σ ∧ f ρ M = some (r, M') ∧ PostE K mg W B φ M H σ M' Q r
abbrev DE (X : Cx) (W : WX) (e : Expr) (f : Ev) : Prop := PE X e (tD X.K X.mg W f)
theorem pe_weak {X : Cx} {e : Expr} {t t' : TE} (h : PE X e t) (w : ∀ σ H Q, t' σ H Q → t σ H Q) : PE X e t' := ⟨fun pins s σ H Q I q => h.run pins s σ H Q I (w σ H Q q)⟩

def eV (i : Nat) : Ev := fun ρ M => match ρ[i]? with
  | some (some x) => some (.ok x, M)
  | _ => none
def eC (d : D) : Ev := fun _ M => some (.ok (.val d), M)
section
variable {X : Cx} {W : WX} {pos : Pos}
theorem de_v (i : Nat) {x : Str} (hN : X.N[i]? = some x := by rfl) (hv : Vis X.env.scope x := by first | exact Or.inl rfl | exact Or.inr (Or.inl rfl) | exact Or.inr (Or.inr rfl)) (hd : (x == ("__debug__" : Str)) = false := by decide)
    (hcd : (x == ("__classdict__" : Str)) = false := by decide) : DE X W (.Name x pos) (eV i) := by
  refine pe_weak (pe_var hN hv hd hcd) fun σ H Q h => ?_
  obtain ⟨B, φ, ρ, M, r, M', R, S, e, q⟩ := h
  unfold eV at e
  split at e
  · rename_i x' ex
    cases e
    obtain ⟨v, ev, rv⟩ := S.at_ i x' ex
    exact ⟨v, ev, q v H φ Ex.refl R rv⟩
  · cases e
theorem de_c {e : Expr} {v : V} {d : D} (h : PE X e (tC v)) (r : ∀ bn H, RelD X.K X.mg bn H d v) : DE X W e (eC d) := by
  refine pe_weak h fun σ H Q h => ?_
  obtain ⟨B, φ, ρ, M, r', M', R, S, e, q⟩ := h
  cases e
  exact q v H φ Ex.refl R (r _ _)
theorem de_int {i j} : DE X W (.Constant (.int i) j pos) (eC (.int i)) := de_c pe_int fun _ _ => by simp only [RelD]
theorem de_str {x j} : DE X W (.Constant (.str x) j pos) (eC (.str x)) := de_c pe_str fun _ _ => by simp only [RelD]
theorem de_bl {b j} : DE X W (.Constant (.bool b) j pos) (eC (.bl b)) := de_c pe_bl fun _ _ => by simp only [RelD]
theorem de_non {j} : DE X W (.Constant .none j pos) (eC .non) := de_c pe_non fun _ _ => by simp only [RelD]
/-- a name of the module, as a thing -/
theorem de_glb {x : Str} {u : Value} {v : V} (hg : Gl X x) (hm : X.mg x = some u) (r : RelV v u) (hd : (x == ("__debug__" : Str)) = false := by decide) : DE X W (.Name x pos) (eC (.glb x)) :=
  de_c (pe_glob hg hm r hd) fun _ _ => by simp only [RelD]; exact ⟨u, hm, r⟩
/-- .. as its data -/
theorem de_gc {x : Str} {u : Value} {v : V} {d : D} (hg : Gl X x) (hm : X.mg x = some u) (r : RelV v u) (q : ∀ bn H, RelD X.K X.mg bn H d v) (hd : (x == ("__debug__" : Str)) = false := by decide) : DE X W (.Name x pos) (eC d) :=
  de_c (pe_glob hg hm r hd) q
theorem de_ty {x : Str} {n : String} (hg : Gl X x) (hm : X.mg x = none) (hv : bootBuiltins x = some (.type n)) (hn : x ≠ "__name__" := by decide) (hd : (x == ("__debug__" : Str)) = false := by decide) : DE X W (.Name x pos) (eC (.ty n)) :=
  de_c (pe_bltn hg hm hv (v := .ty n) rfl hn hd) fun _ _ => by simp only [RelD]
end
end Ow
namespace Ow
open PySem L2

/-! ### reading: the top may be a thing of the store -/
def RelT (K : PySem.W.Frag) (mg : Str → Option Value) (bn : Ban) (H : Hp) : D → V → Prop
  | .lst ds, v => ∃ a xs, v = .ref a ∧ H a = some (.lst xs) ∧ RelDs K mg bn H ds xs
  | .dic ds, v => ∃ a xs, v = .ref a ∧ Rd H a (.dK xs) ∧ RelKs K mg bn H ds xs
  | .dit ds, v => ∃ a xs, v = .ref a ∧ Rd H a (.dT xs) ∧ RelTs K mg bn H ds xs
  | .obj c ds, v => ∃ a C dx xs, v = .ref a ∧ mg c = some (.ref C) ∧ SlX.Slt H a C dx (xs.map some) ∧ RelDs K mg bn H ds xs
  | d, v => RelD K mg bn H d v
def allS : List (Option D) → Option (List D)
  | [] => some []
  | none :: _ => none
  | some d :: r => match allS r with
    | some ds => some (d :: ds)
    | none => none
def pk (M : Mm) : A → Option D
  | .val d => some d
  | .ref n => match M[n]? with
    | some (.lst xs) => some (.lst xs)
    | some (.dic xs) => some (.dic xs)
    | some (.dit xs) => some (.dit xs)
    | some (.obj c fs) => (match allS fs with
      | some ds => some (.obj c ds)
      | none => none)
    | _ => none
def pks (M : Mm) : List A → Option (List D)
  | [] => some []
  | x :: r => match pk M x, pks M r with
    | some d, some ds => some (d :: ds)
    | _, _ => none
section
variable {K : PySem.W.Frag} {mg : Str → Option Value} {bn bn' : Ban} {H H' H'' : Hp} {B : Ban} {φ φ' φ'' : List Addr} {M M' M'' : Mm}
theorem RelD.top {d : D} {v : V} (h : RelD K mg bn H d v) : RelT K mg bn H d v := by
  cases d with
  | lst _ => simp only [RelD] at h; obtain ⟨a, xs, e, _, s, r⟩ := h; exact ⟨a, xs, e, s, r⟩
  | dic _ => simp only [RelD] at h; obtain ⟨a, xs, e, _, s, r⟩ := h; exact ⟨a, xs, e, s, r⟩
  | dit _ => simp only [RelD] at h; obtain ⟨a, xs, e, _, s, r⟩ := h; exact ⟨a, xs, e, s, r⟩
  | obj _ _ => simp only [RelD] at h; obtain ⟨a, C, dx, xs, e, _, _, g, s, t, r⟩ := h; exact ⟨a, C, dx, xs, e, g, .inr ⟨s, t⟩, r⟩
  | _ => exact h
theorem allS_rel : ∀ {fs : List (Option D)} {ds : List D} {xs : List (Option V)}, allS fs = some ds → RelOs K mg bn H fs xs → ∃ ys, xs = ys.map some ∧ RelDs K mg bn H ds ys
  | [], _, _, e, h => by
    cases e
    simp only [RelOs] at h
    exact ⟨[], h, by simp only [RelDs]⟩
  | none :: _, _, _, e, _ => by cases e
  | some d :: r, _, _, e, h => by
    simp only [RelOs] at h
    obtain ⟨v, vs, rfl, rv, rs⟩ := h
    unfold allS at e
    split at e
    · rename_i ds eq
      cases e
      obtain ⟨ys, rfl, q⟩ := allS_rel eq rs
      exact ⟨v :: ys, rfl, .cons rv q⟩
    · cases e
theorem pk_rel (R : Rl K mg B φ M H) {x : A} {d : D} {v : V} (e : pk M x = some d) (h : RelA K mg (bnd B φ M) φ H x v) : RelT K mg (bnd B φ M) H d v := by
  cases x with
  | val d' => cases e; exact RelD.top h
  | ref n =>
    obtain ⟨a, ha, rfl⟩ := h
    simp only [pk] at e
    split at e
    · rename_i xs em
      cases e
      obtain ⟨ys, h1, h2⟩ := R.obj n _ a em ha
      exact ⟨a, ys, rfl, h1, h2⟩
    · rename_i xs em
      cases e
      obtain ⟨ys, h1, h2⟩ := R.obj n _ a em ha
      exact ⟨a, ys, rfl, .inl h1, h2⟩
    · rename_i xs em
      cases e
      obtain ⟨ys, h1, h2⟩ := R.obj n _ a em ha
      exact ⟨a, ys, rfl, .inl h1, h2⟩
    · rename_i c fs em
      split at e
      · rename_i ds eq
        cases e
        obtain ⟨C, dx, ys, g, h1, h2⟩ := R.obj n _ a em ha
        obtain ⟨zs, rfl, q⟩ := allS_rel eq h2
        exact ⟨a, C, dx, zs, rfl, g, h1, q⟩
      · cases e
    · cases e
end

/-! ### operations by values -/
section
variable (K : PySem.W.Frag) (mg : Str → Option Value)
def VOp1 (r : V → Hp → VK → Prop) (g : D → Option D) : Prop := ∀ (bn : Ban) (H : Hp) (x d : D) (v : V) (Q : VK), (∀ a, bn a → H a ≠ none) → RelT K mg bn H x v → g x = some d →
  (∀ v' H', Same H H' → RelD K mg bn H' d v' → Q v' H') → r v H Q
def VOp2 (r : R2) (g : D → D → Option D) : Prop := ∀ (bn : Ban) (H : Hp) (x y d : D) (v u : V) (Q : VK), (∀ a, bn a → H a ≠ none) → RelT K mg bn H x v → RelT K mg bn H y u → g x y = some d →
  (∀ v' H', Same H H' → RelD K mg bn H' d v' → Q v' H') → r v u H Q
def RelTl (bn : Ban) (H : Hp) : List D → List V → Prop
  | [], vs => vs = []
  | d :: ds, vs => ∃ u us, vs = u :: us ∧ RelT K mg bn H d u ∧ RelTl bn H ds us
def VOpN (r : List V → Hp → VK → Prop) (g : List D → Option D) : Prop := ∀ (bn : Ban) (H : Hp) (xs : List D) (d : D) (vs : List V) (Q : VK), (∀ a, bn a → H a ≠ none) → RelTl K mg bn H xs vs → g xs = some d →
  (∀ v' H', Same H H' → RelD K mg bn H' d v' → Q v' H') → r vs H Q
end
def e1 (g : D → Option D) (fa : Ev) : Ev := fun ρ M => match fa ρ M with
  | some (.ok x, M1) => (match pk M1 x with
    | some d => (match g d with
      | some d' => some (.ok (.val d'), M1)
      | none => none)
    | none => none)
  | some (.err c v, M1) => some (.err c v, M1)
  | none => none
def e2 (g : D → D → Option D) (fa fb : Ev) : Ev := fun ρ M => match fa ρ M with
  | some (.ok x, M1) => (match fb ρ M1 with
    | some (.ok y, M2) => (match pk M2 x, pk M2 y with
      | some d, some d' => (match g d d' with
        | some r => some (.ok (.val r), M2)
        | none => none)
      | _, _ => none)
    | some (.err c v, M2) => some (.err c v, M2)
    | none => none)
  | some (.err c v, M1) => some (.err c v, M1)
  | none => none
inductive Ra where
  | oks (xs : List A) | err (c : Str) (v : D)
def evs : List Ev → Sl → Mm → Option (Ra × Mm)
  | [], _, M => some (.oks [], M)
  | f :: fs, ρ, M => match f ρ M with
    | some (.ok x, M1) => (match evs fs ρ M1 with
      | some (.oks xs, M2) => some (.oks (x :: xs), M2)
      | some (.err c v, M2) => some (.err c v, M2)
      | none => none)
    | some (.err c v, M1) => some (.err c v, M1)
    | none => none
def eN (g : List D → Option D) (fs : List Ev) : Ev := fun ρ M => match evs fs ρ M with
  | some (.oks xs, M1) => (match pks M1 xs with
    | some ds => (match g ds with
      | some r => some (.ok (.val r), M1)
      | none => none)
    | none => none)
  | some (.err c v, M1) => some (.err c v, M1)
  | none => none
def RelAs (K : PySem.W.Frag) (mg : Str → Option Value) (bn : Ban) (φ : List Addr) (H : Hp) : List A → List V → Prop
  | [], vs => vs = []
  | x :: xs, vs => ∃ u us, vs = u :: us ∧ RelA K mg bn φ H x u ∧ RelAs K mg bn φ H xs us
def PostA (K : PySem.W.Frag) (mg : Str → Option Value) (W : WX) (B : Ban) (φ : List Addr) (M : Mm) (H : Hp) (σ : St) (M' : Mm) (Q : List V → Hp → Prop) : Ra → Prop
  | .oks xs => ∀ vs H' φ', Ex φ M H φ' M' H' → Rl K mg B φ' M' H' → RelAs K mg (bnd B φ' M') φ' H' xs vs → Q vs H'
  | .err c d => ∀ C dx v H' φ', mg c = some (.ref C) → Ex φ M H φ' M' H' → Rl K mg B φ' M' H' → H' dx = some (.xd [("value", v)]) → ¬ bnd B φ' M' dx → RelD K mg (bnd B φ' M') H' d v → W (.ref C) (some dx) σ H'
def tDA (K : PySem.W.Frag) (mg : Str → Option Value) (W : WX) (fs : List Ev) : TA := fun σ H Q =>
  ∃ B φ ρ M r M', Rl K mg B φ M H ∧ SlR K mg (bnd B φ M) φ H ρ σ ∧ evs fs ρ M = some (r, M') ∧ PostA K mg W B φ M H σ M' Q r
abbrev DA (X : Cx) (W : WX) (es : List Expr) (fs : List Ev) : Prop := PA X es (tDA X.K X.mg W fs)
theorem pa_weak {X : Cx} {e : List Expr} {t t' : TA} (h : PA X e t) (w : ∀ σ H Q, t' σ H Q → t σ H Q) : PA X e t' := ⟨fun pos pins s σ H Q I q => h.run pos pins s σ H Q I (w σ H Q q)⟩

section
variable {K : PySem.W.Frag} {mg : Str → Option Value} {bn bn' : Ban} {H H' H'' : Hp} {B : Ban} {φ φ' φ'' : List Addr} {M M' M'' : Mm}
theorem RelAs.mono (k : Kp bn H H') (hb : ∀ a, bn' a → bn a ∨ H a = none) (hp : ∃ new, φ' = φ ++ new) : ∀ {xs : List A} {vs : List V}, RelAs K mg bn φ H xs vs → RelAs K mg bn' φ' H' xs vs
  | [], _, h => h
  | x :: xs, _, h => by
    simp only [RelAs] at h ⊢
    obtain ⟨u, us, e, r, rs⟩ := h
    exact ⟨u, us, e, r.mono k hb hp, RelAs.mono k hb hp rs⟩
theorem pks_rel (R : Rl K mg B φ M H) : ∀ {xs : List A} {ds : List D} {vs : List V}, pks M xs = some ds → RelAs K mg (bnd B φ M) φ H xs vs → RelTl K mg (bnd B φ M) H ds vs
  | [], _, _, e, h => by cases e; simpa only [RelAs, RelTl] using h
  | x :: xs, _, _, e, h => by
    unfold pks at e
    split at e
    · rename_i d ds e1 e2
      cases e
      simp only [RelAs] at h
      obtain ⟨u, us, rfl, r, rs⟩ := h
      simp only [RelTl]
      exact ⟨u, us, rfl, pk_rel R e1 r, pks_rel R e2 rs⟩
    · cases e
end
section
variable {X : Cx} {W : WX} {pos : Pos} {a b e : Expr} {es : List Expr} {fa fb : Ev} {fs : List Ev}
theorem t_e1 {r : V → Hp → VK → Prop} {g : D → Option D} (hg : VOp1 X.K X.mg r g) {σ : St} {H : Hp} {Q : VK} (h : tD X.K X.mg W (e1 g fa) σ H Q) : tUn r (tD X.K X.mg W fa) σ H Q := by
  obtain ⟨B, φ, ρ, M, r', M', R, S, e, q⟩ := h
  unfold e1 at e
  split at e
  · rename_i x M1 ea
    split at e
    · rename_i d ed
      split at e
      · rename_i d' eg
        cases e
        refine ⟨B, φ, ρ, M, _, _, R, S, ea, fun v H1 φ1 E1 R1 D1 => ?_⟩
        refine hg _ H1 d d' v Q (fun a z => R1.bnd_some z) (pk_rel R1 ed D1) eg fun v' H' s' D' => ?_
        exact q v' H' φ1 (E1.trans R R1 (.same s')) (R1.same s') D'
      · cases e
    · cases e
  · rename_i c v M1 ea
    cases e
    exact ⟨B, φ, ρ, M, _, _, R, S, ea, q⟩
  · cases e
theorem t_e2 {r : R2} {g : D → D → Option D} (hg : VOp2 X.K X.mg r g) {σ : St} {H : Hp} {Q : VK} (h : tD X.K X.mg W (e2 g fa fb) σ H Q) : tOp r (tD X.K X.mg W fa) (tD X.K X.mg W fb) σ H Q := by
  obtain ⟨B, φ, ρ, M, r', M', R, S, e, q⟩ := h
  unfold e2 at e
  split at e
  · rename_i x M1 ea
    split at e
    · rename_i y M2 eb
      split at e
      · rename_i d d' ed ed'
        split at e
        · rename_i z eg
          cases e
          refine ⟨B, φ, ρ, M, _, _, R, S, ea, fun v H1 φ1 E1 R1 D1 => ?_⟩
          refine ⟨B, φ1, ρ, M1, _, _, R1, S.ex R R1 E1, eb, fun u H2 φ2 E2 R2 D2 => ?_⟩
          refine hg _ H2 d d' z v u Q (fun a z => R2.bnd_some z) (pk_rel R2 ed (D1.ex R1 R2 E2)) (pk_rel R2 ed' D2) eg fun v' H' s' D' => ?_
          exact q v' H' φ2 ((E1.trans R R1 E2).trans R R2 (.same s')) (R2.same s') D'
        · cases e
      · cases e
    · rename_i c v M2 eb
      cases e
      refine ⟨B, φ, ρ, M, _, _, R, S, ea, fun v' H1 φ1 E1 R1 D1 => ?_⟩
      exact ⟨B, φ1, ρ, M1, _, _, R1, S.ex R R1 E1, eb, fun C dx v H2 φ2 gC E2 R2 hd nb rd => q C dx v H2 φ2 gC (E1.trans R R1 E2) R2 hd nb rd⟩
    · cases e
  · rename_i c v M1 ea
    cases e
    exact ⟨B, φ, ρ, M, _, _, R, S, ea, q⟩
  · cases e
theorem da_nil : DA X W [] [] := pa_weak pa_nil fun σ H Q h => by
  obtain ⟨B, φ, ρ, M, r', M', R, S, e, q⟩ := h
  cases e
  exact q [] H φ .refl R (by simp only [RelAs])
theorem da_cons (ha : DE X W e fa) (hr : DA X W es fs) (hs : starEach (e :: es) X.env = (false, eval e X.env) :: starEach es X.env := by rfl) : DA X W (e :: es) (fa :: fs) := by
  refine pa_weak (pa_cons ha hr hs) fun σ H Q h => ?_
  obtain ⟨B, φ, ρ, M, r', M', R, S, e, q⟩ := h
  unfold evs at e
  split at e
  · rename_i x M1 ea
    split at e
    · rename_i xs M2 eb
      cases e
      refine ⟨B, φ, ρ, M, _, _, R, S, ea, fun v H1 φ1 E1 R1 D1 => ?_⟩
      refine ⟨B, φ1, ρ, M1, _, _, R1, S.ex R R1 E1, eb, fun us H2 φ2 E2 R2 D2 => ?_⟩
      exact q _ H2 φ2 (E1.trans R R1 E2) R2 (by simp only [RelAs]; exact ⟨_, _, rfl, D1.ex R1 R2 E2, D2⟩)
    · rename_i c v M2 eb
      cases e
      refine ⟨B, φ, ρ, M, _, _, R, S, ea, fun v' H1 φ1 E1 R1 D1 => ?_⟩
      exact ⟨B, φ1, ρ, M1, _, _, R1, S.ex R R1 E1, eb, fun C dx v H2 φ2 gC E2 R2 hd nb rd => q C dx v H2 φ2 gC (E1.trans R R1 E2) R2 hd nb rd⟩
    · cases e
  · rename_i c v M1 ea
    cases e
    exact ⟨B, φ, ρ, M, _, _, R, S, ea, q⟩
  · cases e
theorem t_eN {r : List V → Hp → VK → Prop} {g : List D → Option D} (hg : VOpN X.K X.mg r g) {σ : St} {H : Hp} {Q : VK} (h : tD X.K X.mg W (eN g fs) σ H Q) : tCB r (tDA X.K X.mg W fs) σ H Q := by
  obtain ⟨B, φ, ρ, M, r', M', R, S, e, q⟩ := h
  unfold eN at e
  split at e
  · rename_i xs M1 ea
    split at e
    · rename_i ds ed
      split at e
      · rename_i d' eg
        cases e
        refine ⟨B, φ, ρ, M, _, _, R, S, ea, fun vs H1 φ1 E1 R1 D1 => ?_⟩
        refine hg _ H1 ds d' vs Q (fun a z => R1.bnd_some z) (pks_rel R1 ed D1) eg fun v' H' s' D' => ?_
        exact q v' H' φ1 (E1.trans R R1 (.same s')) (R1.same s') D'
      · cases e
    · cases e
  · rename_i c v M1 ea
    cases e
    exact ⟨B, φ, ρ, M, _, _, R, S, ea, q⟩
  · cases e
theorem de_un {op : UnaryOp} {r : V → Hp → VK → Prop} {g : D → Option D} (ho : UnR X (unaryOp op) r) (hg : VOp1 X.K X.mg r g) (ha : DE X W a fa) : DE X W (.UnaryOp op a pos) (e1 g fa) := pe_weak (pe_un ho ha) fun _ _ _ h => t_e1 hg h
theorem de_bin {op : Operator} {r : R2} {g : D → D → Option D} (ho : OpR X (binaryOp op) r) (hg : VOp2 X.K X.mg r g) (ha : DE X W a fa) (hb : DE X W b fb) : DE X W (.BinOp a op b pos) (e2 g fa fb) := pe_weak (pe_op ho ha hb) fun _ _ _ h => t_e2 hg h
theorem de_cmp {op : CmpOp} {r : R2} {g : D → D → Option D} (ho : OpR X (compareOp op) r) (hg : VOp2 X.K X.mg r g) (ha : DE X W a fa) (hb : DE X W b fb) (hm : behindInMarks op b = false) : DE X W (.Compare a [op] [b] pos) (e2 g fa fb) := pe_weak (pe_cmpR ho ha hb hm) fun _ _ _ h => t_e2 hg h
theorem de_ix {r : R2} {g : D → D → Option D} (ho : IxR X r) (hg : VOp2 X.K X.mg r g) (ha : DE X W a fa) (hb : DE X W b fb) (hs : PlainIx b) : DE X W (.Subscript a b pos) (e2 g fa fb) := pe_weak (pe_ix ho ha hb hs) fun _ _ _ h => t_e2 hg h
theorem de_callB {x : Str} {p : Pos} {id : String} {r : List V → Hp → VK → Prop} {g : List D → Option D} (hc : CallR X (.builtin id) r) (hv : bootBuiltins x = some (.builtin id)) (hg : VOpN X.K X.mg r g) (hgl : Gl X x) (hm : X.mg x = none) (ha : DA X W (e :: es) fs)
    (hn : x ≠ "__name__" := by decide) (hdb : (x == ("__debug__" : Str)) = false := by decide) (he : starEach (e :: es) X.env = (false, eval e X.env) :: starEach es X.env := by rfl) (hpl : (backTo pos (starEach es X.env)).any (·.1) = false := by rfl) :
    DE X W (.Call (.Name x p) (e :: es) [] pos) (eN g fs) := pe_weak (pe_callB hc hgl hm hv ha hn hdb he hpl) fun _ _ _ h => t_eN hg h
theorem de_callT {x : Str} {p : Pos} {T : String} {r : List V → Hp → VK → Prop} {g : List D → Option D} (hc : CallR X (.type T) r) (hv : bootBuiltins x = some (.type T)) (hg : VOpN X.K X.mg r g) (hgl : Gl X x) (hm : X.mg x = none) (ha : DA X W (e :: es) fs)
    (hn : x ≠ "__name__" := by decide) (hdb : (x == ("__debug__" : Str)) = false := by decide) (he : starEach (e :: es) X.env = (false, eval e X.env) :: starEach es X.env := by rfl) (hpl : (backTo pos (starEach es X.env)).any (·.1) = false := by rfl) :
    DE X W (.Call (.Name x p) (e :: es) [] pos) (eN g fs) := pe_weak (pe_callTy hc hgl hm hv ha hn hdb he hpl) fun _ _ _ h => t_eN hg h
end
end Ow
namespace Ow
open PySem L2

inductive Fl where
  | nx | rt (x : A) | bk | ct | err (c : Str) (v : D)
abbrev Sv := Sl → Mm → Option (Fl × Sl × Mm)
def PostS (K : PySem.W.Frag) (mg : Str → Option Value) (W : WX) (B : Ban) (φ : List Addr) (M : Mm) (H : Hp) (N : Ends) (ρ' : Sl) (M' : Mm) : Fl → Prop
  | .nx => ∀ σ' H' φ', Ex φ M H φ' M' H' → Rl K mg B φ' M' H' → SlR K mg (bnd B φ' M') φ' H' ρ' σ' → N.nx σ' H'
  | .bk => ∀ σ' H' φ', Ex φ M H φ' M' H' → Rl K mg B φ' M' H' → SlR K mg (bnd B φ' M') φ' H' ρ' σ' → N.bk σ' H'
  | .ct => ∀ σ' H' φ', Ex φ M H φ' M' H' → Rl K mg B φ' M' H' → SlR K mg (bnd B φ' M') φ' H' ρ' σ' → N.ct σ' H'
  | .rt x => ∀ v H' φ', Ex φ M H φ' M' H' → Rl K mg B φ' M' H' → RelA K mg (bnd B φ' M') φ' H' x v → N.rt v H'
  | .err c d => ∀ C dx v σ' H' φ', mg c = some (.ref C) → Ex φ M H φ' M' H' → Rl K mg B φ' M' H' → SlR K mg (bnd B φ' M') φ' H' ρ' σ' → H' dx = some (.xd [("value", v)]) → ¬ bnd B φ' M' dx →
      RelD K mg (bnd B φ' M') H' d v → W (.ref C) (some dx) σ' H'
def tDS (K : PySem.W.Frag) (mg : Str → Option Value) (W : WX) (g : Sv) : TS := fun N σ H =>
  ∃ B φ ρ M fl ρ' M', Rl K mg B φ M H ∧ SlR K mg (bnd B φ M) φ H ρ σ ∧ g ρ M = some (fl, ρ', M') ∧ PostS K mg W B φ M H N ρ' M' fl
abbrev DS (X : Cx) (W : WX) (st : Stmt) (g : Sv) : Prop := PS X st (tDS X.K X.mg W g)
abbrev DSs (X : Cx) (W : WX) (sts : List Stmt) (g : Sv) : Prop := PSs X sts (tDS X.K X.mg W g)
theorem ps_weak {X : Cx} {e : Stmt} {t t' : TS} (h : PS X e t) (w : ∀ N σ H, t' N σ H → t N σ H) : PS X e t' := ⟨fun pins s σ H Q I q => h.run pins s σ H Q I (w Q σ H q)⟩
theorem pss_weak {X : Cx} {e : List Stmt} {t t' : TS} (h : PSs X e t) (w : ∀ N σ H, t' N σ H → t N σ H) : PSs X e t' := ⟨fun pins s σ H Q I q => h.run pins s σ H Q I (w Q σ H q)⟩

/-! ### tests -/
inductive Rb where
  | tt (b : Bool) | err (c : Str) (v : D)
abbrev Et := Sl → Mm → Option (Rb × Mm)
def PostT (K : PySem.W.Frag) (mg : Str → Option Value) (W : WX) (B : Ban) (φ : List Addr) (M : Mm) (H : Hp) (σ : St) (M' : Mm) (Q : Bool → Hp → Prop) : Rb → Prop
  | .tt b => ∀ H' φ', Ex φ M H φ' M' H' → Rl K mg B φ' M' H' → Q b H'
  | .err c d => ∀ C dx v H' φ', mg c = some (.ref C) → Ex φ M H φ' M' H' → Rl K mg B φ' M' H' → H' dx = some (.xd [("value", v)]) → ¬ bnd B φ' M' dx → RelD K mg (bnd B φ' M') H' d v → W (.ref C) (some dx) σ H'
def tDT (K : PySem.W.Frag) (mg : Str → Option Value) (W : WX) (f : Et) : TT := fun σ H Q =>
  ∃ B φ ρ M r M', Rl K mg B φ M H ∧ SlR K mg (bnd B φ M) φ H ρ σ ∧ f ρ M = some (r, M') ∧ PostT K mg W B φ M H σ M' Q r
abbrev DT (X : Cx) (W : WX) (e : Expr) (f : Et) : Prop := PT X e (tDT X.K X.mg W f)
abbrev DW (X : Cx) (W : WX) (e : Expr) (f : Et) : Prop := PW X e (tDT X.K X.mg W f)
theorem pt_weak {X : Cx} {e : Expr} {t t' : TT} (h : PT X e t) (w : ∀ σ H Q, t' σ H Q → t σ H Q) : PT X e t' := ⟨fun pins s σ H Q I q => h.run pins s σ H Q I (w σ H Q q)⟩
theorem pw_weak {X : Cx} {e : Expr} {t t' : TT} (h : PW X e t) (w : ∀ σ H Q, t' σ H Q → t σ H Q) : PW X e t' := ⟨fun wh pins s σ H Q I q => h.run wh pins s σ H Q I (w σ H Q q)⟩
/-- truth of data -/
def dTruth : D → Option Bool
  | .non => some false
  | .bl b => some b
  | .int i => some (i != 0)
  | .str x => if x.length ≤ sizeLine then some ((x.length : Int) != 0) else none
  | .lst xs => some (!xs.isEmpty)
  | .tup xs => some (!xs.isEmpty)
  | _ => none
def eT (fa : Ev) : Et := fun ρ M => match fa ρ M with
  | some (.ok x, M1) => (match pk M1 x with
    | some d => (match dTruth d with
      | some b => some (.tt b, M1)
      | none => none)
    | none => none)
  | some (.err c v, M1) => some (.err c v, M1)
  | none => none
def eNot (f : Et) : Et := fun ρ M => match f ρ M with
  | some (.tt b, M1) => some (.tt (!b), M1)
  | some (.err c v, M1) => some (.err c v, M1)
  | none => none
def eAnd (f g : Et) : Et := fun ρ M => match f ρ M with
  | some (.tt true, M1) => g ρ M1
  | some (.tt false, M1) => some (.tt false, M1)
  | some (.err c v, M1) => some (.err c v, M1)
  | none => none
def eOr (f g : Et) : Et := fun ρ M => match f ρ M with
  | some (.tt true, M1) => some (.tt true, M1)
  | some (.tt false, M1) => g ρ M1
  | some (.err c v, M1) => some (.err c v, M1)
  | none => none
def eIf (c : Et) (f g : Ev) : Ev := fun ρ M => match c ρ M with
  | some (.tt true, M1) => f ρ M1
  | some (.tt false, M1) => g ρ M1
  | some (.err c v, M1) => some (.err c v, M1)
  | none => none
/-- a bool made of a test -/
def eB (f : Et) : Ev := fun ρ M => match f ρ M with
  | some (.tt b, M1) => some (.ok (.val (.bl b)), M1)
  | some (.err c v, M1) => some (.err c v, M1)
  | none => none
section
variable {K : PySem.W.Frag} {mg : Str → Option Value} {bn : Ban} {H : Hp}
theorem relDs_empty {ds : List D} {xs : List V} (r : RelDs K mg bn H ds xs) : (!ds.isEmpty) = !xs.isEmpty := by
  cases ds with
  | nil => simp only [RelDs] at r; rw [r]; rfl
  | cons d ds => simp only [RelDs] at r; obtain ⟨v, vs, rfl, _⟩ := r; rfl
theorem truth_rel {d : D} {v : V} {b : Bool} (e : dTruth d = some b) (h : RelT K mg bn H d v) : TruV K v H b := by
  cases d with
  | non => cases e; simp only [RelT, RelD] at h; subst h; rfl
  | bl _ => cases e; simp only [RelT, RelD] at h; subst h; rfl
  | int _ => cases e; simp only [RelT, RelD] at h; subst h; rfl
  | str x =>
    simp only [RelT, RelD] at h; subst h
    simp only [dTruth] at e
    split at e
    · rename_i hz; cases e; exact ⟨hz, rfl⟩
    · cases e
  | lst xs =>
    cases e
    obtain ⟨a, ys, rfl, h1, r⟩ := h
    exact .inl ⟨ys, .of h1, relDs_empty r⟩
  | tup xs =>
    cases e
    simp only [RelT, RelD] at h
    obtain ⟨a, ys, rfl, h1, r⟩ := h
    exact .inr (.inl ⟨ys, h1, relDs_empty r⟩)
  | _ => cases e
end
section
variable {X : Cx} {W : WX} {pos : Pos} {a b e : Expr} {es rest : List Expr} {fa fb : Ev} {fs : List Ev} {f g : Et}
theorem t_eT {σ : St} {H : Hp} {Q : Bool → Hp → Prop} (h : tDT X.K X.mg W (eT fa) σ H Q) : tD X.K X.mg W fa σ H fun x H' => ∃ k, TruV X.K x H' k ∧ Q k H' := by
  obtain ⟨B, φ, ρ, M, r', M', R, S, e, q⟩ := h
  unfold eT at e
  split at e
  · rename_i x M1 ea
    split at e
    · rename_i d ed
      split at e
      · rename_i k ek
        cases e
        exact ⟨B, φ, ρ, M, _, _, R, S, ea, fun v H1 φ1 E1 R1 D1 => ⟨k, truth_rel ek (pk_rel R1 ed D1), q H1 φ1 E1 R1⟩⟩
      · cases e
    · cases e
  · rename_i c v M1 ea
    cases e
    exact ⟨B, φ, ρ, M, _, _, R, S, ea, q⟩
  · cases e
/-- an expression as a test, by its truth -/
theorem dt_val (ha : DE X W a fa) (he : ∀ whole, isTrue a X.env whole = (do let v ← whole; standAt a.pos; holding [v] (truthy v)) := by intro _; rfl) : DT X W a (eT fa) := pt_weak (pt_truth ha he) fun _ _ _ h => t_eT h
theorem dt_cmp {op : CmpOp} {r : R2} {g : D → D → Option D} (ho : OpR X (compareOp op) r) (hg : VOp2 X.K X.mg r g) (hb : ∀ x y z, g x y = some z → ∃ k, z = .bl k) (ha : DE X W a fa) (hb' : DE X W b fb) (hm : behindInMarks op b = false) : DT X W (.Compare a [op] [b] pos) (eT (e2 g fa fb)) := by
  refine pt_weak (pt_cmpR ho ha hb' hm) fun σ H Q h => ?_
  refine t_e2 hg (Q := fun x H' => ∃ k, x = .bl k ∧ Q k H') ?_
  obtain ⟨B, φ, ρ, M, r', M', R, S, e, q⟩ := h
  unfold eT at e
  split at e
  · rename_i x M1 ea
    split at e
    · rename_i d ed
      split at e
      · rename_i k ek
        cases e
        refine ⟨B, φ, ρ, M, _, _, R, S, ea, fun v H1 φ1 E1 R1 D1 => ?_⟩
        have hx : ∃ k', x = .val (.bl k') := by
          unfold e2 at ea
          repeat' split at ea
          all_goals first | (cases ea; done) | skip
          rename_i z ez
          cases ea
          obtain ⟨k', rfl⟩ := hb _ _ _ ez
          exact ⟨k', rfl⟩
        obtain ⟨k', rfl⟩ := hx
        cases ed
        cases ek
        simp only [RelA, RelD] at D1
        exact ⟨_, D1, q H1 φ1 E1 R1⟩
      · cases e
    · cases e
  · rename_i c v M1 ea
    cases e
    exact ⟨B, φ, ρ, M, _, _, R, S, ea, q⟩
  · cases e
theorem dt_not (ha : DT X W a f) : DT X W (.UnaryOp .Not a pos) (eNot f) := by
  refine pt_weak (pt_not ha) fun σ H Q h => ?_
  obtain ⟨B, φ, ρ, M, r', M', R, S, e, q⟩ := h
  unfold eNot at e
  split at e
  · rename_i b M1 ea; cases e; exact ⟨B, φ, ρ, M, _, _, R, S, ea, q⟩
  · rename_i c v M1 ea; cases e; exact ⟨B, φ, ρ, M, _, _, R, S, ea, q⟩
  · cases e
theorem t_eAnd {σ : St} {H : Hp} {Q : Bool → Hp → Prop} (h : tDT X.K X.mg W (eAnd f g) σ H Q) : tAnd (tDT X.K X.mg W f) (tDT X.K X.mg W g) σ H Q := by
  obtain ⟨B, φ, ρ, M, r', M', R, S, e, q⟩ := h
  unfold eAnd at e
  split at e
  · rename_i M1 ea
    refine ⟨B, φ, ρ, M, _, _, R, S, ea, fun H1 φ1 E1 R1 => ?_⟩
    refine iteT ?_
    refine ⟨B, φ1, ρ, M1, _, _, R1, S.ex R R1 E1, e, ?_⟩
    cases r' with
    | tt b => exact fun H2 φ2 E2 R2 => q H2 φ2 (E1.trans R R1 E2) R2
    | err c v => exact fun C dx v H2 φ2 gC E2 R2 hd nb rd => q C dx v H2 φ2 gC (E1.trans R R1 E2) R2 hd nb rd
  · rename_i M1 ea
    cases e
    refine ⟨B, φ, ρ, M, _, _, R, S, ea, fun H1 φ1 E1 R1 => ?_⟩
    refine iteF ?_
    exact q H1 φ1 E1 R1
  · rename_i c v M1 ea; cases e; exact ⟨B, φ, ρ, M, _, _, R, S, ea, q⟩
  · cases e
theorem t_eOr {σ : St} {H : Hp} {Q : Bool → Hp → Prop} (h : tDT X.K X.mg W (eOr f g) σ H Q) : tOr (tDT X.K X.mg W f) (tDT X.K X.mg W g) σ H Q := by
  obtain ⟨B, φ, ρ, M, r', M', R, S, e, q⟩ := h
  unfold eOr at e
  split at e
  · rename_i M1 ea
    cases e
    refine ⟨B, φ, ρ, M, _, _, R, S, ea, fun H1 φ1 E1 R1 => ?_⟩
    refine iteT ?_
    exact q H1 φ1 E1 R1
  · rename_i M1 ea
    refine ⟨B, φ, ρ, M, _, _, R, S, ea, fun H1 φ1 E1 R1 => ?_⟩
    refine iteF ?_
    refine ⟨B, φ1, ρ, M1, _, _, R1, S.ex R R1 E1, e, ?_⟩
    cases r' with
    | tt b => exact fun H2 φ2 E2 R2 => q H2 φ2 (E1.trans R R1 E2) R2
    | err c v => exact fun C dx v H2 φ2 gC E2 R2 hd nb rd => q C dx v H2 φ2 gC (E1.trans R R1 E2) R2 hd nb rd
  · rename_i c v M1 ea; cases e; exact ⟨B, φ, ρ, M, _, _, R, S, ea, q⟩
  · cases e
theorem dw_and1 (ha : DT X W a f) : DW X W (.BoolOp .And [a] pos) f := pw_and1 ha
theorem dw_or1 (ha : DT X W a f) : DW X W (.BoolOp .Or [a] pos) f := pw_or1 ha
theorem dw_and (ha : DT X W a f) (hb : DW X W (.BoolOp .And (b :: rest) pos) g) : DW X W (.BoolOp .And (a :: b :: rest) pos) (eAnd f g) := pw_weak (pw_and ha hb) fun _ _ _ h => t_eAnd h
theorem dw_or (ha : DT X W a f) (hb : DW X W (.BoolOp .Or (b :: rest) pos) g) : DW X W (.BoolOp .Or (a :: b :: rest) pos) (eOr f g) := pw_weak (pw_or ha hb) fun _ _ _ h => t_eOr h
theorem dw_t {e : Expr} (h : DW X W e f) : DT X W e f := PW.pt h
theorem de_if {c : Expr} (hc : DT X W c f) (ha : DE X W a fa) (hb : DE X W b fb) : DE X W (.IfExp c a b pos) (eIf f fa fb) := by
  refine pe_weak (pe_ifExp hc ha hb) fun σ H Q h => ?_
  obtain ⟨B, φ, ρ, M, r', M', R, S, e, q⟩ := h
  unfold eIf at e
  split at e
  · rename_i M1 ea
    refine ⟨B, φ, ρ, M, _, _, R, S, ea, fun H1 φ1 E1 R1 => ?_⟩
    refine iteT ?_
    refine ⟨B, φ1, ρ, M1, _, _, R1, S.ex R R1 E1, e, ?_⟩
    cases r' with
    | ok x => exact fun v H2 φ2 E2 R2 D2 => q v H2 φ2 (E1.trans R R1 E2) R2 D2
    | err c v => exact fun C dx v H2 φ2 gC E2 R2 hd nb rd => q C dx v H2 φ2 gC (E1.trans R R1 E2) R2 hd nb rd
  · rename_i M1 ea
    refine ⟨B, φ, ρ, M, _, _, R, S, ea, fun H1 φ1 E1 R1 => ?_⟩
    refine iteF ?_
    refine ⟨B, φ1, ρ, M1, _, _, R1, S.ex R R1 E1, e, ?_⟩
    cases r' with
    | ok x => exact fun v H2 φ2 E2 R2 D2 => q v H2 φ2 (E1.trans R R1 E2) R2 D2
    | err c v => exact fun C dx v H2 φ2 gC E2 R2 hd nb rd => q C dx v H2 φ2 gC (E1.trans R R1 E2) R2 hd nb rd
  · rename_i c v M1 ea; cases e; exact ⟨B, φ, ρ, M, _, _, R, S, ea, q⟩
  · cases e
end
end Ow
namespace Ow
open PySem L2

def sNil : Sv := fun ρ M => some (.nx, ρ, M)
def sSeq (g h : Sv) : Sv := fun ρ M => match g ρ M with
  | some (.nx, ρ1, M1) => h ρ1 M1
  | r => r
def sExpr (f : Ev) : Sv := fun ρ M => match f ρ M with
  | some (.ok _, M1) => some (.nx, ρ, M1)
  | some (.err c v, M1) => some (.err c v, ρ, M1)
  | none => none
def sRet (f : Ev) : Sv := fun ρ M => match f ρ M with
  | some (.ok x, M1) => some (.rt x, ρ, M1)
  | some (.err c v, M1) => some (.err c v, ρ, M1)
  | none => none
def sSet (i : Nat) (f : Ev) : Sv := fun ρ M => match f ρ M with
  | some (.ok x, M1) => some (.nx, ρ.set i (some x), M1)
  | some (.err c v, M1) => some (.err c v, ρ, M1)
  | none => none
def sIf (c : Et) (g h : Sv) : Sv := fun ρ M => match c ρ M with
  | some (.tt true, M1) => g ρ M1
  | some (.tt false, M1) => h ρ M1
  | some (.err c v, M1) => some (.err c v, ρ, M1)
  | none => none
def sWhile (c : Et) (g : Sv) : Nat → Sv
  | 0, _, _ => none
  | n + 1, ρ, M => match c ρ M with
    | some (.tt true, M1) => (match g ρ M1 with
      | some (.nx, ρ2, M2) => sWhile c g n ρ2 M2
      | some (.ct, ρ2, M2) => sWhile c g n ρ2 M2
      | some (.bk, ρ2, M2) => some (.nx, ρ2, M2)
      | r => r)
    | some (.tt false, M1) => some (.nx, ρ, M1)
    | some (.err c v, M1) => some (.err c v, ρ, M1)
    | none => none
/-- targets -/
abbrev Tg := D → Sl → Option Sl
def gN (i : Nat) : Tg := fun d ρ => some (ρ.set i (some (.val d)))
def gAll : List Tg → List D → Sl → Option Sl
  | [], [], ρ => some ρ
  | g :: gs, d :: ds, ρ => match g d ρ with
    | some ρ1 => gAll gs ds ρ1
    | none => none
  | _, _, _ => none
def gT (gs : List Tg) : Tg := fun d ρ => match d with
  | .tup ds => gAll gs ds ρ
  | _ => none
def sAsg (g : Tg) (f : Ev) : Sv := fun ρ M => match f ρ M with
  | some (.ok (.val d), M1) => (match g d ρ with
    | some ρ1 => some (.nx, ρ1, M1)
    | none => none)
  | some (.ok (.ref _), _) => none
  | some (.err c v, M1) => some (.err c v, ρ, M1)
  | none => none
/-- what a for walks -/
inductive Ri where
  | its (ds : List D) | err (c : Str) (v : D)
abbrev Ei := Sl → Mm → Option (Ri × Mm)
def forL (g : Tg) (b : Sv) : List D → Sv
  | [], ρ, M => some (.nx, ρ, M)
  | d :: ds, ρ, M => match g d ρ with
    | some ρ1 => (match b ρ1 M with
      | some (.nx, ρ2, M2) => forL g b ds ρ2 M2
      | some (.ct, ρ2, M2) => forL g b ds ρ2 M2
      | some (.bk, ρ2, M2) => some (.nx, ρ2, M2)
      | r => r)
    | none => none
def sFor (fi : Ei) (g : Tg) (b : Sv) : Sv := fun ρ M => match fi ρ M with
  | some (.its ds, M1) => forL g b ds ρ M1
  | some (.err c v, M1) => some (.err c v, ρ, M1)
  | none => none

structure Wk (K : PySem.W.Frag) (mg : Str → Option Value) (bn : Ban) (H : Hp) (J : It) (ds : List D) : Prop where
  go : ∀ i H2, Kp bn H H2 → i < ds.length → J.go i H2
  stop : ∀ i H2, Kp bn H H2 → ds.length ≤ i → J.stop i H2
  yld : ∀ i d (bn2 : Ban) H2 x H3, Kp bn H H2 → (∀ a, bn2 a → bn a ∨ H a = none) → ds[i]? = some d → J.yld i H2 x H3 → Same H2 H3 ∧ RelD K mg bn2 H3 d x
def PostI (K : PySem.W.Frag) (mg : Str → Option Value) (W : WX) (B : Ban) (φ : List Addr) (M : Mm) (H : Hp) (σ : St) (M' : Mm) (R : It → Hp → Prop) : Ri → Prop
  | .its ds => ∀ J H' φ', Ex φ M H φ' M' H' → Rl K mg B φ' M' H' → Wk K mg (bnd B φ' M') H' J ds → R J H'
  | .err c d => ∀ C dx v H' φ', mg c = some (.ref C) → Ex φ M H φ' M' H' → Rl K mg B φ' M' H' → H' dx = some (.xd [("value", v)]) → ¬ bnd B φ' M' dx → RelD K mg (bnd B φ' M') H' d v → W (.ref C) (some dx) σ H'
def tDI (K : PySem.W.Frag) (mg : Str → Option Value) (W : WX) (f : Ei) : TI := fun σ H R =>
  ∃ B φ ρ M r M', Rl K mg B φ M H ∧ SlR K mg (bnd B φ M) φ H ρ σ ∧ f ρ M = some (r, M') ∧ PostI K mg W B φ M H σ M' R r
abbrev DI (X : Cx) (W : WX) (tg e : Expr) (f : Ei) : Prop := PI X tg e (tDI X.K X.mg W f)
theorem pi_weak {X : Cx} {tg e : Expr} {t t' : TI} (h : PI X tg e t) (w : ∀ σ H Q, t' σ H Q → t σ H Q) : PI X tg e t' := ⟨fun pins s σ H Q I q => h.run pins s σ H Q I (w σ H Q q)⟩
def tDG (K : PySem.W.Frag) (mg : Str → Option Value) (g : Tg) : TG := fun v σ H Q => ∃ B φ ρ M d ρ', Rl K mg B φ M H ∧ SlR K mg (bnd B φ M) φ H ρ σ ∧ RelD K mg (bnd B φ M) H d v ∧ g d ρ = some ρ' ∧
  ∀ σ', SlR K mg (bnd B φ M) φ H ρ' σ' → Q σ' H
abbrev DG (X : Cx) (tg : Expr) (g : Tg) : Prop := PG X tg (tDG X.K X.mg g)
theorem pg_weak {X : Cx} {tg : Expr} {t t' : TG} (h : PG X tg t) (w : ∀ v σ H Q, t' v σ H Q → t v σ H Q) : PG X tg t' := ⟨fun pins s σ H v u Q I r q => h.run pins s σ H v u Q I r (w _ _ _ _ q)⟩
def tDGs (K : PySem.W.Frag) (mg : Str → Option Value) (gs : List Tg) : TGs := fun vs σ H Q => ∃ B φ ρ M ds ρ', Rl K mg B φ M H ∧ SlR K mg (bnd B φ M) φ H ρ σ ∧ RelDs K mg (bnd B φ M) H ds vs ∧ gAll gs ds ρ = some ρ' ∧
  ∀ σ', SlR K mg (bnd B φ M) φ H ρ' σ' → Q σ' H
abbrev DGs (X : Cx) (ts : List Expr) (gs : List Tg) : Prop := PGs X ts (tDGs X.K X.mg gs)

section
variable {X : Cx} {W : WX} {pos : Pos} {a b e tg : Expr} {es rest : List Expr} {fa fb : Ev} {fs : List Ev} {f : Et} {st : Stmt} {sts : List Stmt} {g h : Sv}
theorem PostS.trans {K : PySem.W.Frag} {mg : Str → Option Value} {B : Ban} {φ φ1 : List Addr} {M M1 M' : Mm} {H H1 : Hp} {N : Ends} {ρ' : Sl} {fl : Fl} (R : Rl K mg B φ M H) (R1 : Rl K mg B φ1 M1 H1) (E : Ex φ M H φ1 M1 H1)
    (q : PostS K mg W B φ M H N ρ' M' fl) : PostS K mg W B φ1 M1 H1 N ρ' M' fl := by
  cases fl with
  | nx => exact fun σ' H' φ' E' => q σ' H' φ' (E.trans R R1 E')
  | bk => exact fun σ' H' φ' E' => q σ' H' φ' (E.trans R R1 E')
  | ct => exact fun σ' H' φ' E' => q σ' H' φ' (E.trans R R1 E')
  | rt x => exact fun v H' φ' E' => q v H' φ' (E.trans R R1 E')
  | err c d => exact fun C dx v σ' H' φ' gC E' => q C dx v σ' H' φ' gC (E.trans R R1 E')
theorem dss_nil : DSs X W [] sNil := pss_weak pss_nil fun N σ H h => by
  obtain ⟨B, φ, ρ, M, fl, ρ', M', R, S, e, q⟩ := h
  cases e
  exact q σ H φ .refl R S
theorem dss_cons (h1 : DS X W st g) (h2 : DSs X W sts h) : DSs X W (st :: sts) (sSeq g h) := by
  refine pss_weak (pss_cons h1 h2) fun N σ H hh => ?_
  obtain ⟨B, φ, ρ, M, fl, ρ', M', R, S, e, q⟩ := hh
  unfold sSeq at e
  split at e
  · rename_i ρ1 M1 ea
    exact ⟨B, φ, ρ, M, _, _, _, R, S, ea, fun σ1 H1 φ1 E1 R1 S1 => ⟨B, φ1, ρ1, M1, _, _, _, R1, S1, e, q.trans R R1 E1⟩⟩
  · rename_i hn
    refine ⟨B, φ, ρ, M, _, _, _, R, S, e, ?_⟩
    cases fl with
    | nx => exact absurd e (hn _ _)
    | bk => exact q
    | ct => exact q
    | rt x => exact q
    | err c v => exact q
theorem dss_one (h1 : DS X W st g) : DSs X W [st] g := pss_one h1
theorem ds_expr (he : DE X W e fa) (hs : swapsWith e none pos.line X.env = pure false := by rfl) : DS X W (.Expr e pos) (sExpr fa) := by
  refine ps_weak (ps_expr he hs) fun N σ H hh => ?_
  obtain ⟨B, φ, ρ, M, fl, ρ', M', R, S, e, q⟩ := hh
  unfold sExpr at e
  split at e
  · rename_i x M1 ea
    cases e
    exact ⟨B, φ, ρ, M, _, _, R, S, ea, fun v H1 φ1 E1 R1 D1 => q σ H1 φ1 E1 R1 (S.ex R R1 E1)⟩
  · rename_i c v M1 ea
    cases e
    exact ⟨B, φ, ρ, M, _, _, R, S, ea, fun C dx v H1 φ1 gC E1 R1 hd nb rd => q C dx v σ H1 φ1 gC E1 R1 (S.ex R R1 E1) hd nb rd⟩
  · cases e
theorem ds_ret (he : DE X W e fa) : DS X W (.Return (some e) pos) (sRet fa) := by
  refine ps_weak (ps_ret he) fun N σ H hh => ?_
  obtain ⟨B, φ, ρ, M, fl, ρ', M', R, S, e, q⟩ := hh
  unfold sRet at e
  split at e
  · rename_i x M1 ea
    cases e
    exact ⟨B, φ, ρ, M, _, _, R, S, ea, q⟩
  · rename_i c v M1 ea
    cases e
    exact ⟨B, φ, ρ, M, _, _, R, S, ea, fun C dx v H1 φ1 gC E1 R1 hd nb rd => q C dx v σ H1 φ1 gC E1 R1 (S.ex R R1 E1) hd nb rd⟩
  · cases e
theorem ds_set (i : Nat) {x : Str} {pos' : Pos} (hN : X.N.Nodup) (he : DE X W e fa) (hi : X.N[i]? = some x := by rfl) (hx : Loc X.env.scope x := by first | exact Or.inl rfl | exact Or.inr rfl) (hs : swapsWith e (some (.Name x pos')) pos.line X.env = pure false := by rfl)
    (hf : X.fn x = true ∨ X.env.scope.names.lookup x = some .local := by first | exact .inl rfl | exact .inr rfl | assumption) : DS X W (.Assign [.Name x pos'] e pos) (sSet i fa) := by
  refine ps_weak (ps_set hN hi hx he hs hf) fun N σ H hh => ?_
  obtain ⟨B, φ, ρ, M, fl, ρ', M', R, S, e, q⟩ := hh
  unfold sSet at e
  split at e
  · rename_i x M1 ea
    cases e
    exact ⟨B, φ, ρ, M, _, _, R, S, ea, fun v H1 φ1 E1 R1 D1 => q _ H1 φ1 E1 R1 ((S.ex R R1 E1).set i D1)⟩
  · rename_i c v M1 ea
    cases e
    exact ⟨B, φ, ρ, M, _, _, R, S, ea, fun C dx v H1 φ1 gC E1 R1 hd nb rd => q C dx v σ H1 φ1 gC E1 R1 (S.ex R R1 E1) hd nb rd⟩
  · cases e
theorem ds_if {c : Expr} {xs ys : List Stmt} (hc : DT X W c f) (ha : DSs X W xs g) (hb : DSs X W ys h) : DS X W (.If c xs ys pos) (sIf f g h) := by
  refine ps_weak (ps_if hc ha hb) fun N σ H hh => ?_
  obtain ⟨B, φ, ρ, M, fl, ρ', M', R, S, e, q⟩ := hh
  unfold sIf at e
  split at e
  · rename_i M1 ea
    refine ⟨B, φ, ρ, M, _, _, R, S, ea, fun H1 φ1 E1 R1 => iteT ?_⟩
    exact ⟨B, φ1, ρ, M1, _, _, _, R1, S.ex R R1 E1, e, q.trans R R1 E1⟩
  · rename_i M1 ea
    refine ⟨B, φ, ρ, M, _, _, R, S, ea, fun H1 φ1 E1 R1 => iteF ?_⟩
    exact ⟨B, φ1, ρ, M1, _, _, _, R1, S.ex R R1 E1, e, q.trans R R1 E1⟩
  · rename_i c v M1 ea
    cases e
    exact ⟨B, φ, ρ, M, _, _, R, S, ea, fun C dx v H1 φ1 gC E1 R1 hd nb rd => q C dx v σ H1 φ1 gC E1 R1 (S.ex R R1 E1) hd nb rd⟩
  · cases e
theorem ds_pass : DS X W (.Pass pos) sNil := ps_weak ps_pass fun N σ H h => by
  obtain ⟨B, φ, ρ, M, fl, ρ', M', R, S, e, q⟩ := h
  cases e
  exact q σ H φ .refl R S
theorem ds_doc {x j pos'} : DS X W (.Expr (.Constant (.str x) j pos) pos') sNil := ps_weak ps_doc fun N σ H h => by
  obtain ⟨B, φ, ρ, M, fl, ρ', M', R, S, e, q⟩ := h
  cases e
  exact q σ H φ .refl R S
theorem ds_while (n : Nat) {c : Expr} {xs : List Stmt} (hp : PassesOwn (model X.prog X.w) X.A X.env X.xe) (hc : DT X W c f) (hb : DSs X W xs g) : DS X W (.While c xs [] pos) (sWhile f g n) := by
  refine ps_weak (ps_while hp hc hb) fun N σ H hh => ?_
  obtain ⟨B, φ, ρ, M, fl, ρ', M', R, S, e, q⟩ := hh
  refine ⟨fun m σ1 H1 => ∃ φ1 ρ1 M1, Rl X.K X.mg B φ1 M1 H1 ∧ SlR X.K X.mg (bnd B φ1 M1) φ1 H1 ρ1 σ1 ∧ Ex φ M H φ1 M1 H1 ∧ sWhile f g m ρ1 M1 = some (fl, ρ', M'), ⟨n, φ, ρ, M, R, S, .refl, e⟩, ?_⟩
  rintro m σ1 H1 ⟨φ1, ρ1, M1, R1, S1, E1, e1⟩
  cases m with
  | zero => cases e1
  | succ m =>
    unfold sWhile at e1
    have q1 := q.trans R R1 E1
    split at e1
    · rename_i M2 ea
      refine ⟨B, φ1, ρ1, M1, _, _, R1, S1, ea, fun H2 φ2 E2 R2 => iteT ?_⟩
      have q2 := q1.trans R1 R2 E2
      have E3 := E1.trans R R1 E2
      refine ⟨fun σ3 H3 => ∃ φ3 ρ3 M3, Rl X.K X.mg B φ3 M3 H3 ∧ SlR X.K X.mg (bnd B φ3 M3) φ3 H3 ρ3 σ3 ∧ Ex φ M H φ3 M3 H3 ∧ sWhile f g m ρ3 M3 = some (fl, ρ', M'), fun σ3 H3 z => ⟨m, Nat.lt_succ_self m, z⟩, ?_⟩
      split at e1
      · rename_i ρ3 M3 eb
        exact ⟨B, φ2, ρ1, M2, _, _, _, R2, S1.ex R1 R2 E2, eb, fun σ3 H3 φ3 E4 R3 S3 => ⟨φ3, ρ3, M3, R3, S3, E3.trans R R2 E4, e1⟩⟩
      · rename_i ρ3 M3 eb
        exact ⟨B, φ2, ρ1, M2, _, _, _, R2, S1.ex R1 R2 E2, eb, fun σ3 H3 φ3 E4 R3 S3 => ⟨φ3, ρ3, M3, R3, S3, E3.trans R R2 E4, e1⟩⟩
      · rename_i ρ3 M3 eb
        cases e1
        exact ⟨B, φ2, ρ1, M2, _, _, _, R2, S1.ex R1 R2 E2, eb, q2⟩
      · rename_i h1 h2 h3
        refine ⟨B, φ2, ρ1, M2, _, _, _, R2, S1.ex R1 R2 E2, e1, ?_⟩
        cases fl with
        | nx => exact absurd e1 (h1 _ _)
        | ct => exact absurd e1 (h2 _ _)
        | bk => exact absurd e1 (h3 _ _)
        | rt x => exact q2
        | err c v => exact q2
    · rename_i M2 ea
      cases e1
      exact ⟨B, φ1, _, M1, _, _, R1, S1, ea, fun H2 φ2 E2 R2 => iteF (q1 σ1 H2 φ2 E2 R2 (S1.ex R1 R2 E2))⟩
    · rename_i c v M2 ea
      cases e1
      exact ⟨B, φ1, _, M1, _, _, R1, S1, ea, fun C dx v H2 φ2 gC E2 R2 hd nb rd => q1 C dx v σ1 H2 φ2 gC E2 R2 (S1.ex R1 R2 E2) hd nb rd⟩
    · cases e1
theorem dg_n (i : Nat) {x : Str} (hN : X.N.Nodup) (hi : X.N[i]? = some x := by rfl) (hx : Loc X.env.scope x := by first | exact Or.inl rfl | exact Or.inr rfl) (hf : X.fn x = true ∨ X.env.scope.names.lookup x = some .local := by first | exact .inl rfl | exact .inr rfl | assumption) :
    DG X (.Name x pos) (gN i) := by
  refine pg_weak (pg_name hN hi hx hf) fun v σ H Q h => ?_
  obtain ⟨B, φ, ρ, M, d, ρ', R, S, r, e, q⟩ := h
  cases e
  exact q _ (S.set i r)
theorem ds_for {xs : List Stmt} {fi : Ei} {gt : Tg} (hp : PassesOwn (model X.prog X.w) X.A X.env X.xe) (hc : X.calm = true) (hi : DI X W tg e fi) (hg : DG X tg gt) (hb : DSs X W xs g) (hs : ∀ x, foldedSetIterable e X.env x = pure x := by intro _; rfl) :
    DS X W (.For tg e xs [] pos) (sFor fi gt g) := by
  refine ps_weak (ps_for hp hc hi hg hb hs) fun N σ H hh => ?_
  obtain ⟨B, φ, ρ, M, fl, ρ', M', R, S, e, q⟩ := hh
  unfold sFor at e
  split at e
  · rename_i ds M1 ea
    refine ⟨B, φ, ρ, M, _, _, R, S, ea, fun J H1 φ1 E1 R1 w => ?_⟩
    have q1 := q.trans R R1 E1
    refine ⟨fun i m σ2 H2 => m + i = ds.length ∧ ∃ φ2 ρ2 M2, Rl X.K X.mg B φ2 M2 H2 ∧ SlR X.K X.mg (bnd B φ2 M2) φ2 H2 ρ2 σ2 ∧ Ex φ1 M1 H1 φ2 M2 H2 ∧ forL gt g (ds.drop i) ρ2 M2 = some (fl, ρ', M'),
      ⟨ds.length, rfl, φ1, ρ, M1, R1, S.ex R R1 E1, .refl, e⟩, ?_⟩
    rintro i m σ2 H2 ⟨hm, φ2, ρ2, M2, R2, S2, E2, e2⟩
    have q2 := q1.trans R1 R2 E2
    by_cases hlt : i < ds.length
    · rw [List.drop_eq_getElem_cons hlt] at e2
      unfold forL at e2
      split at e2
      · rename_i ρ3 eg
        refine .inr ⟨w.go i H2 (E2.kp R1) hlt, fun σ4 H4 => ∃ φ4 ρ4 M4, Rl X.K X.mg B φ4 M4 H4 ∧ SlR X.K X.mg (bnd B φ4 M4) φ4 H4 ρ4 σ4 ∧ Ex φ1 M1 H1 φ4 M4 H4 ∧ forL gt g (ds.drop (i + 1)) ρ4 M4 = some (fl, ρ', M'),
          fun σ4 H4 z => ⟨m - 1, by omega, by omega, z⟩, fun x H3 y => ?_⟩
        obtain ⟨sm, rx⟩ := w.yld i ds[i] (bnd B φ2 M2) H2 x H3 (E2.kp R1) (E2.bnd' R1 R2) (List.getElem?_eq_getElem hlt) y
        have R3 := R2.same sm
        have E3 : Ex φ2 M2 H2 φ2 M2 H3 := .same sm
        have q3 := q2.trans R2 R3 E3
        have E13 := E2.trans R1 R2 E3
        refine ⟨B, φ2, ρ2, M2, _, ρ3, R3, S2.ex R2 R3 E3, rx, eg, fun σ4 S4 => ?_⟩
        split at e2
        · rename_i ρ5 M5 eb
          exact ⟨B, φ2, ρ3, M2, _, _, _, R3, S4, eb, fun σ5 H5 φ5 E5 R5 S5 => ⟨φ5, ρ5, M5, R5, S5, E13.trans R1 R3 E5, e2⟩⟩
        · rename_i ρ5 M5 eb
          exact ⟨B, φ2, ρ3, M2, _, _, _, R3, S4, eb, fun σ5 H5 φ5 E5 R5 S5 => ⟨φ5, ρ5, M5, R5, S5, E13.trans R1 R3 E5, e2⟩⟩
        · rename_i ρ5 M5 eb
          cases e2
          exact ⟨B, φ2, ρ3, M2, _, _, _, R3, S4, eb, q3⟩
        · rename_i h1 h2 h3
          refine ⟨B, φ2, ρ3, M2, _, _, _, R3, S4, e2, ?_⟩
          cases fl with
          | nx => exact absurd e2 (h1 _ _)
          | ct => exact absurd e2 (h2 _ _)
          | bk => exact absurd e2 (h3 _ _)
          | rt x => exact q3
          | err c v => exact q3
      · cases e2
    · rw [List.drop_eq_nil_of_le (Nat.le_of_not_lt hlt)] at e2
      cases e2
      exact .inl ⟨w.stop i H2 (E2.kp R1) (Nat.le_of_not_lt hlt), q2 σ2 H2 φ2 .refl R2 S2⟩
  · rename_i c v M1 ea
    cases e
    exact ⟨B, φ, ρ, M, _, _, R, S, ea, fun C dx v H1 φ1 gC E1 R1 hd nb rd => q C dx v σ H1 φ1 gC E1 R1 (S.ex R R1 E1) hd nb rd⟩
  · cases e
end
end Ow
namespace Ow
open PySem L2
open PyProof.Rows (envOfC)

abbrev Fn := List A → Mm → Option (Rs × Mm)
def outA (m : Nat) (M : Mm) : A → Option A
  | .val d => some (.val d)
  | .ref n => if n < m then some (.ref n) else match M[n]? with
    | some (.lst xs) => some (.val (.lst xs))
    | some (.dic xs) => some (.val (.dic xs))
    | some (.dit xs) => some (.val (.dit xs))
    | _ => none
def fnD (n : Nat) (g : Sv) : Fn := fun xs M => match g (xs.map some ++ List.replicate (n - xs.length) none) M with
  | some (.nx, _, M') => some (.ok (.val .non), M'.take M.length)
  | some (.rt x, _, M') => (match outA M.length M' x with
    | some y => some (.ok y, M'.take M.length)
    | none => none)
  | some (.err c v, _, M') => some (.err c v, M'.take M.length)
  | _ => none
def PostF (K : PySem.W.Frag) (mg : Str → Option Value) (B : Ban) (φ : List Addr) (M : Mm) (H : Hp) (M' : Mm) (Q : VK) (E : XK) : Rs → Prop
  | .ok x => ∀ v H', Ex φ M H φ M' H' → Rl K mg B φ M' H' → RelA K mg (bnd B φ M') φ H' x v → Q v H'
  | .err c d => ∀ C dx v H', mg c = some (.ref C) → Ex φ M H φ M' H' → Rl K mg B φ M' H' → H' dx = some (.xd [("value", v)]) → ¬ bnd B φ M' dx → RelD K mg (bnd B φ M') H' d v → E (.ref C) (some dx) H'
def spD (K : PySem.W.Frag) (mg : Str → Option Value) (f : Fn) (n : Nat) : Sp := fun vs H Q E => vs.length = n ∧ ∃ B φ xs M r M', Rl K mg B φ M H ∧ RelAs K mg (bnd B φ M) φ H xs vs ∧ f xs M = some (r, M') ∧ PostF K mg B φ M H M' Q E r

/-- a def's promise, where no repr is being made around -/
structure FnG (P : Program) (w : World) (K : PySem.W.Frag) (mg : Str → Option Value) (base : Heap) (k : Nat) (f : Addr) (fd : FuncData) (ps : List Str) (sp : Sp) : Prop where
  len : ∀ vs H Q E, sp vs H Q E → vs.length = ps.length
  run : ∀ (A : Around) (outer : List Env) (s : Shared) (H : Hp) (args : Args) (us : List Value) (vs : List V) (Q : VK) (E : XK), Room k A → A.guards = some [] → Env0 P w K mg base A outer s H → BindsTo s fd args (ps.zip us) → Vals vs us → sp vs H Q E →
    codeAny (model P w) A (.call (.ref f) args) (CR (L2.CX P w) outer P w H s Q E) s
section
variable {P : Program} {w : World} {K : PySem.W.Frag} {mg : Str → Option Value} {base : Heap} {bn : Ban} {H H' H1 H2 : Hp} {B : Ban} {φ φ' : List Addr} {M M' M1 Mc Mc' : Mm}
theorem FnG.mono {j k : Nat} {f : Addr} {fd : FuncData} {ps : List Str} {sp : Sp} (F : FnG P w K mg base j f fd ps sp) (h : j ≤ k) : FnG P w K mg base k f fd ps sp := ⟨F.len, fun A outer s H args us vs Q E hr => F.run A outer s H args us vs Q E (hr.mono h)⟩
theorem RelAs.len {xs : List A} : ∀ {vs : List V}, RelAs K mg bn φ H xs vs → xs.length = vs.length := by
  induction xs with
  | nil => intro vs h; simp only [RelAs] at h; subst h; rfl
  | cons x xs ih => intro vs h; simp only [RelAs] at h; obtain ⟨u, us, rfl, _, rs⟩ := h; rw [List.length_cons, List.length_cons, ih rs]
theorem RelAs.get : ∀ {xs : List A} {vs : List V} {i : Nat} {x : A}, RelAs K mg bn φ H xs vs → xs[i]? = some x → ∃ v, vs[i]? = some v ∧ RelA K mg bn φ H x v
  | [], _, _, _, _, e => by simp at e
  | y :: xs, _, 0, _, h, e => by
    simp only [RelAs] at h
    obtain ⟨u, us, rfl, r, _⟩ := h
    simp at e; subst e
    exact ⟨u, rfl, r⟩
  | y :: xs, _, i + 1, x, h, e => by
    simp only [RelAs] at h
    obtain ⟨u, us, rfl, _, rs⟩ := h
    obtain ⟨v, e', r⟩ := RelAs.get (i := i) (x := x) rs (by simpa using e)
    exact ⟨v, by simpa using e', r⟩
/-- the arguments in their slots -/
theorem sl_start {xs : List A} {vs : List V} {N : List Str} (r : RelAs K mg bn φ H xs vs) : SlR K mg bn φ H (xs.map some ++ List.replicate (N.length - xs.length) none) (start N vs) := by
  have hl := r.len
  refine ⟨by unfold L2.start; simp only [List.length_append, List.length_map, List.length_replicate, hl], fun i x e => ?_⟩
  by_cases hi : i < xs.length
  · rw [List.getElem?_append_left (by simpa using hi), List.getElem?_map] at e
    cases q : xs[i]? with
    | none => rw [q] at e; cases e
    | some y =>
      rw [q] at e
      cases e
      obtain ⟨v, ev, rv⟩ := r.get q
      refine ⟨v, ?_, rv⟩
      unfold L2.start
      rw [List.getElem?_append_left (by rw [List.length_map, ← hl]; exact hi), List.getElem?_map, ev]
      rfl
  · rw [List.getElem?_append_right (by simpa using Nat.le_of_not_lt hi), List.getElem?_replicate] at e
    split at e <;> cases e
theorem live_take {m : Nat} {new : List Addr} {a : Addr} (h : live φ (M'.take m) a) : live (φ ++ new) M' a := by
  obtain ⟨n, mo, e, em, g⟩ := h
  refine ⟨n, mo, ?_, ?_, g⟩
  · rw [List.getElem?_append_left (List.getElem?_eq_some_iff.mp e).1]; exact e
  · rw [List.getElem?_take] at em
    split at em
    · exact em
    · cases em
theorem bnd_take {m : Nat} {new : List Addr} {a : Addr} (h : bnd B φ (M'.take m) a) : bnd B (φ ++ new) M' a := h.imp id live_take
theorem MOk.less {bn' : Ban} (hb : ∀ a, bn' a → bn a) {a : Addr} {mo : MO} (m : MOk K mg bn H a mo) : MOk K mg bn' H a mo := by
  have hb' : ∀ a, bn' a → bn a ∨ H a = none := fun a z => .inl (hb a z)
  cases mo with
  | lst _ => obtain ⟨xs, e, r⟩ := m; exact ⟨xs, e, r.mono .refl hb'⟩
  | dic _ => obtain ⟨xs, e, r⟩ := m; exact ⟨xs, e, r.mono .refl hb'⟩
  | dit _ => obtain ⟨xs, e, r⟩ := m; exact ⟨xs, e, r.mono .refl hb'⟩
  | obj _ _ => obtain ⟨C, dx, xs, g, e, r⟩ := m; exact ⟨C, dx, xs, g, e, r.mono .refl hb'⟩
  | any => exact m
  | gone => exact m
theorem Rl.take {new : List Addr} (R : Rl K mg B (φ ++ new) M' H) : Rl K mg B φ (M'.take φ.length) H where
  len := by
    have := R.len
    rw [List.length_append] at this
    rw [List.length_take]; omega
  nd := (List.nodup_append.mp R.nd).1
  out := fun a h => R.out a (List.mem_append_left _ h)
  trk := R.trk
  obj := fun n mo a e1 e2 => by
    rw [List.getElem?_take] at e1
    split at e1
    · exact (R.obj n mo a e1 (by rw [List.getElem?_append_left (List.getElem?_eq_some_iff.mp e2).1]; exact e2)).less fun a z => bnd_take z
    · cases e1
theorem Ex.take {new : List Addr} (R : Rl K mg B φ M H) (E : Ex φ M H (φ ++ new) M' H') : Ex φ M H φ (M'.take φ.length) H' where
  pre := ⟨[], by simp⟩
  new := fun a h n => absurd h n
  gon := fun n h => by
    have : n < φ.length := by rw [R.len]; exact (List.getElem?_eq_some_iff.mp h).1
    rw [List.getElem?_take, if_pos this]
    exact E.gon n h
  keep := E.keep
theorem out_rel {new : List Addr} (R : Rl K mg B (φ ++ new) M' H') {x y : A} {v : V} (e : outA φ.length M' x = some y) (r : RelA K mg (bnd B (φ ++ new) M') (φ ++ new) H' x v) : RelA K mg (bnd B φ (M'.take φ.length)) φ H' y v := by
  have hb : ∀ a, bnd B φ (M'.take φ.length) a → bnd B (φ ++ new) M' a ∨ H' a = none := fun a z => .inl (bnd_take z)
  cases x with
  | val d => cases e; exact RelD.mono .refl hb r
  | ref n =>
    obtain ⟨a, ea, rfl⟩ := r
    simp only [outA] at e
    split at e
    · rename_i hn
      cases e
      exact ⟨a, by rw [List.getElem?_append_left hn] at ea; exact ea, rfl⟩
    · rename_i hn
      have nb' : ¬ bnd B φ (M'.take φ.length) a := by
        rintro (z | ⟨k, mo, ek, _, _⟩)
        · exact R.out a (List.mem_of_getElem? ea) z
        · have hk := (List.getElem?_eq_some_iff.mp ek).1
          have : k = n := nodup_at R.nd (by rw [List.getElem?_append_left hk]; exact ek) ea
          omega
      split at e
      · rename_i xs em
        cases e
        obtain ⟨ys, h1, h2⟩ := R.obj n _ a em ea
        simp only [RelA, RelD]
        exact ⟨a, ys, rfl, nb', h1, h2.mono .refl hb⟩
      · rename_i xs em
        cases e
        obtain ⟨ys, h1, h2⟩ := R.obj n _ a em ea
        simp only [RelA, RelD]
        exact ⟨a, ys, rfl, nb', .inl h1, h2.mono .refl hb⟩
      · rename_i xs em
        cases e
        obtain ⟨ys, h1, h2⟩ := R.obj n _ a em ea
        simp only [RelA, RelD]
        exact ⟨a, ys, rfl, nb', .inl h1, h2.mono .refl hb⟩
      · cases e

abbrev cxD (P : Program) (w : World) (K : PySem.W.Frag) (mg : Str → Option Value) (base : Heap) (N : List Str) (qual : Str) (st : Stmt) (f : Addr) (cdv : Value) (A : Around) (outer : List Env) (s : Shared) (H : Hp) (E : XK) : Cx :=
  cxOf (L2.CX P w) P w K mg base N qual (defScope st) f cdv A outer s H E
abbrev wxE (E : XK) : WX := fun cls d _ H => E cls d H
theorem tk_D {N : List Str} {qual : Str} {st : Stmt} {f : Addr} {cdv : Value} {A : Around} {outer : List Env} {s : Shared} {E : XK} : Takes (cxD P w K mg base N qual st f cdv A outer s H E) (wxE E) := takes_of rfl rfl rfl rfl
theorem pas_D {N : List Str} {qual : Str} {st : Stmt} {f : Addr} {cdv : Value} {A : Around} {outer : List Env} {s : Shared} {E : XK} :
    PassesOwn (model (cxD P w K mg base N qual st f cdv A outer s H E).prog (cxD P w K mg base N qual st f cdv A outer s H E).w) (cxD P w K mg base N qual st f cdv A outer s H E).A (cxD P w K mg base N qual st f cdv A outer s H E).env (cxD P w K mg base N qual st f cdv A outer s H E).xe := passes_of rfl
/-- THE RULE for a def: its body's term -/
theorem fn_D {x qual : Str} {st : Stmt} {f : Addr} {fd : FuncData} {N ps : List Str} {k : Nat} {g : Sv} (F : Fun K x qual st f fd) (S : FnScope N ps (defScope st))
    (hbody : ∀ (cdv : Value) (A : Around) (outer : List Env) (s : Shared) (H : Hp) (E : XK), Room k (A.deeper (envOfC qual (defScope st) s.heap.objs.size f cdv)) → A.guards = some [] →
      DSs (cxD P w K mg base N qual st f cdv A outer s H E) (wxE E) (defBody st) g) : FnG P w K mg base (k + 1) f fd ps (spD K mg (fnD N.length g) ps.length) := by
  obtain ⟨oc, od, kV, doc, pm, an, cdv, ct, osl, rfl, lk, hcd⟩ := F.ex
  refine ⟨fun vs H Q E h => h.1, fun A outer s H args us vs Q E hr hG e0 hbi rv hsp => ?_⟩
  obtain ⟨hlen, B, φ, xs, M, r, M', R, rx, e, q⟩ := hsp
  have KX : K.In s.heap := e0.mod.kin.keeps fun b o z => (e0.bs b o z).1
  have lim : s.heap.NoLimit := e0.mod.nolimit.keeps fun b o z => (e0.bs b o z).1
  have kinds : ∀ y ∈ ps.zip us, (defScope st).names.lookup y.1 = some .local ∨ ((defScope st).names.lookup y.1 = some .cell ∧ ((cellsFrom (s.heap.objs.size + 1) (defScope st).names []).lookup y.1).isSome = true) := by
    rintro ⟨n, u⟩ hy
    refine (S.par n (List.of_mem_zip hy).1).imp id fun z => ⟨z, ?_⟩
    exact PySem.W.cellsFrom_some _ _ _ (.inl z)
  refine codeAny_call_function hr.depth (KX _ _ lk) rfl S.co S.gen rfl (PySem.W.codeRec_of KX hcd) (hbi _ _ _ _ ?_)
  refine wpAny_newFunctionEnv_cells S.kind kinds fun env he s1 x1 => ?_
  subst he
  refine ⟨lim.keeps x1.toInCall.keep, codeAny_func ?_⟩
  have I : Inv (cxOf (L2.CX P w) P w K mg base N qual (defScope st) f cdv A outer s H E) [] (start N vs) H s1 := inv_start S hr.hd e0 hlen rv x1
  have ht := hbody cdv A outer s H E (hr.deeper _) hG
  have hgo : tDS K mg (fun cls d _ H => E cls d H) g { nx := fun _ H' => Q .non H', rt := Q } (start N vs) H := by
    have S0 := sl_start (N := N) rx
    unfold fnD at e
    split at e
    · rename_i ρ1 M1 eg
      cases e
      refine ⟨B, φ, _, M, _, _, _, R, S0, eg, fun σ' H' φ' E1 R1 S1 => ?_⟩
      obtain ⟨new, rfl⟩ := E1.pre
      have e2 := E1.take R
      have r2 := R1.take
      rw [R.len] at e2 r2
      exact q _ _ e2 r2 (by simp only [RelA, RelD])
    · rename_i y ρ1 M1 eg
      split at e
      · rename_i z ez
        cases e
        refine ⟨B, φ, _, M, _, _, _, R, S0, eg, fun v H' φ' E1 R1 D1 => ?_⟩
        obtain ⟨new, rfl⟩ := E1.pre
        have e2 := E1.take R
        have r2 := R1.take
        rw [← R.len] at ez
        have d2 := out_rel R1 ez D1
        rw [R.len] at e2 r2 d2
        exact q _ _ e2 r2 d2
      · cases e
    · rename_i c v ρ1 M1 eg
      cases e
      refine ⟨B, φ, _, M, _, _, _, R, S0, eg, fun C dx v' σ' H' φ' gC E1 R1 S1 hd nb rd => ?_⟩
      obtain ⟨new, rfl⟩ := E1.pre
      have e2 := E1.take R
      have r2 := R1.take
      have hb : ∀ a, bnd B φ (M1.take φ.length) a → bnd B (φ ++ new) M1 a ∨ H' a = none := fun a z => .inl (bnd_take z)
      have d2 := RelD.mono .refl hb rd
      have n2 : ¬ bnd B φ (M1.take φ.length) dx := fun z => nb (bnd_take z)
      rw [R.len] at e2 r2 d2 n2
      exact q C dx v' H' gC e2 r2 hd n2 d2
    · cases e
  refine wpAny_mono (ht.run [] s1 (start N vs) H _ I hgo) (fun fl s' hs => ?_) fun u s' hs => hs
  have fin : ∀ {σ' : St} {H' : Hp} {v : V} {u : Value}, Inv (cxOf (L2.CX P w) P w K mg base N qual (defScope st) f cdv A outer s H E) [] σ' H' s' → RelV v u → Q v H' → CE outer P w H s Q u s' :=
    fun {σ' H' v u} J rv q => ⟨v, H', J.os, J.bare, J.base, J.hok, rv, q⟩
  match fl, hs with
  | .ret u, ⟨v, σ', H', J, rv, q⟩ => exact fin J rv q
  | .next, ⟨σ', H', J, q⟩ => exact fin (v := V.non) (u := Value.none) J rfl q
  | .brk, ⟨_, _, _, z⟩ => exact z.elim
  | .cont, ⟨_, _, _, z⟩ => exact z.elim
end
end Ow
namespace Ow
open PySem L2
open PyProof.Rows (envOfC)

def refsOf : List A → List Nat
  | [] => []
  | .val _ :: r => refsOf r
  | .ref n :: r => if (refsOf r).contains n then refsOf r else n :: refsOf r
def ren (ns : List Nat) : A → A
  | .val d => .val d
  | .ref n => .ref (ns.idxOf n)
def okArg : MO → Bool
  | .any => false
  | .gone => false
  | _ => true
def selM (M : Mm) : List Nat → Option Mm
  | [] => some []
  | n :: r => match M[n]?, selM M r with
    | some mo, some ms => if okArg mo then some (mo :: ms) else none
    | _, _ => none
def wb (M : Mm) : List Nat → Mm → Mm
  | n :: r, mo :: ms => (wb M r ms).set n mo
  | _, _ => M
def bk (ns : List Nat) : A → Option A
  | .val d => some (.val d)
  | .ref j => match ns[j]? with
    | some n => some (.ref n)
    | none => none
def callOn (f : Fn) (xs : List A) (M1 : Mm) : Option (Rs × Mm) := match selM M1 (refsOf xs) with
  | some Mc => (match f (xs.map (ren (refsOf xs))) Mc with
    | some (.ok y, Mc') => (match bk (refsOf xs) y with
      | some y' => some (.ok y', wb M1 (refsOf xs) Mc')
      | none => none)
    | some (.err c v, Mc') => some (.err c v, wb M1 (refsOf xs) Mc')
    | none => none)
  | none => none
def eCall (f : Fn) (fs : List Ev) : Ev := fun ρ M => match evs fs ρ M with
  | some (.oks xs, M1) => callOn f xs M1
  | some (.err c v, M1) => some (.err c v, M1)
  | none => none
theorem refs_nodup : ∀ xs : List A, (refsOf xs).Nodup
  | [] => List.nodup_nil
  | .val _ :: r => refs_nodup r
  | .ref n :: r => by
    unfold refsOf
    split
    · exact refs_nodup r
    · rename_i h
      exact List.nodup_cons.mpr ⟨fun z => h (by simpa using z), refs_nodup r⟩
theorem refs_mem : ∀ {xs : List A} {n : Nat}, A.ref n ∈ xs → n ∈ refsOf xs
  | [], _, h => nomatch h
  | .val _ :: r, n, h => by
    rcases List.mem_cons.mp h with h | h
    · cases h
    · show n ∈ refsOf r
      exact refs_mem h
  | .ref m :: r, n, h => by
    unfold refsOf
    rcases List.mem_cons.mp h with h | h
    · cases h
      split
      · rename_i z; simpa using z
      · exact List.mem_cons_self
    · split
      · exact refs_mem h
      · exact List.mem_cons_of_mem _ (refs_mem h)
section
variable {K : PySem.W.Frag} {mg : Str → Option Value} {H H' H1 H2 : Hp} {B : Ban} {φ : List Addr} {M Mc Mc' : Mm}
theorem selM_len : ∀ {ns : List Nat} {Mc : Mm}, selM M ns = some Mc → Mc.length = ns.length
  | [], _, e => by cases e; rfl
  | n :: r, _, e => by
    unfold selM at e
    split at e
    · rename_i mo ms e1 e2
      split at e
      · cases e
        rw [List.length_cons, List.length_cons, selM_len e2]
      · cases e
    · cases e
theorem selM_at : ∀ {ns : List Nat} {Mc : Mm} {j n : Nat}, selM M ns = some Mc → ns[j]? = some n → ∃ mo, M[n]? = some mo ∧ Mc[j]? = some mo ∧ okArg mo = true
  | [], _, _, _, _, e => by simp at e
  | m :: r, _, j, n, e, h => by
    unfold selM at e
    split at e
    · rename_i mo ms e1 e2
      split at e
      · rename_i ho
        cases e
        cases j with
        | zero => simp at h; subst h; exact ⟨mo, e1, rfl, ho⟩
        | succ j =>
          obtain ⟨mo', a, b, c⟩ := selM_at (j := j) (n := n) e2 (by simpa using h)
          exact ⟨mo', a, by simpa using b, c⟩
      · cases e
    · cases e
theorem wb_len : ∀ {ns : List Nat} {Mc : Mm}, (wb M ns Mc).length = M.length
  | [], _ => rfl
  | n :: r, [] => rfl
  | n :: r, mo :: ms => by unfold wb; rw [List.length_set]; exact wb_len
theorem wb_out : ∀ {ns : List Nat} {Mc : Mm} {n : Nat}, n ∉ ns → (wb M ns Mc)[n]? = M[n]?
  | [], _, _, _ => rfl
  | m :: r, [], _, _ => rfl
  | m :: r, mo :: ms, n, h => by
    unfold wb
    rw [List.getElem?_set_ne (fun z => h (by rw [z]; exact List.mem_cons_self))]
    exact wb_out fun z => h (List.mem_cons_of_mem _ z)
theorem wb_at : ∀ {ns : List Nat} {Mc : Mm} {j n : Nat}, ns.Nodup → (∀ n ∈ ns, n < M.length) → Mc.length = ns.length → ns[j]? = some n → (wb M ns Mc)[n]? = Mc[j]?
  | [], _, _, _, _, _, _, e => by simp at e
  | m :: r, [], _, _, _, _, hl, _ => by simp at hl
  | m :: r, mo :: ms, j, n, nd, hb, hl, e => by
    unfold wb
    cases j with
    | zero =>
      simp at e; subst e
      rw [List.getElem?_set_self (by rw [wb_len]; exact hb _ List.mem_cons_self)]
      rfl
    | succ j =>
      have e' : r[j]? = some n := by simpa using e
      have hn : m ≠ n := fun z => (List.nodup_cons.mp nd).1 (by rw [z]; exact List.mem_of_getElem? e')
      rw [List.getElem?_set_ne hn, wb_at (j := j) (List.nodup_cons.mp nd).2 (fun n h => hb n (List.mem_cons_of_mem _ h)) (by simpa using hl) e']
      simp
theorem idx_get {ns : List Nat} {n : Nat} (h : n ∈ ns) : ns[ns.idxOf n]? = some n := by
  rw [List.getElem?_eq_getElem (List.idxOf_lt_length_of_mem h), List.getElem_idxOf]

/-- the part of the store that a callee sees -/
structure Part (K : PySem.W.Frag) (mg : Str → Option Value) (B : Ban) (φ : List Addr) (M : Mm) (H : Hp) (ns : List Nat) (Mc : Mm) (φc : List Addr) (Bc : Ban) : Prop where
  R : Rl K mg B φ M H
  nd : ns.Nodup
  sel : selM M ns = some Mc
  at_ : ∀ j n : Nat, ns[j]? = some n → φc[j]? = φ[n]?
  len : φc.length = ns.length
  ban : ∀ a, Bc a ↔ bnd B φ M a ∧ a ∉ φc
theorem Part.ix {ns : List Nat} {φc : List Addr} {Bc : Ban} (p : Part K mg B φ M H ns Mc φc Bc) {a : Addr} {j : Nat} (h : φc[j]? = some a) : ∃ (n : Nat) (mo : MO), ns[j]? = some n ∧ φ[n]? = some a ∧ M[n]? = some mo ∧ Mc[j]? = some mo ∧ okArg mo = true := by
  have hj : j < ns.length := by rw [← p.len]; exact (List.getElem?_eq_some_iff.mp h).1
  have e := List.getElem?_eq_getElem hj
  obtain ⟨mo, h1, h2, h3⟩ := selM_at p.sel e
  exact ⟨_, mo, e, by rw [← p.at_ j _ e]; exact h, h1, h2, h3⟩
theorem ok_not {mo : MO} (h : okArg mo = true) : mo ≠ .gone := by rintro rfl; cases h
theorem Part.lv {ns : List Nat} {φc : List Addr} {Bc : Ban} (p : Part K mg B φ M H ns Mc φc Bc) {a : Addr} (h : a ∈ φc) : live φ M a ∧ live φc Mc a := by
  obtain ⟨j, hj, rfl⟩ := List.getElem_of_mem h
  have e := List.getElem?_eq_getElem hj
  obtain ⟨n, mo, h1, h2, h3, h4, h5⟩ := p.ix e
  exact ⟨⟨n, mo, h2, h3, ok_not h5⟩, ⟨j, mo, e, h4, ok_not h5⟩⟩
theorem Part.bnd {ns : List Nat} {φc : List Addr} {Bc : Ban} (p : Part K mg B φ M H ns Mc φc Bc) (a : Addr) : Ow.bnd Bc φc Mc a ↔ Ow.bnd B φ M a := by
  constructor
  · rintro (h | ⟨j, mo, e, _, _⟩)
    · exact ((p.ban a).mp h).1
    · exact .inr (p.lv (List.mem_of_getElem? e)).1
  · intro h
    by_cases ha : a ∈ φc
    · exact .inr (p.lv ha).2
    · exact .inl ((p.ban a).mpr ⟨h, ha⟩)
theorem Part.nodup {ns : List Nat} {φc : List Addr} {Bc : Ban} (p : Part K mg B φ M H ns Mc φc Bc) : φc.Nodup := by
  refine List.pairwise_iff_getElem.mpr fun i j hi hj hij e => ?_
  have ei := List.getElem?_eq_getElem hi
  have ej : φc[j]? = some φc[i] := by rw [List.getElem?_eq_getElem hj, e]
  obtain ⟨n, _, h1, h2, _⟩ := p.ix ei
  obtain ⟨m, _, h3, h4, _⟩ := p.ix ej
  have : n = m := nodup_at p.R.nd h2 h4
  subst this
  obtain ⟨a, b⟩ := List.getElem?_eq_some_iff.mp h1
  obtain ⟨c, d⟩ := List.getElem?_eq_some_iff.mp h3
  have := (List.getElem_inj p.nd).mp (b.trans d.symm)
  omega
theorem Part.rl {ns : List Nat} {φc : List Addr} {Bc : Ban} (p : Part K mg B φ M H ns Mc φc Bc) : Rl K mg Bc φc Mc H where
  len := by rw [p.len, selM_len p.sel]
  nd := p.nodup
  out := fun a h z => ((p.ban a).mp z).2 h
  trk := fun a z => ⟨p.R.bnd_some ((p.ban a).mp z).1, p.R.bnd_notup ((p.ban a).mp z).1⟩
  obj := fun j mo a e1 e2 => by
    obtain ⟨n, mo', h1, h2, h3, h4, h5⟩ := p.ix e2
    rw [e1] at h4; cases h4
    exact (p.R.obj n mo a h3 h2).less fun a z => (p.bnd a).mp z
theorem Part.args {ns : List Nat} {φc : List Addr} {Bc : Ban} (p : Part K mg B φ M H ns Mc φc Bc) : ∀ {xs : List A} {vs : List V}, (∀ n, A.ref n ∈ xs → n ∈ ns) → RelAs K mg (Ow.bnd B φ M) φ H xs vs → RelAs K mg (Ow.bnd Bc φc Mc) φc H (xs.map (ren ns)) vs
  | [], _, _, h => h
  | x :: xs, _, hm, h => by
    simp only [RelAs, List.map_cons] at h ⊢
    obtain ⟨u, us, rfl, r, rs⟩ := h
    refine ⟨u, us, rfl, ?_, p.args (fun n z => hm n (List.mem_cons_of_mem _ z)) rs⟩
    cases x with
    | val d => exact RelD.mono .refl (fun a z => .inl ((p.bnd a).mp z)) r
    | ref n =>
      obtain ⟨a, e, rfl⟩ := r
      exact ⟨a, by rw [p.at_ _ _ (idx_get (hm n List.mem_cons_self))]; exact e, rfl⟩
theorem Part.back {ns : List Nat} {φc : List Addr} {Bc : Ban} (p : Part K mg B φ M H ns Mc φc Bc) (E : Ex φc Mc H φc Mc' H2) (R2 : Rl K mg Bc φc Mc' H2) :
    (∀ a, Ow.bnd B φ (wb M ns Mc') a ↔ Ow.bnd Bc φc Mc' a) ∧ Rl K mg B φ (wb M ns Mc') H2 ∧ Ex φ M H φ (wb M ns Mc') H2 := by
  have hb : ∀ n ∈ ns, n < M.length := fun n h => by
    obtain ⟨j, hj, rfl⟩ := List.getElem_of_mem h
    obtain ⟨mo, e, _⟩ := selM_at p.sel (List.getElem?_eq_getElem hj)
    exact (List.getElem?_eq_some_iff.mp e).1
  have hl : Mc'.length = ns.length := by rw [← R2.len, p.len]
  have atj : ∀ j n : Nat, ns[j]? = some n → (wb M ns Mc')[n]? = Mc'[j]? := fun j n e => wb_at p.nd hb hl e
  have notin : ∀ n a, n ∉ ns → φ[n]? = some a → a ∉ φc := fun n a hn e z => by
    obtain ⟨j, hj, rfl⟩ := List.getElem_of_mem z
    obtain ⟨m, _, h1, h2, _⟩ := p.ix (List.getElem?_eq_getElem hj)
    have : n = m := nodup_at p.R.nd e h2
    subst this
    exact hn (List.mem_of_getElem? h1)
  have iff : ∀ a, Ow.bnd B φ (wb M ns Mc') a ↔ Ow.bnd Bc φc Mc' a := fun a => by
    constructor
    · rintro (h | ⟨n, mo, e1, e2, g⟩)
      · by_cases ha : a ∈ φc
        · exact absurd h (by
            obtain ⟨⟨n, mo, e, _, _⟩, _⟩ := p.lv ha
            exact p.R.out a (List.mem_of_getElem? e))
        · exact .inl ((p.ban a).mpr ⟨.inl h, ha⟩)
      · by_cases hn : n ∈ ns
        · obtain ⟨j, hj, rfl⟩ := List.getElem_of_mem hn
          have ej := List.getElem?_eq_getElem hj
          rw [atj j _ ej] at e2
          exact .inr ⟨j, mo, by rw [p.at_ j _ ej]; exact e1, e2, g⟩
        · rw [wb_out hn] at e2
          exact .inl ((p.ban a).mpr ⟨.inr ⟨n, mo, e1, e2, g⟩, notin n a hn e1⟩)
    · rintro (h | ⟨j, mo, e1, e2, g⟩)
      · obtain ⟨h1, h2⟩ := (p.ban a).mp h
        rcases h1 with h1 | ⟨n, mo, e1, e2, g⟩
        · exact .inl h1
        · by_cases hn : n ∈ ns
          · obtain ⟨j, hj, rfl⟩ := List.getElem_of_mem hn
            have ej := List.getElem?_eq_getElem hj
            exact absurd (List.mem_of_getElem? (i := j) (by rw [p.at_ j _ ej]; exact e1)) h2
          · exact .inr ⟨n, mo, e1, by rw [wb_out hn]; exact e2, g⟩
      · obtain ⟨n, mo', h1, h2, _⟩ := p.ix e1
        exact .inr ⟨n, mo, h2, by rw [atj j n h1]; exact e2, g⟩
  have Rc := p.rl
  have keep : ∀ b o, H b = some o → b ∉ φc → H2 b = some o := fun b o h n => E.keep b o h fun ⟨j, mo, e, _, _⟩ => n (List.mem_of_getElem? e)
  have kp : Kp (Ow.bnd B φ M) H H2 := by
    have k := E.kp Rc
    refine ⟨fun b u n r => k.rd b u (fun z => n ((p.bnd b).mp z)) r, k.tp, fun b q n r => k.ex b q (fun z => n ((p.bnd b).mp z)) r, fun b q n r => k.xd b q (fun z => n ((p.bnd b).mp z)) r, fun b q n r => k.ls b q (fun z => n ((p.bnd b).mp z)) r⟩
  have hbn : ∀ a, Ow.bnd B φ (wb M ns Mc') a → Ow.bnd B φ M a ∨ H a = none := fun a z => (E.bnd' Rc R2 a ((iff a).mp z)).imp (p.bnd a).mp id
  refine ⟨iff, ⟨by rw [wb_len]; exact p.R.len, p.R.nd, p.R.out, fun a z => ?_, fun n mo a e1 e2 => ?_⟩, ⟨⟨[], by simp⟩, fun a h n => absurd h n, fun n h => ?_, fun b o h n => keep b o h fun z => n (p.lv z).1⟩⟩
  · have z' : Bc a := (p.ban a).mpr ⟨.inl z, fun h => by
      obtain ⟨⟨n, mo, e, _, _⟩, _⟩ := p.lv h
      exact p.R.out a (List.mem_of_getElem? e) z⟩
    exact R2.trk a z'
  · by_cases hn : n ∈ ns
    · obtain ⟨j, hj, rfl⟩ := List.getElem_of_mem hn
      have ej := List.getElem?_eq_getElem hj
      rw [atj j _ ej] at e1
      exact (R2.obj j mo a e1 (by rw [p.at_ j _ ej]; exact e2)).less fun a z => (iff a).mp z
    · rw [wb_out hn] at e1
      have m := p.R.obj n mo a e1 e2
      have na := notin n a hn e2
      cases mo with
      | lst _ => obtain ⟨xs, e, r⟩ := m; exact ⟨xs, keep _ _ e na, r.mono kp hbn⟩
      | dic _ => obtain ⟨xs, e, r⟩ := m; exact ⟨xs, keep _ _ e na, r.mono kp hbn⟩
      | dit _ => obtain ⟨xs, e, r⟩ := m; exact ⟨xs, keep _ _ e na, r.mono kp hbn⟩
      | obj _ _ =>
        obtain ⟨C, dx, xs, g, e, r⟩ := m
        refine ⟨C, dx, xs, g, ?_, r.mono kp hbn⟩
        rcases e with ⟨e, e'⟩ | ⟨e, e'⟩
        · exact .inl ⟨keep _ _ e na, e'⟩
        · refine .inr ⟨keep _ _ e na, keep _ _ e' fun z => ?_⟩
          obtain ⟨j, hj, ej⟩ := List.getElem_of_mem z
          have ej' : φc[j]? = some dx := by rw [List.getElem?_eq_getElem hj, ej]
          obtain ⟨m, mo, _, q2, q3, _, q5⟩ := p.ix ej'
          have w := p.R.obj m mo dx q3 q2
          cases mo with
          | lst _ => obtain ⟨_, w, _⟩ := w; rw [e'] at w; cases w
          | dic _ => obtain ⟨_, w, _⟩ := w; rw [e'] at w; cases w
          | dit _ => obtain ⟨_, w, _⟩ := w; rw [e'] at w; cases w
          | obj _ _ =>
            obtain ⟨_, _, _, _, w, _⟩ := w
            rcases w with ⟨w, _⟩ | ⟨w, _⟩ <;> rw [e'] at w <;> cases w
          | any => cases q5
          | gone => cases q5
      | any =>
        obtain ⟨m1, m2⟩ := m
        cases q : H a with
        | none => exact absurd q m1
        | some o =>
          have k := keep a o q na
          refine ⟨by rw [k]; exact fun z => (nomatch z), fun xs r => m2 xs ?_⟩
          rcases r with r | ⟨u, r⟩
          · rw [k] at r; exact .inl (q.trans r)
          · rw [k] at r; exact .inr ⟨u, q.trans r⟩
      | gone =>
        cases q : H a with
        | none => exact absurd q m
        | some o => show H2 a ≠ none; rw [keep a o q na]; exact fun z => (nomatch z)
  · have hn : n ∉ ns := fun z => by
      obtain ⟨j, hj, rfl⟩ := List.getElem_of_mem z
      obtain ⟨mo, q1, _, q3⟩ := selM_at p.sel (List.getElem?_eq_getElem hj)
      rw [h] at q1; cases q1; cases q3
    rw [wb_out hn]; exact h
theorem part_of (R : Rl K mg B φ M H) {ns : List Nat} (nd : ns.Nodup) (sel : selM M ns = some Mc) : ∃ φc Bc, Part K mg B φ M H ns Mc φc Bc := by
  refine ⟨ns.map fun n => φ.getD n 0, fun a => bnd B φ M a ∧ a ∉ ns.map fun n => φ.getD n 0, ⟨R, nd, sel, fun j n e => ?_, by simp, fun a => Iff.rfl⟩⟩
  obtain ⟨mo, q1, _⟩ := selM_at sel e
  have hn : n < φ.length := by rw [R.len]; exact (List.getElem?_eq_some_iff.mp q1).1
  rw [List.getElem?_map, e]
  simp [List.getD, List.getElem?_eq_getElem hn]
end

/-! ### the call -/
section
variable {X : Cx} {W : WX} {pos p : Pos} {e : Expr} {es : List Expr} {fs : List Ev} {k n : Nat} {fa : Addr} {fd : FuncData} {ps : List Str} {f : Fn} {x : Str} {sp : Sp}
theorem run_g {pins : List (Addr × Obj)} {σ : St} {H : Hp} {s : Shared} {Q : VK} {us : List Value} {vs : List V} (F : FnG X.prog X.w X.K X.mg X.base k fa fd ps sp) (hr : Room k X.A) (hG : X.A.guards = some []) (hb : Binds X.K fd ps []) (tk : Takes X W)
    (I : Inv X pins σ H s) (r : Vals vs us) (h : sp vs H Q (WE W σ)) : wpAny (model X.prog X.w) X.A (call (.ref fa) us) (EP X pins σ Q) X.xe s := by
  have hl : us.length = ps.length := by rw [← r.length]; exact F.len _ _ _ _ h
  have hb' := hb s us I.kIn (by rw [List.append_nil]; exact hl)
  rw [List.append_nil] at hb'
  refine wpAny_call (codeAny_mono (F.run X.A X.stack s H ⟨us, []⟩ us vs Q (WE W σ) hr hG I.env0 hb' r h) fun r s' hq => ?_)
  match r, hq with
  | .error u, hq => exact passAt tk σ pins H s u s' I hq
  | .ok (.ret u), hq => exact I.after hq
theorem pe_callG {t : TA} (F : FnG X.prog X.w X.K X.mg X.base k fa fd ps sp) (hr : Room k X.A) (hG : X.A.guards = some []) (tk : Takes X W) (hg : Gl X x) (hm : X.mg x = some (.ref fa)) (hk : PySem.W.keepIn X.K (.ref fa) = true) (hb : Binds X.K fd ps [])
    (ha : PA X (e :: es) t) (hdb : (x == ("__debug__" : Str)) = false := by decide) (he : starEach (e :: es) X.env = (false, eval e X.env) :: starEach es X.env := by rfl) (hpl : (backTo pos (starEach es X.env)).any (·.1) = false := by rfl) :
    PE X (.Call (.Name x p) (e :: es) [] pos) (fun σ H Q => t σ H fun vs H1 => sp vs H1 Q (WE W σ)) := by
  constructor
  intro pins s σ H Q I h
  refine wpAny_Call_Name_kw (ld_glob I hg hm ?_ hdb)
  refine PySem.W.callWith_K (h₀ := X.base) I.ok.mod.kin hk (thn (ha.run pos pins s σ H _ I h) ?_) he hpl
  rintro us s1 ⟨vs, H1, I1, r, q⟩
  exact ⟨I1.kIn, run_g F hr hG hb tk I1 r q⟩
theorem t_callOn {K : PySem.W.Frag} {mg : Str → Option Value} {B : Ban} {φ φ1 : List Addr} {M M1 M' : Mm} {H H1 : Hp} {σ : St} {Q : VK} {xs : List A} {vs : List V} {r : Rs} (R : Rl K mg B φ M H) (R1 : Rl K mg B φ1 M1 H1) (E1 : Ex φ M H φ1 M1 H1)
    (D1 : RelAs K mg (bnd B φ1 M1) φ1 H1 xs vs) (e : callOn f xs M1 = some (r, M')) (q : PostE K mg W B φ M H σ M' Q r) : ∃ B φ xs M r M', Rl K mg B φ M H1 ∧ RelAs K mg (bnd B φ M) φ H1 xs vs ∧ f xs M = some (r, M') ∧ PostF K mg B φ M H1 M' Q (WE W σ) r := by
  unfold callOn at e
  split at e
  · rename_i Mc sel
    obtain ⟨φc, Bc, p⟩ := part_of R1 (refs_nodup xs) sel
    have args := p.args (fun n h => refs_mem h) D1
    split at e
    · rename_i y Mc' ef
      split at e
      · rename_i y' eb
        cases e
        refine ⟨Bc, φc, _, Mc, _, Mc', p.rl, args, ef, fun v H2 E2 R2 D2 => ?_⟩
        obtain ⟨iff, R3, E3⟩ := p.back E2 R2
        refine q v H2 φ1 (E1.trans R R1 E3) R3 ?_
        cases y with
        | val d => cases eb; exact RelD.mono .refl (fun a z => .inl ((iff a).mp z)) D2
        | ref j =>
          obtain ⟨a, ea, rfl⟩ := D2
          simp only [bk] at eb
          split at eb
          · rename_i n en
            cases eb
            exact ⟨a, by rw [← p.at_ j n en]; exact ea, rfl⟩
          · cases eb
      · cases e
    · rename_i c v Mc' ef
      cases e
      refine ⟨Bc, φc, _, Mc, _, Mc', p.rl, args, ef, fun C dx v' H2 gC E2 R2 hd nb rd => ?_⟩
      obtain ⟨iff, R3, E3⟩ := p.back E2 R2
      exact q C dx v' H2 φ1 gC (E1.trans R R1 E3) R3 hd (fun z => nb ((iff dx).mp z)) (RelD.mono .refl (fun a z => .inl ((iff a).mp z)) rd)
    · cases e
  · cases e
theorem evs_len : ∀ {fs : List Ev} {ρ : Sl} {M M1 : Mm} {xs : List A}, evs fs ρ M = some (.oks xs, M1) → xs.length = fs.length
  | [], _, _, _, _, e => by cases e; rfl
  | f :: fs, ρ, M, M1, xs, e => by
    unfold evs at e
    split at e
    · split at e
      · rename_i xs' M2 eb
        cases e
        rw [List.length_cons, List.length_cons, evs_len eb]
      · cases e
      · cases e
    · cases e
    · cases e
theorem de_call (F : FnG X.prog X.w X.K X.mg X.base k fa fd ps (spD X.K X.mg f n)) (hr : Room k X.A) (hG : X.A.guards = some []) (tk : Takes X W) (hg : Gl X x) (hm : X.mg x = some (.ref fa)) (hk : PySem.W.keepIn X.K (.ref fa) = true) (hb : Binds X.K fd ps [])
    (ha : DA X W (e :: es) fs) (hn : fs.length = n := by rfl) (hdb : (x == ("__debug__" : Str)) = false := by decide) (he : starEach (e :: es) X.env = (false, eval e X.env) :: starEach es X.env := by rfl) (hpl : (backTo pos (starEach es X.env)).any (·.1) = false := by rfl) :
    DE X W (.Call (.Name x p) (e :: es) [] pos) (eCall f fs) := by
  refine pe_weak (pe_callG F hr hG tk hg hm hk hb ha hdb he hpl) fun σ H Q h => ?_
  obtain ⟨B, φ, ρ, M, r', M', R, S, e, q⟩ := h
  unfold eCall at e
  split at e
  · rename_i xs M1 ea
    refine ⟨B, φ, ρ, M, _, _, R, S, ea, fun vs H1 φ1 E1 R1 D1 => ⟨?_, t_callOn R R1 E1 D1 e q⟩⟩
    rw [← D1.len, evs_len ea, hn]
  · rename_i c v M1 ea
    cases e
    exact ⟨B, φ, ρ, M, _, _, R, S, ea, q⟩
  · cases e
end
end Ow
namespace Ow
open PySem L2

theorem OpR.or {X : Cx} {f : Value → Value → Sem Value} {r r' : R2} (h : OpR X f r) (h' : OpR X f r') : OpR X f (fun x y H Q => r x y H Q ∨ r' x y H Q) :=
  fun pins s σ H x y v u Q I rx ry z => z.elim (h pins s σ H x y v u Q I rx ry) (h' pins s σ H x y v u Q I rx ry)
theorem CallR.or {X : Cx} {f : Value} {r r' : List V → Hp → VK → Prop} (h : CallR X f r) (h' : CallR X f r') : CallR X f (fun xs H Q => r xs H Q ∨ r' xs H Q) :=
  fun pins s σ H xs us Q I rx z => z.elim (h pins s σ H xs us Q I rx) (h' pins s σ H xs us Q I rx)
theorem IxR.or' {X : Cx} {r r' : R2} (h : IxR X r) (h' : IxR X r') : IxR X (fun x y H Q => r x y H Q ∨ r' x y H Q) :=
  fun vl sl pins s σ H x y v u Q I rx ry z => z.elim (h vl sl pins s σ H x y v u Q I rx ry) (h' vl sl pins s σ H x y v u Q I rx ry)

section
variable {K : PySem.W.Frag} {mg : Str → Option Value} {bn : Ban} {H : Hp}
theorem relT_tup {ds : List D} {v : V} : RelT K mg bn H (.tup ds) v ↔ ∃ a xs, v = .ref a ∧ SqT K H a xs ∧ RelDs K mg bn H ds xs := by simp only [RelT, RelD]
theorem fresh_lst {xs : List V} {ds : List D} {p : Addr} (hb : ∀ a, bn a → H a ≠ none) (hp : H p = none) (r : RelDs K mg bn H ds xs) : RelD K mg bn (upd H p (.lst xs)) (.lst ds) (.ref p) := by
  simp only [RelD]
  exact ⟨p, xs, rfl, fun z => hb p z hp, upd_same, r.same (same_upd hp)⟩
theorem fresh_tup {xs : List V} {ds : List D} {p : Addr} (hp : H p = none) (r : RelDs K mg bn H ds xs) : RelD K mg bn (upd H p (.tup xs)) (.tup ds) (.ref p) := by
  simp only [RelD]
  exact ⟨p, xs, rfl, .of upd_same, r.same (same_upd hp)⟩
end
/-! ### sums, products -/
def dAdd : D → D → Option D
  | .int i, .int j => some (.int (i + j))
  | .str a, .str b => if a.length + b.length ≤ sizeLine then some (.str (a ++ b)) else none
  | .lst xs, .lst ys => if xs.length + ys.length ≤ sizeLine then some (.lst (xs ++ ys)) else none
  | .tup xs, .tup ys => if xs.length + ys.length ≤ sizeLine then some (.tup (xs ++ ys)) else none
  | _, _ => none
def rAddA (K : PySem.W.Frag) : R2 := fun x y H Q => (rI0 (fun i j => .int (i + j)) x y H Q ∨ (∃ i j, x = .str i ∧ y = .str j ∧ i.length + j.length ≤ sizeLine ∧ Q (.str (i ++ j)) H)) ∨ rCat x y H Q ∨ rCatA K x y H Q
theorem op_addA {X : Cx} : OpR X (binaryOp .Add) (rAddA X.K) := (op_add.or op_add_str).or (op_cat.or op_catA)
theorem v_add {K : PySem.W.Frag} {mg : Str → Option Value} : VOp2 K mg (rAddA K) dAdd := by
  intro bn H x y d v u Q hb hx hy e q
  unfold dAdd at e
  split at e
  · cases e
    simp only [RelT, RelD] at hx hy
    subst hx hy
    exact .inl (.inl ⟨_, _, rfl, rfl, q _ H (.refl H) (by simp only [RelD])⟩)
  · split at e
    · rename_i hz
      cases e
      simp only [RelT, RelD] at hx hy
      subst hx hy
      exact .inl (.inr ⟨_, _, rfl, rfl, hz, q _ H (.refl H) (by simp only [RelD])⟩)
    · cases e
  · split at e
    · rename_i hz
      cases e
      obtain ⟨a, xs, rfl, h1, r1⟩ := hx
      obtain ⟨b, ys, rfl, h2, r2⟩ := hy
      rw [r1.len, r2.len] at hz
      exact .inr (.inl ⟨a, b, xs, ys, rfl, rfl, h1, h2, hz, fun p hp => q _ _ (same_upd hp) (fresh_lst hb hp (r1.append r2))⟩)
    · cases e
  · split at e
    · rename_i hz
      cases e
      obtain ⟨a, xs, rfl, h1, r1⟩ := relT_tup.mp hx
      obtain ⟨b, ys, rfl, h2, r2⟩ := relT_tup.mp hy
      rw [r1.len, r2.len] at hz
      refine .inr (.inr ⟨a, b, xs, ys, rfl, rfl, h1, h2, hz, fun z => ?_, fun _ z => ?_, fun _ _ p hp => q _ _ (same_upd hp) (fresh_tup hp (r1.append r2))⟩)
      · refine q _ H (.refl H) ?_
        simp only [RelD]
        exact ⟨b, xs ++ ys, rfl, by subst z; exact h2, r1.append r2⟩
      · refine q _ H (.refl H) ?_
        simp only [RelD]
        exact ⟨a, xs ++ ys, rfl, by subst z; rw [List.append_nil]; exact h1, r1.append r2⟩
    · cases e
  · cases e
/-- ints in, under a condition -/
def dI2 (c : Int → Int → Bool) (g : Int → Int → D) : D → D → Option D
  | .int i, .int j => if c i j then some (g i j) else none
  | _, _ => none
theorem v_I2 {K : PySem.W.Frag} {mg : Str → Option Value} {C : Int → Int → Prop} {c : Int → Int → Bool} {g : Int → Int → D} {g' : Int → Int → V} (hc : ∀ i j, c i j = true → C i j) (hg : ∀ i j bn H, RelD K mg bn H (g i j) (g' i j)) : VOp2 K mg (rI C g') (dI2 c g) := by
  intro bn H x y d v u Q hb hx hy e q
  unfold dI2 at e
  split at e
  · split at e
    · rename_i hz
      cases e
      simp only [RelT, RelD] at hx hy
      subst hx hy
      exact ⟨_, _, rfl, rfl, hc _ _ hz, q _ H (.refl H) (hg _ _ _ _)⟩
    · cases e
  · cases e
theorem v_I0 {K : PySem.W.Frag} {mg : Str → Option Value} {g : Int → Int → D} {g' : Int → Int → V} (hg : ∀ i j bn H, RelD K mg bn H (g i j) (g' i j)) : VOp2 K mg (rI0 g') (dI2 (fun _ _ => true) g) := by
  intro bn H x y d v u Q hb hx hy e q
  unfold dI2 at e
  split at e
  · cases e
    simp only [RelT, RelD] at hx hy
    subst hx hy
    exact ⟨_, _, rfl, rfl, q _ H (.refl H) (hg _ _ _ _)⟩
  · cases e
section
variable {X : Cx} {W : WX} {pos : Pos} {a b : Expr} {fa fb : Ev}
abbrev dSub := dI2 (fun _ _ => true) fun i j => .int (i - j)
abbrev dMul := dI2 (fun i j => decide (i.natAbs.log2 + j.natAbs.log2 < 1000000)) fun i j => .int (i * j)
abbrev dMod := dI2 (fun _ j => decide (0 < j)) fun i j => .int (i % j)
abbrev dFdiv := dI2 (fun _ j => decide (0 < j) && decide (j.natAbs.log2 < 9000)) fun i j => .int (i / j)
abbrev dPow := dI2 (fun i j => decide (0 ≤ j) && decide (((i.natAbs.log2 + 1 : Nat) : Int) * j ≤ 2 ^ 27)) fun i j => .int (i ^ j.toNat)
theorem de_add (ha : DE X W a fa) (hb : DE X W b fb) : DE X W (.BinOp a .Add b pos) (e2 dAdd fa fb) := de_bin op_addA v_add ha hb
theorem de_sub (ha : DE X W a fa) (hb : DE X W b fb) : DE X W (.BinOp a .Sub b pos) (e2 dSub fa fb) := de_bin op_sub (v_I0 fun _ _ _ _ => by simp only [RelD]) ha hb
theorem de_mul (ha : DE X W a fa) (hb : DE X W b fb) : DE X W (.BinOp a .Mult b pos) (e2 dMul fa fb) := de_bin op_mulW (v_I2 (fun i j h => (of_decide_eq_true h : i.natAbs.log2 + j.natAbs.log2 < 1000000)) fun _ _ _ _ => by simp only [RelD]) ha hb
theorem de_mod (ha : DE X W a fa) (hb : DE X W b fb) : DE X W (.BinOp a .Mod b pos) (e2 dMod fa fb) := de_bin op_mod (v_I2 (fun i j h => (of_decide_eq_true h : 0 < j)) fun _ _ _ _ => by simp only [RelD]) ha hb
theorem de_fdiv (ha : DE X W a fa) (hb : DE X W b fb) : DE X W (.BinOp a .FloorDiv b pos) (e2 dFdiv fa fb) := de_bin op_fdivW (v_I2 (fun i j h => by
  rw [Bool.and_eq_true] at h; exact ⟨of_decide_eq_true h.1, of_decide_eq_true h.2⟩) fun _ _ _ _ => by simp only [RelD]) ha hb
def CPowW (i j : Int) : Prop := 0 ≤ j ∧ (Builtin.Int.intBits i : Int) * j ≤ 2 ^ 27
theorem op_powW : OpR X (binaryOp .Pow) (rI CPowW fun i j => .int (i ^ j.toNat)) := opI fun _ _ _ _ _ _ _ hc q => PyProof.Rows.pow_int hc.1 hc.2 q
theorem bits_le (i : Int) : Builtin.Int.intBits i ≤ i.natAbs.log2 + 1 := by
  unfold Builtin.Int.intBits
  split <;> omega
theorem de_pow (ha : DE X W a fa) (hb : DE X W b fb) : DE X W (.BinOp a .Pow b pos) (e2 dPow fa fb) := de_bin op_powW (v_I2 (fun i j h => by
  rw [Bool.and_eq_true] at h
  have h1 := of_decide_eq_true h.1
  have h2 := of_decide_eq_true h.2
  refine ⟨h1, Int.le_trans (Int.mul_le_mul_of_nonneg_right ?_ h1) h2⟩
  exact Int.ofNat_le.mpr (bits_le i)) fun _ _ _ _ => by simp only [RelD]) ha hb
/-! ### comparisons -/
abbrev dLt := dI2 (fun _ _ => true) fun i j => .bl (decide (i < j))
abbrev dLe := dI2 (fun _ _ => true) fun i j => .bl (decide (i ≤ j))
abbrev dGt := dI2 (fun _ _ => true) fun i j => .bl (decide (i > j))
abbrev dGe := dI2 (fun _ _ => true) fun i j => .bl (decide (i ≥ j))
theorem dI2_bl {c : Int → Int → Bool} {p : Int → Int → Bool} : ∀ x y z, dI2 c (fun i j => .bl (p i j)) x y = some z → ∃ k, z = .bl k := by
  intro x y z e
  unfold dI2 at e
  split at e
  · split at e
    · cases e; exact ⟨_, rfl⟩
    · cases e
  · cases e
theorem de_lt (ha : DE X W a fa) (hb : DE X W b fb) : DE X W (.Compare a [.Lt] [b] pos) (e2 dLt fa fb) := de_cmp op_lt (v_I0 fun _ _ _ _ => by simp only [RelD]) ha hb (nomark _)
theorem de_le (ha : DE X W a fa) (hb : DE X W b fb) : DE X W (.Compare a [.LtE] [b] pos) (e2 dLe fa fb) := de_cmp op_le (v_I0 fun _ _ _ _ => by simp only [RelD]) ha hb (nomark _)
theorem de_gt (ha : DE X W a fa) (hb : DE X W b fb) : DE X W (.Compare a [.Gt] [b] pos) (e2 dGt fa fb) := de_cmp op_gt (v_I0 fun _ _ _ _ => by simp only [RelD]) ha hb (nomark _)
theorem de_ge (ha : DE X W a fa) (hb : DE X W b fb) : DE X W (.Compare a [.GtE] [b] pos) (e2 dGe fa fb) := de_cmp op_ge (v_I0 fun _ _ _ _ => by simp only [RelD]) ha hb (nomark _)
theorem dt_lt (ha : DE X W a fa) (hb : DE X W b fb) : DT X W (.Compare a [.Lt] [b] pos) (eT (e2 dLt fa fb)) := dt_cmp op_lt (v_I0 fun _ _ _ _ => by simp only [RelD]) dI2_bl ha hb (nomark _)
theorem dt_le (ha : DE X W a fa) (hb : DE X W b fb) : DT X W (.Compare a [.LtE] [b] pos) (eT (e2 dLe fa fb)) := dt_cmp op_le (v_I0 fun _ _ _ _ => by simp only [RelD]) dI2_bl ha hb (nomark _)
theorem dt_gt (ha : DE X W a fa) (hb : DE X W b fb) : DT X W (.Compare a [.Gt] [b] pos) (eT (e2 dGt fa fb)) := dt_cmp op_gt (v_I0 fun _ _ _ _ => by simp only [RelD]) dI2_bl ha hb (nomark _)
theorem dt_ge (ha : DE X W a fa) (hb : DE X W b fb) : DT X W (.Compare a [.GtE] [b] pos) (eT (e2 dGe fa fb)) := dt_cmp op_ge (v_I0 fun _ _ _ _ => by simp only [RelD]) dI2_bl ha hb (nomark _)
end
/-! ### == of data -/
mutual
def toPy : D → Option PyData
  | .non => some .none
  | .bl b => some (.bool b)
  | .int i => some (.int i)
  | .str x => some (.str x)
  | .lst ds => match toPys ds with
    | some xs => some (.list xs)
    | none => none
  | .tup ds => match toPys ds with
    | some xs => some (.tuple xs)
    | none => none
  | _ => none
def toPys : List D → Option (List PyData)
  | [] => some []
  | d :: ds => match toPy d, toPys ds with
    | some x, some xs => some (x :: xs)
    | _, _ => none
end
section
variable {K : PySem.W.Frag} {mg : Str → Option Value} {bn : Ban} {H : Hp}
mutual
theorem toPy_dp : ∀ {d : D} {v : V} {x : PyData}, toPy d = some x → RelT K mg bn H d v → Dp K H v x
  | .non, _, _, e, h => by cases e; simp only [RelT, RelD] at h; subst h; exact .non
  | .bl _, _, _, e, h => by cases e; simp only [RelT, RelD] at h; subst h; exact .bl _
  | .int _, _, _, e, h => by cases e; simp only [RelT, RelD] at h; subst h; exact .int _
  | .str _, _, _, e, h => by cases e; simp only [RelT, RelD] at h; subst h; exact .str _
  | .lst ds, _, _, e, h => by
    simp only [toPy] at e
    split at e
    · rename_i xs ex
      cases e
      obtain ⟨a, ys, rfl, h1, r⟩ := h
      exact .lst (.of h1) (toPys_dp ex r)
    · cases e
  | .tup ds, _, _, e, h => by
    simp only [toPy] at e
    split at e
    · rename_i xs ex
      cases e
      obtain ⟨a, ys, rfl, h1, r⟩ := relT_tup.mp h
      exact .tup h1 (toPys_dp ex r)
    · cases e
  | .ty _, _, _, e, _ => by cases e
  | .glb _, _, _, e, _ => by cases e
  | .dic _, _, _, e, _ => by cases e
  | .dit _, _, _, e, _ => by cases e
  | .obj _ _, _, _, e, _ => by cases e
  | .exc _ _, _, _, e, _ => by cases e
  | .scr _, _, _, e, _ => by cases e
theorem toPys_dp : ∀ {ds : List D} {vs : List V} {xs : List PyData}, toPys ds = some xs → RelDs K mg bn H ds vs → DpAll K H vs xs
  | [], _, _, e, h => by cases e; simp only [RelDs] at h; subst h; exact .nil
  | d :: ds, _, _, e, h => by
    simp only [toPys] at e
    split at e
    · rename_i x xs e1 e2
      cases e
      simp only [RelDs] at h
      obtain ⟨v, vs, rfl, r, rs⟩ := h
      exact .cons (toPy_dp e1 r.top) (toPys_dp e2 rs)
    · cases e
end
end
def dEqv (x y : D) : Option Bool := match toPy x, toPy y with
  | some p, some q => if SeqAt.shaped p && SeqAt.shaped q then some (PyData.eqv p q) else none
  | _, _ => none
def dEq (x y : D) : Option D := match dEqv x y with
  | some b => some (.bl b)
  | none => none
def dNe (x y : D) : Option D := match dEqv x y with
  | some b => some (.bl (!b))
  | none => none
theorem v_eq {K : PySem.W.Frag} {mg : Str → Option Value} : VOp2 K mg (rEqD K) dEq := by
  intro bn H x y d v u Q hb hx hy e q
  unfold dEq dEqv at e
  split at e
  · rename_i b eb
    split at eb
    · rename_i p1 p2 e1 e2
      split at eb
      · rename_i hs
        cases eb
        cases e
        rw [Bool.and_eq_true] at hs
        exact ⟨p1, p2, toPy_dp e1 hx, toPy_dp e2 hy, hs.1, hs.2, q _ H (.refl H) (by simp only [RelD])⟩
      · cases eb
    · cases eb
  · cases e
theorem v_ne {K : PySem.W.Frag} {mg : Str → Option Value} : VOp2 K mg (rNeD K) dNe := by
  intro bn H x y d v u Q hb hx hy e q
  unfold dNe dEqv at e
  split at e
  · rename_i b eb
    split at eb
    · rename_i p1 p2 e1 e2
      split at eb
      · rename_i hs
        cases eb
        cases e
        rw [Bool.and_eq_true] at hs
        exact ⟨p1, p2, toPy_dp e1 hx, toPy_dp e2 hy, hs.1, hs.2, q _ H (.refl H) (by simp only [RelD])⟩
      · cases eb
    · cases eb
  · cases e
theorem dEq_bl : ∀ x y z, dEq x y = some z → ∃ k, z = .bl k := by
  intro x y z e
  unfold dEq at e
  split at e
  · cases e; exact ⟨_, rfl⟩
  · cases e
theorem dNe_bl : ∀ x y z, dNe x y = some z → ∃ k, z = .bl k := by
  intro x y z e
  unfold dNe at e
  split at e
  · cases e; exact ⟨_, rfl⟩
  · cases e
section
variable {X : Cx} {W : WX} {pos : Pos} {a b : Expr} {fa fb : Ev} {k : Nat}
theorem de_eq (hr : Room k X.A) (ha : DE X W a fa) (hb : DE X W b fb) : DE X W (.Compare a [.Eq] [b] pos) (e2 dEq fa fb) := de_cmp (op_eqD hr.units) v_eq ha hb (nomark _)
theorem de_ne (hr : Room k X.A) (ha : DE X W a fa) (hb : DE X W b fb) : DE X W (.Compare a [.NotEq] [b] pos) (e2 dNe fa fb) := de_cmp (op_neD hr.units) v_ne ha hb (nomark _)
theorem dt_eq (hr : Room k X.A) (ha : DE X W a fa) (hb : DE X W b fb) : DT X W (.Compare a [.Eq] [b] pos) (eT (e2 dEq fa fb)) := dt_cmp (op_eqD hr.units) v_eq dEq_bl ha hb (nomark _)
theorem dt_ne (hr : Room k X.A) (ha : DE X W a fa) (hb : DE X W b fb) : DT X W (.Compare a [.NotEq] [b] pos) (eT (e2 dNe fa fb)) := dt_cmp (op_neD hr.units) v_ne dNe_bl ha hb (nomark _)
end
end Ow
namespace Ow
open PySem L2

/-! ### is None -/
def isNonD : D → Bool
  | .non => true
  | _ => false
def dIsN : D → D → Option D
  | x, .non => match x with
    | .glb _ => none
    | x => some (.bl (isNonD x))
  | _, _ => none
def dNotN : D → D → Option D
  | x, .non => match x with
    | .glb _ => none
    | x => some (.bl (!isNonD x))
  | _, _ => none
theorem isNon_rel {K : PySem.W.Frag} {mg : Str → Option Value} {bn : Ban} {H : Hp} {x : D} {v : V} (hg : ∀ y, x ≠ .glb y) (h : RelT K mg bn H x v) : decide (v = .non) = isNonD x := by
  cases x with
  | non => simp only [RelT, RelD] at h; subst h; rfl
  | bl _ => simp only [RelT, RelD] at h; subst h; rfl
  | int _ => simp only [RelT, RelD] at h; subst h; rfl
  | str _ => simp only [RelT, RelD] at h; subst h; rfl
  | ty _ => simp only [RelT, RelD] at h; subst h; rfl
  | glb y => exact absurd rfl (hg y)
  | tup _ => obtain ⟨a, xs, rfl, _⟩ := relT_tup.mp h; rfl
  | lst _ => obtain ⟨a, xs, rfl, _⟩ := h; rfl
  | dic _ => obtain ⟨a, xs, rfl, _⟩ := h; rfl
  | dit _ => obtain ⟨a, xs, rfl, _⟩ := h; rfl
  | obj _ _ => obtain ⟨a, C, dx, xs, rfl, _⟩ := h; rfl
  | exc _ _ => simp only [RelT, RelD] at h; obtain ⟨a, C, dx, x, rfl, _⟩ := h; rfl
  | scr _ => simp only [RelT, RelD] at h; obtain ⟨a, rfl, _⟩ := h; rfl
theorem v_isN {K : PySem.W.Frag} {mg : Str → Option Value} : VOp2 K mg (fun x y H Q => y = .non ∧ Q (.bl (decide (x = .non))) H) dIsN := by
  intro bn H x y d v u Q hb hx hy e q
  unfold dIsN at e
  split at e
  · simp only [RelT, RelD] at hy
    subst hy
    split at e
    · cases e
    · rename_i hg
      cases e
      exact ⟨rfl, q _ H (.refl H) (by simp only [RelD]; rw [isNon_rel hg hx])⟩
  · cases e
theorem v_notN {K : PySem.W.Frag} {mg : Str → Option Value} : VOp2 K mg (fun x y H Q => y = .non ∧ Q (.bl (!decide (x = .non))) H) dNotN := by
  intro bn H x y d v u Q hb hx hy e q
  unfold dNotN at e
  split at e
  · simp only [RelT, RelD] at hy
    subst hy
    split at e
    · cases e
    · rename_i hg
      cases e
      exact ⟨rfl, q _ H (.refl H) (by simp only [RelD]; rw [isNon_rel hg hx])⟩
  · cases e
theorem dIsN_bl : ∀ x y z, dIsN x y = some z → ∃ k, z = .bl k := by
  intro x y z e
  unfold dIsN at e
  split at e
  · split at e
    · cases e
    · cases e; exact ⟨_, rfl⟩
  · cases e
theorem dNotN_bl : ∀ x y z, dNotN x y = some z → ∃ k, z = .bl k := by
  intro x y z e
  unfold dNotN at e
  split at e
  · split at e
    · cases e
    · cases e; exact ⟨_, rfl⟩
  · cases e
/-! ### keys -/
def keyOf : D → Option Key
  | .int i => some (.inl i)
  | .str x => some (.inr x)
  | _ => none
theorem keyOf_rel {K : PySem.W.Frag} {mg : Str → Option Value} {bn : Ban} {H : Hp} {x : D} {v : V} {k : Key} (e : keyOf x = some k) (h : RelT K mg bn H x v) : v = kV k := by
  cases x with
  | int i => cases e; simp only [RelT, RelD] at h; exact h
  | str i => cases e; simp only [RelT, RelD] at h; exact h
  | _ => cases e
def getK {κ : Type} [DecidableEq κ] : List (κ × D) → κ → Option D
  | [], _ => none
  | (j, d) :: r, k => if j = k then some d else getK r k
theorem getK_rel {K : PySem.W.Frag} {mg : Str → Option Value} {bn : Ban} {H : Hp} (k : Key) : ∀ {ds : List (Key × D)} {xs : List (Key × V)}, RelKs K mg bn H ds xs →
    match getK ds k with | some d => ∃ v, valV xs k = some v ∧ RelD K mg bn H d v | none => valV xs k = none
  | [], _, h => by simp only [RelKs] at h; subst h; rfl
  | (j, d) :: ds, _, h => by
    simp only [RelKs] at h
    obtain ⟨v, vs, rfl, r, rs⟩ := h
    unfold getK
    by_cases hj : j = k
    · rw [if_pos hj]
      exact ⟨v, by unfold valV; rw [List.find?_cons_of_pos (by simp [hj])]; rfl, r⟩
    · rw [if_neg hj]
      have e : valV ((j, v) :: vs) k = valV vs k := by unfold valV; rw [List.find?_cons_of_neg (by simp [hj])]
      rw [e]
      exact getK_rel k rs
theorem getT_rel {K : PySem.W.Frag} {mg : Str → Option Value} {bn : Ban} {H : Hp} (k : List Key) : ∀ {ds : List (List Key × D)} {xs : List (List Key × V)}, RelTs K mg bn H ds xs →
    match getK ds k with | some d => ∃ v, valV xs k = some v ∧ RelD K mg bn H d v | none => valV xs k = none
  | [], _, h => by simp only [RelTs] at h; subst h; rfl
  | (j, d) :: ds, _, h => by
    simp only [RelTs] at h
    obtain ⟨v, vs, rfl, r, rs⟩ := h
    unfold getK
    by_cases hj : j = k
    · rw [if_pos hj]
      exact ⟨v, by unfold valV; rw [List.find?_cons_of_pos (by simp [hj])]; rfl, r⟩
    · rw [if_neg hj]
      have e : valV ((j, v) :: vs) k = valV vs k := by unfold valV; rw [List.find?_cons_of_neg (by simp [hj])]
      rw [e]
      exact getT_rel k rs
/-! ### x in y -/
def flatD : D → Option V
  | .non => some .non
  | .bl b => some (.bl b)
  | .int i => some (.int i)
  | .str x => some (.str x)
  | _ => none
def flatDs : List D → Option (List V)
  | [] => some []
  | d :: ds => match flatD d, flatDs ds with
    | some v, some vs => some (v :: vs)
    | _, _ => none
def oneSign (x : Str) : Option Nat := match x.cps.toList with
  | [c] => some c
  | _ => none
def dInB (x y : D) : Option Bool := match y with
  | .lst ys => (match flatD x, flatDs ys with
    | some v, some vs => some (inV v vs)
    | _, _ => none)
  | .tup ys => (match flatD x, flatDs ys with
    | some v, some vs => some (inV v vs)
    | _, _ => none)
  | .dic kvs => (match keyOf x with
    | some k => some (getK kvs k).isSome
    | none => none)
  | .str z => (match x with
    | .str w => (match oneSign w with
      | some c => some (decide (c ∈ z.cps.toList))
      | none => none)
    | _ => none)
  | _ => none
def dIn (x y : D) : Option D := match dInB x y with
  | some b => some (.bl b)
  | none => none
def dNotIn (x y : D) : Option D := match dInB x y with
  | some b => some (.bl (!b))
  | none => none
section
variable {K : PySem.W.Frag} {mg : Str → Option Value} {bn : Ban} {H : Hp}
theorem flatD_rel {x : D} {v w : V} (e : flatD x = some w) (h : RelT K mg bn H x v) : v = w ∧ flatV w = true := by
  cases x with
  | non => cases e; simp only [RelT, RelD] at h; exact ⟨h, rfl⟩
  | bl b => cases e; simp only [RelT, RelD] at h; exact ⟨h, rfl⟩
  | int b => cases e; simp only [RelT, RelD] at h; exact ⟨h, rfl⟩
  | str b => cases e; simp only [RelT, RelD] at h; exact ⟨h, rfl⟩
  | _ => cases e
theorem flatDs_rel : ∀ {xs : List D} {vs ws : List V}, flatDs xs = some ws → RelDs K mg bn H xs vs → vs = ws ∧ ws.all flatV = true
  | [], _, _, e, h => by cases e; simp only [RelDs] at h; exact ⟨h, rfl⟩
  | x :: xs, _, _, e, h => by
    simp only [flatDs] at e
    split at e
    · rename_i w ws e1 e2
      cases e
      simp only [RelDs] at h
      obtain ⟨v, vs, rfl, r, rs⟩ := h
      obtain ⟨h1, h2⟩ := flatD_rel e1 r.top
      obtain ⟨h3, h4⟩ := flatDs_rel e2 rs
      exact ⟨by rw [h1, h3], by rw [List.all_cons, h2, h4]; rfl⟩
    · cases e
end
def rInA (K : PySem.W.Frag) (neg : Bool) : R2 := fun x y H Q => rIn K neg x y H Q ∨ ((∃ a o, y = .ref a ∧ DGet H a x o ∧ Q (.bl (if neg then !o.isSome else o.isSome)) H) ∨ ∃ (c : Nat) (z : Str), x = .str ⟨#[c]⟩ ∧ y = .str z ∧ Q (.bl (if neg then !decide (c ∈ z.cps.toList) else decide (c ∈ z.cps.toList))) H)
theorem v_inB {K : PySem.W.Frag} {mg : Str → Option Value} {bn : Ban} {H : Hp} {x y : D} {v u : V} {b neg : Bool} {Q : VK} (hx : RelT K mg bn H x v) (hy : RelT K mg bn H y u) (e : dInB x y = some b) (q : Q (.bl (if neg then !b else b)) H) : rInA K neg v u H Q := by
  unfold dInB at e
  split at e
  · split at e
    · rename_i w ws e1 e2
      cases e
      obtain ⟨rfl, h1⟩ := flatD_rel e1 hx
      obtain ⟨a, ys, rfl, h2, r⟩ := hy
      obtain ⟨rfl, h3⟩ := flatDs_rel e2 r
      exact .inl ⟨a, ys, rfl, .inl (.of h2), h1, h3, q⟩
    · cases e
  · split at e
    · rename_i w ws e1 e2
      cases e
      obtain ⟨rfl, h1⟩ := flatD_rel e1 hx
      obtain ⟨a, ys, rfl, h2, r⟩ := relT_tup.mp hy
      obtain ⟨rfl, h3⟩ := flatDs_rel e2 r
      exact .inl ⟨a, ys, rfl, .inr h2, h1, h3, q⟩
    · cases e
  · split at e
    · rename_i kvs _ k ek
      cases e
      obtain rfl := keyOf_rel ek hx
      obtain ⟨a, xs, rfl, h2, r⟩ := hy
      refine .inr (.inl ⟨a, valV xs k, rfl, .inl ⟨xs, k, h2, rfl, rfl⟩, ?_⟩)
      have g := getK_rel k r
      have : (valV xs k).isSome = (getK kvs k).isSome := by
        cases h : getK kvs k with
        | none => rw [h] at g; rw [g]; rfl
        | some d => rw [h] at g; obtain ⟨v, g, _⟩ := g; rw [g]; rfl
      rw [this]; exact q
    · cases e
  · split at e
    · rename_i z _ w
      split at e
      · rename_i c ec
        cases e
        simp only [RelT, RelD] at hx hy
        subst hx hy
        unfold oneSign at ec
        split at ec
        · rename_i c' hc
          cases ec
          refine .inr (.inr ⟨c, z, ?_, rfl, q⟩)
          obtain ⟨⟨l⟩⟩ := w
          simp at hc
          subst hc
          rfl
        · cases ec
      · cases e
    · cases e
  · cases e
section
variable {X : Cx} {W : WX} {pos : Pos} {a b : Expr} {fa fb : Ev} {k : Nat}
theorem op_inDict (hu : X.A.units + 1 < cLine) : OpR X (compareOp .In) (fun x y H Q => ∃ a o, y = .ref a ∧ DGet H a x o ∧ Q (.bl o.isSome) H) := by
  intro pins s σ H x y v u Q I rx ry h
  obtain ⟨a, o, rfl, g, q⟩ := h
  obtain rfl : u = Value.ref a := ry
  exact d_in hu I g rx fun s3 I3 => ⟨.bl o.isSome, H, I3, rfl, q⟩
theorem op_notInDict (hu : X.A.units + 1 < cLine) : OpR X (compareOp .NotIn) (fun x y H Q => ∃ a o, y = .ref a ∧ DGet H a x o ∧ Q (.bl (!o.isSome)) H) := by
  intro pins s σ H x y v u Q I rx ry h
  obtain ⟨a, o, rfl, g, q⟩ := h
  obtain rfl : u = Value.ref a := ry
  exact d_notIn hu I g rx fun s3 I3 => ⟨.bl (!o.isSome), H, I3, rfl, q⟩
theorem op_inA (hu : X.A.units + 1 < cLine) : OpR X (compareOp .In) (rInA X.K false) := op_in_seq.or ((op_inDict hu).or op_in_sign)
theorem op_notInA (hu : X.A.units + 1 < cLine) : OpR X (compareOp .NotIn) (rInA X.K true) := op_notIn_seq.or ((op_notInDict hu).or op_notIn_sign)
theorem v_in {K : PySem.W.Frag} {mg : Str → Option Value} : VOp2 K mg (rInA K false) dIn := by
  intro bn H x y d v u Q hb hx hy e q
  unfold dIn at e
  split at e
  · rename_i b eb
    cases e
    exact v_inB hx hy eb (q _ H (.refl H) (by simp only [RelD]; rfl))
  · cases e
theorem v_notIn {K : PySem.W.Frag} {mg : Str → Option Value} : VOp2 K mg (rInA K true) dNotIn := by
  intro bn H x y d v u Q hb hx hy e q
  unfold dNotIn at e
  split at e
  · rename_i b eb
    cases e
    exact v_inB hx hy eb (q _ H (.refl H) (by simp only [RelD]; rfl))
  · cases e
theorem dIn_bl : ∀ x y z, dIn x y = some z → ∃ k, z = .bl k := by
  intro x y z e
  unfold dIn at e
  split at e
  · cases e; exact ⟨_, rfl⟩
  · cases e
theorem dNotIn_bl : ∀ x y z, dNotIn x y = some z → ∃ k, z = .bl k := by
  intro x y z e
  unfold dNotIn at e
  split at e
  · cases e; exact ⟨_, rfl⟩
  · cases e
theorem de_is (ha : DE X W a fa) (hb : DE X W b fb) : DE X W (.Compare a [.Is] [b] pos) (e2 dIsN fa fb) := de_cmp op_isN v_isN ha hb (nomark _)
theorem de_isnot (ha : DE X W a fa) (hb : DE X W b fb) : DE X W (.Compare a [.IsNot] [b] pos) (e2 dNotN fa fb) := de_cmp op_notN v_notN ha hb (nomark _)
theorem dt_is (ha : DE X W a fa) (hb : DE X W b fb) : DT X W (.Compare a [.Is] [b] pos) (eT (e2 dIsN fa fb)) := dt_cmp op_isN v_isN dIsN_bl ha hb (nomark _)
theorem dt_isnot (ha : DE X W a fa) (hb : DE X W b fb) : DT X W (.Compare a [.IsNot] [b] pos) (eT (e2 dNotN fa fb)) := dt_cmp op_notN v_notN dNotN_bl ha hb (nomark _)
theorem de_in (hr : Room k X.A) (ha : DE X W a fa) (hb : DE X W b fb) (hm : behindInMarks .In b = false := by rfl) : DE X W (.Compare a [.In] [b] pos) (e2 dIn fa fb) := de_cmp (op_inA (hu_of hr)) v_in ha hb hm
theorem de_notin (hr : Room k X.A) (ha : DE X W a fa) (hb : DE X W b fb) (hm : behindInMarks .NotIn b = false := by rfl) : DE X W (.Compare a [.NotIn] [b] pos) (e2 dNotIn fa fb) := de_cmp (op_notInA (hu_of hr)) v_notIn ha hb hm
theorem dt_in (hr : Room k X.A) (ha : DE X W a fa) (hb : DE X W b fb) (hm : behindInMarks .In b = false := by rfl) : DT X W (.Compare a [.In] [b] pos) (eT (e2 dIn fa fb)) := dt_cmp (op_inA (hu_of hr)) v_in dIn_bl ha hb hm
theorem dt_notin (hr : Room k X.A) (ha : DE X W a fa) (hb : DE X W b fb) (hm : behindInMarks .NotIn b = false := by rfl) : DT X W (.Compare a [.NotIn] [b] pos) (eT (e2 dNotIn fa fb)) := dt_cmp (op_notInA (hu_of hr)) v_notIn dNotIn_bl ha hb hm
/-! ### x[i] -/
def dIx : D → D → Option D
  | .lst xs, .int i => atI xs i
  | .tup xs, .int i => atI xs i
  | .scr ns, .int i => match atI ns i with
    | some n => some (.int n)
    | none => none
  | .str z, .int i => if z.length ≤ sizeLine then (match atI z.cps.toList i with
    | some c => some (.str ⟨#[c]⟩)
    | none => none) else none
  | .dic kvs, x => match keyOf x with
    | some k => getK kvs k
    | none => none
  | _, _ => none
theorem atI_rel {K : PySem.W.Frag} {mg : Str → Option Value} {bn : Ban} {H : Hp} {ds : List D} {vs : List V} {i : Int} {d : D} (r : RelDs K mg bn H ds vs) (e : atI ds i = some d) : ∃ v, atI vs i = some v ∧ RelD K mg bn H d v := by
  unfold atI at e ⊢
  rw [← r.len]
  cases h : ixN ds.length i with
  | none => rw [h] at e; cases e
  | some j =>
    rw [h] at e
    exact r.get e
theorem atI_map {α β : Type} (f : α → β) (xs : List α) (i : Int) : atI (xs.map f) i = (atI xs i).map f := by
  unfold atI
  rw [List.length_map]
  cases ixN xs.length i with
  | none => rfl
  | some j => simp
def rIxA (K : PySem.W.Frag) : R2 := fun x y H Q => rIx K x y H Q ∨ ∃ a v, x = .ref a ∧ DGet H a y (some v) ∧ Q v H
theorem ix_dict (hu : X.A.units + 1 < cLine) : IxR X (fun x y H Q => ∃ a v, x = .ref a ∧ DGet H a y (some v) ∧ Q v H) := by
  intro value slice pins s σ H x y v u Q I rx ry h hs
  obtain ⟨a, z, rfl, g, q⟩ := h
  obtain rfl : v = Value.ref a := rx
  exact PyProof.Rows.tail_any (dict_typeIs I g) PySem.F.slot_dict_getitem.lookup (d_getItem hu I g ry fun w' s3 I3 rw' => ⟨z, H, I3, rw', q⟩) hs
theorem ix_A (hu : X.A.units + 1 < cLine) : IxR X (rIxA X.K) := IxR.or' ix_seq (ix_dict hu)
theorem v_ix {K : PySem.W.Frag} {mg : Str → Option Value} : VOp2 K mg (rIxA K) dIx := by
  intro bn H x y d v u Q hb hx hy e q
  unfold dIx at e
  split at e
  · simp only [RelT, RelD] at hy
    subst hy
    obtain ⟨a, xs, rfl, h1, r1⟩ := hx
    obtain ⟨w, ew, rw'⟩ := atI_rel r1 e
    exact .inl (.inl ⟨a, xs, _, w, rfl, rfl, .of h1, ew, q w H (.refl H) rw'⟩)
  · simp only [RelT, RelD] at hy
    subst hy
    obtain ⟨a, xs, rfl, h1, r1⟩ := relT_tup.mp hx
    obtain ⟨w, ew, rw'⟩ := atI_rel r1 e
    exact .inl (.inr (.inl ⟨a, xs, _, w, rfl, rfl, h1, ew, q w H (.refl H) rw'⟩))
  · split at e
    · rename_i n en
      cases e
      simp only [RelT, RelD] at hx hy
      subst hy
      obtain ⟨a, rfl, h1⟩ := hx
      refine .inl (.inl ⟨a, _, _, .int n, rfl, rfl, ?_, by rw [atI_map, en]; rfl, q _ H (.refl H) (by simp only [RelD])⟩)
      rcases h1 with ⟨_, h1⟩ | h1
      · exact .inl h1
      · rcases h1 with h1 | h1
        · rcases h1 with h1 | ⟨_, h1⟩ <;> cases h1
        · exact .inr h1
    · cases e
  · split at e
    · rename_i hz
      split at e
      · rename_i c ec
        cases e
        simp only [RelT, RelD] at hx hy
        subst hx hy
        exact .inl (.inr (.inr ⟨_, _, c, rfl, rfl, hz, ec, q _ H (.refl H) (by simp only [RelD])⟩))
      · cases e
    · cases e
  · split at e
    · rename_i kvs k ek
      obtain rfl := keyOf_rel ek hy
      obtain ⟨a, xs, rfl, h2, r⟩ := hx
      have g := getK_rel k r
      rw [e] at g
      obtain ⟨w, ew, rw'⟩ := g
      exact .inr ⟨a, w, rfl, .inl ⟨xs, k, h2, rfl, ew.symm⟩, q w H (.refl H) rw'⟩
    · cases e
  · cases e
theorem de_sub1 (hr : Room k X.A) (ha : DE X W a fa) (hb : DE X W b fb) (hs : PlainIx b := by exact fun _ _ => rfl) : DE X W (.Subscript a b pos) (e2 dIx fa fb) := de_ix (ix_A (hu_of hr)) v_ix ha hb hs
end
end Ow
namespace Ow
open PySem L2

section
variable {K : PySem.W.Frag} {mg : Str → Option Value} {bn bn' : Ban} {H H' H1 H2 : Hp} {B : Ban} {φ : List Addr} {M M' : Mm} {p a : Addr} {o : HO} {mo mo' : MO} {n : Nat}
theorem live_snoc (len : φ.length = M.length) (h : live (φ ++ [p]) (M ++ [mo]) a) : live φ M a ∨ a = p := by
  obtain ⟨k, mo1, e1, e2, g⟩ := h
  by_cases hk : k < φ.length
  · rw [List.getElem?_append_left hk] at e1
    rw [List.getElem?_append_left (by rw [← len]; exact hk)] at e2
    exact .inl ⟨k, mo1, e1, e2, g⟩
  · rw [List.getElem?_append_right (Nat.le_of_not_lt hk)] at e1
    cases hq : k - φ.length with
    | zero => rw [hq] at e1; simp at e1; exact .inr e1.symm
    | succ m => rw [hq] at e1; simp at e1
theorem bnd_snoc (len : φ.length = M.length) (hp : H p = none) : ∀ a, bnd B (φ ++ [p]) (M ++ [mo]) a → bnd B φ M a ∨ H a = none := fun a h => by
  rcases h with h | h
  · exact .inl (.inl h)
  · rcases live_snoc len h with h | rfl
    · exact .inl (.inr h)
    · exact .inr hp
theorem MOk.ext {a : Addr} {mo : MO} (h : Same H H') (hb : ∀ a, bn' a → bn a ∨ H a = none) (m : MOk K mg bn H a mo) : MOk K mg bn' H' a mo := by
  have k : Kp bn H H' := Kp.same h
  cases mo with
  | lst _ => obtain ⟨xs, e, r⟩ := m; exact ⟨xs, h _ _ e, r.mono k hb⟩
  | dic _ => obtain ⟨xs, e, r⟩ := m; exact ⟨xs, h _ _ e, r.mono k hb⟩
  | dit _ => obtain ⟨xs, e, r⟩ := m; exact ⟨xs, h _ _ e, r.mono k hb⟩
  | obj _ _ =>
    obtain ⟨C, dx, xs, g, e, r⟩ := m
    refine ⟨C, dx, xs, g, ?_, r.mono k hb⟩
    rcases e with ⟨e, e'⟩ | ⟨e, e'⟩
    · exact .inl ⟨h _ _ e, e'⟩
    · exact .inr ⟨h _ _ e, h _ _ e'⟩
  | any => exact (MOk.same (K := K) (mg := mg) (bn := bn) (mo := .any) h m)
  | gone => exact (MOk.same (K := K) (mg := mg) (bn := bn) (mo := .gone) h m)
/-- a new thing of the store -/
theorem Rl.alloc (R : Rl K mg B φ M H) (hp : H p = none) (new : MOk K mg (bnd B (φ ++ [p]) (M ++ [mo])) (upd H p o) p mo) : Rl K mg B (φ ++ [p]) (M ++ [mo]) (upd H p o) ∧ Ex φ M H (φ ++ [p]) (M ++ [mo]) (upd H p o) := by
  have sm : Same H (upd H p o) := same_upd hp
  have np : p ∉ φ := fun z => R.there z hp
  refine ⟨⟨by rw [List.length_append, List.length_append, R.len]; rfl, ?_, fun a h z => ?_, (R.same sm).trk, fun k mo1 a e1 e2 => ?_⟩, ⟨⟨[p], rfl⟩, fun a h n => ?_, fun k h => ?_, fun b u h _ => sm _ _ h⟩⟩
  · rw [List.nodup_append]
    exact ⟨R.nd, by simp, fun x hx y hy e => np (by simp at hy; rw [← hy, ← e]; exact hx)⟩
  · rcases List.mem_append.mp h with h | h
    · exact R.out a h z
    · simp at h; subst h; exact (R.trk a z).1 hp
  · by_cases hk : k < φ.length
    · rw [List.getElem?_append_left hk] at e2
      rw [List.getElem?_append_left (by rw [← R.len]; exact hk)] at e1
      exact (R.obj k mo1 a e1 e2).ext sm (bnd_snoc R.len hp)
    · rw [List.getElem?_append_right (Nat.le_of_not_lt hk)] at e2
      rw [List.getElem?_append_right (by rw [← R.len]; exact Nat.le_of_not_lt hk), ← R.len] at e1
      cases hq : k - φ.length with
      | zero =>
        rw [hq] at e1 e2
        simp at e1 e2
        subst e1 e2
        exact new
      | succ m => rw [hq] at e2; simp at e2
  · rcases List.mem_append.mp h with h | h
    · exact absurd h n
    · simp at h; subst h; exact hp
  · have hk : k < M.length := (List.getElem?_eq_some_iff.mp h).1
    rw [List.getElem?_append_left hk]; exact h
theorem live_set (hm : M[n]? = some mo) (hg : mo ≠ .gone) (hg' : mo' ≠ .gone) : live φ (M.set n mo') a ↔ live φ M a := by
  have hn : n < M.length := (List.getElem?_eq_some_iff.mp hm).1
  constructor
  · rintro ⟨k, mo1, e1, e2, g⟩
    by_cases hk : k = n
    · subst hk; exact ⟨k, mo, e1, hm, hg⟩
    · rw [List.getElem?_set_ne (Ne.symm hk)] at e2; exact ⟨k, mo1, e1, e2, g⟩
  · rintro ⟨k, mo1, e1, e2, g⟩
    by_cases hk : k = n
    · subst hk; exact ⟨k, mo', e1, List.getElem?_set_self hn, hg'⟩
    · exact ⟨k, mo1, e1, by rw [List.getElem?_set_ne (Ne.symm hk)]; exact e2, g⟩
theorem bnd_set (hm : M[n]? = some mo) (hg : mo ≠ .gone) (hg' : mo' ≠ .gone) : bnd B φ (M.set n mo') = bnd B φ M := by
  funext a
  exact propext (or_congr Iff.rfl (live_set hm hg hg'))
/-- a thing of the store is changed -/
theorem Rl.put (R : Rl K mg B φ M H) (ha : φ[n]? = some a) (hm : M[n]? = some mo) (hg : mo ≠ .gone) (hg' : mo' ≠ .gone) (hx : ∀ fs, H a ≠ some (.xd fs)) (new : Kp (bnd B φ M) H (upd H a o) → MOk K mg (bnd B φ M) (upd H a o) a mo') :
    Rl K mg B φ (M.set n mo') (upd H a o) ∧ Ex φ M H φ (M.set n mo') (upd H a o) := by
  have lv : live φ M a := ⟨n, mo, ha, hm, hg⟩
  have hn : n < M.length := (List.getElem?_eq_some_iff.mp hm).1
  have keep : ∀ b u, H b = some u → b ≠ a → upd H a o b = some u := fun b u h z => by rw [upd_ne z]; exact h
  have kp : Kp (bnd B φ M) H (upd H a o) := .of (fun b u h z => keep b u h fun e => z (by rw [e]; exact .inr lv)) fun b xs z => R.bnd_notup z xs
  have eb : bnd B φ (M.set n mo') = bnd B φ M := bnd_set hm hg hg'
  have hb : ∀ x, bnd B φ M x → bnd B φ M x ∨ H x = none := fun x z => .inl z
  refine ⟨⟨by rw [List.length_set]; exact R.len, R.nd, R.out, fun b z => ?_, fun k mo1 b e1 e2 => ?_⟩, ⟨⟨[], by simp⟩, fun b h z => absurd h z, fun k h => ?_, fun b u h z => keep b u h fun e => z (by rw [e]; exact lv)⟩⟩
  · have nb : b ≠ a := fun e => R.out a (List.mem_of_getElem? ha) (by rw [← e]; exact z)
    obtain ⟨t1, t2⟩ := R.trk b z
    refine ⟨by rw [upd_ne nb]; exact t1, fun xs r => t2 xs ?_⟩
    unfold Rd at r ⊢
    rw [upd_ne nb] at r
    exact r
  · rw [eb]
    by_cases hk : k = n
    · subst hk
      rw [List.getElem?_set_self hn] at e1
      cases e1
      rw [ha] at e2; cases e2
      exact new kp
    · rw [List.getElem?_set_ne (Ne.symm hk)] at e1
      have nb : b ≠ a := fun e => hk (nodup_at R.nd e2 (by rw [e]; exact ha))
      have m := R.obj k mo1 b e1 e2
      cases mo1 with
      | lst _ => obtain ⟨xs, e, r⟩ := m; exact ⟨xs, keep _ _ e nb, r.mono kp hb⟩
      | dic _ => obtain ⟨xs, e, r⟩ := m; exact ⟨xs, keep _ _ e nb, r.mono kp hb⟩
      | dit _ => obtain ⟨xs, e, r⟩ := m; exact ⟨xs, keep _ _ e nb, r.mono kp hb⟩
      | obj _ _ =>
        obtain ⟨C, dx, xs, g, e, r⟩ := m
        refine ⟨C, dx, xs, g, ?_, r.mono kp hb⟩
        rcases e with ⟨e, e'⟩ | ⟨e, e'⟩
        · exact .inl ⟨keep _ _ e nb, e'⟩
        · exact .inr ⟨keep _ _ e nb, keep _ _ e' fun z => hx _ (by rw [← z]; exact e')⟩
      | any =>
        obtain ⟨m1, m2⟩ := m
        refine ⟨by rw [upd_ne nb]; exact m1, fun xs r => m2 xs ?_⟩
        unfold Rd at r ⊢
        rw [upd_ne nb] at r
        exact r
      | gone => show upd H a o b ≠ none; rw [upd_ne nb]; exact m
  · have hk : k ≠ n := fun e => by rw [e, hm] at h; cases h; exact hg rfl
    rw [List.getElem?_set_ne (Ne.symm hk)]; exact h
/-- a thing of the store is data from now on -/
theorem Rl.freeze (R : Rl K mg B φ M H) (hn : n < M.length) : Rl K mg B φ (M.set n .gone) H ∧ Ex φ M H φ (M.set n .gone) H := by
  have lv : ∀ a, live φ (M.set n .gone) a → live φ M a := fun a ⟨k, mo1, e1, e2, g⟩ => by
    by_cases hk : k = n
    · subst hk; rw [List.getElem?_set_self hn] at e2; cases e2; exact absurd rfl g
    · rw [List.getElem?_set_ne (Ne.symm hk)] at e2; exact ⟨k, mo1, e1, e2, g⟩
  have bl : ∀ a, bnd B φ (M.set n .gone) a → bnd B φ M a := fun a z => z.imp id (lv a)
  refine ⟨⟨by rw [List.length_set]; exact R.len, R.nd, R.out, R.trk, fun k mo1 b e1 e2 => ?_⟩, ⟨⟨[], by simp⟩, fun b h z => absurd h z, fun k h => ?_, fun b u h _ => h⟩⟩
  · by_cases hk : k = n
    · subst hk
      rw [List.getElem?_set_self hn] at e1
      cases e1
      exact R.there (List.mem_of_getElem? e2)
    · rw [List.getElem?_set_ne (Ne.symm hk)] at e1
      exact (R.obj k mo1 b e1 e2).less bl
  · by_cases hk : k = n
    · subst hk; exact List.getElem?_set_self hn
    · rw [List.getElem?_set_ne (Ne.symm hk)]; exact h
end

/-! ### displays -/
def vals : List A → Option (List D)
  | [] => some []
  | .val d :: r => match vals r with
    | some ds => some (d :: ds)
    | none => none
  | .ref _ :: _ => none
theorem vals_rel {K : PySem.W.Frag} {mg : Str → Option Value} {bn : Ban} {φ : List Addr} {H : Hp} : ∀ {xs : List A} {ds : List D} {vs : List V}, vals xs = some ds → RelAs K mg bn φ H xs vs → RelDs K mg bn H ds vs
  | [], _, _, e, h => by cases e; simpa only [RelAs, RelDs] using h
  | .ref _ :: _, _, _, e, _ => by cases e
  | .val d :: xs, _, _, e, h => by
    simp only [vals] at e
    split at e
    · rename_i ds eq
      cases e
      simp only [RelAs] at h
      obtain ⟨u, us, rfl, r, rs⟩ := h
      exact .cons r (vals_rel eq rs)
    · cases e
/-- values of arguments, all data; then something of them -/
def eSt (g : List D → Mm → Option (A × Mm)) (fs : List Ev) : Ev := fun ρ M => match evs fs ρ M with
  | some (.oks xs, M1) => (match vals xs with
    | some ds => (match g ds M1 with
      | some (x, M2) => some (.ok x, M2)
      | none => none)
    | none => none)
  | some (.err c v, M1) => some (.err c v, M1)
  | none => none
def gLst (ds : List D) (M : Mm) : Option (A × Mm) := if ds.length ≤ sizeLine then some (.val (.lst ds), M) else none
def gLstM (ds : List D) (M : Mm) : Option (A × Mm) := if ds.length ≤ sizeLine then some (.ref M.length, M ++ [.lst ds]) else none
def gTup (ds : List D) (M : Mm) : Option (A × Mm) := if ds.length ≤ sizeLine then some (.val (.tup ds), M) else none
section
variable {X : Cx} {W : WX} {pos : Pos} {a b e : Expr} {es : List Expr} {fa fb : Ev} {fs : List Ev}
theorem t_eSt {g : List D → Mm → Option (A × Mm)} {k : List V → Hp → VK → Prop} (hk : ∀ B φ M H ds vs x M' Q, Rl X.K X.mg B φ M H → RelDs X.K X.mg (bnd B φ M) H ds vs → g ds M = some (x, M') →
      (∀ v H' φ', Ex φ M H φ' M' H' → Rl X.K X.mg B φ' M' H' → RelA X.K X.mg (bnd B φ' M') φ' H' x v → Q v H') → k vs H Q) {σ : St} {H : Hp} {Q : VK} (h : tD X.K X.mg W (eSt g fs) σ H Q) : tDA X.K X.mg W fs σ H fun vs H1 => k vs H1 Q := by
  obtain ⟨B, φ, ρ, M, r', M', R, S, e, q⟩ := h
  unfold eSt at e
  split at e
  · rename_i xs M1 ea
    split at e
    · rename_i ds ed
      split at e
      · rename_i x M2 eg
        cases e
        refine ⟨B, φ, ρ, M, _, _, R, S, ea, fun vs H1 φ1 E1 R1 D1 => ?_⟩
        exact hk B φ1 M1 H1 ds vs x _ Q R1 (vals_rel ed D1) eg fun v H' φ' E2 R2 D2 => q v H' φ' (E1.trans R R1 E2) R2 D2
      · cases e
    · cases e
  · rename_i c v M1 ea
    cases e
    exact ⟨B, φ, ρ, M, _, _, R, S, ea, q⟩
  · cases e
theorem de_lst (ha : DA X W es fs) : DE X W (.List es pos) (eSt gLst fs) := by
  refine pe_weak (pe_lst ha) fun σ H Q h => t_eSt (k := fun xs H Q => xs.length ≤ sizeLine ∧ ∀ p, H p = none → Q (.ref p) (upd H p (.lst xs))) (fun B φ M H ds vs x M' Q R r e q => ?_) h
  unfold gLst at e
  split at e
  · rename_i hz
    cases e
    refine ⟨by rw [← r.len]; exact hz, fun p hp => ?_⟩
    exact q _ _ φ (.same (same_upd hp)) (R.same (same_upd hp)) (fresh_lst (fun a z => R.bnd_some z) hp r)
  · cases e
theorem de_lstM (ha : DA X W es fs) : DE X W (.List es pos) (eSt gLstM fs) := by
  refine pe_weak (pe_lst ha) fun σ H Q h => t_eSt (k := fun xs H Q => xs.length ≤ sizeLine ∧ ∀ p, H p = none → Q (.ref p) (upd H p (.lst xs))) (fun B φ M H ds vs x M' Q R r e q => ?_) h
  unfold gLstM at e
  split at e
  · rename_i hz
    cases e
    refine ⟨by rw [← r.len]; exact hz, fun p hp => ?_⟩
    have new : MOk X.K X.mg (bnd B (φ ++ [p]) (M ++ [.lst ds])) (upd H p (.lst vs)) p (.lst ds) := ⟨vs, upd_same, r.mono (Kp.same (same_upd hp)) (bnd_snoc R.len hp)⟩
    obtain ⟨R2, E2⟩ := R.alloc hp new
    exact q _ _ _ E2 R2 ⟨p, by rw [← R.len, List.getElem?_append_right (Nat.le_refl _)]; simp, rfl⟩
  · cases e
theorem de_tup {k} (ha : DA X W es fs) : DE X W (.Tuple es k pos) (eSt gTup fs) := by
  refine pe_weak (pe_tup ha) fun σ H Q h => t_eSt (k := fun xs H Q => xs.length ≤ sizeLine ∧ ∀ p, H p = none → Q (.ref p) (upd H p (.tup xs))) (fun B φ M H ds vs x M' Q R r e q => ?_) h
  unfold gTup at e
  split at e
  · rename_i hz
    cases e
    refine ⟨by rw [← r.len]; exact hz, fun p hp => ?_⟩
    exact q _ _ φ (.same (same_upd hp)) (R.same (same_upd hp)) (fresh_tup hp r)
  · cases e
/-- {} : data, or a thing of the store -/
def eDic : Ev := fun _ M => some (.ok (.val (.dic [])), M)
def eDicM : Ev := fun _ M => some (.ok (.ref M.length), M ++ [.dic []])
def eDitM : Ev := fun _ M => some (.ok (.ref M.length), M ++ [.dit []])
theorem de_dic : DE X W (.Dict [] [] pos) eDic := by
  refine pe_weak pe_dnewK fun σ H Q h => ?_
  obtain ⟨B, φ, ρ, M, r', M', R, S, e, q⟩ := h
  cases e
  intro p hp
  refine q _ _ φ (.same (same_upd hp)) (R.same (same_upd hp)) ?_
  simp only [RelA, RelD]
  exact ⟨p, [], rfl, fun z => R.bnd_some z hp, .inl upd_same, by simp only [RelKs]⟩
theorem de_dicM : DE X W (.Dict [] [] pos) eDicM := by
  refine pe_weak pe_dnewK fun σ H Q h => ?_
  obtain ⟨B, φ, ρ, M, r', M', R, S, e, q⟩ := h
  cases e
  intro p hp
  have new : MOk X.K X.mg (bnd B (φ ++ [p]) (M ++ [.dic []])) (upd H p (.dK [])) p (.dic []) := ⟨[], upd_same, by simp only [RelKs]⟩
  obtain ⟨R2, E2⟩ := R.alloc hp new
  exact q _ _ _ E2 R2 ⟨p, by rw [← R.len, List.getElem?_append_right (Nat.le_refl _)]; simp, rfl⟩
theorem de_ditM : DE X W (.Dict [] [] pos) eDitM := by
  refine pe_weak pe_dnewT fun σ H Q h => ?_
  obtain ⟨B, φ, ρ, M, r', M', R, S, e, q⟩ := h
  cases e
  intro p hp
  have new : MOk X.K X.mg (bnd B (φ ++ [p]) (M ++ [.dit []])) (upd H p (.dT [])) p (.dit []) := ⟨[], upd_same, by simp only [RelTs]⟩
  obtain ⟨R2, E2⟩ := R.alloc hp new
  exact q _ _ _ E2 R2 ⟨p, by rw [← R.len, List.getElem?_append_right (Nat.le_refl _)]; simp, rfl⟩
end
end Ow
namespace Ow
open PySem L2

section
variable {K : PySem.W.Frag} {mg : Str → Option Value} {bn : Ban} {H : Hp}
theorem tl1 {x : D} {vs : List V} (h : RelTl K mg bn H [x] vs) : ∃ v, vs = [v] ∧ RelT K mg bn H x v := by
  simp only [RelTl] at h
  obtain ⟨u, us, rfl, r, rfl⟩ := h
  exact ⟨u, rfl, r⟩
theorem tl2 {x y : D} {vs : List V} (h : RelTl K mg bn H [x, y] vs) : ∃ v u, vs = [v, u] ∧ RelT K mg bn H x v ∧ RelT K mg bn H y u := by
  simp only [RelTl] at h
  obtain ⟨u, us, rfl, r, w, ws, rfl, r2, rfl⟩ := h
  exact ⟨u, w, rfl, r, r2⟩
theorem scr_sq {ns : List Int} {v : V} (h : RelT K mg bn H (.scr ns) v) : ∃ a, v = .ref a ∧ SqL K H a (ns.map V.int) := by
  simp only [RelT, RelD] at h
  obtain ⟨a, rfl, h1⟩ := h
  refine ⟨a, rfl, ?_⟩
  rcases h1 with ⟨_, h1⟩ | h1
  · exact .inl h1
  · rcases h1 with h1 | h1
    · rcases h1 with h1 | ⟨_, h1⟩ <;> cases h1
    · exact .inr h1
end
/-! ### len, int, abs, max, min, str -/
def dLen : List D → Option D
  | [.str x] => if x.length ≤ sizeLine then some (.int x.length) else none
  | [.lst xs] => some (.int xs.length)
  | [.tup xs] => some (.int xs.length)
  | [.scr xs] => some (.int xs.length)
  | [.dic xs] => some (.int xs.length)
  | _ => none
theorem relKs_len {K : PySem.W.Frag} {mg : Str → Option Value} {bn : Ban} {H : Hp} : ∀ {ds : List (Key × D)} {vs : List (Key × V)}, RelKs K mg bn H ds vs → ds.length = vs.length
  | [], _, h => by simp only [RelKs] at h; rw [h]; rfl
  | (_, d) :: ds, _, h => by
    simp only [RelKs] at h
    obtain ⟨x, xs, rfl, _, rs⟩ := h
    rw [List.length_cons, List.length_cons, relKs_len rs]
section
variable {X : Cx} {W : WX} {pos p : Pos} {e o : Expr} {es : List Expr} {fo : Ev} {fs : List Ev}
theorem call_lenR : CallR X (.builtin "len") (fun xs H Q => ∃ (a : Addr) (kvs : List (Key × V)), xs = [.ref a] ∧ Rd H a (.dK kvs) ∧ Q (.int kvs.length) H) := by
  intro pins s σ H xs us Q I r h
  obtain ⟨a, kvs, rfl, ha, q⟩ := h
  obtain ⟨u, rfl, ru⟩ := vals1 r
  cases ru
  exact d_len I ha fun t s' I' => ⟨.int kvs.length, H, I', ⟨t, rfl⟩, q⟩
theorem v_len {K : PySem.W.Frag} {mg : Str → Option Value} : VOpN K mg (fun xs H Q => (∃ x n, xs = [x] ∧ LenV K x H n ∧ Q (.int n) H) ∨ (∃ (a : Addr) (kvs : List (Key × V)), xs = [.ref a] ∧ Rd H a (.dK kvs) ∧ Q (.int kvs.length) H)) dLen := by
  intro bn H xs d vs Q hb hx e q
  unfold dLen at e
  split at e
  · split at e
    · rename_i hz
      cases e
      obtain ⟨v, rfl, r⟩ := tl1 hx
      simp only [RelT, RelD] at r
      subst r
      exact .inl ⟨_, _, rfl, ⟨hz, rfl⟩, q _ H (.refl H) (by simp only [RelD])⟩
    · cases e
  · cases e
    obtain ⟨v, rfl, r⟩ := tl1 hx
    obtain ⟨a, ys, rfl, h1, r1⟩ := r
    exact .inl ⟨_, _, rfl, .inl ⟨ys, .of h1, rfl⟩, q _ H (.refl H) (by simp only [RelD]; rw [r1.len])⟩
  · cases e
    obtain ⟨v, rfl, r⟩ := tl1 hx
    obtain ⟨a, ys, rfl, h1, r1⟩ := relT_tup.mp r
    exact .inl ⟨_, _, rfl, .inr ⟨ys, h1, rfl⟩, q _ H (.refl H) (by simp only [RelD]; rw [r1.len])⟩
  · cases e
    obtain ⟨v, rfl, r⟩ := tl1 hx
    obtain ⟨a, rfl, h1⟩ := scr_sq r
    exact .inl ⟨_, _, rfl, .inl ⟨_, h1, rfl⟩, q _ H (.refl H) (by simp only [RelD]; rw [List.length_map])⟩
  · cases e
    obtain ⟨v, rfl, r⟩ := tl1 hx
    obtain ⟨a, ys, rfl, h1, r1⟩ := r
    exact .inr ⟨_, _, rfl, h1, q _ H (.refl H) (by simp only [RelD]; rw [relKs_len r1])⟩
  · cases e
theorem de_len (hm : X.mg "len" = none) (ha : DA X W (e :: es) fs) (hgl : Gl X "len" := by rfl) (he : starEach (e :: es) X.env = (false, eval e X.env) :: starEach es X.env := by rfl) (hpl : (backTo pos (starEach es X.env)).any (·.1) = false := by rfl) :
    DE X W (.Call (.Name "len" p) (e :: es) [] pos) (eN dLen fs) := de_callB (call_len.or call_lenR) PySem.boot_len v_len hgl hm ha (by decide) (by decide) he hpl
def dInt : List D → Option D
  | [.int i] => some (.int i)
  | [.bl b] => some (.int (if b then 1 else 0))
  | _ => none
theorem v_int {K : PySem.W.Frag} {mg : Str → Option Value} : VOpN K mg (fun xs H Q => (∃ i, xs = [.int i] ∧ Q (.int i) H) ∨ ∃ k, xs = [.bl k] ∧ Q (.int (if k then 1 else 0)) H) dInt := by
  intro bn H xs d vs Q hb hx e q
  unfold dInt at e
  split at e
  · cases e
    obtain ⟨v, rfl, r⟩ := tl1 hx
    simp only [RelT, RelD] at r
    subst r
    exact .inl ⟨_, rfl, q _ H (.refl H) (by simp only [RelD])⟩
  · cases e
    obtain ⟨v, rfl, r⟩ := tl1 hx
    simp only [RelT, RelD] at r
    subst r
    exact .inr ⟨_, rfl, q _ H (.refl H) (by simp only [RelD])⟩
  · cases e
theorem de_int1 (hm : X.mg "int" = none) (ha : DA X W (e :: es) fs) (hgl : Gl X "int" := by rfl) (he : starEach (e :: es) X.env = (false, eval e X.env) :: starEach es X.env := by rfl) (hpl : (backTo pos (starEach es X.env)).any (·.1) = false := by rfl) :
    DE X W (.Call (.Name "int" p) (e :: es) [] pos) (eN dInt fs) := de_callT call_int1 (by decide +kernel) v_int hgl hm ha (by decide) (by decide) he hpl
def dAbs : List D → Option D
  | [.int i] => some (.int (if i < 0 then -i else i))
  | _ => none
theorem v_abs {K : PySem.W.Frag} {mg : Str → Option Value} : VOpN K mg (fun xs H Q => ∃ i, xs = [.int i] ∧ Q (.int (if i < 0 then -i else i)) H) dAbs := by
  intro bn H xs d vs Q hb hx e q
  unfold dAbs at e
  split at e
  · cases e
    obtain ⟨v, rfl, r⟩ := tl1 hx
    simp only [RelT, RelD] at r
    subst r
    exact ⟨_, rfl, q _ H (.refl H) (by simp only [RelD])⟩
  · cases e
theorem de_abs (hm : X.mg "abs" = none) (ha : DA X W (e :: es) fs) (hgl : Gl X "abs" := by rfl) (he : starEach (e :: es) X.env = (false, eval e X.env) :: starEach es X.env := by rfl) (hpl : (backTo pos (starEach es X.env)).any (·.1) = false := by rfl) :
    DE X W (.Call (.Name "abs" p) (e :: es) [] pos) (eN dAbs fs) := de_callB call_abs (by decide +kernel) v_abs hgl hm ha (by decide) (by decide) he hpl
def dMax2 : List D → Option D
  | [.int i, .int j] => some (.int (if j > i then j else i))
  | _ => none
def dMin2 : List D → Option D
  | [.int i, .int j] => some (.int (if j < i then j else i))
  | _ => none
theorem v_max2 {K : PySem.W.Frag} {mg : Str → Option Value} : VOpN K mg (fun xs H Q => ∃ i j, xs = [.int i, .int j] ∧ Q (.int (if j > i then j else i)) H) dMax2 := by
  intro bn H xs d vs Q hb hx e q
  unfold dMax2 at e
  split at e
  · cases e
    obtain ⟨v, u, rfl, r, r2⟩ := tl2 hx
    simp only [RelT, RelD] at r r2
    subst r r2
    exact ⟨_, _, rfl, q _ H (.refl H) (by simp only [RelD])⟩
  · cases e
theorem v_min2 {K : PySem.W.Frag} {mg : Str → Option Value} : VOpN K mg (fun xs H Q => ∃ i j, xs = [.int i, .int j] ∧ Q (.int (if j < i then j else i)) H) dMin2 := by
  intro bn H xs d vs Q hb hx e q
  unfold dMin2 at e
  split at e
  · cases e
    obtain ⟨v, u, rfl, r, r2⟩ := tl2 hx
    simp only [RelT, RelD] at r r2
    subst r r2
    exact ⟨_, _, rfl, q _ H (.refl H) (by simp only [RelD])⟩
  · cases e
theorem de_max2 (hc : X.calm = true) (hm : X.mg "max" = none) (ha : DA X W (e :: es) fs) (hgl : Gl X "max" := by rfl) (he : starEach (e :: es) X.env = (false, eval e X.env) :: starEach es X.env := by rfl) (hpl : (backTo pos (starEach es X.env)).any (·.1) = false := by rfl) :
    DE X W (.Call (.Name "max" p) (e :: es) [] pos) (eN dMax2 fs) := de_callB (call_max2 hc) (by decide +kernel) v_max2 hgl hm ha (by decide) (by decide) he hpl
theorem de_min2 (hc : X.calm = true) (hm : X.mg "min" = none) (ha : DA X W (e :: es) fs) (hgl : Gl X "min" := by rfl) (he : starEach (e :: es) X.env = (false, eval e X.env) :: starEach es X.env := by rfl) (hpl : (backTo pos (starEach es X.env)).any (·.1) = false := by rfl) :
    DE X W (.Call (.Name "min" p) (e :: es) [] pos) (eN dMin2 fs) := de_callB (call_min2 hc) (by decide +kernel) v_min2 hgl hm ha (by decide) (by decide) he hpl
def dStr : List D → Option D
  | [.int i] => if i.natAbs.log2 < 1920 then some (.str (toString i)) else none
  | _ => none
theorem v_str {K : PySem.W.Frag} {mg : Str → Option Value} : VOpN K mg (fun xs H Q => ∃ i, xs = [.int i] ∧ i.natAbs.log2 < 1920 ∧ Q (.str (toString i)) H) dStr := by
  intro bn H xs d vs Q hb hx e q
  unfold dStr at e
  split at e
  · split at e
    · rename_i hz
      cases e
      obtain ⟨v, rfl, r⟩ := tl1 hx
      simp only [RelT, RelD] at r
      subst r
      exact ⟨_, rfl, hz, q _ H (.refl H) (by simp only [RelD])⟩
    · cases e
  · cases e
theorem de_str1 (hm : X.mg "str" = none) (ha : DA X W (e :: es) fs) (hgl : Gl X "str" := by rfl) (he : starEach (e :: es) X.env = (false, eval e X.env) :: starEach es X.env := by rfl) (hpl : (backTo pos (starEach es X.env)).any (·.1) = false := by rfl) :
    DE X W (.Call (.Name "str" p) (e :: es) [] pos) (eN dStr fs) := de_callT call_str_int (by decide +kernel) v_str hgl hm ha (by decide) (by decide) he hpl
def dList : List D → Option D
  | [.lst xs] => some (.lst xs)
  | [.tup xs] => some (.lst xs)
  | _ => none
theorem v_list {K : PySem.W.Frag} {mg : Str → Option Value} : VOpN K mg (fun xs H Q => ∃ p ys, xs = [.ref p] ∧ (SqL K H p ys ∨ SqT K H p ys) ∧ ∀ l, H l = none → Q (.ref l) (upd H l (.lst ys))) dList := by
  intro bn H xs d vs Q hb hx e q
  unfold dList at e
  split at e
  · cases e
    obtain ⟨v, rfl, r⟩ := tl1 hx
    obtain ⟨a, ys, rfl, h1, r1⟩ := r
    exact ⟨a, ys, rfl, .inl (.of h1), fun l hl => q _ _ (same_upd hl) (fresh_lst hb hl r1)⟩
  · cases e
    obtain ⟨v, rfl, r⟩ := tl1 hx
    obtain ⟨a, ys, rfl, h1, r1⟩ := relT_tup.mp r
    exact ⟨a, ys, rfl, .inr h1, fun l hl => q _ _ (same_upd hl) (fresh_lst hb hl r1)⟩
  · cases e
theorem de_list1 (hm : X.mg "list" = none) (ha : DA X W (e :: es) fs) (hgl : Gl X "list" := by rfl) (he : starEach (e :: es) X.env = (false, eval e X.env) :: starEach es X.env := by rfl) (hpl : (backTo pos (starEach es X.env)).any (·.1) = false := by rfl) :
    DE X W (.Call (.Name "list" p) (e :: es) [] pos) (eN dList fs) := de_callT call_list_of (by decide +kernel) v_list hgl hm ha (by decide) (by decide) he hpl
def dTuple : List D → Option D
  | [.lst xs] => some (.tup xs)
  | [.tup xs] => some (.tup xs)
  | _ => none
theorem v_tuple {K : PySem.W.Frag} {mg : Str → Option Value} : VOpN K mg (fun xs H Q => ∃ p ys, xs = [.ref p] ∧ ((SqL K H p ys ∧ ∀ l, H l = none → Q (.ref l) (upd H l (.tup ys))) ∨ (SqT K H p ys ∧ Q (.ref p) H))) dTuple := by
  intro bn H xs d vs Q hb hx e q
  unfold dTuple at e
  split at e
  · cases e
    obtain ⟨v, rfl, r⟩ := tl1 hx
    obtain ⟨a, ys, rfl, h1, r1⟩ := r
    exact ⟨a, ys, rfl, .inl ⟨.of h1, fun l hl => q _ _ (same_upd hl) (fresh_tup hl r1)⟩⟩
  · cases e
    obtain ⟨v, rfl, r⟩ := tl1 hx
    obtain ⟨a, ys, rfl, h1, r1⟩ := relT_tup.mp r
    exact ⟨a, ys, rfl, .inr ⟨h1, q _ H (.refl H) (by simp only [RelD]; exact ⟨a, ys, rfl, h1, r1⟩)⟩⟩
  · cases e
theorem de_tuple1 (hm : X.mg "tuple" = none) (ha : DA X W (e :: es) fs) (hgl : Gl X "tuple" := by rfl) (he : starEach (e :: es) X.env = (false, eval e X.env) :: starEach es X.env := by rfl) (hpl : (backTo pos (starEach es X.env)).any (·.1) = false := by rfl) :
    DE X W (.Call (.Name "tuple" p) (e :: es) [] pos) (eN dTuple fs) := de_callT call_tuple_of (by decide +kernel) v_tuple hgl hm ha (by decide) (by decide) he hpl
def blsOf : List D → Option (List Bool)
  | [] => some []
  | .bl b :: r => match blsOf r with
    | some bs => some (b :: bs)
    | none => none
  | _ => none
theorem bls_rel {K : PySem.W.Frag} {mg : Str → Option Value} {bn : Ban} {H : Hp} : ∀ {ds : List D} {vs : List V} {bs : List Bool}, blsOf ds = some bs → RelDs K mg bn H ds vs → vs = bs.map V.bl
  | [], _, _, e, h => by cases e; simp only [RelDs] at h; exact h
  | d :: ds, _, _, e, h => by
    cases d with
    | bl b =>
      simp only [blsOf] at e
      split at e
      · rename_i bs eb
        cases e
        simp only [RelDs] at h
        obtain ⟨v, vs, rfl, r, rs⟩ := h
        simp only [RelD] at r
        rw [r, bls_rel eb rs]
        rfl
      · cases e
    | _ => cases e
def dAll : List D → Option D
  | [.lst xs] => match blsOf xs with
    | some bs => some (.bl (bs.all id))
    | none => none
  | _ => none
def dAny : List D → Option D
  | [.lst xs] => match blsOf xs with
    | some bs => some (.bl (bs.any id))
    | none => none
  | _ => none
theorem v_all {K : PySem.W.Frag} {mg : Str → Option Value} : VOpN K mg (rAll K) dAll := by
  intro bn H xs d vs Q hb hx e q
  unfold dAll at e
  split at e
  · split at e
    · rename_i bs eb
      cases e
      obtain ⟨v, rfl, r⟩ := tl1 hx
      obtain ⟨a, ys, rfl, h1, r1⟩ := r
      obtain rfl := bls_rel eb r1
      exact ⟨a, bs, rfl, .of h1, q _ H (.refl H) (by simp only [RelD])⟩
    · cases e
  · cases e
theorem v_any {K : PySem.W.Frag} {mg : Str → Option Value} : VOpN K mg (rAny K) dAny := by
  intro bn H xs d vs Q hb hx e q
  unfold dAny at e
  split at e
  · split at e
    · rename_i bs eb
      cases e
      obtain ⟨v, rfl, r⟩ := tl1 hx
      obtain ⟨a, ys, rfl, h1, r1⟩ := r
      obtain rfl := bls_rel eb r1
      exact ⟨a, bs, rfl, .of h1, q _ H (.refl H) (by simp only [RelD])⟩
    · cases e
  · cases e
theorem de_all (hc : X.calm = true) (hm : X.mg "all" = none) (ha : DA X W (e :: es) fs) (hgl : Gl X "all" := by rfl) (he : starEach (e :: es) X.env = (false, eval e X.env) :: starEach es X.env := by rfl) (hpl : (backTo pos (starEach es X.env)).any (·.1) = false := by rfl) :
    DE X W (.Call (.Name "all" p) (e :: es) [] pos) (eN dAll fs) := de_callB (cr_all hc) (by decide +kernel) v_all hgl hm ha (by decide) (by decide) he hpl
theorem de_any (hc : X.calm = true) (hm : X.mg "any" = none) (ha : DA X W (e :: es) fs) (hgl : Gl X "any" := by rfl) (he : starEach (e :: es) X.env = (false, eval e X.env) :: starEach es X.env := by rfl) (hpl : (backTo pos (starEach es X.env)).any (·.1) = false := by rfl) :
    DE X W (.Call (.Name "any" p) (e :: es) [] pos) (eN dAny fs) := de_callB (cr_any hc) (by decide +kernel) v_any hgl hm ha (by decide) (by decide) he hpl
end
end Ow
namespace Ow
open PySem L2

def cutD (xs : List D) (lo hi : Option Int) : List D := (xs.drop (HT.sIx xs.length 0 lo)).take (HT.sIx xs.length xs.length hi - HT.sIx xs.length 0 lo)
def dSl : D → Option Int → Option Int → Option D
  | .lst xs, lo, hi => some (.lst (cutD xs lo hi))
  | .tup xs, lo, hi => some (.tup (cutD xs lo hi))
  | .str z, lo, hi => if z.length ≤ sizeLine then some (.str (cutS z lo hi)) else none
  | _, _, _ => none
/-- a part of a slice -/
inductive Rp where
  | no | at_ (i : Int) | err (c : Str) (v : D)
abbrev Eo := Sl → Mm → Option (Rp × Mm)
def eNo : Eo := fun _ M => some (.no, M)
def eAt (f : Ev) : Eo := fun ρ M => match f ρ M with
  | some (.ok (.val (.int i)), M1) => some (.at_ i, M1)
  | some (.err c v, M1) => some (.err c v, M1)
  | _ => none
def Rp.part : Rp → Option Int
  | .at_ i => some i
  | _ => none
def PostO (K : PySem.W.Frag) (mg : Str → Option Value) (W : WX) (B : Ban) (φ : List Addr) (M : Mm) (H : Hp) (σ : St) (M' : Mm) (Q : Option Int → Hp → Prop) : Rp → Prop
  | .no => ∀ H' φ', Ex φ M H φ' M' H' → Rl K mg B φ' M' H' → Q none H'
  | .at_ i => ∀ H' φ', Ex φ M H φ' M' H' → Rl K mg B φ' M' H' → Q (some i) H'
  | .err c d => ∀ C dx v H' φ', mg c = some (.ref C) → Ex φ M H φ' M' H' → Rl K mg B φ' M' H' → H' dx = some (.xd [("value", v)]) → ¬ bnd B φ' M' dx → RelD K mg (bnd B φ' M') H' d v → W (.ref C) (some dx) σ H'
def tDO (K : PySem.W.Frag) (mg : Str → Option Value) (W : WX) (f : Eo) : TO := fun σ H Q =>
  ∃ B φ ρ M r M', Rl K mg B φ M H ∧ SlR K mg (bnd B φ M) φ H ρ σ ∧ f ρ M = some (r, M') ∧ PostO K mg W B φ M H σ M' Q r
abbrev DO (X : Cx) (W : WX) (e : Option Expr) (f : Eo) : Prop := PO X e (tDO X.K X.mg W f)
theorem po_weak {X : Cx} {e : Option Expr} {t t' : TO} (h : PO X e t) (w : ∀ σ H Q, t' σ H Q → t σ H Q) : PO X e t' := ⟨fun pins s σ H Q I q => h.run pins s σ H Q I (w σ H Q q)⟩
def eSl (fa : Ev) (fl fh : Eo) : Ev := fun ρ M => match fa ρ M with
  | some (.ok x, M1) => (match fl ρ M1 with
    | some (.err c v, M2) => some (.err c v, M2)
    | some (l, M2) => (match fh ρ M2 with
      | some (.err c v, M3) => some (.err c v, M3)
      | some (u, M3) => (match pk M3 x with
        | some d => (match dSl d l.part u.part with
          | some r => some (.ok (.val r), M3)
          | none => none)
        | none => none)
      | none => none)
    | none => none)
  | some (.err c v, M1) => some (.err c v, M1)
  | none => none
def rSlAll (K : PySem.W.Frag) : V → Option Int → Option Int → Hp → VK → Prop := fun x lo hi H Q => rSlL K x lo hi H Q ∨ rSlA K x lo hi H Q ∨ rSlS x lo hi H Q
theorem sl_all {X : Cx} : L2.SlR X (rSlAll X.K) := sl_list.or (sl_tupA.or sl_str)
theorem cut_rel {K : PySem.W.Frag} {mg : Str → Option Value} {bn : Ban} {H : Hp} {ds : List D} {vs : List V} (lo hi : Option Int) (r : RelDs K mg bn H ds vs) : RelDs K mg bn H (cutD ds lo hi) (cutV vs lo hi) := by
  unfold cutD cutV
  rw [r.len]
  exact (r.drop _).take _
theorem v_sl {K : PySem.W.Frag} {mg : Str → Option Value} {bn : Ban} {H : Hp} {x d : D} {v : V} {lo hi : Option Int} {Q : VK} (hb : ∀ a, bn a → H a ≠ none) (hx : RelT K mg bn H x v) (e : dSl x lo hi = some d)
    (q : ∀ v' H', Same H H' → RelD K mg bn H' d v' → Q v' H') : rSlAll K v lo hi H Q := by
  unfold dSl at e
  split at e
  · cases e
    obtain ⟨a, xs, rfl, h1, r1⟩ := hx
    exact .inl ⟨a, xs, rfl, .of h1, fun p hp => q _ _ (same_upd hp) (fresh_lst hb hp (cut_rel _ _ r1))⟩
  · cases e
    obtain ⟨a, xs, rfl, h1, r1⟩ := relT_tup.mp hx
    refine .inr (.inl ⟨a, xs, rfl, h1, fun hw => ?_, fun _ p hp => q _ _ (same_upd hp) (fresh_tup hp (cut_rel _ _ r1))⟩)
    refine q _ H (.refl H) ?_
    have e : cutV xs lo hi = xs := by unfold cutV; rw [hw.1, hw.2]; simp
    simp only [RelD]
    refine ⟨a, xs, rfl, h1, ?_⟩
    have := cut_rel lo hi r1
    rw [e] at this
    exact this
  · split at e
    · rename_i hz
      cases e
      simp only [RelT, RelD] at hx
      subst hx
      exact .inr (.inr ⟨_, rfl, hz, q _ H (.refl H) (by simp only [RelD])⟩)
    · cases e
  · cases e
section
variable {X : Cx} {W : WX} {pos p2 : Pos} {a e : Expr} {lo hi : Option Expr} {fa : Ev} {fl fh : Eo}
theorem do_no : DO X W none eNo := po_weak po_none fun σ H Q h => by
  obtain ⟨B, φ, ρ, M, r', M', R, S, e, q⟩ := h
  cases e
  exact q H φ .refl R
theorem do_at (ha : DE X W e fa) : DO X W (some e) (eAt fa) := po_weak (po_some ha) fun σ H Q h => by
  obtain ⟨B, φ, ρ, M, r', M', R, S, e, q⟩ := h
  unfold eAt at e
  split at e
  · rename_i i M1 ea
    cases e
    refine ⟨B, φ, ρ, M, _, _, R, S, ea, fun v H1 φ1 E1 R1 D1 => ?_⟩
    simp only [RelA, RelD] at D1
    exact ⟨i, D1, q H1 φ1 E1 R1⟩
  · rename_i c v M1 ea
    cases e
    exact ⟨B, φ, ρ, M, _, _, R, S, ea, q⟩
  · cases e
theorem de_slice (ha : DE X W a fa) (hl : DO X W lo fl) (hh : DO X W hi fh) : DE X W (.Subscript a (.Slice lo hi none p2) pos) (eSl fa fl fh) := by
  refine pe_weak (pe_slice sl_all ha hl hh) fun σ H Q h => ?_
  obtain ⟨B, φ, ρ, M, r', M', R, S, e, q⟩ := h
  unfold eSl at e
  split at e
  · rename_i x M1 ea
    refine ⟨B, φ, ρ, M, _, _, R, S, ea, fun v H1 φ1 E1 R1 D1 => ?_⟩
    have S1 := S.ex R R1 E1
    split at e
    · rename_i c v' M2 el
      cases e
      exact ⟨B, φ1, ρ, M1, _, _, R1, S1, el, fun C dx v H2 φ2 gC E2 R2 hd nb rd => q C dx v H2 φ2 gC (E1.trans R R1 E2) R2 hd nb rd⟩
    · rename_i l M2 hl' el
      have step : ∀ H2 φ2, Ex φ1 M1 H1 φ2 M2 H2 → Rl X.K X.mg B φ2 M2 H2 → tDO X.K X.mg W fh σ H2 fun u H3 => rSlAll X.K v l.part u H3 Q := by
        intro H2 φ2 E2 R2
        have S2 := S1.ex R1 R2 E2
        have E12 := E1.trans R R1 E2
        split at e
        · rename_i c v' M3 eh
          cases e
          exact ⟨B, φ2, ρ, M2, _, _, R2, S2, eh, fun C dx v H3 φ3 gC E3 R3 hd nb rd => q C dx v H3 φ3 gC (E12.trans R R2 E3) R3 hd nb rd⟩
        · rename_i u M3 hu' eh
          split at e
          · rename_i d ed
            split at e
            · rename_i r er
              cases e
              have fin : ∀ H3 φ3, Ex φ2 M2 H2 φ3 M' H3 → Rl X.K X.mg B φ3 M' H3 → rSlAll X.K v l.part u.part H3 Q := fun H3 φ3 E3 R3 => by
                refine v_sl (fun a z => R3.bnd_some z) (pk_rel R3 ed ((D1.ex R1 R2 E2).ex R2 R3 E3)) er fun v' H' s' D' => ?_
                exact q v' H' φ3 ((E12.trans R R2 E3).trans R R3 (.same s')) (R3.same s') D'
              refine ⟨B, φ2, ρ, M2, _, _, R2, S2, eh, ?_⟩
              cases u with
              | no => exact fin
              | at_ i => exact fin
              | err c v => exact (hu' _ _ rfl).elim
            · cases e
          · cases e
        · cases e
      refine ⟨B, φ1, ρ, M1, _, _, R1, S1, el, ?_⟩
      cases l with
      | no => exact step
      | at_ i => exact step
      | err c v => exact (hl' _ _ rfl).elim
    · cases e
  · rename_i c v M1 ea
    cases e
    exact ⟨B, φ, ρ, M, _, _, R, S, ea, q⟩
  · cases e
end
/-! ### t[::-1] -/
theorem rev_applied {prog : Program} {w : World} {A : Around} {E : Value → Shared → Prop} {s : Shared} {sl : Addr} {vs : Value} {n : Nat} {Q : Int × Int × Nat → Shared → Prop} (hs : s.heap.IsSliceOf sl .none .none vs) (ps : IsPart vs (some (-1)))
    (h : Q ((n : Int) - 1, -1, n) s) : wpAny (model prog w) A (Builtin.Slice.sliceApplied (.ref sl) (pure (n : Int))) Q E s := by
  obtain ⟨os, hos, hcs, hds⟩ := id hs
  unfold Builtin.Slice.sliceApplied Builtin.Slice.sliceFields
  refine wpAny_bind (wpAny_bind (wpAny_field hos hds (x := .none) rfl (wpAny_bind (wpAny_field hos hds (x := .none) rfl (wpAny_bind (wpAny_field hos hds (x := vs) rfl (wpAny_pure ?_)))))))
  refine wpAny_bind (HT.slicePart_ ps ?_)
  show wpAny _ _ (if ((-1 : Int) == 0) = true then _ else _) _ _ s
  rw [if_neg (by decide)]
  refine wpAny_bind (HT.slicePart_ .none (wpAny_bind (HT.slicePart_ .none (wpAny_bind (wpAny_pure ?_)))))
  have e1 : Builtin.Slice.sliceAdjust none none (-1) (n : Int) = ((n : Int) - 1, -1) := rfl
  have e2 : Builtin.Slice.slicePlaces ((n : Int) - 1) (-1) (-1) = n := by
    unfold Builtin.Slice.slicePlaces
    simp
    omega
  show wpAny _ _ (match Builtin.Slice.sliceAdjust none none (-1) (n : Int) with | (lo, hi) => pure (lo, (-1 : Int), Builtin.Slice.slicePlaces lo hi (-1))) _ _ s
  rw [e1]
  show wpAny _ _ (pure ((n : Int) - 1, (-1 : Int), Builtin.Slice.slicePlaces ((n : Int) - 1) (-1) (-1))) _ _ s
  rw [e2]
  exact wpAny_pure h
theorem pick_rev (xs : Array Value) : ((List.range xs.size).filterMap fun (m : Nat) => xs[(((xs.size : Int) - 1) + (m : Int) * (-1)).toNat]?).toArray = xs.toList.reverse.toArray := by
  congr 1
  apply List.ext_getElem?
  intro i
  have e : ∀ l : List Nat, (∀ m ∈ l, m < xs.size) → (l.filterMap fun (m : Nat) => xs[(((xs.size : Int) - 1) + (m : Int) * (-1)).toNat]?) = l.map fun m => xs.toList.getD (xs.size - 1 - m) .none := by
    intro l
    induction l with
    | nil => intro _; rfl
    | cons m l ih =>
      intro h
      have hm := h m List.mem_cons_self
      have e1 : (((xs.size : Int) - 1) + (m : Int) * (-1)).toNat = xs.size - 1 - m := by omega
      have hlt : xs.size - 1 - m < xs.size := by omega
      rw [List.filterMap_cons, e1, List.map_cons, ih fun k hk => h k (List.mem_cons_of_mem _ hk)]
      rw [Array.getElem?_eq_getElem hlt]
      simp [List.getD, hlt]
  rw [e _ fun m hm => List.mem_range.mp hm]
  rw [List.getElem?_map]
  by_cases hi : i < xs.size
  · rw [List.getElem?_range hi, List.getElem?_reverse (by simpa using hi)]
    simp [List.getD, show xs.size - 1 - i < xs.size by omega]
  · rw [List.getElem?_eq_none (by simpa using Nat.le_of_not_lt hi), List.getElem?_eq_none (by simpa using Nat.le_of_not_lt hi)]
    rfl
section
open PyProof.Rows
variable {prog : Program} {w : World} {A : Around} {E : Value → Shared → Prop} {s : Shared}
theorem item_tuple_rev {t sl : Addr} {items : Array Value} {vs : Value} {Q : Value → Shared → Prop} (ht : IsTup s.heap t items) (hs : s.heap.IsSliceOf sl .none .none vs) (ps : IsPart vs (some (-1)))
    (h : Q (.ref s.heap.objs.size) { s with heap := s.heap.push { cls := .type "tuple", data := .seq items.toList.reverse.toArray } }) (hsz : items.size ≤ sizeLine) : wpAny (model prog w) A (getItem (.ref t) (.ref sl)) Q E s := by
  have fits : sizeOk (.seq items.toList.reverse.toArray) := by
    show items.toList.reverse.toArray.size ≤ sizeLine
    rw [List.size_toArray, List.length_reverse, Array.length_toList]
    exact hsz
  obtain ⟨os, hos, hcs, hds⟩ := id hs
  have tsl : s.TypeIs (.ref sl) "slice" := ⟨os, hos, hcs⟩
  unfold getItem
  try with_reducible refine wpAny_holding ?_
  first | refine wpAny_bind (wpAny_pure ?_) | skip
  refine wpAny_bind (wpAny_sequenceKey ht.typeIs (by decide) ?_)
  refine wpAny_bind (wpAny_callSpecial?_slot (name := Str.ofString "__getitem__") ht.typeIs slot_tuple_getitem (wpAny_call_entry slot_tuple_getitem ht.typeIs PyProof.Rows.entry_tuple_getitem ?_ (PyProof.Rows.args_tuple_getitem _ _)))
  show wpAny _ _ (Builtin.Tuple.tupleItemsOf (.ref t) >>= _) _ _ s
  refine wpAny_bind (PyProof.Rows.tupleItemsOf_ ht ?_)
  refine wpAny_bind (wpAny_typeOf tsl ?_)
  rw [if_pos (by decide)]
  refine wpAny_bind (rev_applied hs ps ?_)
  show wpAny _ _ (if (((items.size : Int) - 1 == 0) && ((-1 : Int) == 1) && (items.size == items.size)) = true then _ else _) _ _ s
  rw [if_neg (by rw [show ((-1 : Int) == 1) = false from rfl, Bool.and_false, Bool.false_and]; exact Bool.false_ne_true)]
  show wpAny _ _ (Builtin.Tuple.tupleExact ((List.range items.size).filterMap fun (m : Nat) => items[(((items.size : Int) - 1) + (m : Int) * (-1)).toNat]?).toArray >>= _) _ _ s
  rw [pick_rev]
  first
    | exact wpAny_bind (m := Builtin.Tuple.tupleExact _) (wpAny_newObj_type (wpAny_pure ⟨_, rfl, wpAny_pure h⟩) fits)
    | exact wpAny_bind (m := Builtin.Tuple.tupleExact _) (wpAny_newObj_type (wpAny_bind (wpAny_pure (wpAny_pure ⟨_, rfl, wpAny_pure h⟩))) fits)
end
def dRev : D → Option D
  | .lst xs => some (.lst xs.reverse)
  | .tup xs => some (.tup xs.reverse)
  | _ => none
def tRevA (K : PySem.W.Frag) (te : TE) : TE := fun σ H Q => te σ H fun x H1 => (∃ a xs, x = .ref a ∧ SqL K H1 a xs ∧ ∀ p, H1 p = none → Q (.ref p) (upd H1 p (.lst xs.reverse))) ∨ (∃ a xs, x = .ref a ∧ SqT K H1 a xs ∧ ∀ p, H1 p = none → Q (.ref p) (upd H1 p (.tup xs.reverse)))
section
variable {X : Cx} {W : WX} {pos p1 p2 p3 : Pos} {e : Expr} {fa : Ev} {k : Nat}
theorem pe_revA {te : TE} (he : PE X e te) : PE X (.Subscript e (.Slice none none (some (.UnaryOp .USub (.Constant (.int 1) k p1) p2)) p3) pos) (tRevA X.K te) := by
  constructor
  intro pins s σ H Q I h
  refine PyProof.Rows.Subscript_ (thn (he.run pins s σ H _ I h) ?_)
  rintro v s1 ⟨x, H1, I1, r1, q1⟩
  have hst : PO X (some (.UnaryOp .USub (.Constant (.int 1) k p1) p2)) (tPart (tUn (rU fun i => .int (-i)) (tC (.int 1)))) := po_some (pe_un un_neg pe_int)
  refine wpAny_Slice (thn (po_none.run pins s1 σ H1 (fun o H2 => o = none ∧ H2 = H1) I1 ⟨rfl, rfl⟩) ?_)
  rintro vl s2 ⟨l, H2, I2, pl, el, e2⟩
  subst el e2
  refine thn (po_none.run pins s2 σ H2 (fun o H3 => o = none ∧ H3 = H2) I2 ⟨rfl, rfl⟩) ?_
  rintro vu s3 ⟨u, H3, I3, pu, eu, e3⟩
  subst eu e3
  refine thn (hst.run pins s3 σ H3 (fun o H4 => o = some (-1) ∧ H4 = H3) I3 ⟨1, rfl, -1, rfl, rfl, rfl⟩) ?_
  rintro vs s4 ⟨o, H4, I4, ps, eo, e4⟩
  subst eo e4
  have I5 : Inv X pins σ H4 { s4 with heap := s4.heap.push { cls := .type "slice", data := .fields #[vl, vu, vs] } } := I4.kept (t' := s4.toks) fun b ob q => Heap.get?_push_of_some _ q
  cases pl
  cases pu
  rcases q1 with ⟨a, xs, rfl, hx, q⟩ | ⟨a, xs, rfl, hx, q⟩
  · cases r1
    obtain ⟨its, r, ht, hz⟩ := I5.list hx
    have hlen := r.length
    show wpAny (model X.prog X.w) X.A (PyProof.Rows.subscriptTail e (.Slice none none (some (.UnaryOp .USub (.Constant (.int 1) k p1) p2)) p3) (.ref a) (.ref s4.heap.objs.size)) (EP X pins σ Q) X.xe _
    refine PyProof.Rows.tail_any (ops := [.ref a, .ref s4.heap.objs.size]) ht.isList.typeIs (PySem.slot_list_getitem.lookup) ?_ (by with_unfolding_all rfl)
    refine wpAny_getItem_list_slice ht.isList (Heap.IsSliceOf.new _ .none .none vs) .none .none ps (by decide) ?_ (by rw [List.size_toArray]; omega)
    rw [PySem.W.krv_pick]
    exact ⟨.ref _, _, I5.laid (t' := s4.toks) (o := .lst xs.reverse) (fun b ob q => Heap.get?_push_of_some _ q) (Nat.le_refl _) ⟨by rw [List.length_reverse]; exact hz, _, 0, r.reverse, Heap.get?_push_size _ rfl⟩, rfl, q _ (I5.hok.fresh (Nat.le_refl _))⟩
  · cases r1
    obtain ⟨its, r, ht, hz⟩ := I5.tuple hx
    have hlen := r.length
    show wpAny (model X.prog X.w) X.A (PyProof.Rows.subscriptTail e (.Slice none none (some (.UnaryOp .USub (.Constant (.int 1) k p1) p2)) p3) (.ref a) (.ref s4.heap.objs.size)) (EP X pins σ Q) X.xe _
    refine PyProof.Rows.tail_any (ops := [.ref a, .ref s4.heap.objs.size]) ht.typeIs (PyProof.Rows.slot_tuple_getitem.lookup) ?_ (by with_unfolding_all rfl)
    refine item_tuple_rev ht (Heap.IsSliceOf.new _ .none .none vs) ps ?_ (by rw [List.size_toArray]; omega)
    exact ⟨.ref _, _, I5.laid (t' := s4.toks) (o := .tup xs.reverse) (fun b ob q => Heap.get?_push_of_some _ q) (Nat.le_refl _) ⟨by rw [List.length_reverse]; exact hz, _, r.reverse, PyProof.Rows.IsTup.new _ _⟩, rfl, q _ (I5.hok.fresh (Nat.le_refl _))⟩
theorem de_rev (ha : DE X W e fa) : DE X W (.Subscript e (.Slice none none (some (.UnaryOp .USub (.Constant (.int 1) k p1) p2)) p3) pos) (e1 dRev fa) := by
  refine pe_weak (pe_revA ha) fun σ H Q h => t_e1 (r := fun x H1 Q => (∃ a xs, x = .ref a ∧ SqL X.K H1 a xs ∧ ∀ p, H1 p = none → Q (.ref p) (upd H1 p (.lst xs.reverse))) ∨ (∃ a xs, x = .ref a ∧ SqT X.K H1 a xs ∧ ∀ p, H1 p = none → Q (.ref p) (upd H1 p (.tup xs.reverse)))) ?_ h
  intro bn H x d v Q hb hx e q
  unfold dRev at e
  split at e
  · cases e
    obtain ⟨a, xs, rfl, h1, r1⟩ := hx
    exact .inl ⟨a, xs, rfl, .of h1, fun p hp => q _ _ (same_upd hp) (fresh_lst hb hp r1.reverse)⟩
  · cases e
    obtain ⟨a, xs, rfl, h1, r1⟩ := relT_tup.mp hx
    exact .inr ⟨a, xs, rfl, h1, fun p hp => q _ _ (same_upd hp) (fresh_tup hp r1.reverse)⟩
  · cases e
end
end Ow
namespace Ow
open PySem L2

/-! ### repr -/
def rRepr (K : PySem.W.Frag) : List V → Hp → VK → Prop := fun xs H Q => (∃ x d, xs = [x] ∧ Dp K H x d ∧ d.showable = true ∧ d.hasDict = false ∧ d.depth ≤ 60 ∧ d.shown.length ≤ sizeLine ∧ Q (.str d.shown) H) ∨ (∃ a, xs = [.ref a] ∧ Rd H a (.dK []) ∧ Q (.str "{}") H)
theorem call_reprA {X : Cx} {k : Nat} (hr : Room k X.A) (hG : X.A.guards = some []) : CallR X (.builtin "repr") (rRepr X.K) := by
  intro pins s σ H xs us Q I r h
  have hu : X.A.units + 64 < cLine := hr.units
  rcases h with ⟨x, d, rfl, hd, hs, hn, hp, hz, q⟩ | ⟨a, rfl, hd, q⟩
  · obtain ⟨u, rfl, ru⟩ := vals1 r
    obtain ⟨as, rd⟩ := Dp.reads I d x u hd ru
    have byRef : ∀ a, u = .ref a → wpAny (model X.prog X.w) X.A (call (.builtin "repr") [u]) (EP X pins σ Q) X.xe s := by
      rintro a rfl
      exact repr_of_reads' rd hs (PyData.noDict_hsm hn) hG (by omega) (fun _ _ e => e) (fun h' t tk hk => ⟨.str d.shown, H, I.kept hk, ⟨t, rfl⟩, q⟩) hz
    cases rd with
    | none => exact P.repr_of_none ⟨.str "None", H, I.tok _, ⟨_, rfl⟩, by simpa only [PyData.shown] using q⟩
    | bool b =>
      refine P.repr_of_bool ⟨.str (if b then "True" else "False"), H, I.tok _, ⟨_, rfl⟩, ?_⟩
      simp only [PyData.shown] at q
      exact q
    | int i t => exact P.repr_of_int (of_decide_eq_true (by simpa only [PyData.showable] using hs)) ⟨.str (toString i), H, I.tok _, ⟨_, rfl⟩, by simpa only [PyData.shown] using q⟩
    | str y t => exact P.repr_of_str ⟨.str (reprText y), H, I.tok _, ⟨_, rfl⟩, by simpa only [PyData.shown] using q⟩ (by simpa only [PyData.shown] using hz)
    | list _ _ _ _ => exact byRef _ rfl
    | tuple _ _ _ _ => exact byRef _ rfl
    | dict _ _ _ _ _ => exact byRef _ rfl
  · obtain ⟨u, rfl, ru⟩ := vals1 r
    cases ru
    obtain ⟨_, hd', vs, rel, o, es, ep, h1, h2, h3, h4, h5, _⟩ := (hd.ok I.hok : ObjOk X.prog X.w H s.heap a (.dK []))
    cases rel
    have e0 : es.toList = [] := by
      cases he : es.toList with
      | nil => rfl
      | cons x l => rw [he] at h5; cases h5
    have rd : Reads s.heap (.ref a) (.dict []) (a :: [] ++ []) := Reads.dict h1 h2.1 h3 (by rw [e0]; exact .nil) (by rw [e0]; exact .nil)
    have hsh : PyData.shown (.dict []) = "{}" := by
      simp only [PyData.shown, PyData.shownKv]
      decide +kernel
    refine repr_of_reads' rd rfl (fun _ z => ?_) hG (Nat.lt_of_le_of_lt (Nat.add_le_add_left (by decide : (PyData.dict []).depth + 1 ≤ 64) _) hu) (fun _ _ e => e) (fun h' t tk hk => ⟨.str "{}", H, I.kept hk, ⟨t, by rw [hsh]⟩, q⟩) (by rw [hsh]; decide +kernel)
    simp at z
    rw [← z] at hd'
    simp at hd'
def dRepr : List D → Option D
  | [.dic []] => some (.str "{}")
  | [x] => match toPy x with
    | some p => if p.showable && !p.hasDict && decide (p.depth ≤ 60) && decide (p.shown.length ≤ sizeLine) then some (.str p.shown) else none
    | none => none
  | _ => none
theorem v_repr {K : PySem.W.Frag} {mg : Str → Option Value} : VOpN K mg (rRepr K) dRepr := by
  intro bn H xs d vs Q hb hx e q
  unfold dRepr at e
  split at e
  · cases e
    obtain ⟨v, rfl, r⟩ := tl1 hx
    obtain ⟨a, ys, rfl, h1, r1⟩ := r
    simp only [RelKs] at r1
    subst r1
    exact .inr ⟨a, rfl, h1, q _ H (.refl H) (by simp only [RelD])⟩
  · split at e
    · rename_i p ep
      split at e
      · rename_i hc
        cases e
        simp only [Bool.and_eq_true, Bool.not_eq_true', decide_eq_true_eq] at hc
        obtain ⟨⟨⟨c1, c2⟩, c3⟩, c4⟩ := hc
        obtain ⟨v, rfl, r⟩ := tl1 hx
        exact .inl ⟨v, p, rfl, toPy_dp ep r, c1, c2, c3, c4, q _ H (.refl H) (by simp only [RelD])⟩
      · cases e
    · cases e
  · cases e
section
variable {X : Cx} {W : WX} {pos p : Pos} {e o : Expr} {es : List Expr} {fo : Ev} {fs : List Ev} {k : Nat}
theorem de_repr (hr : Room k X.A) (hG : X.A.guards = some []) (hm : X.mg "repr" = none) (ha : DA X W (e :: es) fs) (hgl : Gl X "repr" := by rfl) (he : starEach (e :: es) X.env = (false, eval e X.env) :: starEach es X.env := by rfl) (hpl : (backTo pos (starEach es X.env)).any (·.1) = false := by rfl) :
    DE X W (.Call (.Name "repr" p) (e :: es) [] pos) (eN dRepr fs) := de_callB (call_reprA hr hG) (by decide +kernel) v_repr hgl hm ha (by decide) (by decide) he hpl
/-! ### methods of texts -/
def eM0 (g : D → Option D) (fo : Ev) : Ev := e1 g fo
def dUpper : D → Option D
  | .str x => if x.length ≤ 5592405 then some (.str (Txt.upper x)) else none
  | _ => none
theorem de_upper {apos : Pos} (ho : DE X W o fo) (hbase : attributeBase o "upper" X.env (eval o X.env) = eval o X.env := by rfl) (hline : (apos.endLine == pos.line) = true := by rfl) :
    DE X W (.Call (.Attribute o "upper" apos) [] [] pos) (e1 dUpper fo) := by
  refine pe_weak (pe_upper ho hbase hline) fun σ H Q h => t_e1 (r := fun x H Q => (∃ a, x = .str a) ∧ ∃ a, x = .str a ∧ ([] : List V) = [] ∧ a.length ≤ 5592405 ∧ Q (.str (Txt.upper a)) H) ?_ h
  intro bn H x d v Q hb hx e q
  unfold dUpper at e
  split at e
  · split at e
    · rename_i hz
      cases e
      simp only [RelT, RelD] at hx
      subst hx
      exact ⟨⟨_, rfl⟩, _, rfl, rfl, hz, q _ H (.refl H) (by simp only [RelD])⟩
    · cases e
  · cases e
/-! ### list(range(n)) -/
def rgD (a b : Int) : List D := (List.range (b - a).toNat).map fun i => D.int (a + (i : Nat))
def dRg1 : D → Option D
  | .int n => if 0 ≤ n ∧ n ≤ 16777216 then some (.lst (rgD 0 n)) else none
  | _ => none
theorem rg_rel {K : PySem.W.Frag} {mg : Str → Option Value} {bn : Ban} {H : Hp} (a b : Int) : RelDs K mg bn H (rgD a b) (rgV a b) := by
  unfold rgD rgV
  generalize List.range (b - a).toNat = l
  induction l with
  | nil => simp only [List.map_nil, RelDs]
  | cons i l ih => exact .cons (by simp only [RelD]) ih
theorem de_listRg {p1 p2 : Pos} (hc : X.calm = true) (hm : X.mg "list" = none) (hm2 : X.mg "range" = none) (ha : DE X W e fo) (hg : Gl X "list" := by rfl) (hg2 : Gl X "range" := by rfl) (na : starEach [e] X.env = (false, eval e X.env) :: starEach [] X.env := by rfl)
    (nb : starEach [.Call (.Name "range" p1) [e] [] p2] X.env = (false, eval (.Call (.Name "range" p1) [e] [] p2) X.env) :: starEach [] X.env := by rfl) : DE X W (.Call (.Name "list" p) [.Call (.Name "range" p1) [e] [] p2] [] pos) (e1 dRg1 fo) := by
  refine pe_weak (pe_listRg hc hg hm (prg_1 hg2 hm2 ha na) nb) fun σ H Q h => t_e1 (r := fun x H1 Q => ∃ n, x = .int n ∧ RgOk 0 n ∧ ∀ q, H1 q = none → Q (.ref q) (upd H1 q (.lst (rgV 0 n)))) ?_ h
  intro bn H x d v Q hb hx e q
  unfold dRg1 at e
  split at e
  · split at e
    · rename_i hz
      cases e
      simp only [RelT, RelD] at hx
      subst hx
      exact ⟨_, rfl, .of_le (by decide) hz.2 (by decide) hz.1, fun p hp => q _ _ (same_upd hp) (fresh_lst hb hp (rg_rel _ _))⟩
    · cases e
  · cases e
end
end Ow
namespace Ow
open PySem L2

def isL : MO → Bool
  | .lst _ => true
  | _ => false
/-- o.m(..) of a list of the store -/
def eMut (g : MO → List D → Option (MO × D)) (fo : Ev) (fs : List Ev) : Ev := fun ρ M => match fo ρ M with
  | some (.ok (.ref n), M1) => (match M1[n]? with
    | some (.lst _) => (match evs fs ρ M1 with
      | some (.oks xs, M2) => (match vals xs, M2[n]? with
        | some ds, some mo => (match g mo ds with
          | some (mo', d) => some (.ok (.val d), M2.set n mo')
          | none => none)
        | _, _ => none)
      | some (.err c v, M2) => some (.err c v, M2)
      | none => none)
    | _ => none)
  | some (.err c v, M1) => some (.err c v, M1)
  | _ => none
def MOp (K : PySem.W.Frag) (mg : Str → Option Value) (r : V → List V → Hp → VK → Prop) (g : MO → List D → Option (MO × D)) : Prop := ∀ B φ M H (n : Nat) a mo ds vs mo' d Q, Rl K mg B φ M H → φ[n]? = some a → M[n]? = some mo → RelDs K mg (bnd B φ M) H ds vs → g mo ds = some (mo', d) →
  (∀ v H', Ex φ M H φ (M.set n mo') H' → Rl K mg B φ (M.set n mo') H' → RelD K mg (bnd B φ (M.set n mo')) H' d v → Q v H') → r (.ref a) vs H Q
def mAppend : MO → List D → Option (MO × D)
  | .lst xs, [d] => if xs.length < sizeLine then some (.lst (xs ++ [d]), .non) else none
  | _, _ => none
def mExtend : MO → List D → Option (MO × D)
  | .lst xs, [.lst ys] => if xs.length + ys.length ≤ sizeLine then some (.lst (xs ++ ys), .non) else none
  | _, _ => none
def mPop : MO → List D → Option (MO × D)
  | .lst xs, [] => match xs[xs.length - 1]? with
    | some d => some (.lst xs.dropLast, d)
    | none => none
  | _, _ => none
def mPopAt : MO → List D → Option (MO × D)
  | .lst xs, [.int i] => if -(2 ^ 63) ≤ i ∧ i < 2 ^ 63 then (match seqIndex? i xs.length with
    | some k => (match xs[k]? with
      | some d => some (.lst (xs.eraseIdx k), d)
      | none => none)
    | none => none) else none
  | _, _ => none
section
variable {K : PySem.W.Frag} {mg : Str → Option Value}
theorem lst_upd {B : Ban} {φ : List Addr} {M : Mm} {H : Hp} {n : Nat} {a : Addr} {xs ys : List D} {us vs : List V} (R : Rl K mg B φ M H) (ha : φ[n]? = some a) (hm : M[n]? = some (.lst xs)) (hH : H a = some (.lst us)) (r : RelDs K mg (bnd B φ M) H ys vs) :
    Rl K mg B φ (M.set n (.lst ys)) (upd H a (.lst vs)) ∧ Ex φ M H φ (M.set n (.lst ys)) (upd H a (.lst vs)) ∧ Kp (bnd B φ M) H (upd H a (.lst vs)) ∧ bnd B φ (M.set n (.lst ys)) = bnd B φ M := by
  have lv : live φ M a := ⟨n, _, ha, hm, fun z => nomatch z⟩
  have kp : Kp (bnd B φ M) H (upd H a (.lst vs)) := .of (fun b u h z => by rw [upd_ne fun e => z (by rw [e]; exact .inr lv)]; exact h) fun b xs z => R.bnd_notup z xs
  obtain ⟨R2, E2⟩ := R.put (mo' := .lst ys) (o := .lst vs) ha hm (fun z => nomatch z) (fun z => nomatch z) (fun fs z => by rw [hH] at z; cases z) fun k => ⟨vs, upd_same, r.mono k fun a z => .inl z⟩
  exact ⟨R2, E2, kp, bnd_set hm (fun z => nomatch z) (fun z => nomatch z)⟩
theorem m_append : MOp K mg rAppend mAppend := by
  intro B φ M H n a mo ds vs mo' d Q R ha hm r e q
  unfold mAppend at e
  split at e
  · split at e
    · rename_i xs y hz
      cases e
      obtain ⟨us, hH, ru⟩ := R.obj n _ a hm ha
      simp only [RelDs] at r
      obtain ⟨v, _, rfl, rv, rfl⟩ := r
      obtain ⟨R2, E2, _, _⟩ := lst_upd R ha hm hH (ru.append (.one rv))
      exact ⟨a, us, v, rfl, rfl, hH, by rw [← ru.len]; exact hz, q _ _ E2 R2 (by simp only [RelD])⟩
    · cases e
  · cases e
theorem m_extend : MOp K mg rExtend mExtend := by
  intro B φ M H n a mo ds vs mo' d Q R ha hm r e q
  unfold mExtend at e
  split at e
  · split at e
    · rename_i xs ys hz
      cases e
      obtain ⟨us, hH, ru⟩ := R.obj n _ a hm ha
      simp only [RelDs] at r
      obtain ⟨v, _, rfl, rv, rfl⟩ := r
      simp only [RelD] at rv
      obtain ⟨b, ws, rfl, nb, hb, rw'⟩ := rv
      obtain ⟨R2, E2, _, _⟩ := lst_upd R ha hm hH (ru.append rw')
      exact ⟨a, b, us, ws, rfl, rfl, hH, hb, by rw [← ru.len, ← rw'.len]; exact hz, q _ _ E2 R2 (by simp only [RelD])⟩
    · cases e
  · cases e
theorem dropLast_rel {bn : Ban} {H : Hp} {xs : List D} {us : List V} (r : RelDs K mg bn H xs us) : RelDs K mg bn H xs.dropLast us.dropLast := by
  rw [List.dropLast_eq_take, List.dropLast_eq_take, ← r.len]
  exact r.take _
theorem m_pop : MOp K mg rPop mPop := by
  intro B φ M H n a mo ds vs mo' d Q R ha hm r e q
  unfold mPop at e
  split at e
  · split at e
    · rename_i xs y hy
      cases e
      obtain ⟨us, hH, ru⟩ := R.obj n _ a hm ha
      simp only [RelDs] at r
      subst r
      obtain ⟨v, ev, rv⟩ := ru.get hy
      obtain ⟨R2, E2, kp, eb⟩ := lst_upd R ha hm hH (dropLast_rel ru)
      exact ⟨a, us, v, rfl, rfl, hH, by rw [← ru.len]; exact ev, q _ _ E2 R2 (by rw [eb]; exact rv.mono kp fun a z => .inl z)⟩
    · cases e
  · cases e
theorem erase_rel {bn : Ban} {H : Hp} {xs : List D} {us : List V} (k : Nat) (r : RelDs K mg bn H xs us) : RelDs K mg bn H (xs.eraseIdx k) (us.eraseIdx k) := by
  rw [List.eraseIdx_eq_take_drop_succ, List.eraseIdx_eq_take_drop_succ]
  exact (r.take _).append (r.drop _)
theorem m_popAt : MOp K mg rPopAt mPopAt := by
  intro B φ M H n a mo ds vs mo' d Q R ha hm r e q
  unfold mPopAt at e
  split at e
  · split at e
    · rename_i hz
      split at e
      · rename_i k hk
        split at e
        · rename_i y hy
          cases e
          obtain ⟨us, hH, ru⟩ := R.obj n _ a hm ha
          simp only [RelDs] at r
          obtain ⟨v, _, rfl, rv, rfl⟩ := r
          simp only [RelD] at rv
          subst rv
          obtain ⟨v, ev, rv⟩ := ru.get hy
          obtain ⟨R2, E2, kp, eb⟩ := lst_upd R ha hm hH (erase_rel k ru)
          exact ⟨a, us, _, k, v, rfl, rfl, hH, hz.1, hz.2, by rw [← ru.len]; exact hk, ev, q _ _ E2 R2 (by rw [eb]; exact rv.mono kp fun a z => .inl z)⟩
        · cases e
      · cases e
    · cases e
  · cases e
end
section
variable {X : Cx} {W : WX} {pos apos : Pos} {o e : Expr} {es : List Expr} {fo : Ev} {fs : List Ev} {name : Str} {id : String}
theorem t_eMut {r : V → List V → Hp → VK → Prop} {g : MO → List D → Option (MO × D)} (hg : MOp X.K X.mg r g) {σ : St} {H : Hp} {Q : VK} (h : tD X.K X.mg W (eMut g fo fs) σ H Q) : tBM X.K "list" r (tD X.K X.mg W fo) (tDA X.K X.mg W fs) σ H Q := by
  obtain ⟨B, φ, ρ, M, r', M', R, S, e, q⟩ := h
  unfold eMut at e
  split at e
  · rename_i n M1 ea
    split at e
    · rename_i ys em
      refine ⟨B, φ, ρ, M, _, _, R, S, ea, fun v H1 φ1 E1 R1 D1 => ?_⟩
      obtain ⟨a, ha, rfl⟩ := D1
      obtain ⟨us, hH, ru⟩ := R1.obj n _ a em ha
      refine ⟨.inl ⟨rfl, us, .of hH⟩, ?_⟩
      split at e
      · rename_i xs M2 eb
        split at e
        · rename_i ds mo ev em2
          split at e
          · rename_i mo' d eg
            cases e
            refine ⟨B, φ1, ρ, M1, _, _, R1, S.ex R R1 E1, eb, fun vs H2 φ2 E2 R2 D2 => ?_⟩
            obtain ⟨new, rfl⟩ := E2.pre
            have ha2 : (φ1 ++ new)[n]? = some a := by rw [List.getElem?_append_left (List.getElem?_eq_some_iff.mp ha).1]; exact ha
            exact hg B _ M2 H2 n a mo ds vs mo' d Q R2 ha2 em2 (vals_rel ev D2) eg fun v H' E3 R3 D3 => q v H' _ ((E1.trans R R1 E2).trans R R2 E3) R3 D3
          · cases e
        · cases e
      · rename_i c v M2 eb
        cases e
        exact ⟨B, φ1, ρ, M1, _, _, R1, S.ex R R1 E1, eb, fun C dx v H2 φ2 gC E2 R2 hd nb rd => q C dx v H2 φ2 gC (E1.trans R R1 E2) R2 hd nb rd⟩
      · cases e
    · cases e
  · rename_i c v M1 ea
    cases e
    exact ⟨B, φ, ρ, M, _, _, R, S, ea, q⟩
  · cases e
theorem t_eMut0 {r : V → List V → Hp → VK → Prop} {g : MO → List D → Option (MO × D)} (hg : MOp X.K X.mg r g) {σ : St} {H : Hp} {Q : VK} (h : tD X.K X.mg W (eMut g fo []) σ H Q) : tBM0 X.K "list" r (tD X.K X.mg W fo) σ H Q := by
  obtain ⟨B, φ, ρ, M, r', M', R, S, e, q⟩ := h
  unfold eMut at e
  split at e
  · rename_i n M1 ea
    split at e
    · rename_i ys em
      refine ⟨B, φ, ρ, M, _, _, R, S, ea, fun v H1 φ1 E1 R1 D1 => ?_⟩
      obtain ⟨a, ha, rfl⟩ := D1
      obtain ⟨us, hH, ru⟩ := R1.obj n _ a em ha
      refine ⟨.inl ⟨rfl, us, .of hH⟩, ?_⟩
      simp only [evs, vals, em] at e
      split at e
      · rename_i mo' d eg
        cases e
        exact hg B _ M1 H1 n a _ [] [] mo' d Q R1 ha em (by simp only [RelDs]) eg fun v H' E3 R3 D3 => q v H' _ (E1.trans R R1 E3) R3 D3
      · cases e
    · cases e
  · rename_i c v M1 ea
    cases e
    exact ⟨B, φ, ρ, M, _, _, R, S, ea, q⟩
  · cases e
theorem de_append (ho : DE X W o fo) (ha : DA X W [e] fs) (hbase : attributeBase o "append" X.env (eval o X.env) = eval o X.env := by rfl)
    (hfew : ((backTo pos (starEach [e] X.env)).all (fun x => !x.1) && (backToKw pos (keywordEach [] X.env)).all (fun x => x.1.isSome) && decide ([e].length + ([] : List Keyword).length + (if ([] : List Keyword).isEmpty then 0 else 1) < 30)) = true := by rfl)
    (hline : (apos.endLine == pos.line) = true := by rfl) (hs : starEach [e] X.env = (false, eval e X.env) :: starEach [] X.env := by rfl) :
    DE X W (.Call (.Attribute o "append" apos) [e] [] pos) (eMut mAppend fo fs) :=
  pe_weak (pe_bm PySem.F.plainAttrs_list PySem.F.slot_list_append PySem.F.type_list_append mt_append ho ha hbase hfew hline hs) fun _ _ _ h => t_eMut m_append h
theorem de_extend (ho : DE X W o fo) (ha : DA X W [e] fs) (hbase : attributeBase o "extend" X.env (eval o X.env) = eval o X.env := by rfl)
    (hfew : ((backTo pos (starEach [e] X.env)).all (fun x => !x.1) && (backToKw pos (keywordEach [] X.env)).all (fun x => x.1.isSome) && decide ([e].length + ([] : List Keyword).length + (if ([] : List Keyword).isEmpty then 0 else 1) < 30)) = true := by rfl)
    (hline : (apos.endLine == pos.line) = true := by rfl) (hs : starEach [e] X.env = (false, eval e X.env) :: starEach [] X.env := by rfl) :
    DE X W (.Call (.Attribute o "extend" apos) [e] [] pos) (eMut mExtend fo fs) :=
  pe_weak (pe_bm PySem.F.plainAttrs_list PySem.F.slot_list_extend PySem.F.type_list_extend mt_extend ho ha hbase hfew hline hs) fun _ _ _ h => t_eMut m_extend h
theorem de_popAt (ho : DE X W o fo) (ha : DA X W [e] fs) (hbase : attributeBase o "pop" X.env (eval o X.env) = eval o X.env := by rfl)
    (hfew : ((backTo pos (starEach [e] X.env)).all (fun x => !x.1) && (backToKw pos (keywordEach [] X.env)).all (fun x => x.1.isSome) && decide ([e].length + ([] : List Keyword).length + (if ([] : List Keyword).isEmpty then 0 else 1) < 30)) = true := by rfl)
    (hline : (apos.endLine == pos.line) = true := by rfl) (hs : starEach [e] X.env = (false, eval e X.env) :: starEach [] X.env := by rfl) :
    DE X W (.Call (.Attribute o "pop" apos) [e] [] pos) (eMut mPopAt fo fs) :=
  pe_weak (pe_bm PySem.F.plainAttrs_list PySem.F.slot_list_pop PySem.F.type_list_pop mt_popAt ho ha hbase hfew hline hs) fun _ _ _ h => t_eMut m_popAt h
theorem de_pop (ho : DE X W o fo) (hbase : attributeBase o "pop" X.env (eval o X.env) = eval o X.env := by rfl) (hline : (apos.endLine == pos.line) = true := by rfl) :
    DE X W (.Call (.Attribute o "pop" apos) [] [] pos) (eMut mPop fo []) :=
  pe_weak (pe_bm0 PySem.F.plainAttrs_list PySem.F.slot_list_pop PySem.F.type_list_pop mt_pop ho hbase hline) fun _ _ _ h => t_eMut0 m_pop h
/-! ### o[i] = v, o a list of the store -/
def sPutL (fv fo fi : Ev) : Sv := fun ρ M => match fv ρ M with
  | some (.ok (.val d), M1) => (match fo ρ M1 with
    | some (.ok (.ref n), M2) => (match fi ρ M2 with
      | some (.ok (.val (.int i)), M3) => (match M3[n]? with
        | some (.lst xs) => (match ixN xs.length i with
          | some j => some (.nx, ρ, M3.set n (.lst (xs.set j d)))
          | none => none)
        | _ => none)
      | _ => none)
    | _ => none)
  | some (.err c v, M1) => some (.err c v, ρ, M1)
  | _ => none
theorem ds_putL {i value : Expr} {fv fi : Ev} {tpos : Pos} (hv : DE X W value fv) (ho : DE X W o fo) (hi : DE X W i fi) (ha : ∀ v, assign (.Subscript o i tpos) X.env v = (do
      let ov ← holding [v] (eval o X.env)
      let iv ← holding [v, ov] (eval i X.env)
      standAt tpos
      holding [v, ov, iv] (setItem ov iv v)
      release [v, ov, iv] []) := by intro _; rfl)
    (hs : swapsWithSole [.Subscript o i tpos] value pos.line X.env = pure false := by rfl) (hw : swappedStores [.Subscript o i tpos] value X.env = pure none := by rfl) : DS X W (.Assign [.Subscript o i tpos] value pos) (sPutL fv fo fi) := by
  refine ps_weak (ps_asg hv (pg_sub ho hi set_list ha) hs hw) fun N σ H hh => ?_
  obtain ⟨B, φ, ρ, M, fl, ρ', M', R, S, e, q⟩ := hh
  unfold sPutL at e
  split at e
  · rename_i d M1 ea
    split at e
    · rename_i n M2 eb
      split at e
      · rename_i ix M3 ec
        split at e
        · rename_i xs em
          split at e
          · rename_i j ej
            cases e
            refine ⟨B, φ, ρ, M, _, _, R, S, ea, fun v H1 φ1 E1 R1 D1 => ?_⟩
            refine ⟨B, φ1, ρ, M1, _, _, R1, S.ex R R1 E1, eb, fun u H2 φ2 E2 R2 D2 => ?_⟩
            obtain ⟨a, ha, rfl⟩ := D2
            refine ⟨B, φ2, ρ, M2, _, _, R2, (S.ex R R1 E1).ex R1 R2 E2, ec, fun w H3 φ3 E3 R3 D3 => ?_⟩
            simp only [RelA, RelD] at D3
            subst D3
            obtain ⟨new, rfl⟩ := E3.pre
            have ha3 : (φ2 ++ new)[n]? = some a := by rw [List.getElem?_append_left (List.getElem?_eq_some_iff.mp ha).1]; exact ha
            obtain ⟨us, hH, ru⟩ := R3.obj n _ a em ha3
            have rd : RelD X.K X.mg (bnd B (φ2 ++ new) M3) H3 d v := (RelA.ex R2 R3 E3 (RelA.ex R1 R2 E2 D1))
            obtain ⟨R4, E4, _, _⟩ := lst_upd R3 ha3 em hH (ru.set rd j)
            have E13 := ((E1.trans R R1 E2).trans R R2 E3)
            refine ⟨a, us, ix, j, rfl, rfl, hH, by rw [← ru.len]; exact ej, q _ _ _ (E13.trans R R3 E4) R4 ((((S.ex R R1 E1).ex R1 R2 E2).ex R2 R3 E3).ex R3 R4 E4)⟩
          · cases e
        · cases e
      · cases e
    · cases e
  · rename_i c v M1 ea
    cases e
    exact ⟨B, φ, _, M, _, _, R, S, ea, fun C dx v H1 φ1 gC E1 R1 hd nb rd => q C dx v σ H1 φ1 gC E1 R1 (S.ex R R1 E1) hd nb rd⟩
  · cases e
end
end Ow
namespace Ow
open PySem L2

/-! ### what a for walks -/
def eiL (f : Ev) : Ei := fun ρ M => match f ρ M with
  | some (.ok (.val (.lst ds)), M1) => some (.its ds, M1)
  | some (.err c v, M1) => some (.err c v, M1)
  | _ => none
def eiT (f : Ev) : Ei := fun ρ M => match f ρ M with
  | some (.ok (.val (.tup ds)), M1) => some (.its ds, M1)
  | some (.err c v, M1) => some (.err c v, M1)
  | _ => none
def enumD : Nat → List D → List D
  | _, [] => []
  | n, d :: ds => .tup [.int n, d] :: enumD (n + 1) ds
def eiE (f : Ev) : Ei := fun ρ M => match f ρ M with
  | some (.ok (.val (.lst ds)), M1) => some (.its (enumD 0 ds), M1)
  | some (.err c v, M1) => some (.err c v, M1)
  | _ => none
def zipD : List D → List D → List D
  | x :: xs, y :: ys => .tup [x, y] :: zipD xs ys
  | _, _ => []
def eiZ (f g : Ev) : Ei := fun ρ M => match f ρ M with
  | some (.ok (.val (.lst xs)), M1) => (match g ρ M1 with
    | some (.ok (.val (.lst ys)), M2) => some (.its (zipD xs ys), M2)
    | some (.err c v, M2) => some (.err c v, M2)
    | _ => none)
  | some (.err c v, M1) => some (.err c v, M1)
  | _ => none
def eiR1 (f : Ev) : Ei := fun ρ M => match f ρ M with
  | some (.ok (.val (.int n)), M1) => if -(2 ^ 62) ≤ n ∧ n < 2 ^ 62 then some (.its (rgD 0 n), M1) else none
  | some (.err c v, M1) => some (.err c v, M1)
  | _ => none
theorem enumD_get : ∀ {ds : List D} {n i : Nat}, (enumD n ds)[i]? = ds[i]?.map fun d => .tup [.int ((n + i : Nat) : Int), d]
  | [], _, _ => rfl
  | d :: ds, n, 0 => rfl
  | d :: ds, n, i + 1 => by
    simp only [enumD, List.getElem?_cons_succ]
    rw [enumD_get]
    congr 2
    funext d
    rw [show n + 1 + i = n + (i + 1) by omega]
theorem enumD_len : ∀ {ds : List D} {n : Nat}, (enumD n ds).length = ds.length
  | [], _ => rfl
  | d :: ds, n => by simp only [enumD, List.length_cons, enumD_len]
theorem zipD_len : ∀ {xs ys : List D}, (zipD xs ys).length = min xs.length ys.length
  | [], _ => by simp [zipD]
  | _ :: _, [] => by simp [zipD]
  | x :: xs, y :: ys => by simp only [zipD, List.length_cons, zipD_len]; omega
theorem zipD_get : ∀ {xs ys : List D} {i : Nat} {d : D}, (zipD xs ys)[i]? = some d → ∃ x y, xs[i]? = some x ∧ ys[i]? = some y ∧ d = .tup [x, y]
  | [], _, _, _, e => by simp [zipD] at e
  | _ :: _, [], _, _, e => by simp [zipD] at e
  | x :: xs, y :: ys, 0, d, e => by simp [zipD] at e; exact ⟨x, y, rfl, rfl, e.symm⟩
  | x :: xs, y :: ys, i + 1, d, e => by
    simp only [zipD, List.getElem?_cons_succ] at e ⊢
    exact zipD_get e
section
variable {K : PySem.W.Frag} {mg : Str → Option Value} {bn : Ban} {H : Hp} {a b : Addr}
theorem lst_at {ds : List D} (r : RelD K mg bn H (.lst ds) (.ref a)) : ∃ xs, H a = some (.lst xs) ∧ RelDs K mg bn H ds xs := by
  simp only [RelD] at r
  obtain ⟨a', xs, e, _, h, rs⟩ := r
  cases e
  exact ⟨xs, h, rs⟩
theorem same_bn : ∀ a, bn a → bn a ∨ H a = none := fun _ z => .inl z
theorem wk_list {ds : List D} (r : RelD K mg bn H (.lst ds) (.ref a)) : Wk K mg bn H (Itl K a) ds where
  go := fun i H2 k hi => by
    obtain ⟨xs, h, rs⟩ := lst_at (r.mono k same_bn)
    obtain ⟨x, ex, _⟩ := rs.get (List.getElem?_eq_getElem hi)
    exact ⟨xs, x, .of h, ex⟩
  stop := fun i H2 k hi => by
    obtain ⟨xs, h, rs⟩ := lst_at (r.mono k same_bn)
    exact ⟨xs, .of h, by rw [← rs.len]; exact hi⟩
  yld := fun i d bn2 H2 x H3 k hb hd y => by
    obtain ⟨xs, h, rs⟩ := lst_at (r.mono k hb)
    obtain ⟨e, y⟩ := y
    subst e
    obtain ⟨v, ev, rv⟩ := rs.get hd
    have := y xs (.of h)
    rw [ev] at this; cases this
    exact ⟨.refl _, rv⟩
theorem tup_at {ds : List D} (r : RelD K mg bn H (.tup ds) (.ref a)) : ∃ xs, SqT K H a xs ∧ RelDs K mg bn H ds xs := by
  simp only [RelD] at r
  obtain ⟨a', xs, e, h, rs⟩ := r
  cases e
  exact ⟨xs, h, rs⟩
theorem wk_tup {ds : List D} (r : RelD K mg bn H (.tup ds) (.ref a)) : Wk K mg bn H (Itt K a) ds where
  go := fun i H2 k hi => by
    obtain ⟨xs, h, rs⟩ := tup_at (r.mono k same_bn)
    obtain ⟨x, ex, _⟩ := rs.get (List.getElem?_eq_getElem hi)
    exact ⟨xs, x, h, ex⟩
  stop := fun i H2 k hi => by
    obtain ⟨xs, h, rs⟩ := tup_at (r.mono k same_bn)
    exact ⟨xs, h, by rw [← rs.len]; exact hi⟩
  yld := fun i d bn2 H2 x H3 k hb hd y => by
    obtain ⟨xs, h, rs⟩ := tup_at (r.mono k hb)
    obtain ⟨e, y⟩ := y
    subst e
    obtain ⟨v, ev, rv⟩ := rs.get hd
    have := y xs h
    rw [ev] at this; cases this
    exact ⟨.refl _, rv⟩
theorem wk_enum {ds : List D} (r : RelD K mg bn H (.lst ds) (.ref a)) : Wk K mg bn H (Ite K a) (enumD 0 ds) where
  go := fun i H2 k hi => by
    rw [enumD_len] at hi
    obtain ⟨xs, h, rs⟩ := lst_at (r.mono k same_bn)
    obtain ⟨x, ex, _⟩ := rs.get (List.getElem?_eq_getElem hi)
    exact ⟨xs, x, .of h, ex⟩
  stop := fun i H2 k hi => by
    rw [enumD_len] at hi
    obtain ⟨xs, h, rs⟩ := lst_at (r.mono k same_bn)
    exact ⟨xs, .of h, by rw [← rs.len]; exact hi⟩
  yld := fun i d bn2 H2 x H3 k hb hd y => by
    obtain ⟨xs, h, rs⟩ := lst_at (r.mono k hb)
    obtain ⟨T, z, rfl, hT, rfl, y⟩ := y
    rw [enumD_get, Option.map_eq_some_iff] at hd
    obtain ⟨d', hd', rfl⟩ := hd
    obtain ⟨v, ev, rv⟩ := rs.get hd'
    have := y xs (.of h)
    rw [ev] at this; cases this
    refine ⟨same_upd hT, fresh_tup hT (.cons (by simp only [RelD]; rw [Nat.zero_add]) (.one rv))⟩
theorem wk_zip {xs ys : List D} (r : RelD K mg bn H (.lst xs) (.ref a)) (r' : RelD K mg bn H (.lst ys) (.ref b)) : Wk K mg bn H (Itz K a b) (zipD xs ys) where
  go := fun i H2 k hi => by
    rw [zipD_len] at hi
    obtain ⟨us, h, rs⟩ := lst_at (r.mono k same_bn)
    obtain ⟨vs, h', rs'⟩ := lst_at (r'.mono k same_bn)
    obtain ⟨x, ex, _⟩ := rs.get (List.getElem?_eq_getElem (show i < xs.length by omega))
    obtain ⟨y, ey, _⟩ := rs'.get (List.getElem?_eq_getElem (show i < ys.length by omega))
    exact ⟨us, vs, x, y, .of h, .of h', ex, ey⟩
  stop := fun i H2 k hi => by
    rw [zipD_len] at hi
    obtain ⟨us, h, rs⟩ := lst_at (r.mono k same_bn)
    obtain ⟨vs, h', rs'⟩ := lst_at (r'.mono k same_bn)
    refine ⟨us, vs, .of h, .of h', ?_⟩
    rw [← rs.len, ← rs'.len]
    omega
  yld := fun i d bn2 H2 x H3 k hb hd y => by
    obtain ⟨us, h, rs⟩ := lst_at (r.mono k hb)
    obtain ⟨vs, h', rs'⟩ := lst_at (r'.mono k hb)
    obtain ⟨T, z, z', rfl, hT, rfl, y, y'⟩ := y
    obtain ⟨d1, d2, h1, h2, rfl⟩ := zipD_get hd
    obtain ⟨v, ev, rv⟩ := rs.get h1
    obtain ⟨v', ev', rv'⟩ := rs'.get h2
    have := y us (.of h)
    rw [ev] at this; cases this
    have := y' vs (.of h')
    rw [ev'] at this; cases this
    exact ⟨same_upd hT, fresh_tup hT (.cons rv (.one rv'))⟩
theorem wk_range {n : Int} : Wk K mg bn H (Itr 0 n.toNat) (rgD 0 n) where
  go := fun i H2 k hi => by
    unfold rgD at hi
    simp at hi
    show i < n.toNat
    omega
  stop := fun i H2 k hi => by
    unfold rgD at hi
    simp at hi
    show n.toNat ≤ i
    omega
  yld := fun i d bn2 H2 x H3 k hb hd y => by
    obtain ⟨e, y⟩ := y
    subst e y
    unfold rgD at hd
    rw [List.getElem?_map] at hd
    cases q : (List.range (n - 0).toNat)[i]? with
    | none => rw [q] at hd; cases hd
    | some j =>
      rw [q] at hd
      cases hd
      have hj := List.getElem?_eq_some_iff.mp q
      obtain ⟨h1, h2⟩ := hj
      simp at h2
      subst h2
      exact ⟨.refl _, by simp only [RelD]⟩
end
section
variable {X : Cx} {W : WX} {pos p tpos : Pos} {e e2 tg : Expr} {elts : List Expr} {kk : Nat} {f g : Ev}
theorem di_list (ha : DE X W e f) : DI X W tg e (eiL f) := by
  refine pi_weak (pi_list ha) fun σ H Q h => ?_
  obtain ⟨B, φ, ρ, M, r', M', R, S, e, q⟩ := h
  unfold eiL at e
  split at e
  · rename_i ds M1 ea
    cases e
    refine ⟨B, φ, ρ, M, _, _, R, S, ea, fun v H1 φ1 E1 R1 D1 => ?_⟩
    have D1' : RelD X.K X.mg (bnd B φ1 M') H1 (.lst ds) v := D1
    simp only [RelA, RelD] at D1
    obtain ⟨a, xs, rfl, nb, h1, r1⟩ := D1
    exact ⟨a, rfl, ⟨xs, .of h1⟩, q _ H1 φ1 E1 R1 (wk_list D1')⟩
  · rename_i c v M1 ea
    cases e
    exact ⟨B, φ, ρ, M, _, _, R, S, ea, q⟩
  · cases e
theorem di_tup (ha : DE X W e f) : DI X W tg e (eiT f) := by
  refine pi_weak (pi_tup ha) fun σ H Q h => ?_
  obtain ⟨B, φ, ρ, M, r', M', R, S, e, q⟩ := h
  unfold eiT at e
  split at e
  · rename_i ds M1 ea
    cases e
    refine ⟨B, φ, ρ, M, _, _, R, S, ea, fun v H1 φ1 E1 R1 D1 => ?_⟩
    have D1' : RelD X.K X.mg (bnd B φ1 M') H1 (.tup ds) v := D1
    simp only [RelA, RelD] at D1
    obtain ⟨a, xs, rfl, h1, r1⟩ := D1
    exact ⟨a, rfl, ⟨xs, h1⟩, q _ H1 φ1 E1 R1 (wk_tup D1')⟩
  · rename_i c v M1 ea
    cases e
    exact ⟨B, φ, ρ, M, _, _, R, S, ea, q⟩
  · cases e
theorem t_one {f : Ev} {k : V → Hp → Prop} {σ : St} {H : Hp} (h : tD X.K X.mg W f σ H fun v H1 => k v H1) : tDA X.K X.mg W [f] σ H fun vs H1 => ∃ v, vs = [v] ∧ k v H1 := by
  obtain ⟨B, φ, ρ, M, r', M', R, S, e, q⟩ := h
  cases r' with
  | ok x =>
    refine ⟨B, φ, ρ, M, .oks [x], M', R, S, by unfold evs; rw [e]; rfl, fun vs H1 φ1 E1 R1 D1 => ?_⟩
    simp only [RelAs] at D1
    obtain ⟨u, _, rfl, r, rfl⟩ := D1
    exact ⟨u, rfl, q u H1 φ1 E1 R1 r⟩
  | err c v => exact ⟨B, φ, ρ, M, .err c v, M', R, S, by unfold evs; rw [e], q⟩
theorem di_enum (hm : X.mg "enumerate" = none) (ha : DE X W e f) (hg : Gl X "enumerate" := by rfl) (hs : starEach [e] X.env = [(false, eval e X.env)] := by rfl) (hs' : starEach [e] X.env = (false, eval e X.env) :: starEach [] X.env := by rfl) :
    DI X W (.Tuple elts kk tpos) (.Call (.Name "enumerate" p) [e] [] pos) (eiE f) := by
  refine pi_weak (pi_enum hg hm (da_cons ha da_nil hs') hs) fun σ H Q h => ?_
  have h2 : tD X.K X.mg W f σ H fun v H1 => ∃ a xs, v = .ref a ∧ SqL X.K H1 a xs ∧ Q (Ite X.K a) H1 := by
    obtain ⟨B, φ, ρ, M, r', M', R, S, e, q⟩ := h
    unfold eiE at e
    split at e
    · rename_i ds M1 ea
      cases e
      refine ⟨B, φ, ρ, M, _, _, R, S, ea, fun v H1 φ1 E1 R1 D1 => ?_⟩
      have D1' : RelD X.K X.mg (bnd B φ1 M') H1 (.lst ds) v := D1
      simp only [RelA, RelD] at D1
      obtain ⟨a, xs, rfl, nb, h1, r1⟩ := D1
      exact ⟨a, xs, rfl, .of h1, q _ H1 φ1 E1 R1 (wk_enum D1')⟩
    · rename_i c v M1 ea
      cases e
      exact ⟨B, φ, ρ, M, _, _, R, S, ea, q⟩
    · cases e
  obtain ⟨B, φ, ρ, M, r, M', R, S, e, q⟩ := t_one h2
  refine ⟨B, φ, ρ, M, r, M', R, S, e, ?_⟩
  cases r with
  | oks xs => exact fun vs H1 φ1 E1 R1 D1 => let ⟨v, ev, a, ys, ex, hs, hq⟩ := q vs H1 φ1 E1 R1 D1; ⟨a, ys, by rw [ev, ex], hs, hq⟩
  | err c v => exact q
theorem di_range1 (hm : X.mg "range" = none) (ha : DE X W e f) (hg : Gl X "range" := by rfl) (hs : starEach [e] X.env = [(false, eval e X.env)] := by rfl) (hs' : starEach [e] X.env = (false, eval e X.env) :: starEach [] X.env := by rfl) :
    DI X W tg (.Call (.Name "range" p) [e] [] pos) (eiR1 f) := by
  refine pi_weak (pi_range1 hg hm (da_cons ha da_nil hs') hs) fun σ H Q h => ?_
  have h2 : tD X.K X.mg W f σ H fun v H1 => ∃ j : Int, v = .int j ∧ -(2 ^ 62) ≤ j ∧ j < 2 ^ 62 ∧ Q (Itr 0 j.toNat) H1 := by
    obtain ⟨B, φ, ρ, M, r', M', R, S, e, q⟩ := h
    unfold eiR1 at e
    split at e
    · rename_i n M1 ea
      split at e
      · rename_i hz
        cases e
        refine ⟨B, φ, ρ, M, _, _, R, S, ea, fun v H1 φ1 E1 R1 D1 => ?_⟩
        simp only [RelA, RelD] at D1
        exact ⟨n, D1, hz.1, hz.2, q _ H1 φ1 E1 R1 wk_range⟩
      · cases e
    · rename_i c v M1 ea
      cases e
      exact ⟨B, φ, ρ, M, _, _, R, S, ea, q⟩
    · cases e
  obtain ⟨B, φ, ρ, M, r, M', R, S, e, q⟩ := t_one h2
  refine ⟨B, φ, ρ, M, r, M', R, S, e, ?_⟩
  cases r with
  | oks xs => exact fun vs H1 φ1 E1 R1 D1 => let ⟨v, ev, j, ex, b1, b2, hq⟩ := q vs H1 φ1 E1 R1 D1; ⟨j, by rw [ev, ex], b1, b2, hq⟩
  | err c v => exact q
theorem dgs_nil : DGs X [] [] := ⟨fun pins s σ H vs us Q I r q => pgs_nil.run pins s σ H vs us Q I r (by
  obtain ⟨B, φ, ρ, M, ds, ρ', R, S, rd, e, q⟩ := q
  cases ds with
  | nil => simp only [RelDs] at rd; cases e; exact ⟨rd, q _ S⟩
  | cons _ _ => cases e)⟩
end
end Ow
namespace Ow
open PySem L2

/-! ### targets that are tuples; a, b = e -/
section
variable {X : Cx} {W : WX} {pos : Pos} {e tg : Expr} {es : List Expr} {g : Tg} {gs : List Tg} {fa : Ev}
theorem pgs_weak {ts : List Expr} {t t' : TGs} (h : PGs X ts t) (w : ∀ v σ H Q, t' v σ H Q → t v σ H Q) : PGs X ts t' := ⟨fun pins s σ H v u Q I r q => h.run pins s σ H v u Q I r (w _ _ _ _ q)⟩
theorem dgs_cons (h1 : DG X e g) (h2 : DGs X es gs) (ha : (assignEach (e :: es) X.env).map (·.2) = assign e X.env :: (assignEach es X.env).map (·.2) := by rfl) : DGs X (e :: es) (g :: gs) := by
  refine pgs_weak (pgs_cons h1 h2 ha) fun vs σ H Q h => ?_
  obtain ⟨B, φ, ρ, M, ds, ρ', R, S, rd, e, q⟩ := h
  cases ds with
  | nil => cases e
  | cons d ds =>
    simp only [RelDs] at rd
    obtain ⟨v, us, rfl, r, rs⟩ := rd
    simp only [gAll] at e
    split at e
    · rename_i ρ1 e1
      exact ⟨v, us, rfl, B, φ, ρ, M, d, ρ1, R, S, r, e1, fun σ1 S1 => ⟨B, φ, ρ1, M, ds, ρ', R, S1, rs, e, q⟩⟩
    · cases e
theorem gAll_len : ∀ {gs : List Tg} {ds : List D} {ρ ρ' : Sl}, gAll gs ds ρ = some ρ' → ds.length = gs.length
  | [], [], _, _, _ => rfl
  | [], _ :: _, _, _, e => by cases e
  | _ :: _, [], _, _, e => by cases e
  | g :: gs, d :: ds, ρ, ρ', e => by
    simp only [gAll] at e
    split at e
    · rw [List.length_cons, List.length_cons, gAll_len e]
    · cases e
theorem dg_t {kk : Nat} (hc : X.calm = true) (h : DGs X es gs) (hl : gs.length = es.length := by rfl) (hn : (assignEach es X.env).length = es.length := by rfl) (hst : (assignEach es X.env).findIdx? (·.1) = none := by rfl) : DG X (.Tuple es kk pos) (gT gs) := by
  refine pg_weak (pg_tup (n := es.length) hc h hn hst) fun v σ H Q hh => ?_
  obtain ⟨B, φ, ρ, M, d, ρ', R, S, r, e, q⟩ := hh
  unfold gT at e
  split at e
  · rename_i ds
    simp only [RelD] at r
    obtain ⟨a, xs, rfl, h1, rs⟩ := r
    exact ⟨a, xs, rfl, h1, by rw [← rs.len, gAll_len e, hl], B, φ, ρ, M, ds, ρ', R, S, rs, e, q⟩
  · cases e
theorem ds_asg (he : DE X W e fa) (hg : DG X tg g) (hs : swapsWithSole [tg] e pos.line X.env = pure false := by rfl) (hw : swappedStores [tg] e X.env = pure none := by rfl) (h1 : (assignEach [tg] X.env).map (·.2) = [assign tg X.env] := by rfl) :
    DS X W (.Assign [tg] e pos) (sAsg g fa) := by
  refine ps_weak (ps_asg he hg hs hw h1) fun N σ H hh => ?_
  obtain ⟨B, φ, ρ, M, fl, ρ', M', R, S, e, q⟩ := hh
  unfold sAsg at e
  split at e
  · rename_i d M1 ea
    split at e
    · rename_i ρ1 eg
      cases e
      exact ⟨B, φ, ρ, M, _, _, R, S, ea, fun v H1 φ1 E1 R1 D1 => ⟨B, φ1, ρ, _, d, _, R1, S.ex R R1 E1, D1, eg, fun σ' S' => q σ' H1 φ1 E1 R1 S'⟩⟩
    · cases e
  · cases e
  · rename_i c v M1 ea
    cases e
    exact ⟨B, φ, _, M, _, _, R, S, ea, fun C dx v H1 φ1 gC E1 R1 hd nb rd => q C dx v σ H1 φ1 gC E1 R1 (S.ex R R1 E1) hd nb rd⟩
  · cases e
/-- a, b = x, y -/
def sPar (i j : Nat) (fs : List Ev) : Sv := fun ρ M => match evs fs ρ M with
  | some (.oks [x, y], M1) => some (.nx, (ρ.set i (some x)).set j (some y), M1)
  | some (.err c v, M1) => some (.err c v, ρ, M1)
  | _ => none
theorem ds_par (i j : Nat) {x y : Str} {a b : Expr} {fs : List Ev} {px py pt pt2 : Pos} {kt k2} (hc : X.calm = true) (hN : X.N.Nodup) (ha : DA X W [a, b] fs) (hij : i ≠ j := by decide) (hi : X.N[i]? = some x := by rfl) (hj : X.N[j]? = some y := by rfl)
    (hx : X.env.scope.names.lookup x = some .local := by rfl) (hy : X.env.scope.names.lookup y = some .local := by rfl)
    (hw : swappedStores [.Tuple [.Name x px, .Name y py] kt pt] (.Tuple [a, b] k2 pt2) X.env = pure (some [x, y]) := by rfl)
    (hs : swapsWithSole [.Tuple [.Name x px, .Name y py] kt pt] (.Tuple [a, b] k2 pt2) pos.line X.env = pure false := by rfl) :
    DS X W (.Assign [.Tuple [.Name x px, .Name y py] kt pt] (.Tuple [a, b] k2 pt2) pos) (sPar i j fs) := by
  refine ps_weak (ps_par hc hN hi hj hij hx hy ha hw hs) fun N σ H hh => ?_
  obtain ⟨B, φ, ρ, M, fl, ρ', M', R, S, e, q⟩ := hh
  unfold sPar at e
  split at e
  · rename_i x y M1 ea
    cases e
    refine ⟨B, φ, ρ, M, _, _, R, S, ea, fun vs H1 φ1 E1 R1 D1 => ?_⟩
    simp only [RelAs] at D1
    obtain ⟨u, _, rfl, r1, w, _, rfl, r2, rfl⟩ := D1
    exact ⟨u, w, rfl, q _ H1 φ1 E1 R1 (((S.ex R R1 E1).set i r1).set j r2)⟩
  · rename_i c v M1 ea
    cases e
    exact ⟨B, φ, _, M, _, _, R, S, ea, fun C dx v H1 φ1 gC E1 R1 hd nb rd => q C dx v σ H1 φ1 gC E1 R1 (S.ex R R1 E1) hd nb rd⟩
  · cases e
end
/-! ### a list comprehension -/
abbrev W0 : WX := fun _ _ _ _ => False
def wipeA (ρ : Sl) : List Nat → Sl
  | [] => ρ
  | v :: vs => (wipeA ρ vs).set v none
def lcL (g : Tg) (t : Et) (e : Ev) (ρ0 : Sl) : List D → Mm → List D → Option (List D × Mm)
  | [], M, acc => some (acc, M)
  | d :: ds, M, acc => match g d ρ0 with
    | some ρ1 => (match t ρ1 M with
      | some (.tt true, M1) => (match e ρ1 M1 with
        | some (.ok (.val y), M2) => if acc.length < sizeLine then lcL g t e ρ0 ds M2 (acc ++ [y]) else none
        | _ => none)
      | some (.tt false, M1) => lcL g t e ρ0 ds M1 acc
      | _ => none)
    | none => none
def eLc (vs : List Nat) (fi : Ei) (g : Tg) (t : Et) (e : Ev) : Ev := fun ρ M => match fi ρ M with
  | some (.its ds, M1) => (match lcL g t e (wipeA ρ vs) ds M1 [] with
    | some (acc, M2) => some (.ok (.val (.lst acc)), M2)
    | none => none)
  | some (.err c v, M1) => some (.err c v, M1)
  | none => none
abbrev DTs (X : Cx) (W : WX) (ifs : List Expr) (f : Et) : Prop := PTs X ifs (tDT X.K X.mg W f)
def eYes : Et := fun _ M => some (.tt true, M)
theorem dts_nil {X : Cx} {W : WX} : DTs X W [] eYes := ⟨fun pins s σ H Q I h => pts_nil.run pins s σ H Q I (by
  obtain ⟨B, φ, ρ, M, r', M', R, S, e, q⟩ := h
  cases e
  exact q H φ .refl R)⟩
theorem dts_one {X : Cx} {W : WX} {c : Expr} {f : Et} (h : DT X W c f) : DTs X W [c] f := pts_one h
section
variable {K : PySem.W.Frag} {mg : Str → Option Value} {bn : Ban} {B : Ban} {φ : List Addr} {M : Mm} {H : Hp}
theorem sl_wipe {ρ : Sl} {σ : St} (S : SlR K mg bn φ H ρ σ) : ∀ vs : List Nat, SlR K mg bn φ H (wipeA ρ vs) (wipe σ vs)
  | [] => S
  | v :: vs => by
    have ih := sl_wipe S vs
    refine ⟨by unfold wipeA wipe; rw [List.length_set, List.length_set]; exact ih.len, fun i x e => ?_⟩
    unfold wipeA at e
    by_cases hi : v = i
    · subst hi
      by_cases hl : v < (wipeA ρ vs).length
      · rw [List.getElem?_set_self hl] at e; cases e
      · rw [List.getElem?_eq_none (by simpa using hl)] at e; cases e
    · rw [List.getElem?_set_ne hi] at e
      obtain ⟨w, e', r⟩ := ih.at_ i x e
      exact ⟨w, by unfold wipe; rw [List.getElem?_set_ne hi]; exact e', r⟩
def orB (B : Ban) (p : Addr) : Ban := fun a => B a ∨ a = p
theorem bnd_or {p a : Addr} (h : bnd (orB B p) φ M a) : bnd B φ M a ∨ a = p := by
  rcases h with (h | h) | h
  · exact .inl (.inl h)
  · exact .inr h
  · exact .inl (.inr h)
theorem Rl.orIn (R : Rl K mg B φ M H) {p : Addr} {xs : List V} (hp : H p = none) : Rl K mg (orB B p) φ M (upd H p (.lst xs)) where
  len := R.len
  nd := R.nd
  out := fun a h z => by
    rcases z with z | z
    · exact R.out a h z
    · rw [z] at h; exact R.there h hp
  trk := fun a z => by
    rcases z with z | z
    · exact (R.same (same_upd hp)).trk a z
    · subst z
      exact ⟨(by rw [upd_same]; exact fun z => (nomatch z)), fun zs r => rd_not (o := HO.lst xs) upd_same (fun _ z => (nomatch z)) (fun _ _ z => (nomatch z)) zs r⟩
  obj := fun n mo a e1 e2 => (R.obj n mo a e1 e2).ext (same_upd hp) fun a z => (bnd_or z).imp id fun e => by rw [e]; exact hp
theorem Rl.orOut {p : Addr} (R : Rl K mg (orB B p) φ M H) : Rl K mg B φ M H where
  len := R.len
  nd := R.nd
  out := fun a h z => R.out a h (.inl z)
  trk := fun a z => R.trk a (.inl z)
  obj := fun n mo a e1 e2 => (R.obj n mo a e1 e2).less fun a z => z.elim (fun h => .inl (.inl h)) .inr
/-- what is banned from outside is changed -/
theorem Rl.orPut {p : Addr} {xs ys : List V} (R : Rl K mg (orB B p) φ M H) (hp : H p = some (.lst xs)) : Rl K mg (orB B p) φ M (upd H p (.lst ys)) ∧ Kp (bnd (orB B p) φ M) H (upd H p (.lst ys)) := by
  have kp : Kp (bnd (orB B p) φ M) H (upd H p (.lst ys)) := .of (fun b u h z => by rw [upd_ne fun e => z (by rw [e]; exact .inl (.inr rfl))]; exact h) fun b xs z => R.bnd_notup z xs
  have keep : ∀ b u, H b = some u → b ≠ p → upd H p (.lst ys) b = some u := fun b u h z => by rw [upd_ne z]; exact h
  have hb : ∀ x, bnd (orB B p) φ M x → bnd (orB B p) φ M x ∨ H x = none := fun x z => .inl z
  refine ⟨⟨R.len, R.nd, R.out, fun a z => ?_, fun n mo a e1 e2 => ?_⟩, kp⟩
  · by_cases ha : a = p
    · subst ha
      exact ⟨(by rw [upd_same]; exact fun z => (nomatch z)), fun zs r => rd_not (o := HO.lst ys) upd_same (fun _ z => (nomatch z)) (fun _ _ z => (nomatch z)) zs r⟩
    · obtain ⟨t1, t2⟩ := R.trk a z
      refine ⟨by rw [upd_ne ha]; exact t1, fun xs r => t2 xs ?_⟩
      unfold Rd at r ⊢
      rw [upd_ne ha] at r
      exact r
  · have na : a ≠ p := fun e => R.out a (List.mem_of_getElem? e2) (.inr e)
    have m := R.obj n mo a e1 e2
    cases mo with
    | lst _ => obtain ⟨xs, e, r⟩ := m; exact ⟨xs, keep _ _ e na, r.mono kp hb⟩
    | dic _ => obtain ⟨xs, e, r⟩ := m; exact ⟨xs, keep _ _ e na, r.mono kp hb⟩
    | dit _ => obtain ⟨xs, e, r⟩ := m; exact ⟨xs, keep _ _ e na, r.mono kp hb⟩
    | obj _ _ =>
      obtain ⟨C, dx, xs, g, e, r⟩ := m
      refine ⟨C, dx, xs, g, ?_, r.mono kp hb⟩
      rcases e with ⟨e, e'⟩ | ⟨e, e'⟩
      · exact .inl ⟨keep _ _ e na, e'⟩
      · exact .inr ⟨keep _ _ e na, keep _ _ e' fun z => by rw [z, hp] at e'; cases e'⟩
    | any =>
      obtain ⟨m1, m2⟩ := m
      refine ⟨by rw [upd_ne na]; exact m1, fun xs r => m2 xs ?_⟩
      unfold Rd at r ⊢
      rw [upd_ne na] at r
      exact r
    | gone => show upd H p (.lst ys) a ≠ none; rw [upd_ne na]; exact m
end
section
variable {X : Cx} {W : WX} {pos : Pos} {elt tg iter : Expr} {ifs : List Expr} {scope : Scope} {own : List (Str × Nat)} {fi : Ei} {g : Tg} {t : Et} {e : Ev}
theorem wipe_set : ∀ {vs : List Nat} {σ : St} {i : Nat} {v : Option V}, i ∈ vs → wipe (σ.set i v) vs = wipe σ vs
  | [], _, _, _, h => nomatch h
  | u :: us, σ, i, v, h => by
    unfold wipe
    by_cases hu : i ∈ us
    · rw [wipe_set hu]
    · have e : i = u := by rcases List.mem_cons.mp h with h | h; exact h; exact absurd h hu
      subst e
      have step : ∀ (ws : List Nat), i ∉ ws → wipe (σ.set i v) ws = (wipe σ ws).set i v := by
        intro ws
        induction ws with
        | nil => intro _; rfl
        | cons w ws ih =>
          intro hn
          unfold wipe
          rw [ih fun z => hn (List.mem_cons_of_mem _ z), List.set_comm _ _ fun z => hn (by rw [z]; exact List.mem_cons_self)]
      rw [step us hu, List.set_set]
theorem wipe_at : ∀ {vs : List Nat} {σ : St} {i : Nat}, (wipe σ vs)[i]? = if i ∈ vs ∧ i < σ.length then some none else σ[i]?
  | [], σ, i => by simp [wipe]
  | u :: us, σ, i => by
    unfold wipe
    by_cases hu : u = i
    · subst hu
      by_cases hl : u < σ.length
      · rw [List.getElem?_set_self (by rw [wipe_length]; exact hl), if_pos ⟨List.mem_cons_self, hl⟩]
      · rw [List.getElem?_eq_none (by rw [List.length_set, wipe_length]; omega), if_neg fun z => hl z.2, List.getElem?_eq_none (by omega)]
    · rw [List.getElem?_set_ne hu, wipe_at]
      have : (i ∈ u :: us) ↔ i ∈ us := ⟨fun z => by rcases List.mem_cons.mp z with z | z; exact absurd z.symm hu; exact z, fun z => List.mem_cons_of_mem _ z⟩
      simp only [this]
theorem wipe_wipe {vs : List Nat} {σ : St} : wipe (wipe σ vs) vs = wipe σ vs := by
  apply List.ext_getElem?
  intro i
  rw [wipe_at, wipe_at, wipe_length]
  split <;> rfl
/-- a target of V's and one of data, whose names are those of the block -/
def TgOk (K : PySem.W.Frag) (mg : Str → Option Value) (vs : List Nat) (gV : TG) (g : Tg) : Prop := ∀ bn φ H ρ σ d v ρ1 (Q : St → Hp → Prop), SlR K mg bn φ H ρ σ → RelD K mg bn H d v → g d ρ = some ρ1 → (∀ σ', wipe σ' vs = wipe σ vs → SlR K mg bn φ H ρ1 σ' → Q σ' H) → gV v σ H Q
def TgsOk (K : PySem.W.Frag) (mg : Str → Option Value) (vs : List Nat) (gV : TGs) (gs : List Tg) : Prop := ∀ bn φ H ρ σ ds us ρ1 (Q : St → Hp → Prop), SlR K mg bn φ H ρ σ → RelDs K mg bn H ds us → gAll gs ds ρ = some ρ1 → (∀ σ', wipe σ' vs = wipe σ vs → SlR K mg bn φ H ρ1 σ' → Q σ' H) → gV us σ H Q
theorem tg_n {K : PySem.W.Frag} {mg : Str → Option Value} {vs : List Nat} {i : Nat} (h : i ∈ vs) : TgOk K mg vs (gName i) (gN i) := by
  intro bn φ H ρ σ d v ρ1 Q S r e q
  cases e
  exact q _ (wipe_set h) (S.set i r)
theorem tgs_nil {K : PySem.W.Frag} {mg : Str → Option Value} {vs : List Nat} : TgsOk K mg vs gNil [] := by
  intro bn φ H ρ σ ds us ρ1 Q S r e q
  cases ds with
  | nil => cases e; simp only [RelDs] at r; exact ⟨r, q _ rfl S⟩
  | cons _ _ => cases e
theorem tgs_cons {K : PySem.W.Frag} {mg : Str → Option Value} {vs : List Nat} {gV : TG} {gsV : TGs} {g : Tg} {gs : List Tg} (h1 : TgOk K mg vs gV g) (h2 : TgsOk K mg vs gsV gs) : TgsOk K mg vs (gCons gV gsV) (g :: gs) := by
  intro bn φ H ρ σ ds us ρ1 Q S r e q
  cases ds with
  | nil => cases e
  | cons d ds =>
    simp only [RelDs] at r
    obtain ⟨v, ws, rfl, r1, r2⟩ := r
    simp only [gAll] at e
    split at e
    · rename_i ρ2 e1
      exact ⟨v, ws, rfl, h1 bn φ H ρ σ d v ρ2 _ S r1 e1 fun σ1 w1 S1 => h2 bn φ H ρ2 σ1 ds ws ρ1 Q S1 r2 e fun σ2 w2 S2 => q σ2 (w2.trans w1) S2⟩
    · cases e
theorem tg_t {K : PySem.W.Frag} {mg : Str → Option Value} {vs : List Nat} {n : Nat} {gsV : TGs} {gs : List Tg} (h : TgsOk K mg vs gsV gs) (hn : gs.length = n := by rfl) : TgOk K mg vs (L2.gTup K n gsV) (gT gs) := by
  intro bn φ H ρ σ d v ρ1 Q S r e q
  unfold gT at e
  split at e
  · rename_i ds
    simp only [RelD] at r
    obtain ⟨a, xs, rfl, h1, rs⟩ := r
    exact ⟨a, xs, rfl, h1, by rw [← rs.len, gAll_len e, hn], h bn φ H ρ σ ds xs ρ1 Q S rs e q⟩
  · cases e
theorem t_lc {gV : TG} {vs : List Nat} {σ : St} {H : Hp} {Q : VK} (hg : TgOk X.K X.mg vs gV g)
    (h : tD X.K X.mg W (eLc vs fi g t e) σ H Q) : tLc (tDI X.K X.mg W fi) gV (tDT X.K X.mg W0 t) (tD X.K X.mg W0 e) vs σ H Q := by
  obtain ⟨B, φ, ρ, M, r', M', R, S, ee, q⟩ := h
  unfold eLc at ee
  split at ee
  · rename_i ds M1 ea
    split at ee
    · rename_i acc M2 el
      cases ee
      refine ⟨B, φ, ρ, M, _, _, R, S, ea, fun J H1 φ1 E1 R1 w p hp => ?_⟩
      have S1 := S.ex R R1 E1
      refine ⟨fun i m Hi => m + i = ds.length ∧ ∃ φi Mi accD accV, Rl X.K X.mg (orB B p) φi Mi Hi ∧ Ex φ1 M1 H1 φi Mi Hi ∧ Hi p = some (.lst accV) ∧ RelDs X.K X.mg (bnd (orB B p) φi Mi) Hi accD accV ∧ lcL g t e (wipeA ρ vs) (ds.drop i) Mi accD = some (acc, M'),
        ⟨ds.length, rfl, φ1, M1, [], [], R1.orIn hp, .same (same_upd hp), upd_same, by simp only [RelDs], el⟩, ?_⟩
      rintro i m Hi ⟨hm, φi, Mi, accD, accV, Ri, Ei, hD, ra, el'⟩
      have kp1 : Kp (bnd B φ1 M1) H1 Hi := Ei.kp R1
      have hb1 : ∀ a, bnd (orB B p) φi Mi a → bnd B φ1 M1 a ∨ H1 a = none := fun a z => by
        rcases bnd_or z with z | z
        · exact Ei.bnd' R1 Ri.orOut a z
        · rw [z]; exact .inr hp
      by_cases hlt : i < ds.length
      · rw [List.drop_eq_getElem_cons hlt] at el'
        unfold lcL at el'
        split at el'
        · rename_i ρ1 eg
          refine .inr ⟨w.go i Hi kp1 hlt, fun Hj => ∃ φj Mj accD accV, Rl X.K X.mg (orB B p) φj Mj Hj ∧ Ex φ1 M1 H1 φj Mj Hj ∧ Hj p = some (.lst accV) ∧ RelDs X.K X.mg (bnd (orB B p) φj Mj) Hj accD accV ∧ lcL g t e (wipeA ρ vs) (ds.drop (i + 1)) Mj accD = some (acc, M'),
            fun Hj z => ⟨m - 1, by omega, by omega, z⟩, fun x H3 y => ?_⟩
          obtain ⟨sm, rx⟩ := w.yld i ds[i] (bnd (orB B p) φi Mi) Hi x H3 kp1 hb1 (List.getElem?_eq_getElem hlt) y
          have R3 := Ri.same sm
          have E3 : Ex φi Mi Hi φi Mi H3 := .same sm
          have E13 := Ei.trans R1 Ri E3
          have S3 : SlR X.K X.mg (bnd (orB B p) φi Mi) φi H3 (wipeA ρ vs) (wipe σ vs) := ((sl_wipe S1 vs).mono kp1 hb1 Ei.pre).ex Ri R3 E3
          have hD3 : H3 p = some (.lst accV) := sm _ _ hD
          have ra3 := ra.same sm
          refine hg (bnd (orB B p) φi Mi) φi H3 _ _ _ x ρ1 _ S3 rx eg fun σ4 w4 S4 => ⟨w4.trans wipe_wipe, ?_⟩
          split at el'
          · rename_i M5 et
            refine ⟨orB B p, φi, ρ1, Mi, _, _, R3, S4, et, fun H5 φ5 E5 R5 => iteT ?_⟩
            have E15 := E13.trans R1 R3 E5
            split at el'
            · rename_i yv M6 ey
              split at el'
              · rename_i hz
                refine ⟨orB B p, φ5, ρ1, M5, _, _, R5, S4.ex R3 R5 E5, ey, fun v H6 φ6 E6 R6 D6 => ?_⟩
                have E36 := E5.trans R3 R5 E6
                have np : ¬ live φi Mi p := fun ⟨k, mo, e1, _, _⟩ => Ri.out p (List.mem_of_getElem? e1) (.inr rfl)
                have hD6 : H6 p = some (.lst accV) := E36.keep p _ hD3 np
                have ra6 := ra3.ex R3 R6 E36
                obtain ⟨R7, kp7⟩ := R6.orPut (ys := accV ++ [v]) hD6
                refine ⟨accV, hD6, by rw [← ra.len]; exact hz, φ6, M6, accD ++ [yv], accV ++ [v], R7, ?_, upd_same, (ra6.append (.one D6)).mono kp7 fun a z => .inl z, el'⟩
                have E16 := E15.trans R1 R5 E6
                refine ⟨E16.pre, E16.new, E16.gon, fun b o h n => ?_⟩
                rw [upd_ne fun z => by rw [z, hp] at h; cases h]
                exact E16.keep b o h n
              · cases el'
            · cases el'
          · rename_i M5 et
            refine ⟨orB B p, φi, ρ1, Mi, _, _, R3, S4, et, fun H5 φ5 E5 R5 => iteF ?_⟩
            have np : ¬ live φi Mi p := fun ⟨k, mo, e1, _, _⟩ => Ri.out p (List.mem_of_getElem? e1) (.inr rfl)
            exact ⟨φ5, M5, accD, accV, R5, E13.trans R1 R3 E5, E5.keep p _ hD3 np, ra3.ex R3 R5 E5, el'⟩
          · cases el'
        · cases el'
      · rw [List.drop_eq_nil_of_le (Nat.le_of_not_lt hlt)] at el'
        cases el'
        refine .inl ⟨w.stop i Hi kp1 (Nat.le_of_not_lt hlt), q _ Hi φi (E1.trans R R1 Ei) Ri.orOut ?_⟩
        simp only [RelA, RelD]
        refine ⟨p, accV, rfl, ?_, hD, ra.mono .refl fun a z => .inl (z.elim (fun h => .inl (.inl h)) .inr)⟩
        rintro (z | ⟨k, mo, e1, _, _⟩)
        · exact (R1.trk p z).1 hp
        · exact Ri.out p (List.mem_of_getElem? e1) (.inr rfl)
    · cases ee
  · rename_i c v M1 ea
    cases ee
    exact ⟨B, φ, ρ, M, _, _, R, S, ea, q⟩
  · cases ee
theorem de_lc {gV : TG} (hc : X.calm = true) (hN : X.N.Nodup) (hi : DI X W tg iter fi) (ok : BlkOk X.N X.env.scope scope own) (tgok : TgOk X.K X.mg (own.map (·.2)) gV g)
    (hg : ∀ (s : Shared) (H : Hp) (C : Addr) (cl : List (Str × Addr)) (fp : List Addr), PG (X.blk s H scope (compEnvC scope cl C X.env) fp) tg gV)
    (ht : ∀ (s : Shared) (H : Hp) (C : Addr) (cl : List (Str × Addr)) (fp : List Addr), DTs (X.blk s H scope (compEnvC scope cl C X.env) fp) W0 ifs t)
    (he : ∀ (s : Shared) (H : Hp) (C : Addr) (cl : List (Str × Addr)) (fp : List Addr), DE (X.blk s H scope (compEnvC scope cl C X.env) fp) W0 elt e)
    (hs : ∀ x, foldedSetIterable iter X.env x = pure x := by intro _; rfl) : DE X W (.ListComp elt [⟨tg, iter, ifs, 0⟩] scope pos) (eLc (own.map (·.2)) fi g t e) :=
  pe_weak (pe_lc hc hN hi ok hg ht he hs) fun _ _ _ h => t_lc tgok h
theorem ds_setLc (i : Nat) {y : Str} {py spos : Pos} {gV : TG} (hc : X.calm = true) (hN : X.N.Nodup) (hsw : swapsWith (.ListComp elt [⟨tg, iter, ifs, 0⟩] scope pos) (some (.Name y py)) spos.line X.env = pure true) (hi : DI X W tg iter fi) (ok : BlkOk X.N X.env.scope scope own) (tgok : TgOk X.K X.mg (own.map (·.2)) gV g)
    (hg : ∀ (s : Shared) (H : Hp) (C : Addr) (cl : List (Str × Addr)) (fp : List Addr), PG (X.blk s H scope (compEnvC scope cl C X.env) fp) tg gV)
    (ht : ∀ (s : Shared) (H : Hp) (C : Addr) (cl : List (Str × Addr)) (fp : List Addr), DTs (X.blk s H scope (compEnvC scope cl C X.env) fp) W0 ifs t)
    (he : ∀ (s : Shared) (H : Hp) (C : Addr) (cl : List (Str × Addr)) (fp : List Addr), DE (X.blk s H scope (compEnvC scope cl C X.env) fp) W0 elt e)
    (hy : X.N[i]? = some y := by rfl) (hyl : X.env.scope.names.lookup y = some .local := by rfl) (hs : ∀ x, foldedSetIterable iter X.env x = pure x := by intro _; rfl) :
    DS X W (.Assign [.Name y py] (.ListComp elt [⟨tg, iter, ifs, 0⟩] scope pos) spos) (sSet i (eLc (own.map (·.2)) fi g t e)) := by
  refine ps_weak (ps_setLc (tt := tDT X.K X.mg W0 t) (te := tD X.K X.mg W0 e) hc hN hy hyl hsw hi ok hg ht he hs) fun N σ H hh => ?_
  refine t_lc tgok ?_
  obtain ⟨B, φ, ρ, M, fl, ρ', M', R, S, e, q⟩ := hh
  unfold sSet at e
  split at e
  · rename_i x M1 ea
    cases e
    exact ⟨B, φ, ρ, M, _, _, R, S, ea, fun v H1 φ1 E1 R1 D1 => q _ H1 φ1 E1 R1 ((S.ex R R1 E1).set i D1)⟩
  · rename_i c v M1 ea
    cases e
    exact ⟨B, φ, ρ, M, _, _, R, S, ea, fun C dx v H1 φ1 gC E1 R1 hd nb rd => q C dx v σ H1 φ1 gC E1 R1 (S.ex R R1 E1) hd nb rd⟩
  · cases e
/-! ### a thing of the store becomes data -/
def noRef (n : Nat) : Option A → Bool
  | some (.ref m) => m != n
  | _ => true
def sFrz (i : Nat) (g : Sv) : Sv := fun ρ M => match ρ[i]? with
  | some (some (.ref n)) => (match M[n]? with
    | some (.lst xs) => if (ρ.set i none).all (noRef n) then g (ρ.set i (some (.val (.lst xs)))) (M.set n .gone) else none
    | some (.dic xs) => if (ρ.set i none).all (noRef n) then g (ρ.set i (some (.val (.dic xs)))) (M.set n .gone) else none
    | some (.dit xs) => if (ρ.set i none).all (noRef n) then g (ρ.set i (some (.val (.dit xs)))) (M.set n .gone) else none
    | _ => none)
  | _ => none
end
section
variable {K : PySem.W.Frag} {mg : Str → Option Value} {W : WX}
theorem t_frz {i : Nat} {g : Sv} {N : Ends} {σ : St} {H : Hp} (h : tDS K mg W (sFrz i g) N σ H) : tDS K mg W g N σ H := by
  obtain ⟨B, φ, ρ, M, fl, ρ', M', R, S, e, q⟩ := h
  unfold sFrz at e
  split at e
  · rename_i n ei
    have go : ∀ (d : D) (mo : MO), M[n]? = some mo → (∀ bn a, MOk K mg (bnd B φ M) H a mo → (∀ x, bn x → bnd B φ M x) → ¬ bn a → RelD K mg bn H d (.ref a)) → (ρ.set i none).all (noRef n) = true → g (ρ.set i (some (.val d))) (M.set n .gone) = some (fl, ρ', M') → tDS K mg W g N σ H := by
      intro d mo em hd hall eg
      have hn : n < M.length := (List.getElem?_eq_some_iff.mp em).1
      obtain ⟨R2, E2⟩ := R.freeze hn
      obtain ⟨v, ev, a, ha, rfl⟩ := S.at_ i _ ei
      have bl : ∀ x, bnd B φ (M.set n .gone) x → bnd B φ M x := fun x z => (E2.bnd' R R2 x z).elim id fun h => absurd h (R2.bnd_some z)
      have nb : ¬ bnd B φ (M.set n .gone) a := by
        rintro (z | ⟨k, mo', e1, e2, gz⟩)
        · exact R.out a (List.mem_of_getElem? ha) z
        · have : k = n := nodup_at R.nd e1 ha
          subst this
          rw [List.getElem?_set_self hn] at e2
          cases e2
          exact gz rfl
      refine ⟨B, φ, _, _, fl, ρ', M', R2, ?_, eg, q.trans R R2 E2⟩
      have S2 : SlR K mg (bnd B φ (M.set n .gone)) φ H (ρ.set i (some (.val d))) (σ.set i (some (.ref a))) := (S.mono .refl (fun x z => .inl (bl x z)) ⟨[], by simp⟩).set i (hd _ a (R.obj n _ a em ha) bl nb)
      have : σ.set i (some (V.ref a)) = σ := by
        apply List.ext_getElem?
        intro j
        by_cases hj : i = j
        · subst hj; rw [List.getElem?_set_self (List.getElem?_eq_some_iff.mp ev).1, ev]
        · rw [List.getElem?_set_ne hj]
      rw [this] at S2
      exact S2
    split at e
    · rename_i xs em
      split at e
      · rename_i hall
        exact go _ _ em (fun bn a m hb nb => by
          obtain ⟨ys, h1, h2⟩ := m
          simp only [RelD]
          exact ⟨a, ys, rfl, nb, h1, h2.mono .refl fun x z => .inl (hb x z)⟩) hall e
      · cases e
    · rename_i xs em
      split at e
      · rename_i hall
        exact go _ _ em (fun bn a m hb nb => by
          obtain ⟨ys, h1, h2⟩ := m
          simp only [RelD]
          exact ⟨a, ys, rfl, nb, .inl h1, h2.mono .refl fun x z => .inl (hb x z)⟩) hall e
      · cases e
    · rename_i xs em
      split at e
      · rename_i hall
        exact go _ _ em (fun bn a m hb nb => by
          obtain ⟨ys, h1, h2⟩ := m
          simp only [RelD]
          exact ⟨a, ys, rfl, nb, .inl h1, h2.mono .refl fun x z => .inl (hb x z)⟩) hall e
      · cases e
    · cases e
  · cases e
theorem dss_frz {X : Cx} (i : Nat) {sts : List Stmt} {g : Sv} (h : DSs X W sts g) : DSs X W sts (sFrz i g) := pss_weak h fun _ _ _ h => t_frz h
end
end Ow
namespace Ow
open PySem L2
open PySem.W PySem.Calls PyProof.Rows

abbrev veTail : List Value := [.type "ValueError", .type "Exception", .type "BaseException", .type "object"]
/-- what the written part says of an own exception class over the class at D -/
structure ExcC (K : Frag) (C D fI : Addr) : Prop where
  ini : excInitIn K C veTail "ValueError.__new__" = true
  ovr : ∃ cd, clsIn K C = some cd ∧ HandSPX.refsVE cd.mro = true ∧ cd.hasDict = true
  fin : findIn K (.ref C) "__init__" = some (some (.ref fI))
  sa : findIn K (.ref C) "__setattr__" = some (some (.builtin "object.__setattr__"))
  vl : findIn K (.ref C) "value" = some none
  sup : ks_superIn K C D "__init__" = some (some (.builtin "ValueError.__init__"))
  suV : subIn K (.ref C) (.type "ValueError") = some true
  suB : subIn K (.ref C) (.type "BaseException") = some true
  mro : mroIn K C (.ref D) = some true
  kC : keepIn K (.ref C) = true
  tyC : typeIn K (.ref C) = some (.type "type")
  ga : findIn K (.ref C) "__getattribute__" = some (some (.builtin "BaseException.__getattribute__"))
  gn : findIn K (.ref C) "__getattr__" = some none

abbrev iniCall (p0 p1 p2 p3 p4 : Pos) : Expr := .Call (.Attribute (.Call (.Name "super" p0) [] [] p1) "__init__" p2) [.Name "value" p3] [] p4
abbrev iniBody (p0 p1 p2 p3 p4 p5 p6 p7 p8 p9 : Pos) : List Stmt := [.Expr (iniCall p0 p1 p2 p3 p4) p5,
   .Assign [.Attribute (.Name "self" p6) "value" p7] (.Name "value" p8) p9]
/-- the __init__ of the family -/
structure IniF (P : Program) (K : Frag) (mg : Str → Option Value) (D fI : Addr) : Prop where
  fn : ∃ oc od osl name qual params scope dV kV doc pm an cda ct cc p0 p1 p2 p3 p4 p5 p6 p7 p8 p9,
    K.lookup fI = some ⟨oc, od, .func (ksFn name qual params (iniBody p0 p1 p2 p3 p4 p5 p6 p7 p8 p9) scope dV kV doc pm an (.ref cda) ct cc), osl⟩ ∧ codeIn K (.ref cda) qual = true ∧
    (∀ x y, bindArgs (ksFn name qual params (iniBody p0 p1 p2 p3 p4 p5 p6 p7 p8 p9) scope dV kV doc pm an (.ref cda) ct cc) ⟨[x, y], []⟩ = (pure [(("self" : Str), x), (("value" : Str), y)] : Sem (List (Str × Value)))) ∧
    (∃ ar, (params.posonlyargs ++ params.args).head? = some ar ∧ ar.arg = ("self" : Str)) ∧
    (scope.names.lookup ("super" : Str) = some .globalImplicit ∧ scope.names.lookup ("__class__" : Str) = some .free ∧ scope.names.lookup ("self" : Str) = some .local ∧ scope.names.lookup ("value" : Str) = some .local) ∧
    (∀ x ∈ scope.names, x.2 ≠ .cell) ∧ (scope.isCoroutine = false ∧ scope.isGenerator = false ∧ scope.kind = .function) ∧
    (∃ ccl cdd vs ccs file tf, K.lookup cda = some ⟨ccl, cdd, .fields vs, ccs⟩ ∧ vs[2]? = some (.str file tf) ∧ ((P.main.file : Str) == file) = true) ∧
    (∃ cl cld csl, K.lookup cc = some ⟨cl, cld, .cell (some (.ref D)), csl⟩) ∧
    (∀ L, ∃ pl, eval (iniCall p0 p1 p2 p3 p4) (ksEnv qual scope L fI (.ref cda) cc) = (do
      let ov ← attributeBase (.Call (.Name "super" p0) [] [] p1) "__init__" (ksEnv qual scope L fI (.ref cda) cc) (eval (.Call (.Name "super" p0) [] [] p1) (ksEnv qual scope L fI (.ref cda) cc))
      standAt p2.atName
      let (f, first) ← holding [ov] (getMethod ov "__init__" pl)
      callWith p4 f first (backTo p4 (starEach [.Name "value" p3] (ksEnv qual scope L fI (.ref cda) cc))) [])) ∧
    (∀ L, swapsWith (iniCall p0 p1 p2 p3 p4) none p5.line (ksEnv qual scope L fI (.ref cda) cc) = pure false ∧
      swapsWith (.Name "value" p8) (some (.Attribute (.Name "self" p6) "value" p7)) p9.line (ksEnv qual scope L fI (.ref cda) cc) = pure false)
  tI : typeIn K (.ref fI) = some (.type "function")
  clD : (clsIn K D).isSome = true
  st : nsIn K cStatics "thirdparty.any" = some none
  top : (P.main.scope.names.lookup ("super" : Str)).isSome = false
  nsu : mg "super" = none

section
variable {P : Program} {w : World} {K : Frag} {mg : Str → Option Value} {base : Heap} {A : Around} {hp : Heap} {g : Array GenState} {d : Drawn} {t : Nat} {os : OsState} {C D fI : Addr} {Q : Value → Shared → Prop} {E : Value → Shared → Prop} {u : Value}
theorem exc_make (T : ExcC K C D fI) (F0 : IniF P K mg D fI) (Md : Mod K mg base) (hbase : ∀ b o, base.get? b = some o → hp.get? b = some o) (hroom : A.depth + 2 < recursionLimit)
    (h : ∀ h' tk a dx t1, (∀ b o, hp.get? b = some o → h'.get? b = some o) → hp.objs.size ≤ a → hp.objs.size ≤ dx → dx ≠ a → h'.get? a = some (excObj C t1 (some dx) .none) → h'.Ns1 dx (fun y => if y = "value" then some u else none) → Q (.ref a) ⟨h', g, d, tk, os⟩) :
    wpAny (model P w) A (call (.ref C) [u]) Q E ⟨hp, g, d, t, os⟩ := by
  have X : K.In hp := Md.kin.keeps hbase
  obtain ⟨nm, N', qn, bs, bm, hdct, sn, sub, ab, col, dd, k0, k1, k2, k3, k5, hC, hT⟩ := excInit_of X T.ini
  obtain ⟨oc, od, osl, name, qual, params, scope, dV, kV, doc, pm, an, cda, ct, cc, p0, p1, p2, p3, p4, p5, p6, p7, p8, p9, ho, hcd, hbind, ⟨ar, har, hself⟩, ⟨hs1, hs2, hs3, hs4⟩, hcell, ⟨hco, hgen, hkind⟩, ⟨ccl, cdd, vs, ccs, file, tf, hcda, hvs, hfile⟩, ⟨cl, cld, csl, hcc⟩, hev, hsw⟩ := F0.fn
  obtain ⟨pl, hev⟩ := hev (hp.objs.size + 2)
  obtain ⟨sw1, sw2⟩ := hsw (hp.objs.size + 2)
  have h1 : (1 : Nat) ≤ sizeLine := by rw [sizeLine_eq]; omega
  refine wpAny_call (PySem.PX.call_own F.excBase_ValueError hT hC (looks_findIn X T.fin) (fun self => bind_fn X self F0.tI) (rest := [u]) h1 ?_)
  have kk : ∀ b o, hp.get? b = some o → ((hp.push (kdv_tup [u])).push (PySem.PX.excO C hp.objs.size)).get? b = some o := fun b o e => Heap.get?_push_of_some _ (Heap.get?_push_of_some _ e)
  have hget : ((hp.push (kdv_tup [u])).push (PySem.PX.excO C hp.objs.size)).get? (hp.objs.size + 1) = some (PySem.PX.excO C hp.objs.size) := by heap_get
  have hsz : ((hp.push (kdv_tup [u])).push (PySem.PX.excO C hp.objs.size)).objs.size = hp.objs.size + 2 := by simp [Heap.push]
  refine ks_codeAny_call_defAt (fd := ksFn name qual params (iniBody p0 p1 p2 p3 p4 p5 p6 p7 p8 p9) scope dV kV doc pm an (.ref cda) ct cc) (body := iniBody p0 p1 p2 p3 p4 p5 p6 p7 p8 p9) (binds := [("self", .ref (hp.objs.size + 1)), ("value", u)])
    (by rw [make_depth]; omega) (kk _ _ (X _ _ ho)) rfl ((Md.nolimit.keeps hbase).keeps kk) (codeRec_of (X.keeps kk) hcd) rfl (BindsTo.of_eq (hbind _ _)) hcell ?_ (fun h₀ hns hk => ?_) hco hgen hkind
  · intro y hy
    simp only [List.mem_cons, List.not_mem_nil, or_false] at hy
    rcases hy with rfl | rfl
    · exact hs3
    · exact hs4
  have kh : ∀ b o, hp.get? b = some o → h₀.get? b = some o := fun b o e => hk _ _ (kk _ _ e)
  have hm1 : List.lookup ("self" : Str) ([(("self" : Str), Value.ref (hp.objs.size + 1)), (("value" : Str), u)]).reverse = some (.ref (hp.objs.size + 1)) := rfl
  have hm2 : List.lookup ("value" : Str) ([(("self" : Str), Value.ref (hp.objs.size + 1)), (("value" : Str), u)]).reverse = some u := rfl
  generalize hm : (fun x => List.lookup x ([(("self" : Str), Value.ref (hp.objs.size + 1)), (("value" : Str), u)]).reverse) = m at hns
  have m1 : m "self" = some (.ref (hp.objs.size + 1)) := by rw [← hm]; exact hm1
  have m2 : m "value" = some u := by rw [← hm]; exact hm2
  have FR : Fr hp (hp.objs.size + 2) h₀ m := ⟨by rw [← hsz]; exact hns, kh, Nat.le_add_right _ _⟩
  have hnew : hp.get? (hp.objs.size + 1) = none := by
    cases z : hp.get? (hp.objs.size + 1) with
    | none => rfl
    | some o => exact absurd (Heap.lt_size z) (Nat.not_lt.mpr (Nat.le_succ _))
  have NW : News hp (hp.objs.size + 2) h₀ [(hp.objs.size + 1, excObj C hp.objs.size none .none)] := fun p hp' => by
    rcases List.mem_cons.mp hp' with rfl | hp'
    · exact ⟨hk _ _ hget, Nat.ne_of_lt (Nat.lt_succ_self _), hnew⟩
    · cases hp'
  obtain ⟨cdD, hclD⟩ := Option.isSome_iff_exists.mp F0.clD
  obtain ⟨oD, hD1, hD2⟩ : ∃ oD, h₀.get? D = some oD ∧ oD.data = .cls cdD := by
    unfold clsIn at hclD
    split at hclD
    · rename_i c d cd' sl hoo
      cases hclD
      exact ⟨_, kh _ _ (X _ _ hoo), rfl⟩
    · cases hclD
  rw [hsz]
  show _root_.PySem.wpAt _ (((A.under (.builtin "type.__call__" ⟨[.ref C, u], []⟩))).deeper (ksEnv qual scope (hp.objs.size + 2) fI (.ref cda) cc)) (.func _ (ksEnv qual scope (hp.objs.size + 2) fI (.ref cda) cc)) (execs _ (ksEnv qual scope (hp.objs.size + 2) fI (.ref cda) cc)) _ _ _
  generalize hA : ((A.under (.builtin "type.__call__" ⟨[.ref C, u], []⟩))).deeper (ksEnv qual scope (hp.objs.size + 2) fI (.ref cda) cc) = A'
  obtain ⟨mb, hb1, hb2⟩ := Md.blt
  have X0 : K.In h₀ := X.keeps kh
  have hbi : Heap.Ns h₀ builtinsNs mb := (hb1.keeps hbase).keeps kh
  refine ks_wpAt_execs_cons (ks_wpAt_Expr_any (ks_wpAt_MethodCall (pl := pl) ?_ hev) (by simp [interactive, hkind]) sw1)
  refine ks_wpAt_super_base (env := ksEnv qual scope (hp.objs.size + 2) fI (.ref cda) cc) hs1 hs2 (by decide) rfl (X0 _ _ ho) rfl har rfl (X0 _ _ hcda) rfl hvs hfile F0.top ?_
  refine ks_loadName_global hkind hs1 (loadGlobal_builtin (env := ksEnv qual scope (hp.objs.size + 2) fI (.ref cda) cc) ((Md.glob.keeps hbase).keeps kh) F0.nsu hbi ((hb2 _ (by decide)).trans (by first | boot_by_name | rfl | kernel_rfl)) ⟨rfl, ?_⟩)
  refine wpAny_loadName_free hkind hs2 rfl ⟨_, X0 _ _ hcc, rfl⟩ ?_
  rw [hself]
  refine wpAny_loadName_local hkind hs3 FR.ns m1 ?_
  refine ks_wpAny_isType_cls hD1 hD2 ⟨rfl, ?_⟩
  refine ks_wpAny_call_super hD1 hD2 (hk _ _ hget) rfl (fun c e => nomatch e) (looks_mroIn X0 T.mro) (fun h2 e2 k2 => ?_)
  obtain ⟨F2, N2, l2⟩ := ks_newsPush (s := ⟨h₀, g, d, t, os⟩) FR NW rfl e2 k2
  have X2 : K.In h2 := X.keeps F2.keep
  have I2 : InstAt h2 (hp.objs.size + 1) (excObj C hp.objs.size none .none) C none := ⟨(N2 _ (List.mem_cons_of_mem _ List.mem_cons_self)).1, rfl, rfl, trivial⟩
  refine kxs_method kxs_ValueError F2 X N2 (so := h₀.objs.size) (x := hp.objs.size + 1) (C := C) (D := D) List.mem_cons_self I2 F0.st T.sup T.suV (by decide) (fun q h3 F3 N3 l3 => ?_)
  refine kxs_callWith1 (i := "ValueError.__init__") (x := hp.objs.size + 1) N3 List.mem_cons_self ?_ (by rfl) (by rfl)
  show wpAny _ _ (spliced ((false, eval (.Name "value" p3) (ksEnv qual scope (hp.objs.size + 2) fI (.ref cda) cc)) :: backTo p4 (starEach [] (ksEnv qual scope (hp.objs.size + 2) fI (.ref cda) cc)))) _ _ _
  refine Calls.spliced_cons (wpAny_Name (wpAny_loadName_local hkind hs4 F3.ns m2 ?_) (by decide))
  refine Calls.spliced_nil ⟨kxs_at N3 List.mem_cons_self, ?_⟩
  have lso : hp.objs.size + 1 < h₀.objs.size := l2 _ List.mem_cons_self
  have lq : hp.objs.size + 1 < q := l3 _ (List.mem_cons_of_mem _ List.mem_cons_self)
  refine kxs_call F3 X N3 F.excBase_ValueError T.ini List.mem_cons_self (.tail (Nat.ne_of_gt lq) (.tail (Nat.ne_of_gt lso) (.head fun _ z => nomatch z))) h1 (fun t4 h4 F4 N4 l4 => ?_)
  show _root_.PySem.wpAt _ _ _ _ _ _ _
  have X4 : K.In h4 := X.keeps F4.keep
  have hx4 := (N4 (hp.objs.size + 1, excObj C t4 none .none) (List.mem_cons_of_mem _ (List.mem_cons_of_mem _ (List.mem_cons_of_mem _ List.mem_cons_self)))).1
  obtain ⟨cd, hcl, hve, hhd⟩ := T.ovr
  refine ks_wpAt_execs_cons (ks_wpAt_Assign_Attr (wpAt_of_wpAny (wpAny_Name (wpAny_loadName_local hkind hs4 F4.ns m2 ?_) (by decide))) sw2)
  refine wpAny_Name (wpAny_loadName_local hkind hs3 F4.ns m1 ?_) (by decide)
  refine set_plain X4 (ox := excObj C t4 none .none) (od := none) ⟨hx4, rfl, rfl, trivial⟩ T.sa ?_
  refine PySem.HandSPX.exc_osa X4 hx4 hcl hve hhd T.vl (fun h' tk' dx k dn dne hx hn => ?_)
  show _root_.PySem.wpAt _ _ _ _ _ _ _
  refine wpAt_of_wpAny (wpAny_execs_nil ?_)
  refine ⟨rfl, h h' tk' (hp.objs.size + 1) dx t4 (fun b o z => k b o ?_ (F4.keep b o z)) (Nat.le_succ _) ?_ dne hx hn⟩
  · exact Nat.ne_of_lt (Nat.lt_succ_of_lt (Heap.lt_size z))
  · exact Nat.le_trans (Nat.le_trans (Nat.le_add_right _ 2) (Nat.le_of_lt F4.ns.lt)) dn
end
end Ow
namespace Ow
open PySem L2
open PySem.W (Frag)

theorem exO_ok {P : Program} {w : World} {H : Hp} {h : Heap} {a C dx t1 : Addr} (he : h.get? a = some (PySem.W.excObj C t1 (some dx) .none)) : ObjOk P w H h a (ExO C dx a) :=
  ⟨⟨_, _, he⟩, ⟨_, he⟩, fun h1 h2 z k => by
    obtain ⟨vs, sl, q⟩ := z
    exact ⟨vs, sl, k _ q⟩⟩
section
variable {X : Cx} {pins : List (Addr × Obj)} {σ : St} {H : Hp} {v : V} {u : Value} {C D fI : Addr}
/-- two new things laid at once -/
theorem inv_exc {hp h' : Heap} {g : Array GenState} {d : Drawn} {t tk : Nat} {os : OsState} {a dx t1 : Addr} (I : Inv X pins σ H ⟨hp, g, d, t, os⟩) (rv : RelV v u)
    (k : ∀ b o, hp.get? b = some o → h'.get? b = some o) (na : hp.objs.size ≤ a) (nd : hp.objs.size ≤ dx) (dne : dx ≠ a) (hx : h'.get? a = some (PySem.W.excObj C t1 (some dx) .none)) (hn : h'.Ns1 dx (fun y => if y = "value" then some u else none)) :
    Inv X pins σ (upd (upd H dx (.xd [("value", v)])) a (ExO C dx a)) ⟨h', g, d, tk, os⟩ := by
  have ha : H a = none := I.hok.fresh na
  have hd : H dx = none := I.hok.fresh nd
  have ne1 : ∀ {b : Addr} {o : Obj}, hp.get? b = some o → b ≠ a := fun {b o} q => Nat.ne_of_lt (Nat.lt_of_lt_of_le (Heap.lt_size q) na)
  have ne2 : ∀ {b : Addr} {o : Obj}, hp.get? b = some o → b ≠ dx := fun {b o} q => Nat.ne_of_lt (Nat.lt_of_lt_of_le (Heap.lt_size q) nd)
  have U : Un X.fs [] H (upd (upd H dx (.xd [("value", v)])) a (ExO C dx a)) hp h' := {
    keep := fun b o q _ _ _ => k b o q
    slot := fun b o q _ _ _ => ⟨o.slots, k b o q⟩
    free := fun b o q n _ => by rw [upd_ne (ne1 q), upd_ne (ne2 q)]; exact n
    there := fun b o q _ => ⟨o, k b o q⟩
    tups := fun b xs q => by rw [upd_ne (ne_of_none q ha), upd_ne (ne_of_none q hd)]; exact q
    frzs := fun b o z q => by rw [upd_ne (ne_of_none q ha), upd_ne (ne_of_none q hd)]; exact q
    tbls := fun b ps q => ⟨#[], by rw [upd_ne (ne_of_none q ha), upd_ne (ne_of_none q hd), q]; simp⟩ }
  refine I.un (t' := tk) U fun b o q => ?_
  by_cases hb : b = a
  · subst hb
    rw [upd_same] at q
    cases q
    exact exO_ok hx
  · rw [upd_ne hb] at q
    by_cases hb' : b = dx
    · subst hb'
      rw [upd_same] at q
      cases q
      exact ⟨_, hn, relO_put (fs := []) rv fun g => True.intro⟩
    · rw [upd_ne hb'] at q
      exact (I.hok b o q).stay (fun c z _ y => k c z y) (fun c hc => by rw [upd_ne (ne_of_none hc ha), upd_ne (ne_of_none hc hd)]; exact hc)
        (fun c xs hc => by rw [upd_ne (ne_of_none hc ha), upd_ne (ne_of_none hc hd)]; exact hc)
end
def eExc (c : Str) (fa : Ev) : Ev := fun ρ M => match fa ρ M with
  | some (.ok (.val d), M1) => some (.ok (.val (.exc c d)), M1)
  | some (.err c v, M1) => some (.err c v, M1)
  | _ => none
section
variable {X : Cx} {W : WX} {e : Expr} {fa : Ev} {p pos : Pos} {C D fI : Addr} {c : Str} {k : Nat}
theorem pe_mkE {ta : TE} (T : ExcC X.K C D fI) (F0 : IniF X.prog X.K X.mg D fI) (hr : Room k X.A) (hg : Gl X c) (hm : X.mg c = some (.ref C)) (he : PE X e ta)
    (hs : starEach [e] X.env = (false, eval e X.env) :: starEach [] X.env := by rfl) (hdb : (c == ("__debug__" : Str)) = false := by decide) :
    PE X (.Call (.Name c p) [e] [] pos) (fun σ H Q => ta σ H fun v H1 => ∀ a dx, H1 a = none → H1 dx = none → dx ≠ a → Q (.ref a) (upd (upd H1 dx (.xd [("value", v)])) a (ExO C dx a))) := by
  refine ⟨fun pins s σ H Q I h => ?_⟩
  refine wpAny_Call_Name_kw (ld_glob I hg hm ?_ hdb)
  refine PySem.W.callWith_K (h₀ := X.base) I.ok.mod.kin T.kC ?_ hs (by rfl)
  rw [hs]
  show wpAny _ _ (spliced ((false, eval e X.env) :: backTo pos (starEach [] X.env))) _ _ s
  refine Calls.spliced_cons (thn (he.run pins s σ H _ I h) fun u s1 ⟨v, H1, I1, r1, q1⟩ => ?_)
  refine Calls.spliced_nil ⟨I1.kIn, ?_⟩
  show wpAny _ _ (call (.ref C) [u]) _ _ _
  obtain ⟨hp, g, dr, tk, os⟩ := s1
  refine exc_make T F0 I1.ok.mod I1.bk (by have := hr.dp; omega) fun h' tk' a dx t1 k na nd dne hx hn => ?_
  exact ⟨.ref a, _, inv_exc I1 r1 k na nd dne hx hn, rfl, q1 a dx (I1.hok.fresh na) (I1.hok.fresh nd) dne⟩
theorem same_two {H : Hp} {a dx : Addr} {o1 o2 : HO} (ha : H a = none) (hd : H dx = none) : Same H (upd (upd H dx o1) a o2) := fun b u e => by rw [upd_ne (ne_of_none e ha), upd_ne (ne_of_none e hd)]; exact e
theorem de_exc (T : ExcC X.K C D fI) (F0 : IniF X.prog X.K X.mg D fI) (hr : Room k X.A) (hm : X.mg c = some (.ref C)) (ha : DE X W e fa) (hg : Gl X c := by rfl)
    (hs : starEach [e] X.env = (false, eval e X.env) :: starEach [] X.env := by rfl) (hdb : (c == ("__debug__" : Str)) = false := by decide) : DE X W (.Call (.Name c p) [e] [] pos) (eExc c fa) := by
  refine pe_weak (pe_mkE T F0 hr hg hm ha hs hdb) fun σ H Q h => ?_
  obtain ⟨B, φ, ρ, M, r', M', R, S, e, q⟩ := h
  unfold eExc at e
  split at e
  · rename_i d M1 ea
    cases e
    refine ⟨B, φ, ρ, M, _, _, R, S, ea, fun v H1 φ1 E1 R1 D1 a dx na nd dne => ?_⟩
    have sm := same_two (o1 := .xd [("value", v)]) (o2 := ExO C dx a) na nd
    refine q _ _ φ1 (E1.trans R R1 (.same sm)) (R1.same sm) ?_
    simp only [RelA, RelD]
    exact ⟨a, C, dx, v, rfl, fun z => R1.bnd_some z na, fun z => R1.bnd_some z nd, hm, upd_same, by rw [upd_ne dne, upd_same], RelD.same sm D1⟩
  · rename_i c v M1 ea
    cases e
    exact ⟨B, φ, ρ, M, _, _, R, S, ea, q⟩
  · cases e
end
end Ow
namespace Ow
open PySem L2
open PySem.W (Frag kitOne findIn subIn clsIn specialIn takesIn mroIn hasDictIn)

/-! ### isinstance -/
inductive Cn where
  | ty (n : String) | ow (c : Str)
def tnames : List String := ["NoneType", "bool", "int", "str", "tuple", "list", "dict"]
def tyN : D → Option String
  | .non => some "NoneType"
  | .bl _ => some "bool"
  | .int _ => some "int"
  | .str _ => some "str"
  | .tup _ => some "tuple"
  | .lst _ => some "list"
  | .scr _ => some "list"
  | .dic _ => some "dict"
  | _ => none
theorem tyN_x {K : Frag} {mg : Str → Option Value} {bn : Ban} {H : Hp} {d : D} {v : V} {n : String} (e : tyN d = some n) (h : RelT K mg bn H d v) : TyX K H v (.type n) := by
  cases d <;> simp only [tyN, Option.some.injEq, reduceCtorEq] at e <;> subst e <;> simp only [RelT, RelD] at h
  · subst h; exact .base .non
  · subst h; exact .base (.bl _)
  · subst h; exact .base (.int _)
  · subst h; exact .base (.str _)
  · obtain ⟨a, xs, rfl, q, _⟩ := h
    rcases q with q | ⟨o, its, n, q, c, _⟩
    · rcases q with q | ⟨o, q⟩
      · exact .base (.tup q)
      · exact .fTuple q
    · exact .kTuple q c
  · obtain ⟨a, xs, rfl, q, _⟩ := h
    exact .base (.lst q)
  · obtain ⟨a, xs, rfl, q, _⟩ := h
    rcases q with q | ⟨o, q⟩
    · exact .base (.dK q)
    · exact .fDict q
  · obtain ⟨a, rfl, q⟩ := h
    rcases q with ⟨_, q⟩ | q
    · rcases q with q | ⟨o, q⟩
      · exact .base (.lst q)
      · exact .base (.frz q)
    · rcases q with q | ⟨o, its, n, q, c, _⟩
      · rcases q with q | ⟨o, q⟩ <;> cases q
      · exact .kList q c
/-- two built-in types -/
def isiB (a b : String) : Option Bool := if tnames.contains a && tnames.contains b then some (a == b || (a == "bool" && b == "int")) else none
theorem isiB_all : (tnames.all fun a => tnames.all fun b => kitB a b == some (a == b || (a == "bool" && b == "int"))) = true := by decide +kernel
theorem isiB_ok {K : Frag} {a b : String} {r : Bool} (h : isiB a b = some r) : kitOne K (.type a) (.type b) = some r := by
  unfold isiB at h
  split at h
  · rename_i hc
    cases h
    obtain ⟨h1, h2⟩ := Bool.and_eq_true_iff.mp hc
    have := List.all_eq_true.mp (List.all_eq_true.mp isiB_all a (List.contains_iff_mem.mp h1)) b (List.contains_iff_mem.mp h2)
    exact kit_ty (beq_iff_eq.mp this)
  · cases h
structure Tab where
  root : Str
  exc : List Str
  own : List Str
def Tab.isE (T : Tab) (c : Str) : Bool := T.exc.contains c
def Tab.isO (T : Tab) (c : Str) : Bool := T.own.contains c
def Tab.has (T : Tab) (c : Str) : Bool := (T.exc ++ T.own).contains c
def relC (T : Tab) : Cn → Cn → Option Bool
  | .ty a, .ty b => isiB a b
  | .ty a, .ow c => if tnames.contains a && T.has c then some false else none
  | .ow c, .ty b => if T.isE c && b == "ValueError" then some true else if T.has c && tnames.contains b then some false else none
  | .ow c, .ow c' => if T.has c && T.has c' then some (c == c' || (T.isE c && c' == T.root)) else none
def cnX (T : Tab) : D → Option Cn
  | .exc c _ => if T.isE c then some (.ow c) else none
  | .obj c _ => if T.isO c then some (.ow c) else none
  | d => match tyN d with
    | some n => some (.ty n)
    | none => none
def cnC : D → Option Cn
  | .ty n => some (.ty n)
  | .glb c => some (.ow c)
  | _ => none
def dIsi (T : Tab) : List D → Option D
  | [x, c] => match cnX T x, cnC c with
    | some p, some q => (match relC T p q with
      | some b => some (.bl b)
      | none => none)
    | _, _ => none
  | _ => none
/-- what the written part says of the classes -/
structure ExcI (K : Frag) (C : Addr) : Prop where
  cl : (clsIn K C).isSome = true
  f : XfC K C
  ca : findIn K (.ref C) "__class__" = some (some (.builtin "object.__class__"))
  cn : specialIn K (.builtin "object.__class__") "__get__" = some (some (.builtin "getset_descriptor.__get__"))
  ct : takesIn K (.builtin "object.__class__") = some true
  cm : mroIn K C (.type "object") = some true
  vl : findIn K (.ref C) "value" = some none
def excIB (K : Frag) (C : Addr) : Bool := (clsIn K C).isSome && xfB K C && decide (findIn K (.ref C) "__class__" = some (some (.builtin "object.__class__"))) &&
  decide (specialIn K (.builtin "object.__class__") "__get__" = some (some (.builtin "getset_descriptor.__get__"))) && decide (takesIn K (.builtin "object.__class__") = some true) && decide (mroIn K C (.type "object") = some true) && decide (findIn K (.ref C) "value" = some none)
theorem excIB_ok {K : Frag} {C : Addr} (h : excIB K C = true) : ExcI K C := by
  unfold excIB at h
  simp only [Bool.and_eq_true, decide_eq_true_eq] at h
  obtain ⟨⟨⟨⟨⟨⟨h1, h2⟩, h3⟩, h4⟩, h5⟩, h6⟩, h7⟩ := h
  exact ⟨h1, xfB_ok h2, h3, h4, h5, h6, h7⟩
def ownIB (K : Frag) (C : Addr) : Bool := PySem.W.plainGet K C Str.empty && PySem.W.isClsIn K C && PySem.W.plainOver K C && decide (findIn K (.ref C) "__setattr__" = some (some (.builtin "object.__setattr__"))) && decide (findIn K (.ref C) "__class__" = some (some (.builtin "object.__class__"))) &&
  decide (specialIn K (.builtin "object.__class__") "__get__" = some (some (.builtin "getset_descriptor.__get__"))) && decide (takesIn K (.builtin "object.__class__") = some true) && decide (mroIn K C (.type "object") = some true)
theorem ownIB_ok {K : Frag} {C : Addr} (h : ownIB K C = true) : SlX.SCls K C ∧ SlX.SIsi K C := by
  unfold ownIB at h
  simp only [Bool.and_eq_true, decide_eq_true_eq] at h
  obtain ⟨⟨⟨⟨⟨⟨⟨h1, h2⟩, h3⟩, h4⟩, h5⟩, h6⟩, h7⟩, h8⟩ := h
  exact ⟨⟨h1, h2, h3, h4⟩, ⟨h5, h6, h7, h8⟩⟩
def relB (K : Frag) (T : Tab) (ad : Str → Addr) : Bool := let all := T.exc ++ T.own
  (tnames.all fun a => all.all fun c => kitOne K (.type a) (.ref (ad c)) == some false) &&
  (T.exc.all fun c => kitOne K (.ref (ad c)) (.type "ValueError") == some true) &&
  (all.all fun c => tnames.all fun b => kitOne K (.ref (ad c)) (.type b) == some false) &&
  (all.all fun c => all.all fun c' => kitOne K (.ref (ad c)) (.ref (ad c')) == some (c == c' || (T.isE c && c' == T.root)))
structure TabOk (K : Frag) (mg : Str → Option Value) (T : Tab) (ad : Str → Addr) : Prop where
  g : ∀ c ∈ T.exc ++ T.own, mg c = some (.ref (ad c))
  e : (T.exc.all fun c => excIB K (ad c)) = true
  o : (T.own.all fun c => ownIB K (ad c)) = true
  r : relB K T ad = true
section
variable {K : Frag} {mg : Str → Option Value} {T : Tab} {ad : Str → Addr}
theorem TabOk.at (O : TabOk K mg T ad) {c : Str} {C : Addr} (h : c ∈ T.exc ++ T.own) (hg : mg c = some (.ref C)) : C = ad c := by
  have z := O.g c h
  rw [hg] at z
  cases z
  rfl
theorem TabOk.isE (O : TabOk K mg T ad) {c : Str} {C : Addr} (h : T.isE c = true) (hg : mg c = some (.ref C)) : C = ad c ∧ c ∈ T.exc ∧ ExcI K C := by
  have hm : c ∈ T.exc := List.contains_iff_mem.mp h
  have e := O.at (List.mem_append_left _ hm) hg
  exact ⟨e, hm, by rw [e]; exact excIB_ok (List.all_eq_true.mp O.e _ hm)⟩
theorem TabOk.isO (O : TabOk K mg T ad) {c : Str} {C : Addr} (h : T.isO c = true) (hg : mg c = some (.ref C)) : SlX.SCls K C ∧ SlX.SIsi K C := by
  have hm : c ∈ T.own := List.contains_iff_mem.mp h
  rw [O.at (List.mem_append_right _ hm) hg]
  exact ownIB_ok (List.all_eq_true.mp O.o _ hm)
theorem TabOk.has (O : TabOk K mg T ad) {c : Str} {C : Addr} (h : T.has c = true) (hg : mg c = some (.ref C)) : C = ad c ∧ c ∈ T.exc ++ T.own :=
  have hm : c ∈ T.exc ++ T.own := List.contains_iff_mem.mp h
  ⟨O.at hm hg, hm⟩
/-- the class of a name -/
def Des (mg : Str → Option Value) : Cn → Value → Prop
  | .ty n, u => u = .type n
  | .ow c, u => ∃ C, u = .ref C ∧ mg c = some (.ref C)
theorem relC_ok (O : TabOk K mg T ad) {p q : Cn} {u v : Value} {b : Bool} (e : relC T p q = some b) (hp : Des mg p u) (hq : Des mg q v) : kitOne K u v = some b := by
  have r := O.r
  unfold relB at r
  simp only [Bool.and_eq_true] at r
  obtain ⟨⟨⟨r1, r2⟩, r3⟩, r4⟩ := r
  cases p with
  | ty a =>
    cases (show u = .type a from hp)
    cases q with
    | ty b' => cases (show v = .type b' from hq); exact isiB_ok e
    | ow c =>
      obtain ⟨C, rfl, gC⟩ := hq
      simp only [relC] at e
      split at e
      · rename_i hc
        cases e
        obtain ⟨h1, h2⟩ := Bool.and_eq_true_iff.mp hc
        obtain ⟨e1, e2⟩ := O.has h2 gC
        rw [e1]
        exact beq_iff_eq.mp (List.all_eq_true.mp (List.all_eq_true.mp r1 a (List.contains_iff_mem.mp h1)) _ e2)
      · cases e
  | ow c =>
    obtain ⟨C, rfl, gC⟩ := hp
    cases q with
    | ty b' =>
      cases (show v = .type b' from hq)
      simp only [relC] at e
      split at e
      · rename_i hc
        cases e
        obtain ⟨h1, h2⟩ := Bool.and_eq_true_iff.mp hc
        obtain ⟨e1, e2, _⟩ := O.isE h1 gC
        rw [beq_iff_eq.mp h2, e1]
        exact beq_iff_eq.mp (List.all_eq_true.mp r2 _ e2)
      · split at e
        · rename_i hc
          cases e
          obtain ⟨h1, h2⟩ := Bool.and_eq_true_iff.mp hc
          obtain ⟨e1, e2⟩ := O.has h1 gC
          rw [e1]
          exact beq_iff_eq.mp (List.all_eq_true.mp (List.all_eq_true.mp r3 _ e2) b' (List.contains_iff_mem.mp h2))
        · cases e
    | ow c' =>
      obtain ⟨C', rfl, gC'⟩ := hq
      simp only [relC] at e
      split at e
      · rename_i hc
        cases e
        obtain ⟨h1, h2⟩ := Bool.and_eq_true_iff.mp hc
        obtain ⟨e1, e2⟩ := O.has h1 gC
        obtain ⟨e3, e4⟩ := O.has h2 gC'
        rw [e1, e3]
        exact beq_iff_eq.mp (List.all_eq_true.mp (List.all_eq_true.mp r4 _ e2) _ e4)
      · cases e
theorem relV_ref {v : V} {C : Addr} (h : RelV v (.ref C)) : v = .ref C := by
  cases v <;> simp [RelV] at h
  rw [h]
theorem cnC_ok {bn : Ban} {H : Hp} {d : D} {v : V} {q : Cn} (O : TabOk K mg T ad) (hq : ∀ c, q = .ow c → T.has c = true) (e : cnC d = some q) (h : RelT K mg bn H d v) : ∃ u, ClsV v u ∧ Des mg q u := by
  cases d <;> simp only [cnC, Option.some.injEq, reduceCtorEq] at e <;> subst e <;> simp only [RelT, RelD] at h
  · subst h; exact ⟨_, .ty _, rfl⟩
  · rename_i c
    obtain ⟨u, gu, ru⟩ := h
    have z := O.g c (List.contains_iff_mem.mp (hq c rfl))
    rw [gu] at z
    cases z
    rw [relV_ref ru]
    exact ⟨_, .own _, _, rfl, gu⟩
theorem relC_has {p q : Cn} {b : Bool} (e : relC T p q = some b) : ∀ c, q = .ow c → T.has c = true := fun c z => by
  subst z
  cases p <;> simp only [relC] at e <;> split at e
  · rename_i h; exact (Bool.and_eq_true_iff.mp h).2
  · cases e
  · rename_i h; exact (Bool.and_eq_true_iff.mp h).2
  · cases e
end
def rIsiE (K : Frag) : List V → Hp → VK → Prop := fun xs H Q => ∃ (a C dx : Addr) (fs : List (Str × V)) (c : V) (u : Value) (b : Bool), xs = [.ref a, c] ∧ ClsV c u ∧ H a = some (ExO C dx a) ∧ H dx = some (.xd fs) ∧ ExcI K C ∧ kitOne K (.ref C) u = some b ∧ Q (.bl b) H
def rIsiO (K : Frag) : List V → Hp → VK → Prop := fun xs H Q => ∃ (a C dx : Addr) (vs : List (Option V)) (c : V) (u : Value) (b : Bool), xs = [.ref a, c] ∧ ClsV c u ∧ SlX.Slt H a C dx vs ∧ SlX.SCls K C ∧ SlX.SIsi K C ∧ kitOne K (.ref C) u = some b ∧ Q (.bl b) H
section
variable {X : Cx} {pins : List (Addr × Obj)} {σ : St} {H : Hp} {s : Shared}
theorem exc_inst {a C dx : Addr} {fs : List (Str × V)} (I : Inv X pins σ H s) (ha : H a = some (ExO C dx a)) (hd : H dx = some (.xd fs)) : ∃ oe od, PySem.W.InstAt s.heap a oe C (some od) ∧ ∀ f v, fs.lookup f = some v → ∃ u, RelV v u ∧ PySem.W.lookIn f od = some (some u) := by
  have x : ObjOk X.prog X.w H s.heap a (.ext fun h => ∃ vs sl, h.get? a = some { cls := .ref C, dict := some dx, data := .fields vs, slots := sl }) := I.hok a _ ha
  obtain ⟨vs, sl, hx⟩ := x.1
  have y : ObjOk X.prog X.w H s.heap dx (.xd fs) := I.hok dx _ hd
  obtain ⟨mA, hns, hr⟩ := y
  obtain ⟨od, ho, hl⟩ := lookIn_ns hns
  refine ⟨_, od, ⟨hx, rfl, rfl, ho⟩, fun f v l => ?_⟩
  obtain ⟨u, hu, ru⟩ := RelO.some_of (v := v) (o := mA f) (by rw [← l]; exact hr f)
  exact ⟨u, ru, by rw [hl, hu]⟩
theorem call_isiE : CallR X (.builtin "isinstance") (rIsiE X.K) := by
  intro pins s σ H xs us Q I r h
  obtain ⟨a, C, dx, fs, c, u, b, rfl, k, ha, hd, T, e, q⟩ := h
  obtain ⟨u1, u2, rfl, r1, r2⟩ := vals2 r
  have e2 := k.eq r2
  subst e2
  cases (show u1 = Value.ref a from r1)
  obtain ⟨oe, od, J, _⟩ := exc_inst I ha hd
  exact PySem.W.kia_one (PySem.W.kitx_exc T.cl T.f.ga T.f.gg T.f.exC T.ca T.cn T.ct T.cm) I.kIn J e (fun z => nomatch z) fun tk => ⟨.bl b, H, I.tok tk, rfl, q⟩
theorem call_isiO : CallR X (.builtin "isinstance") (rIsiO X.K) := by
  intro pins s σ H xs us Q I r h
  obtain ⟨a, C, dx, vs, c, u, b, rfl, k, hsl, hc, hi, hk, q⟩ := h
  refine SlX.call_isiSl u pins s σ H _ us Q I r ⟨a, C, dx, vs, c, b, rfl, ?_, fun w rw' => k.eq rw', hsl, hc, hi, hk, q⟩
  cases k <;> rfl
theorem v_isi {K : Frag} {mg : Str → Option Value} {T : Tab} {ad : Str → Addr} (O : TabOk K mg T ad) : VOpN K mg (fun xs H Q => rIsi K xs H Q ∨ rIsiE K xs H Q ∨ rIsiO K xs H Q) (dIsi T) := by
  intro bn H xs d vs Q hb hx e q
  unfold dIsi at e
  split at e
  · rename_i x c
    split at e
    · rename_i p q' e1 e2
      split at e
      · rename_i b eb
        cases e
        obtain ⟨v, w, rfl, rx, rc⟩ := tl2 hx
        obtain ⟨u, hu, du⟩ := cnC_ok O (relC_has eb) e2 rc
        have fin : Q (.bl b) H := q _ H (.refl _) (by simp only [RelD])
        unfold cnX at e1
        split at e1
        · rename_i c' d'
          split at e1
          · rename_i hE
            cases e1
            simp only [RelT, RelD] at rx
            obtain ⟨a, C, dx, y, rfl, _, _, gC, h1, h2, _⟩ := rx
            exact .inr (.inl ⟨a, C, dx, _, w, u, b, rfl, hu, h1, h2, (O.isE hE gC).2.2, relC_ok O eb ⟨C, rfl, gC⟩ du, fin⟩)
          · cases e1
        · rename_i c' d'
          split at e1
          · rename_i hE
            cases e1
            simp only [RelT] at rx
            obtain ⟨a, C, dx, ys, rfl, gC, h1, _⟩ := rx
            exact .inr (.inr ⟨a, C, dx, _, w, u, b, rfl, hu, h1, (O.isO hE gC).1, (O.isO hE gC).2, relC_ok O eb ⟨C, rfl, gC⟩ du, fin⟩)
          · cases e1
        · split at e1
          · rename_i n en
            cases e1
            exact .inl ⟨v, w, .type n, u, b, rfl, hu, tyN_x en rx, relC_ok O eb rfl du, fin⟩
          · cases e1
      · cases e
    · cases e
  · cases e
end
section
variable {X : Cx} {W : WX} {pos p : Pos} {e o : Expr} {es : List Expr} {fo : Ev} {fs : List Ev} {T : Tab} {ad : Str → Addr}
theorem de_isi (O : TabOk X.K X.mg T ad) (hm : X.mg "isinstance" = none) (ha : DA X W (e :: es) fs) (hgl : Gl X "isinstance" := by rfl) (he : starEach (e :: es) X.env = (false, eval e X.env) :: starEach es X.env := by rfl) (hpl : (backTo pos (starEach es X.env)).any (·.1) = false := by rfl) :
    DE X W (.Call (.Name "isinstance" p) (e :: es) [] pos) (eN (dIsi T) fs) := de_callB (call_isi.or (call_isiE.or call_isiO)) PyProof.Rows.boot_isinstance (v_isi O) hgl hm ha (by decide) (by decide) he hpl
end
end Ow
namespace Ow
open PySem L2
open PySem.W (Frag)

def dNeg : D → Option D
  | .int i => some (.int (-i))
  | _ => none
def dNot (d : D) : Option D := match dTruth d with
  | some b => some (.bl (!b))
  | none => none
/-- e.value of an exception -/
def dValue (T : Tab) : D → Option D
  | .exc c d => if T.isE c then some d else none
  | _ => none
section
variable {X : Cx} {W : WX} {pos : Pos} {a : Expr} {fa : Ev} {T : Tab} {ad : Str → Addr}
theorem v_neg {K : Frag} {mg : Str → Option Value} : VOp1 K mg (rU fun i => .int (-i)) dNeg := by
  intro bn H x d v Q hb hx e q
  cases x <;> simp only [dNeg, Option.some.injEq, reduceCtorEq] at e
  subst e
  simp only [RelT, RelD] at hx
  subst hx
  exact ⟨_, rfl, q _ H (.refl _) (by simp only [RelD])⟩
theorem de_neg (ha : DE X W a fa) : DE X W (.UnaryOp .USub a pos) (e1 dNeg fa) := de_un un_neg v_neg ha
theorem v_not {K : Frag} {mg : Str → Option Value} : VOp1 K mg (fun x H Q => ∃ k, TruV K x H k ∧ Q (.bl (!k)) H) dNot := by
  intro bn H x d v Q hb hx e q
  unfold dNot at e
  split at e
  · rename_i b eb
    cases e
    exact ⟨b, truth_rel eb hx, q _ H (.refl _) (by simp only [RelD])⟩
  · cases e
theorem de_not (ha : DE X W a fa) : DE X W (.UnaryOp .Not a pos) (e1 dNot fa) := pe_weak (pe_notT ha) fun _ _ _ h => t_e1 v_not h
def rVal (K : Frag) : V → Hp → VK → Prop := fun x H Q => ∃ (b C dx : Addr) (fs : List (Str × V)) (v : V), x = .ref b ∧ H b = some (ExO C dx b) ∧ H dx = some (.xd fs) ∧ ExcI K C ∧ List.lookup ("value" : Str) fs = some v ∧ Q v H
theorem pe_value {ta : TE} (he : PE X a ta) (hb : attributeBase a "value" X.env (eval a X.env) = eval a X.env := by rfl) : PE X (.Attribute a "value" pos) (tUn (rVal X.K) ta) := by
  refine ⟨fun pins s σ H Q I h => ?_⟩
  refine attr_of hb (thn (he.run pins s σ H _ I h) fun u s1 hh => ?_)
  obtain ⟨x, H1, I1, rx, b, C, dx, fs, v, ex, h1, h2, T, l, q⟩ := hh
  subst ex
  obtain rfl : u = Value.ref b := rx
  obtain ⟨oe, od, J, hl⟩ := exc_inst I1 h1 h2
  obtain ⟨u, ru, lu⟩ := hl _ _ l
  exact HandSPX.exc_get I1.kIn J T.f.ga T.f.gg T.f.exC (PySem.W.findObj_own T.f.hdC T.vl rfl lu) (handed_of ru) ⟨v, H1, I1.tok _, ru, q⟩
theorem v_value {K : Frag} {mg : Str → Option Value} (O : TabOk K mg T ad) : VOp1 K mg (rVal K) (dValue T) := by
  intro bn H x d v Q hb hx e q
  unfold dValue at e
  split at e
  · rename_i c d'
    split at e
    · rename_i hE
      cases e
      simp only [RelT, RelD] at hx
      obtain ⟨a, C, dx, y, rfl, _, _, gC, h1, h2, r⟩ := hx
      exact ⟨a, C, dx, _, y, rfl, h1, h2, (O.isE hE gC).2.2, rfl, q _ H (.refl _) r⟩
    · cases e
  · cases e
theorem de_value (O : TabOk X.K X.mg T ad) (ha : DE X W a fa) (hb : attributeBase a "value" X.env (eval a X.env) = eval a X.env := by rfl) : DE X W (.Attribute a "value" pos) (e1 (dValue T) fa) := pe_weak (pe_value ha hb) fun _ _ _ h => t_e1 (v_value O) h
end
end Ow
namespace Ow
open PySem PySem.Spec PyProof.Rows L2
open PySem.W (Frag)

/-- nothing but the script is tracked at the law's entry -/
structure Entry (P : Program) (w : World) (K : Frag) (h : Heap) (a : Addr) (H : Hp) : Prop where
  only : ∀ b, H b = none ∨ ∃ o xs, H b = some (.frz o (.lst xs))
  hok : HOk P w H h
  at_ : ∀ b, H b ≠ none → b = a
  out : H a ≠ none → K.lookup a = none
section
variable {P : Program} {w : World} {K : Frag} {mg mb : Str → Option Value} {k : Nat} {fa a : Addr} {fd : FuncData} {x : Str} {fn : Fn} {s₁ : Shared} {vs : List Value} {ns : List Int} {H : Hp}
theorem Entry.dict {o ob : Obj} {b : Addr} {es : Array DictEntry} {ep : Nat} (Y : Entry P w K s₁.heap a H) (ha : s₁.heap.get? a = some ob) (hob : ∀ es ep, ob.data ≠ .dict es ep) (e : s₁.heap.get? b = some o) (d : o.data = .dict es ep) : H b = none := by
  cases q : H b with
  | none => rfl
  | some u =>
    have eb := Y.at_ b (by rw [q]; exact fun z => nomatch z)
    rw [eb, ha] at e
    cases e
    exact absurd d (hob es ep)
/-- the law's run, from its promise -/
theorem lawG (Y : Entry P w K s₁.heap a H) (KX : K.In s₁.heap) (hns : s₁.heap.Ns mainGlobals mg) (hb : s₁.heap.Ns builtinsNs mb) (hbb : ∀ x : Str, x ≠ "__name__" → mb x = bootBuiltins x) (hlim : s₁.heap.NoLimit) (hg : s₁.gens = #[])
    {ob : Obj} (ha : s₁.heap.get? a = some ob) (hob : ∀ es ep, ob.data ≠ .dict es ep) (hr : Room k callerA) (hG : callerA.guards = some [])
    (F : ∀ base : Heap, K.In base → base.Ns mainGlobals mg → FnG P w K mg base k fa fd [x] (spD K mg fn 1)) (hbind : ∀ (s : Shared) (u : Value), BindsTo s fd ⟨[u], []⟩ [(x, u)])
    (rs : RelD K mg (bnd (fun _ => False) [] []) H (.scr ns) (.ref a)) (hfn : fn [.val (.scr ns)] [] = some (.ok (.val (.bl true)), [])) :
    codeAny (model P w) callerA (.call (.ref fa) ⟨[.ref a], []⟩) (fun r s' => r = .ok (.ret (.bool true)) ∧ OldK s₁.heap s'.heap ∧ s'.os = s₁.os ∧ AllBare s'.gens) s₁ := by
  have inB : ∀ {b : Addr} {o : Obj}, s₁.heap.get? b = some o → H b = none → (hidT s₁.heap H).get? b = some o := fun e n => hidT_get e n
  have nsB : ∀ {b : Addr} {m : Str → Option Value}, s₁.heap.Ns b m → (hidT s₁.heap H).Ns b m := fun {b m} ⟨o, es, ep, e, d, r⟩ => ⟨o, es, ep, inB e (Y.dict ha hob e d), d, r⟩
  have kB : K.In (hidT s₁.heap H) := fun b o e => by
    refine inB (KX b o e) ?_
    cases q : H b with
    | none => rfl
    | some u =>
      have n : H b ≠ none := by rw [q]; exact fun z => nomatch z
      have eb := Y.at_ b n
      rw [eb] at n e
      rw [Y.out n] at e
      cases e
  obtain ⟨mc, hl1, hl2⟩ := hlim
  have M0 : Mod K mg (hidT s₁.heap H) := { kin := kB, glob := nsB hns, blt := ⟨mb, nsB hb, hbb⟩, nolimit := ⟨mc, nsB hl1, hl2⟩ }
  have e0 : Env0 P w K mg (hidT s₁.heap H) callerA [] s₁ H :=
    { frames := rfl, mod := M0, bs := fun b o e => of_hidT e, bsz := Nat.le_of_eq (hidT_size _ _), funs := trivial, frf := fun b z => (nomatch (show b ∈ ([] : List Addr) from z)), hok := Y.hok, bare := .of_eq hg }
  have R0 : Rl K mg (fun _ => False) [] [] H := ⟨rfl, List.nodup_nil, fun a z => (nomatch z), fun a z => z.elim, fun n mo a e => by simp at e⟩
  have sp0 : spD K mg fn 1 [.ref a] H (fun v _ => v = .bl true) (fun _ _ _ => False) := by
    refine ⟨rfl, _, [], [.val (.scr ns)], [], _, _, R0, ?_, hfn, fun v H' E1 R1 D1 => ?_⟩
    · simp only [RelAs]
      exact ⟨_, _, rfl, rs, rfl⟩
    · simp only [RelA, RelD] at D1
      exact D1
  have run := (F _ kB (nsB hns)).run callerA [] s₁ H ⟨[.ref a], []⟩ [.ref a] [.ref a] _ _ hr hG e0 (hbind s₁ (.ref a)) (.cons rfl .nil) sp0
  refine codeAny_mono run fun r s' h => ?_
  match r, h with
  | .error e, ⟨_, _, _, _, _, _, _, _, _, _, _, _, z⟩ => exact z.elim
  | .ok .next, z => exact z.elim
  | .ok .brk, z => exact z.elim
  | .ok .cont, z => exact z.elim
  | .ok (.ret u), ⟨v, H', os, bare, un, hok', r', q⟩ =>
    have q' : v = .bl true := q
    subst q'
    obtain rfl : u = Value.bool true := r'
    refine ⟨rfl, OldK.of_keep fun b o e => ?_, os, bare⟩
    rcases Y.only b with z | ⟨o1, xs, z⟩
    · exact un.keep b o e z (fun y => nomatch (show b ∈ ([] : List Addr) from y)) (fun y => nomatch y)
    · have e1 := (Y.hok b _ z).1
      rw [e] at e1
      cases e1
      exact (hok' b _ (un.frzs b _ _ z)).1
/-- the goal that k_head leaves, from the law's promise -/
theorem walkG {l : PySem.W.OpenLaw} {n k : Nat} {q : Program} {loose : List Str} {XP : (Str → Option Value) → Heap → Prop} {YP : World → Heap → Prop} {d : DefRec} {K : Params → Frag} {x : Str} {fn : Fn}
    (hn : l.most = some n) (hn2 : n ≤ sizeLine) (hdf : d.params.defaults = []) (hr : Room k callerA) (hG : callerA.guards = some [])
    (hY : ∀ (w : World) (h : Heap), YP w h → (K w.params).In h)
    (F : ∀ (w : World) (mg : Str → Option Value) (fa : Addr) (h : Heap), (K w.params).In h → h.Ns mainGlobals mg → mg d.name = some (.ref fa) →
      ∃ fd : FuncData, (∀ (s : Shared) (u : Value), BindsTo s fd ⟨[u], []⟩ [(x, u)]) ∧ ∀ base : Heap, (K w.params).In base → base.Ns mainGlobals mg → FnG l.prog w (K w.params) mg base k fa fd [x] (spD (K w.params) mg fn 1))
    (hfn : ∀ ns : List Int, ns.length ≤ n → fn [.val (.scr ns)] [] = some (.ok (.val (.bl true)), [])) :
    PySem.W.WalkO q loose XP YP l.row.toRowW d [] (fun f vs => PySem.call f vs) := by
  refine Att.attach_call hn hdf fun w s₀ s₁ mg mb fa o pm cd doc a vs ns G Y ho hd hcd hmg hobj hints hlen hg => ?_
  have KX := hY w _ Y
  obtain ⟨fd, hb, hF⟩ := F w mg fa _ KX G.T.g hmg
  have rv := vals_ints hints
  have lv := hints.length
  have hz := Nat.le_trans hlen hn2
  have nod : ∀ es ep, ({ cls := .type "list", data := .seq vs.toArray } : Obj).data ≠ .dict es ep := fun es ep z => by cases (show Data.seq vs.toArray _ = Data.dict es ep from z)
  cases hk : (K w.params).lookup a with
  | some o' =>
    have e := KX a o' hk
    rw [hobj] at e
    cases e
    refine lawG (H := fun _ => none) ⟨fun _ => .inl rfl, fun b u z => (nomatch (show (none : Option HO) = some u from z)), fun b z => absurd rfl z, fun z => absurd rfl z⟩ KX G.T.g G.T.b G.T.builtins G.T.nolimit hg hobj nod hr hG hF hb ?_ (hfn ns hlen)
    simp only [RelD]
    exact ⟨a, rfl, .inr (.inr ⟨_, vs.toArray, _, hk, rfl, rfl, rfl, by rw [List.size_toArray, lv]; exact hz, by simpa using rv⟩)⟩
  | none =>
    have yes : ∀ {b : Addr}, b = a → (fun c : Addr => if c = a then some (HO.frz { cls := .type "list", data := .seq vs.toArray } (.lst (ns.map V.int))) else none) b = some (HO.frz { cls := .type "list", data := .seq vs.toArray } (.lst (ns.map V.int))) := fun e => if_pos e
    have no : ∀ {b : Addr}, b ≠ a → (fun c : Addr => if c = a then some (HO.frz { cls := .type "list", data := .seq vs.toArray } (.lst (ns.map V.int))) else none) b = none := fun e => if_neg e
    refine lawG (H := fun c => if c = a then some (HO.frz { cls := .type "list", data := .seq vs.toArray } (.lst (ns.map V.int))) else none) ⟨fun b => ?_, fun b u z => ?_, fun b z => ?_, fun _ => hk⟩ KX G.T.g G.T.b G.T.builtins G.T.nolimit hg hobj nod hr hG hF hb ?_ (hfn ns hlen)
    · by_cases e : b = a
      · exact .inr ⟨_, _, yes e⟩
      · exact .inl (no e)
    · by_cases e : b = a
      · cases (yes e).symm.trans z
        rw [e]
        exact ⟨hobj, by rw [List.length_map]; exact hz, vs, _, rv, hobj⟩
      · cases (no e).symm.trans z
    · by_cases e : b = a
      · exact e
      · exact absurd (no e) z
    · simp only [RelD]
      refine ⟨a, rfl, .inl ⟨?_, .inr ⟨_, yes rfl⟩⟩⟩
      rintro (z | ⟨j, mo, e, _⟩)
      · exact z
      · simp at e
end
end Ow
namespace Ow
open PySem L2
open PyProof.Rows (envOfC)

/-! ### a def that gives a new list, which the caller may change -/
abbrev FnN := List A → Option (List D)
def fnN (n : Nat) (g : Sv) : FnN := fun xs => match g (xs.map some ++ List.replicate (n - xs.length) none) [] with
  | some (.rt (.ref j), _, M') => (match M'[j]? with
    | some (.lst ds) => some ds
    | _ => none)
  | _ => none
def spN (K : PySem.W.Frag) (mg : Str → Option Value) (f : FnN) (n : Nat) : Sp := fun vs H Q _ => vs.length = n ∧ ∃ B xs ds, Rl K mg B [] [] H ∧ RelAs K mg (bnd B [] []) [] H xs vs ∧ f xs = some ds ∧
  ∀ a H', Ex [] [] H [a] [.lst ds] H' → Rl K mg B [a] [.lst ds] H' → Q (.ref a) H'
section
variable {P : Program} {w : World} {K : PySem.W.Frag} {mg : Str → Option Value} {base : Heap} {bn bn' : Ban} {H H' H1 H2 : Hp} {B : Ban} {φ φ' : List Addr} {M M' M1 : Mm}
theorem Rl.pick {n : Nat} {a : Addr} {ds : List D} (R : Rl K mg B φ M H) (e1 : φ[n]? = some a) (e2 : M[n]? = some (.lst ds)) : Rl K mg B [a] [.lst ds] H where
  len := rfl
  nd := List.nodup_cons.mpr ⟨fun z => (nomatch z), List.nodup_nil⟩
  out := fun b h => by
    rw [List.mem_singleton.mp h]
    exact R.out a (List.mem_of_getElem? e1)
  trk := R.trk
  obj := fun j mo b h1 h2 => by
    cases j with
    | succ j => simp at h1
    | zero =>
      simp at h1 h2
      subst h1 h2
      refine (R.obj n _ a e2 e1).less fun b z => ?_
      rcases z with z | ⟨j, mo, q1, q2, q3⟩
      · exact .inl z
      · cases j with
        | succ j => simp at q1
        | zero =>
          simp at q1 q2
          subst q1 q2
          exact .inr ⟨n, _, e1, e2, q3⟩
theorem MOk.add (hb : ∀ a, bn' a → bn a ∨ H a = none) {a : Addr} {mo : MO} (m : MOk K mg bn H a mo) : MOk K mg bn' H a mo := by
  cases mo with
  | lst _ => obtain ⟨xs, e, r⟩ := m; exact ⟨xs, e, r.mono .refl hb⟩
  | dic _ => obtain ⟨xs, e, r⟩ := m; exact ⟨xs, e, r.mono .refl hb⟩
  | dit _ => obtain ⟨xs, e, r⟩ := m; exact ⟨xs, e, r.mono .refl hb⟩
  | obj _ _ => obtain ⟨C, dx, xs, g, e, r⟩ := m; exact ⟨C, dx, xs, g, e, r.mono .refl hb⟩
  | any => exact m
  | gone => exact m
/-- a new list taken into the store -/
theorem Rl.adopt {a : Addr} {ds : List D} (R : Rl K mg B φ M H) (E2 : Ex [] [] H [a] [.lst ds] H2) (R2 : Rl K mg (bnd B φ M) [a] [.lst ds] H2) : Rl K mg B (φ ++ [a]) (M ++ [.lst ds]) H2 ∧ Ex φ M H (φ ++ [a]) (M ++ [.lst ds]) H2 := by
  have na : H a = none := E2.new a List.mem_cons_self (fun z => nomatch z)
  have sm : Same H H2 := fun b o e => E2.keep b o e fun ⟨j, _, q, _⟩ => by simp at q
  have out : a ∉ φ := fun z => R.there z na
  have hbn : ∀ x, bnd B (φ ++ [a]) (M ++ [.lst ds]) x → bnd (bnd B φ M) [a] [.lst ds] x := by
    rintro x (z | ⟨j, mo, q1, q2, q3⟩)
    · exact .inl (.inl z)
    · by_cases hj : j < φ.length
      · rw [List.getElem?_append_left hj] at q1
        rw [List.getElem?_append_left (by rw [← R.len]; exact hj)] at q2
        exact .inl (.inr ⟨j, mo, q1, q2, q3⟩)
      · rw [List.getElem?_append_right (Nat.le_of_not_lt hj)] at q1
        rw [List.getElem?_append_right (by rw [← R.len]; exact Nat.le_of_not_lt hj), ← R.len] at q2
        exact .inr ⟨_, mo, q1, q2, q3⟩
  have hbn2 : ∀ x, bnd B (φ ++ [a]) (M ++ [.lst ds]) x → bnd B φ M x ∨ H x = none := fun x z => by
    rcases hbn x z with z | ⟨j, mo, q1, q2, q3⟩
    · exact .inl z
    · cases j with
      | succ j => simp at q1
      | zero => simp at q1; subst q1; exact .inr na
  refine ⟨⟨by rw [List.length_append, List.length_append, R.len]; rfl, ?_, fun b h => ?_, fun b z => (R.same sm).trk b z, fun n mo b e1 e2 => ?_⟩, ⟨⟨[a], rfl⟩, fun b h n => ?_, fun n h => ?_, fun b o e _ => sm b o e⟩⟩
  · exact List.nodup_append.mpr ⟨R.nd, List.nodup_cons.mpr ⟨fun z => (nomatch z), List.nodup_nil⟩, fun b hb c hc z => out (by rw [← List.mem_singleton.mp hc, ← z]; exact hb)⟩
  · rcases List.mem_append.mp h with h | h
    · exact R.out b h
    · rw [List.mem_singleton.mp h]
      exact fun z => (R.trk a z).1 na
  · by_cases hn : n < φ.length
    · rw [List.getElem?_append_left hn] at e2
      rw [List.getElem?_append_left (by rw [← R.len]; exact hn)] at e1
      exact ((R.obj n mo b e1 e2).add hbn2).same sm
    · rw [List.getElem?_append_right (Nat.le_of_not_lt hn)] at e2
      rw [List.getElem?_append_right (by rw [← R.len]; exact Nat.le_of_not_lt hn), ← R.len] at e1
      exact (R2.obj _ mo b e1 e2).less hbn
  · rcases List.mem_append.mp h with h | h
    · exact absurd h n
    · rw [List.mem_singleton.mp h]; exact na
  · rw [List.getElem?_append_left (List.getElem?_eq_some_iff.mp h).1]; exact h
/-- the rule for such a def -/
theorem fn_N {x qual : Str} {st : Stmt} {f : Addr} {fd : FuncData} {N ps : List Str} {k : Nat} {g : Sv} (F : Fun K x qual st f fd) (S : FnScope N ps (defScope st))
    (hbody : ∀ (cdv : Value) (A : Around) (outer : List Env) (s : Shared) (H : Hp) (E : XK), Room k (A.deeper (envOfC qual (defScope st) s.heap.objs.size f cdv)) → A.guards = some [] →
      DSs (cxD P w K mg base N qual st f cdv A outer s H E) (wxE E) (defBody st) g) : FnG P w K mg base (k + 1) f fd ps (spN K mg (fnN N.length g) ps.length) := by
  obtain ⟨oc, od, kV, doc, pm, an, cdv, ct, osl, rfl, lk, hcd⟩ := F.ex
  refine ⟨fun vs H Q E h => h.1, fun A outer s H args us vs Q E hr hG e0 hbi rv hsp => ?_⟩
  obtain ⟨hlen, B, xs, ds, R, rx, e, q⟩ := hsp
  have kIn0 : K.In s.heap := e0.mod.kin.keeps fun b o z => (e0.bs b o z).1
  have lim0 : s.heap.NoLimit := e0.mod.nolimit.keeps fun b o z => (e0.bs b o z).1
  refine codeAny_call_function hr.depth (kIn0 _ _ lk) rfl S.co S.gen rfl (PySem.W.codeRec_of kIn0 hcd) (hbi _ _ _ _ ?_)
  refine wpAny_newFunctionEnv_cells S.kind (fun y hy => ?_) fun env he s1 x1 => ?_
  · obtain ⟨n, u⟩ := y
    exact (S.par n (List.of_mem_zip hy).1).imp id fun z => ⟨z, PySem.W.cellsFrom_some _ _ _ (.inl z)⟩
  subst he
  refine ⟨lim0.keeps x1.toInCall.keep, codeAny_func ?_⟩
  have I : Inv (cxD P w K mg base N qual st f cdv A outer s H E) [] (start N vs) H s1 := inv_start S hr.hd e0 hlen rv x1
  have ht := hbody cdv A outer s H E (hr.deeper _) hG
  unfold fnN at e
  split at e
  · rename_i j ρ1 M1 eg
    split at e
    · rename_i ds' ed
      cases e
      have hgo : tDS K mg (wxE E) g { nx := fun _ _ => False, rt := Q } (start N vs) H := by
        refine ⟨B, [], _, [], _, _, _, R, sl_start (N := N) rx, eg, fun v H' φ' E1 R1 D1 => ?_⟩
        obtain ⟨a, ea, rfl⟩ := D1
        refine q a H' ⟨⟨[a], rfl⟩, fun b hb n => E1.new b (by rw [List.mem_singleton.mp hb]; exact List.mem_of_getElem? ea) n, fun n h => by simp at h, E1.keep⟩ (R1.pick ea ed)
      refine wpAny_mono (ht.run [] s1 (start N vs) H _ I hgo) (fun fl s' hs => ?_) fun u s' hs => hs
      match fl, hs with
      | .ret u, ⟨v, σ', H', J, rv, q⟩ => exact ⟨v, H', J.os, J.bare, J.base, J.hok, rv, q⟩
      | .next, ⟨_, _, _, z⟩ => exact z.elim
      | .brk, ⟨_, _, _, z⟩ => exact z.elim
      | .cont, ⟨_, _, _, z⟩ => exact z.elim
    · cases e
  · cases e
def allVal : List A → Bool
  | [] => true
  | .val _ :: r => allVal r
  | .ref _ :: _ => false
theorem rel_val : ∀ {xs : List A} {vs : List V}, allVal xs = true → (∀ a, bn' a → bn a) → RelAs K mg bn φ H xs vs → RelAs K mg bn' [] H xs vs
  | [], _, _, _, h => h
  | .val d :: r, _, e, hb, h => by
    simp only [RelAs] at h ⊢
    obtain ⟨u, us, rfl, r1, r2⟩ := h
    exact ⟨u, us, rfl, RelD.mono .refl (fun a z => .inl (hb a z)) r1, rel_val e hb r2⟩
end
def eCallN (f : FnN) (fs : List Ev) : Ev := fun ρ M => match evs fs ρ M with
  | some (.oks xs, M1) => if allVal xs then (match f xs with
    | some ds => some (.ok (.ref M1.length), M1 ++ [.lst ds])
    | none => none) else none
  | some (.err c v, M1) => some (.err c v, M1)
  | none => none
section
variable {X : Cx} {W : WX} {pos p : Pos} {e : Expr} {es : List Expr} {fs : List Ev} {k n : Nat} {fa : Addr} {fd : FuncData} {ps : List Str} {f : FnN} {x : Str}
theorem de_callN (F : FnG X.prog X.w X.K X.mg X.base k fa fd ps (spN X.K X.mg f n)) (hr : Room k X.A) (hG : X.A.guards = some []) (tk : Takes X W) (hg : Gl X x) (hm : X.mg x = some (.ref fa)) (hk : PySem.W.keepIn X.K (.ref fa) = true) (hb : Binds X.K fd ps [])
    (ha : DA X W (e :: es) fs) (hn : fs.length = n := by rfl) (hdb : (x == ("__debug__" : Str)) = false := by decide) (he : starEach (e :: es) X.env = (false, eval e X.env) :: starEach es X.env := by rfl) (hpl : (backTo pos (starEach es X.env)).any (·.1) = false := by rfl) :
    DE X W (.Call (.Name x p) (e :: es) [] pos) (eCallN f fs) := by
  refine pe_weak (pe_callG F hr hG tk hg hm hk hb ha hdb he hpl) fun σ H Q h => ?_
  obtain ⟨B, φ, ρ, M, r', M', R, S, e, q⟩ := h
  unfold eCallN at e
  split at e
  · rename_i xs M1 ea
    split at e
    · rename_i hv
      split at e
      · rename_i ds ef
        cases e
        refine ⟨B, φ, ρ, M, _, _, R, S, ea, fun vs H1 φ1 E1 R1 D1 => ?_⟩
        have hlen : vs.length = n := by rw [← hn, ← evs_len ea]; exact D1.len.symm
        have R0 : Rl X.K X.mg (bnd B φ1 M1) [] [] H1 := ⟨rfl, List.nodup_nil, fun a z => (nomatch z), fun a z => ⟨R1.bnd_some z, R1.bnd_notup z⟩, fun n mo a z => by simp at z⟩
        refine ⟨hlen, _, xs, ds, R0, rel_val hv (fun a z => ?_) D1, ef, fun a H2 E2 R2 => ?_⟩
        · rcases z with z | ⟨_, _, z, _⟩
          · exact z
          · simp at z
        · obtain ⟨R3, E3⟩ := R1.adopt E2 R2
          refine q _ H2 _ (E1.trans R R1 E3) R3 ⟨a, ?_, rfl⟩
          rw [← R1.len, List.getElem?_append_right (Nat.le_refl _), Nat.sub_self]
          rfl
      · cases e
    · cases e
  · rename_i c v M1 ea
    cases e
    exact ⟨B, φ, ρ, M, _, _, R, S, ea, q⟩
  · cases e
end
end Ow
namespace Ow
open PySem L2
open PySem.W (Frag findIn subIn clsIn mroIn keepIn typeIn)

/-- what ExcC asks, to be computed -/
def excCB (K : Frag) (D fI C : Addr) : Bool :=
  PySem.W.excInitIn K C veTail "ValueError.__new__" && ((clsIn K C).any fun cd => HandSPX.refsVE cd.mro && cd.hasDict) &&
  decide (findIn K (.ref C) "__init__" = some (some (.ref fI))) && decide (findIn K (.ref C) "__setattr__" = some (some (.builtin "object.__setattr__"))) && decide (findIn K (.ref C) "value" = some none) &&
  decide (PySem.W.ks_superIn K C D "__init__" = some (some (.builtin "ValueError.__init__"))) && decide (subIn K (.ref C) (.type "ValueError") = some true) && decide (subIn K (.ref C) (.type "BaseException") = some true) &&
  decide (mroIn K C (.ref D) = some true) && keepIn K (.ref C) && decide (typeIn K (.ref C) = some (.type "type")) &&
  decide (findIn K (.ref C) "__getattribute__" = some (some (.builtin "BaseException.__getattribute__"))) && decide (findIn K (.ref C) "__getattr__" = some none)
theorem excCB_ok {K : Frag} {D fI C : Addr} (h : excCB K D fI C = true) : ExcC K C D fI := by
  unfold excCB at h
  simp only [Bool.and_eq_true, decide_eq_true_eq, Option.any_eq_true] at h
  obtain ⟨⟨⟨⟨⟨⟨⟨⟨⟨⟨⟨⟨h1, h2⟩, h3⟩, h4⟩, h5⟩, h6⟩, h7⟩, h8⟩, h9⟩, h10⟩, h11⟩, h12⟩, h13⟩ := h
  obtain ⟨cd, e1, e2, e3⟩ := h2
  exact ⟨h1, ⟨cd, e1, e2, e3⟩, h3, h4, h5, h6, h7, h8, h9, h10, h11, h12, h13⟩
/-- a global's address, as the written part has it -/
def adK (K : Frag) (c : Str) : Addr := match PySem.W.nsIn K mainGlobals c with
  | some (some (.ref C)) => C
  | _ => 0
def isRefK (K : Frag) (c : Str) : Bool := match PySem.W.nsIn K mainGlobals c with
  | some (some (.ref _)) => true
  | _ => false
theorem isRefK_ok {K : Frag} {h : Heap} {mg : Str → Option Value} {c : Str} (X : K.In h) (G : h.Ns mainGlobals mg) (e : isRefK K c = true) : mg c = some (.ref (adK K c)) := by
  unfold isRefK at e
  split at e
  · rename_i C q
    rw [PySem.W.mg_of X G q]
    unfold adK
    rw [q]
  · cases e
/-- all classes at once -/
def clsB (K : Frag) (T : Tab) (fI : Addr) : Bool :=
  ((T.exc ++ T.own).all fun c => isRefK K c) && (T.exc.all fun c => excCB K (adK K T.root) fI (adK K c)) && (T.exc.all fun c => excIB K (adK K c)) && (T.own.all fun c => ownIB K (adK K c)) && relB K T (adK K)
structure ClsAll (K : Frag) (mg : Str → Option Value) (T : Tab) (fI : Addr) : Prop where
  g : ∀ {c}, c ∈ T.exc ++ T.own → mg c = some (.ref (adK K c))
  x : ∀ {c}, c ∈ T.exc → ExcC K (adK K c) (adK K T.root) fI
  t : TabOk K mg T (adK K)
theorem clsAll_of {K : Frag} {h : Heap} {mg : Str → Option Value} {T : Tab} {fI : Addr} (X : K.In h) (G : h.Ns mainGlobals mg) (e : clsB K T fI = true) : ClsAll K mg T fI := by
  unfold clsB at e
  simp only [Bool.and_eq_true] at e
  obtain ⟨⟨⟨⟨e1, e2⟩, e3⟩, e4⟩, e5⟩ := e
  have g : ∀ {c}, c ∈ T.exc ++ T.own → mg c = some (.ref (adK K c)) := fun {c} hc => isRefK_ok X G (List.all_eq_true.mp e1 c hc)
  exact ⟨g, fun {c} hc => excCB_ok (List.all_eq_true.mp e2 c hc), ⟨fun c hc => g hc, e3, e4, e5⟩⟩
theorem ClsAll.gx {K : Frag} {mg : Str → Option Value} {T : Tab} {fI : Addr} (O : ClsAll K mg T fI) {c : Str} (h : c ∈ T.exc) : mg c = some (.ref (adK K c)) := O.g (List.mem_append_left _ h)
end Ow
namespace Ow
open PySem L2

/-! ### running the plain functions -/
section
variable {ρ ρ' ρ1 : Sl} {M M' M1 M2 : Mm} {g h : Sv} {r : Option (Fl × Sl × Mm)} {c : Et} {f fa fb : Ev} {x y : A} {d d' d1 d2 : D} {ds : List D} {i j : Nat}
theorem sq (e : g ρ M = some (.nx, ρ', M')) (k : h ρ' M' = r) : sSeq g h ρ M = r := by
  unfold sSeq; rw [e]; exact k
theorem sq_rt (e : g ρ M = some (.rt x, ρ', M')) : sSeq g h ρ M = some (.rt x, ρ', M') := by
  unfold sSeq; rw [e]
theorem sif_t (e : c ρ M = some (.tt true, M')) (k : g ρ M' = r) : sIf c g h ρ M = r := by
  unfold sIf; rw [e]; exact k
theorem sif_f (e : c ρ M = some (.tt false, M')) (k : h ρ M' = r) : sIf c g h ρ M = r := by
  unfold sIf; rw [e]; exact k
theorem sset (e : f ρ M = some (.ok x, M')) : sSet i f ρ M = some (.nx, ρ.set i (some x), M') := by
  unfold sSet; rw [e]
theorem sret (e : f ρ M = some (.ok x, M')) : sRet f ρ M = some (.rt x, ρ, M') := by
  unfold sRet; rw [e]
theorem sexpr (e : f ρ M = some (.ok x, M')) : sExpr f ρ M = some (.nx, ρ, M') := by
  unfold sExpr; rw [e]
theorem ev (e : ρ[i]? = some (some x)) : eV i ρ M = some (.ok x, M) := by
  unfold eV; rw [e]
theorem e2v {o : D → D → Option D} (ea : fa ρ M = some (.ok (.val d1), M1)) (eb : fb ρ M1 = some (.ok (.val d2), M2)) (eo : o d1 d2 = some d) : e2 o fa fb ρ M = some (.ok (.val d), M2) := by
  unfold e2; rw [ea]; dsimp only; rw [eb]; simp only [pk, eo]
theorem e1v {o : D → Option D} (ea : fa ρ M = some (.ok (.val d1), M1)) (eo : o d1 = some d) : e1 o fa ρ M = some (.ok (.val d), M1) := by
  unfold e1; rw [ea]; simp only [pk, eo]
theorem et {b : Bool} (ea : fa ρ M = some (.ok (.val d), M1)) (eo : dTruth d = some b) : eT fa ρ M = some (.tt b, M1) := by
  unfold eT; rw [ea]; simp only [pk, eo]
theorem eand_t {t1 t2 : Et} {r : Option (Rb × Mm)} (e : t1 ρ M = some (.tt true, M1)) (k : t2 ρ M1 = r) : eAnd t1 t2 ρ M = r := by
  unfold eAnd; rw [e]; exact k
theorem eand_f {t1 t2 : Et} (e : t1 ρ M = some (.tt false, M1)) : eAnd t1 t2 ρ M = some (.tt false, M1) := by
  unfold eAnd; rw [e]
theorem eor_f {t1 t2 : Et} {r : Option (Rb × Mm)} (e : t1 ρ M = some (.tt false, M1)) (k : t2 ρ M1 = r) : eOr t1 t2 ρ M = r := by
  unfold eOr; rw [e]; exact k
theorem enot {t : Et} {b : Bool} (e : t ρ M = some (.tt b, M1)) : eNot t ρ M = some (.tt (!b), M1) := by
  unfold eNot; rw [e]
theorem eif_t {r : Option (Rs × Mm)} (e : c ρ M = some (.tt true, M1)) (k : fa ρ M1 = r) : eIf c fa fb ρ M = r := by
  unfold eIf; rw [e]; exact k
theorem eif_f {r : Option (Rs × Mm)} (e : c ρ M = some (.tt false, M1)) (k : fb ρ M1 = r) : eIf c fa fb ρ M = r := by
  unfold eIf; rw [e]; exact k
theorem evs_nil : evs [] ρ M = some (.oks [], M) := rfl
theorem evs_cons {fs : List Ev} {xs : List A} (e : f ρ M = some (.ok x, M1)) (k : evs fs ρ M1 = some (.oks xs, M2)) : evs (f :: fs) ρ M = some (.oks (x :: xs), M2) := by
  unfold evs; rw [e]; simp only [k]
theorem en1 {o : List D → Option D} (e : f ρ M = some (.ok (.val d1), M1)) (eo : o [d1] = some d) : eN o [f] ρ M = some (.ok (.val d), M1) := by
  unfold eN; rw [evs_cons e evs_nil]; simp only [pks, pk, eo]
theorem en2 {o : List D → Option D} (ea : fa ρ M = some (.ok (.val d1), M1)) (eb : fb ρ M1 = some (.ok (.val d2), M2)) (eo : o [d1, d2] = some d) : eN o [fa, fb] ρ M = some (.ok (.val d), M2) := by
  unfold eN; rw [evs_cons ea (evs_cons eb evs_nil)]; simp only [pks, pk, eo]
theorem ecall {fn : Fn} {fs : List Ev} {xs : List A} {r : Option (Rs × Mm)} (e : evs fs ρ M = some (.oks xs, M1)) (k : callOn fn xs M1 = r) : eCall fn fs ρ M = r := by
  unfold eCall; rw [e]; exact k
theorem ecallN {fn : FnN} {fs : List Ev} {xs : List A} {ds : List D} (e : evs fs ρ M = some (.oks xs, M1)) (hv : allVal xs = true) (k : fn xs = some ds) : eCallN fn fs ρ M = some (.ok (.ref M1.length), M1 ++ [.lst ds]) := by
  unfold eCallN; rw [e]; simp only [hv, if_true, k]
theorem fnd_val {n : Nat} {xs : List A} (e : g (xs.map some ++ List.replicate (n - xs.length) none) M = some (.rt (.val d), ρ', M')) (hl : M'.length = M.length) : fnD n g xs M = some (.ok (.val d), M') := by
  unfold fnD; rw [e]; simp only [outA]; rw [← hl, List.take_length]
theorem refs_val : ∀ {xs : List A}, allVal xs = true → refsOf xs = []
  | [], _ => rfl
  | .val _ :: r, h => refs_val (xs := r) h
theorem ren_val {ns : List Nat} : ∀ {xs : List A}, allVal xs = true → xs.map (ren ns) = xs
  | [], _ => rfl
  | .val d :: r, h => by rw [List.map_cons, ren_val (xs := r) h]; rfl
/-- a call with one thing of the store -/
theorem callJ {fn : Fn} {xs : List A} {mo mo' : MO} (hv : allVal xs = true) (hj : M[j]? = some mo) (ho : okArg mo = true) (e : fn (.ref 0 :: xs) [mo] = some (.ok (.val d), [mo'])) : callOn fn (.ref j :: xs) M = some (.ok (.val d), M.set j mo') := by
  have hr : refsOf (.ref j :: xs) = [j] := by
    unfold refsOf; rw [refs_val hv]; rfl
  unfold callOn
  rw [hr]
  have hs : selM M [j] = some [mo] := by
    simp only [selM, hj, ho, if_true]
  rw [hs]
  have hm : (A.ref j :: xs).map (ren [j]) = .ref 0 :: xs := by
    rw [List.map_cons, ren_val hv]
    simp [ren]
  dsimp only
  rw [hm, e]
  rfl
/-- a call with data alone -/
theorem callV {fn : Fn} {xs : List A} (hv : allVal xs = true) (e : fn xs [] = some (.ok (.val d), [])) : callOn fn xs M = some (.ok (.val d), M) := by
  unfold callOn
  rw [refs_val hv]
  simp only [selM]
  rw [ren_val hv, e]
  rfl
theorem est {gg : List D → Mm → Option (A × Mm)} {fs : List Ev} {xs : List A} {ds : List D} (e : evs fs ρ M = some (.oks xs, M1)) (hv : vals xs = some ds) (k : gg ds M1 = some (x, M2)) : eSt gg fs ρ M = some (.ok x, M2) := by
  unfold eSt; rw [e]; simp only [hv, k]
theorem sputl {fv fo fi : Ev} {M3 : Mm} {n k : Nat} {ix : Int} {xs : List D} (ev : fv ρ M = some (.ok (.val d), M1)) (eo : fo ρ M1 = some (.ok (.ref n), M2)) (ei : fi ρ M2 = some (.ok (.val (.int ix)), M3)) (em : M3[n]? = some (.lst xs))
    (ex : ixN xs.length ix = some k) : sPutL fv fo fi ρ M = some (.nx, ρ, M3.set n (.lst (xs.set k d))) := by
  unfold sPutL; rw [ev]; dsimp only; rw [eo]; dsimp only; rw [ei]; dsimp only; rw [em]; dsimp only; rw [ex]
theorem dI2_ok {c : Int → Int → Bool} {g : Int → Int → D} {i j : Int} (h : c i j = true) : dI2 c g (.int i) (.int j) = some (g i j) := by
  simp only [dI2, h, if_true]
theorem di_mod {i j : Int} (h : 0 < j) : dMod (.int i) (.int j) = some (.int (i % j)) := dI2_ok (decide_eq_true h)
theorem di_fdiv {i j : Int} (h : 0 < j) (h2 : j.natAbs.log2 < 9000) : dFdiv (.int i) (.int j) = some (.int (i / j)) := dI2_ok (by rw [decide_eq_true h, decide_eq_true h2]; rfl)
theorem di_mul {i j : Int} (h : i.natAbs.log2 + j.natAbs.log2 < 1000000) : dMul (.int i) (.int j) = some (.int (i * j)) := dI2_ok (decide_eq_true h)
theorem di_pow {i j : Int} (h : 0 ≤ j) (h2 : ((i.natAbs.log2 + 1 : Nat) : Int) * j ≤ 2 ^ 27) : dPow (.int i) (.int j) = some (.int (i ^ j.toNat)) := dI2_ok (by rw [decide_eq_true h, decide_eq_true h2]; rfl)
theorem spar {fs : List Ev} (e : evs fs ρ M = some (.oks [x, y], M1)) : sPar i j fs ρ M = some (.nx, (ρ.set i (some x)).set j (some y), M1) := by
  unfold sPar; rw [e]
theorem sfor {fi : Ei} {t : Tg} {ds : List D} (e : fi ρ M = some (.its ds, M1)) (k : forL t g ds ρ M1 = r) : sFor fi t g ρ M = r := by
  unfold sFor; rw [e]; exact k
theorem forl_cons {t : Tg} {ds : List D} (e1 : t d ρ = some ρ1) (e2 : g ρ1 M = some (.nx, ρ', M')) (k : forL t g ds ρ' M' = r) : forL t g (d :: ds) ρ M = r := by
  unfold forL; rw [e1]; dsimp only; rw [e2]; exact k
theorem eil (e : f ρ M = some (.ok (.val (.lst ds)), M1)) : eiL f ρ M = some (.its ds, M1) := by
  unfold eiL; rw [e]
theorem fnd_nil {n : Nat} {xs : List A} (e : g (xs.map some ++ List.replicate (n - xs.length) none) [] = some (.rt (.val d), ρ', M')) : fnD n g xs [] = some (.ok (.val d), []) := by
  unfold fnD; rw [e]; simp [outA]
theorem lc_cons {t : Tg} {c : Et} {e : Ev} {ds acc : List D} {q : Option (List D × Mm)} (e1 : t d ρ = some ρ1) (e2 : c ρ1 M = some (.tt true, M1)) (e3 : e ρ1 M1 = some (.ok (.val d'), M2)) (hz : acc.length < sizeLine) (k : lcL t c e ρ ds M2 (acc ++ [d']) = q) : lcL t c e ρ (d :: ds) M acc = q := by
  unfold lcL; rw [e1]; dsimp only; rw [e2]; dsimp only; rw [e3]; dsimp only; rw [if_pos hz]; exact k
theorem elc {vs : List Nat} {fi : Ei} {t : Tg} {c : Et} {e : Ev} {ds acc : List D} (e1 : fi ρ M = some (.its ds, M1)) (e2 : lcL t c e (wipeA ρ vs) ds M1 [] = some (acc, M2)) : eLc vs fi t c e ρ M = some (.ok (.val (.lst acc)), M2) := by
  unfold eLc; rw [e1]; dsimp only; rw [e2]
end
theorem atI_mem {α : Type} {xs : List α} {i : Int} (h0 : 0 ≤ i) (h1 : i < xs.length) : ∃ x, atI xs i = some x ∧ x ∈ xs := by
  have hl : i.toNat < xs.length := by omega
  refine ⟨xs[i.toNat], ?_, List.getElem_mem hl⟩
  unfold atI ixN
  rw [if_pos h0, if_pos h1]
  simp [List.getElem?_eq_getElem hl]
theorem log2_small {n k : Nat} (h : n < 2 ^ k) (hk : 0 < k) : n.log2 < k := by
  by_cases hn : n = 0
  · subst hn; simpa using hk
  · exact (Nat.log2_lt hn).mpr h
end Ow
namespace L
open PySem L2 Ow
open PySem.W (Frag)

abbrev P0 : Program := PySem.Challenge.pw_whotakes_k00_errors_and_what_they_keep
def top (i : Nat) : Stmt := P0.main.body.getD i (.Pass ⟨0, 0, 0, 0⟩)
def tab : Tab := { root := "TakeError", exc := ["TakeError", "BadTongue", "NoSign", "BadLadder", "NoMeeting", "BadTree", "BadPhrase", "BadBook", "OtherTongue", "BadFact", "Full", "NoFact", "BadFacts", "BadClaims", "NoLadder", "TooMany", "BadNumber", "BadPhrases", "Contrary", "NothingToUndo", "NothingToRedo", "NoTrial", "BadJournal", "BadLine"], own := [] }
abbrev s_pot : Stmt := top 26
abbrev N_pot : List Str := ["_law_script", "_law_place", "_law_cell", "_law_own", "_law_small"]
abbrev p_pot : List Str := ["_law_script", "_law_place"]
def g_pot : Sv := (sSeq (sSet 2 (eIf (eT (e2 dLt (eV 1) (eN dLen [(eV 0)]))) (e2 dIx (eV 0) (eV 1)) (e2 dAdd (e2 dMul (eC (.int 311)) (eV 1)) (eC (.int 131)))))
    (sSeq (sSet 3 (e2 dMul (e2 dMod (eN dInt [(eN dAbs [(eV 2)])]) (e2 dPow (e2 dPow (eC (.int 10)) (eC (.int 60))) (eC (.int 5)))) (eN dInt [(e2 dGe (eN dAbs [(eV 2)]) (e2 dPow (eC (.int 10)) (eC (.int 18))))])))
    (sSeq (sSet 4 (e2 dMod (eN dInt [(eV 2)]) (eC (.int 2305843009213693951))))
    (sRet (eSt gLstM [(eV 3), (e2 dMod (eN dInt [(e2 dAdd (e2 dAdd (e2 dMul (eV 4) (eC (.int 86009))) (e2 dMul (e2 dMul (eC (.int 7001)) (eV 1)) (eV 1))) (eC (.int 161)))]) (eC (.int 2305843009213693921))), (eC (.int 0))])))))
def f_pot : FnN := fnN N_pot.length g_pot
abbrev s_take : Stmt := top 27
abbrev N_take : List Str := ["_law_pot_here", "_law_upto", "_law_digit", "_law_prime", "_law_mixed"]
abbrev p_take : List Str := ["_law_pot_here", "_law_upto"]
def g_take : Sv := (sSeq (sIf (eT (e2 dGt (e2 dIx (eV 0) (eC (.int 0))) (eC (.int 0)))) (sSeq (sSet 2 (e2 dMod (eN dInt [(e2 dIx (eV 0) (eC (.int 0)))]) (eV 1)))
    (sSeq (sPutL (e2 dFdiv (e2 dIx (eV 0) (eC (.int 0))) (eV 1)) (eV 0) (eC (.int 0)))
    (sRet (eV 2)))) sNil)
    (sSeq (sPutL (e2 dAdd (e2 dIx (eV 0) (eC (.int 2))) (eC (.int 1))) (eV 0) (eC (.int 2)))
    (sSeq (sSet 3 (e2 dIx (eSt gLst [(eC (.int 2147483647)), (eC (.int 2147483629)), (eC (.int 2147483587)), (eC (.int 2147483579)), (eC (.int 2147483563))]) (e2 dMod (eN dInt [(e2 dIx (eV 0) (eC (.int 2)))]) (eC (.int 5)))))
    (sSeq (sSet 4 (e2 dMod (eN dInt [(e2 dPow (eN dInt [(e2 dAdd (e2 dAdd (e2 dIx (eV 0) (eC (.int 1))) (e2 dMul (e2 dMul (eC (.int 119003)) (e2 dIx (eV 0) (eC (.int 2)))) (e2 dIx (eV 0) (eC (.int 2))))) (eC (.int 91)))]) (eC (.int 3)))]) (eV 3)))
    (sRet (e2 dMod (eN dInt [(e2 dFdiv (e2 dMul (eV 4) (e2 dAdd (e2 dMod (eN dInt [(eV 4)]) (eC (.int 10351))) (e2 dMul (eC (.int 131)) (e2 dIx (eV 0) (eC (.int 2)))))) (eC (.int 127)))]) (eV 1)))))))
def f_take : Fn := fnD N_take.length g_take
abbrev s_of : Stmt := top 28
abbrev N_of : List Str := ["_law_pot_here", "_law_some"]
abbrev p_of : List Str := ["_law_pot_here", "_law_some"]
def g_of (f_take : Fn) : Sv := (sRet (e2 dIx (eV 1) (eCall f_take [(eV 0), (eN dLen [(eV 1)])])))
def f_of : Fn := fnD N_of.length (g_of f_take)
abbrev s_cells : Stmt := top 29
abbrev N_cells : List Str := ["_law_script", "_law_most"]
abbrev p_cells : List Str := ["_law_script", "_law_most"]
def g_cells : Sv := (sRet (e1 dRg1 (eN dMax2 [(eC (.int 1)), (eN dMin2 [(eV 1), (eN dLen [(eV 0)])])])))
def f_cells : Fn := fnD N_cells.length g_cells
abbrev s_odd : Stmt := top 30
abbrev N_odd : List Str := ["_law_pot_here", "_law_some"]
abbrev p_odd : List Str := ["_law_pot_here"]
def g_odd (f_of : Fn) : Sv := (sSeq (sSet 1 (eSt gLst [(eC .non), (eC (.bl true)), (eC (.bl false)), (eC (.int 0)), (eC (.int 1)), (e1 dNeg (eC (.int 1))), (e2 dPow (eC (.int 10)) (eC (.int 8))), (eC (.str "")), (eC (.str "x")), (eC (.str "left")), (eC (.str "not x")), (eSt gTup []), (eSt gLst []), eDic, (eSt gTup [(eC (.int 0))]), (eSt gTup [(eSt gTup [])]), (eSt gLst [(eC (.int 0))]), (eSt gTup [(eC (.str "x")), (eC (.str "y"))])]))
    (sRet (eCall f_of [(eV 0), (e2 dAdd (eV 1) (eSt gLst [(eSt gTup [(eC (.str "takes")), (eC (.str "x")), (eC (.str "y")), (eC (.str "left"))]), (eSt gTup [(eC (.str "read")), (eC (.str "x"))]), (eSt gTup [(eSt gTup [(eC (.str "read")), (eC (.str "x"))])]), (eSt gTup [(eC (.str "told")), (eC (.int 0))]), (eC (.str "never"))]))])))
def f_odd : Fn := fnD N_odd.length (g_odd f_of)
abbrev s_bent : Stmt := top 31
abbrev N_bent : List Str := ["_law_pot_here", "_law_value", "_law_at", "_law_some"]
abbrev p_bent : List Str := ["_law_pot_here", "_law_value"]
def g_bent (f_take : Fn) (f_of : Fn) (f_odd : Fn) (rec : Fn) : Sv := (sSeq (sIf (eAnd (eT (eN (dIsi tab) [(eV 1), (eC (.ty "tuple"))])) (eAnd (eT (e2 dNe (eV 1) (eSt gTup []))) (eT (e2 dGt (eCall f_take [(eV 0), (eC (.int 6))]) (eC (.int 0)))))) (sSeq (sSet 2 (eCall f_take [(eV 0), (eN dLen [(eV 1)])]))
    (sRet (e2 dAdd (e2 dAdd (eSl (eV 1) eNo (eAt (eV 2))) (eSt gTup [(eCall rec [(eV 0), (e2 dIx (eV 1) (eV 2))])])) (eSl (eV 1) (eAt (e2 dAdd (eV 2) (eC (.int 1)))) eNo)))) sNil)
    (sSeq (sIf (eT (eN (dIsi tab) [(eV 1), (eC (.ty "tuple"))])) (sSeq (sSet 3 (eSt gLst [(eN dList [(eV 1)]), (eSl (eV 1) (eAt (eC (.int 1))) eNo), (eSl (eV 1) eNo (eAt (e1 dNeg (eC (.int 1))))), (e2 dAdd (eV 1) (eSl (eV 1) (eAt (e1 dNeg (eC (.int 1)))) eNo)), (e1 dRev (eV 1)), (eSt gTup []), (e2 dAdd (eV 1) (eSt gTup [(eC (.int 0))])), (eC .non)]))
    (sRet (eCall f_of [(eV 0), (eV 3)]))) sNil)
    (sSeq (sIf (eT (eN (dIsi tab) [(eV 1), (eC (.ty "str"))])) (sSeq (sSet 3 (eSt gLst [(e2 dAdd (eV 1) (eC (.str "x"))), (eSl (eV 1) eNo (eAt (e1 dNeg (eC (.int 1))))), (e1 dUpper (eV 1)), (e2 dAdd (eV 1) (eC (.str " "))), (eSt gLst [(eV 1)]), (eC (.str "x")), (eC (.str "left")), (eC (.str "right")), (eC (.str "none"))]))
    (sRet (eCall f_of [(eV 0), (e2 dAdd (eV 3) (eSt gLst [(e2 dAdd (eC (.str "( ")) (eV 1)), (eC .non), (eC (.int 0))]))]))) sNil)
    (sSeq (sIf (eT (eN (dIsi tab) [(eV 1), (eC (.ty "bool"))])) (sRet (eCall f_of [(eV 0), (eSt gLst [(e1 dNot (eV 1)), (eN dInt [(eV 1)]), (eC .non)])])) sNil)
    (sSeq (sIf (eT (eN (dIsi tab) [(eV 1), (eC (.ty "int"))])) (sRet (eCall f_of [(eV 0), (eSt gLst [(e2 dAdd (eV 1) (eC (.int 1))), (e2 dSub (eV 1) (eC (.int 1))), (e2 dEq (eV 1) (eC (.int 1))), (eN dStr [(eV 1)]), (e1 dNeg (eC (.int 1))), (eC (.int 5)), (eC (.int 0)), (eC .non), (eSt gTup [(eV 1)])])])) sNil)
    (sRet (eCall f_odd [(eV 0)])))))))
def r_bent : Nat → Fn
  | 0 => fun _ _ => none
  | n + 1 => fnD N_bent.length (g_bent f_take f_of f_odd (r_bent n))
def f_bent : Fn := r_bent 40
abbrev s_each : Stmt := top 32
abbrev N_each : List Str := ["_law_value", "_law_some"]
abbrev p_each : List Str := ["_law_value"]
def g_each : Sv := (sSeq (sSet 1 (eSt gLstM [(eExc "BadTongue" (eV 0)), (eExc "NoSign" (eV 0)), (eExc "BadLadder" (eV 0)), (eExc "NoMeeting" (eV 0)), (eExc "BadTree" (eV 0)), (eExc "BadPhrase" (eV 0))]))
    (sSeq (sExpr (eMut mExtend (eV 1) [(eSt gLst [(eExc "BadBook" (eV 0)), (eExc "OtherTongue" (eV 0)), (eExc "BadFact" (eV 0)), (eExc "Full" (eV 0)), (eExc "NoFact" (eV 0)), (eExc "BadFacts" (eV 0))])]))
    (sSeq (sExpr (eMut mExtend (eV 1) [(eSt gLst [(eExc "BadClaims" (eV 0)), (eExc "NoLadder" (eV 0)), (eExc "TooMany" (eV 0)), (eExc "BadNumber" (eV 0)), (eExc "BadPhrases" (eV 0))])]))
    (sSeq (sExpr (eMut mExtend (eV 1) [(eSt gLst [(eExc "Contrary" (eV 0)), (eExc "NothingToUndo" (eV 0)), (eExc "NothingToRedo" (eV 0)), (eExc "NoTrial" (eV 0))])]))
    (sRet (e2 dAdd (eV 1) (eSt gLst [(eExc "BadJournal" (eV 0)), (eExc "BadLine" (eV 0))])))))))
def f_each : Fn := fnD N_each.length g_each
abbrev s_marks : Stmt := top 33
abbrev N_marks : List Str := ["_law_one", "_law_some"]
abbrev p_marks : List Str := ["_law_one"]
def g_marks : Sv := (sSeq (sSet 1 (eSt gLstM [(eN (dIsi tab) [(eV 0), (eC (.glb "BadTongue"))]), (eN (dIsi tab) [(eV 0), (eC (.glb "NoSign"))]), (eN (dIsi tab) [(eV 0), (eC (.glb "BadLadder"))])]))
    (sSeq (sExpr (eMut mExtend (eV 1) [(eSt gLst [(eN (dIsi tab) [(eV 0), (eC (.glb "NoMeeting"))]), (eN (dIsi tab) [(eV 0), (eC (.glb "BadTree"))]), (eN (dIsi tab) [(eV 0), (eC (.glb "BadPhrase"))])])]))
    (sSeq (sExpr (eMut mExtend (eV 1) [(eSt gLst [(eN (dIsi tab) [(eV 0), (eC (.glb "BadBook"))]), (eN (dIsi tab) [(eV 0), (eC (.glb "OtherTongue"))]), (eN (dIsi tab) [(eV 0), (eC (.glb "BadFact"))])])]))
    (sSeq (sExpr (eMut mExtend (eV 1) [(eSt gLst [(eN (dIsi tab) [(eV 0), (eC (.glb "Full"))]), (eN (dIsi tab) [(eV 0), (eC (.glb "NoFact"))]), (eN (dIsi tab) [(eV 0), (eC (.glb "BadFacts"))])])]))
    (sSeq (sExpr (eMut mExtend (eV 1) [(eSt gLst [(eN (dIsi tab) [(eV 0), (eC (.glb "BadClaims"))]), (eN (dIsi tab) [(eV 0), (eC (.glb "NoLadder"))]), (eN (dIsi tab) [(eV 0), (eC (.glb "TooMany"))])])]))
    (sSeq (sExpr (eMut mExtend (eV 1) [(eSt gLst [(eN (dIsi tab) [(eV 0), (eC (.glb "BadNumber"))]), (eN (dIsi tab) [(eV 0), (eC (.glb "BadPhrases"))]), (eN (dIsi tab) [(eV 0), (eC (.glb "Contrary"))])])]))
    (sSeq (sExpr (eMut mExtend (eV 1) [(eSt gLst [(eN (dIsi tab) [(eV 0), (eC (.glb "NothingToUndo"))]), (eN (dIsi tab) [(eV 0), (eC (.glb "NothingToRedo"))]), (eN (dIsi tab) [(eV 0), (eC (.glb "NoTrial"))])])]))
    (sRet (e2 dAdd (eV 1) (eSt gLst [(eN (dIsi tab) [(eV 0), (eC (.glb "BadJournal"))]), (eN (dIsi tab) [(eV 0), (eC (.glb "BadLine"))])]))))))))))
def f_marks : Fn := fnD N_marks.length g_marks
abbrev s_right : Stmt := top 34
abbrev N_right : List Str := ["_law_pot_here", "_law_value", "_law_some", "_law_plain", "_law_at", "_law_one", "_law_number"]
abbrev p_right : List Str := ["_law_pot_here"]
def l_right_0 (f_take : Fn) (f_odd : Fn) (f_bent : Fn) (f_each : Fn) (f_marks : Fn) : Sv := (sSeq (sIf (eOr (eT (e2 dNe (eCall f_marks [(eV 5)]) (eLc [6] (eiR1 (eN dLen [(eV 2)])) (gN 6) eYes (e2 dEq (eV 4) (eV 6))))) (eT (e2 dNe (eN dRepr [(e1 (dValue tab) (eV 5))]) (eN dRepr [(eV 1)])))) (sRet (eC (.bl false))) sNil)
    (sIf (eOr (eNot (eT (eN (dIsi tab) [(eV 5), (eC (.glb "TakeError"))]))) (eNot (eT (eN (dIsi tab) [(eV 5), (eC (.ty "ValueError"))])))) (sRet (eC (.bl false))) sNil))
def g_right (f_take : Fn) (f_odd : Fn) (f_bent : Fn) (f_each : Fn) (f_marks : Fn) : Sv := (sSeq (sSet 1 (eCall f_odd [(eV 0)]))
    (sSeq (sSet 1 (eIf (eT (e2 dEq (eCall f_take [(eV 0), (eC (.int 2))]) (eC (.int 0)))) (eCall f_bent [(eV 0), (eV 1)]) (eV 1)))
    (sSeq (sPar 2 3 [(eCall f_each [(eV 1)]), (eExc "TakeError" (eV 1))])
    (sSeq (sFor (eiE (eV 2)) (gT [(gN 4), (gN 5)]) (l_right_0 f_take f_odd f_bent f_each f_marks))
    (sSeq (sIf (eOr (eT (e2 dIn (eC (.bl true)) (eCall f_marks [(eV 3)]))) (eNot (eT (eN (dIsi tab) [(eV 3), (eC (.ty "ValueError"))])))) (sRet (eC (.bl false))) sNil)
    (sRet (e2 dEq (eN dRepr [(e1 (dValue tab) (eV 3))]) (eN dRepr [(eV 1)]))))))))
def f_right : Fn := fnD N_right.length (g_right f_take f_odd f_bent f_each f_marks)
abbrev s_law : Stmt := top 35
abbrev N_law : List Str := ["_law_script", "_law_cell", "_law_pot_here", "_law_lap"]
abbrev p_law : List Str := ["_law_script"]
def l_law_0 (f_pot : FnN) (f_cells : Fn) (f_right : Fn) : Sv := (sSeq (sSet 2 (eCallN f_pot [(eV 0), (eV 1)]))
    (sIf (eNot (eT (eN dAll [(eLc [3] (eiR1 (eC (.int 3))) (gN 3) eYes (eCall f_right [(eV 2)]))]))) (sRet (eC (.bl false))) sNil))
def g_law (f_pot : FnN) (f_cells : Fn) (f_right : Fn) : Sv := (sSeq (sFor (eiL (eCall f_cells [(eV 0), (eC (.int 4))])) (gN 1) (l_law_0 f_pot f_cells f_right))
    (sRet (eC (.bl true))))
def f_law : Fn := fnD N_law.length (g_law f_pot f_cells f_right)
end L
namespace L
open PySem L2 Ow
open PySem.W (Frag)
structure Ad where
  f_init : Addr
  f_pot : Addr
  fd_pot : FuncData
  f_take : Addr
  fd_take : FuncData
  f_of : Addr
  fd_of : FuncData
  f_cells : Addr
  fd_cells : FuncData
  f_odd : Addr
  fd_odd : FuncData
  f_bent : Addr
  fd_bent : FuncData
  f_each : Addr
  fd_each : FuncData
  f_marks : Addr
  fd_marks : FuncData
  f_right : Addr
  fd_right : FuncData
  f_law : Addr
  fd_law : FuncData
structure Tx (K : Frag) (mg : Str → Option Value) (a : Ad) : Prop where
  g_pot : mg "_law_pot" = some (.ref a.f_pot)
  F_pot : Fun K "_law_pot" "_law_pot" s_pot a.f_pot a.fd_pot
  b_pot : Binds K a.fd_pot p_pot []
  g_take : mg "_law_take" = some (.ref a.f_take)
  F_take : Fun K "_law_take" "_law_take" s_take a.f_take a.fd_take
  b_take : Binds K a.fd_take p_take []
  g_of : mg "_law_of" = some (.ref a.f_of)
  F_of : Fun K "_law_of" "_law_of" s_of a.f_of a.fd_of
  b_of : Binds K a.fd_of p_of []
  g_cells : mg "_law_cells" = some (.ref a.f_cells)
  F_cells : Fun K "_law_cells" "_law_cells" s_cells a.f_cells a.fd_cells
  b_cells : Binds K a.fd_cells p_cells []
  g_odd : mg "_law_odd" = some (.ref a.f_odd)
  F_odd : Fun K "_law_odd" "_law_odd" s_odd a.f_odd a.fd_odd
  b_odd : Binds K a.fd_odd p_odd []
  g_bent : mg "_law_bent" = some (.ref a.f_bent)
  F_bent : Fun K "_law_bent" "_law_bent" s_bent a.f_bent a.fd_bent
  b_bent : Binds K a.fd_bent p_bent []
  g_each : mg "_law_each" = some (.ref a.f_each)
  F_each : Fun K "_law_each" "_law_each" s_each a.f_each a.fd_each
  b_each : Binds K a.fd_each p_each []
  g_marks : mg "_law_marks" = some (.ref a.f_marks)
  F_marks : Fun K "_law_marks" "_law_marks" s_marks a.f_marks a.fd_marks
  b_marks : Binds K a.fd_marks p_marks []
  g_right : mg "_law_right" = some (.ref a.f_right)
  F_right : Fun K "_law_right" "_law_right" s_right a.f_right a.fd_right
  b_right : Binds K a.fd_right p_right []
  g_law : mg "law" = some (.ref a.f_law)
  F_law : Fun K "law" "law" s_law a.f_law a.fd_law
  b_law : Binds K a.fd_law p_law []
  z_ValueError : mg "ValueError" = none
  z_abs : mg "abs" = none
  z_all : mg "all" = none
  z_bool : mg "bool" = none
  z_enumerate : mg "enumerate" = none
  z_int : mg "int" = none
  z_isinstance : mg "isinstance" = none
  z_len : mg "len" = none
  z_list : mg "list" = none
  z_max : mg "max" = none
  z_min : mg "min" = none
  z_range : mg "range" = none
  z_repr : mg "repr" = none
  z_str : mg "str" = none
  z_tuple : mg "tuple" = none
  ini : IniF P0 K mg (adK K tab.root) a.f_init
  cls : ClsAll K mg tab a.f_init
theorem m_TakeError : ("TakeError" : Str) ∈ tab.exc := by decide +kernel
theorem m_BadTongue : ("BadTongue" : Str) ∈ tab.exc := by decide +kernel
theorem m_NoSign : ("NoSign" : Str) ∈ tab.exc := by decide +kernel
theorem m_BadLadder : ("BadLadder" : Str) ∈ tab.exc := by decide +kernel
theorem m_NoMeeting : ("NoMeeting" : Str) ∈ tab.exc := by decide +kernel
theorem m_BadTree : ("BadTree" : Str) ∈ tab.exc := by decide +kernel
theorem m_BadPhrase : ("BadPhrase" : Str) ∈ tab.exc := by decide +kernel
theorem m_BadBook : ("BadBook" : Str) ∈ tab.exc := by decide +kernel
theorem m_OtherTongue : ("OtherTongue" : Str) ∈ tab.exc := by decide +kernel
theorem m_BadFact : ("BadFact" : Str) ∈ tab.exc := by decide +kernel
theorem m_Full : ("Full" : Str) ∈ tab.exc := by decide +kernel
theorem m_NoFact : ("NoFact" : Str) ∈ tab.exc := by decide +kernel
theorem m_BadFacts : ("BadFacts" : Str) ∈ tab.exc := by decide +kernel
theorem m_BadClaims : ("BadClaims" : Str) ∈ tab.exc := by decide +kernel
theorem m_NoLadder : ("NoLadder" : Str) ∈ tab.exc := by decide +kernel
theorem m_TooMany : ("TooMany" : Str) ∈ tab.exc := by decide +kernel
theorem m_BadNumber : ("BadNumber" : Str) ∈ tab.exc := by decide +kernel
theorem m_BadPhrases : ("BadPhrases" : Str) ∈ tab.exc := by decide +kernel
theorem m_Contrary : ("Contrary" : Str) ∈ tab.exc := by decide +kernel
theorem m_NothingToUndo : ("NothingToUndo" : Str) ∈ tab.exc := by decide +kernel
theorem m_NothingToRedo : ("NothingToRedo" : Str) ∈ tab.exc := by decide +kernel
theorem m_NoTrial : ("NoTrial" : Str) ∈ tab.exc := by decide +kernel
theorem m_BadJournal : ("BadJournal" : Str) ∈ tab.exc := by decide +kernel
theorem m_BadLine : ("BadLine" : Str) ∈ tab.exc := by decide +kernel
theorem boot_int : bootBuiltins "int" = some (.type "int") := by first | boot_by_name | decide +kernel
theorem boot_str : bootBuiltins "str" = some (.type "str") := by first | boot_by_name | decide +kernel
theorem boot_tuple : bootBuiltins "tuple" = some (.type "tuple") := by first | boot_by_name | decide +kernel
theorem boot_list : bootBuiltins "list" = some (.type "list") := by first | boot_by_name | decide +kernel
theorem boot_bool : bootBuiltins "bool" = some (.type "bool") := by first | boot_by_name | decide +kernel
theorem boot_ValueError : bootBuiltins "ValueError" = some (.type "ValueError") := by first | boot_by_name | decide +kernel
section
variable {w : World} {K : Frag} {mg : Str → Option Value} {base : Heap} {a : Ad}
theorem sc_pot : FnScope N_pot p_pot (defScope s_pot) := ⟨rfl, rfl, rfl, by decide +kernel, rfl, by decide +kernel, by decide +kernel⟩
theorem ok_pot (T : Tx K mg a) : FnG P0 w K mg base 1 a.f_pot a.fd_pot p_pot (spN K mg f_pot p_pot.length) := by
  have nd := sc_pot.nd
  refine fn_N (k := 0) T.F_pot sc_pot fun cdv A outer s H E hr0 hG0 => ?_
  have hr := hr0
  have hG := hG0
  exact (dss_cons (ds_set 2 nd (de_if (dt_lt (de_v 1) (de_len T.z_len (da_cons (de_v 0) da_nil))) (de_sub1 hr (de_v 0) (de_v 1)) (de_add (de_mul de_int (de_v 1)) de_int)))
    (dss_cons (ds_set 3 nd (de_mul (de_mod (de_int1 T.z_int (da_cons (de_abs T.z_abs (da_cons (de_v 2) da_nil)) da_nil)) (de_pow (de_pow de_int de_int) de_int)) (de_int1 T.z_int (da_cons (de_ge (de_abs T.z_abs (da_cons (de_v 2) da_nil)) (de_pow de_int de_int)) da_nil))))
    (dss_cons (ds_set 4 nd (de_mod (de_int1 T.z_int (da_cons (de_v 2) da_nil)) de_int))
    (dss_one (ds_ret (de_lstM (da_cons (de_v 3) (da_cons (de_mod (de_int1 T.z_int (da_cons (de_add (de_add (de_mul (de_v 4) de_int) (de_mul (de_mul de_int (de_v 1)) (de_v 1))) de_int) da_nil)) de_int) (da_cons de_int da_nil)))))))))
theorem sc_take : FnScope N_take p_take (defScope s_take) := ⟨rfl, rfl, rfl, by decide +kernel, rfl, by decide +kernel, by decide +kernel⟩
theorem ok_take (T : Tx K mg a) : FnG P0 w K mg base 1 a.f_take a.fd_take p_take (spD K mg f_take p_take.length) := by
  have nd := sc_take.nd
  refine fn_D (k := 0) T.F_take sc_take fun cdv A outer s H E hr0 hG0 => ?_
  have hr := hr0
  have hG := hG0
  exact (dss_cons (ds_if (dt_gt (de_sub1 hr (de_v 0) de_int) de_int) (dss_cons (ds_set 2 nd (de_mod (de_int1 T.z_int (da_cons (de_sub1 hr (de_v 0) de_int) da_nil)) (de_v 1)))
    (dss_cons (ds_putL (de_fdiv (de_sub1 hr (de_v 0) de_int) (de_v 1)) (de_v 0) de_int)
    (dss_one (ds_ret (de_v 2))))) dss_nil)
    (dss_cons (ds_putL (de_add (de_sub1 hr (de_v 0) de_int) de_int) (de_v 0) de_int)
    (dss_cons (ds_set 3 nd (de_sub1 hr (de_lst (da_cons de_int (da_cons de_int (da_cons de_int (da_cons de_int (da_cons de_int da_nil)))))) (de_mod (de_int1 T.z_int (da_cons (de_sub1 hr (de_v 0) de_int) da_nil)) de_int)))
    (dss_cons (ds_set 4 nd (de_mod (de_int1 T.z_int (da_cons (de_pow (de_int1 T.z_int (da_cons (de_add (de_add (de_sub1 hr (de_v 0) de_int) (de_mul (de_mul de_int (de_sub1 hr (de_v 0) de_int)) (de_sub1 hr (de_v 0) de_int))) de_int) da_nil)) de_int) da_nil)) (de_v 3)))
    (dss_one (ds_ret (de_mod (de_int1 T.z_int (da_cons (de_fdiv (de_mul (de_v 4) (de_add (de_mod (de_int1 T.z_int (da_cons (de_v 4) da_nil)) de_int) (de_mul de_int (de_sub1 hr (de_v 0) de_int)))) de_int) da_nil)) (de_v 1))))))))
theorem sc_of : FnScope N_of p_of (defScope s_of) := ⟨rfl, rfl, rfl, by decide +kernel, rfl, by decide +kernel, by decide +kernel⟩
theorem ok_of (T : Tx K mg a) : FnG P0 w K mg base 2 a.f_of a.fd_of p_of (spD K mg f_of p_of.length) := by
  have nd := sc_of.nd
  refine fn_D (k := 1) T.F_of sc_of fun cdv A outer s H E hr0 hG0 => ?_
  have hr := hr0
  have hG := hG0
  exact (dss_one (ds_ret (de_sub1 hr (de_v 1) (de_call (ok_take T) (hr.mono (by decide)) hG tk_D rfl T.g_take T.F_take.kp T.b_take (da_cons (de_v 0) (da_cons (de_len T.z_len (da_cons (de_v 1) da_nil)) da_nil))))))
theorem sc_cells : FnScope N_cells p_cells (defScope s_cells) := ⟨rfl, rfl, rfl, by decide +kernel, rfl, by decide +kernel, by decide +kernel⟩
theorem ok_cells (T : Tx K mg a) : FnG P0 w K mg base 1 a.f_cells a.fd_cells p_cells (spD K mg f_cells p_cells.length) := by
  have nd := sc_cells.nd
  refine fn_D (k := 0) T.F_cells sc_cells fun cdv A outer s H E hr0 hG0 => ?_
  have hr := hr0
  have hG := hG0
  exact (dss_one (ds_ret (de_listRg rfl T.z_list T.z_range (de_max2 rfl T.z_max (da_cons de_int (da_cons (de_min2 rfl T.z_min (da_cons (de_v 1) (da_cons (de_len T.z_len (da_cons (de_v 0) da_nil)) da_nil))) da_nil))))))
theorem sc_odd : FnScope N_odd p_odd (defScope s_odd) := ⟨rfl, rfl, rfl, by decide +kernel, rfl, by decide +kernel, by decide +kernel⟩
theorem ok_odd (T : Tx K mg a) : FnG P0 w K mg base 3 a.f_odd a.fd_odd p_odd (spD K mg f_odd p_odd.length) := by
  have nd := sc_odd.nd
  refine fn_D (k := 2) T.F_odd sc_odd fun cdv A outer s H E hr0 hG0 => ?_
  have hr := hr0
  have hG := hG0
  exact (dss_cons (ds_set 1 nd (de_lst (da_cons de_non (da_cons de_bl (da_cons de_bl (da_cons de_int (da_cons de_int (da_cons (de_neg de_int) (da_cons (de_pow de_int de_int) (da_cons de_str (da_cons de_str (da_cons de_str (da_cons de_str (da_cons (de_tup da_nil) (da_cons (de_lst da_nil) (da_cons de_dic (da_cons (de_tup (da_cons de_int da_nil)) (da_cons (de_tup (da_cons (de_tup da_nil) da_nil)) (da_cons (de_lst (da_cons de_int da_nil)) (da_cons (de_tup (da_cons de_str (da_cons de_str da_nil))) da_nil))))))))))))))))))))
    (dss_one (ds_ret (de_call (ok_of T) (hr.mono (by decide)) hG tk_D rfl T.g_of T.F_of.kp T.b_of (da_cons (de_v 0) (da_cons (de_add (de_v 1) (de_lst (da_cons (de_tup (da_cons de_str (da_cons de_str (da_cons de_str (da_cons de_str da_nil))))) (da_cons (de_tup (da_cons de_str (da_cons de_str da_nil))) (da_cons (de_tup (da_cons (de_tup (da_cons de_str (da_cons de_str da_nil))) da_nil)) (da_cons (de_tup (da_cons de_str (da_cons de_int da_nil))) (da_cons de_str da_nil))))))) da_nil))))))
theorem sc_bent : FnScope N_bent p_bent (defScope s_bent) := ⟨rfl, rfl, rfl, by decide +kernel, rfl, by decide +kernel, by decide +kernel⟩
theorem rk_bent (T : Tx K mg a) : ∀ n : Nat, FnG P0 w K mg base (3 + n) a.f_bent a.fd_bent p_bent (spD K mg (r_bent n) p_bent.length)
  | 0 => ⟨fun _ _ _ _ h => h.1, fun _ _ _ _ _ _ _ _ _ _ _ _ _ _ ⟨_, _, _, _, _, _, _, _, _, e, _⟩ => by cases e⟩
  | n + 1 => by
    have Frec := rk_bent T n
    have nd := sc_bent.nd
    refine fn_D (k := 3 + n) T.F_bent sc_bent fun cdv A outer s H E hr0 hG0 => ?_
    have hr := hr0
    have hG := hG0
    exact (dss_cons (ds_if (dw_t (dw_and (dt_val (de_isi T.cls.t T.z_isinstance (da_cons (de_v 1) (da_cons (de_ty rfl T.z_tuple boot_tuple) da_nil)))) (dw_and (dt_ne hr (de_v 1) (de_tup da_nil)) (dw_and1 (dt_gt (de_call (ok_take T) (hr.mono (Nat.le_trans (by decide) (Nat.le_add_right _ n))) hG tk_D rfl T.g_take T.F_take.kp T.b_take (da_cons (de_v 0) (da_cons de_int da_nil))) de_int))))) (dss_cons (ds_set 2 nd (de_call (ok_take T) (hr.mono (Nat.le_trans (by decide) (Nat.le_add_right _ n))) hG tk_D rfl T.g_take T.F_take.kp T.b_take (da_cons (de_v 0) (da_cons (de_len T.z_len (da_cons (de_v 1) da_nil)) da_nil))))
    (dss_one (ds_ret (de_add (de_add (de_slice (de_v 1) do_no (do_at (de_v 2))) (de_tup (da_cons (de_call Frec hr hG tk_D rfl T.g_bent T.F_bent.kp T.b_bent (da_cons (de_v 0) (da_cons (de_sub1 hr (de_v 1) (de_v 2)) da_nil))) da_nil))) (de_slice (de_v 1) (do_at (de_add (de_v 2) de_int)) do_no))))) dss_nil)
    (dss_cons (ds_if (dt_val (de_isi T.cls.t T.z_isinstance (da_cons (de_v 1) (da_cons (de_ty rfl T.z_tuple boot_tuple) da_nil)))) (dss_cons (ds_set 3 nd (de_lst (da_cons (de_list1 T.z_list (da_cons (de_v 1) da_nil)) (da_cons (de_slice (de_v 1) (do_at de_int) do_no) (da_cons (de_slice (de_v 1) do_no (do_at (de_neg de_int))) (da_cons (de_add (de_v 1) (de_slice (de_v 1) (do_at (de_neg de_int)) do_no)) (da_cons (de_rev (de_v 1)) (da_cons (de_tup da_nil) (da_cons (de_add (de_v 1) (de_tup (da_cons de_int da_nil))) (da_cons de_non da_nil))))))))))
    (dss_one (ds_ret (de_call (ok_of T) (hr.mono (Nat.le_trans (by decide) (Nat.le_add_right _ n))) hG tk_D rfl T.g_of T.F_of.kp T.b_of (da_cons (de_v 0) (da_cons (de_v 3) da_nil)))))) dss_nil)
    (dss_cons (ds_if (dt_val (de_isi T.cls.t T.z_isinstance (da_cons (de_v 1) (da_cons (de_ty rfl T.z_str boot_str) da_nil)))) (dss_cons (ds_set 3 nd (de_lst (da_cons (de_add (de_v 1) de_str) (da_cons (de_slice (de_v 1) do_no (do_at (de_neg de_int))) (da_cons (de_upper (de_v 1)) (da_cons (de_add (de_v 1) de_str) (da_cons (de_lst (da_cons (de_v 1) da_nil)) (da_cons de_str (da_cons de_str (da_cons de_str (da_cons de_str da_nil)))))))))))
    (dss_one (ds_ret (de_call (ok_of T) (hr.mono (Nat.le_trans (by decide) (Nat.le_add_right _ n))) hG tk_D rfl T.g_of T.F_of.kp T.b_of (da_cons (de_v 0) (da_cons (de_add (de_v 3) (de_lst (da_cons (de_add de_str (de_v 1)) (da_cons de_non (da_cons de_int da_nil))))) da_nil)))))) dss_nil)
    (dss_cons (ds_if (dt_val (de_isi T.cls.t T.z_isinstance (da_cons (de_v 1) (da_cons (de_ty rfl T.z_bool boot_bool) da_nil)))) (dss_one (ds_ret (de_call (ok_of T) (hr.mono (Nat.le_trans (by decide) (Nat.le_add_right _ n))) hG tk_D rfl T.g_of T.F_of.kp T.b_of (da_cons (de_v 0) (da_cons (de_lst (da_cons (de_not (de_v 1)) (da_cons (de_int1 T.z_int (da_cons (de_v 1) da_nil)) (da_cons de_non da_nil)))) da_nil))))) dss_nil)
    (dss_cons (ds_if (dt_val (de_isi T.cls.t T.z_isinstance (da_cons (de_v 1) (da_cons (de_ty rfl T.z_int boot_int) da_nil)))) (dss_one (ds_ret (de_call (ok_of T) (hr.mono (Nat.le_trans (by decide) (Nat.le_add_right _ n))) hG tk_D rfl T.g_of T.F_of.kp T.b_of (da_cons (de_v 0) (da_cons (de_lst (da_cons (de_add (de_v 1) de_int) (da_cons (de_sub (de_v 1) de_int) (da_cons (de_eq hr (de_v 1) de_int) (da_cons (de_str1 T.z_str (da_cons (de_v 1) da_nil)) (da_cons (de_neg de_int) (da_cons de_int (da_cons de_int (da_cons de_non (da_cons (de_tup (da_cons (de_v 1) da_nil)) da_nil)))))))))) da_nil))))) dss_nil)
    (dss_one (ds_ret (de_call (ok_odd T) (hr.mono (Nat.le_trans (by decide) (Nat.le_add_right _ n))) hG tk_D rfl T.g_odd T.F_odd.kp T.b_odd (da_cons (de_v 0) da_nil)))))))))
theorem ok_bent (T : Tx K mg a) : FnG P0 w K mg base 43 a.f_bent a.fd_bent p_bent (spD K mg f_bent p_bent.length) := rk_bent T 40
theorem sc_each : FnScope N_each p_each (defScope s_each) := ⟨rfl, rfl, rfl, by decide +kernel, rfl, by decide +kernel, by decide +kernel⟩
theorem ok_each (T : Tx K mg a) : FnG P0 w K mg base 1 a.f_each a.fd_each p_each (spD K mg f_each p_each.length) := by
  have nd := sc_each.nd
  refine fn_D (k := 0) T.F_each sc_each fun cdv A outer s H E hr0 hG0 => ?_
  have hr := hr0
  have hG := hG0
  exact (dss_cons (ds_set 1 nd (de_lstM (da_cons (de_exc (T.cls.x m_BadTongue) T.ini hr (T.cls.gx m_BadTongue) (de_v 0)) (da_cons (de_exc (T.cls.x m_NoSign) T.ini hr (T.cls.gx m_NoSign) (de_v 0)) (da_cons (de_exc (T.cls.x m_BadLadder) T.ini hr (T.cls.gx m_BadLadder) (de_v 0)) (da_cons (de_exc (T.cls.x m_NoMeeting) T.ini hr (T.cls.gx m_NoMeeting) (de_v 0)) (da_cons (de_exc (T.cls.x m_BadTree) T.ini hr (T.cls.gx m_BadTree) (de_v 0)) (da_cons (de_exc (T.cls.x m_BadPhrase) T.ini hr (T.cls.gx m_BadPhrase) (de_v 0)) da_nil))))))))
    (dss_cons (ds_expr (de_extend (de_v 1) (da_cons (de_lst (da_cons (de_exc (T.cls.x m_BadBook) T.ini hr (T.cls.gx m_BadBook) (de_v 0)) (da_cons (de_exc (T.cls.x m_OtherTongue) T.ini hr (T.cls.gx m_OtherTongue) (de_v 0)) (da_cons (de_exc (T.cls.x m_BadFact) T.ini hr (T.cls.gx m_BadFact) (de_v 0)) (da_cons (de_exc (T.cls.x m_Full) T.ini hr (T.cls.gx m_Full) (de_v 0)) (da_cons (de_exc (T.cls.x m_NoFact) T.ini hr (T.cls.gx m_NoFact) (de_v 0)) (da_cons (de_exc (T.cls.x m_BadFacts) T.ini hr (T.cls.gx m_BadFacts) (de_v 0)) da_nil))))))) da_nil)))
    (dss_cons (ds_expr (de_extend (de_v 1) (da_cons (de_lst (da_cons (de_exc (T.cls.x m_BadClaims) T.ini hr (T.cls.gx m_BadClaims) (de_v 0)) (da_cons (de_exc (T.cls.x m_NoLadder) T.ini hr (T.cls.gx m_NoLadder) (de_v 0)) (da_cons (de_exc (T.cls.x m_TooMany) T.ini hr (T.cls.gx m_TooMany) (de_v 0)) (da_cons (de_exc (T.cls.x m_BadNumber) T.ini hr (T.cls.gx m_BadNumber) (de_v 0)) (da_cons (de_exc (T.cls.x m_BadPhrases) T.ini hr (T.cls.gx m_BadPhrases) (de_v 0)) da_nil)))))) da_nil)))
    (dss_cons (ds_expr (de_extend (de_v 1) (da_cons (de_lst (da_cons (de_exc (T.cls.x m_Contrary) T.ini hr (T.cls.gx m_Contrary) (de_v 0)) (da_cons (de_exc (T.cls.x m_NothingToUndo) T.ini hr (T.cls.gx m_NothingToUndo) (de_v 0)) (da_cons (de_exc (T.cls.x m_NothingToRedo) T.ini hr (T.cls.gx m_NothingToRedo) (de_v 0)) (da_cons (de_exc (T.cls.x m_NoTrial) T.ini hr (T.cls.gx m_NoTrial) (de_v 0)) da_nil))))) da_nil)))
    (dss_one (ds_ret (de_add (de_v 1) (de_lst (da_cons (de_exc (T.cls.x m_BadJournal) T.ini hr (T.cls.gx m_BadJournal) (de_v 0)) (da_cons (de_exc (T.cls.x m_BadLine) T.ini hr (T.cls.gx m_BadLine) (de_v 0)) da_nil))))))))))
theorem sc_marks : FnScope N_marks p_marks (defScope s_marks) := ⟨rfl, rfl, rfl, by decide +kernel, rfl, by decide +kernel, by decide +kernel⟩
theorem ok_marks (T : Tx K mg a) : FnG P0 w K mg base 1 a.f_marks a.fd_marks p_marks (spD K mg f_marks p_marks.length) := by
  have nd := sc_marks.nd
  refine fn_D (k := 0) T.F_marks sc_marks fun cdv A outer s H E hr0 hG0 => ?_
  have hr := hr0
  have hG := hG0
  exact (dss_cons (ds_set 1 nd (de_lstM (da_cons (de_isi T.cls.t T.z_isinstance (da_cons (de_v 0) (da_cons (de_glb rfl (T.cls.gx m_BadTongue) (v := .ref (adK K "BadTongue")) rfl) da_nil))) (da_cons (de_isi T.cls.t T.z_isinstance (da_cons (de_v 0) (da_cons (de_glb rfl (T.cls.gx m_NoSign) (v := .ref (adK K "NoSign")) rfl) da_nil))) (da_cons (de_isi T.cls.t T.z_isinstance (da_cons (de_v 0) (da_cons (de_glb rfl (T.cls.gx m_BadLadder) (v := .ref (adK K "BadLadder")) rfl) da_nil))) da_nil)))))
    (dss_cons (ds_expr (de_extend (de_v 1) (da_cons (de_lst (da_cons (de_isi T.cls.t T.z_isinstance (da_cons (de_v 0) (da_cons (de_glb rfl (T.cls.gx m_NoMeeting) (v := .ref (adK K "NoMeeting")) rfl) da_nil))) (da_cons (de_isi T.cls.t T.z_isinstance (da_cons (de_v 0) (da_cons (de_glb rfl (T.cls.gx m_BadTree) (v := .ref (adK K "BadTree")) rfl) da_nil))) (da_cons (de_isi T.cls.t T.z_isinstance (da_cons (de_v 0) (da_cons (de_glb rfl (T.cls.gx m_BadPhrase) (v := .ref (adK K "BadPhrase")) rfl) da_nil))) da_nil)))) da_nil)))
    (dss_cons (ds_expr (de_extend (de_v 1) (da_cons (de_lst (da_cons (de_isi T.cls.t T.z_isinstance (da_cons (de_v 0) (da_cons (de_glb rfl (T.cls.gx m_BadBook) (v := .ref (adK K "BadBook")) rfl) da_nil))) (da_cons (de_isi T.cls.t T.z_isinstance (da_cons (de_v 0) (da_cons (de_glb rfl (T.cls.gx m_OtherTongue) (v := .ref (adK K "OtherTongue")) rfl) da_nil))) (da_cons (de_isi T.cls.t T.z_isinstance (da_cons (de_v 0) (da_cons (de_glb rfl (T.cls.gx m_BadFact) (v := .ref (adK K "BadFact")) rfl) da_nil))) da_nil)))) da_nil)))
    (dss_cons (ds_expr (de_extend (de_v 1) (da_cons (de_lst (da_cons (de_isi T.cls.t T.z_isinstance (da_cons (de_v 0) (da_cons (de_glb rfl (T.cls.gx m_Full) (v := .ref (adK K "Full")) rfl) da_nil))) (da_cons (de_isi T.cls.t T.z_isinstance (da_cons (de_v 0) (da_cons (de_glb rfl (T.cls.gx m_NoFact) (v := .ref (adK K "NoFact")) rfl) da_nil))) (da_cons (de_isi T.cls.t T.z_isinstance (da_cons (de_v 0) (da_cons (de_glb rfl (T.cls.gx m_BadFacts) (v := .ref (adK K "BadFacts")) rfl) da_nil))) da_nil)))) da_nil)))
    (dss_cons (ds_expr (de_extend (de_v 1) (da_cons (de_lst (da_cons (de_isi T.cls.t T.z_isinstance (da_cons (de_v 0) (da_cons (de_glb rfl (T.cls.gx m_BadClaims) (v := .ref (adK K "BadClaims")) rfl) da_nil))) (da_cons (de_isi T.cls.t T.z_isinstance (da_cons (de_v 0) (da_cons (de_glb rfl (T.cls.gx m_NoLadder) (v := .ref (adK K "NoLadder")) rfl) da_nil))) (da_cons (de_isi T.cls.t T.z_isinstance (da_cons (de_v 0) (da_cons (de_glb rfl (T.cls.gx m_TooMany) (v := .ref (adK K "TooMany")) rfl) da_nil))) da_nil)))) da_nil)))
    (dss_cons (ds_expr (de_extend (de_v 1) (da_cons (de_lst (da_cons (de_isi T.cls.t T.z_isinstance (da_cons (de_v 0) (da_cons (de_glb rfl (T.cls.gx m_BadNumber) (v := .ref (adK K "BadNumber")) rfl) da_nil))) (da_cons (de_isi T.cls.t T.z_isinstance (da_cons (de_v 0) (da_cons (de_glb rfl (T.cls.gx m_BadPhrases) (v := .ref (adK K "BadPhrases")) rfl) da_nil))) (da_cons (de_isi T.cls.t T.z_isinstance (da_cons (de_v 0) (da_cons (de_glb rfl (T.cls.gx m_Contrary) (v := .ref (adK K "Contrary")) rfl) da_nil))) da_nil)))) da_nil)))
    (dss_cons (ds_expr (de_extend (de_v 1) (da_cons (de_lst (da_cons (de_isi T.cls.t T.z_isinstance (da_cons (de_v 0) (da_cons (de_glb rfl (T.cls.gx m_NothingToUndo) (v := .ref (adK K "NothingToUndo")) rfl) da_nil))) (da_cons (de_isi T.cls.t T.z_isinstance (da_cons (de_v 0) (da_cons (de_glb rfl (T.cls.gx m_NothingToRedo) (v := .ref (adK K "NothingToRedo")) rfl) da_nil))) (da_cons (de_isi T.cls.t T.z_isinstance (da_cons (de_v 0) (da_cons (de_glb rfl (T.cls.gx m_NoTrial) (v := .ref (adK K "NoTrial")) rfl) da_nil))) da_nil)))) da_nil)))
    (dss_one (ds_ret (de_add (de_v 1) (de_lst (da_cons (de_isi T.cls.t T.z_isinstance (da_cons (de_v 0) (da_cons (de_glb rfl (T.cls.gx m_BadJournal) (v := .ref (adK K "BadJournal")) rfl) da_nil))) (da_cons (de_isi T.cls.t T.z_isinstance (da_cons (de_v 0) (da_cons (de_glb rfl (T.cls.gx m_BadLine) (v := .ref (adK K "BadLine")) rfl) da_nil))) da_nil)))))))))))))
theorem sc_right : FnScope N_right p_right (defScope s_right) := ⟨rfl, rfl, rfl, by decide +kernel, rfl, by decide +kernel, by decide +kernel⟩
theorem ok_right (T : Tx K mg a) : FnG P0 w K mg base 44 a.f_right a.fd_right p_right (spD K mg f_right p_right.length) := by
  have nd := sc_right.nd
  refine fn_D (k := 43) T.F_right sc_right fun cdv A outer s H E hr0 hG0 => ?_
  have hr := hr0
  have hG := hG0
  exact (dss_cons (ds_set 1 nd (de_call (ok_odd T) (hr.mono (by decide)) hG tk_D rfl T.g_odd T.F_odd.kp T.b_odd (da_cons (de_v 0) da_nil)))
    (dss_cons (ds_set 1 nd (de_if (dt_eq hr (de_call (ok_take T) (hr.mono (by decide)) hG tk_D rfl T.g_take T.F_take.kp T.b_take (da_cons (de_v 0) (da_cons de_int da_nil))) de_int) (de_call (ok_bent T) (hr.mono (by decide)) hG tk_D rfl T.g_bent T.F_bent.kp T.b_bent (da_cons (de_v 0) (da_cons (de_v 1) da_nil))) (de_v 1)))
    (dss_cons (ds_par 2 3 rfl nd (da_cons (de_call (ok_each T) (hr.mono (by decide)) hG tk_D rfl T.g_each T.F_each.kp T.b_each (da_cons (de_v 1) da_nil)) (da_cons (de_exc (T.cls.x m_TakeError) T.ini hr (T.cls.gx m_TakeError) (de_v 1)) da_nil)))
    (dss_cons (ds_for pas_D rfl (di_enum T.z_enumerate (de_v 2)) (dg_t rfl (dgs_cons (dg_n 4 nd) (dgs_cons (dg_n 5 nd) dgs_nil))) (dss_cons (ds_if (dw_t (dw_or (dt_ne hr (de_call (ok_marks T) (hr.mono (by decide)) hG tk_D rfl T.g_marks T.F_marks.kp T.b_marks (da_cons (de_v 5) da_nil)) (de_lc (own := [("_law_number", 6)]) rfl nd (di_range1 T.z_range (de_len T.z_len (da_cons (de_v 2) da_nil))) (by exact blkOk_by (N := N_right) (sc := defScope s_right) (by decide +kernel)) (tg_n (by decide)) (fun _ _ _ _ _ => (pg_name (i := 6) nd rfl (Or.inl rfl))) (fun _ _ _ _ _ => dts_nil) (fun _ _ _ _ _ => (de_eq hr (de_v 4) (de_v 6))))) (dw_or1 (dt_ne hr (de_repr hr hG T.z_repr (da_cons (de_value T.cls.t (de_v 5)) da_nil)) (de_repr hr hG T.z_repr (da_cons (de_v 1) da_nil)))))) (dss_one (ds_ret de_bl)) dss_nil)
    (dss_one (ds_if (dw_t (dw_or (dt_not (dt_val (de_isi T.cls.t T.z_isinstance (da_cons (de_v 5) (da_cons (de_glb rfl (T.cls.gx m_TakeError) (v := .ref (adK K "TakeError")) rfl) da_nil))))) (dw_or1 (dt_not (dt_val (de_isi T.cls.t T.z_isinstance (da_cons (de_v 5) (da_cons (de_ty rfl T.z_ValueError boot_ValueError) da_nil)))))))) (dss_one (ds_ret de_bl)) dss_nil))))
    (dss_cons (ds_if (dw_t (dw_or (dt_in hr de_bl (de_call (ok_marks T) (hr.mono (by decide)) hG tk_D rfl T.g_marks T.F_marks.kp T.b_marks (da_cons (de_v 3) da_nil))) (dw_or1 (dt_not (dt_val (de_isi T.cls.t T.z_isinstance (da_cons (de_v 3) (da_cons (de_ty rfl T.z_ValueError boot_ValueError) da_nil)))))))) (dss_one (ds_ret de_bl)) dss_nil)
    (dss_one (ds_ret (de_eq hr (de_repr hr hG T.z_repr (da_cons (de_value T.cls.t (de_v 3)) da_nil)) (de_repr hr hG T.z_repr (da_cons (de_v 1) da_nil))))))))))
theorem sc_law : FnScope N_law p_law (defScope s_law) := ⟨rfl, rfl, rfl, by decide +kernel, rfl, by decide +kernel, by decide +kernel⟩
theorem ok_law (T : Tx K mg a) : FnG P0 w K mg base 45 a.f_law a.fd_law p_law (spD K mg f_law p_law.length) := by
  have nd := sc_law.nd
  refine fn_D (k := 44) T.F_law sc_law fun cdv A outer s H E hr0 hG0 => ?_
  have hr := hr0
  have hG := hG0
  exact (dss_cons (ds_for pas_D rfl (di_list (de_call (ok_cells T) (hr.mono (by decide)) hG tk_D rfl T.g_cells T.F_cells.kp T.b_cells (da_cons (de_v 0) (da_cons de_int da_nil)))) (dg_n 1 nd) (dss_cons (ds_set 2 nd (de_callN (ok_pot T) (hr.mono (by decide)) hG tk_D rfl T.g_pot T.F_pot.kp T.b_pot (da_cons (de_v 0) (da_cons (de_v 1) da_nil))))
    (dss_one (ds_if (dt_not (dt_val (de_all rfl T.z_all (da_cons (de_lc (own := [("_law_lap", 3)]) rfl nd (di_range1 T.z_range de_int) (by exact blkOk_by (N := N_law) (sc := defScope s_law) (by decide +kernel)) (tg_n (by decide)) (fun _ _ _ _ _ => (pg_name (i := 3) nd rfl (Or.inl rfl))) (fun _ _ _ _ _ => dts_nil) (fun _ _ _ _ _ => (de_call (ok_right T) (hr.mono (by decide)) hG takes0 rfl T.g_right T.F_right.kp T.b_right (da_cons (de_v 2) da_nil)))) da_nil)))) (dss_one (ds_ret de_bl)) dss_nil))))
    (dss_one (ds_ret de_bl)))
end
abbrev s_init : Stmt := inClass (top 1) 0
theorem all_mk {w : World} {K : Frag} {h : Heap} {mg : Str → Option Value} {fa : Addr} (X : K.In h) (G : h.Ns mainGlobals mg) (hfa : mg "law" = some (.ref fa))
    {f_pot : Addr} {oc_pot kV_pot dc_pot pm_pot cd_pot ct_pot : Value} {od_pot an_pot : Option Addr} {sl_pot : Array (Option Value)} (a_pot : PySem.W.nsIn K mainGlobals "_law_pot" = some (some (.ref f_pot)))
    (l_pot : K.lookup f_pot = some ⟨oc_pot, od_pot, .func (PySem.W.fnOf "_law_pot" "_law_pot" (defArgs s_pot) (defBody s_pot) (defScope s_pot) .none kV_pot dc_pot pm_pot an_pot cd_pot ct_pot), sl_pot⟩) (c_pot : PySem.W.codeIn K cd_pot "_law_pot" = true) (k_pot : PySem.W.keepIn K (.ref f_pot) = true)
    {f_take : Addr} {oc_take kV_take dc_take pm_take cd_take ct_take : Value} {od_take an_take : Option Addr} {sl_take : Array (Option Value)} (a_take : PySem.W.nsIn K mainGlobals "_law_take" = some (some (.ref f_take)))
    (l_take : K.lookup f_take = some ⟨oc_take, od_take, .func (PySem.W.fnOf "_law_take" "_law_take" (defArgs s_take) (defBody s_take) (defScope s_take) .none kV_take dc_take pm_take an_take cd_take ct_take), sl_take⟩) (c_take : PySem.W.codeIn K cd_take "_law_take" = true) (k_take : PySem.W.keepIn K (.ref f_take) = true)
    {f_of : Addr} {oc_of kV_of dc_of pm_of cd_of ct_of : Value} {od_of an_of : Option Addr} {sl_of : Array (Option Value)} (a_of : PySem.W.nsIn K mainGlobals "_law_of" = some (some (.ref f_of)))
    (l_of : K.lookup f_of = some ⟨oc_of, od_of, .func (PySem.W.fnOf "_law_of" "_law_of" (defArgs s_of) (defBody s_of) (defScope s_of) .none kV_of dc_of pm_of an_of cd_of ct_of), sl_of⟩) (c_of : PySem.W.codeIn K cd_of "_law_of" = true) (k_of : PySem.W.keepIn K (.ref f_of) = true)
    {f_cells : Addr} {oc_cells kV_cells dc_cells pm_cells cd_cells ct_cells : Value} {od_cells an_cells : Option Addr} {sl_cells : Array (Option Value)} (a_cells : PySem.W.nsIn K mainGlobals "_law_cells" = some (some (.ref f_cells)))
    (l_cells : K.lookup f_cells = some ⟨oc_cells, od_cells, .func (PySem.W.fnOf "_law_cells" "_law_cells" (defArgs s_cells) (defBody s_cells) (defScope s_cells) .none kV_cells dc_cells pm_cells an_cells cd_cells ct_cells), sl_cells⟩) (c_cells : PySem.W.codeIn K cd_cells "_law_cells" = true) (k_cells : PySem.W.keepIn K (.ref f_cells) = true)
    {f_odd : Addr} {oc_odd kV_odd dc_odd pm_odd cd_odd ct_odd : Value} {od_odd an_odd : Option Addr} {sl_odd : Array (Option Value)} (a_odd : PySem.W.nsIn K mainGlobals "_law_odd" = some (some (.ref f_odd)))
    (l_odd : K.lookup f_odd = some ⟨oc_odd, od_odd, .func (PySem.W.fnOf "_law_odd" "_law_odd" (defArgs s_odd) (defBody s_odd) (defScope s_odd) .none kV_odd dc_odd pm_odd an_odd cd_odd ct_odd), sl_odd⟩) (c_odd : PySem.W.codeIn K cd_odd "_law_odd" = true) (k_odd : PySem.W.keepIn K (.ref f_odd) = true)
    {f_bent : Addr} {oc_bent kV_bent dc_bent pm_bent cd_bent ct_bent : Value} {od_bent an_bent : Option Addr} {sl_bent : Array (Option Value)} (a_bent : PySem.W.nsIn K mainGlobals "_law_bent" = some (some (.ref f_bent)))
    (l_bent : K.lookup f_bent = some ⟨oc_bent, od_bent, .func (PySem.W.fnOf "_law_bent" "_law_bent" (defArgs s_bent) (defBody s_bent) (defScope s_bent) .none kV_bent dc_bent pm_bent an_bent cd_bent ct_bent), sl_bent⟩) (c_bent : PySem.W.codeIn K cd_bent "_law_bent" = true) (k_bent : PySem.W.keepIn K (.ref f_bent) = true)
    {f_each : Addr} {oc_each kV_each dc_each pm_each cd_each ct_each : Value} {od_each an_each : Option Addr} {sl_each : Array (Option Value)} (a_each : PySem.W.nsIn K mainGlobals "_law_each" = some (some (.ref f_each)))
    (l_each : K.lookup f_each = some ⟨oc_each, od_each, .func (PySem.W.fnOf "_law_each" "_law_each" (defArgs s_each) (defBody s_each) (defScope s_each) .none kV_each dc_each pm_each an_each cd_each ct_each), sl_each⟩) (c_each : PySem.W.codeIn K cd_each "_law_each" = true) (k_each : PySem.W.keepIn K (.ref f_each) = true)
    {f_marks : Addr} {oc_marks kV_marks dc_marks pm_marks cd_marks ct_marks : Value} {od_marks an_marks : Option Addr} {sl_marks : Array (Option Value)} (a_marks : PySem.W.nsIn K mainGlobals "_law_marks" = some (some (.ref f_marks)))
    (l_marks : K.lookup f_marks = some ⟨oc_marks, od_marks, .func (PySem.W.fnOf "_law_marks" "_law_marks" (defArgs s_marks) (defBody s_marks) (defScope s_marks) .none kV_marks dc_marks pm_marks an_marks cd_marks ct_marks), sl_marks⟩) (c_marks : PySem.W.codeIn K cd_marks "_law_marks" = true) (k_marks : PySem.W.keepIn K (.ref f_marks) = true)
    {f_right : Addr} {oc_right kV_right dc_right pm_right cd_right ct_right : Value} {od_right an_right : Option Addr} {sl_right : Array (Option Value)} (a_right : PySem.W.nsIn K mainGlobals "_law_right" = some (some (.ref f_right)))
    (l_right : K.lookup f_right = some ⟨oc_right, od_right, .func (PySem.W.fnOf "_law_right" "_law_right" (defArgs s_right) (defBody s_right) (defScope s_right) .none kV_right dc_right pm_right an_right cd_right ct_right), sl_right⟩) (c_right : PySem.W.codeIn K cd_right "_law_right" = true) (k_right : PySem.W.keepIn K (.ref f_right) = true)
    {f_law : Addr} {oc_law kV_law dc_law pm_law cd_law ct_law : Value} {od_law an_law : Option Addr} {sl_law : Array (Option Value)} (a_law : PySem.W.nsIn K mainGlobals "law" = some (some (.ref f_law)))
    (l_law : K.lookup f_law = some ⟨oc_law, od_law, .func (PySem.W.fnOf "law" "law" (defArgs s_law) (defBody s_law) (defScope s_law) .none kV_law dc_law pm_law an_law cd_law ct_law), sl_law⟩) (c_law : PySem.W.codeIn K cd_law "law" = true) (k_law : PySem.W.keepIn K (.ref f_law) = true)
    (z_ValueError : PySem.W.nsIn K mainGlobals "ValueError" = some none)
    (z_abs : PySem.W.nsIn K mainGlobals "abs" = some none)
    (z_all : PySem.W.nsIn K mainGlobals "all" = some none)
    (z_bool : PySem.W.nsIn K mainGlobals "bool" = some none)
    (z_enumerate : PySem.W.nsIn K mainGlobals "enumerate" = some none)
    (z_int : PySem.W.nsIn K mainGlobals "int" = some none)
    (z_isinstance : PySem.W.nsIn K mainGlobals "isinstance" = some none)
    (z_len : PySem.W.nsIn K mainGlobals "len" = some none)
    (z_list : PySem.W.nsIn K mainGlobals "list" = some none)
    (z_max : PySem.W.nsIn K mainGlobals "max" = some none)
    (z_min : PySem.W.nsIn K mainGlobals "min" = some none)
    (z_range : PySem.W.nsIn K mainGlobals "range" = some none)
    (z_repr : PySem.W.nsIn K mainGlobals "repr" = some none)
    (z_str : PySem.W.nsIn K mainGlobals "str" = some none)
    (z_super : PySem.W.nsIn K mainGlobals "super" = some none)
    (z_tuple : PySem.W.nsIn K mainGlobals "tuple" = some none)
    {f_init tD cda cc : Addr} {oc0 kV0 dc0 pm0 ct0 : Value} {od0 an0 : Option Addr} {sl0 : Array (Option Value)} (tE : PySem.W.nsIn K mainGlobals "TakeError" = some (some (.ref tD))) (i_fn : PySem.W.findIn K (.ref tD) "__init__" = some (some (.ref f_init)))
    (i_l : K.lookup f_init = some ⟨oc0, od0, .func (PySem.W.ksFn "__init__" "TakeError.__init__" (defArgs s_init) (defBody s_init) (defScope s_init) .none kV0 dc0 pm0 an0 (.ref cda) ct0 cc), sl0⟩) (i_c : PySem.W.codeIn K (.ref cda) "TakeError.__init__" = true)
    {ccl cl : Value} {cdd cld : Option Addr} {vs : Array Value} {ccs csl : Array (Option Value)} {file : Str} {tf : Tok} (i_k : K.lookup cda = some ⟨ccl, cdd, .fields vs, ccs⟩) (i_v : vs[2]? = some (.str file tf)) (i_f : ((P0.main.file : Str) == file) = true)
    (i_cc : K.lookup cc = some ⟨cl, cld, .cell (some (.ref tD)), csl⟩) (i_t : PySem.W.typeIn K (.ref f_init) = some (.type "function")) (i_d : (PySem.W.clsIn K tD).isSome = true) (i_s : PySem.W.nsIn K cStatics "thirdparty.any" = some none)
    (cls : clsB K tab f_init = true) :
    ∃ fd : FuncData, (∀ (s : Shared) (v : Value), BindsTo s fd ⟨[v], []⟩ [("_law_script", v)]) ∧ ∀ base : Heap, K.In base → base.Ns mainGlobals mg → FnG P0 w K mg base 45 fa fd ["_law_script"] (spD K mg L.f_law 1) := by
  have e := hfa.symm.trans (PySem.W.mg_of X G a_law)
  cases e
  have eD : adK K tab.root = tD := by
    show (match PySem.W.nsIn K mainGlobals "TakeError" with | some (some (.ref C)) => C | _ => 0) = tD
    rw [tE]
  have F_pot := fun_mk (st := s_pot) l_pot c_pot k_pot
  have b_pot := F_pot.binds (ps := p_pot) fun _ _ _ _ _ _ us hl => match us, hl with | [_, _], _ => rfl
  have F_take := fun_mk (st := s_take) l_take c_take k_take
  have b_take := F_take.binds (ps := p_take) fun _ _ _ _ _ _ us hl => match us, hl with | [_, _], _ => rfl
  have F_of := fun_mk (st := s_of) l_of c_of k_of
  have b_of := F_of.binds (ps := p_of) fun _ _ _ _ _ _ us hl => match us, hl with | [_, _], _ => rfl
  have F_cells := fun_mk (st := s_cells) l_cells c_cells k_cells
  have b_cells := F_cells.binds (ps := p_cells) fun _ _ _ _ _ _ us hl => match us, hl with | [_, _], _ => rfl
  have F_odd := fun_mk (st := s_odd) l_odd c_odd k_odd
  have b_odd := F_odd.binds (ps := p_odd) fun _ _ _ _ _ _ us hl => match us, hl with | [_], _ => rfl
  have F_bent := fun_mk (st := s_bent) l_bent c_bent k_bent
  have b_bent := F_bent.binds (ps := p_bent) fun _ _ _ _ _ _ us hl => match us, hl with | [_, _], _ => rfl
  have F_each := fun_mk (st := s_each) l_each c_each k_each
  have b_each := F_each.binds (ps := p_each) fun _ _ _ _ _ _ us hl => match us, hl with | [_], _ => rfl
  have F_marks := fun_mk (st := s_marks) l_marks c_marks k_marks
  have b_marks := F_marks.binds (ps := p_marks) fun _ _ _ _ _ _ us hl => match us, hl with | [_], _ => rfl
  have F_right := fun_mk (st := s_right) l_right c_right k_right
  have b_right := F_right.binds (ps := p_right) fun _ _ _ _ _ _ us hl => match us, hl with | [_], _ => rfl
  have F_law := fun_mk (st := s_law) l_law c_law k_law
  have b_law := F_law.binds (ps := p_law) fun _ _ _ _ _ _ us hl => match us, hl with | [_], _ => rfl
  have I0 : IniF P0 K mg tD f_init := {
    fn := ⟨_, _, _, _, _, _, _, _, _, _, _, _, _, _, _, _, _, _, _, _, _, _, _, _, _, i_l, i_c, fun _ _ => rfl, ⟨_, rfl, rfl⟩, ⟨rfl, rfl, rfl, rfl⟩, by decide +kernel, ⟨rfl, rfl, rfl⟩, ⟨_, _, _, _, _, _, i_k, i_v, i_f⟩, ⟨_, _, _, i_cc⟩, fun _ => ⟨_, rfl⟩, fun _ => ⟨rfl, rfl⟩⟩
    tI := i_t
    clD := i_d
    st := i_s
    top := by decide +kernel
    nsu := PySem.W.mg_none_of X G z_super }
  have T : Tx K mg { f_init := f_init, f_pot := f_pot, fd_pot := _, f_take := f_take, fd_take := _, f_of := f_of, fd_of := _, f_cells := f_cells, fd_cells := _, f_odd := f_odd, fd_odd := _, f_bent := f_bent, fd_bent := _, f_each := f_each, fd_each := _, f_marks := f_marks, fd_marks := _, f_right := f_right, fd_right := _, f_law := fa, fd_law := _ } := {
    g_pot := PySem.W.mg_of X G a_pot, F_pot := F_pot, b_pot := b_pot,
    g_take := PySem.W.mg_of X G a_take, F_take := F_take, b_take := b_take,
    g_of := PySem.W.mg_of X G a_of, F_of := F_of, b_of := b_of,
    g_cells := PySem.W.mg_of X G a_cells, F_cells := F_cells, b_cells := b_cells,
    g_odd := PySem.W.mg_of X G a_odd, F_odd := F_odd, b_odd := b_odd,
    g_bent := PySem.W.mg_of X G a_bent, F_bent := F_bent, b_bent := b_bent,
    g_each := PySem.W.mg_of X G a_each, F_each := F_each, b_each := b_each,
    g_marks := PySem.W.mg_of X G a_marks, F_marks := F_marks, b_marks := b_marks,
    g_right := PySem.W.mg_of X G a_right, F_right := F_right, b_right := b_right,
    g_law := PySem.W.mg_of X G a_law, F_law := F_law, b_law := b_law,
    z_ValueError := PySem.W.mg_none_of X G z_ValueError,
    z_abs := PySem.W.mg_none_of X G z_abs,
    z_all := PySem.W.mg_none_of X G z_all,
    z_bool := PySem.W.mg_none_of X G z_bool,
    z_enumerate := PySem.W.mg_none_of X G z_enumerate,
    z_int := PySem.W.mg_none_of X G z_int,
    z_isinstance := PySem.W.mg_none_of X G z_isinstance,
    z_len := PySem.W.mg_none_of X G z_len,
    z_list := PySem.W.mg_none_of X G z_list,
    z_max := PySem.W.mg_none_of X G z_max,
    z_min := PySem.W.mg_none_of X G z_min,
    z_range := PySem.W.mg_none_of X G z_range,
    z_repr := PySem.W.mg_none_of X G z_repr,
    z_str := PySem.W.mg_none_of X G z_str,
    z_tuple := PySem.W.mg_none_of X G z_tuple,
    ini := by rw [eD]; exact I0, cls := clsAll_of X G cls }
  exact ⟨_, fun s v => .of_eq rfl, fun base _ _ => ok_law T⟩
end L
namespace L
open PySem L2 Ow

/-! ### the draws -/
structure Pot (k : Nat) (a b c : Int) : Prop where
  a0 : 0 ≤ a
  a1 : a < 2 ^ 1000
  b0 : 0 ≤ b
  b1 : b < 2 ^ 61
  c0 : 0 ≤ c
  c1 : c ≤ k
theorem Pot.mono {k k' : Nat} {a b c : Int} (h : Pot k a b c) (hk : k ≤ k') : Pot k' a b c := ⟨h.a0, h.a1, h.b0, h.b1, h.c0, by have := h.c1; omega⟩
theorem nat_abs_lt {x : Int} {k : Nat} (h0 : 0 ≤ x) (h : x < 2 ^ k) : x.natAbs < 2 ^ k := by
  have : ((x.natAbs : Nat) : Int) < ((2 ^ k : Nat) : Int) := by rw [Int.natAbs_of_nonneg h0]; exact_mod_cast h
  exact_mod_cast this
theorem lg {x : Int} {k : Nat} (h0 : 0 ≤ x) (h : x < 2 ^ k) (hk : 0 < k) : x.natAbs.log2 < k := log2_small (nat_abs_lt h0 h) hk
theorem take_ok {a b c n : Int} {k : Nat} (hp : Pot k a b c) (hk : k ≤ 2 ^ 20) (hn : 0 < n) (hn2 : n < 2 ^ 60) :
    ∃ d a' c', f_take [.ref 0, .val (.int n)] [.lst [.int a, .int b, .int c]] = some (.ok (.val (.int d)), [.lst [.int a', .int b, .int c']]) ∧ 0 ≤ d ∧ d < n ∧ Pot (k + 1) a' b c' := by
  by_cases ha : 0 < a
  · refine ⟨a % n, a / n, c, ?_, Int.emod_nonneg _ (by omega), Int.emod_lt_of_pos _ hn, ⟨Int.ediv_nonneg hp.a0 (by omega), ?_, hp.b0, hp.b1, hp.c0, by have := hp.c1; omega⟩⟩
    · refine fnd_val (ρ' := [some (.ref 0), some (.val (.int n)), some (.val (.int (a % n))), none, none]) (sq_rt (sif_t (M' := [.lst [.int a, .int b, .int c]]) ?_ (sq (sset (x := .val (.int (a % n))) (M' := [.lst [.int a, .int b, .int c]]) ?_) (sq (sputl (d := .int (a / n)) (M1 := [.lst [.int a, .int b, .int c]]) ?_ rfl rfl rfl rfl) (sret rfl))))) rfl
      · show some (Rb.tt (decide (a > 0)), _) = _
        rw [decide_eq_true (show a > 0 from ha)]
      · exact e2v (d1 := .int a) (d2 := .int n) rfl rfl (di_mod hn)
      · exact e2v (d1 := .int a) (d2 := .int n) rfl rfl (di_fdiv hn (Nat.lt_of_lt_of_le (lg (by omega) hn2 (by decide)) (by decide)))
    · exact Int.lt_of_le_of_lt (Int.ediv_le_self _ hp.a0) hp.a1
  · have hc0 := hp.c0
    have hc1 := hp.c1
    have hb0 := hp.b0
    have hb1 := hp.b1
    have c1l : c + 1 < 2 ^ 21 := by omega
    obtain ⟨x, ex, hx⟩ := atI_mem (xs := [D.int 2147483647, .int 2147483629, .int 2147483587, .int 2147483579, .int 2147483563]) (i := (c + 1) % 5) (Int.emod_nonneg _ (by decide)) (Int.emod_lt_of_pos _ (by decide))
    obtain ⟨p, rfl, hp0, hp1⟩ : ∃ p, x = D.int p ∧ 0 < p ∧ p < 2 ^ 31 := by
      simp only [List.mem_cons, List.not_mem_nil, or_false] at hx
      rcases hx with rfl | rfl | rfl | rfl | rfl <;> exact ⟨_, rfl, by decide, by decide⟩
    have m1 : 119003 * (c + 1) < 2 ^ 38 := by omega
    have m10 : 0 ≤ 119003 * (c + 1) := by omega
    have m2 : 119003 * (c + 1) * (c + 1) < 2 ^ 59 := by
      have := Int.mul_lt_mul' (a := 119003 * (c + 1)) (b := c + 1) (c := 2 ^ 38) (d := 2 ^ 21) (by omega) c1l (by omega) (by decide)
      omega
    have m20 : 0 ≤ 119003 * (c + 1) * (c + 1) := Int.mul_nonneg m10 (by omega)
    generalize hq : b + 119003 * (c + 1) * (c + 1) + 91 = q
    have q0 : 0 ≤ q := by omega
    have q1 : q < 2 ^ 62 := by omega
    generalize hm : q ^ (3 : Int).toNat % p = m
    have mm0 : 0 ≤ m := by rw [← hm]; exact Int.emod_nonneg _ (by omega)
    have mm1 : m < 2 ^ 31 := by rw [← hm]; exact Int.lt_trans (Int.emod_lt_of_pos _ hp0) hp1
    have r0 : 0 ≤ m % 10351 := Int.emod_nonneg _ (by decide)
    have r1 : m % 10351 < 10351 := Int.emod_lt_of_pos _ (by decide)
    refine ⟨m * (m % 10351 + 131 * (c + 1)) / 127 % n, a, c + 1, ?_, Int.emod_nonneg _ (by omega), Int.emod_lt_of_pos _ hn, ⟨hp.a0, hp.a1, hb0, hb1, by omega, by omega⟩⟩
    refine fnd_val (ρ' := [some (.ref 0), some (.val (.int n)), none, some (.val (.int p)), some (.val (.int m))]) (sq (ρ' := [some (.ref 0), some (.val (.int n)), none, none, none]) (M' := [.lst [.int a, .int b, .int c]]) (sif_f (M' := [.lst [.int a, .int b, .int c]]) ?_ rfl) (sq (sputl (d := .int (c + 1)) (M1 := [.lst [.int a, .int b, .int c]]) rfl rfl rfl rfl rfl)
      (sq (sset (x := .val (.int p)) (M' := [.lst [.int a, .int b, .int (c + 1)]]) ?_) (sq (sset (x := .val (.int m)) (M' := [.lst [.int a, .int b, .int (c + 1)]]) ?_) (sret ?_))))) rfl
    · show some (Rb.tt (decide (a > 0)), _) = _
      rw [decide_eq_false (show ¬ a > 0 from ha)]
    · exact e2v (d1 := .lst [D.int 2147483647, .int 2147483629, .int 2147483587, .int 2147483579, .int 2147483563]) (d2 := .int ((c + 1) % 5)) (M1 := [.lst [.int a, .int b, .int (c + 1)]]) rfl (e2v (d1 := .int (c + 1)) (d2 := .int 5) rfl rfl (di_mod (by decide))) ex
    · rw [← hm]
      refine e2v (d1 := .int (q ^ (3 : Int).toNat)) (d2 := .int p) (M1 := [.lst [.int a, .int b, .int (c + 1)]]) (en1 (d1 := .int (q ^ (3 : Int).toNat)) (e2v (d1 := .int q) (d2 := .int 3) (en1 (d1 := .int q) ?_ rfl) rfl (di_pow (by decide) ?_)) rfl) rfl (di_mod hp0)
      · rw [← hq]
        refine e2v (d1 := .int (b + 119003 * (c + 1) * (c + 1))) (d2 := .int 91) (e2v (d1 := .int b) (d2 := .int (119003 * (c + 1) * (c + 1))) rfl (e2v (d1 := .int (119003 * (c + 1))) (d2 := .int (c + 1)) (e2v (d1 := .int 119003) (d2 := .int (c + 1)) rfl rfl (di_mul ?_)) rfl (di_mul ?_)) rfl) rfl rfl
        · have h1 := lg (x := c + 1) (k := 21) (by omega) c1l (by decide)
          have h2 : (119003 : Int).natAbs.log2 < 17 := by decide
          omega
        · have h1 := lg (x := c + 1) (k := 21) (by omega) c1l (by decide)
          have h2 := lg m10 m1 (by decide)
          omega
      · have h1 := lg q0 q1 (by decide)
        have h2 : ((q.natAbs.log2 + 1 : Nat) : Int) ≤ 62 := by omega
        omega
    · refine e2v (d1 := .int (m * (m % 10351 + 131 * (c + 1)) / 127)) (d2 := .int n) (M1 := [.lst [.int a, .int b, .int (c + 1)]]) (en1 (d1 := .int (m * (m % 10351 + 131 * (c + 1)) / 127)) (e2v (d1 := .int (m * (m % 10351 + 131 * (c + 1)))) (d2 := .int 127) (e2v (d1 := .int m) (d2 := .int (m % 10351 + 131 * (c + 1))) rfl
        (e2v (d1 := .int (m % 10351)) (d2 := .int (131 * (c + 1))) (e2v (d1 := .int m) (d2 := .int 10351) rfl rfl (di_mod (by decide))) (e2v (d1 := .int 131) (d2 := .int (c + 1)) rfl rfl (di_mul ?_)) rfl) (di_mul ?_)) rfl (di_fdiv (by decide) (by decide))) rfl) rfl (di_mod hn)
      · have h1 := lg (x := c + 1) (k := 21) (by omega) c1l (by decide)
        have h2 : (131 : Int).natAbs.log2 < 17 := by decide
        omega
      · have h1 := lg mm0 mm1 (by decide)
        have h2 := lg (x := m % 10351 + 131 * (c + 1)) (k := 40) (by omega) (by omega) (by decide)
        omega
end L
namespace L
open PySem L2 Ow
def oddL : List D := [.non, .bl true, .bl false, .int 0, .int 1, .int (-1), .int 100000000, .str "", .str "x", .str "left", .str "not x", .tup [], .lst [], .dic [], .tup [.int 0], .tup [.tup []], .lst [.int 0], .tup [.str "x", .str "y"], .tup [.str "takes", .str "x", .str "y", .str "left"], .tup [.str "read", .str "x"], .tup [.tup [.str "read", .str "x"]], .tup [.str "told", .int 0], .str "never"]
def bL : D → List D
  | .tup vs => [.lst vs, .tup (cutD vs (some 1) none), .tup (cutD vs none (some (-1))), .tup (vs ++ cutD vs (some (-1)) none), .tup vs.reverse, .tup [], .tup (vs ++ [.int 0]), .non]
  | .str x => [.str (x ++ "x"), .str (cutS x none (some (-1))), .str (Txt.upper x), .str (x ++ " "), .lst [.str x], .str "x", .str "left", .str "right", .str "none", .str ("( " ++ x), .non, .int 0]
  | .bl b => [.bl (!b), .int (if b then 1 else 0), .non]
  | .int i => [.int (i + 1), .int (i - 1), .bl (PyData.eqv (.int i) (.int 1)), .str (toString i), .int (-1), .int 5, .int 0, .non, .tup [.int i]]
  | _ => oddL
def outs : Nat → D → List D
  | 0, _ => []
  | n + 1, .tup vs => bL (.tup vs) ++ (List.range vs.length).flatMap fun i => (outs n (vs.getD i .non)).map fun r => .tup (vs.take i ++ [r] ++ vs.drop (i + 1))
  | _ + 1, d => bL d
def goodB (d : D) : Bool := match dRepr [d] with
  | some (.str s) => (match dNe (.str s) (.str s), dEq (.str s) (.str s) with
    | some (.bl false), some (.bl true) => true
    | _, _ => false)
  | _ => false
theorem good_at {d : D} (h : goodB d = true) : ∃ s, dRepr [d] = some (.str s) ∧ dNe (.str s) (.str s) = some (.bl false) ∧ dEq (.str s) (.str s) = some (.bl true) := by
  unfold goodB at h
  split at h
  · rename_i s e
    split at h
    · rename_i e1 e2
      exact ⟨s, e, e1, e2⟩
    · cases h
  · cases h
structure PotD (k : Nat) (p : List D) : Prop where
  ex : ∃ a b c, p = [.int a, .int b, .int c] ∧ Pot k a b c
theorem PotD.mono {k k' : Nat} {p : List D} (h : PotD k p) (hk : k ≤ k') : PotD k' p := let ⟨a, b, c, e, q⟩ := h.ex; ⟨a, b, c, e, q.mono hk⟩
/-- a def that draws at most m times and gives data under S -/
def Draws (m : Nat) (f : Fn) (xs : List A) (S : D → Prop) : Prop := ∀ k p, PotD k p → k + m ≤ 2 ^ 20 → ∃ d p', f (.ref 0 :: xs) [.lst p] = some (.ok (.val d), [.lst p']) ∧ S d ∧ PotD (k + m) p'
theorem Draws.weak {m m' : Nat} {f : Fn} {xs : List A} {S S' : D → Prop} (h : Draws m f xs S) (hm : m ≤ m') (hs : ∀ d, S d → S' d) : Draws m' f xs S' := fun k p hp hk =>
  let ⟨d, p', e, s, q⟩ := h k p hp (by omega)
  ⟨d, p', e, hs d s, q.mono (by omega)⟩
theorem take_d {n : Int} (hn : 0 < n) (hn2 : n < 2 ^ 60) : Draws 1 f_take [.val (.int n)] (fun d => ∃ i, d = .int i ∧ 0 ≤ i ∧ i < n) := fun k p hp hk => by
  obtain ⟨a, b, c, rfl, q⟩ := hp.ex
  obtain ⟨d, a', c', e, h0, h1, q'⟩ := take_ok q (by omega) hn hn2
  exact ⟨_, _, e, ⟨d, rfl, h0, h1⟩, ⟨_, _, _, rfl, q'⟩⟩
theorem of_d {l : List D} (h0 : 0 < l.length) (h1 : (l.length : Int) < 2 ^ 60) : Draws 1 f_of [.val (.lst l)] (· ∈ l) := fun k p hp hk => by
  obtain ⟨_, p', e, ⟨i, rfl, i0, i1⟩, q⟩ := take_d (n := l.length) (by omega) h1 k p hp hk
  obtain ⟨x, ex, hx⟩ := atI_mem (xs := l) i0 i1
  exact ⟨x, p', fnd_val (sret (e2v (d1 := .lst l) (d2 := .int i) rfl (ecall rfl (callJ rfl rfl rfl e)) ex)) rfl, hx, q⟩
theorem odd_d : Draws 1 f_odd [] (· ∈ oddL) := fun k p hp hk => by
  obtain ⟨x, p', e, hx, q⟩ := of_d (l := oddL) (by decide) (by decide) k p hp hk
  exact ⟨x, p', fnd_val (sq (ρ' := [some (.ref 0), some (.val (.lst (oddL.take 18)))]) (M' := [.lst p]) rfl (sret (ecall (xs := [.ref 0, .val (.lst oddL)]) rfl (callJ rfl rfl rfl e)))) rfl, hx, q⟩

section
variable {rec : Fn}
theorem b_0 : Draws 1 (fnD 4 (g_bent f_take f_of f_odd rec)) [.val (.str "")] (· ∈ bL (.str "")) := fun k p hp hk => by
  obtain ⟨x, p', e, hx, q⟩ := of_d (l := bL (.str "")) (by decide) (by decide) k p hp hk
  exact ⟨x, p', fnd_val (sq (sif_f (eand_f rfl) rfl) (sq (sif_f rfl rfl) (sq_rt (sif_t rfl (sq rfl (sret (ecall (xs := [.ref 0, .val (.lst (bL (.str "")))]) rfl (callJ rfl rfl rfl e)))))))) rfl, hx, q⟩
theorem b_1 : Draws 1 (fnD 4 (g_bent f_take f_of f_odd rec)) [.val (.str "x")] (· ∈ bL (.str "x")) := fun k p hp hk => by
  obtain ⟨x, p', e, hx, q⟩ := of_d (l := bL (.str "x")) (by decide) (by decide) k p hp hk
  exact ⟨x, p', fnd_val (sq (sif_f (eand_f rfl) rfl) (sq (sif_f rfl rfl) (sq_rt (sif_t rfl (sq rfl (sret (ecall (xs := [.ref 0, .val (.lst (bL (.str "x")))]) rfl (callJ rfl rfl rfl e)))))))) rfl, hx, q⟩
theorem b_2 : Draws 1 (fnD 4 (g_bent f_take f_of f_odd rec)) [.val (.str "left")] (· ∈ bL (.str "left")) := fun k p hp hk => by
  obtain ⟨x, p', e, hx, q⟩ := of_d (l := bL (.str "left")) (by decide) (by decide) k p hp hk
  exact ⟨x, p', fnd_val (sq (sif_f (eand_f rfl) rfl) (sq (sif_f rfl rfl) (sq_rt (sif_t rfl (sq rfl (sret (ecall (xs := [.ref 0, .val (.lst (bL (.str "left")))]) rfl (callJ rfl rfl rfl e)))))))) rfl, hx, q⟩
theorem b_3 : Draws 1 (fnD 4 (g_bent f_take f_of f_odd rec)) [.val (.str "not x")] (· ∈ bL (.str "not x")) := fun k p hp hk => by
  obtain ⟨x, p', e, hx, q⟩ := of_d (l := bL (.str "not x")) (by decide) (by decide) k p hp hk
  exact ⟨x, p', fnd_val (sq (sif_f (eand_f rfl) rfl) (sq (sif_f rfl rfl) (sq_rt (sif_t rfl (sq rfl (sret (ecall (xs := [.ref 0, .val (.lst (bL (.str "not x")))]) rfl (callJ rfl rfl rfl e)))))))) rfl, hx, q⟩
theorem b_4 : Draws 1 (fnD 4 (g_bent f_take f_of f_odd rec)) [.val (.str "never")] (· ∈ bL (.str "never")) := fun k p hp hk => by
  obtain ⟨x, p', e, hx, q⟩ := of_d (l := bL (.str "never")) (by decide) (by decide) k p hp hk
  exact ⟨x, p', fnd_val (sq (sif_f (eand_f rfl) rfl) (sq (sif_f rfl rfl) (sq_rt (sif_t rfl (sq rfl (sret (ecall (xs := [.ref 0, .val (.lst (bL (.str "never")))]) rfl (callJ rfl rfl rfl e)))))))) rfl, hx, q⟩
theorem b_5 : Draws 1 (fnD 4 (g_bent f_take f_of f_odd rec)) [.val (.str "takes")] (· ∈ bL (.str "takes")) := fun k p hp hk => by
  obtain ⟨x, p', e, hx, q⟩ := of_d (l := bL (.str "takes")) (by decide) (by decide) k p hp hk
  exact ⟨x, p', fnd_val (sq (sif_f (eand_f rfl) rfl) (sq (sif_f rfl rfl) (sq_rt (sif_t rfl (sq rfl (sret (ecall (xs := [.ref 0, .val (.lst (bL (.str "takes")))]) rfl (callJ rfl rfl rfl e)))))))) rfl, hx, q⟩
theorem b_6 : Draws 1 (fnD 4 (g_bent f_take f_of f_odd rec)) [.val (.str "y")] (· ∈ bL (.str "y")) := fun k p hp hk => by
  obtain ⟨x, p', e, hx, q⟩ := of_d (l := bL (.str "y")) (by decide) (by decide) k p hp hk
  exact ⟨x, p', fnd_val (sq (sif_f (eand_f rfl) rfl) (sq (sif_f rfl rfl) (sq_rt (sif_t rfl (sq rfl (sret (ecall (xs := [.ref 0, .val (.lst (bL (.str "y")))]) rfl (callJ rfl rfl rfl e)))))))) rfl, hx, q⟩
theorem b_7 : Draws 1 (fnD 4 (g_bent f_take f_of f_odd rec)) [.val (.str "read")] (· ∈ bL (.str "read")) := fun k p hp hk => by
  obtain ⟨x, p', e, hx, q⟩ := of_d (l := bL (.str "read")) (by decide) (by decide) k p hp hk
  exact ⟨x, p', fnd_val (sq (sif_f (eand_f rfl) rfl) (sq (sif_f rfl rfl) (sq_rt (sif_t rfl (sq rfl (sret (ecall (xs := [.ref 0, .val (.lst (bL (.str "read")))]) rfl (callJ rfl rfl rfl e)))))))) rfl, hx, q⟩
theorem b_8 : Draws 1 (fnD 4 (g_bent f_take f_of f_odd rec)) [.val (.str "told")] (· ∈ bL (.str "told")) := fun k p hp hk => by
  obtain ⟨x, p', e, hx, q⟩ := of_d (l := bL (.str "told")) (by decide) (by decide) k p hp hk
  exact ⟨x, p', fnd_val (sq (sif_f (eand_f rfl) rfl) (sq (sif_f rfl rfl) (sq_rt (sif_t rfl (sq rfl (sret (ecall (xs := [.ref 0, .val (.lst (bL (.str "told")))]) rfl (callJ rfl rfl rfl e)))))))) rfl, hx, q⟩
theorem b_9 : Draws 1 (fnD 4 (g_bent f_take f_of f_odd rec)) [.val (.int 0)] (· ∈ bL (.int 0)) := fun k p hp hk => by
  obtain ⟨x, p', e, hx, q⟩ := of_d (l := bL (.int 0)) (by decide) (by decide) k p hp hk
  exact ⟨x, p', fnd_val (sq (sif_f (eand_f rfl) rfl) (sq (sif_f rfl rfl) (sq (sif_f rfl rfl) (sq (sif_f rfl rfl) (sq_rt (sif_t rfl (sret (ecall (xs := [.ref 0, .val (.lst (bL (.int 0)))]) rfl (callJ rfl rfl rfl e))))))))) rfl, hx, q⟩
theorem b_10 : Draws 1 (fnD 4 (g_bent f_take f_of f_odd rec)) [.val (.int 1)] (· ∈ bL (.int 1)) := fun k p hp hk => by
  obtain ⟨x, p', e, hx, q⟩ := of_d (l := bL (.int 1)) (by decide) (by decide) k p hp hk
  exact ⟨x, p', fnd_val (sq (sif_f (eand_f rfl) rfl) (sq (sif_f rfl rfl) (sq (sif_f rfl rfl) (sq (sif_f rfl rfl) (sq_rt (sif_t rfl (sret (ecall (xs := [.ref 0, .val (.lst (bL (.int 1)))]) rfl (callJ rfl rfl rfl e))))))))) rfl, hx, q⟩
theorem b_11 : Draws 1 (fnD 4 (g_bent f_take f_of f_odd rec)) [.val (.int (-1))] (· ∈ bL (.int (-1))) := fun k p hp hk => by
  obtain ⟨x, p', e, hx, q⟩ := of_d (l := bL (.int (-1))) (by decide) (by decide) k p hp hk
  exact ⟨x, p', fnd_val (sq (sif_f (eand_f rfl) rfl) (sq (sif_f rfl rfl) (sq (sif_f rfl rfl) (sq (sif_f rfl rfl) (sq_rt (sif_t rfl (sret (ecall (xs := [.ref 0, .val (.lst (bL (.int (-1))))]) rfl (callJ rfl rfl rfl e))))))))) rfl, hx, q⟩
theorem b_12 : Draws 1 (fnD 4 (g_bent f_take f_of f_odd rec)) [.val (.int 100000000)] (· ∈ bL (.int 100000000)) := fun k p hp hk => by
  obtain ⟨x, p', e, hx, q⟩ := of_d (l := bL (.int 100000000)) (by decide) (by decide) k p hp hk
  exact ⟨x, p', fnd_val (sq (sif_f (eand_f rfl) rfl) (sq (sif_f rfl rfl) (sq (sif_f rfl rfl) (sq (sif_f rfl rfl) (sq_rt (sif_t rfl (sret (ecall (xs := [.ref 0, .val (.lst (bL (.int 100000000)))]) rfl (callJ rfl rfl rfl e))))))))) rfl, hx, q⟩
theorem b_13 : Draws 1 (fnD 4 (g_bent f_take f_of f_odd rec)) [.val (.bl true)] (· ∈ bL (.bl true)) := fun k p hp hk => by
  obtain ⟨x, p', e, hx, q⟩ := of_d (l := bL (.bl true)) (by decide) (by decide) k p hp hk
  exact ⟨x, p', fnd_val (sq (sif_f (eand_f rfl) rfl) (sq (sif_f rfl rfl) (sq (sif_f rfl rfl) (sq_rt (sif_t rfl (sret (ecall (xs := [.ref 0, .val (.lst (bL (.bl true)))]) rfl (callJ rfl rfl rfl e)))))))) rfl, hx, q⟩
theorem b_14 : Draws 1 (fnD 4 (g_bent f_take f_of f_odd rec)) [.val (.bl false)] (· ∈ bL (.bl false)) := fun k p hp hk => by
  obtain ⟨x, p', e, hx, q⟩ := of_d (l := bL (.bl false)) (by decide) (by decide) k p hp hk
  exact ⟨x, p', fnd_val (sq (sif_f (eand_f rfl) rfl) (sq (sif_f rfl rfl) (sq (sif_f rfl rfl) (sq_rt (sif_t rfl (sret (ecall (xs := [.ref 0, .val (.lst (bL (.bl false)))]) rfl (callJ rfl rfl rfl e)))))))) rfl, hx, q⟩
theorem b_15 : Draws 1 (fnD 4 (g_bent f_take f_of f_odd rec)) [.val (.tup [])] (· ∈ bL (.tup [])) := fun k p hp hk => by
  obtain ⟨x, p', e, hx, q⟩ := of_d (l := bL (.tup [])) (by decide) (by decide) k p hp hk
  exact ⟨x, p', fnd_val (sq (sif_f (eand_t rfl (eand_f rfl)) rfl) (sq_rt (sif_t rfl (sq rfl (sret (ecall (xs := [.ref 0, .val (.lst (bL (.tup [])))]) rfl (callJ rfl rfl rfl e))))))) rfl, hx, q⟩
theorem b_16 : Draws 1 (fnD 4 (g_bent f_take f_of f_odd rec)) [.val (.non)] (· ∈ bL (.non)) := fun k p hp hk => by
  obtain ⟨x, p', e, hx, q⟩ := odd_d k p hp hk
  exact ⟨x, p', fnd_val (sq (sif_f (eand_f rfl) rfl) (sq (sif_f rfl rfl) (sq (sif_f rfl rfl) (sq (sif_f rfl rfl) (sq (sif_f rfl rfl) (sret (ecall rfl (callJ rfl rfl rfl e)))))))) rfl, hx, q⟩
theorem b_17 : Draws 1 (fnD 4 (g_bent f_take f_of f_odd rec)) [.val (.lst [])] (· ∈ bL (.lst [])) := fun k p hp hk => by
  obtain ⟨x, p', e, hx, q⟩ := odd_d k p hp hk
  exact ⟨x, p', fnd_val (sq (sif_f (eand_f rfl) rfl) (sq (sif_f rfl rfl) (sq (sif_f rfl rfl) (sq (sif_f rfl rfl) (sq (sif_f rfl rfl) (sret (ecall rfl (callJ rfl rfl rfl e)))))))) rfl, hx, q⟩
theorem b_18 : Draws 1 (fnD 4 (g_bent f_take f_of f_odd rec)) [.val (.dic [])] (· ∈ bL (.dic [])) := fun k p hp hk => by
  obtain ⟨x, p', e, hx, q⟩ := odd_d k p hp hk
  exact ⟨x, p', fnd_val (sq (sif_f (eand_f rfl) rfl) (sq (sif_f rfl rfl) (sq (sif_f rfl rfl) (sq (sif_f rfl rfl) (sq (sif_f rfl rfl) (sret (ecall rfl (callJ rfl rfl rfl e)))))))) rfl, hx, q⟩
theorem b_19 : Draws 1 (fnD 4 (g_bent f_take f_of f_odd rec)) [.val (.lst [.int 0])] (· ∈ bL (.lst [.int 0])) := fun k p hp hk => by
  obtain ⟨x, p', e, hx, q⟩ := odd_d k p hp hk
  exact ⟨x, p', fnd_val (sq (sif_f (eand_f rfl) rfl) (sq (sif_f rfl rfl) (sq (sif_f rfl rfl) (sq (sif_f rfl rfl) (sq (sif_f rfl rfl) (sret (ecall rfl (callJ rfl rfl rfl e)))))))) rfl, hx, q⟩
end
theorem bt_0 {n : Nat} : Draws 3 (r_bent (n + 2)) [.val (.tup [.int 0])] (· ∈ outs 2 (.tup [.int 0])) := fun k p hp hk => by
  obtain ⟨_, p1, e1, ⟨t1, rfl, t0, t6⟩, q1⟩ := take_d (n := 6) (by decide) (by decide) k p hp (by omega)
  by_cases ht : t1 > 0
  · obtain ⟨_, p2, e2, ⟨i, rfl, i0, i1⟩, q2⟩ := take_d (n := 1) (by decide) (by decide) (k + 1) p1 q1 (by omega)
    have hi : i = 0 := by omega
    rcases hi with rfl
    · obtain ⟨r, p3, e3, hr, q3⟩ := (Draws.weak (b_9 (rec := r_bent (n + 0))) (Nat.le_refl _) fun r (hr : r ∈ bL (.int 0)) => (hr : r ∈ outs 1 (.int 0))) (k + 2) p2 (q2.mono (by omega)) (by omega)
      refine ⟨.tup ([] ++ [r] ++ []), p3, fnd_val (sq_rt (sif_t (M' := [.lst p1]) (eand_t (M1 := [.lst p]) rfl (eand_t (M1 := [.lst p]) (by kernel_rfl) (et (d := .bl (decide (t1 > 0))) (e2v (d1 := .int t1) (d2 := .int 0) (M1 := [.lst p1]) (ecall rfl (callJ rfl rfl rfl e1)) rfl rfl) ?_))) (sq (sset (x := .val (.int 0)) (M' := [.lst p2]) (ecall rfl (callJ rfl rfl rfl e2))) (sret (e2v (d1 := .tup ([] ++ [r])) (d2 := .tup []) (e2v (d1 := .tup []) (d2 := .tup [r]) rfl (est (ds := [r]) (evs_cons (ecall rfl (callJ rfl rfl rfl e3)) rfl) rfl rfl) rfl) rfl rfl))))) rfl, ?_, q3.mono (by omega)⟩
      · show some (decide (t1 > 0)) = some true
        rw [decide_eq_true ht]
      · exact List.mem_append_right _ (List.mem_flatMap.mpr ⟨0, by decide, List.mem_map.mpr ⟨r, hr, rfl⟩⟩)
  · obtain ⟨x, p2, e2, hx, q2⟩ := of_d (l := bL (.tup [.int 0])) (by decide) (by decide) (k + 1) p1 q1 (by omega)
    refine ⟨x, p2, fnd_val (sq (sif_f (M' := [.lst p1]) (eand_t (M1 := [.lst p]) rfl (eand_t (M1 := [.lst p]) (by kernel_rfl) (et (d := .bl (decide (t1 > 0))) (e2v (d1 := .int t1) (d2 := .int 0) (M1 := [.lst p1]) (ecall rfl (callJ rfl rfl rfl e1)) rfl rfl) ?_))) rfl) (sq_rt (sif_t rfl (sq rfl (sret (ecall (xs := [.ref 0, .val (.lst (bL (.tup [.int 0])))]) rfl (callJ rfl rfl rfl e2))))))) rfl, List.mem_append_left _ hx, q2.mono (by omega)⟩
    show some (decide (t1 > 0)) = some false
    rw [decide_eq_false ht]
theorem bt_1 {n : Nat} : Draws 3 (r_bent (n + 2)) [.val (.tup [.tup []])] (· ∈ outs 2 (.tup [.tup []])) := fun k p hp hk => by
  obtain ⟨_, p1, e1, ⟨t1, rfl, t0, t6⟩, q1⟩ := take_d (n := 6) (by decide) (by decide) k p hp (by omega)
  by_cases ht : t1 > 0
  · obtain ⟨_, p2, e2, ⟨i, rfl, i0, i1⟩, q2⟩ := take_d (n := 1) (by decide) (by decide) (k + 1) p1 q1 (by omega)
    have hi : i = 0 := by omega
    rcases hi with rfl
    · obtain ⟨r, p3, e3, hr, q3⟩ := (Draws.weak (b_15 (rec := r_bent (n + 0))) (Nat.le_refl _) fun r (hr : r ∈ bL (.tup [])) => (List.mem_append_left _ hr : r ∈ outs 1 (.tup []))) (k + 2) p2 (q2.mono (by omega)) (by omega)
      refine ⟨.tup ([] ++ [r] ++ []), p3, fnd_val (sq_rt (sif_t (M' := [.lst p1]) (eand_t (M1 := [.lst p]) rfl (eand_t (M1 := [.lst p]) (by kernel_rfl) (et (d := .bl (decide (t1 > 0))) (e2v (d1 := .int t1) (d2 := .int 0) (M1 := [.lst p1]) (ecall rfl (callJ rfl rfl rfl e1)) rfl rfl) ?_))) (sq (sset (x := .val (.int 0)) (M' := [.lst p2]) (ecall rfl (callJ rfl rfl rfl e2))) (sret (e2v (d1 := .tup ([] ++ [r])) (d2 := .tup []) (e2v (d1 := .tup []) (d2 := .tup [r]) rfl (est (ds := [r]) (evs_cons (ecall rfl (callJ rfl rfl rfl e3)) rfl) rfl rfl) rfl) rfl rfl))))) rfl, ?_, q3.mono (by omega)⟩
      · show some (decide (t1 > 0)) = some true
        rw [decide_eq_true ht]
      · exact List.mem_append_right _ (List.mem_flatMap.mpr ⟨0, by decide, List.mem_map.mpr ⟨r, hr, rfl⟩⟩)
  · obtain ⟨x, p2, e2, hx, q2⟩ := of_d (l := bL (.tup [.tup []])) (by decide) (by decide) (k + 1) p1 q1 (by omega)
    refine ⟨x, p2, fnd_val (sq (sif_f (M' := [.lst p1]) (eand_t (M1 := [.lst p]) rfl (eand_t (M1 := [.lst p]) (by kernel_rfl) (et (d := .bl (decide (t1 > 0))) (e2v (d1 := .int t1) (d2 := .int 0) (M1 := [.lst p1]) (ecall rfl (callJ rfl rfl rfl e1)) rfl rfl) ?_))) rfl) (sq_rt (sif_t rfl (sq rfl (sret (ecall (xs := [.ref 0, .val (.lst (bL (.tup [.tup []])))]) rfl (callJ rfl rfl rfl e2))))))) rfl, List.mem_append_left _ hx, q2.mono (by omega)⟩
    show some (decide (t1 > 0)) = some false
    rw [decide_eq_false ht]
theorem bt_2 {n : Nat} : Draws 3 (r_bent (n + 2)) [.val (.tup [.str "x", .str "y"])] (· ∈ outs 2 (.tup [.str "x", .str "y"])) := fun k p hp hk => by
  obtain ⟨_, p1, e1, ⟨t1, rfl, t0, t6⟩, q1⟩ := take_d (n := 6) (by decide) (by decide) k p hp (by omega)
  by_cases ht : t1 > 0
  · obtain ⟨_, p2, e2, ⟨i, rfl, i0, i1⟩, q2⟩ := take_d (n := 2) (by decide) (by decide) (k + 1) p1 q1 (by omega)
    have hi : i = 0 ∨ i = 1 := by omega
    rcases hi with rfl | rfl
    · obtain ⟨r, p3, e3, hr, q3⟩ := (Draws.weak (b_1 (rec := r_bent (n + 0))) (Nat.le_refl _) fun r (hr : r ∈ bL (.str "x")) => (hr : r ∈ outs 1 (.str "x"))) (k + 2) p2 (q2.mono (by omega)) (by omega)
      refine ⟨.tup ([] ++ [r] ++ [.str "y"]), p3, fnd_val (sq_rt (sif_t (M' := [.lst p1]) (eand_t (M1 := [.lst p]) rfl (eand_t (M1 := [.lst p]) (by kernel_rfl) (et (d := .bl (decide (t1 > 0))) (e2v (d1 := .int t1) (d2 := .int 0) (M1 := [.lst p1]) (ecall rfl (callJ rfl rfl rfl e1)) rfl rfl) ?_))) (sq (sset (x := .val (.int 0)) (M' := [.lst p2]) (ecall rfl (callJ rfl rfl rfl e2))) (sret (e2v (d1 := .tup ([] ++ [r])) (d2 := .tup [.str "y"]) (e2v (d1 := .tup []) (d2 := .tup [r]) rfl (est (ds := [r]) (evs_cons (ecall rfl (callJ rfl rfl rfl e3)) rfl) rfl rfl) rfl) rfl rfl))))) rfl, ?_, q3.mono (by omega)⟩
      · show some (decide (t1 > 0)) = some true
        rw [decide_eq_true ht]
      · exact List.mem_append_right _ (List.mem_flatMap.mpr ⟨0, by decide, List.mem_map.mpr ⟨r, hr, rfl⟩⟩)
    · obtain ⟨r, p3, e3, hr, q3⟩ := (Draws.weak (b_6 (rec := r_bent (n + 0))) (Nat.le_refl _) fun r (hr : r ∈ bL (.str "y")) => (hr : r ∈ outs 1 (.str "y"))) (k + 2) p2 (q2.mono (by omega)) (by omega)
      refine ⟨.tup ([.str "x"] ++ [r] ++ []), p3, fnd_val (sq_rt (sif_t (M' := [.lst p1]) (eand_t (M1 := [.lst p]) rfl (eand_t (M1 := [.lst p]) (by kernel_rfl) (et (d := .bl (decide (t1 > 0))) (e2v (d1 := .int t1) (d2 := .int 0) (M1 := [.lst p1]) (ecall rfl (callJ rfl rfl rfl e1)) rfl rfl) ?_))) (sq (sset (x := .val (.int 1)) (M' := [.lst p2]) (ecall rfl (callJ rfl rfl rfl e2))) (sret (e2v (d1 := .tup ([.str "x"] ++ [r])) (d2 := .tup []) (e2v (d1 := .tup [.str "x"]) (d2 := .tup [r]) rfl (est (ds := [r]) (evs_cons (ecall rfl (callJ rfl rfl rfl e3)) rfl) rfl rfl) rfl) rfl rfl))))) rfl, ?_, q3.mono (by omega)⟩
      · show some (decide (t1 > 0)) = some true
        rw [decide_eq_true ht]
      · exact List.mem_append_right _ (List.mem_flatMap.mpr ⟨1, by decide, List.mem_map.mpr ⟨r, hr, rfl⟩⟩)
  · obtain ⟨x, p2, e2, hx, q2⟩ := of_d (l := bL (.tup [.str "x", .str "y"])) (by decide) (by decide) (k + 1) p1 q1 (by omega)
    refine ⟨x, p2, fnd_val (sq (sif_f (M' := [.lst p1]) (eand_t (M1 := [.lst p]) rfl (eand_t (M1 := [.lst p]) (by kernel_rfl) (et (d := .bl (decide (t1 > 0))) (e2v (d1 := .int t1) (d2 := .int 0) (M1 := [.lst p1]) (ecall rfl (callJ rfl rfl rfl e1)) rfl rfl) ?_))) rfl) (sq_rt (sif_t rfl (sq rfl (sret (ecall (xs := [.ref 0, .val (.lst (bL (.tup [.str "x", .str "y"])))]) rfl (callJ rfl rfl rfl e2))))))) rfl, List.mem_append_left _ hx, q2.mono (by omega)⟩
    show some (decide (t1 > 0)) = some false
    rw [decide_eq_false ht]
theorem bt_3 {n : Nat} : Draws 3 (r_bent (n + 2)) [.val (.tup [.str "takes", .str "x", .str "y", .str "left"])] (· ∈ outs 2 (.tup [.str "takes", .str "x", .str "y", .str "left"])) := fun k p hp hk => by
  obtain ⟨_, p1, e1, ⟨t1, rfl, t0, t6⟩, q1⟩ := take_d (n := 6) (by decide) (by decide) k p hp (by omega)
  by_cases ht : t1 > 0
  · obtain ⟨_, p2, e2, ⟨i, rfl, i0, i1⟩, q2⟩ := take_d (n := 4) (by decide) (by decide) (k + 1) p1 q1 (by omega)
    have hi : i = 0 ∨ i = 1 ∨ i = 2 ∨ i = 3 := by omega
    rcases hi with rfl | rfl | rfl | rfl
    · obtain ⟨r, p3, e3, hr, q3⟩ := (Draws.weak (b_5 (rec := r_bent (n + 0))) (Nat.le_refl _) fun r (hr : r ∈ bL (.str "takes")) => (hr : r ∈ outs 1 (.str "takes"))) (k + 2) p2 (q2.mono (by omega)) (by omega)
      refine ⟨.tup ([] ++ [r] ++ [.str "x", .str "y", .str "left"]), p3, fnd_val (sq_rt (sif_t (M' := [.lst p1]) (eand_t (M1 := [.lst p]) rfl (eand_t (M1 := [.lst p]) (by kernel_rfl) (et (d := .bl (decide (t1 > 0))) (e2v (d1 := .int t1) (d2 := .int 0) (M1 := [.lst p1]) (ecall rfl (callJ rfl rfl rfl e1)) rfl rfl) ?_))) (sq (sset (x := .val (.int 0)) (M' := [.lst p2]) (ecall rfl (callJ rfl rfl rfl e2))) (sret (e2v (d1 := .tup ([] ++ [r])) (d2 := .tup [.str "x", .str "y", .str "left"]) (e2v (d1 := .tup []) (d2 := .tup [r]) rfl (est (ds := [r]) (evs_cons (ecall rfl (callJ rfl rfl rfl e3)) rfl) rfl rfl) rfl) rfl rfl))))) rfl, ?_, q3.mono (by omega)⟩
      · show some (decide (t1 > 0)) = some true
        rw [decide_eq_true ht]
      · exact List.mem_append_right _ (List.mem_flatMap.mpr ⟨0, by decide, List.mem_map.mpr ⟨r, hr, rfl⟩⟩)
    · obtain ⟨r, p3, e3, hr, q3⟩ := (Draws.weak (b_1 (rec := r_bent (n + 0))) (Nat.le_refl _) fun r (hr : r ∈ bL (.str "x")) => (hr : r ∈ outs 1 (.str "x"))) (k + 2) p2 (q2.mono (by omega)) (by omega)
      refine ⟨.tup ([.str "takes"] ++ [r] ++ [.str "y", .str "left"]), p3, fnd_val (sq_rt (sif_t (M' := [.lst p1]) (eand_t (M1 := [.lst p]) rfl (eand_t (M1 := [.lst p]) (by kernel_rfl) (et (d := .bl (decide (t1 > 0))) (e2v (d1 := .int t1) (d2 := .int 0) (M1 := [.lst p1]) (ecall rfl (callJ rfl rfl rfl e1)) rfl rfl) ?_))) (sq (sset (x := .val (.int 1)) (M' := [.lst p2]) (ecall rfl (callJ rfl rfl rfl e2))) (sret (e2v (d1 := .tup ([.str "takes"] ++ [r])) (d2 := .tup [.str "y", .str "left"]) (e2v (d1 := .tup [.str "takes"]) (d2 := .tup [r]) rfl (est (ds := [r]) (evs_cons (ecall rfl (callJ rfl rfl rfl e3)) rfl) rfl rfl) rfl) rfl rfl))))) rfl, ?_, q3.mono (by omega)⟩
      · show some (decide (t1 > 0)) = some true
        rw [decide_eq_true ht]
      · exact List.mem_append_right _ (List.mem_flatMap.mpr ⟨1, by decide, List.mem_map.mpr ⟨r, hr, rfl⟩⟩)
    · obtain ⟨r, p3, e3, hr, q3⟩ := (Draws.weak (b_6 (rec := r_bent (n + 0))) (Nat.le_refl _) fun r (hr : r ∈ bL (.str "y")) => (hr : r ∈ outs 1 (.str "y"))) (k + 2) p2 (q2.mono (by omega)) (by omega)
      refine ⟨.tup ([.str "takes", .str "x"] ++ [r] ++ [.str "left"]), p3, fnd_val (sq_rt (sif_t (M' := [.lst p1]) (eand_t (M1 := [.lst p]) rfl (eand_t (M1 := [.lst p]) (by kernel_rfl) (et (d := .bl (decide (t1 > 0))) (e2v (d1 := .int t1) (d2 := .int 0) (M1 := [.lst p1]) (ecall rfl (callJ rfl rfl rfl e1)) rfl rfl) ?_))) (sq (sset (x := .val (.int 2)) (M' := [.lst p2]) (ecall rfl (callJ rfl rfl rfl e2))) (sret (e2v (d1 := .tup ([.str "takes", .str "x"] ++ [r])) (d2 := .tup [.str "left"]) (e2v (d1 := .tup [.str "takes", .str "x"]) (d2 := .tup [r]) rfl (est (ds := [r]) (evs_cons (ecall rfl (callJ rfl rfl rfl e3)) rfl) rfl rfl) rfl) rfl rfl))))) rfl, ?_, q3.mono (by omega)⟩
      · show some (decide (t1 > 0)) = some true
        rw [decide_eq_true ht]
      · exact List.mem_append_right _ (List.mem_flatMap.mpr ⟨2, by decide, List.mem_map.mpr ⟨r, hr, rfl⟩⟩)
    · obtain ⟨r, p3, e3, hr, q3⟩ := (Draws.weak (b_2 (rec := r_bent (n + 0))) (Nat.le_refl _) fun r (hr : r ∈ bL (.str "left")) => (hr : r ∈ outs 1 (.str "left"))) (k + 2) p2 (q2.mono (by omega)) (by omega)
      refine ⟨.tup ([.str "takes", .str "x", .str "y"] ++ [r] ++ []), p3, fnd_val (sq_rt (sif_t (M' := [.lst p1]) (eand_t (M1 := [.lst p]) rfl (eand_t (M1 := [.lst p]) (by kernel_rfl) (et (d := .bl (decide (t1 > 0))) (e2v (d1 := .int t1) (d2 := .int 0) (M1 := [.lst p1]) (ecall rfl (callJ rfl rfl rfl e1)) rfl rfl) ?_))) (sq (sset (x := .val (.int 3)) (M' := [.lst p2]) (ecall rfl (callJ rfl rfl rfl e2))) (sret (e2v (d1 := .tup ([.str "takes", .str "x", .str "y"] ++ [r])) (d2 := .tup []) (e2v (d1 := .tup [.str "takes", .str "x", .str "y"]) (d2 := .tup [r]) rfl (est (ds := [r]) (evs_cons (ecall rfl (callJ rfl rfl rfl e3)) rfl) rfl rfl) rfl) rfl rfl))))) rfl, ?_, q3.mono (by omega)⟩
      · show some (decide (t1 > 0)) = some true
        rw [decide_eq_true ht]
      · exact List.mem_append_right _ (List.mem_flatMap.mpr ⟨3, by decide, List.mem_map.mpr ⟨r, hr, rfl⟩⟩)
  · obtain ⟨x, p2, e2, hx, q2⟩ := of_d (l := bL (.tup [.str "takes", .str "x", .str "y", .str "left"])) (by decide) (by decide) (k + 1) p1 q1 (by omega)
    refine ⟨x, p2, fnd_val (sq (sif_f (M' := [.lst p1]) (eand_t (M1 := [.lst p]) rfl (eand_t (M1 := [.lst p]) (by kernel_rfl) (et (d := .bl (decide (t1 > 0))) (e2v (d1 := .int t1) (d2 := .int 0) (M1 := [.lst p1]) (ecall rfl (callJ rfl rfl rfl e1)) rfl rfl) ?_))) rfl) (sq_rt (sif_t rfl (sq rfl (sret (ecall (xs := [.ref 0, .val (.lst (bL (.tup [.str "takes", .str "x", .str "y", .str "left"])))]) rfl (callJ rfl rfl rfl e2))))))) rfl, List.mem_append_left _ hx, q2.mono (by omega)⟩
    show some (decide (t1 > 0)) = some false
    rw [decide_eq_false ht]
theorem bt_4 {n : Nat} : Draws 3 (r_bent (n + 2)) [.val (.tup [.str "read", .str "x"])] (· ∈ outs 2 (.tup [.str "read", .str "x"])) := fun k p hp hk => by
  obtain ⟨_, p1, e1, ⟨t1, rfl, t0, t6⟩, q1⟩ := take_d (n := 6) (by decide) (by decide) k p hp (by omega)
  by_cases ht : t1 > 0
  · obtain ⟨_, p2, e2, ⟨i, rfl, i0, i1⟩, q2⟩ := take_d (n := 2) (by decide) (by decide) (k + 1) p1 q1 (by omega)
    have hi : i = 0 ∨ i = 1 := by omega
    rcases hi with rfl | rfl
    · obtain ⟨r, p3, e3, hr, q3⟩ := (Draws.weak (b_7 (rec := r_bent (n + 0))) (Nat.le_refl _) fun r (hr : r ∈ bL (.str "read")) => (hr : r ∈ outs 1 (.str "read"))) (k + 2) p2 (q2.mono (by omega)) (by omega)
      refine ⟨.tup ([] ++ [r] ++ [.str "x"]), p3, fnd_val (sq_rt (sif_t (M' := [.lst p1]) (eand_t (M1 := [.lst p]) rfl (eand_t (M1 := [.lst p]) (by kernel_rfl) (et (d := .bl (decide (t1 > 0))) (e2v (d1 := .int t1) (d2 := .int 0) (M1 := [.lst p1]) (ecall rfl (callJ rfl rfl rfl e1)) rfl rfl) ?_))) (sq (sset (x := .val (.int 0)) (M' := [.lst p2]) (ecall rfl (callJ rfl rfl rfl e2))) (sret (e2v (d1 := .tup ([] ++ [r])) (d2 := .tup [.str "x"]) (e2v (d1 := .tup []) (d2 := .tup [r]) rfl (est (ds := [r]) (evs_cons (ecall rfl (callJ rfl rfl rfl e3)) rfl) rfl rfl) rfl) rfl rfl))))) rfl, ?_, q3.mono (by omega)⟩
      · show some (decide (t1 > 0)) = some true
        rw [decide_eq_true ht]
      · exact List.mem_append_right _ (List.mem_flatMap.mpr ⟨0, by decide, List.mem_map.mpr ⟨r, hr, rfl⟩⟩)
    · obtain ⟨r, p3, e3, hr, q3⟩ := (Draws.weak (b_1 (rec := r_bent (n + 0))) (Nat.le_refl _) fun r (hr : r ∈ bL (.str "x")) => (hr : r ∈ outs 1 (.str "x"))) (k + 2) p2 (q2.mono (by omega)) (by omega)
      refine ⟨.tup ([.str "read"] ++ [r] ++ []), p3, fnd_val (sq_rt (sif_t (M' := [.lst p1]) (eand_t (M1 := [.lst p]) rfl (eand_t (M1 := [.lst p]) (by kernel_rfl) (et (d := .bl (decide (t1 > 0))) (e2v (d1 := .int t1) (d2 := .int 0) (M1 := [.lst p1]) (ecall rfl (callJ rfl rfl rfl e1)) rfl rfl) ?_))) (sq (sset (x := .val (.int 1)) (M' := [.lst p2]) (ecall rfl (callJ rfl rfl rfl e2))) (sret (e2v (d1 := .tup ([.str "read"] ++ [r])) (d2 := .tup []) (e2v (d1 := .tup [.str "read"]) (d2 := .tup [r]) rfl (est (ds := [r]) (evs_cons (ecall rfl (callJ rfl rfl rfl e3)) rfl) rfl rfl) rfl) rfl rfl))))) rfl, ?_, q3.mono (by omega)⟩
      · show some (decide (t1 > 0)) = some true
        rw [decide_eq_true ht]
      · exact List.mem_append_right _ (List.mem_flatMap.mpr ⟨1, by decide, List.mem_map.mpr ⟨r, hr, rfl⟩⟩)
  · obtain ⟨x, p2, e2, hx, q2⟩ := of_d (l := bL (.tup [.str "read", .str "x"])) (by decide) (by decide) (k + 1) p1 q1 (by omega)
    refine ⟨x, p2, fnd_val (sq (sif_f (M' := [.lst p1]) (eand_t (M1 := [.lst p]) rfl (eand_t (M1 := [.lst p]) (by kernel_rfl) (et (d := .bl (decide (t1 > 0))) (e2v (d1 := .int t1) (d2 := .int 0) (M1 := [.lst p1]) (ecall rfl (callJ rfl rfl rfl e1)) rfl rfl) ?_))) rfl) (sq_rt (sif_t rfl (sq rfl (sret (ecall (xs := [.ref 0, .val (.lst (bL (.tup [.str "read", .str "x"])))]) rfl (callJ rfl rfl rfl e2))))))) rfl, List.mem_append_left _ hx, q2.mono (by omega)⟩
    show some (decide (t1 > 0)) = some false
    rw [decide_eq_false ht]
theorem bt_5 {n : Nat} : Draws 5 (r_bent (n + 3)) [.val (.tup [.tup [.str "read", .str "x"]])] (· ∈ outs 3 (.tup [.tup [.str "read", .str "x"]])) := fun k p hp hk => by
  obtain ⟨_, p1, e1, ⟨t1, rfl, t0, t6⟩, q1⟩ := take_d (n := 6) (by decide) (by decide) k p hp (by omega)
  by_cases ht : t1 > 0
  · obtain ⟨_, p2, e2, ⟨i, rfl, i0, i1⟩, q2⟩ := take_d (n := 1) (by decide) (by decide) (k + 1) p1 q1 (by omega)
    have hi : i = 0 := by omega
    rcases hi with rfl
    · obtain ⟨r, p3, e3, hr, q3⟩ := (bt_4 (n := n)) (k + 2) p2 (q2.mono (by omega)) (by omega)
      refine ⟨.tup ([] ++ [r] ++ []), p3, fnd_val (sq_rt (sif_t (M' := [.lst p1]) (eand_t (M1 := [.lst p]) rfl (eand_t (M1 := [.lst p]) (by kernel_rfl) (et (d := .bl (decide (t1 > 0))) (e2v (d1 := .int t1) (d2 := .int 0) (M1 := [.lst p1]) (ecall rfl (callJ rfl rfl rfl e1)) rfl rfl) ?_))) (sq (sset (x := .val (.int 0)) (M' := [.lst p2]) (ecall rfl (callJ rfl rfl rfl e2))) (sret (e2v (d1 := .tup ([] ++ [r])) (d2 := .tup []) (e2v (d1 := .tup []) (d2 := .tup [r]) rfl (est (ds := [r]) (evs_cons (ecall rfl (callJ rfl rfl rfl e3)) rfl) rfl rfl) rfl) rfl rfl))))) rfl, ?_, q3.mono (by omega)⟩
      · show some (decide (t1 > 0)) = some true
        rw [decide_eq_true ht]
      · exact List.mem_append_right _ (List.mem_flatMap.mpr ⟨0, by decide, List.mem_map.mpr ⟨r, hr, rfl⟩⟩)
  · obtain ⟨x, p2, e2, hx, q2⟩ := of_d (l := bL (.tup [.tup [.str "read", .str "x"]])) (by decide) (by decide) (k + 1) p1 q1 (by omega)
    refine ⟨x, p2, fnd_val (sq (sif_f (M' := [.lst p1]) (eand_t (M1 := [.lst p]) rfl (eand_t (M1 := [.lst p]) (by kernel_rfl) (et (d := .bl (decide (t1 > 0))) (e2v (d1 := .int t1) (d2 := .int 0) (M1 := [.lst p1]) (ecall rfl (callJ rfl rfl rfl e1)) rfl rfl) ?_))) rfl) (sq_rt (sif_t rfl (sq rfl (sret (ecall (xs := [.ref 0, .val (.lst (bL (.tup [.tup [.str "read", .str "x"]])))]) rfl (callJ rfl rfl rfl e2))))))) rfl, List.mem_append_left _ hx, q2.mono (by omega)⟩
    show some (decide (t1 > 0)) = some false
    rw [decide_eq_false ht]
theorem bt_6 {n : Nat} : Draws 3 (r_bent (n + 2)) [.val (.tup [.str "told", .int 0])] (· ∈ outs 2 (.tup [.str "told", .int 0])) := fun k p hp hk => by
  obtain ⟨_, p1, e1, ⟨t1, rfl, t0, t6⟩, q1⟩ := take_d (n := 6) (by decide) (by decide) k p hp (by omega)
  by_cases ht : t1 > 0
  · obtain ⟨_, p2, e2, ⟨i, rfl, i0, i1⟩, q2⟩ := take_d (n := 2) (by decide) (by decide) (k + 1) p1 q1 (by omega)
    have hi : i = 0 ∨ i = 1 := by omega
    rcases hi with rfl | rfl
    · obtain ⟨r, p3, e3, hr, q3⟩ := (Draws.weak (b_8 (rec := r_bent (n + 0))) (Nat.le_refl _) fun r (hr : r ∈ bL (.str "told")) => (hr : r ∈ outs 1 (.str "told"))) (k + 2) p2 (q2.mono (by omega)) (by omega)
      refine ⟨.tup ([] ++ [r] ++ [.int 0]), p3, fnd_val (sq_rt (sif_t (M' := [.lst p1]) (eand_t (M1 := [.lst p]) rfl (eand_t (M1 := [.lst p]) (by kernel_rfl) (et (d := .bl (decide (t1 > 0))) (e2v (d1 := .int t1) (d2 := .int 0) (M1 := [.lst p1]) (ecall rfl (callJ rfl rfl rfl e1)) rfl rfl) ?_))) (sq (sset (x := .val (.int 0)) (M' := [.lst p2]) (ecall rfl (callJ rfl rfl rfl e2))) (sret (e2v (d1 := .tup ([] ++ [r])) (d2 := .tup [.int 0]) (e2v (d1 := .tup []) (d2 := .tup [r]) rfl (est (ds := [r]) (evs_cons (ecall rfl (callJ rfl rfl rfl e3)) rfl) rfl rfl) rfl) rfl rfl))))) rfl, ?_, q3.mono (by omega)⟩
      · show some (decide (t1 > 0)) = some true
        rw [decide_eq_true ht]
      · exact List.mem_append_right _ (List.mem_flatMap.mpr ⟨0, by decide, List.mem_map.mpr ⟨r, hr, rfl⟩⟩)
    · obtain ⟨r, p3, e3, hr, q3⟩ := (Draws.weak (b_9 (rec := r_bent (n + 0))) (Nat.le_refl _) fun r (hr : r ∈ bL (.int 0)) => (hr : r ∈ outs 1 (.int 0))) (k + 2) p2 (q2.mono (by omega)) (by omega)
      refine ⟨.tup ([.str "told"] ++ [r] ++ []), p3, fnd_val (sq_rt (sif_t (M' := [.lst p1]) (eand_t (M1 := [.lst p]) rfl (eand_t (M1 := [.lst p]) (by kernel_rfl) (et (d := .bl (decide (t1 > 0))) (e2v (d1 := .int t1) (d2 := .int 0) (M1 := [.lst p1]) (ecall rfl (callJ rfl rfl rfl e1)) rfl rfl) ?_))) (sq (sset (x := .val (.int 1)) (M' := [.lst p2]) (ecall rfl (callJ rfl rfl rfl e2))) (sret (e2v (d1 := .tup ([.str "told"] ++ [r])) (d2 := .tup []) (e2v (d1 := .tup [.str "told"]) (d2 := .tup [r]) rfl (est (ds := [r]) (evs_cons (ecall rfl (callJ rfl rfl rfl e3)) rfl) rfl rfl) rfl) rfl rfl))))) rfl, ?_, q3.mono (by omega)⟩
      · show some (decide (t1 > 0)) = some true
        rw [decide_eq_true ht]
      · exact List.mem_append_right _ (List.mem_flatMap.mpr ⟨1, by decide, List.mem_map.mpr ⟨r, hr, rfl⟩⟩)
  · obtain ⟨x, p2, e2, hx, q2⟩ := of_d (l := bL (.tup [.str "told", .int 0])) (by decide) (by decide) (k + 1) p1 q1 (by omega)
    refine ⟨x, p2, fnd_val (sq (sif_f (M' := [.lst p1]) (eand_t (M1 := [.lst p]) rfl (eand_t (M1 := [.lst p]) (by kernel_rfl) (et (d := .bl (decide (t1 > 0))) (e2v (d1 := .int t1) (d2 := .int 0) (M1 := [.lst p1]) (ecall rfl (callJ rfl rfl rfl e1)) rfl rfl) ?_))) rfl) (sq_rt (sif_t rfl (sq rfl (sret (ecall (xs := [.ref 0, .val (.lst (bL (.tup [.str "told", .int 0])))]) rfl (callJ rfl rfl rfl e2))))))) rfl, List.mem_append_left _ hx, q2.mono (by omega)⟩
    show some (decide (t1 > 0)) = some false
    rw [decide_eq_false ht]
theorem bent_d {d : D} (h : d ∈ oddL) : Draws 5 f_bent [.val d] (· ∈ outs 3 d) := by
  simp only [oddL, List.mem_cons, List.not_mem_nil, or_false] at h
  rcases h with rfl | rfl | rfl | rfl | rfl | rfl | rfl | rfl | rfl | rfl | rfl | rfl | rfl | rfl | rfl | rfl | rfl | rfl | rfl | rfl | rfl | rfl | rfl
  · exact Draws.weak (b_16 (rec := r_bent 39)) (by decide) fun r (hr : r ∈ bL (.non)) => (hr : r ∈ outs 3 (.non))
  · exact Draws.weak (b_13 (rec := r_bent 39)) (by decide) fun r (hr : r ∈ bL (.bl true)) => (hr : r ∈ outs 3 (.bl true))
  · exact Draws.weak (b_14 (rec := r_bent 39)) (by decide) fun r (hr : r ∈ bL (.bl false)) => (hr : r ∈ outs 3 (.bl false))
  · exact Draws.weak (b_9 (rec := r_bent 39)) (by decide) fun r (hr : r ∈ bL (.int 0)) => (hr : r ∈ outs 3 (.int 0))
  · exact Draws.weak (b_10 (rec := r_bent 39)) (by decide) fun r (hr : r ∈ bL (.int 1)) => (hr : r ∈ outs 3 (.int 1))
  · exact Draws.weak (b_11 (rec := r_bent 39)) (by decide) fun r (hr : r ∈ bL (.int (-1))) => (hr : r ∈ outs 3 (.int (-1)))
  · exact Draws.weak (b_12 (rec := r_bent 39)) (by decide) fun r (hr : r ∈ bL (.int 100000000)) => (hr : r ∈ outs 3 (.int 100000000))
  · exact Draws.weak (b_0 (rec := r_bent 39)) (by decide) fun r (hr : r ∈ bL (.str "")) => (hr : r ∈ outs 3 (.str ""))
  · exact Draws.weak (b_1 (rec := r_bent 39)) (by decide) fun r (hr : r ∈ bL (.str "x")) => (hr : r ∈ outs 3 (.str "x"))
  · exact Draws.weak (b_2 (rec := r_bent 39)) (by decide) fun r (hr : r ∈ bL (.str "left")) => (hr : r ∈ outs 3 (.str "left"))
  · exact Draws.weak (b_3 (rec := r_bent 39)) (by decide) fun r (hr : r ∈ bL (.str "not x")) => (hr : r ∈ outs 3 (.str "not x"))
  · exact Draws.weak (b_15 (rec := r_bent 39)) (by decide) fun r (hr : r ∈ bL (.tup [])) => (List.mem_append_left _ hr : r ∈ outs 3 (.tup []))
  · exact Draws.weak (b_17 (rec := r_bent 39)) (by decide) fun r (hr : r ∈ bL (.lst [])) => (hr : r ∈ outs 3 (.lst []))
  · exact Draws.weak (b_18 (rec := r_bent 39)) (by decide) fun r (hr : r ∈ bL (.dic [])) => (hr : r ∈ outs 3 (.dic []))
  · exact Draws.weak (bt_0 (n := 38)) (by decide) fun r hr => (by have : (outs 2 (.tup [.int 0])) = outs 3 (.tup [.int 0]) := rfl; rw [← this]; exact hr)
  · exact Draws.weak (bt_1 (n := 38)) (by decide) fun r hr => (by have : (outs 2 (.tup [.tup []])) = outs 3 (.tup [.tup []]) := rfl; rw [← this]; exact hr)
  · exact Draws.weak (b_19 (rec := r_bent 39)) (by decide) fun r (hr : r ∈ bL (.lst [.int 0])) => (hr : r ∈ outs 3 (.lst [.int 0]))
  · exact Draws.weak (bt_2 (n := 38)) (by decide) fun r hr => (by have : (outs 2 (.tup [.str "x", .str "y"])) = outs 3 (.tup [.str "x", .str "y"]) := rfl; rw [← this]; exact hr)
  · exact Draws.weak (bt_3 (n := 38)) (by decide) fun r hr => (by have : (outs 2 (.tup [.str "takes", .str "x", .str "y", .str "left"])) = outs 3 (.tup [.str "takes", .str "x", .str "y", .str "left"]) := rfl; rw [← this]; exact hr)
  · exact Draws.weak (bt_4 (n := 38)) (by decide) fun r hr => (by have : (outs 2 (.tup [.str "read", .str "x"])) = outs 3 (.tup [.str "read", .str "x"]) := rfl; rw [← this]; exact hr)
  · exact bt_5 (n := 37)
  · exact Draws.weak (bt_6 (n := 38)) (by decide) fun r hr => (by have : (outs 2 (.tup [.str "told", .int 0])) = outs 3 (.tup [.str "told", .int 0]) := rfl; rw [← this]; exact hr)
  · exact Draws.weak (b_4 (rec := r_bent 39)) (by decide) fun r (hr : r ∈ bL (.str "never")) => (hr : r ∈ outs 3 (.str "never"))
theorem good_all : (oddL.all fun d => goodB d && (outs 3 d).all goodB) = true := by decide +kernel
end L
namespace L
open PySem L2 Ow

def names23 : List Str := ["BadTongue", "NoSign", "BadLadder", "NoMeeting", "BadTree", "BadPhrase", "BadBook", "OtherTongue", "BadFact", "Full", "NoFact", "BadFacts", "BadClaims", "NoLadder", "TooMany", "BadNumber", "BadPhrases", "Contrary", "NothingToUndo", "NothingToRedo", "NoTrial", "BadJournal", "BadLine"]
def eachL (v : D) : List D := names23.map fun c => .exc c v
def marksL (c : Str) : List D := names23.map fun n => .bl (c == n)
def rowL (j : Int) : List D := (rgD 0 23).map fun d => match d with
  | .int i => .bl (PyData.eqv (.int j) (.int i))
  | _ => .non
theorem each_ok (v : D) : f_each [.val v] [] = some (.ok (.val (.lst (eachL v))), []) := by kernel_rfl
theorem marks_ok (v : D) : ∀ c ∈ ("TakeError" : Str) :: names23, f_marks [.val (.exc c v)] [] = some (.ok (.val (.lst (marksL c))), []) := by
  intro c hc
  simp only [names23, List.mem_cons, List.not_mem_nil, or_false] at hc
  rcases hc with rfl | rfl | rfl | rfl | rfl | rfl | rfl | rfl | rfl | rfl | rfl | rfl | rfl | rfl | rfl | rfl | rfl | rfl | rfl | rfl | rfl | rfl | rfl | rfl <;> kernel_rfl
def pairs23 : List (Int × Str) := [(0, "BadTongue"), (1, "NoSign"), (2, "BadLadder"), (3, "NoMeeting"), (4, "BadTree"), (5, "BadPhrase"), (6, "BadBook"), (7, "OtherTongue"), (8, "BadFact"), (9, "Full"), (10, "NoFact"), (11, "BadFacts"), (12, "BadClaims"), (13, "NoLadder"), (14, "TooMany"), (15, "BadNumber"), (16, "BadPhrases"), (17, "Contrary"), (18, "NothingToUndo"), (19, "NothingToRedo"), (20, "NoTrial"), (21, "BadJournal"), (22, "BadLine")]
def rw1 (v : D) (x y z : Option A) : Sl := [some (.ref 0), some (.val v), some (.val (.lst (eachL v))), some (.val (.exc "TakeError" v)), x, y, z]
theorem body_ok {v : D} {s : Str} {p : List D} (h1 : dRepr [v] = some (.str s)) (h2 : dNe (.str s) (.str s) = some (.bl false)) : ∀ q ∈ pairs23,
    l_right_0 f_take f_odd f_bent f_each f_marks (rw1 v (some (.val (.int q.1))) (some (.val (.exc q.2 v))) none) [.lst p] = some (.nx, rw1 v (some (.val (.int q.1))) (some (.val (.exc q.2 v))) none, [.lst p]) := by
  have key : ∀ (j : Int) (c : Str), c ∈ ("TakeError" : Str) :: names23 → dValue tab (.exc c v) = some v → dNe (.lst (marksL c)) (.lst (rowL j)) = some (.bl false) →
      (eLc [6] (eiR1 (eN dLen [(eV 2)])) (gN 6) eYes (e2 dEq (eV 4) (eV 6))) (rw1 v (some (.val (.int j))) (some (.val (.exc c v))) none) [.lst p] = some (.ok (.val (.lst (rowL j))), [.lst p]) →
      (sIf (eOr (eNot (eT (eN (dIsi tab) [(eV 5), (eC (.glb "TakeError"))]))) (eNot (eT (eN (dIsi tab) [(eV 5), (eC (.ty "ValueError"))])))) (sRet (eC (.bl false))) sNil) (rw1 v (some (.val (.int j))) (some (.val (.exc c v))) none) [.lst p] = some (.nx, rw1 v (some (.val (.int j))) (some (.val (.exc c v))) none, [.lst p]) →
      l_right_0 f_take f_odd f_bent f_each f_marks (rw1 v (some (.val (.int j))) (some (.val (.exc c v))) none) [.lst p] = some (.nx, rw1 v (some (.val (.int j))) (some (.val (.exc c v))) none, [.lst p]) := by
    intro j c hc hv hne hl hi
    refine sq (sif_f (M' := [.lst p]) (eor_f (M1 := [.lst p]) (et (d := .bl false) (e2v (d1 := .lst (marksL c)) (d2 := .lst (rowL j)) (M1 := [.lst p]) (ecall (xs := [.val (.exc c v)]) rfl (callV rfl (marks_ok v c hc))) hl hne) rfl)
      (et (d := .bl false) (e2v (d1 := .str s) (d2 := .str s) (M1 := [.lst p]) (en1 (d1 := v) (e1v (d1 := .exc c v) rfl hv) h1) (en1 (d1 := v) rfl h1) h2) rfl)) rfl) hi
  intro q hq
  simp only [pairs23, List.mem_cons, List.not_mem_nil, or_false] at hq
  rcases hq with rfl | rfl | rfl | rfl | rfl | rfl | rfl | rfl | rfl | rfl | rfl | rfl | rfl | rfl | rfl | rfl | rfl | rfl | rfl | rfl | rfl | rfl | rfl <;>
    exact key _ _ (by decide +kernel) (by kernel_rfl) (by kernel_rfl) (by kernel_rfl) (by kernel_rfl)
theorem for_pairs {v : D} {s : Str} {p : List D} (h1 : dRepr [v] = some (.str s)) (h2 : dNe (.str s) (.str s) = some (.bl false)) : ∀ (l : List (Int × Str)), (∀ q ∈ l, q ∈ pairs23) → ∀ x y,
    ∃ x' y', forL (gT [(gN 4), (gN 5)]) (l_right_0 f_take f_odd f_bent f_each f_marks) (l.map fun q => .tup [.int q.1, .exc q.2 v]) (rw1 v x y none) [.lst p] = some (.nx, rw1 v x' y' none, [.lst p])
  | [], _, x, y => ⟨x, y, rfl⟩
  | q :: l, h, x, y => by
    obtain ⟨x', y', e⟩ := for_pairs h1 h2 l (fun q' hq => h q' (List.mem_cons_of_mem _ hq)) (some (.val (.int q.1))) (some (.val (.exc q.2 v)))
    exact ⟨x', y', forl_cons (ρ1 := rw1 v (some (.val (.int q.1))) (some (.val (.exc q.2 v))) none) rfl (body_ok h1 h2 q (h q List.mem_cons_self)) e⟩
theorem enum_each (v : D) : enumD 0 (eachL v) = pairs23.map fun q => .tup [.int q.1, .exc q.2 v] := by
  simp only [eachL, names23, pairs23, List.map_cons, List.map_nil, enumD]
  rfl
theorem right_d : Draws 7 f_right [] (· = .bl true) := by
  intro k p hp hk
  obtain ⟨v, p1, e1, hv, q1⟩ := odd_d k p hp (by omega)
  obtain ⟨_, p2, ek2, ⟨t, rfl, t0, t1⟩, q2⟩ := take_d (n := 2) (by decide) (by decide) (k + 1) p1 q1 (by omega)
  have ga := List.all_eq_true.mp good_all v hv
  obtain ⟨g1, g2⟩ := Bool.and_eq_true_iff.mp ga
  obtain ⟨v', p3, e3, hg, q3⟩ : ∃ v' p3, (eIf (eT (e2 dEq (eCall f_take [(eV 0), (eC (.int 2))]) (eC (.int 0)))) (eCall f_bent [(eV 0), (eV 1)]) (eV 1)) [some (.ref 0), some (.val v), none, none, none, none, none] [.lst p1] = some (.ok (.val v'), [.lst p3]) ∧ goodB v' = true ∧ PotD (k + 7) p3 := by
    have et1 : ∀ b, PyData.eqv (.int t) (.int 0) = b → eT (e2 dEq (eCall f_take [(eV 0), (eC (.int 2))]) (eC (.int 0))) [some (.ref 0), some (.val v), none, none, none, none, none] [.lst p1] = some (.tt b, [.lst p2]) := fun b hb =>
      et (d := .bl b) (e2v (d1 := .int t) (d2 := .int 0) (M1 := [.lst p2]) (ecall rfl (callJ rfl rfl rfl ek2)) rfl (by rw [← hb]; rfl)) rfl
    cases hb : PyData.eqv (.int t) (.int 0) with
    | true =>
      obtain ⟨v', p3, e3, hv', q3⟩ := bent_d hv (k + 2) p2 (q2.mono (by omega)) (by omega)
      exact ⟨v', p3, eif_t (et1 _ hb) (ecall rfl (callJ rfl rfl rfl e3)), List.all_eq_true.mp g2 v' hv', q3.mono (by omega)⟩
    | false => exact ⟨v, p2, eif_f (et1 _ hb) rfl, g1, q2.mono (by omega)⟩
  obtain ⟨s, h1, h2, h3⟩ := good_at hg
  obtain ⟨x', y', ef⟩ := for_pairs (p := p3) h1 h2 pairs23 (fun _ h => h) none none
  refine ⟨.bl true, p3, fnd_val (ρ' := rw1 v' x' y' none) (sq (sset (x := .val v) (M' := [.lst p1]) (ecall rfl (callJ rfl rfl rfl e1))) (sq (sset (x := .val v') (M' := [.lst p3]) e3) (sq (ρ' := rw1 v' none none none) (M' := [.lst p3]) ?_ (sq (ρ' := rw1 v' x' y' none) (M' := [.lst p3]) ?_ (sq (ρ' := rw1 v' x' y' none) (M' := [.lst p3]) ?_ (sret ?_)))))) rfl, rfl, q3⟩
  · exact spar (x := .val (.lst (eachL v'))) (y := .val (.exc "TakeError" v')) (evs_cons (ecall (xs := [.val v']) rfl (callV rfl (each_ok v'))) rfl)
  · have e5 : eiE (eV 2) (rw1 v' none none none) [.lst p3] = some (.its (pairs23.map fun q => .tup [.int q.1, .exc q.2 v']), [.lst p3]) := by rw [← enum_each]; rfl
    exact sfor e5 ef
  · refine sif_f (M' := [.lst p3]) (eor_f (M1 := [.lst p3]) (et (d := .bl false) (e2v (d1 := .bl true) (d2 := .lst (marksL "TakeError")) (M1 := [.lst p3]) rfl (ecall (xs := [.val (.exc "TakeError" v')]) rfl (callV rfl (marks_ok v' "TakeError" List.mem_cons_self))) (by kernel_rfl)) rfl) (by kernel_rfl)) rfl
  · exact e2v (d1 := .str s) (d2 := .str s) (M1 := [.lst p3]) (en1 (d1 := v') (e1v (d1 := .exc "TakeError" v') rfl (by kernel_rfl)) h1) (en1 (d1 := v') rfl h1) h3
end L
namespace L
open PySem L2 Ow

theorem fnn {n j : Nat} {g : Sv} {xs : List A} {ρ' : Sl} {M' : Mm} {ds : List D} (e : g (xs.map some ++ List.replicate (n - xs.length) none) [] = some (.rt (.ref j), ρ', M')) (h : M'[j]? = some (.lst ds)) : fnN n g xs = some ds := by
  unfold fnN; rw [e]; dsimp only; rw [h]
abbrev big : Int := ((10 : Int) ^ (60 : Int).toNat) ^ (5 : Int).toNat
theorem big0 : 0 < big := by decide +kernel
theorem big1 : big < 2 ^ 1000 := by decide +kernel
theorem pot_ok (ns : List Int) (j : Int) (h0 : 0 ≤ j) (h1 : j < 4) : ∃ p, f_pot [.val (.scr ns), .val (.int j)] = some p ∧ PotD 0 p := by
  obtain ⟨c, ec⟩ : ∃ c : Int, (eIf (eT (e2 dLt (eV 1) (eN dLen [(eV 0)]))) (e2 dIx (eV 0) (eV 1)) (e2 dAdd (e2 dMul (eC (.int 311)) (eV 1)) (eC (.int 131)))) [some (.val (.scr ns)), some (.val (.int j)), none, none, none] [] = some (.ok (.val (.int c)), []) := by
    have et1 : ∀ b, decide (j < ns.length) = b → eT (e2 dLt (eV 1) (eN dLen [(eV 0)])) [some (.val (.scr ns)), some (.val (.int j)), none, none, none] [] = some (.tt b, []) := fun b hb =>
      et (d := .bl b) (e2v (d1 := .int j) (d2 := .int ns.length) (M1 := []) rfl (en1 (d1 := .scr ns) rfl rfl) (by rw [← hb]; rfl)) rfl
    by_cases hj : j < ns.length
    · obtain ⟨x, ex, _⟩ := atI_mem (xs := ns) h0 hj
      exact ⟨x, eif_t (et1 _ (decide_eq_true hj)) (e2v (d1 := .scr ns) (d2 := .int j) (M1 := []) rfl rfl (by show (match atI ns j with | some n => some (D.int n) | none => none) = _; rw [ex]))⟩
    · refine ⟨311 * j + 131, eif_f (et1 _ (decide_eq_false hj)) (e2v (d1 := .int (311 * j)) (d2 := .int 131) (M1 := []) (e2v (d1 := .int 311) (d2 := .int j) (M1 := []) rfl rfl (di_mul ?_)) rfl rfl)⟩
      have l1 := lg (x := j) (k := 2) h0 (by omega) (by decide)
      have l2 : (311 : Int).natAbs.log2 < 17 := by decide
      omega
  generalize hab : (if c < 0 then -c else c) = ab
  have ab0 : 0 ≤ ab := by rw [← hab]; split <;> omega
  generalize hr : ab % big = r
  have r0 : 0 ≤ r := by rw [← hr]; exact Int.emod_nonneg _ (Int.ne_of_gt big0)
  have r1 : r < 2 ^ 1000 := by rw [← hr]; exact Int.lt_trans (Int.emod_lt_of_pos _ big0) big1
  generalize hb : (if decide (ab ≥ (10 : Int) ^ (18 : Int).toNat) = true then (1 : Int) else 0) = b
  have b01 : b = 0 ∨ b = 1 := by rw [← hb]; split <;> omega
  have own0 : 0 ≤ r * b := by rcases b01 with h | h <;> subst h <;> omega
  have own1 : r * b < 2 ^ 1000 := by
    rcases b01 with h | h <;> subst h
    · rw [Int.mul_zero]; decide +kernel
    · rw [Int.mul_one]; exact r1
  have sm0 : 0 ≤ c % 2305843009213693951 := Int.emod_nonneg _ (by decide)
  have sm1 : c % 2305843009213693951 < 2305843009213693951 := Int.emod_lt_of_pos _ (by decide)
  generalize hsm : c % 2305843009213693951 = sm at sm0 sm1
  have d0 : 0 ≤ (sm * 86009 + 7001 * j * j + 161) % 2305843009213693921 := Int.emod_nonneg _ (by decide)
  have d1 : (sm * 86009 + 7001 * j * j + 161) % 2305843009213693921 < 2305843009213693921 := Int.emod_lt_of_pos _ (by decide)
  refine ⟨[.int (r * b), .int ((sm * 86009 + 7001 * j * j + 161) % 2305843009213693921), .int 0], ?_, ⟨_, _, _, rfl, ⟨own0, own1, d0, by omega, by decide, by decide⟩⟩⟩
  have jl := lg (x := j) (k := 2) h0 (by omega) (by decide)
  refine fnn (j := 0) (ρ' := [some (.val (.scr ns)), some (.val (.int j)), some (.val (.int c)), some (.val (.int (r * b))), some (.val (.int sm))]) (M' := [.lst [.int (r * b), .int ((sm * 86009 + 7001 * j * j + 161) % 2305843009213693921), .int 0]]) (sq (sset ec) (sq (sset (x := .val (.int (r * b))) (M' := []) ?_) (sq (sset (x := .val (.int sm)) (M' := []) ?_) (sret (est (x := .ref 0) (ds := [.int (r * b), .int ((sm * 86009 + 7001 * j * j + 161) % 2305843009213693921), .int 0]) (M1 := []) (evs_cons rfl (evs_cons (x := .val (.int ((sm * 86009 + 7001 * j * j + 161) % 2305843009213693921))) ?_ rfl)) rfl rfl))))) rfl
  · refine e2v (d1 := .int r) (d2 := .int b) (M1 := []) (e2v (d1 := .int ab) (d2 := .int big) (M1 := []) (en1 (d1 := .int ab) (en1 (d1 := .int c) rfl (by rw [← hab]; rfl)) rfl) (e2v (d1 := .int ((10 : Int) ^ (60 : Int).toNat)) (d2 := .int 5) (M1 := []) (e2v (d1 := .int 10) (d2 := .int 60) (M1 := []) rfl rfl (di_pow (by decide) (by decide +kernel))) rfl (di_pow (by decide) (by decide +kernel))) (by rw [← hr]; exact di_mod big0))
      (en1 (d1 := .bl (decide (ab ≥ (10 : Int) ^ (18 : Int).toNat))) (e2v (d1 := .int ab) (d2 := .int ((10 : Int) ^ (18 : Int).toNat)) (M1 := []) (en1 (d1 := .int c) rfl (by rw [← hab]; rfl)) (e2v (d1 := .int 10) (d2 := .int 18) (M1 := []) rfl rfl (di_pow (by decide) (by decide +kernel))) rfl) (by rw [← hb]; rfl)) (di_mul ?_)
    have l1 := lg r0 r1 (by decide)
    have l2 := lg (x := b) (k := 1) (by omega) (by omega) (by decide)
    omega
  · exact e2v (d1 := .int c) (d2 := .int 2305843009213693951) (M1 := []) rfl rfl (by rw [← hsm]; exact di_mod (by decide))
  · have l1 := lg (x := sm) (k := 61) sm0 (by omega) (by decide)
    refine e2v (d1 := .int (sm * 86009 + 7001 * j * j + 161)) (d2 := .int 2305843009213693921) (M1 := []) (en1 (d1 := .int (sm * 86009 + 7001 * j * j + 161)) (e2v (d1 := .int (sm * 86009 + 7001 * j * j)) (d2 := .int 161) (M1 := []) (e2v (d1 := .int (sm * 86009)) (d2 := .int (7001 * j * j)) (M1 := []) (e2v (d1 := .int sm) (d2 := .int 86009) (M1 := []) rfl rfl (di_mul ?_))
      (e2v (d1 := .int (7001 * j)) (d2 := .int j) (M1 := []) (e2v (d1 := .int 7001) (d2 := .int j) (M1 := []) rfl rfl (di_mul ?_)) rfl (di_mul ?_)) rfl) rfl rfl) rfl) rfl (di_mod (by decide))
    · have l2 : (86009 : Int).natAbs.log2 < 17 := by decide
      omega
    · have l2 : (7001 : Int).natAbs.log2 < 17 := by decide
      omega
    · have l2 := lg (x := 7001 * j) (k := 20) (by omega) (by omega) (by decide)
      omega
end L
namespace L
open PySem L2 Ow

theorem cells_ok (ns : List Int) (h : ns.length ≤ 63) : ∃ l : List Int, (∀ j ∈ l, 0 ≤ j ∧ j < 4) ∧ f_cells [.val (.scr ns), .val (.int 4)] [] = some (.ok (.val (.lst (l.map D.int))), []) := by
  obtain ⟨n, hn⟩ : ∃ n : Nat, ns.length = n := ⟨_, rfl⟩
  have key : ∀ m : Int, 1 ≤ m → m ≤ 4 → ∃ l : List Int, (∀ j ∈ l, 0 ≤ j ∧ j < 4) ∧ dRg1 (.int m) = some (.lst (l.map D.int)) := by
    intro m m1 m4
    have hm : m = 1 ∨ m = 2 ∨ m = 3 ∨ m = 4 := by omega
    rcases hm with rfl | rfl | rfl | rfl
    · exact ⟨[0], by decide, rfl⟩
    · exact ⟨[0, 1], by decide, rfl⟩
    · exact ⟨[0, 1, 2], by decide, rfl⟩
    · exact ⟨[0, 1, 2, 3], by decide, rfl⟩
  obtain ⟨m, m1, m4, em⟩ : ∃ m : Int, 1 ≤ m ∧ m ≤ 4 ∧ (eN dMax2 [(eC (.int 1)), (eN dMin2 [(eV 1), (eN dLen [(eV 0)])])]) [some (.val (.scr ns)), some (.val (.int 4))] [] = some (.ok (.val (.int m)), []) := by
    refine ⟨_, ?_, ?_, en2 (d1 := .int 1) (M1 := []) rfl (en2 (d1 := .int 4) (d2 := .int ns.length) (M1 := []) rfl (en1 (d1 := .scr ns) rfl rfl) rfl) rfl⟩
    · split <;> split at * <;> omega
    · split <;> split at * <;> omega
  obtain ⟨l, hl, el⟩ := key m m1 m4
  exact ⟨l, hl, fnd_val (sret (e1v (d1 := .int m) em el)) rfl⟩
theorem body_law (ns : List Int) {j : Int} (h0 : 0 ≤ j) (h1 : j < 4) (y z : Option A) (M : Mm) : ∃ M', l_law_0 f_pot f_cells f_right [some (.val (.scr ns)), some (.val (.int j)), y, z] M = some (.nx, [some (.val (.scr ns)), some (.val (.int j)), some (.ref M.length), z], M') := by
  obtain ⟨p, ep, hp⟩ := pot_ok ns j h0 h1
  obtain ⟨_, p1, e1, rfl, q1⟩ := right_d 0 p hp (by decide)
  obtain ⟨_, p2, e2, rfl, q2⟩ := right_d 7 p1 q1 (by decide)
  obtain ⟨_, p3, e3, rfl, q3⟩ := right_d 14 p2 q2 (by decide)
  have g0 : (M ++ [MO.lst p])[M.length]? = some (.lst p) := by simp
  have hl : M.length < (M ++ [MO.lst p]).length := by simp
  have g1 : ((M ++ [MO.lst p]).set M.length (.lst p1))[M.length]? = some (.lst p1) := List.getElem?_set_self hl
  have g2 : (((M ++ [MO.lst p]).set M.length (.lst p1)).set M.length (.lst p2))[M.length]? = some (.lst p2) := List.getElem?_set_self (by rw [List.length_set]; exact hl)
  refine ⟨_, sq (sset (ecallN (xs := [.val (.scr ns), .val (.int j)]) rfl rfl ep)) (sif_f (enot (b := true) (et (d := .bl true) (en1 (d1 := .lst [.bl true, .bl true, .bl true]) (elc (ds := [.int 0, .int 1, .int 2]) rfl
    (lc_cons rfl rfl (ecall (xs := [.ref M.length]) rfl (callJ rfl g0 rfl e1)) (by decide) (lc_cons rfl rfl (ecall (xs := [.ref M.length]) rfl (callJ rfl g1 rfl e2)) (by decide) (lc_cons rfl rfl (ecall (xs := [.ref M.length]) rfl (callJ rfl g2 rfl e3)) (by decide) rfl)))) rfl) rfl)) rfl)⟩
theorem loop_law (ns : List Int) : ∀ (l : List Int), (∀ j ∈ l, 0 ≤ j ∧ j < 4) → ∀ (x y z : Option A) (M : Mm), ∃ ρ' M', forL (gN 1) (l_law_0 f_pot f_cells f_right) (l.map D.int) [some (.val (.scr ns)), x, y, z] M = some (.nx, ρ', M')
  | [], _, x, y, z, M => ⟨_, M, rfl⟩
  | j :: l, h, x, y, z, M => by
    obtain ⟨hj0, hj1⟩ := h j List.mem_cons_self
    obtain ⟨M1, e1⟩ := body_law ns hj0 hj1 y z M
    obtain ⟨ρ', M', e2⟩ := loop_law ns l (fun j' hj => h j' (List.mem_cons_of_mem _ hj)) (some (.val (.int j))) (some (.ref M.length)) z M1
    exact ⟨ρ', M', forl_cons rfl e1 e2⟩
theorem law_true : ∀ ns : List Int, ns.length ≤ 63 → f_law [.val (.scr ns)] [] = some (.ok (.val (.bl true)), []) := by
  intro ns hn
  obtain ⟨l, hl, el⟩ := cells_ok ns hn
  obtain ⟨ρ', M', e⟩ := loop_law ns l hl none none none []
  exact fnd_nil (sq (sfor (eil (ecall (xs := [.val (.scr ns), .val (.int 4)]) rfl (callV rfl el))) e) (sret rfl))
end L
open PySem PySem.W PyProof.Rows in
set_option maxRecDepth 100000 in
set_option maxHeartbeats 0 in
theorem PySem.Challenge.cw_whotakes_k00_errors_and_what_they_keep_holds : PySem.Challenge.rw_whotakes_k00_errors_and_what_they_keep.Holds := by
  w_on; o_law; k_head; (case hw => w_witness2)
  k_fill
  refine Ow.walkG (l := PySem.Challenge.rw_whotakes_k00_errors_and_what_they_keep) (n := 63) (k := 45) (x := "_law_script") (fn := L.f_law) rfl (by decide) rfl ⟨rfl, by decide, by decide⟩ rfl (fun w h Y => PySem.W.kIn_of Y) ?F L.law_true
  case F =>
    intro w mg fa h KX G hmg
    refine' L.all_mk KX G hmg ?a_pot ?l_pot ?c_pot ?k_pot ?a_take ?l_take ?c_take ?k_take ?a_of ?l_of ?c_of ?k_of ?a_cells ?l_cells ?c_cells ?k_cells ?a_odd ?l_odd ?c_odd ?k_odd ?a_bent ?l_bent ?c_bent ?k_bent ?a_each ?l_each ?c_each ?k_each ?a_marks ?l_marks ?c_marks ?k_marks ?a_right ?l_right ?c_right ?k_right ?a_law ?l_law ?c_law ?k_law ?z_ValueError ?z_abs ?z_all ?z_bool ?z_enumerate ?z_int ?z_isinstance ?z_len ?z_list ?z_max ?z_min ?z_range ?z_repr ?z_str ?z_super ?z_tuple ?tE ?i_fn ?i_l ?i_c ?i_k ?i_v ?i_f ?i_cc ?i_t ?i_d ?i_s ?cls
    (case a_pot => k_is)
    (case l_pot => k_is)
    (case c_pot => k_is)
    (case k_pot => k_is)
    (case a_take => k_is)
    (case l_take => k_is)
    (case c_take => k_is)
    (case k_take => k_is)
    (case a_of => k_is)
    (case l_of => k_is)
    (case c_of => k_is)
    (case k_of => k_is)
    (case a_cells => k_is)
    (case l_cells => k_is)
    (case c_cells => k_is)
    (case k_cells => k_is)
    (case a_odd => k_is)
    (case l_odd => k_is)
    (case c_odd => k_is)
    (case k_odd => k_is)
    (case a_bent => k_is)
    (case l_bent => k_is)
    (case c_bent => k_is)
    (case k_bent => k_is)
    (case a_each => k_is)
    (case l_each => k_is)
    (case c_each => k_is)
    (case k_each => k_is)
    (case a_marks => k_is)
    (case l_marks => k_is)
    (case c_marks => k_is)
    (case k_marks => k_is)
    (case a_right => k_is)
    (case l_right => k_is)
    (case c_right => k_is)
    (case k_right => k_is)
    (case a_law => k_is)
    (case l_law => k_is)
    (case c_law => k_is)
    (case k_law => k_is)
    (case z_ValueError => k_is)
    (case z_abs => k_is)
    (case z_all => k_is)
    (case z_bool => k_is)
    (case z_enumerate => k_is)
    (case z_int => k_is)
    (case z_isinstance => k_is)
    (case z_len => k_is)
    (case z_list => k_is)
    (case z_max => k_is)
    (case z_min => k_is)
    (case z_range => k_is)
    (case z_repr => k_is)
    (case z_str => k_is)
    (case z_super => k_is)
    (case z_tuple => k_is)
    (case tE => k_is)
    (case i_fn => k_is)
    (case i_l => k_is)
    (case i_c => k_is)
    (case i_k => k_is)
    (case i_v => first | rfl | decide +kernel)
    (case i_f => first | rfl | decide +kernel)
    (case i_cc => k_is)
    (case i_t => k_is)
    (case i_d => kernel_rfl)
    (case i_s => k_is)
    (case cls => kernel_rfl)
