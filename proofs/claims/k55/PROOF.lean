import PyProof.Rows.All
import Wide.All
import OpenK.AllK
import Wide.FinOn
import HandS.ForMost
import HandS.IsInst
import HandS.WordsExc
import HandS.ExcOwn
import HandS.TryOnly
import HandS.TupAny
import HandS.Walk
import HandS.Conv
import HandS.Deep
import HandS.SortInts
import HandS.Replace
import PySem.Challenge.RW_turnsandthrows_k55_truths
set_option Elab.async false
set_option linter.all false
set_option maxRecDepth 100000
set_option maxHeartbeats 4000000
set_option autoImplicit false
namespace PD
open PySem L2
inductive SV where
  | d (x : PyData)
  | own (k : Nat)
  | ro (xs : List PyData)
  | ty (n : String)
inductive MO where
  | lst (xs : List PyData)
  | dead
inductive Ret where
  | sv (x : SV)
  | new (o : MO)
abbrev Rho := List (Option SV)
abbrev Sto := List MO
abbrev Pay := List (Str × PyData)
inductive RE where
  | ok (r : Ret) (L : Sto)
  | exc (c : Str) (p : Pay) (L : Sto)
  | stuck
inductive RS where
  | nx (ρ : Rho) (L : Sto)
  | rt (r : Ret) (L : Sto)
  | bk (ρ : Rho) (L : Sto)
  | ct (ρ : Rho) (L : Sto)
  | exc (c : Str) (p : Pay) (ρ : Rho) (L : Sto)
  | stuck
abbrev ME := Rho → Sto → RE
abbrev MS := Rho → Sto → RS
abbrev Fn := List SV → Sto → RE
structure Kx where
  K : PySem.W.Frag
  mg : Str → Option Value
abbrev kx (X : Cx) : Kx := ⟨X.K, X.mg⟩
mutual
def Rep (k : Kx) (F : Hp) : PyData → V → Prop
  | .none, v => v = .non
  | .bool b, v => v = .bl b
  | .int i, v => v = .int i
  | .str s, v => v = .str s
  | .list ds, v => ∃ a xs, v = .ref a ∧ F a = some (.lst xs) ∧ RepL k F ds xs
  | .tuple ds, v => ∃ a xs, v = .ref a ∧ SqT k.K F a xs ∧ RepL k F ds xs
  | .dict _, _ => False
def RepL (k : Kx) (F : Hp) : List PyData → List V → Prop
  | [], xs => xs = []
  | d :: ds, xs => ∃ x r, xs = x :: r ∧ Rep k F d x ∧ RepL k F ds r
end
def RepS (k : Kx) (φ : List Addr) (F : Hp) : SV → V → Prop
  | .d x, v => Rep k F x v
  | .own n, v => ∃ a, v = .ref a ∧ φ[n]? = some a
  | .ro xs, v => ∃ a vs, v = .ref a ∧ SqL k.K F a vs ∧ RepL k F xs vs
  | .ty n, v => v = .ty n
def RepSL (k : Kx) (φ : List Addr) (F : Hp) : List SV → List V → Prop
  | [], xs => xs = []
  | d :: ds, xs => ∃ x r, xs = x :: r ∧ RepS k φ F d x ∧ RepSL k φ F ds r
def OwnAt (k : Kx) (φ : List Addr) (F H : Hp) (a : Addr) : MO → Prop
  | .lst ds => F a = none ∧ ∃ xs, H a = some (.lst xs) ∧ RepL k F ds xs
  | .dead => True
structure Rl (k : Kx) (φ : List Addr) (F H : Hp) (L : Sto) : Prop where
  len : φ.length = L.length
  nd : φ.Nodup
  ex : ∀ a o, F a = some o → H a = some o
  there : ∀ a ∈ φ, H a ≠ none
  own : ∀ (n : Nat) (o : MO) (a : Addr), L[n]? = some o → φ[n]? = some a → OwnAt k φ F H a o
structure Lq (φ : List Addr) (F : Hp) (φ' : List Addr) (F' : Hp) : Prop where
  pre : ∀ (n : Nat) (a : Addr), φ[n]? = some a → φ'[n]? = some a
  ex : ∀ a o, F a = some o → F' a = some o
theorem Lq.refl (φ : List Addr) (F : Hp) : Lq φ F φ F := ⟨fun _ _ h => h, fun _ _ h => h⟩
theorem Lq.trans {φ φ' φ'' : List Addr} {F F' F'' : Hp} (a : Lq φ F φ' F') (b : Lq φ' F' φ'' F'') : Lq φ F φ'' F'' :=
  ⟨fun n x h => b.pre n x (a.pre n x h), fun x o h => b.ex x o (a.ex x o h)⟩
def NewAt (k : Kx) (φ : List Addr) (F H : Hp) (a : Addr) : MO → Prop
  | .dead => False
  | o => a ∉ φ ∧ OwnAt k φ F H a o
section
variable {k : Kx} {φ φ' : List Addr} {F F' H H' : Hp}
theorem rd_ex {a : Addr} {u : HO} (e : ∀ a o, F a = some o → F' a = some o) (h : Rd F a u) : Rd F' a u := by
  rcases h with h | ⟨o, h⟩
  · exact .inl (e _ _ h)
  · exact .inr ⟨o, e _ _ h⟩
theorem sql_ex {K : PySem.W.Frag} {a : Addr} {xs : List V} (e : ∀ a o, F a = some o → F' a = some o) (h : SqL K F a xs) : SqL K F' a xs := h.imp (rd_ex e) id
theorem sqt_ex {K : PySem.W.Frag} {a : Addr} {xs : List V} (e : ∀ a o, F a = some o → F' a = some o) (h : SqT K F a xs) : SqT K F' a xs := h.imp (rd_ex e) id
mutual
theorem rep_ex (e : ∀ a o, F a = some o → F' a = some o) : ∀ (d : PyData) (v : V), Rep k F d v → Rep k F' d v
  | .none, _, h => h
  | .bool _, _, h => h
  | .int _, _, h => h
  | .str _, _, h => h
  | .list ds, _, h => by
    obtain ⟨a, xs, e1, e2, e3⟩ := h
    exact ⟨a, xs, e1, e _ _ e2, repL_ex e ds xs e3⟩
  | .tuple ds, _, h => by
    obtain ⟨a, xs, e1, e2, e3⟩ := h
    exact ⟨a, xs, e1, sqt_ex e e2, repL_ex e ds xs e3⟩
  | .dict _, _, h => h.elim
theorem repL_ex (e : ∀ a o, F a = some o → F' a = some o) : ∀ (ds : List PyData) (xs : List V), RepL k F ds xs → RepL k F' ds xs
  | [], _, h => h
  | d :: ds, xs, h => by
    obtain ⟨x, r, e1, e2, e3⟩ := h
    exact ⟨x, r, e1, rep_ex e d x e2, repL_ex e ds r e3⟩
end
theorem repS_lq (q : Lq φ F φ' F') : ∀ (d : SV) (v : V), RepS k φ F d v → RepS k φ' F' d v
  | .d x, v, h => rep_ex q.ex x v h
  | .own n, _, h => let ⟨a, e, z⟩ := h; ⟨a, e, q.pre _ _ z⟩
  | .ro xs, _, h => let ⟨a, vs, e, z, r⟩ := h; ⟨a, vs, e, sql_ex q.ex z, repL_ex q.ex _ _ r⟩
  | .ty _, _, h => h
theorem repSL_lq (q : Lq φ F φ' F') : ∀ (ds : List SV) (vs : List V), RepSL k φ F ds vs → RepSL k φ' F' ds vs
  | [], _, h => h
  | d :: ds, xs, h => by
    obtain ⟨x, r, e1, e2, e3⟩ := h
    exact ⟨x, r, e1, repS_lq q d x e2, repSL_lq q ds r e3⟩
theorem RepL.len : ∀ {ds : List PyData} {xs : List V}, RepL k F ds xs → xs.length = ds.length
  | [], _, h => by rw [show _ = [] from h]; rfl
  | d :: ds, xs, h => by
    obtain ⟨x, r, e1, e2, e3⟩ := h
    subst e1
    simp [RepL.len e3]
theorem RepL.get : ∀ {ds : List PyData} {xs : List V} {i : Nat} {d : PyData}, RepL k F ds xs → ds[i]? = some d → ∃ x, xs[i]? = some x ∧ Rep k F d x
  | [], _, _, _, h, e => by simp at e
  | d :: ds, xs, 0, d', h, e => by
    obtain ⟨x, r, e1, e2, e3⟩ := h
    subst e1
    simp at e
    subst e
    exact ⟨x, by simp, e2⟩
  | d :: ds, xs, i + 1, d', h, e => by
    obtain ⟨x, r, e1, e2, e3⟩ := h
    subst e1
    simp at e
    obtain ⟨y, h1, h2⟩ := RepL.get e3 e
    exact ⟨y, by simpa using h1, h2⟩
theorem RepL.getV : ∀ {ds : List PyData} {xs : List V} {i : Nat} {x : V}, RepL k F ds xs → xs[i]? = some x → ∃ d, ds[i]? = some d ∧ Rep k F d x
  | [], _, _, _, h, e => by rw [show _ = [] from h] at e; simp at e
  | d :: ds, xs, 0, x', h, e => by
    obtain ⟨x, r, e1, e2, e3⟩ := h
    subst e1
    simp at e
    subst e
    exact ⟨d, by simp, e2⟩
  | d :: ds, xs, i + 1, x', h, e => by
    obtain ⟨x, r, e1, e2, e3⟩ := h
    subst e1
    simp at e
    obtain ⟨y, h1, h2⟩ := RepL.getV e3 e
    exact ⟨y, by simpa using h1, h2⟩
theorem RepL.app : ∀ {ds es : List PyData} {xs ys : List V}, RepL k F ds xs → RepL k F es ys → RepL k F (ds ++ es) (xs ++ ys)
  | [], _, xs, _, h, e => by rw [show xs = [] from h]; exact e
  | d :: ds, es, xs, ys, h, e => by
    obtain ⟨x, r, e1, e2, e3⟩ := h
    subst e1
    exact ⟨x, r ++ ys, rfl, e2, RepL.app e3 e⟩
theorem RepL.take : ∀ {ds : List PyData} {xs : List V} (n : Nat), RepL k F ds xs → RepL k F (ds.take n) (xs.take n)
  | _, _, 0, _ => by simp [RepL]
  | [], xs, n + 1, h => by rw [show xs = [] from h]; simp [RepL]
  | d :: ds, xs, n + 1, h => by
    obtain ⟨x, r, e1, e2, e3⟩ := h
    subst e1
    exact ⟨x, r.take n, rfl, e2, RepL.take n e3⟩
theorem RepL.drop : ∀ {ds : List PyData} {xs : List V} (n : Nat), RepL k F ds xs → RepL k F (ds.drop n) (xs.drop n)
  | _, _, 0, h => h
  | [], xs, n + 1, h => by rw [show xs = [] from h]; simp [RepL]
  | d :: ds, xs, n + 1, h => by
    obtain ⟨x, r, e1, e2, e3⟩ := h
    subst e1
    exact RepL.drop n e3
theorem RepL.set : ∀ {ds : List PyData} {xs : List V} (n : Nat) {d : PyData} {x : V}, RepL k F ds xs → Rep k F d x → RepL k F (ds.set n d) (xs.set n x)
  | [], xs, n, _, _, h, _ => by rw [show xs = [] from h]; simp [RepL]
  | d :: ds, xs, 0, d', x', h, r => by
    obtain ⟨x, q, e1, e2, e3⟩ := h
    subst e1
    exact ⟨x', q, rfl, r, e3⟩
  | d :: ds, xs, n + 1, d', x', h, r => by
    obtain ⟨x, q, e1, e2, e3⟩ := h
    subst e1
    exact ⟨x, q.set n x', rfl, e2, RepL.set n e3 r⟩
theorem RepL.rep {ds : List PyData} {xs : List V} (h : RepL k F ds xs) : ∀ n : Nat, RepL k F (List.replicate n ds).flatten (List.replicate n xs).flatten
  | 0 => by simp [RepL]
  | n + 1 => by
    rw [List.replicate_succ, List.replicate_succ, List.flatten_cons, List.flatten_cons]
    exact RepL.app h (RepL.rep h n)
theorem repL_map {α : Type} {f : α → PyData} {g : α → V} (h : ∀ a, Rep k F (f a) (g a)) : ∀ l : List α, RepL k F (l.map f) (l.map g)
  | [] => rfl
  | a :: l => ⟨_, _, rfl, h a, repL_map h l⟩
theorem RepSL.len : ∀ {ds : List SV} {xs : List V}, RepSL k φ F ds xs → xs.length = ds.length
  | [], _, h => by rw [show _ = [] from h]; rfl
  | d :: ds, xs, h => by
    obtain ⟨x, r, e1, e2, e3⟩ := h
    subst e1
    simp [RepSL.len e3]
theorem RepSL.get : ∀ {ds : List SV} {xs : List V} {i : Nat} {d : SV}, RepSL k φ F ds xs → ds[i]? = some d → ∃ x, xs[i]? = some x ∧ RepS k φ F d x
  | [], _, _, _, h, e => by simp at e
  | d :: ds, xs, 0, d', h, e => by
    obtain ⟨x, r, e1, e2, e3⟩ := h
    subst e1
    simp at e
    subst e
    exact ⟨x, by simp, e2⟩
  | d :: ds, xs, i + 1, d', h, e => by
    obtain ⟨x, r, e1, e2, e3⟩ := h
    subst e1
    simp at e
    obtain ⟨y, h1, h2⟩ := RepSL.get e3 e
    exact ⟨y, by simpa using h1, h2⟩
theorem ownAt_lq {a : Addr} {o : MO} (q : Lq φ F φ' F') (h : OwnAt k φ F H a o) (hF : F' a = none) (hH : ∀ u, H a = some u → H' a = some u) : OwnAt k φ' F' H' a o := by
  cases o with
  | lst ds =>
    obtain ⟨_, xs, e1, e2⟩ := h
    exact ⟨hF, xs, hH _ e1, repL_ex q.ex _ _ e2⟩
  | dead => trivial
theorem OwnAt.free {a : Addr} {o : MO} (h : OwnAt k φ F H a o) (hd : o ≠ .dead) : F a = none := by
  cases o with
  | lst ds => exact h.1
  | dead => exact absurd rfl hd
/-- a new object p is laid: it is in F, or owned -/
theorem Rl.frozen {L : Sto} (R : Rl k φ F H L) {p : Addr} {u : HO} (hp : H p = none) : Rl k φ (upd F p u) (upd H p u) L ∧ Lq φ F φ (upd F p u) := by
  have fp : F p = none := by
    cases e : F p with
    | none => rfl
    | some o => rw [R.ex p o e] at hp; cases hp
  have np : p ∉ φ := fun h => R.there p h hp
  have q : Lq φ F φ (upd F p u) := ⟨fun _ _ h => h, fun a o e => by rw [upd_ne (ne_of_none e fp)]; exact e⟩
  refine ⟨⟨R.len, R.nd, fun a o e => ?_, fun a ha => ?_, fun n o a e1 e2 => ?_⟩, q⟩
  · by_cases h : a = p
    · subst h; rw [upd_same] at e ⊢; exact e
    · rw [upd_ne h] at e ⊢; exact R.ex a o e
  · rw [upd_ne (fun h : a = p => np (h ▸ ha))]; exact R.there a ha
  · have ha : a ∈ φ := List.mem_of_getElem? e2
    have hne : a ≠ p := fun h => np (h ▸ ha)
    have h := R.own n o a e1 e2
    by_cases hd : o = .dead
    · subst hd; trivial
    · exact ownAt_lq q h (by rw [upd_ne hne]; exact h.free hd) (fun u' e => by rw [upd_ne hne]; exact e)
theorem Rl.laid {L : Sto} (R : Rl k φ F H L) {p : Addr} {u : HO} (hp : H p = none) : Rl k φ F (upd H p u) L := by
  have fp : F p = none := by
    cases e : F p with
    | none => rfl
    | some o => rw [R.ex p o e] at hp; cases hp
  have np : p ∉ φ := fun h => R.there p h hp
  refine ⟨R.len, R.nd, fun a o e => ?_, fun a ha => ?_, fun n o a e1 e2 => ?_⟩
  · rw [upd_ne (ne_of_none e fp)]; exact R.ex a o e
  · rw [upd_ne (fun h : a = p => np (h ▸ ha))]; exact R.there a ha
  · have ha : a ∈ φ := List.mem_of_getElem? e2
    have hne : a ≠ p := fun h => np (h ▸ ha)
    have h := R.own n o a e1 e2
    by_cases hd : o = .dead
    · subst hd; trivial
    · exact ownAt_lq (Lq.refl _ _) h (h.free hd) (fun u' e => by rw [upd_ne hne]; exact e)
theorem Rl.notF {L : Sto} (R : Rl k φ F H L) {p : Addr} (hp : H p = none) : F p = none := by
  cases e : F p with
  | none => rfl
  | some o => rw [R.ex p o e] at hp; cases hp
theorem Rl.notφ {L : Sto} (R : Rl k φ F H L) {p : Addr} (hp : H p = none) : p ∉ φ := fun h => R.there p h hp
/-- a new list, tuple -/
theorem Rl.newLst {L : Sto} (R : Rl k φ F H L) {p : Addr} {ds : List PyData} {xs : List V} (hp : H p = none) (r : RepL k F ds xs) : Rl k φ F (upd H p (.lst xs)) L ∧ NewAt k φ F (upd H p (.lst xs)) p (.lst ds) :=
  ⟨R.laid hp, R.notφ hp, R.notF hp, xs, upd_same, r⟩
theorem Rl.newTup {L : Sto} (R : Rl k φ F H L) {p : Addr} {ds : List PyData} {xs : List V} (hp : H p = none) (r : RepL k F ds xs) :
    Rl k φ (upd F p (.tup xs)) (upd H p (.tup xs)) L ∧ Lq φ F φ (upd F p (.tup xs)) ∧ Rep k (upd F p (.tup xs)) (.tuple ds) (.ref p) :=
  ⟨(R.frozen hp).1, (R.frozen hp).2, p, xs, rfl, SqT.of upd_same, repL_ex (R.frozen (u := .tup xs) hp).2.ex _ _ r⟩
theorem nodup_ixA {α : Type} {l : List α} (hN : l.Nodup) {i j : Nat} {x : α} (a : l[i]? = some x) (b : l[j]? = some x) : i = j := by
  obtain ⟨h1, e1⟩ := List.getElem?_eq_some_iff.mp a
  obtain ⟨h2, e2⟩ := List.getElem?_eq_some_iff.mp b
  exact (List.getElem_inj hN).mp (e1.trans e2.symm)
/-- an owned list is written -/
theorem Rl.write {L : Sto} (R : Rl k φ F H L) {n : Nat} {a : Addr} {ds es : List PyData} {ys : List V} (h1 : L[n]? = some (.lst ds)) (h2 : φ[n]? = some a) (r : RepL k F es ys) : Rl k φ F (upd H a (.lst ys)) (L.set n (.lst es)) := by
  have hn : n < L.length := (List.getElem?_eq_some_iff.mp h1).1
  obtain ⟨fa, xs, ha, _⟩ := R.own n _ a h1 h2
  refine ⟨by rw [List.length_set]; exact R.len, R.nd, fun b o e => ?_, fun b hb => ?_, fun m o b e1 e2 => ?_⟩
  · rw [upd_ne (ne_of_none e fa)]; exact R.ex b o e
  · by_cases h : b = a
    · subst h; rw [upd_same]; simp
    · rw [upd_ne h]; exact R.there b hb
  · by_cases hm : n = m
    · subst hm
      rw [List.getElem?_set_self hn] at e1
      cases e1
      rw [h2] at e2
      cases e2
      exact ⟨fa, ys, upd_same, r⟩
    · rw [List.getElem?_set_ne hm] at e1
      have hba : b ≠ a := fun h => hm (nodup_ixA R.nd h2 (h ▸ e2))
      have h := R.own m o b e1 e2
      by_cases hd : o = .dead
      · subst hd; trivial
      · exact ownAt_lq (Lq.refl _ _) h (h.free hd) (fun u' e => by rw [upd_ne hba]; exact e)
end
end PD
namespace PD
open PySem L2
def PayAt (k : Kx) (F : Hp) : Pay → List (Str × V) → Prop
  | [], fs => fs = []
  | (f, x) :: p, fs => ∃ v r, fs = (f, v) :: r ∧ Rep k F x v ∧ PayAt k F p r
def ExcAt (k : Kx) (F H : Hp) (c : Str) (p : Pay) (cls : Value) (d : Option Addr) : Prop :=
  k.mg c = some cls ∧ match p with
    | [] => d = none
    | _ => ∃ a fs, d = some a ∧ H a = some (.xd fs) ∧ PayAt k F p fs
def GoodE (k : Kx) (W : WX) (σ : L2.St) (Q : VK) (φ : List Addr) (F : Hp) : RE → Prop
  | .ok (.sv x) L' => ∀ φ' F' H' v, Lq φ F φ' F' → Rl k φ' F' H' L' → RepS k φ' F' x v → Q v H'
  | .ok (.new o) L' => ∀ φ' F' H' a, Lq φ F φ' F' → Rl k φ' F' H' L' → NewAt k φ' F' H' a o → Q (.ref a) H'
  | .exc c p L' => ∀ φ' F' H' cls d, Lq φ F φ' F' → Rl k φ' F' H' L' → ExcAt k F' H' c p cls d → W cls d σ H'
  | .stuck => False
structure EnvOk (k : Kx) (φ : List Addr) (F : Hp) (ρ : Rho) (σ : L2.St) : Prop where
  len : ρ.length = σ.length
  at_ : ∀ (i : Nat) (x : SV), ρ[i]? = some (some x) → ∃ v, σ[i]? = some (some v) ∧ RepS k φ F x v
def tE (k : Kx) (W : WX) (m : ME) : TE := fun σ H Q => ∃ φ F ρ L, EnvOk k φ F ρ σ ∧ Rl k φ F H L ∧ GoodE k W σ Q φ F (m ρ L)
def XE (X : Cx) (W : WX) (e : Expr) (m : ME) : Prop := PE X e (tE (kx X) W m)
section
variable {k : Kx} {W : WX} {σ : L2.St} {Q Q' : VK} {φ φ' : List Addr} {F F' H H' : Hp} {ρ : Rho} {L : Sto}
theorem EnvOk.lq (h : EnvOk k φ F ρ σ) (q : Lq φ F φ' F') : EnvOk k φ' F' ρ σ :=
  ⟨h.len, fun i x e => let ⟨v, a, b⟩ := h.at_ i x e; ⟨v, a, repS_lq q x v b⟩⟩
theorem GoodE.mono {r : RE} (h : GoodE k W σ Q φ F r) (hq : ∀ v H, Q v H → Q' v H) : GoodE k W σ Q' φ F r := by
  cases r with
  | ok r L' =>
    cases r with
    | sv x => exact fun φ' F' H' v a b c => hq _ _ (h φ' F' H' v a b c)
    | new o => exact fun φ' F' H' v a b c => hq _ _ (h φ' F' H' v a b c)
  | exc c p L' => exact h
  | stuck => exact h
theorem GoodE.lq {r : RE} (h : GoodE k W σ Q φ F r) (q : Lq φ F φ' F') : GoodE k W σ Q φ' F' r := by
  cases r with
  | ok r L' =>
    cases r with
    | sv x => exact fun φ' F' H' v a b c => h φ' F' H' v (q.trans a) b c
    | new o => exact fun φ' F' H' v a b c => h φ' F' H' v (q.trans a) b c
  | exc c p L' => exact fun φ' F' H' cls d a b c => h φ' F' H' cls d (q.trans a) b c
  | stuck => exact h
theorem xe_of {X : Cx} {e : Expr} {m : ME} {t : TE} (h : PE X e t) (hi : ∀ σ H Q, tE (kx X) W m σ H Q → t σ H Q) : XE X W e m :=
  ⟨fun pins s σ H Q I q => h.run pins s σ H Q I (hi σ H Q q)⟩
def toS : Ret → Option SV
  | .sv x => some x
  | .new (.lst xs) => some (.d (.list xs))
  | .new .dead => none
def bindS (m : ME) (f : SV → ME) : ME := fun ρ L => match m ρ L with
  | .ok r L1 => match toS r with
    | some x => f x ρ L1
    | none => .stuck
  | .exc c p L1 => .exc c p L1
  | .stuck => .stuck
theorem Rl.freeze {o : MO} {x : SV} {a : Addr} (R : Rl k φ F H L) (n : NewAt k φ F H a o) (h : toS (.new o) = some x) : ∃ F', Lq φ F φ F' ∧ Rl k φ F' H L ∧ RepS k φ F' x (.ref a) := by
  cases o with
  | lst ds =>
    cases h
    obtain ⟨na, fa, xs, ha, r⟩ := n
    have q : Lq φ F φ (upd F a (.lst xs)) := ⟨fun _ _ h => h, fun b o e => by rw [upd_ne (ne_of_none e fa)]; exact e⟩
    refine ⟨upd F a (.lst xs), q, ⟨R.len, R.nd, fun b o e => ?_, R.there, fun m o b e1 e2 => ?_⟩, a, xs, rfl, upd_same, repL_ex q.ex _ _ r⟩
    · by_cases hb : b = a
      · subst hb; rw [upd_same] at e; rw [ha]; exact e
      · rw [upd_ne hb] at e; exact R.ex b o e
    · have hne : b ≠ a := fun h => na (h ▸ List.mem_of_getElem? e2)
      have h := R.own m o b e1 e2
      by_cases hd : o = .dead
      · subst hd; trivial
      · exact ownAt_lq q h (by rw [upd_ne hne]; exact h.free hd) (fun _ e => e)
  | dead => exact n.elim
/-- THE STEP: m first, then f with its value -/
theorem good_bind {m : ME} {f : SV → ME} (env : EnvOk k φ F ρ σ) (R : Rl k φ F H L) (h : GoodE k W σ Q φ F (bindS m f ρ L)) :
    tE k W m σ H fun v H1 => ∃ φ' F' x L1, Lq φ F φ' F' ∧ Rl k φ' F' H1 L1 ∧ RepS k φ' F' x v ∧ GoodE k W σ Q φ' F' (f x ρ L1) := by
  refine ⟨φ, F, ρ, L, env, R, ?_⟩
  unfold bindS at h
  cases hm : m ρ L with
  | ok r L1 =>
    rw [hm] at h
    cases ht : toS r with
    | none => simp only [ht] at h; exact h.elim
    | some x =>
      simp only [ht] at h
      cases r with
      | sv y =>
        cases ht
        exact fun φ' F' H' v a b c => ⟨φ', F', _, L1, a, b, c, h.lq a⟩
      | new o =>
        intro φ' F' H' a q R' n
        obtain ⟨F2, q2, R2, r2⟩ := R'.freeze n ht
        exact ⟨φ', F2, x, L1, q.trans q2, R2, r2, h.lq (q.trans q2)⟩
  | exc c p L1 => rw [hm] at h; exact h
  | stuck => rw [hm] at h; exact h
theorem tE_mono {m : ME} (h : tE k W m σ H Q) (hq : ∀ v H, Q v H → Q' v H) : tE k W m σ H Q' := by
  obtain ⟨φ, F, ρ, L, env, R, g⟩ := h
  exact ⟨φ, F, ρ, L, env, R, g.mono hq⟩
end
section
variable {X : Cx} {W : WX}
def mC (x : SV) : ME := fun _ L => .ok (.sv x) L
def mV (i : Nat) : ME := fun ρ L => match ρ[i]? with
  | some (some x) => .ok (.sv x) L
  | _ => .stuck
theorem xe_c {e : Expr} {x : SV} {v : V} (h : PE X e (tC v)) (hr : ∀ φ F, RepS (kx X) φ F x v) : XE X W e (mC x) := xe_of h fun σ H Q ⟨φ, F, ρ, L, env, R, g⟩ => g φ F H v (Lq.refl _ _) R (hr φ F)
theorem xe_int {i : Int} {j : Nat} {pos : Pos} : XE X W (.Constant (.int i) j pos) (mC (.d (.int i))) := xe_c pe_int fun _ _ => rfl
theorem xe_bl {b : Bool} {j : Nat} {pos : Pos} : XE X W (.Constant (.bool b) j pos) (mC (.d (.bool b))) := xe_c pe_bl fun _ _ => rfl
theorem xe_non {j : Nat} {pos : Pos} : XE X W (.Constant .none j pos) (mC (.d .none)) := xe_c pe_non fun _ _ => rfl
theorem xe_str {x : Str} {j : Nat} {pos : Pos} : XE X W (.Constant (.str x) j pos) (mC (.d (.str x))) := xe_c pe_str fun _ _ => rfl
/-- a built-in class as a value -/
theorem xe_ty {x : Str} {n : String} {pos : Pos} (hg : Gl X x) (hm : X.mg x = none) (hv : bootBuiltins x = some (.type n)) (hn : x ≠ "__name__" := by decide) (hd : (x == ("__debug__" : Str)) = false := by decide) : XE X W (.Name x pos) (mC (.ty n)) :=
  xe_c (v := .ty n) (pe_bltn hg hm hv rfl hn hd) fun _ _ => rfl
/-- a module's text -/
theorem xe_gstr {x s : Str} {t : Tok} {pos : Pos} (hg : Gl X x) (hm : X.mg x = some (.str s t)) (hd : (x == ("__debug__" : Str)) = false := by decide) : XE X W (.Name x pos) (mC (.d (.str s))) := xe_c (v := .str s) (pe_glob hg hm ⟨t, rfl⟩ hd) fun _ _ => rfl
theorem xe_gint {x : Str} {i : Int} {t : Tok} {pos : Pos} (hg : Gl X x) (hm : X.mg x = some (.int i t)) (hd : (x == ("__debug__" : Str)) = false := by decide) : XE X W (.Name x pos) (mC (.d (.int i))) := xe_c (v := .int i) (pe_glob hg hm ⟨t, rfl⟩ hd) fun _ _ => rfl
theorem xe_v (i : Nat) {x : Str} {pos : Pos} (hN : X.N[i]? = some x := by rfl) (hv : Vis X.env.scope x := by first | exact Or.inl rfl | exact Or.inr (Or.inl rfl) | exact Or.inr (Or.inr rfl)) (hd : (x == ("__debug__" : Str)) = false := by decide)
    (hcd : (x == ("__classdict__" : Str)) = false := by decide) : XE X W (.Name x pos) (mV i) := xe_of (pe_var hN hv hd hcd) fun σ H Q ⟨φ, F, ρ, L, env, R, g⟩ => by
  unfold mV at g
  split at g
  · rename_i x e
    obtain ⟨v, h1, h2⟩ := env.at_ i x e
    exact ⟨v, h1, g φ F H v (Lq.refl _ _) R h2⟩
  · exact g.elim
def asL (L : Sto) : SV → Option (List PyData)
  | .d (.list xs) => some xs
  | .own n => match L[n]? with
    | some (.lst xs) => some xs
    | _ => none
  | .ro xs => some xs
  | _ => none
/-- .. a list that may stand beside another -/
def asW (L : Sto) : SV → Option (List PyData)
  | .d (.list xs) => some xs
  | .own n => match L[n]? with
    | some (.lst xs) => some xs
    | _ => none
  | _ => none
def asT : SV → Option (List PyData)
  | .d (.tuple xs) => some xs
  | _ => none
variable {k : Kx} {σ : L2.St} {Q Q' : VK} {φ φ' : List Addr} {F F' H H' : Hp} {ρ : Rho} {L : Sto}
theorem asW_ok {x : SV} {v : V} {ds : List PyData} (R : Rl k φ F H L) (r : RepS k φ F x v) (h : asW L x = some ds) : ∃ a xs, v = .ref a ∧ H a = some (.lst xs) ∧ RepL k F ds xs := by
  unfold asW at h
  split at h
  · cases h
    obtain ⟨a, xs, e, z, q⟩ := r
    exact ⟨a, xs, e, R.ex _ _ z, q⟩
  · split at h
    · rename_i n _ xs e
      cases h
      obtain ⟨a, e1, e2⟩ := r
      obtain ⟨_, ys, h1, h2⟩ := R.own _ _ a e e2
      exact ⟨a, ys, e1, h1, h2⟩
    · cases h
  · cases h
theorem asL_ok {x : SV} {v : V} {ds : List PyData} (R : Rl k φ F H L) (r : RepS k φ F x v) (h : asL L x = some ds) : ∃ a xs, v = .ref a ∧ SqL k.K H a xs ∧ RepL k F ds xs := by
  cases x with
  | ro ys =>
    cases h
    obtain ⟨a, vs, e, z, q⟩ := r
    exact ⟨a, vs, e, sql_ex R.ex z, q⟩
  | d y =>
    obtain ⟨a, xs, e, z, q⟩ := asW_ok R r (by cases y <;> first | exact h | (cases h))
    exact ⟨a, xs, e, SqL.of z, q⟩
  | own n =>
    obtain ⟨a, xs, e, z, q⟩ := asW_ok R r (show asW L (.own n) = some ds from h)
    exact ⟨a, xs, e, SqL.of z, q⟩
  | ty n => cases h
theorem asT_ok {x : SV} {v : V} {ds : List PyData} (R : Rl k φ F H L) (r : RepS k φ F x v) (h : asT x = some ds) : ∃ a xs, v = .ref a ∧ SqT k.K F a xs ∧ SqT k.K H a xs ∧ RepL k F ds xs := by
  unfold asT at h
  split at h
  · cases h
    obtain ⟨a, xs, e, z, q⟩ := r
    exact ⟨a, xs, e, z, sqt_ex R.ex z, q⟩
  · cases h
def rOf (k : Kx) (W : WX) (f : SV → SV → Sto → RE) : R2 := fun v w H Q => ∃ σ φ F L x y, Rl k φ F H L ∧ RepS k φ F x v ∧ RepS k φ F y w ∧ GoodE k W σ Q φ F (f x y L)
def OpS (X : Cx) (W : WX) (g : Value → Value → Sem Value) (f : SV → SV → Sto → RE) : Prop := OpR X g (rOf (kx X) W f)
def bind2 (ma mb : ME) (f : SV → SV → Sto → RE) : ME := bindS ma fun x => bindS mb fun y => fun _ L => f x y L
theorem good_bind2 {ma mb : ME} {f : SV → SV → Sto → RE} (h : tE k W (bind2 ma mb f) σ H Q) : tE k W ma σ H fun v H1 => tE k W mb σ H1 fun w H2 => rOf k W f v w H2 Q := by
  obtain ⟨φ, F, ρ, L, env, R, g⟩ := h
  refine tE_mono (good_bind env R g) fun v H1 ⟨φ1, F1, x, L1, q1, R1, r1, g1⟩ => ?_
  refine tE_mono (good_bind (env.lq q1) R1 g1) fun w H2 ⟨φ2, F2, y, L2, q2, R2, r2, g2⟩ => ?_
  exact ⟨σ, φ2, F2, L2, x, y, R2, repS_lq q2 _ _ r1, r2, g2⟩
theorem xe_bin {a b : Expr} {op : Operator} {pos : Pos} {ma mb : ME} {f : SV → SV → Sto → RE} (ho : OpS X W (binaryOp op) f) (ha : XE X W a ma) (hb : XE X W b mb) : XE X W (.BinOp a op b pos) (bind2 ma mb f) :=
  xe_of (pe_op ho ha hb) fun _ _ _ h => good_bind2 h
theorem xe_cmp {a b : Expr} {op : CmpOp} {pos : Pos} {ma mb : ME} {f : SV → SV → Sto → RE} (ho : OpS X W (compareOp op) f) (ha : XE X W a ma) (hb : XE X W b mb) (hm : behindInMarks op b = false := by first | exact nomark _ | rfl) : XE X W (.Compare a [op] [b] pos) (bind2 ma mb f) :=
  xe_of (pe_cmpR ho ha hb hm) fun _ _ _ h => good_bind2 h
def okD (x : PyData) (L : Sto) : RE := .ok (.sv (.d x)) L
theorem good_d {x : PyData} {v : V} (R : Rl k φ F H L) (g : GoodE k W σ Q φ F (okD x L)) (r : Rep k F x v) : Q v H := g φ F H v (Lq.refl _ _) R r
theorem good_tup {ds : List PyData} {xs : List V} {p : Addr} (R : Rl k φ F H L) (r : RepL k F ds xs) (g : GoodE k W σ Q φ F (okD (.tuple ds) L)) (hp : H p = none) : Q (.ref p) (upd H p (.tup xs)) := by
  obtain ⟨R1, q, r1⟩ := R.newTup hp r
  exact g φ _ _ _ q R1 r1
theorem good_lst {ds : List PyData} {xs : List V} {p : Addr} (R : Rl k φ F H L) (r : RepL k F ds xs) (g : GoodE k W σ Q φ F (.ok (.new (.lst ds)) L)) (hp : H p = none) : Q (.ref p) (upd H p (.lst xs)) := by
  obtain ⟨R1, n⟩ := R.newLst hp r
  exact g φ F _ _ (Lq.refl _ _) R1 n
def opAdd (x y : SV) (L : Sto) : RE := match x, y with
  | .d (.int i), .d (.int j) => okD (.int (i + j)) L
  | .d (.str s), .d (.str t) => if s.length + t.length ≤ sizeLine then okD (.str (s ++ t)) L else .stuck
  | .d (.tuple xs), .d (.tuple ys) => if xs.length + ys.length ≤ sizeLine then okD (.tuple (xs ++ ys)) L else .stuck
  | x, y => match asW L x, asW L y with
    | some xs, some ys => if xs.length + ys.length ≤ sizeLine then .ok (.new (.lst (xs ++ ys))) L else .stuck
    | _, _ => .stuck
theorem op_addS : OpS X W (binaryOp .Add) opAdd := by
  intro pins s σ H x y v u Q I rx ry h
  obtain ⟨σ', φ, F, L, a, b, R, ra, rb, g⟩ := h
  unfold opAdd at g
  split at g
  · exact op_add pins s σ H x y v u Q I rx ry ⟨_, _, ra, rb, good_d R g rfl⟩
  · split at g
    · rename_i hz
      exact op_add_str pins s σ H x y v u Q I rx ry ⟨_, _, ra, rb, hz, good_d R g rfl⟩
    · exact g.elim
  · split at g
    · rename_i hz
      obtain ⟨p, xs, e1, z1, q1⟩ := ra
      obtain ⟨q, ys, e2, z2, q2⟩ := rb
      refine op_catA pins s σ H x y v u Q I rx ry ⟨p, q, xs, ys, e1, e2, sqt_ex R.ex z1, sqt_ex R.ex z2, by rw [q1.len, q2.len]; exact hz, fun hx => ?_, fun _ hy => ?_, fun _ _ r hr => good_tup R (q1.app q2) g hr⟩
      · subst hx
        have e := q1.len
        have e' : _ = [] := List.eq_nil_of_length_eq_zero e.symm
        subst e'
        exact good_d R g ⟨q, ys, rfl, z2, q2⟩
      · subst hy
        have e := q2.len
        have e' : _ = [] := List.eq_nil_of_length_eq_zero e.symm
        subst e'
        rw [List.append_nil] at g
        exact good_d R g ⟨p, xs, rfl, z1, q1⟩
    · exact g.elim
  · split at g
    · rename_i xs ys h1 h2
      split at g
      · rename_i hz
        obtain ⟨p, vs, e1, z1, q1⟩ := asW_ok R ra h1
        obtain ⟨q, ws, e2, z2, q2⟩ := asW_ok R rb h2
        exact op_cat pins s σ H x y v u Q I rx ry ⟨p, q, vs, ws, e1, e2, z1, z2, by rw [q1.len, q2.len]; exact hz, fun r hr => good_lst R (q1.app q2) g hr⟩
      · exact g.elim
    · exact g.elim
def opI (f : Int → Int → PyData) (x y : SV) (L : Sto) : RE := match x, y with
  | .d (.int i), .d (.int j) => okD (f i j) L
  | _, _ => .stuck
def opIC (C : Int → Int → Prop) [∀ i j, Decidable (C i j)] (f : Int → Int → PyData) (x y : SV) (L : Sto) : RE := match x, y with
  | .d (.int i), .d (.int j) => if C i j then okD (f i j) L else .stuck
  | _, _ => .stuck
theorem opI_of {g : Value → Value → Sem Value} {f : Int → Int → PyData} {f' : Int → Int → V} (ho : OpR X g (rI0 f')) (hf : ∀ k F i j, Rep k F (f i j) (f' i j)) : OpS X W g (opI f) := by
  intro pins s σ H x y v u Q I rx ry h
  obtain ⟨σ', φ, F, L, a, b, R, ra, rb, g⟩ := h
  unfold opI at g
  split at g
  · exact ho pins s σ H x y v u Q I rx ry ⟨_, _, ra, rb, good_d R g (hf _ _ _ _)⟩
  · exact g.elim
theorem opIC_of {C : Int → Int → Prop} [∀ i j, Decidable (C i j)] {g : Value → Value → Sem Value} {f : Int → Int → PyData} {f' : Int → Int → V} {C' : Int → Int → Prop} (ho : OpR X g (rI C' f')) (hC : ∀ i j, C i j → C' i j) (hf : ∀ k F i j, Rep k F (f i j) (f' i j)) : OpS X W g (opIC C f) := by
  intro pins s σ H x y v u Q I rx ry h
  obtain ⟨σ', φ, F, L, a, b, R, ra, rb, g⟩ := h
  unfold opIC at g
  split at g
  · split at g
    · rename_i hc
      exact ho pins s σ H x y v u Q I rx ry ⟨_, _, ra, rb, hC _ _ hc, good_d R g (hf _ _ _ _)⟩
    · exact g.elim
  · exact g.elim
abbrev opSub := opI fun i j => .int (i - j)
def opMulC (i j : Int) : Prop := (-(2 ^ 64) < i ∧ i < 2 ^ 64) ∨ (-(2 ^ 64) < j ∧ j < 2 ^ 64)
instance (i j : Int) : Decidable (opMulC i j) := by unfold opMulC; exact inferInstance
def opDivC (_ j : Int) : Prop := 0 < j ∧ j < 1073741824
instance (i j : Int) : Decidable (opDivC i j) := by unfold opDivC; exact inferInstance
def opModC (_ j : Int) : Prop := 0 < j
instance (i j : Int) : Decidable (opModC i j) := by unfold opModC; exact inferInstance
def opPowC (i j : Int) : Prop := 0 ≤ j ∧ j ≤ 1000000 ∧ i.natAbs < 2 ^ 64
instance (i j : Int) : Decidable (opPowC i j) := by unfold opPowC; exact inferInstance
abbrev opDiv := opIC opDivC fun i j => .int (i / j)
abbrev opMod := opIC opModC fun i j => .int (i % j)
abbrev opPow := opIC opPowC fun i j => .int (i ^ j.toNat)
theorem op_subS : OpS X W (binaryOp .Sub) opSub := opI_of op_sub fun _ _ _ _ => rfl
theorem op_divS : OpS X W (binaryOp .FloorDiv) opDiv := opIC_of op_fdiv (fun _ _ h => h) fun _ _ _ _ => rfl
theorem op_modS : OpS X W (binaryOp .Mod) opMod := opIC_of op_mod (fun _ _ h => h) fun _ _ _ _ => rfl
theorem op_powS : OpS X W (binaryOp .Pow) opPow := opIC_of op_pow (fun _ _ h => h) fun _ _ _ _ => rfl
def repOk (n : Nat) (j : Int) : Prop := -(2 ^ 63) ≤ j ∧ j < 2 ^ 63 ∧ n * j.toNat ≤ sizeLine
instance (n : Nat) (j : Int) : Decidable (repOk n j) := by unfold repOk; exact inferInstance
/-- * of ints, of a list and an int -/
def opMul (x y : SV) (L : Sto) : RE := match x, y with
  | .d (.int i), .d (.int j) => if opMulC i j then okD (.int (i * j)) L else .stuck
  | x, .d (.int j) => match asW L x with
    | some xs => if repOk xs.length j then .ok (.new (.lst (List.replicate j.toNat xs).flatten)) L else .stuck
    | none => .stuck
  | _, _ => .stuck
theorem op_mulS : OpS X W (binaryOp .Mult) opMul := by
  intro pins s σ H x y v u Q I rx ry h
  obtain ⟨σ', φ, F, L, a, b, R, ra, rb, g⟩ := h
  unfold opMul at g
  split at g
  · split at g
    · rename_i hc
      exact op_mul pins s σ H x y v u Q I rx ry ⟨_, _, ra, rb, hc, good_d R g rfl⟩
    · exact g.elim
  · split at g
    · rename_i xs h1
      split at g
      · rename_i hc
        obtain ⟨p, vs, e1, z1, q1⟩ := asW_ok R ra h1
        exact op_rep pins s σ H x y v u Q I rx ry ⟨p, _, vs, e1, rb, z1, hc.1, hc.2.1, by rw [q1.len]; exact hc.2.2, fun r hr => good_lst R (q1.rep _) g hr⟩
      · exact g.elim
    · exact g.elim
  · exact g.elim
abbrev opLt := opI fun i j => .bool (decide (i < j))
abbrev opLe := opI fun i j => .bool (decide (i ≤ j))
abbrev opGt := opI fun i j => .bool (decide (j < i))
abbrev opGe := opI fun i j => .bool (decide (j ≤ i))
theorem op_ltS : OpS X W (compareOp .Lt) opLt := opI_of op_lt fun _ _ _ _ => rfl
theorem op_leS : OpS X W (compareOp .LtE) opLe := opI_of op_le fun _ _ _ _ => rfl
theorem op_gtS : OpS X W (compareOp .Gt) opGt := opI_of op_gt fun _ _ _ _ => rfl
theorem op_geS : OpS X W (compareOp .GtE) opGe := opI_of op_ge fun _ _ _ _ => rfl
/-- what is plain data -/
def pyOf (L : Sto) : SV → Option PyData
  | .d x => some x
  | .own n => match L[n]? with
    | some (.lst xs) => some (.list xs)
    | _ => none
  | .ro xs => some (.list xs)
  | .ty _ => none
mutual
theorem rep_dp {K : PySem.W.Frag} (hk : k.K = K) (e : ∀ a o, F a = some o → H a = some o) : ∀ (d : PyData) (v : V), Rep k F d v → Dp K H v d
  | .none, _, h => by cases h; exact .non
  | .bool _, _, h => by cases h; exact .bl _
  | .int _, _, h => by cases h; exact .int _
  | .str _, _, h => by cases h; exact .str _
  | .list ds, _, h => by
    obtain ⟨a, xs, e1, e2, e3⟩ := h
    subst e1
    exact .lst (SqL.of (e _ _ e2)) (repL_dp hk e ds xs e3)
  | .tuple ds, _, h => by
    obtain ⟨a, xs, e1, e2, e3⟩ := h
    subst e1
    subst hk
    exact .tup (sqt_ex e e2) (repL_dp rfl e ds xs e3)
  | .dict _, _, h => h.elim
theorem repL_dp {K : PySem.W.Frag} (hk : k.K = K) (e : ∀ a o, F a = some o → H a = some o) : ∀ (ds : List PyData) (xs : List V), RepL k F ds xs → DpAll K H xs ds
  | [], _, h => by rw [show _ = [] from h]; exact .nil
  | d :: ds, xs, h => by
    obtain ⟨x, r, e1, e2, e3⟩ := h
    subst e1
    exact .cons (rep_dp hk e d x e2) (repL_dp hk e ds r e3)
end
theorem pyOf_ok {x : SV} {v : V} {y : PyData} (R : Rl k φ F H L) (r : RepS k φ F x v) (h : pyOf L x = some y) : Dp k.K H v y := by
  cases x with
  | d z => cases h; exact rep_dp rfl R.ex _ _ r
  | own n =>
    have h : (match L[n]? with
      | some (.lst xs) => some (.list xs)
      | _ => none) = some y := h
    split at h
    · rename_i xs e
      cases h
      obtain ⟨a, zs, e1, z1, q1⟩ := asL_ok (ds := xs) R r (by unfold asL; simp only [e])
      subst e1
      exact .lst z1 (repL_dp rfl R.ex _ _ q1)
    · cases h
  | ro xs =>
    cases h
    obtain ⟨a, zs, e1, z1, q1⟩ := asL_ok (ds := xs) R r rfl
    subst e1
    exact .lst z1 (repL_dp rfl R.ex _ _ q1)
  | ty n => cases h
def opEqG (neg : Bool) (x y : SV) (L : Sto) : RE := match x, y with
  | .d (.str a), .d (.str b) => okD (.bool (if neg then !(a == b) else a == b)) L
  | x, y => match pyOf L x, pyOf L y with
  | some a, some b => if SeqAt.shaped a = true ∧ SeqAt.shaped b = true then okD (.bool (if neg then !PyData.eqv a b else PyData.eqv a b)) L else .stuck
  | _, _ => .stuck
abbrev opEq := opEqG false
abbrev opNe := opEqG true
theorem op_eqS {n : Nat} (hr : Room n X.A) : OpS X W (compareOp .Eq) opEq := by
  intro pins s σ H x y v u Q I rx ry h
  obtain ⟨σ', φ, F, L, a, b, R, ra, rb, g⟩ := h
  unfold opEq opEqG at g
  split at g
  · cases (show x = _ from ra)
    cases (show y = _ from rb)
    exact op_eq pins s σ H _ _ v u Q I rx ry ⟨rfl, by rw [dec_str]; exact good_d R g rfl⟩
  split at g
  · rename_i p q h1 h2
    split at g
    · rename_i hc
      exact op_eqD hr.units pins s σ H x y v u Q I rx ry ⟨p, q, pyOf_ok R ra h1, pyOf_ok R rb h2, hc.1, hc.2, good_d R g rfl⟩
    · exact g.elim
  · exact g.elim
theorem op_neS {n : Nat} (hr : Room n X.A) : OpS X W (compareOp .NotEq) opNe := by
  intro pins s σ H x y v u Q I rx ry h
  obtain ⟨σ', φ, F, L, a, b, R, ra, rb, g⟩ := h
  unfold opNe opEqG at g
  split at g
  · cases (show x = _ from ra)
    cases (show y = _ from rb)
    exact op_ne pins s σ H _ _ v u Q I rx ry ⟨rfl, by rw [dec_str]; exact good_d R g rfl⟩
  split at g
  · rename_i p q h1 h2
    split at g
    · rename_i hc
      exact op_neD hr.units pins s σ H x y v u Q I rx ry ⟨p, q, pyOf_ok R ra h1, pyOf_ok R rb h2, hc.1, hc.2, good_d R g rfl⟩
    · exact g.elim
  · exact g.elim
/-- is None, is not None -/
def isNone : SV → Bool
  | .d .none => true
  | _ => false
theorem isNone_ok {x : SV} {v : V} (r : RepS k φ F x v) : decide (v = .non) = isNone x := by
  cases x with
  | d y =>
    cases y with
    | none => cases r; rfl
    | bool b => cases r; rfl
    | int b => cases r; rfl
    | str b => cases r; rfl
    | list b => obtain ⟨a, _, e, _⟩ := r; subst e; rfl
    | tuple b => obtain ⟨a, _, e, _⟩ := r; subst e; rfl
    | dict b => exact r.elim
  | own n => obtain ⟨a, e, _⟩ := r; subst e; rfl
  | ro n => obtain ⟨a, _, e, _⟩ := r; subst e; rfl
  | ty n => cases r; rfl
def opIsG (neg : Bool) (x y : SV) (L : Sto) : RE := if isNone y then okD (.bool (if neg then !isNone x else isNone x)) L else .stuck
abbrev opIs := opIsG false
abbrev opIsNot := opIsG true
theorem op_isS : OpS X W (compareOp .Is) opIs := by
  intro pins s σ H x y v u Q I rx ry h
  obtain ⟨σ', φ, F, L, a, b, R, ra, rb, g⟩ := h
  unfold opIs opIsG at g
  split at g
  · rename_i hc
    have e := isNone_ok rb
    rw [hc] at e
    exact op_isN pins s σ H x y v u Q I rx ry ⟨of_decide_eq_true e, by rw [isNone_ok ra]; exact good_d R g rfl⟩
  · exact g.elim
theorem op_isNotS : OpS X W (compareOp .IsNot) opIsNot := by
  intro pins s σ H x y v u Q I rx ry h
  obtain ⟨σ', φ, F, L, a, b, R, ra, rb, g⟩ := h
  unfold opIsNot opIsG at g
  split at g
  · rename_i hc
    have e := isNone_ok rb
    rw [hc] at e
    exact op_notN pins s σ H x y v u Q I rx ry ⟨of_decide_eq_true e, by rw [isNone_ok ra]; exact good_d R g rfl⟩
  · exact g.elim
def opIx (x y : SV) (L : Sto) : RE := match x, y with
  | .d (.str s), .d (.int i) => if s.length ≤ sizeLine then (match atI s.cps.toList i with
    | some c => okD (.str ⟨#[c]⟩) L
    | none => .stuck) else .stuck
  | .d (.tuple xs), .d (.int i) => match atI xs i with
    | some d => okD d L
    | none => .stuck
  | x, .d (.int i) => match asL L x with
    | some xs => match atI xs i with
      | some d => okD d L
      | none => .stuck
    | none => .stuck
  | _, _ => .stuck
theorem atI_rep {ds : List PyData} {xs : List V} {i : Int} {d : PyData} (r : RepL k F ds xs) (h : atI ds i = some d) : ∃ x, atI xs i = some x ∧ Rep k F d x := by
  unfold atI at h ⊢
  rw [r.len]
  cases e : ixN ds.length i with
  | none => rw [e] at h; cases h
  | some j =>
    rw [e] at h
    obtain ⟨x, h1, h2⟩ := r.get (show ds[j]? = some d from h)
    exact ⟨x, h1, h2⟩
theorem xe_ix {a b : Expr} {pos : Pos} {ma mb : ME} (ha : XE X W a ma) (hb : XE X W b mb) (hs : PlainIx b := by exact fun _ _ => rfl) : XE X W (.Subscript a b pos) (bind2 ma mb opIx) := by
  refine xe_of (pe_ix ix_seq ha hb hs) fun σ H Q h => ?_
  refine tE_mono (good_bind2 h) fun v H1 h1 => tE_mono h1 fun w H2 ⟨σ', φ, F, L, x, y, R, ra, rb, g⟩ => ?_
  unfold opIx at g
  split at g
  · split at g
    · rename_i hz
      split at g
      · rename_i c hc
        exact .inr (.inr ⟨_, _, c, ra, rb, hz, hc, good_d R g rfl⟩)
      · exact g.elim
    · exact g.elim
  · split at g
    · rename_i d hd
      obtain ⟨p, xs, e1, _, z1, q1⟩ := asT_ok (ds := _) R ra rfl
      obtain ⟨x', h1, h2⟩ := atI_rep q1 hd
      exact .inr (.inl ⟨p, xs, _, x', e1, rb, z1, h1, good_d R g h2⟩)
    · exact g.elim
  · split at g
    · rename_i xs hx
      split at g
      · rename_i d hd
        obtain ⟨p, ys, e1, z1, q1⟩ := asL_ok R ra hx
        obtain ⟨x', h1, h2⟩ := atI_rep q1 hd
        exact .inl ⟨p, ys, _, x', e1, rb, z1, h1, good_d R g h2⟩
      · exact g.elim
    · exact g.elim
  · exact g.elim
end
end PD
namespace PD
open PySem L2
inductive RA where
  | ok (xs : List SV) (L : Sto)
  | exc (c : Str) (p : Pay) (L : Sto)
  | stuck
def evalA : List ME → Rho → Sto → RA
  | [], _, L => .ok [] L
  | m :: ms, ρ, L => match m ρ L with
    | .ok r L1 => match toS r with
      | some x => match evalA ms ρ L1 with
        | .ok xs L2 => .ok (x :: xs) L2
        | .exc c p L2 => .exc c p L2
        | .stuck => .stuck
      | none => .stuck
    | .exc c p L1 => .exc c p L1
    | .stuck => .stuck
def bindA (ms : List ME) (f : List SV → ME) : ME := fun ρ L => match evalA ms ρ L with
  | .ok xs L1 => f xs ρ L1
  | .exc c p L1 => .exc c p L1
  | .stuck => .stuck
def GoodA (k : Kx) (W : WX) (σ : L2.St) (Q : List V → Hp → Prop) (φ : List Addr) (F : Hp) : RA → Prop
  | .ok xs L' => ∀ φ' F' H' vs, Lq φ F φ' F' → Rl k φ' F' H' L' → RepSL k φ' F' xs vs → Q vs H'
  | .exc c p L' => ∀ φ' F' H' cls d, Lq φ F φ' F' → Rl k φ' F' H' L' → ExcAt k F' H' c p cls d → W cls d σ H'
  | .stuck => False
def tA (k : Kx) (W : WX) (ms : List ME) : TA := fun σ H Q => ∃ φ F ρ L, EnvOk k φ F ρ σ ∧ Rl k φ F H L ∧ GoodA k W σ Q φ F (evalA ms ρ L)
def XA (X : Cx) (W : WX) (es : List Expr) (ms : List ME) : Prop := PA X es (tA (kx X) W ms)
section
variable {X : Cx} {W : WX} {k : Kx} {σ : L2.St} {Q Q' : VK} {φ φ' : List Addr} {F F' H H' : Hp} {ρ : Rho} {L : Sto}
theorem GoodA.lq {Q : List V → Hp → Prop} {r : RA} (h : GoodA k W σ Q φ F r) (q : Lq φ F φ' F') : GoodA k W σ Q φ' F' r := by
  cases r with
  | ok xs L' => exact fun φ' F' H' v a b c => h φ' F' H' v (q.trans a) b c
  | exc c p L' => exact fun φ' F' H' cls d a b c => h φ' F' H' cls d (q.trans a) b c
  | stuck => exact h
theorem pa_imp {es : List Expr} {t t' : TA} (h : PA X es t) (hi : ∀ σ H Q, t' σ H Q → t σ H Q) : PA X es t' := ⟨fun pos pins s σ H Q I q => h.run pos pins s σ H Q I (hi σ H Q q)⟩
theorem xa_nil : XA X W [] [] := pa_imp pa_nil fun σ H Q ⟨φ, F, ρ, L, env, R, g⟩ => g φ F H [] (Lq.refl _ _) R rfl
theorem xa_cons {e : Expr} {es : List Expr} {m : ME} {ms : List ME} (h : XE X W e m) (hs : XA X W es ms) (hst : starEach (e :: es) X.env = (false, eval e X.env) :: starEach es X.env := by rfl) : XA X W (e :: es) (m :: ms) :=
  pa_imp (pa_cons h hs hst) fun σ H Q ⟨φ, F, ρ, L, env, R, g⟩ => by
    have hb : GoodE (kx X) W σ (fun v H1 => tA (kx X) W ms σ H1 fun vs H2 => Q (v :: vs) H2) φ F (m ρ L) := by
      unfold evalA at g
      cases hm : m ρ L with
      | ok r L1 =>
        simp only [hm] at g
        cases ht : toS r with
        | none => simp only [ht] at g; exact g.elim
        | some x =>
          simp only [ht] at g
          have main : ∀ φ' F' H' v, Lq φ F φ' F' → Rl (kx X) φ' F' H' L1 → RepS (kx X) φ' F' x v → tA (kx X) W ms σ H' fun vs H2 => Q (v :: vs) H2 := by
            intro φ' F' H' v q R' r'
            refine ⟨φ', F', ρ, L1, env.lq q, R', ?_⟩
            cases hA : evalA ms ρ L1 with
            | ok xs L2 =>
              simp only [hA] at g
              exact fun φ2 F2 H2 vs q2 R2 r2 => g φ2 F2 H2 (v :: vs) (q.trans q2) R2 ⟨v, vs, rfl, repS_lq q2 _ _ r', r2⟩
            | exc c p L2 =>
              simp only [hA] at g
              exact fun φ2 F2 H2 cls d q2 R2 r2 => g φ2 F2 H2 cls d (q.trans q2) R2 r2
            | stuck => simp only [hA] at g; exact g.elim
          cases r with
          | sv y => cases ht; exact main
          | new o =>
            intro φ' F' H' a q R' n
            obtain ⟨F2, q2, R2, r2⟩ := R'.freeze n ht
            exact main φ' F2 H' _ (q.trans q2) R2 r2
      | exc c p L1 => simp only [hm] at g; exact g
      | stuck => simp only [hm] at g; exact g
    exact ⟨φ, F, ρ, L, env, R, hb⟩
theorem good_bindA {ms : List ME} {f : List SV → ME} (h : tE k W (bindA ms f) σ H Q) : tA k W ms σ H fun vs H1 => ∃ φ' F' xs ρ L1, EnvOk k φ' F' ρ σ ∧ Rl k φ' F' H1 L1 ∧ RepSL k φ' F' xs vs ∧ GoodE k W σ Q φ' F' (f xs ρ L1) := by
  obtain ⟨φ, F, ρ, L, env, R, g⟩ := h
  refine ⟨φ, F, ρ, L, env, R, ?_⟩
  unfold bindA at g
  cases hA : evalA ms ρ L with
  | ok xs L2 =>
    simp only [hA] at g
    exact fun φ2 F2 H2 vs q2 R2 r2 => ⟨φ2, F2, xs, ρ, L2, env.lq q2, R2, r2, g.lq q2⟩
  | exc c p L2 =>
    simp only [hA] at g
    exact g
  | stuck => simp only [hA] at g; exact g.elim
def movD : SV → Sto → Option (PyData × Sto)
  | .d x, L => some (x, L)
  | .own n, L => match L[n]? with
    | some (.lst xs) => some (.list xs, L.set n .dead)
    | _ => none
  | _, _ => none
def movL : List SV → Sto → Option (List PyData × Sto)
  | [], L => some ([], L)
  | x :: xs, L => match movD x L with
    | some (y, L1) => match movL xs L1 with
      | some (ys, L2) => some (y :: ys, L2)
      | none => none
    | none => none
theorem Rl.moved {n : Nat} {a : Addr} {ds : List PyData} (R : Rl k φ F H L) (h1 : L[n]? = some (.lst ds)) (h2 : φ[n]? = some a) : ∃ F', Lq φ F φ F' ∧ Rl k φ F' H (L.set n .dead) ∧ Rep k F' (.list ds) (.ref a) := by
  have hn : n < L.length := (List.getElem?_eq_some_iff.mp h1).1
  obtain ⟨fa, xs, ha, r⟩ := R.own n _ a h1 h2
  have q : Lq φ F φ (upd F a (.lst xs)) := ⟨fun _ _ h => h, fun b o e => by rw [upd_ne (ne_of_none e fa)]; exact e⟩
  refine ⟨upd F a (.lst xs), q, ⟨by rw [List.length_set]; exact R.len, R.nd, fun b o e => ?_, R.there, fun m o b e1 e2 => ?_⟩, a, xs, rfl, upd_same, repL_ex q.ex _ _ r⟩
  · by_cases hb : b = a
    · subst hb; rw [upd_same] at e; rw [ha]; exact e
    · rw [upd_ne hb] at e; exact R.ex b o e
  · by_cases hm : n = m
    · subst hm
      rw [List.getElem?_set_self hn] at e1
      cases e1
      trivial
    · rw [List.getElem?_set_ne hm] at e1
      have hba : b ≠ a := fun h => hm (nodup_ixA R.nd h2 (h ▸ e2))
      have h := R.own m o b e1 e2
      by_cases hd : o = .dead
      · subst hd; trivial
      · exact ownAt_lq q h (by rw [upd_ne hba]; exact h.free hd) (fun _ e => e)
theorem movD_ok {x : SV} {v : V} {y : PyData} {L' : Sto} (R : Rl k φ F H L) (r : RepS k φ F x v) (h : movD x L = some (y, L')) : ∃ F', Lq φ F φ F' ∧ Rl k φ F' H L' ∧ Rep k F' y v := by
  cases x with
  | d z => cases h; exact ⟨F, Lq.refl _ _, R, r⟩
  | own n =>
    have h : (match L[n]? with
      | some (.lst xs) => some (PyData.list xs, L.set n .dead)
      | _ => none) = some (y, L') := h
    split at h
    · rename_i xs e
      cases h
      obtain ⟨a, e1, e2⟩ := r
      subst e1
      exact R.moved e e2
    · cases h
  | ro xs => cases h
  | ty n => cases h
theorem movL_ok : ∀ {xs : List SV} {vs : List V} {ys : List PyData} {F : Hp} {L L' : Sto}, Rl k φ F H L → RepSL k φ F xs vs → movL xs L = some (ys, L') → ∃ F', Lq φ F φ F' ∧ Rl k φ F' H L' ∧ RepL k F' ys vs
  | [], _, _, F, _, _, R, r, h => by cases h; exact ⟨F, Lq.refl _ _, R, r⟩
  | x :: xs, _, ys, F, L, L', R, r, h => by
    obtain ⟨v, vs, e, r1, r2⟩ := r
    subst e
    unfold movL at h
    split at h
    · rename_i y L1 h1
      split at h
      · rename_i ys L2 h2
        cases h
        obtain ⟨F1, q1, R1, p1⟩ := movD_ok R r1 h1
        obtain ⟨F2, q2, R2, p2⟩ := movL_ok R1 (repSL_lq q1 _ _ r2) h2
        exact ⟨F2, q1.trans q2, R2, v, vs, rfl, rep_ex q2.ex _ _ p1, p2⟩
      · cases h
    · cases h
/-- (a, b, ..), [a, b, ..] -/
def mTup (ms : List ME) : ME := bindA ms fun xs _ L => match movL xs L with
  | some (ys, L') => if ys.length ≤ sizeLine then okD (.tuple ys) L' else .stuck
  | none => .stuck
def mLst (ms : List ME) : ME := bindA ms fun xs _ L => match movL xs L with
  | some (ys, L') => if ys.length ≤ sizeLine then .ok (.new (.lst ys)) L' else .stuck
  | none => .stuck
theorem xe_tup {es : List Expr} {ms : List ME} {x1 : Nat} {pos : Pos} (h : XA X W es ms) : XE X W (.Tuple es x1 pos) (mTup ms) := by
  refine xe_of (pe_tup h) fun σ H Q h => ?_
  obtain ⟨φ, F, ρ, L, env, R, g⟩ := good_bindA h
  refine ⟨φ, F, ρ, L, env, R, ?_⟩
  cases hA : evalA ms ρ L with
  | ok xs L2 =>
    rw [hA] at g
    intro φ2 F2 H2 vs q2 R2 r2
    obtain ⟨φ3, F3, xs3, ρ3, L3, _, R3, r3, g3⟩ := g φ2 F2 H2 vs q2 R2 r2
    split at g3
    · rename_i ys L' hm
      split at g3
      · rename_i hz
        obtain ⟨F4, q4, R4, r4⟩ := movL_ok R3 r3 hm
        exact ⟨by rw [r4.len]; exact hz, fun p hp => good_tup R4 r4 (g3.lq q4) hp⟩
      · exact g3.elim
    · exact g3.elim
  | exc c p L2 => rw [hA] at g; exact g
  | stuck => rw [hA] at g; exact g
theorem xe_lst {es : List Expr} {ms : List ME} {pos : Pos} (h : XA X W es ms) : XE X W (.List es pos) (mLst ms) := by
  refine xe_of (pe_lst h) fun σ H Q h => ?_
  obtain ⟨φ, F, ρ, L, env, R, g⟩ := good_bindA h
  refine ⟨φ, F, ρ, L, env, R, ?_⟩
  cases hA : evalA ms ρ L with
  | ok xs L2 =>
    rw [hA] at g
    intro φ2 F2 H2 vs q2 R2 r2
    obtain ⟨φ3, F3, xs3, ρ3, L3, _, R3, r3, g3⟩ := g φ2 F2 H2 vs q2 R2 r2
    split at g3
    · rename_i ys L' hm
      split at g3
      · rename_i hz
        obtain ⟨F4, q4, R4, r4⟩ := movL_ok R3 r3 hm
        exact ⟨by rw [r4.len]; exact hz, fun p hp => good_lst R4 r4 (g3.lq q4) hp⟩
      · exact g3.elim
    · exact g3.elim
  | exc c p L2 => rw [hA] at g; exact g
  | stuck => rw [hA] at g; exact g
def rOfL (k : Kx) (W : WX) (f : List SV → Sto → RE) : List V → Hp → VK → Prop := fun vs H Q => ∃ σ φ F L xs, Rl k φ F H L ∧ RepSL k φ F xs vs ∧ GoodE k W σ Q φ F (f xs L)
def CallS (X : Cx) (W : WX) (g : Value) (f : List SV → Sto → RE) : Prop := CallR X g (rOfL (kx X) W f)
def mCall (f : List SV → Sto → RE) (ms : List ME) : ME := bindA ms fun xs _ L => f xs L
theorem tA_mono {ms : List ME} {Q Q' : List V → Hp → Prop} (h : tA k W ms σ H Q) (hq : ∀ v H, Q v H → Q' v H) : tA k W ms σ H Q' := by
  obtain ⟨φ, F, ρ, L, env, R, g⟩ := h
  refine ⟨φ, F, ρ, L, env, R, ?_⟩
  cases hA : evalA ms ρ L with
  | ok xs L2 => rw [hA] at g; exact fun φ2 F2 H2 vs q2 R2 r2 => hq _ _ (g φ2 F2 H2 vs q2 R2 r2)
  | exc c p L2 => rw [hA] at g; exact g
  | stuck => rw [hA] at g; exact g
theorem good_call {f : List SV → Sto → RE} {ms : List ME} (h : tE k W (mCall f ms) σ H Q) : tA k W ms σ H fun vs H1 => rOfL k W f vs H1 Q :=
  tA_mono (good_bindA h) fun vs H1 ⟨φ1, F1, xs, ρ1, L1, _, R1, r1, g1⟩ => ⟨σ, φ1, F1, L1, xs, R1, r1, g1⟩
theorem xe_callB {x : Str} {id : String} {p pos : Pos} {e : Expr} {es : List Expr} {ms : List ME} {f : List SV → Sto → RE} (hc : CallS X W (.builtin id) f) (hg : Gl X x) (hm : X.mg x = none) (hv : bootBuiltins x = some (.builtin id)) (ha : XA X W (e :: es) ms)
    (hn : x ≠ "__name__" := by decide) (hdb : (x == ("__debug__" : Str)) = false := by decide)
    (he : starEach (e :: es) X.env = (false, eval e X.env) :: starEach es X.env := by rfl) (hpl : (backTo pos (starEach es X.env)).any (·.1) = false := by rfl) : XE X W (.Call (.Name x p) (e :: es) [] pos) (mCall f ms) :=
  xe_of (pe_callB hc hg hm hv ha hn hdb he hpl) fun _ _ _ h => good_call h
theorem xe_callT {x : Str} {T : String} {p pos : Pos} {e : Expr} {es : List Expr} {ms : List ME} {f : List SV → Sto → RE} (hc : CallS X W (.type T) f) (hg : Gl X x) (hm : X.mg x = none) (hv : bootBuiltins x = some (.type T)) (ha : XA X W (e :: es) ms)
    (hn : x ≠ "__name__" := by decide) (hdb : (x == ("__debug__" : Str)) = false := by decide)
    (he : starEach (e :: es) X.env = (false, eval e X.env) :: starEach es X.env := by rfl) (hpl : (backTo pos (starEach es X.env)).any (·.1) = false := by rfl) : XE X W (.Call (.Name x p) (e :: es) [] pos) (mCall f ms) :=
  xe_of (pe_callTy hc hg hm hv ha hn hdb he hpl) fun _ _ _ h => good_call h
theorem repSL1 {x : SV} {vs : List V} (h : RepSL k φ F [x] vs) : ∃ v, vs = [v] ∧ RepS k φ F x v := by
  obtain ⟨v, r, e, h1, h2⟩ := h
  rw [show r = [] from h2] at e
  exact ⟨v, e, h1⟩
theorem repSL2 {x y : SV} {vs : List V} (h : RepSL k φ F [x, y] vs) : ∃ v w, vs = [v, w] ∧ RepS k φ F x v ∧ RepS k φ F y w := by
  obtain ⟨v, r, e, h1, h2⟩ := h
  obtain ⟨w, e2, h3⟩ := repSL1 h2
  exact ⟨v, w, by rw [e, e2], h1, h3⟩
/-- len -/
def cLen (xs : List SV) (L : Sto) : RE := match xs with
  | [.d (.str s)] => if s.length ≤ sizeLine then okD (.int s.length) L else .stuck
  | [.d (.tuple ds)] => okD (.int ds.length) L
  | [x] => match asL L x with
    | some ds => okD (.int ds.length) L
    | none => .stuck
  | _ => .stuck
theorem cl_len : CallS X W (.builtin "len") cLen := by
  intro pins s σ H vs us Q I rv h
  obtain ⟨σ', φ, F, L, xs, R, r, g⟩ := h
  refine call_len pins s σ H vs us Q I rv ?_
  unfold cLen at g
  split at g
  · split at g
    · rename_i hz
      obtain ⟨v, e, r⟩ := repSL1 r
      cases (show v = _ from r)
      exact ⟨_, _, e, ⟨hz, rfl⟩, good_d R g rfl⟩
    · exact g.elim
  · obtain ⟨v, e, r⟩ := repSL1 r
    obtain ⟨a, ys, e1, _, z, q⟩ := asT_ok (ds := _) R r rfl
    subst e1
    exact ⟨_, _, e, .inr ⟨ys, z, rfl⟩, by rw [q.len]; exact good_d R g rfl⟩
  · split at g
    · rename_i ds hd
      obtain ⟨v, e, r⟩ := repSL1 r
      obtain ⟨a, ys, e1, z, q⟩ := asL_ok R r hd
      subst e1
      exact ⟨_, _, e, .inl ⟨ys, z, rfl⟩, by rw [q.len]; exact good_d R g rfl⟩
    · exact g.elim
  · exact g.elim
/-- int(x) -/
def cInt (xs : List SV) (L : Sto) : RE := match xs with
  | [.d (.int i)] => okD (.int i) L
  | [.d (.bool b)] => okD (.int (if b then 1 else 0)) L
  | _ => .stuck
theorem cl_int : CallS X W (.type "int") cInt := by
  intro pins s σ H vs us Q I rv h
  obtain ⟨σ', φ, F, L, xs, R, r, g⟩ := h
  refine call_int1 pins s σ H vs us Q I rv ?_
  unfold cInt at g
  split at g
  · obtain ⟨v, e, r⟩ := repSL1 r
    cases (show v = _ from r)
    exact .inl ⟨_, e, good_d R g rfl⟩
  · obtain ⟨v, e, r⟩ := repSL1 r
    cases (show v = _ from r)
    exact .inr ⟨_, e, good_d R g rfl⟩
  · exact g.elim
/-- list(x), tuple(x) of a list, a tuple -/
def cList (xs : List SV) (L : Sto) : RE := match xs with
  | [.d (.tuple ds)] => .ok (.new (.lst ds)) L
  | [x] => match asL L x with
    | some ds => .ok (.new (.lst ds)) L
    | none => .stuck
  | _ => .stuck
theorem cl_list : CallS X W (.type "list") cList := by
  intro pins s σ H vs us Q I rv h
  obtain ⟨σ', φ, F, L, xs, R, r, g⟩ := h
  refine call_list_of pins s σ H vs us Q I rv ?_
  unfold cList at g
  split at g
  · obtain ⟨v, e, r⟩ := repSL1 r
    obtain ⟨a, ys, e1, _, z, q⟩ := asT_ok (ds := _) R r rfl
    subst e1
    exact ⟨_, ys, e, .inr z, fun l hl => good_lst R q g hl⟩
  · split at g
    · rename_i ds hd
      obtain ⟨v, e, r⟩ := repSL1 r
      obtain ⟨a, ys, e1, z, q⟩ := asL_ok R r hd
      subst e1
      exact ⟨_, ys, e, .inl z, fun l hl => good_lst R q g hl⟩
    · exact g.elim
  · exact g.elim
def cTuple (xs : List SV) (L : Sto) : RE := match xs with
  | [.d (.tuple ds)] => okD (.tuple ds) L
  | [x] => match asL L x with
    | some ds => okD (.tuple ds) L
    | none => .stuck
  | _ => .stuck
theorem cl_tuple : CallS X W (.type "tuple") cTuple := by
  intro pins s σ H vs us Q I rv h
  obtain ⟨σ', φ, F, L, xs, R, r, g⟩ := h
  refine call_tuple_of pins s σ H vs us Q I rv ?_
  unfold cTuple at g
  split at g
  · obtain ⟨v, e, r⟩ := repSL1 r
    obtain ⟨a, ys, e1, z0, z, q⟩ := asT_ok (ds := _) R r rfl
    subst e1
    exact ⟨_, ys, e, .inr ⟨z, good_d R g ⟨a, ys, rfl, z0, q⟩⟩⟩
  · split at g
    · rename_i ds hd
      obtain ⟨v, e, r⟩ := repSL1 r
      obtain ⟨a, ys, e1, z, q⟩ := asL_ok R r hd
      subst e1
      exact ⟨_, ys, e, .inl ⟨z, fun l hl => good_tup R q g hl⟩⟩
    · exact g.elim
  · exact g.elim
/-- isinstance(x, T), T a built-in class -/
def tyOf (L : Sto) : SV → Option String
  | .d .none => some "NoneType"
  | .d (.bool _) => some "bool"
  | .d (.int _) => some "int"
  | .d (.str _) => some "str"
  | .d (.list _) => some "list"
  | .d (.tuple _) => some "tuple"
  | .own n => match L[n]? with
    | some (.lst _) => some "list"
    | _ => none
  | _ => none
def isiB (t n : String) : Option Bool :=
  if n = "list" ∨ n = "tuple" ∨ n = "bool" ∨ n = "int" ∨ n = "str" then some (decide (t = n) || (decide (t = "bool") && decide (n = "int"))) else none
def cIsI (xs : List SV) (L : Sto) : RE := match xs with
  | [x, .ty n] => match tyOf L x with
    | some t => match isiB t n with
      | some b => okD (.bool b) L
      | none => .stuck
    | none => .stuck
  | _ => .stuck
theorem tyOf_ok {x : SV} {v : V} {t : String} (R : Rl k φ F H L) (r : RepS k φ F x v) (h : tyOf L x = some t) : TyX k.K H v (.type t) ∧ (t = "NoneType" ∨ t = "bool" ∨ t = "int" ∨ t = "str" ∨ t = "list" ∨ t = "tuple") := by
  unfold tyOf at h
  split at h <;> first | (cases h; done) | skip
  · cases h; cases (show v = _ from r); exact ⟨.base .non, by simp⟩
  · cases h; cases (show v = _ from r); exact ⟨.base (.bl _), by simp⟩
  · cases h; cases (show v = _ from r); exact ⟨.base (.int _), by simp⟩
  · cases h; cases (show v = _ from r); exact ⟨.base (.str _), by simp⟩
  · cases h
    obtain ⟨a, xs, e, z, _⟩ := r
    subst e
    exact ⟨.base (.lst (R.ex _ _ z)), by simp⟩
  · cases h
    obtain ⟨a, xs, e, z, _⟩ := r
    subst e
    refine ⟨?_, by simp⟩
    rcases sqt_ex R.ex z with (z | ⟨o, z⟩) | ⟨o, _, _, h1, h2, _⟩
    · exact .base (.tup z)
    · exact .fTuple z
    · exact .kTuple h1 h2
  · split at h
    · rename_i n _ ds e
      cases h
      obtain ⟨a, xs, e1, z, _⟩ := asW_ok (ds := ds) R r (by unfold asW; simp only [e])
      subst e1
      exact ⟨.base (.lst z), by simp⟩
    · cases h
theorem kit_ok (K : PySem.W.Frag) {t n : String} {b : Bool} (ht : t = "NoneType" ∨ t = "bool" ∨ t = "int" ∨ t = "str" ∨ t = "list" ∨ t = "tuple") (h : isiB t n = some b) : PySem.W.kitOne K (.type t) (.type n) = some b := by
  unfold isiB at h
  split at h
  · rename_i hn
    cases h
    rcases ht with rfl | rfl | rfl | rfl | rfl | rfl <;> rcases hn with rfl | rfl | rfl | rfl | rfl <;> rfl
  · cases h
theorem cl_isi : CallS X W (.builtin "isinstance") cIsI := by
  intro pins s σ H vs us Q I rv h
  obtain ⟨σ', φ, F, L, xs, R, r, g⟩ := h
  refine call_isi pins s σ H vs us Q I rv ?_
  unfold cIsI at g
  split at g
  · split at g
    · rename_i t ht
      split at g
      · rename_i b hb
        obtain ⟨v, w, e, r1, r2⟩ := repSL2 r
        obtain ⟨ty, ht⟩ := tyOf_ok R r1 ht
        cases (show w = _ from r2)
        exact ⟨v, _, _, _, b, e, .ty _, ty, kit_ok _ ht hb, good_d R g rfl⟩
      · exact g.elim
    · exact g.elim
  · exact g.elim
inductive RO where
  | ok (o : Option Int) (L : Sto)
  | exc (c : Str) (p : Pay) (L : Sto)
  | stuck
abbrev MOp := Rho → Sto → RO
def oNone : MOp := fun _ L => .ok none L
def oSome (m : ME) : MOp := fun ρ L => match m ρ L with
  | .ok (.sv (.d (.int i))) L1 => .ok (some i) L1
  | .ok _ _ => .stuck
  | .exc c p L1 => .exc c p L1
  | .stuck => .stuck
def GoodO (k : Kx) (W : WX) (σ : L2.St) (Q : Option Int → Hp → Prop) (φ : List Addr) (F : Hp) : RO → Prop
  | .ok o L' => ∀ φ' F' H', Lq φ F φ' F' → Rl k φ' F' H' L' → Q o H'
  | .exc c p L' => ∀ φ' F' H' cls d, Lq φ F φ' F' → Rl k φ' F' H' L' → ExcAt k F' H' c p cls d → W cls d σ H'
  | .stuck => False
def tO (k : Kx) (W : WX) (m : MOp) : TO := fun σ H Q => ∃ φ F ρ L, EnvOk k φ F ρ σ ∧ Rl k φ F H L ∧ GoodO k W σ Q φ F (m ρ L)
def XO (X : Cx) (W : WX) (e : Option Expr) (m : MOp) : Prop := PO X e (tO (kx X) W m)
theorem po_imp {e : Option Expr} {t t' : TO} (h : PO X e t) (hi : ∀ σ H Q, t' σ H Q → t σ H Q) : PO X e t' := ⟨fun pins s σ H Q I q => h.run pins s σ H Q I (hi σ H Q q)⟩
theorem xo_none : XO X W none oNone := po_imp po_none fun σ H Q ⟨φ, F, ρ, L, env, R, g⟩ => g φ F H (Lq.refl _ _) R
theorem xo_some {e : Expr} {m : ME} (h : XE X W e m) : XO X W (some e) (oSome m) := po_imp (po_some h) fun σ H Q ⟨φ, F, ρ, L, env, R, g⟩ => by
  refine ⟨φ, F, ρ, L, env, R, ?_⟩
  unfold oSome at g
  split at g
  · rename_i i L1 hm
    rw [hm]
    intro φ' F' H' v q R' r
    cases (show v = _ from r)
    exact ⟨i, rfl, g φ' F' H' q R'⟩
  · exact g.elim
  · rename_i c p L1 hm
    rw [hm]
    exact g
  · exact g.elim
def opSl (x : SV) (lo hi : Option Int) (L : Sto) : RE := match x with
  | .d (.str s) => if s.length ≤ sizeLine then okD (.str (cutS s lo hi)) L else .stuck
  | .d (.tuple ds) => okD (.tuple (ds.drop (HT.sIx ds.length 0 lo) |>.take (HT.sIx ds.length ds.length hi - HT.sIx ds.length 0 lo))) L
  | x => match asL L x with
    | some ds => .ok (.new (.lst (ds.drop (HT.sIx ds.length 0 lo) |>.take (HT.sIx ds.length ds.length hi - HT.sIx ds.length 0 lo)))) L
    | none => .stuck
def mSl (m : ME) (lo hi : MOp) : ME := bindS m fun x ρ L => match lo ρ L with
  | .ok l L1 => match hi ρ L1 with
    | .ok h L2 => opSl x l h L2
    | .exc c p L2 => .exc c p L2
    | .stuck => .stuck
  | .exc c p L1 => .exc c p L1
  | .stuck => .stuck
theorem repL_cut {ds : List PyData} {xs : List V} (r : RepL k F ds xs) (lo hi : Option Int) : RepL k F (ds.drop (HT.sIx ds.length 0 lo) |>.take (HT.sIx ds.length ds.length hi - HT.sIx ds.length 0 lo)) (cutV xs lo hi) := by
  unfold cutV
  rw [r.len]
  exact (r.drop _).take _
theorem xe_sl {e : Expr} {lo hi : Option Expr} {p2 pos : Pos} {m : ME} {ml mh : MOp} (he : XE X W e m) (hl : XO X W lo ml) (hh : XO X W hi mh) : XE X W (.Subscript e (.Slice lo hi none p2) pos) (mSl m ml mh) := by
  refine xe_of (pe_slice (sl_list.or (sl_tupA.or sl_str)) he hl hh) fun σ H Q ⟨φ, F, ρ, L, env, R, g⟩ => ?_
  refine tE_mono (good_bind env R g) fun v H1 ⟨φ1, F1, x, L1, q1, R1, r1, g1⟩ => ?_
  refine ⟨φ1, F1, ρ, L1, env.lq q1, R1, ?_⟩
  cases hlo : ml ρ L1 with
  | ok l L2 =>
    simp only [hlo] at g1
    intro φ2 F2 H2 q2 R2
    refine ⟨φ2, F2, ρ, L2, env.lq (q1.trans q2), R2, ?_⟩
    cases hhi : mh ρ L2 with
    | ok h L3 =>
      simp only [hhi] at g1
      intro φ3 F3 H3 q3 R3
      have r3 := repS_lq (q2.trans q3) _ _ r1
      have g3 := g1.lq (q2.trans q3)
      unfold opSl at g3
      split at g3
      · split at g3
        · rename_i hz
          exact .inr (.inr ⟨_, r3, hz, good_d R3 g3 rfl⟩)
        · exact g3.elim
      · rename_i ds
        obtain ⟨a, xs, e1, z0, z, q⟩ := asT_ok (ds := ds) R3 r3 rfl
        refine .inr (.inl ⟨a, xs, e1, z, fun hw => ?_, fun _ p hp => good_tup R3 (repL_cut q l h) g3 hp⟩)
        rw [q.len] at hw
        have e : (ds.drop (HT.sIx ds.length 0 l) |>.take (HT.sIx ds.length ds.length h - HT.sIx ds.length 0 l)) = ds := by
          rw [hw.1, hw.2, List.drop_zero, Nat.sub_zero, List.take_length]
        rw [e] at g3
        exact good_d R3 g3 ⟨a, xs, rfl, z0, q⟩
      · split at g3
        · rename_i ds hd
          obtain ⟨a, xs, e1, z, q⟩ := asL_ok R3 r3 hd
          exact .inl ⟨a, xs, e1, z, fun p hp => good_lst R3 (repL_cut q l h) g3 hp⟩
        · exact g3.elim
    | exc c p L3 => simp only [hhi] at g1; exact fun φ3 F3 H3 cls d q3 R3 x3 => g1 φ3 F3 H3 cls d (q2.trans q3) R3 x3
    | stuck => simp only [hhi] at g1; exact g1.elim
  | exc c p L2 => simp only [hlo] at g1; exact g1
  | stuck => simp only [hlo] at g1; exact g1.elim
end
end PD
namespace PD
open PySem L2
def GoodT (k : Kx) (W : WX) (σ : L2.St) (Q : Bool → Hp → Prop) (φ : List Addr) (F : Hp) : RE → Prop
  | .ok (.sv (.d (.bool b))) L' => ∀ φ' F' H', Lq φ F φ' F' → Rl k φ' F' H' L' → Q b H'
  | .exc c p L' => ∀ φ' F' H' cls d, Lq φ F φ' F' → Rl k φ' F' H' L' → ExcAt k F' H' c p cls d → W cls d σ H'
  | _ => False
def tT (k : Kx) (W : WX) (m : ME) : TT := fun σ H Q => ∃ φ F ρ L, EnvOk k φ F ρ σ ∧ Rl k φ F H L ∧ GoodT k W σ Q φ F (m ρ L)
def XT (X : Cx) (W : WX) (e : Expr) (m : ME) : Prop := PT X e (tT (kx X) W m)
def XW (X : Cx) (W : WX) (e : Expr) (m : ME) : Prop := PW X e (tT (kx X) W m)
section
variable {X : Cx} {W : WX} {k : Kx} {σ : L2.St} {Q Q' : VK} {φ φ' : List Addr} {F F' H H' : Hp} {ρ : Rho} {L : Sto}
theorem pt_imp {e : Expr} {t t' : TT} (h : PT X e t) (hi : ∀ σ H Q, t' σ H Q → t σ H Q) : PT X e t' := ⟨fun pins s σ H Q I q => h.run pins s σ H Q I (hi σ H Q q)⟩
theorem pw_imp {e : Expr} {t t' : TT} (h : PW X e t) (hi : ∀ σ H Q, t' σ H Q → t σ H Q) : PW X e t' := ⟨fun wh pins s σ H Q I q => h.run wh pins s σ H Q I (hi σ H Q q)⟩
theorem GoodT.toE {QT : Bool → Hp → Prop} {r : RE} (h : GoodT k W σ QT φ F r) : GoodE k W σ (fun v H1 => ∃ b, v = .bl b ∧ QT b H1) φ F r := by
  unfold GoodT at h
  split at h
  · intro φ' F' H' v a b r
    cases (show v = _ from r)
    exact ⟨_, rfl, h φ' F' H' a b⟩
  · exact h
  · exact h.elim
theorem GoodT.ofE {QT : Bool → Hp → Prop} {b : Bool} {L : Sto} (h : ∀ φ' F' H', Lq φ F φ' F' → Rl k φ' F' H' L → QT b H') : GoodT k W σ QT φ F (okD (.bool b) L) := h
theorem GoodT.lq {QT : Bool → Hp → Prop} {r : RE} (h : GoodT k W σ QT φ F r) (q : Lq φ F φ' F') : GoodT k W σ QT φ' F' r := by
  unfold GoodT at h
  split at h
  · exact fun φ2 F2 H2 a b => h φ2 F2 H2 (q.trans a) b
  · exact fun φ2 F2 H2 c d a b e => h φ2 F2 H2 c d (q.trans a) b e
  · exact h.elim
theorem tT_tE {m : ME} {QT : Bool → Hp → Prop} (h : tT k W m σ H QT) : tE k W m σ H (fun v H1 => ∃ b, v = .bl b ∧ QT b H1) := by
  obtain ⟨φ, F, ρ, L, env, R, g⟩ := h
  exact ⟨φ, F, ρ, L, env, R, g.toE⟩
theorem xt_cmp {a b : Expr} {op : CmpOp} {pos : Pos} {ma mb : ME} {f : SV → SV → Sto → RE} (ho : OpS X W (compareOp op) f) (ha : XE X W a ma) (hb : XE X W b mb) (hm : behindInMarks op b = false := by first | exact nomark _ | rfl) : XT X W (.Compare a [op] [b] pos) (bind2 ma mb f) :=
  pt_imp (pt_cmpR ho ha hb hm) fun σ H Q h => good_bind2 (tT_tE h)
theorem xt_val {e : Expr} {m : ME} (h : XE X W e m) (he : ∀ whole, isTrue e X.env whole = (do let v ← whole; standAt e.pos; holding [v] (truthy v)) := by intro _; rfl) : XT X W e m :=
  pt_imp (pt_val h he) fun σ H Q h => tT_tE h
def truOf (L : Sto) : SV → Option Bool
  | .d .none => some false
  | .d (.bool b) => some b
  | .d (.int i) => some (i != 0)
  | .d (.str s) => if s.length ≤ sizeLine then some ((s.length : Int) != 0) else none
  | .d (.tuple xs) => some (!xs.isEmpty)
  | x => match asL L x with
    | some xs => some (!xs.isEmpty)
    | none => none
theorem RepL.emp {ds : List PyData} {xs : List V} (r : RepL k F ds xs) : (!ds.isEmpty) = !xs.isEmpty := by
  have e := r.len
  cases ds <;> cases xs <;> first | rfl | simp at e
theorem truOf_ok {x : SV} {v : V} {b : Bool} (R : Rl k φ F H L) (r : RepS k φ F x v) (h : truOf L x = some b) : TruV k.K v H b := by
  unfold truOf at h
  split at h
  · cases h; cases (show v = _ from r); rfl
  · cases h; cases (show v = _ from r); rfl
  · cases h; cases (show v = _ from r); rfl
  · split at h
    · rename_i hz
      cases h; cases (show v = _ from r); exact ⟨hz, rfl⟩
    · cases h
  · cases h
    obtain ⟨a, xs, e, _, z, q⟩ := asT_ok (ds := _) R r rfl
    subst e
    exact .inr (.inl ⟨xs, z, q.emp⟩)
  · split at h
    · rename_i ds hd
      cases h
      obtain ⟨a, xs, e, z, q⟩ := asL_ok R r hd
      subst e
      exact .inl ⟨xs, z, q.emp⟩
    · cases h
def mTru (m : ME) : ME := bindS m fun x _ L => match truOf L x with
  | some b => okD (.bool b) L
  | none => .stuck
theorem good_bindT {m : ME} {f : SV → ME} {QT : Bool → Hp → Prop} (env : EnvOk k φ F ρ σ) (R : Rl k φ F H L) (h : GoodT k W σ QT φ F (bindS m f ρ L)) :
    tE k W m σ H fun v H1 => ∃ φ' F' x L1, Lq φ F φ' F' ∧ Rl k φ' F' H1 L1 ∧ RepS k φ' F' x v ∧ GoodT k W σ QT φ' F' (f x ρ L1) := by
  refine ⟨φ, F, ρ, L, env, R, ?_⟩
  unfold bindS at h
  cases hm : m ρ L with
  | ok r L1 =>
    rw [hm] at h
    cases ht : toS r with
    | none => simp only [ht] at h; exact h.elim
    | some x =>
      simp only [ht] at h
      cases r with
      | sv y =>
        cases ht
        exact fun φ' F' H' v a b c => ⟨φ', F', _, L1, a, b, c, h.lq a⟩
      | new o =>
        intro φ' F' H' a q R' n
        obtain ⟨F2, q2, R2, r2⟩ := R'.freeze n ht
        exact ⟨φ', F2, x, L1, q.trans q2, R2, r2, h.lq (q.trans q2)⟩
  | exc c p L1 => rw [hm] at h; exact h
  | stuck => rw [hm] at h; exact h
theorem xt_tru {e : Expr} {m : ME} (h : XE X W e m) (he : ∀ whole, isTrue e X.env whole = (do let v ← whole; standAt e.pos; holding [v] (truthy v)) := by intro _; rfl) : XT X W e (mTru m) :=
  pt_imp (pt_truth h he) fun σ H Q ⟨φ, F, ρ, L, env, R, g⟩ => tE_mono (good_bindT env R g) fun v H1 ⟨φ1, F1, x, L1, q1, R1, r1, g1⟩ => by
    split at g1
    · rename_i b hb
      exact ⟨b, truOf_ok R1 r1 hb, g1 φ1 F1 H1 (Lq.refl _ _) R1⟩
    · exact g1.elim
def mNot (m : ME) : ME := bindS m fun x _ L => match x with
  | .d (.bool b) => okD (.bool (!b)) L
  | _ => .stuck
def mAnd (m n : ME) : ME := bindS m fun x => match x with
  | .d (.bool true) => n
  | .d (.bool false) => mC (.d (.bool false))
  | _ => fun _ _ => .stuck
def mOr (m n : ME) : ME := bindS m fun x => match x with
  | .d (.bool false) => n
  | .d (.bool true) => mC (.d (.bool true))
  | _ => fun _ _ => .stuck
def mIf (t m n : ME) : ME := bindS t fun x => match x with
  | .d (.bool true) => m
  | .d (.bool false) => n
  | _ => fun _ _ => .stuck
/-- a test's way in -/
theorem tE_tT {m : ME} {QT : Bool → Hp → Prop} (h : tE k W m σ H fun v H1 => ∃ b, v = .bl b ∧ QT b H1) (hb : ∀ ρ L L' r, m ρ L = .ok r L' → ∃ b, r = .sv (.d (.bool b))) : tT k W m σ H QT := by
  obtain ⟨φ, F, ρ, L, env, R, g⟩ := h
  refine ⟨φ, F, ρ, L, env, R, ?_⟩
  cases hm : m ρ L with
  | ok r L1 =>
    obtain ⟨b, e⟩ := hb _ _ _ _ hm
    subst e
    rw [hm] at g
    intro φ' F' H' q R'
    obtain ⟨b', e, q'⟩ := g φ' F' H' (.bl b) q R' rfl
    cases e
    exact q'
  | exc c p L1 => rw [hm] at g; exact g
  | stuck => rw [hm] at g; exact g.elim
/-- the test m goes first: what follows is by its answer -/
theorem good_test {m : ME} {f : SV → ME} {P : RE → Prop} {QT : Bool → Hp → Prop} (env : EnvOk k φ F ρ σ) (R : Rl k φ F H L) (h : P (bindS m f ρ L)) (hst : ¬ P .stuck)
    (hx : ∀ c p L1, P (.exc c p L1) → ∀ φ' F' H' cls d, Lq φ F φ' F' → Rl k φ' F' H' L1 → ExcAt k F' H' c p cls d → W cls d σ H')
    (hq : ∀ b L1, P (f (.d (.bool b)) ρ L1) → ∀ φ' F' H', Lq φ F φ' F' → Rl k φ' F' H' L1 → QT b H')
    (hn : ∀ x L1, (∀ b, x ≠ .d (.bool b)) → ¬ P (f x ρ L1)) : tT k W m σ H QT := by
  refine ⟨φ, F, ρ, L, env, R, ?_⟩
  unfold bindS at h
  cases hm : m ρ L with
  | ok r L1 =>
    rw [hm] at h
    cases ht : toS r with
    | none => simp only [ht] at h; exact (hst h).elim
    | some x =>
      simp only [ht] at h
      by_cases hb : ∃ b, x = .d (.bool b)
      · obtain ⟨b, e⟩ := hb
        subst e
        cases r with
        | sv y => cases ht; exact hq b L1 h
        | new o => cases o <;> cases ht
      · exact (hn x L1 (fun b e => hb ⟨b, e⟩) h).elim
  | exc c p L1 => rw [hm] at h; exact hx c p L1 h
  | stuck => rw [hm] at h; exact (hst h).elim
theorem xt_not {a : Expr} {pos : Pos} {m : ME} (h : XT X W a m) : XT X W (.UnaryOp .Not a pos) (mNot m) :=
  pt_imp (pt_not h) fun σ H Q ⟨φ, F, ρ, L, env, R, g⟩ => good_test (P := GoodT (kx X) W σ Q φ F) env R g id (fun _ _ _ h => h) (fun b L1 h => h) fun x L1 hx h => by
    split at h
    · rename_i b
      exact hx b rfl
    · exact h
theorem xw_and1 {a : Expr} {pos : Pos} {m : ME} (h : XT X W a m) : XW X W (.BoolOp .And [a] pos) m := pw_and1 h
theorem xw_or1 {a : Expr} {pos : Pos} {m : ME} (h : XT X W a m) : XW X W (.BoolOp .Or [a] pos) m := pw_or1 h
theorem xw_and {a b : Expr} {rest : List Expr} {pos : Pos} {m n : ME} (h : XT X W a m) (h2 : XW X W (.BoolOp .And (b :: rest) pos) n) : XW X W (.BoolOp .And (a :: b :: rest) pos) (mAnd m n) :=
  pw_imp (pw_and h h2) fun σ H Q ⟨φ, F, ρ, L, env, R, g⟩ => good_test (P := GoodT (kx X) W σ Q φ F) env R g id (fun _ _ _ h => h) (fun b L1 h φ' F' H' q R' => by
      cases b with
      | true => exact ⟨φ', F', ρ, L1, env.lq q, R', GoodT.lq h q⟩
      | false => exact h φ' F' H' q R') fun x L1 hx h => by
    split at h
    · exact hx _ rfl
    · exact hx _ rfl
    · exact h
theorem xw_or {a b : Expr} {rest : List Expr} {pos : Pos} {m n : ME} (h : XT X W a m) (h2 : XW X W (.BoolOp .Or (b :: rest) pos) n) : XW X W (.BoolOp .Or (a :: b :: rest) pos) (mOr m n) :=
  pw_imp (pw_or h h2) fun σ H Q ⟨φ, F, ρ, L, env, R, g⟩ => good_test (P := GoodT (kx X) W σ Q φ F) env R g id (fun _ _ _ h => h) (fun b L1 h φ' F' H' q R' => by
      cases b with
      | false => exact ⟨φ', F', ρ, L1, env.lq q, R', GoodT.lq h q⟩
      | true => exact h φ' F' H' q R') fun x L1 hx h => by
    split at h
    · exact hx _ rfl
    · exact hx _ rfl
    · exact h
theorem xt_w {e : Expr} {m : ME} (h : XW X W e m) : XT X W e m := h.pt
theorem xe_one {op : BoolOp} {a : Expr} {pos : Pos} {m : ME} (h : XE X W a m) : XE X W (.BoolOp op [a] pos) m := pe_one h
theorem good_vt {m : ME} {f : SV → ME} {Q : VK} {R2 : Bool → Hp → Prop} (env : EnvOk k φ F ρ σ) (R : Rl k φ F H L) (h : GoodE k W σ Q φ F (bindS m f ρ L))
    (hq : ∀ b φ' F' L1 H', Lq φ F φ' F' → Rl k φ' F' H' L1 → GoodE k W σ Q φ' F' (f (.d (.bool b)) ρ L1) → R2 b H') (hn : ∀ x L1 φ' F', (∀ b, x ≠ .d (.bool b)) → ¬ GoodE k W σ Q φ' F' (f x ρ L1)) : tE k W m σ H fun v H1 => ∃ b, v = .bl b ∧ R2 b H1 :=
  tE_mono (good_bind env R h) fun v H1 ⟨φ1, F1, x, L1, q1, R1, r1, g1⟩ => by
    by_cases hb : ∃ b, x = .d (.bool b)
    · obtain ⟨b, e⟩ := hb
      subst e
      exact ⟨b, r1, hq b φ1 F1 L1 H1 q1 R1 g1⟩
    · exact (hn x L1 φ1 F1 (fun b e => hb ⟨b, e⟩) g1).elim
theorem xe_and {a b : Expr} {rest : List Expr} {pos : Pos} {m n : ME} (h : XE X W a m) (h2 : XE X W (.BoolOp .And (b :: rest) pos) n) : XE X W (.BoolOp .And (a :: b :: rest) pos) (mAnd m n) :=
  xe_of (pe_and h h2) fun σ H Q ⟨φ, F, ρ, L, env, R, g⟩ => good_vt env R g (fun b φ' F' L1 H' q R' h => by
      cases b with
      | true => exact ⟨φ', F', ρ, L1, env.lq q, R', h⟩
      | false => exact h φ' F' H' (.bl false) (Lq.refl _ _) R' rfl) fun x L1 φ' F' hx h => by
    split at h
    · exact hx _ rfl
    · exact hx _ rfl
    · exact h
theorem xe_or {a b : Expr} {rest : List Expr} {pos : Pos} {m n : ME} (h : XE X W a m) (h2 : XE X W (.BoolOp .Or (b :: rest) pos) n) : XE X W (.BoolOp .Or (a :: b :: rest) pos) (mOr m n) :=
  xe_of (pe_or h h2) fun σ H Q ⟨φ, F, ρ, L, env, R, g⟩ => good_vt env R g (fun b φ' F' L1 H' q R' h => by
      cases b with
      | false => exact ⟨φ', F', ρ, L1, env.lq q, R', h⟩
      | true => exact h φ' F' H' (.bl true) (Lq.refl _ _) R' rfl) fun x L1 φ' F' hx h => by
    split at h
    · exact hx _ rfl
    · exact hx _ rfl
    · exact h
theorem xe_not {a : Expr} {pos : Pos} {m : ME} (h : XE X W a m) : XE X W (.UnaryOp .Not a pos) (mNot m) :=
  xe_of (pe_not h) fun σ H Q ⟨φ, F, ρ, L, env, R, g⟩ => good_vt env R g (fun b φ' F' L1 H' q R' h => good_d R' h rfl) fun x L1 φ' F' hx h => by
    split at h
    · exact hx _ rfl
    · exact h
theorem xe_ifExp {c a b : Expr} {pos : Pos} {t m n : ME} (hc : XT X W c t) (ha : XE X W a m) (hb : XE X W b n) : XE X W (.IfExp c a b pos) (mIf t m n) :=
  xe_of (pe_ifExp hc ha hb) fun σ H Q ⟨φ, F, ρ, L, env, R, g⟩ => good_test (P := GoodE (kx X) W σ Q φ F) env R g id (fun _ _ _ h => h) (fun b L1 h φ' F' H' q R' => by
      cases b with
      | true => exact ⟨φ', F', ρ, L1, env.lq q, R', GoodE.lq h q⟩
      | false => exact ⟨φ', F', ρ, L1, env.lq q, R', GoodE.lq h q⟩) fun x L1 hx h => by
    split at h
    · exact hx _ rfl
    · exact hx _ rfl
    · exact h
def GoodS (k : Kx) (W : WX) (D : Ends) (φ : List Addr) (F : Hp) : RS → Prop
  | .nx ρ L' => ∀ φ' F' σ' H', Lq φ F φ' F' → EnvOk k φ' F' ρ σ' → Rl k φ' F' H' L' → D.nx σ' H'
  | .bk ρ L' => ∀ φ' F' σ' H', Lq φ F φ' F' → EnvOk k φ' F' ρ σ' → Rl k φ' F' H' L' → D.bk σ' H'
  | .ct ρ L' => ∀ φ' F' σ' H', Lq φ F φ' F' → EnvOk k φ' F' ρ σ' → Rl k φ' F' H' L' → D.ct σ' H'
  | .rt (.sv x) L' => ∀ φ' F' H' v, Lq φ F φ' F' → Rl k φ' F' H' L' → RepS k φ' F' x v → D.rt v H'
  | .rt (.new o) L' => ∀ φ' F' H' a, Lq φ F φ' F' → Rl k φ' F' H' L' → NewAt k φ' F' H' a o → D.rt (.ref a) H'
  | .exc c p ρ L' => ∀ φ' F' σ' H' cls d, Lq φ F φ' F' → EnvOk k φ' F' ρ σ' → Rl k φ' F' H' L' → ExcAt k F' H' c p cls d → W cls d σ' H'
  | .stuck => False
def tS (k : Kx) (W : WX) (m : MS) : TS := fun D σ H => ∃ φ F ρ L, EnvOk k φ F ρ σ ∧ Rl k φ F H L ∧ GoodS k W D φ F (m ρ L)
def XS (X : Cx) (W : WX) (st : Stmt) (m : MS) : Prop := PS X st (tS (kx X) W m)
def XSs (X : Cx) (W : WX) (st : List Stmt) (m : MS) : Prop := PSs X st (tS (kx X) W m)
theorem ps_imp {st : Stmt} {t t' : TS} (h : PS X st t) (hi : ∀ D σ H, t' D σ H → t D σ H) : PS X st t' := ⟨fun pins s σ H D I q => h.run pins s σ H D I (hi D σ H q)⟩
theorem pss_imp {st : List Stmt} {t t' : TS} (h : PSs X st t) (hi : ∀ D σ H, t' D σ H → t D σ H) : PSs X st t' := ⟨fun pins s σ H D I q => h.run pins s σ H D I (hi D σ H q)⟩
theorem GoodS.lq {D : Ends} {r : RS} (h : GoodS k W D φ F r) (q : Lq φ F φ' F') : GoodS k W D φ' F' r := by
  cases r with
  | nx ρ L' => exact fun φ' F' σ' H' a => h φ' F' σ' H' (q.trans a)
  | bk ρ L' => exact fun φ' F' σ' H' a => h φ' F' σ' H' (q.trans a)
  | ct ρ L' => exact fun φ' F' σ' H' a => h φ' F' σ' H' (q.trans a)
  | rt r L' =>
    cases r with
    | sv x => exact fun φ' F' H' v a => h φ' F' H' v (q.trans a)
    | new o => exact fun φ' F' H' v a => h φ' F' H' v (q.trans a)
  | exc c p ρ L' => exact fun φ' F' σ' H' cls d a => h φ' F' σ' H' cls d (q.trans a)
  | stuck => exact h
def sNx : MS := fun ρ L => .nx ρ L
def sSeq (a b : MS) : MS := fun ρ L => match a ρ L with
  | .nx ρ1 L1 => b ρ1 L1
  | r => r
theorem GoodS.seq {a b : MS} {D : Ends} (g : GoodS k W D φ F (sSeq a b ρ L)) : GoodS k W { D with nx := tS k W b D } φ F (a ρ L) := by
  unfold sSeq at g
  cases ha : a ρ L with
  | nx ρ1 L1 =>
    rw [ha] at g
    exact fun φ' F' σ' H' q e R => ⟨φ', F', ρ1, L1, e, R, GoodS.lq g q⟩
  | bk ρ1 L1 => rw [ha] at g; exact g
  | ct ρ1 L1 => rw [ha] at g; exact g
  | rt r L1 => rw [ha] at g; cases r <;> exact g
  | exc c p ρ1 L1 => rw [ha] at g; exact g
  | stuck => rw [ha] at g; exact g
theorem xss_nil : XSs X W [] sNx := pss_imp pss_nil fun D σ H ⟨φ, F, ρ, L, env, R, g⟩ => g φ F σ H (Lq.refl _ _) env R
theorem xss_cons {st : Stmt} {rest : List Stmt} {a b : MS} (h1 : XS X W st a) (h2 : XSs X W rest b) : XSs X W (st :: rest) (sSeq a b) :=
  pss_imp (pss_cons h1 h2) fun D σ H ⟨φ, F, ρ, L, env, R, g⟩ => ⟨φ, F, ρ, L, env, R, g.seq⟩
theorem xss_one {st : Stmt} {a : MS} (h1 : XS X W st a) : XSs X W [st] a := pss_one h1
def sBk : MS := fun ρ L => .bk ρ L
def sCt : MS := fun ρ L => .ct ρ L
theorem xs_pass {pos : Pos} : XS X W (.Pass pos) sNx := ps_imp ps_pass fun D σ H ⟨φ, F, ρ, L, env, R, g⟩ => g φ F σ H (Lq.refl _ _) env R
theorem xs_break {pos : Pos} : XS X W (.Break pos) sBk := ps_imp ps_break fun D σ H ⟨φ, F, ρ, L, env, R, g⟩ => g φ F σ H (Lq.refl _ _) env R
theorem xs_continue {pos : Pos} : XS X W (.Continue pos) sCt := ps_imp ps_continue fun D σ H ⟨φ, F, ρ, L, env, R, g⟩ => g φ F σ H (Lq.refl _ _) env R
theorem xs_doc {x : Str} {j : Nat} {pos pos' : Pos} : XS X W (.Expr (.Constant (.str x) j pos) pos') sNx := ps_imp ps_doc fun D σ H ⟨φ, F, ρ, L, env, R, g⟩ => g φ F σ H (Lq.refl _ _) env R
/-- a value dropped -/
def sDrop (m : ME) : MS := fun ρ L => match m ρ L with
  | .ok _ L1 => .nx ρ L1
  | .exc c p L1 => .exc c p ρ L1
  | .stuck => .stuck
theorem good_drop {m : ME} {D : Ends} (env : EnvOk k φ F ρ σ) (g : GoodS k W D φ F (sDrop m ρ L)) : GoodE k W σ (fun _ H1 => D.nx σ H1) φ F (m ρ L) := by
  unfold sDrop at g
  cases hm : m ρ L with
  | ok r L1 =>
    rw [hm] at g
    cases r with
    | sv x => exact fun φ' F' H' v q R' _ => g φ' F' σ H' q (env.lq q) R'
    | new o => exact fun φ' F' H' v q R' _ => g φ' F' σ H' q (env.lq q) R'
  | exc c p L1 => rw [hm] at g; exact fun φ' F' H' cls d q R' x => g φ' F' σ H' cls d q (env.lq q) R' x
  | stuck => rw [hm] at g; exact g
theorem xs_expr {e : Expr} {m : ME} {pos : Pos} (h : XE X W e m) (hs : swapsWith e none pos.line X.env = pure false := by rfl) : XS X W (.Expr e pos) (sDrop m) :=
  ps_imp (ps_expr h hs) fun D σ H ⟨φ, F, ρ, L, env, R, g⟩ => ⟨φ, F, ρ, L, env, R, good_drop env g⟩
/-- return -/
def sRet (m : ME) : MS := fun ρ L => match m ρ L with
  | .ok r L1 => .rt r L1
  | .exc c p L1 => .exc c p ρ L1
  | .stuck => .stuck
theorem xs_ret {e : Expr} {m : ME} {pos : Pos} (h : XE X W e m) : XS X W (.Return (some e) pos) (sRet m) :=
  ps_imp (ps_ret h) fun D σ H ⟨φ, F, ρ, L, env, R, g⟩ => ⟨φ, F, ρ, L, env, R, by
    unfold sRet at g
    cases hm : m ρ L with
    | ok r L1 => rw [hm] at g; cases r <;> exact g
    | exc c p L1 => rw [hm] at g; exact fun φ' F' H' cls d q R' x => g φ' F' σ H' cls d q (env.lq q) R' x
    | stuck => rw [hm] at g; exact g⟩
def sRetN : MS := fun _ L => .rt (.sv (.d .none)) L
theorem xs_retN {pos : Pos} : XS X W (.Return none pos) sRetN := ps_imp ps_retN fun D σ H ⟨φ, F, ρ, L, env, R, g⟩ => g φ F H .non (Lq.refl _ _) R rfl
/-- if -/
def sIf (t : ME) (a b : MS) : MS := fun ρ L => match t ρ L with
  | .ok (.sv (.d (.bool true))) L1 => a ρ L1
  | .ok (.sv (.d (.bool false))) L1 => b ρ L1
  | .ok _ _ => .stuck
  | .exc c p L1 => .exc c p ρ L1
  | .stuck => .stuck
theorem xs_if {c : Expr} {a b : List Stmt} {t : ME} {ma mb : MS} {pos : Pos} (hc : XT X W c t) (ha : XSs X W a ma) (hb : XSs X W b mb) : XS X W (.If c a b pos) (sIf t ma mb) :=
  ps_imp (ps_if hc ha hb) fun D σ H ⟨φ, F, ρ, L, env, R, g⟩ => ⟨φ, F, ρ, L, env, R, by
    unfold sIf at g
    split at g
    · rename_i L1 hm
      rw [hm]
      exact fun φ' F' H' q R' => ⟨φ', F', ρ, L1, env.lq q, R', GoodS.lq g q⟩
    · rename_i L1 hm
      rw [hm]
      exact fun φ' F' H' q R' => ⟨φ', F', ρ, L1, env.lq q, R', GoodS.lq g q⟩
    · exact g.elim
    · rename_i c p L1 hm
      rw [hm]
      exact fun φ' F' H' cls d q R' x => g φ' F' σ H' cls d q (env.lq q) R' x
    · exact g.elim⟩
/-- name = e -/
def XAs (X : Cx) (W : WX) (st : Stmt) (i : Nat) (m : ME) : Prop := PS X st (tAsg (tE (kx X) W m) (gName i))
theorem xas {i : Nat} {x : Str} {e : Expr} {m : ME} {pos pos' : Pos} (hN : X.N.Nodup) (h : XE X W e m) (hi : X.N[i]? = some x := by rfl) (hx : Loc X.env.scope x := by first | exact Or.inl rfl | exact Or.inr rfl) (hs : swapsWith e (some (.Name x pos')) pos.line X.env = pure false := by rfl)
    (hf : X.fn x = true ∨ X.env.scope.names.lookup x = some .local := by first | exact .inl rfl | exact .inr rfl) : XAs X W (.Assign [.Name x pos'] e pos) i m := ps_set hN hi hx h hs hf
theorem EnvOk.set {i : Nat} {x : SV} {v : V} (h : EnvOk k φ F ρ σ) (r : RepS k φ F x v) : EnvOk k φ F (ρ.set i (some x)) (σ.set i (some v)) := by
  refine ⟨by rw [List.length_set, List.length_set]; exact h.len, fun j y e => ?_⟩
  by_cases hj : i = j
  · subst hj
    have hi : i < ρ.length := by
      have := (List.getElem?_eq_some_iff.mp e).1
      rwa [List.length_set] at this
    rw [List.getElem?_set_self hi] at e
    cases e
    exact ⟨v, by rw [List.getElem?_set_self (by rw [← h.len]; exact hi)], r⟩
  · rw [List.getElem?_set_ne hj] at e
    obtain ⟨w, h1, h2⟩ := h.at_ j y e
    exact ⟨w, by rw [List.getElem?_set_ne hj]; exact h1, h2⟩
def sAsg (i : Nat) (m : ME) : MS := fun ρ L => match m ρ L with
  | .ok r L1 => match toS r with
    | some x => .nx (ρ.set i (some x)) L1
    | none => .stuck
  | .exc c p L1 => .exc c p ρ L1
  | .stuck => .stuck
theorem xs_asg {st : Stmt} {i : Nat} {m : ME} (h : XAs X W st i m) : XS X W st (sAsg i m) := ps_imp h fun D σ H ⟨φ, F, ρ, L, env, R, g⟩ => ⟨φ, F, ρ, L, env, R, by
  unfold sAsg at g
  cases hm : m ρ L with
  | ok r L1 =>
    rw [hm] at g
    cases ht : toS r with
    | none => simp only [ht] at g; exact g.elim
    | some x =>
      simp only [ht] at g
      cases r with
      | sv y => cases ht; exact fun φ' F' H' v q R' r' => g φ' F' _ H' q ((env.lq q).set r') R'
      | new o =>
        intro φ' F' H' a q R' n
        obtain ⟨F2, q2, R2, r2⟩ := R'.freeze n ht
        exact g φ' F2 _ H' (q.trans q2) ((env.lq (q.trans q2)).set r2) R2
  | exc c p L1 => rw [hm] at g; exact fun φ' F' H' cls d q R' x => g φ' F' σ H' cls d q (env.lq q) R' x
  | stuck => rw [hm] at g; exact g⟩
/-- name = e, a fresh object is owned -/
def sOwn (i : Nat) (m : ME) : MS := fun ρ L => match m ρ L with
  | .ok (.new o) L1 => .nx (ρ.set i (some (.own L1.length))) (L1 ++ [o])
  | .ok (.sv x) L1 => .nx (ρ.set i (some x)) L1
  | .exc c p L1 => .exc c p ρ L1
  | .stuck => .stuck
theorem Rl.push {o : MO} {a : Addr} (R : Rl k φ F H L) (n : NewAt k φ F H a o) : Rl k (φ ++ [a]) F H (L ++ [o]) ∧ Lq φ F (φ ++ [a]) F := by
  have q : Lq φ F (φ ++ [a]) F := ⟨fun m b e => by rw [List.getElem?_append_left (List.getElem?_eq_some_iff.mp e).1]; exact e, fun _ _ e => e⟩
  have hna : a ∉ φ ∧ OwnAt k φ F H a o ∧ H a ≠ none ∧ F a = none := by
    cases o with
    | lst ds =>
      obtain ⟨n1, n2, xs, n3, n4⟩ := n
      exact ⟨n1, ⟨n2, xs, n3, n4⟩, by rw [n3]; simp, n2⟩
    | dead => exact n.elim
  obtain ⟨n1, n2, n3, n4⟩ := hna
  refine ⟨⟨by rw [List.length_append, List.length_append, R.len] <;> rfl, ?_, R.ex, fun b hb => ?_, fun m u b e1 e2 => ?_⟩, q⟩
  · exact List.nodup_append.mpr ⟨R.nd, List.nodup_cons.mpr ⟨by simp, List.nodup_nil⟩, fun b hb c hc => by rw [List.mem_singleton.mp hc]; rintro rfl; exact n1 hb⟩
  · rcases List.mem_append.mp hb with h | h
    · exact R.there b h
    · rw [List.mem_singleton.mp h]; exact n3
  · by_cases hm : m < L.length
    · rw [List.getElem?_append_left hm] at e1
      rw [List.getElem?_append_left (by rw [R.len]; exact hm)] at e2
      have h := R.own m u b e1 e2
      by_cases hd : u = .dead
      · subst hd; trivial
      · exact ownAt_lq q h (h.free hd) fun _ e => e
    · have hm2 : m = L.length := by
        have := (List.getElem?_eq_some_iff.mp e1).1
        rw [List.length_append] at this
        simp at this
        omega
      subst hm2
      rw [List.getElem?_append_right (Nat.le_refl _)] at e1
      rw [← R.len, List.getElem?_append_right (Nat.le_refl _)] at e2
      simp at e1 e2
      subst e1 e2
      exact ownAt_lq q n2 n4 fun _ e => e
theorem xs_own {st : Stmt} {i : Nat} {m : ME} (h : XAs X W st i m) : XS X W st (sOwn i m) := ps_imp h fun D σ H ⟨φ, F, ρ, L, env, R, g⟩ => ⟨φ, F, ρ, L, env, R, by
  unfold sOwn at g
  cases hm : m ρ L with
  | ok r L1 =>
    rw [hm] at g
    cases r with
    | sv y => exact fun φ' F' H' v q R' r' => g φ' F' _ H' q ((env.lq q).set r') R'
    | new o =>
      intro φ' F' H' a q R' n
      obtain ⟨R2, q2⟩ := R'.push n
      refine g _ F' _ H' (q.trans q2) ((env.lq (q.trans q2)).set ⟨a, rfl, ?_⟩) R2
      rw [← R'.len, List.getElem?_append_right (Nat.le_refl _)]
      simp
  | exc c p L1 => rw [hm] at g; exact fun φ' F' H' cls d q R' x => g φ' F' σ H' cls d q (env.lq q) R' x
  | stuck => rw [hm] at g; exact g⟩
/-- name op= e (ints) -/
def sAug (i : Nat) (m : ME) (f : Int → Int → Int) : MS := fun ρ L => match ρ[i]? with
  | some (some (.d (.int a))) => match m ρ L with
    | .ok (.sv (.d (.int b))) L1 => .nx (ρ.set i (some (.d (.int (f a b))))) L1
    | .ok _ _ => .stuck
    | .exc c p L1 => .exc c p ρ L1
    | .stuck => .stuck
  | _ => .stuck
theorem xs_aug {i : Nat} {x : Str} {e : Expr} {m : ME} {op : Operator} {f : Int → Int → Int} {pos pos' : Pos} (hN : X.N.Nodup) (ho : PIp X op (ipI f)) (h : XE X W e m) (hi : X.N[i]? = some x := by rfl) (hx : Loc X.env.scope x := by first | exact Or.inl rfl | exact Or.inr rfl)
    (hf : X.fn x = true ∨ X.env.scope.names.lookup x = some .local := by first | exact .inl rfl | exact .inr rfl) : XS X W (.AugAssign (.Name x pos') op e pos) (sAug i m f) :=
  ps_imp (ps_aug hN hi hx h ho hf) fun D σ H ⟨φ, F, ρ, L, env, R, g⟩ => by
    unfold sAug at g
    split at g
    · rename_i a ea
      obtain ⟨v, hv, rv⟩ := env.at_ _ _ ea
      cases (show v = _ from rv)
      refine ⟨_, hv, φ, F, ρ, L, env, R, ?_⟩
      split at g
      · rename_i b L1 hm
        rw [hm]
        intro φ' F' H' w q R' r
        cases (show w = _ from r)
        exact ⟨a, b, rfl, rfl, g φ' F' _ H' q ((env.lq q).set rfl) R'⟩
      · exact g.elim
      · rename_i c p L1 hm
        rw [hm]
        exact fun φ' F' H' cls d q R' x => g φ' F' σ H' cls d q (env.lq q) R' x
      · exact g.elim
    · exact g.elim
end
end PD
namespace PD
open PySem L2
noncomputable def guardOk (g : Option (Nat × List PyData)) (L : Sto) : Bool := match g with
  | none => true
  | some (n, ds) => @decide (L[n]? = some (.lst ds)) (Classical.propDecidable _)
theorem guardOk_some {n : Nat} {ds : List PyData} {L : Sto} : guardOk (some (n, ds)) L = true ↔ L[n]? = some (.lst ds) := by
  unfold guardOk
  simp
section
variable {X : Cx} {W : WX} {k : Kx} {σ : L2.St} {Q Q' : VK} {φ φ' : List Addr} {F F' H H' : Hp} {ρ : Rho} {L : Sto}
def isTy (T : String) (L : Sto) (x : SV) : Bool := if T = "list" then (asL L x).isSome else if T = "str" then (match x with
  | .d (.str _) => true
  | _ => false) else false
theorem isTy_ok {T : String} {x : SV} {v : V} (R : Rl k φ F H L) (r : RepS k φ F x v) (h : isTy T L x = true) : tyV k.K T v H := by
  unfold isTy at h
  split at h
  · rename_i e
    subst e
    obtain ⟨ds, hd⟩ := Option.isSome_iff_exists.mp h
    obtain ⟨a, xs, e, z, q⟩ := asL_ok R r hd
    subst e
    exact .inl ⟨rfl, xs, z⟩
  · split at h
    · rename_i e
      subst e
      split at h
      · cases (show v = _ from r); rfl
      · cases h
    · cases h
def mMeth (T : String) (f : SV → List SV → Sto → RE) (m : ME) (ms : List ME) : ME := bindS m fun x ρ L => if isTy T L x = true then bindA ms (fun xs _ L' => f x xs L') ρ L else .stuck
def rOfM (k : Kx) (W : WX) (f : SV → List SV → Sto → RE) : V → List V → Hp → VK → Prop := fun v vs H Q => ∃ σ φ F L x xs, Rl k φ F H L ∧ RepS k φ F x v ∧ RepSL k φ F xs vs ∧ GoodE k W σ Q φ F (f x xs L)
def MethS (X : Cx) (W : WX) (id : String) (f : SV → List SV → Sto → RE) : Prop := MtR X id (rOfM (kx X) W f)
theorem xe_bm {T id : String} {name : Str} {o e : Expr} {es : List Expr} {apos cpos : Pos} {m : ME} {ms : List ME} {f : SV → List SV → Sto → RE} (pa : PlainAttrs T) (slot : Slot T name id) (hty : typeOf (.builtin id) = pure (.type "method_descriptor")) (hm : MethS X W id f) (ho : XE X W o m) (ha : XA X W (e :: es) ms)
    (hbase : attributeBase o name X.env (eval o X.env) = eval o X.env := by rfl)
    (hfew : ((backTo cpos (starEach (e :: es) X.env)).all (fun x => !x.1) && (backToKw cpos (keywordEach [] X.env)).all (fun x => x.1.isSome)
      && decide ((e :: es).length + ([] : List Keyword).length + (if ([] : List Keyword).isEmpty then 0 else 1) < 30)) = true := by rfl)
    (hline : (apos.endLine == cpos.line) = true := by rfl) (hs : starEach (e :: es) X.env = (false, eval e X.env) :: starEach es X.env := by rfl) (hplain : (backTo cpos (starEach es X.env)).any (·.1) = false := by rfl) :
    XE X W (.Call (.Attribute o name apos) (e :: es) [] cpos) (mMeth T f m ms) := by
  refine xe_of (pe_bm pa slot hty hm ho ha hbase hfew hline hs hplain) fun σ H Q ⟨φ, F, ρ, L, env, R, g⟩ => ?_
  refine tE_mono (good_bind env R g) fun v H1 ⟨φ1, F1, x, L1, q1, R1, r1, g1⟩ => ?_
  split at g1
  · rename_i hT
    refine ⟨isTy_ok R1 r1 hT, ?_⟩
    have hA : tA (kx X) W ms σ H1 fun vs H2 => ∃ φ' F' xs L2, Lq φ1 F1 φ' F' ∧ Rl (kx X) φ' F' H2 L2 ∧ RepSL (kx X) φ' F' xs vs ∧ GoodE (kx X) W σ Q φ' F' (f x xs L2) := by
      refine ⟨φ1, F1, ρ, L1, env.lq q1, R1, ?_⟩
      unfold bindA at g1
      cases hA : evalA ms ρ L1 with
      | ok xs L2 => simp only [hA] at g1; exact fun φ2 F2 H2 vs q2 R2 r2 => ⟨φ2, F2, xs, L2, q2, R2, r2, g1.lq q2⟩
      | exc c p L2 => simp only [hA] at g1; exact g1
      | stuck => simp only [hA] at g1; exact g1.elim
    exact tA_mono hA fun vs H2 ⟨φ2, F2, xs, L2, q2, R2, r2, g2⟩ => ⟨σ, φ2, F2, L2, x, xs, R2, repS_lq q2 _ _ r1, r2, g2⟩
  · exact g1.elim
theorem xe_bm0 {T id : String} {name : Str} {o : Expr} {apos cpos : Pos} {m : ME} {f : SV → List SV → Sto → RE} (pa : PlainAttrs T) (slot : Slot T name id) (hty : typeOf (.builtin id) = pure (.type "method_descriptor")) (hm : MethS X W id f) (ho : XE X W o m)
    (hbase : attributeBase o name X.env (eval o X.env) = eval o X.env := by rfl) (hline : (apos.endLine == cpos.line) = true := by rfl) :
    XE X W (.Call (.Attribute o name apos) [] [] cpos) (mMeth T f m []) := by
  refine xe_of (pe_bm0 pa slot hty hm ho hbase hline) fun σ H Q ⟨φ, F, ρ, L, env, R, g⟩ => ?_
  refine tE_mono (good_bind env R g) fun v H1 ⟨φ1, F1, x, L1, q1, R1, r1, g1⟩ => ?_
  split at g1
  · rename_i hT
    exact ⟨isTy_ok R1 r1 hT, σ, φ1, F1, L1, x, [], R1, r1, rfl, g1⟩
  · exact g1.elim
theorem good_none {v : V} (R : Rl k φ F H L) (g : GoodE k W σ Q φ F (okD .none L)) : Q .non H := good_d R g rfl
def cAppend (x : SV) (xs : List SV) (L : Sto) : RE := match x, xs with
  | .own n, [y] => match movD y L with
    | some (d, L1) => match L1[n]? with
      | some (.lst ds) => if ds.length < sizeLine then okD .none (L1.set n (.lst (ds ++ [d]))) else .stuck
      | _ => .stuck
    | none => .stuck
  | _, _ => .stuck
theorem me_append : MethS X W "list.append" cAppend := by
  intro pins s σ H v vs u us Q I rx rv h
  obtain ⟨σ', φ, F, L, x, xs, R, r, rs, g⟩ := h
  refine mt_append pins s σ H v vs u us Q I rx rv ?_
  unfold cAppend at g
  split at g
  · split at g
    · rename_i n y d L1 hmv
      split at g
      · rename_i ds he
        split at g
        · rename_i hz
          obtain ⟨w, e, rw'⟩ := repSL1 rs
          obtain ⟨F1, q1, R1, r1⟩ := movD_ok R rw' hmv
          obtain ⟨a, ea, pa⟩ := r
          obtain ⟨fa, ys, ha, ry⟩ := R1.own _ _ a he pa
          refine ⟨a, ys, w, ea, e, ha, by rw [ry.len]; exact hz, ?_⟩
          exact good_d (R1.write he pa (ry.app (es := [d]) (ys := [w]) ⟨w, [], rfl, r1, rfl⟩)) (g.lq q1) rfl
        · exact g.elim
      · exact g.elim
    · exact g.elim
  · exact g.elim
def cExtend (x : SV) (xs : List SV) (L : Sto) : RE := match x, xs with
  | .own n, [y] => match L[n]?, asW L y with
    | some (.lst ds), some es => if ds.length + es.length ≤ sizeLine then okD .none (L.set n (.lst (ds ++ es))) else .stuck
    | _, _ => .stuck
  | _, _ => .stuck
theorem me_extend : MethS X W "list.extend" cExtend := by
  intro pins s σ H v vs u us Q I rx rv h
  obtain ⟨σ', φ, F, L, x, xs, R, r, rs, g⟩ := h
  refine mt_extend pins s σ H v vs u us Q I rx rv ?_
  unfold cExtend at g
  split at g
  · split at g
    · rename_i n y _ _ ds es he hy
      split at g
      · rename_i hz
        obtain ⟨w, e, rw'⟩ := repSL1 rs
        obtain ⟨b, zs, eb, hb, rz⟩ := asW_ok R rw' hy
        subst eb
        obtain ⟨a, ea, pa⟩ := r
        obtain ⟨fa, ys, ha, ry⟩ := R.own _ _ a he pa
        refine ⟨a, b, ys, zs, ea, e, ha, hb, by rw [ry.len, rz.len]; exact hz, ?_⟩
        exact good_d (R.write he pa (ry.app rz)) g rfl
      · exact g.elim
    · exact g.elim
  · exact g.elim
def strsOf : List PyData → Option (List Str)
  | [] => some []
  | .str s :: r => (strsOf r).map (s :: ·)
  | _ :: _ => none
theorem strsOf_rep : ∀ {ds : List PyData} {ss : List Str} {xs : List V}, strsOf ds = some ss → RepL k F ds xs → xs = ss.map V.str
  | [], ss, xs, h, r => by cases h; exact r
  | d :: ds, ss, xs, h, r => by
    obtain ⟨x, q, e, h1, h2⟩ := r
    unfold strsOf at h
    split at h
    · rename_i e0; cases e0
    · rename_i s r' e0
      cases e0
      cases hs : strsOf ds with
      | none => rw [hs] at h; cases h
      | some s2 =>
        rw [hs] at h
        cases h
        cases (show x = _ from h1)
        rw [e, strsOf_rep hs h2] <;> rfl
    · cases h
theorem strsOf_map : ∀ (ss : List Str), strsOf (ss.map PyData.str) = some ss
  | [] => rfl
  | s :: r => by rw [List.map_cons, strsOf, strsOf_map r] <;> rfl
def cJoin (x : SV) (xs : List SV) (L : Sto) : RE := match x, xs with
  | .d (.str a), [y] => match asL L y with
    | some ds => match strsOf ds with
      | some ss => if (ss.map (·.length)).sum + ss.length * a.length ≤ 16777216 then okD (.str (Txt.join a ss)) L else .stuck
      | none => .stuck
    | none => .stuck
  | _, _ => .stuck
theorem me_join : MethS X W "str.join" cJoin := by
  intro pins s σ H v vs u us Q I rx rv h
  obtain ⟨σ', φ, F, L, x, xs, R, r, rs, g⟩ := h
  refine mt_join pins s σ H v vs u us Q I rx rv ?_
  unfold cJoin at g
  split at g
  · split at g
    · rename_i ds hd
      split at g
      · rename_i ss hs
        split at g
        · rename_i hz
          obtain ⟨w, e, rw'⟩ := repSL1 rs
          obtain ⟨b, zs, eb, hb, rz⟩ := asL_ok R rw' hd
          subst eb
          have := strsOf_rep hs rz
          subst this
          exact ⟨_, b, ss, r, e, .inl hb, hz, good_d R g rfl⟩
        · exact g.elim
      · exact g.elim
    · exact g.elim
  · exact g.elim
def sSub (m mo mi : ME) : MS := sDrop (bindS m fun x => bindS mo fun o => bindS mi fun i _ L => match o, i with
  | .own n, .d (.int j) => match movD x L with
    | some (d, L1) => match L1[n]? with
      | some (.lst ds) => match ixN ds.length j with
        | some p => okD .none (L1.set n (.lst (ds.set p d)))
        | none => .stuck
      | _ => .stuck
    | none => .stuck
  | _, _ => .stuck)
theorem xs_sub {e o i : Expr} {pos tpos : Pos} {m mo mi : ME} (h : XE X W e m) (ho : XE X W o mo) (hi : XE X W i mi)
    (ha : ∀ v, assign (.Subscript o i tpos) X.env v = (do
      let ov ← holding [v] (eval o X.env)
      let iv ← holding [v, ov] (eval i X.env)
      standAt tpos
      holding [v, ov, iv] (setItem ov iv v)
      release [v, ov, iv] []) := by intro _; rfl) (hs : swapsWithSole [.Subscript o i tpos] e pos.line X.env = pure false := by rfl) (hw : swappedStores [.Subscript o i tpos] e X.env = pure none := by rfl)
    (h1 : (assignEach [.Subscript o i tpos] X.env).map (·.2) = [assign (.Subscript o i tpos) X.env] := by rfl) : XS X W (.Assign [.Subscript o i tpos] e pos) (sSub m mo mi) := by
  refine ps_imp (ps_asg h (pg_sub ho hi set_list ha) hs hw h1) fun D σ H ⟨φ, F, ρ, L, env, R, g⟩ => ?_
  refine tE_mono (good_bind env R (good_drop env g)) fun v H1 ⟨φ1, F1, x, L1, q1, R1, r1, g1⟩ => ?_
  refine tE_mono (good_bind (env.lq q1) R1 g1) fun w H2 ⟨φ2, F2, y, L2, q2, R2, r2, g2⟩ => ?_
  refine tE_mono (good_bind (env.lq (q1.trans q2)) R2 g2) fun z H3 h3 => ?_
  obtain ⟨φ3, F3, y3, L3, q3, R3, r3, g3⟩ := h3
  split at g3
  · rename_i n j
    split at g3
    · rename_i d L4 hmv
      split at g3
      · rename_i ds he
        split at g3
        · rename_i p hp
          obtain ⟨F4, q4, R4, r4⟩ := movD_ok R3 (repS_lq (q2.trans q3) _ _ r1) hmv
          obtain ⟨a, ea, pa⟩ := repS_lq (q3.trans q4) _ _ r2
          obtain ⟨fa, ys, ha, ry⟩ := R4.own _ _ a he pa
          refine ⟨a, ys, j, p, ea, r3, ha, by rw [ry.len]; exact hp, ?_⟩
          exact good_d (R4.write he pa (ry.set p r4)) (g3.lq q4) (rfl : Rep (kx X) F4 .none .non)
        · exact g3.elim
      · exact g3.elim
    · exact g3.elim
  · exact g3.elim
inductive Tg where
  | nm (i : Nat)
  | tup (is : List Nat)
def gNames : List Nat → TGs
  | [] => gNil
  | i :: is => gCons (gName i) (gNames is)
def Tg.tg (K : PySem.W.Frag) : Tg → TG
  | .nm i => gName i
  | .tup is => gTup K is.length (gNames is)
def Tg.sl : Tg → List Nat
  | .nm i => [i]
  | .tup is => is
def setAll : List Nat → List PyData → Rho → Option Rho
  | [], [], ρ => some ρ
  | i :: is, d :: ds, ρ => setAll is ds (ρ.set i (some (.d d)))
  | _, _, _ => none
def Tg.put : Tg → PyData → Rho → Option Rho
  | .nm i, d, ρ => some (ρ.set i (some (.d d)))
  | .tup is, .tuple ds, ρ => setAll is ds ρ
  | .tup _, _, _ => none
def XG (X : Cx) (e : Expr) (t : Tg) : Prop := PG X e (t.tg X.K)
theorem xg_nm (i : Nat) {x : Str} {pos : Pos} (hN : X.N.Nodup) (hi : X.N[i]? = some x := by rfl) (hx : Loc X.env.scope x := by first | exact Or.inl rfl | exact Or.inr rfl) (hf : X.fn x = true ∨ X.env.scope.names.lookup x = some .local := by first | exact .inl rfl | exact .inr rfl) : XG X (.Name x pos) (.nm i) := pg_name hN hi hx hf
def XGs (X : Cx) (es : List Expr) (is : List Nat) : Prop := PGs X es (gNames is)
theorem xgs_nil : XGs X [] [] := pgs_nil
theorem xgs_cons {e : Expr} {es : List Expr} {i : Nat} {is : List Nat} (h1 : XG X e (.nm i)) (h2 : XGs X es is) (hs : (assignEach (e :: es) X.env).map (·.2) = assign e X.env :: (assignEach es X.env).map (·.2) := by rfl) : XGs X (e :: es) (i :: is) := pgs_cons h1 h2 hs
theorem xg_tup {es : List Expr} {kk : Nat} {is : List Nat} {pos : Pos} (hc : X.calm = true) (h : XGs X es is) (hn : (assignEach es X.env).length = is.length := by rfl) (hst : (assignEach es X.env).findIdx? (·.1) = none := by rfl) : XG X (.Tuple es kk pos) (.tup is) := pg_tup hc h hn hst
/-- slots outside is stay -/
def SameBut (is : List Nat) (σ σ' : L2.St) : Prop := σ.length = σ'.length ∧ ∀ j, j ∉ is → σ'[j]? = σ[j]?
theorem gNames_ok : ∀ {is : List Nat} {ds : List PyData} {vs : List V} {ρ ρ' : Rho} {σ : L2.St} {Q : L2.St → Hp → Prop}, EnvOk k φ F ρ σ → RepL k F ds vs → setAll is ds ρ = some ρ' →
    (∀ σ', EnvOk k φ F ρ' σ' → SameBut is σ σ' → Q σ' H) → gNames is vs σ H Q
  | [], [], vs, ρ, ρ', σ, Q, env, r, h, q => by
    cases h
    rw [show vs = [] from r]
    exact ⟨rfl, q σ env ⟨rfl, fun _ _ => rfl⟩⟩
  | [], _ :: _, _, _, _, _, _, _, _, h, _ => by cases h
  | _ :: _, [], _, _, _, _, _, _, _, h, _ => by cases h
  | i :: is, d :: ds, vs, ρ, ρ', σ, Q, env, r, h, q => by
    obtain ⟨x, xs, e, r1, r2⟩ := r
    refine ⟨x, xs, e, ?_⟩
    refine gNames_ok (env.set (x := .d d) r1) r2 h fun σ' e' sb => q σ' e' ⟨?_, fun j hj => ?_⟩
    · rw [← sb.1, List.length_set]
    · rw [sb.2 j (fun hh => hj (List.mem_cons_of_mem _ hh)), List.getElem?_set_ne (fun hh => hj (by rw [hh]; exact List.mem_cons_self))]
theorem Tg.ok {t : Tg} {d : PyData} {v : V} {ρ' : Rho} {Q : L2.St → Hp → Prop} (env : EnvOk k φ F ρ σ) (R : Rl k φ F H L) (r : Rep k F d v) (h : t.put d ρ = some ρ') (q : ∀ σ', EnvOk k φ F ρ' σ' → SameBut t.sl σ σ' → Q σ' H) : t.tg k.K v σ H Q := by
  cases t with
  | nm i =>
    cases h
    exact q _ (env.set (x := .d d) r) ⟨by rw [List.length_set], fun j hj => List.getElem?_set_ne (fun e => hj (by rw [e]; exact List.mem_singleton.mpr rfl))⟩
  | tup is =>
    cases d <;> first | (cases h; done) | skip
    rename_i ds
    obtain ⟨a, xs, e, z, r1⟩ := r
    have hl : xs.length = is.length := by
      rw [r1.len]
      clear r1 env q
      induction is generalizing ds ρ with
      | nil => cases ds <;> first | rfl | cases h
      | cons i is ih =>
        cases ds with
        | nil => cases h
        | cons d ds => simpa using ih (ρ := ρ.set i (some (.d d))) ds h
    exact ⟨a, xs, e, sqt_ex R.ex z, hl, gNames_ok env r1 h q⟩
inductive RI where
  | ok (ds : List PyData) (g : Option (Nat × List PyData)) (L : Sto)
  | exc (c : Str) (p : Pay) (L : Sto)
  | stuck
abbrev MI := Rho → Sto → RI
def Feeds (k : Kx) (φ : List Addr) (F : Hp) (J : It) (ds : List PyData) (g : Option (Nat × List PyData)) : Prop :=
  ∃ (G : Hp → Prop) (Y : Nat → Hp → V → Hp → Prop), Walk J ds.length G Y ∧ (∀ φ' F' H' L', Lq φ F φ' F' → Rl k φ' F' H' L' → guardOk g L' = true → G H') ∧
    ∀ i H x H' φ' F' L', i < ds.length → Lq φ F φ' F' → Rl k φ' F' H L' → guardOk g L' = true → Y i H x H' → ∃ F2, Lq φ' F' φ' F2 ∧ Rl k φ' F2 H' L' ∧ ∃ d, ds[i]? = some d ∧ Rep k F2 d x
def GoodI (k : Kx) (W : WX) (σ : L2.St) (Q : It → Hp → Prop) (φ : List Addr) (F : Hp) : RI → Prop
  | .ok ds g L' => ∀ φ' F' H' J, Lq φ F φ' F' → Rl k φ' F' H' L' → Feeds k φ' F' J ds g → Q J H'
  | .exc c p L' => ∀ φ' F' H' cls d, Lq φ F φ' F' → Rl k φ' F' H' L' → ExcAt k F' H' c p cls d → W cls d σ H'
  | .stuck => False
def tI (k : Kx) (W : WX) (m : MI) : TI := fun σ H Q => ∃ φ F ρ L, EnvOk k φ F ρ σ ∧ Rl k φ F H L ∧ GoodI k W σ Q φ F (m ρ L)
def XI (X : Cx) (W : WX) (tg e : Expr) (m : MI) : Prop := PI X tg e (tI (kx X) W m)
theorem pi_imp {tg e : Expr} {t t' : TI} (h : PI X tg e t) (hi : ∀ σ H Q, t' σ H Q → t σ H Q) : PI X tg e t' := ⟨fun pins s σ H Q I q => h.run pins s σ H Q I (hi σ H Q q)⟩
/-- a list, a tuple, a text -/
def iAny (K : PySem.W.Frag) (te : TE) : TI := fun σ H R => te σ H fun v H1 => (∃ a, v = .ref a ∧ (∃ xs, SqL K H1 a xs) ∧ R (Itl K a) H1) ∨ (∃ a, v = .ref a ∧ (∃ xs, SqT K H1 a xs) ∧ R (Itt K a) H1) ∨ ∃ x, v = .str x ∧ R (Its x) H1
theorem pi_any {tg e : Expr} {te : TE} (he : PE X e te) : PI X tg e (iAny X.K te) := by
  refine ⟨fun pins s σ H R I h => ?_⟩
  refine thn (he.run pins s σ H _ I h) fun v s1 ⟨x, H1, I1, r1, q1⟩ => ?_
  rcases q1 with ⟨a, e, ⟨xs, hq⟩, q⟩ | ⟨a, e, ⟨xs, hq⟩, q⟩ | ⟨y, e, q⟩
  · subst e
    cases r1
    obtain ⟨its, rv, p, hz⟩ := I1.list hq
    refine wpAny_pyIter_list p.isList ?_
    refine ⟨s1.heap.objs.size, [s1.heap.objs.size], _, _, H1, rfl, I1.kept (t' := s1.toks) fun b o e => Heap.get?_push_of_some _ e, turn_list a _, ⟨_, Heap.get?_push_size _ rfl, rfl, rfl⟩, fun b hb => ?_, q⟩
    have e : b = s1.heap.objs.size := by simpa using hb
    subst e
    exact I1.fpOk (Nat.le_refl _) (I1.hok.fresh (Nat.le_refl _))
  · subst e
    cases r1
    obtain ⟨its, rv, p, hz⟩ := I1.tuple hq
    refine wpAny_pyIter_tuple (show s1.heap.IsTuple a its.toArray from p) ?_
    refine ⟨s1.heap.objs.size, [s1.heap.objs.size], _, _, H1, rfl, I1.kept (t' := s1.toks) fun b o e => Heap.get?_push_of_some _ e, turn_tuple a _, ⟨_, Heap.get?_push_size _ rfl, rfl, rfl⟩, fun b hb => ?_, q⟩
    have e : b = s1.heap.objs.size := by simpa using hb
    subst e
    exact I1.fpOk (Nat.le_refl _) (I1.hok.fresh (Nat.le_refl _))
  · subst e
    obtain ⟨t, rfl⟩ := r1
    cases ha : y.cps.all (· < 128)
    · exact wpAny_pyIter_wide ha (pi_one (tk := s1.toks) I1 _ (turn_str _ y t "str_iterator" (.inr rfl)) ⟨_, Heap.get?_push_size _ rfl, rfl, rfl⟩ q)
    · exact wpAny_pyIter_ascii ha (pi_one (tk := s1.toks) I1 _ (turn_str _ y t "str_ascii_iterator" (.inl rfl)) ⟨_, Heap.get?_push_size _ rfl, rfl, rfl⟩ q)
def signs (s : Str) : List PyData := s.cps.toList.map fun c => .str ⟨#[c]⟩
def itOf (L : Sto) : SV → Option (List PyData × Option (Nat × List PyData))
  | .d (.list xs) => some (xs, none)
  | .d (.tuple xs) => some (xs, none)
  | .d (.str s) => some (signs s, none)
  | .ro xs => some (xs, none)
  | .own n => match L[n]? with
    | some (.lst xs) => some (xs, some (n, xs))
    | _ => none
  | _ => none
def iOf (m : ME) : MI := fun ρ L => match m ρ L with
  | .ok r L1 => match toS r with
    | some x => match itOf L1 x with
      | some (ds, g) => .ok ds g L1
      | none => .stuck
    | none => .stuck
  | .exc c p L1 => .exc c p L1
  | .stuck => .stuck
theorem feeds_list {a : Addr} {ds : List PyData} {xs : List V} (h : SqL k.K F a xs) (r : RepL k F ds xs) : Feeds k φ F (Itl k.K a) ds none := by
  refine ⟨_, _, by rw [← r.len]; exact walk_list, fun φ' F' H' L' q R _ => sql_ex R.ex (sql_ex q.ex h), fun i H x H' φ' F' L' hi q R _ y => ?_⟩
  obtain ⟨e, hx⟩ := y
  subst e
  obtain ⟨d, h1, h2⟩ := r.getV hx
  exact ⟨F', Lq.refl _ _, R, d, h1, rep_ex q.ex _ _ h2⟩
theorem feeds_tup {a : Addr} {ds : List PyData} {xs : List V} (h : SqT k.K F a xs) (r : RepL k F ds xs) : Feeds k φ F (Itt k.K a) ds none := by
  refine ⟨_, _, by rw [← r.len]; exact walk_tup, fun φ' F' H' L' q R _ => sqt_ex R.ex (sqt_ex q.ex h), fun i H x H' φ' F' L' hi q R _ y => ?_⟩
  obtain ⟨e, hx⟩ := y
  subst e
  obtain ⟨d, h1, h2⟩ := r.getV hx
  exact ⟨F', Lq.refl _ _, R, d, h1, rep_ex q.ex _ _ h2⟩
theorem feeds_str {s : Str} : Feeds k φ F (Its s) (signs s) none := by
  refine ⟨_, _, by unfold signs; rw [List.length_map, Array.length_toList]; exact walk_str, fun _ _ _ _ _ _ _ => trivial, fun i H x H' φ' F' L' hi q R _ y => ?_⟩
  obtain ⟨e, c, hc, e2⟩ := y
  subst e e2
  refine ⟨F', Lq.refl _ _, R, .str ⟨#[c]⟩, ?_, rfl⟩
  unfold signs
  rw [List.getElem?_map, Array.getElem?_toList, hc] <;> rfl
theorem feeds_own {n : Nat} {a : Addr} {ds : List PyData} {xs : List V} (hn : φ[n]? = some a) (R0 : Rl k φ F H L) (r : RepL k F ds xs) (ha : H a = some (.lst xs)) : Feeds k φ F (Itl k.K a) ds (some (n, ds)) := by
  refine ⟨fun H1 => ∃ ys F1, Lq φ F φ F1 ∧ SqL k.K H1 a ys ∧ RepL k F1 ds ys, fun i H x H' => H' = H ∧ ∀ ys, SqL k.K H a ys → ys[i]? = some x, ⟨fun i H1 hi ⟨ys, F1, _, h1, h2⟩ => ⟨ys, ys[i]'(by rw [h2.len]; exact hi), h1, List.getElem?_eq_getElem _⟩, fun H1 ⟨ys, F1, _, h1, h2⟩ => ⟨ys, h1, by rw [h2.len]; exact Nat.le_refl _⟩, fun i H x H' hi _ y => y⟩, fun φ' F' H' L' q R g => ?_, fun i H x H' φ' F' L' hi q R g y => ?_⟩
  · have e : L'[n]? = some (.lst ds) := guardOk_some.mp g
    obtain ⟨_, ys, h1, h2⟩ := R.own n _ a e (q.pre _ _ hn)
    exact ⟨ys, F', ⟨fun _ _ e => e, q.ex⟩, SqL.of h1, h2⟩
  · obtain ⟨e1, hx⟩ := y
    subst e1
    have e : L'[n]? = some (.lst ds) := guardOk_some.mp g
    obtain ⟨_, ys, h1, h2⟩ := R.own n _ a e (q.pre _ _ hn)
    obtain ⟨d, h3, h4⟩ := h2.getV (hx ys (SqL.of h1))
    exact ⟨F', Lq.refl _ _, R, d, h3, h4⟩
theorem xi_of {tg e : Expr} {m : ME} (h : XE X W e m) : XI X W tg e (iOf m) := by
  refine pi_imp (pi_any h) fun σ H Q ⟨φ, F, ρ, L, env, R, g⟩ => ?_
  refine ⟨φ, F, ρ, L, env, R, ?_⟩
  unfold iOf at g
  cases hm : m ρ L with
  | ok r L1 =>
    simp only [hm] at g
    cases ht : toS r with
    | none => simp only [ht] at g; exact g.elim
    | some x =>
      simp only [ht] at g
      cases hi : itOf L1 x with
      | none => simp only [hi] at g; exact g.elim
      | some p =>
        obtain ⟨ds, gd⟩ := p
        simp only [hi] at g
        have main : ∀ φ' F' H' v, Lq φ F φ' F' → Rl (kx X) φ' F' H' L1 → RepS (kx X) φ' F' x v → (∃ a, v = .ref a ∧ (∃ xs, SqL X.K H' a xs) ∧ Q (Itl X.K a) H') ∨ (∃ a, v = .ref a ∧ (∃ xs, SqT X.K H' a xs) ∧ Q (Itt X.K a) H') ∨ ∃ x, v = .str x ∧ Q (Its x) H' := by
          intro φ' F' H' v q R' r'
          unfold itOf at hi
          split at hi
          · cases hi
            obtain ⟨a, xs, e, z, r1⟩ := r'
            exact .inl ⟨a, e, ⟨xs, SqL.of (R'.ex _ _ z)⟩, g φ' F' H' _ q R' (feeds_list (SqL.of z) r1)⟩
          · cases hi
            obtain ⟨a, xs, e, z, r1⟩ := r'
            exact .inr (.inl ⟨a, e, ⟨xs, sqt_ex R'.ex z⟩, g φ' F' H' _ q R' (feeds_tup z r1)⟩)
          · cases hi
            exact .inr (.inr ⟨_, r', g φ' F' H' _ q R' feeds_str⟩)
          · cases hi
            obtain ⟨a, xs, e, z, r1⟩ := r'
            exact .inl ⟨a, e, ⟨xs, sql_ex R'.ex z⟩, g φ' F' H' _ q R' (feeds_list z r1)⟩
          · split at hi
            · rename_i n _ xs e
              cases hi
              obtain ⟨a, e1, e2⟩ := r'
              obtain ⟨_, ys, h1, h2⟩ := R'.own _ _ a e e2
              exact .inl ⟨a, e1, ⟨ys, SqL.of h1⟩, g φ' F' H' _ q R' (feeds_own e2 R' h2 h1)⟩
            · cases hi
          · cases hi
        cases r with
        | sv y => cases ht; exact main
        | new o =>
          intro φ' F' H' a q R' n
          obtain ⟨F2, q2, R2, r2⟩ := R'.freeze n ht
          exact main φ' F2 H' _ (q.trans q2) R2 r2
  | exc c p L1 => simp only [hm] at g; exact g
  | stuck => simp only [hm] at g; exact g.elim
/-- range(n), range(a, b) -/
def rng (lo hi : Int) : List PyData := (List.range (hi - lo).toNat).map fun i => .int (lo + (i : Nat))
/-- a range's end -/
def okR (j : Int) : Prop := -(2 ^ 62) ≤ j ∧ j < 2 ^ 62
instance (j : Int) : Decidable (okR j) := by unfold okR; exact inferInstance
def iRange1 (ms : List ME) : MI := fun ρ L => match evalA ms ρ L with
  | .ok [.d (.int j)] L1 => if okR j then .ok (rng 0 j) none L1 else .stuck
  | .ok _ _ => .stuck
  | .exc c p L1 => .exc c p L1
  | .stuck => .stuck
def iRange2 (ms : List ME) : MI := fun ρ L => match evalA ms ρ L with
  | .ok [.d (.int i), .d (.int j)] L1 => if okR i ∧ okR j then .ok (rng i j) none L1 else .stuck
  | .ok _ _ => .stuck
  | .exc c p L1 => .exc c p L1
  | .stuck => .stuck
theorem feeds_range {lo hi : Int} {n : Nat} (hn : n = (hi - lo).toNat) : Feeds k φ F (Itr lo n) (rng lo hi) none := by
  subst hn
  refine ⟨_, _, by unfold rng; rw [List.length_map, List.length_range]; exact walk_range, fun _ _ _ _ _ _ _ => trivial, fun i H x H' φ' F' L' hi' q R _ y => ?_⟩
  obtain ⟨e, e2⟩ := y
  subst e e2
  refine ⟨F', Lq.refl _ _, R, .int (lo + (i : Nat)), ?_, rfl⟩
  unfold rng at hi' ⊢
  rw [List.length_map, List.length_range] at hi'
  rw [List.getElem?_map, List.getElem?_range hi'] <;> rfl
theorem xi_range1 {tg a : Expr} {ms : List ME} {p pos : Pos} (ha : XA X W [a] ms) (hm : X.mg "range" = none) (hg : Gl X "range" := by rfl) (hs : starEach [a] X.env = [(false, eval a X.env)] := by rfl) : XI X W tg (.Call (.Name "range" p) [a] [] pos) (iRange1 ms) := by
  refine pi_imp (pi_range1 hg hm ha hs) fun σ H Q ⟨φ, F, ρ, L, env, R, g⟩ => ⟨φ, F, ρ, L, env, R, ?_⟩
  unfold iRange1 at g
  split at g
  · rename_i j L1 hA
    rw [hA]
    split at g
    · rename_i hz
      intro φ' F' H' vs q R' r
      obtain ⟨v, e, r⟩ := repSL1 r
      cases (show v = _ from r)
      exact ⟨j, e, hz.1, hz.2, g φ' F' H' _ q R' (feeds_range (by rw [Int.sub_zero]))⟩
    · exact g.elim
  · exact g.elim
  · rename_i c p L1 hA
    rw [hA]
    exact g
  · exact g.elim
theorem xi_range2 {tg a b : Expr} {ms : List ME} {p pos : Pos} (ha : XA X W [a, b] ms) (hm : X.mg "range" = none) (hg : Gl X "range" := by rfl) (hs : starEach [a, b] X.env = [(false, eval a X.env), (false, eval b X.env)] := by rfl) (hs2 : starEach [b] X.env = [(false, eval b X.env)] := by rfl) : XI X W tg (.Call (.Name "range" p) [a, b] [] pos) (iRange2 ms) := by
  refine pi_imp (pi_range2 hg hm ha hs hs2) fun σ H Q ⟨φ, F, ρ, L, env, R, g⟩ => ⟨φ, F, ρ, L, env, R, ?_⟩
  unfold iRange2 at g
  split at g
  · rename_i i j L1 hA
    rw [hA]
    split at g
    · rename_i hz
      intro φ' F' H' vs q R' r
      obtain ⟨v, w, e, r1, r2⟩ := repSL2 r
      cases (show v = _ from r1)
      cases (show w = _ from r2)
      exact ⟨i, j, e, ⟨hz.1.1, hz.1.2, hz.2.1, hz.2.2⟩, g φ' F' H' _ q R' (feeds_range rfl)⟩
    · exact g.elim
  · exact g.elim
  · rename_i c p L1 hA
    rw [hA]
    exact g
  · exact g.elim
end
end PD
namespace PD
open PySem L2
def keepS (n : Nat) : Option SV → Option SV
  | some (.own m) => if m < n then some (.own m) else none
  | o => o
def scrub (n : Nat) (ρ : Rho) : Rho := ρ.map (keepS n)
section
variable {X : Cx} {W : WX} {k : Kx} {σ : L2.St} {Q Q' : VK} {φ φ' : List Addr} {F F' H H' : Hp} {ρ : Rho} {L : Sto}
theorem take_get {α : Type} {l : List α} {n i : Nat} {x : α} : (l.take n)[i]? = some x ↔ l[i]? = some x ∧ i < n := by
  rw [List.getElem?_take]
  by_cases h : i < n
  · rw [if_pos h]; exact ⟨fun e => ⟨e, h⟩, fun e => e.1⟩
  · rw [if_neg h]; exact ⟨fun e => by simp at e, fun e => (h e.2).elim⟩
theorem Rl.cut (R : Rl k φ F H L) (n : Nat) : Rl k (φ.take n) F H (L.take n) := by
  refine ⟨by rw [List.length_take, List.length_take, R.len], R.nd.sublist (List.take_sublist _ _), R.ex, fun a ha => R.there a (List.mem_of_mem_take ha), fun m o a e1 e2 => ?_⟩
  obtain ⟨e1, _⟩ := take_get.mp e1
  obtain ⟨e2, _⟩ := take_get.mp e2
  have h := R.own m o a e1 e2
  cases o with
  | lst ds => exact h
  | dead => trivial
theorem Lq.cut {n : Nat} (q : Lq φ F φ' F') (hn : φ.length ≤ n) : Lq φ F (φ'.take n) F' :=
  ⟨fun m a e => take_get.mpr ⟨q.pre m a e, Nat.lt_of_lt_of_le (List.getElem?_eq_some_iff.mp e).1 hn⟩, q.ex⟩
theorem Lq.uncut (φ : List Addr) (F : Hp) (n : Nat) : Lq (φ.take n) F φ F := ⟨fun m a e => (take_get.mp e).1, fun _ _ e => e⟩
theorem repS_cut {n : Nat} {x : SV} {v : V} (r : RepS k φ F x v) (h : ∀ m, x = .own m → m < n) : RepS k (φ.take n) F x v := by
  cases x with
  | d y => exact r
  | own m =>
    obtain ⟨a, e1, e2⟩ := r
    exact ⟨a, e1, take_get.mpr ⟨e2, h m rfl⟩⟩
  | ro xs => exact r
  | ty n => exact r
theorem EnvOk.cut (env : EnvOk k φ F ρ σ) (n : Nat) : EnvOk k (φ.take n) F (scrub n ρ) σ := by
  refine ⟨by unfold scrub; rw [List.length_map]; exact env.len, fun i x e => ?_⟩
  unfold scrub at e
  rw [List.getElem?_map] at e
  cases h : ρ[i]? with
  | none => rw [h] at e; cases e
  | some o =>
    rw [h] at e
    have e' : keepS n o = some x := Option.some.inj e
    unfold keepS at e'
    split at e'
    · rename_i m
      split at e'
      · rename_i hm
        cases e'
        obtain ⟨v, h1, h2⟩ := env.at_ i _ h
        exact ⟨v, h1, repS_cut h2 fun m' em => by cases em; exact hm⟩
      · cases e'
    · rename_i o hne
      subst e'
      obtain ⟨v, h1, h2⟩ := env.at_ i _ h
      exact ⟨v, h1, repS_cut h2 fun m em => by subst em; exact (hne m rfl).elim⟩
noncomputable def forL (t : Tg) (body : MS) (n : Nat) (g : Option (Nat × List PyData)) : List PyData → Rho → Sto → RS
  | [], ρ, L => .nx ρ L
  | d :: ds, ρ, L => match t.put d ρ with
    | some ρ1 => match body ρ1 L with
      | .nx ρ2 L2 => if guardOk g (L2.take n) = true ∧ n ≤ L2.length then forL t body n g ds (scrub n ρ2) (L2.take n) else .stuck
      | .ct ρ2 L2 => if guardOk g (L2.take n) = true ∧ n ≤ L2.length then forL t body n g ds (scrub n ρ2) (L2.take n) else .stuck
      | .bk ρ2 L2 => .nx (scrub n ρ2) (L2.take n)
      | .rt r L2 => .rt r L2
      | .exc c p ρ2 L2 => .exc c p ρ2 L2
      | .stuck => .stuck
    | none => .stuck
noncomputable def sFor (t : Tg) (it : MI) (body : MS) : MS := fun ρ L => match it ρ L with
  | .ok ds g L1 => if guardOk g L1 = true then forL t body L1.length g ds ρ L1 else .stuck
  | .exc c p L1 => .exc c p ρ L1
  | .stuck => .stuck
structure CzB (X : Cx) (W : WX) (n : Nat) : Prop where
  calm : X.calm = true
  nd : X.N.Nodup
  tk : Takes X W
  hr : Room n X.A
structure Cz (X : Cx) (W : WX) (n : Nat) : Prop extends CzB X W n where
  hp : PassesOwn (model X.prog X.w) X.A X.env X.xe
theorem xs_for {tg iter : Expr} {body : List Stmt} {t : Tg} {it : MI} {mb : MS} {pos : Pos} {n : Nat} (C : Cz X W n) (hi : XI X W tg iter it) (hg : XG X tg t) (hb : XSs X W body mb) (hs : ∀ x, foldedSetIterable iter X.env x = pure x := by intro _; rfl) :
    XS X W (.For tg iter body [] pos) (sFor t it mb) := by
  refine ps_imp (ps_for C.hp C.calm hi hg hb hs) fun D σ H ⟨φ, F, ρ, L, env, R, g⟩ => ⟨φ, F, ρ, L, env, R, ?_⟩
  unfold sFor at g
  cases hit : it ρ L with
  | ok ds gd L1 =>
    simp only [hit] at g
    split at g
    · rename_i hg0
      intro φ1 F1 H1 J q1 R1 fd
      obtain ⟨G, Y, wk, hG, hY⟩ := fd
      refine for_it wk (fun i σ' H' => ∃ φ2 F2 ρ2 L2, Lq φ1 F1 φ2 F2 ∧ EnvOk (kx X) φ2 F2 ρ2 σ' ∧ Rl (kx X) φ2 F2 H' L2 ∧ L2.length = L1.length ∧ guardOk gd L2 = true ∧ GoodS (kx X) W D φ2 F2 (forL t mb L1.length gd (ds.drop i) ρ2 L2)) ?_ ?_ ?_ ?_
      · exact ⟨φ1, F1, ρ, L1, Lq.refl _ _, env.lq q1, R1, rfl, hg0, GoodS.lq g q1⟩
      · rintro i σ' H' hi ⟨φ2, F2, ρ2, L2, q2, e2, R2, l2, g2, _⟩
        exact hG φ2 F2 H' L2 q2 R2 g2
      · intro i x σ' H' H2 hi ⟨φ2, F2, ρ2, L2, q2, e2, R2, l2, g2, gs⟩ y
        obtain ⟨F3, q3, R3, d, hd, rd⟩ := hY i H' x H2 φ2 F2 L2 hi q2 R2 g2 y
        have hdr : ds.drop i = d :: ds.drop (i + 1) := by
          rw [List.drop_eq_getElem_cons hi]
          rw [List.getElem?_eq_getElem hi] at hd
          cases hd
          rfl
        rw [hdr] at gs
        unfold forL at gs
        cases hp : t.put d ρ2 with
        | none => simp only [hp] at gs; exact gs.elim
        | some ρ3 =>
          simp only [hp] at gs
          refine Tg.ok (e2.lq q3) R3 rd hp fun σ3 e3 _ => ⟨φ2, F3, ρ3, L2, e3, R3, ?_⟩
          have gs := GoodS.lq gs q3
          have next : ∀ {ρ4 : Rho} {L4 : Sto}, GoodS (kx X) W D φ2 F3 (if guardOk gd (L4.take L1.length) = true ∧ L1.length ≤ L4.length then forL t mb L1.length gd (ds.drop (i + 1)) (scrub L1.length ρ4) (L4.take L1.length) else .stuck) → ∀ φ' F' σ' H', Lq φ2 F3 φ' F' → EnvOk (kx X) φ' F' ρ4 σ' → Rl (kx X) φ' F' H' L4 →
              ∃ φ2 F2 ρ2 L2, Lq φ1 F1 φ2 F2 ∧ EnvOk (kx X) φ2 F2 ρ2 σ' ∧ Rl (kx X) φ2 F2 H' L2 ∧ L2.length = L1.length ∧ guardOk gd L2 = true ∧ GoodS (kx X) W D φ2 F2 (forL t mb L1.length gd (ds.drop (i + 1)) ρ2 L2) := by
            intro ρ4 L4 h φ' F' σ' H' q e R'
            split at h
            · rename_i hc
              have hl : φ2.length ≤ L1.length := by rw [R2.len, l2]; exact Nat.le_refl _
              refine ⟨φ'.take L1.length, F', scrub L1.length ρ4, L4.take L1.length, ?_, e.cut _, R'.cut _, by rw [List.length_take]; omega, hc.1, GoodS.lq h (q.cut hl)⟩
              exact (q2.trans q3).trans (q.cut hl)
            · exact h.elim
          cases hb3 : mb ρ3 L2 with
          | nx ρ4 L4 => simp only [hb3] at gs; exact next gs
          | ct ρ4 L4 => simp only [hb3] at gs; exact next gs
          | bk ρ4 L4 =>
            simp only [hb3] at gs
            intro φ' F' σ' H' q e R'
            have hl : φ2.length ≤ L1.length := by rw [R2.len, l2]; exact Nat.le_refl _
            exact gs _ F' σ' H' (q.cut hl) (e.cut _) (R'.cut _)
          | rt r L4 => simp only [hb3] at gs; cases r <;> exact gs
          | exc c p ρ4 L4 => simp only [hb3] at gs; exact gs
          | stuck => simp only [hb3] at gs; exact gs
      · rintro σ' H' ⟨φ2, F2, ρ2, L2, q2, e2, R2, l2, g2, gs⟩
        rw [List.drop_length] at gs
        exact gs φ2 F2 σ' H' (Lq.refl _ _) e2 R2
    · exact g.elim
  | exc c p L1 => simp only [hit] at g; exact fun φ' F' H' cls d q R' x => g φ' F' σ H' cls d q (env.lq q) R' x
  | stuck => simp only [hit] at g; exact g.elim
end
end PD
namespace PD
open PySem L2
section
variable {X : Cx} {W : WX} {k : Kx} {σ : L2.St} {Q Q' : VK} {φ φ' : List Addr} {F F' H H' : Hp} {ρ : Rho} {L : Sto}
def whileN (c : ME) (body : MS) (n : Nat) : Nat → Rho → Sto → RS
  | 0, _, _ => .stuck
  | m + 1, ρ, L => match c ρ L with
    | .ok (.sv (.d (.bool true))) L1 => match body ρ L1 with
      | .nx ρ2 L2 => if n ≤ L2.length then whileN c body n m (scrub n ρ2) (L2.take n) else .stuck
      | .ct ρ2 L2 => if n ≤ L2.length then whileN c body n m (scrub n ρ2) (L2.take n) else .stuck
      | .bk ρ2 L2 => .nx (scrub n ρ2) (L2.take n)
      | .rt r L2 => .rt r L2
      | .exc c p ρ2 L2 => .exc c p ρ2 L2
      | .stuck => .stuck
    | .ok (.sv (.d (.bool false))) L1 => .nx ρ L1
    | .ok _ _ => .stuck
    | .exc c p L1 => .exc c p ρ L1
    | .stuck => .stuck
open Classical in
noncomputable def sWhile (c : ME) (body : MS) : MS := fun ρ L => if h : ∃ m, whileN c body L.length m ρ L ≠ .stuck then whileN c body L.length (choose h) ρ L else .stuck
theorem whileN_mono {c : ME} {body : MS} {n : Nat} : ∀ {m : Nat} {ρ : Rho} {L : Sto}, whileN c body n m ρ L ≠ .stuck → whileN c body n (m + 1) ρ L = whileN c body n m ρ L
  | 0, _, _, h => (h rfl).elim
  | m + 1, ρ, L, h => by
    rw [whileN] at h ⊢
    rw [whileN.eq_2 (m := m)]
    split at h
    · rename_i L1 hc
      split at h
      · split at h
        · rename_i hn
          simp only [hn, if_true]
          exact whileN_mono h
        · exact (h rfl).elim
      · split at h
        · rename_i hn
          simp only [hn, if_true]
          exact whileN_mono h
        · exact (h rfl).elim
      · rfl
      · rfl
      · rfl
      · exact (h rfl).elim
    · rfl
    · exact (h rfl).elim
    · rfl
    · exact (h rfl).elim
theorem whileN_le {c : ME} {body : MS} {n m : Nat} {ρ : Rho} {L : Sto} (h : whileN c body n m ρ L ≠ .stuck) : ∀ j, whileN c body n (m + j) ρ L = whileN c body n m ρ L
  | 0 => rfl
  | j + 1 => by
    have ih := whileN_le h j
    rw [← ih] at h ⊢
    exact whileN_mono h
theorem sWhile_eq {c : ME} {body : MS} {m : Nat} {ρ : Rho} {L : Sto} {r : RS} (h : whileN c body L.length m ρ L = r) (hr : r ≠ .stuck) : sWhile c body ρ L = r := by
  have hm : whileN c body L.length m ρ L ≠ .stuck := by rw [h]; exact hr
  have hex : ∃ m, whileN c body L.length m ρ L ≠ .stuck := ⟨m, hm⟩
  unfold sWhile
  rw [dif_pos hex]
  have hc := Classical.choose_spec hex
  have e1 := whileN_le hc m
  have e2 := whileN_le hm (Classical.choose hex)
  rw [← e1, Nat.add_comm, e2, h]
theorem xs_while {c : Expr} {body : List Stmt} {t : ME} {mb : MS} {pos : Pos} {n : Nat} (C : Cz X W n) (hc : XT X W c t) (hb : XSs X W body mb) : XS X W (.While c body [] pos) (sWhile t mb) := by
  refine ps_imp (ps_while C.hp hc hb) fun D σ H ⟨φ, F, ρ, L, env, R, g⟩ => ?_
  unfold sWhile at g
  split at g
  · rename_i hex
    refine ⟨fun m σ' H' => ∃ φ2 F2 ρ2 L2, Lq φ F φ2 F2 ∧ EnvOk (kx X) φ2 F2 ρ2 σ' ∧ Rl (kx X) φ2 F2 H' L2 ∧ L2.length = L.length ∧ GoodS (kx X) W D φ2 F2 (whileN t mb L.length m ρ2 L2), ⟨_, φ, F, ρ, L, Lq.refl _ _, env, R, rfl, g⟩, ?_⟩
    rintro m σ' H' ⟨φ2, F2, ρ2, L2, q2, e2, R2, l2, g2⟩
    cases m with
    | zero => exact g2.elim
    | succ m =>
      refine ⟨φ2, F2, ρ2, L2, e2, R2, ?_⟩
      rw [whileN] at g2
      split at g2
      · rename_i L3 hct
        rw [hct]
        intro φ3 F3 H3 q3 R3
        refine iteT ⟨_, fun σ4 H4 h4 => ⟨m, Nat.lt_succ_self m, h4⟩, φ3, F3, ρ2, L3, e2.lq q3, R3, ?_⟩
        have g3 := GoodS.lq g2 q3
        have next : ∀ {ρ4 : Rho} {L4 : Sto}, GoodS (kx X) W D φ2 F2 (if L.length ≤ L4.length then whileN t mb L.length m (scrub L.length ρ4) (L4.take L.length) else .stuck) → ∀ φ' F' σ' H', Lq φ3 F3 φ' F' → EnvOk (kx X) φ' F' ρ4 σ' → Rl (kx X) φ' F' H' L4 →
            ∃ φ2 F2 ρ2 L2, Lq φ F φ2 F2 ∧ EnvOk (kx X) φ2 F2 ρ2 σ' ∧ Rl (kx X) φ2 F2 H' L2 ∧ L2.length = L.length ∧ GoodS (kx X) W D φ2 F2 (whileN t mb L.length m ρ2 L2) := by
          intro ρ4 L4 h φ' F' σ' H' q e R'
          split at h
          · rename_i hn
            have q23 : Lq φ2 F2 (φ'.take L.length) F' := (q3.trans q).cut (by rw [R2.len, l2]; exact Nat.le_refl _)
            refine ⟨φ'.take L.length, F', scrub L.length ρ4, L4.take L.length, q2.trans q23, e.cut _, R'.cut _, by rw [List.length_take]; omega, GoodS.lq h q23⟩
          · exact h.elim
        cases hb3 : mb ρ2 L3 with
        | nx ρ4 L4 => simp only [hb3] at g2; exact next g2
        | ct ρ4 L4 => simp only [hb3] at g2; exact next g2
        | bk ρ4 L4 =>
          simp only [hb3] at g2
          intro φ' F' σ' H' q e R'
          have q23 : Lq φ2 F2 (φ'.take L.length) F' := (q3.trans q).cut (by rw [R2.len, l2]; exact Nat.le_refl _)
          exact g2 _ F' σ' H' q23 (e.cut _) (R'.cut _)
        | rt r L4 => simp only [hb3] at g3; cases r <;> exact g3
        | exc c p ρ4 L4 => simp only [hb3] at g3; exact g3
        | stuck => simp only [hb3] at g3; exact g3
      · rename_i L3 hct
        rw [hct]
        intro φ3 F3 H3 q3 R3
        exact iteF (g2 φ3 F3 σ' H3 q3 (e2.lq q3) R3)
      · exact g2.elim
      · rename_i c p L3 hct
        rw [hct]
        exact fun φ' F' H' cls d q R' x => g2 φ' F' σ' H' cls d q (e2.lq q) R' x
      · exact g2.elim
  · exact g.elim
def W0 : WX := fun _ _ _ _ => False
def XTs (X : Cx) (W : WX) (ifs : List Expr) (m : ME) : Prop := PTs X ifs (tT (kx X) W m)
theorem xts_nil : XTs X W [] (mC (.d (.bool true))) := ⟨fun pins s σ H Q I ⟨φ, F, ρ, L, env, R, g⟩ => pts_nil.run pins s σ H Q I (g φ F H (Lq.refl _ _) R)⟩
theorem xts_one {c : Expr} {m : ME} (h : XT X W c m) : XTs X W [c] m := pts_one h
def wipeR (ρ : Rho) : List Nat → Rho
  | [] => ρ
  | v :: vs => (wipeR ρ vs).set v none
theorem EnvOk.wipe (env : EnvOk k φ F ρ σ) : ∀ vs : List Nat, EnvOk k φ F (wipeR ρ vs) (wipe σ vs)
  | [] => env
  | v :: vs => by
    have ih := EnvOk.wipe env vs
    unfold wipeR L2.wipe
    refine ⟨by rw [List.length_set, List.length_set]; exact ih.len, fun i x e => ?_⟩
    by_cases hv : v = i
    · subst hv
      have hl := (List.getElem?_eq_some_iff.mp e).1
      rw [List.length_set] at hl
      rw [List.getElem?_set_self hl] at e
      cases e
    · rw [List.getElem?_set_ne hv] at e
      obtain ⟨w, h1, h2⟩ := ih.at_ i x e
      exact ⟨w, by rw [List.getElem?_set_ne hv]; exact h1, h2⟩
theorem wipe_get {σ : L2.St} {i : Nat} : ∀ {vs : List Nat}, (wipe σ vs)[i]? = if i ∈ vs then (if i < σ.length then some none else none) else σ[i]?
  | [] => by simp [L2.wipe]
  | v :: vs => by
    unfold L2.wipe
    by_cases hv : v = i
    · subst hv
      rw [if_pos List.mem_cons_self]
      by_cases hl : v < σ.length
      · rw [if_pos hl, List.getElem?_set_self (by rw [wipe_length]; exact hl)]
      · rw [if_neg hl, List.getElem?_eq_none (by rw [List.length_set, wipe_length]; omega)]
    · rw [List.getElem?_set_ne hv, wipe_get]
      have : i ∈ v :: vs ↔ i ∈ vs := by
        rw [List.mem_cons]
        exact ⟨fun h => h.elim (fun e => (hv e.symm).elim) id, .inr⟩
      simp only [this]
theorem wipe_same {is vs : List Nat} {σ2 : L2.St} (h : SameBut is (wipe σ vs) σ2) (hs : ∀ i ∈ is, i ∈ vs) : wipe σ2 vs = wipe σ vs := by
  apply List.ext_getElem?
  intro i
  rw [wipe_get, wipe_get]
  have hl : σ2.length = σ.length := by rw [← h.1, wipe_length]
  by_cases hi : i ∈ vs
  · rw [if_pos hi, if_pos hi, hl]
  · rw [if_neg hi, if_neg hi, h.2 i (fun z => hi (hs i z)), wipe_get, if_neg hi]
open Classical in
noncomputable def compL (t : Tg) (tst elt : ME) (n : Nat) (g : Option (Nat × List PyData)) (ρ0 : Rho) : List PyData → List PyData → Sto → RE
  | [], acc, L => .ok (.new (.lst acc)) L
  | d :: ds, acc, L => match t.put d ρ0 with
    | some ρ1 => match tst ρ1 (L ++ [.lst acc]) with
      | .ok (.sv (.d (.bool true))) L1 => match elt ρ1 L1 with
        | .ok r L2 => match toS r with
          | some x => match movD x L2 with
            | some (y, L3) => if L3[n]? = some (.lst acc) ∧ guardOk g (L3.take n) = true ∧ acc.length < sizeLine then compL t tst elt n g ρ0 ds (acc ++ [y]) (L3.take n) else .stuck
            | none => .stuck
          | none => .stuck
        | _ => .stuck
      | .ok (.sv (.d (.bool false))) L1 => if L1[n]? = some (.lst acc) ∧ guardOk g (L1.take n) = true then compL t tst elt n g ρ0 ds acc (L1.take n) else .stuck
      | _ => .stuck
    | none => .stuck
noncomputable def mComp (t : Tg) (vs : List Nat) (tst elt : ME) (it : MI) : ME := fun ρ L => match it ρ L with
  | .ok ds g L1 => if guardOk g L1 = true ∧ ∀ i ∈ t.sl, i ∈ vs then compL t tst elt L1.length g (wipeR ρ vs) ds [] L1 else .stuck
  | .exc c p L1 => .exc c p L1
  | .stuck => .stuck
theorem Rl.pop {o : MO} {a : Addr} (R : Rl k (φ ++ [a]) F H (L ++ [o])) : Rl k φ F H L ∧ a ∉ φ := by
  have hl : φ.length = L.length := by
    have := R.len
    rw [List.length_append, List.length_append] at this
    simpa using this
  have h := R.cut L.length
  rw [List.take_left' hl, List.take_left' rfl] at h
  refine ⟨h, fun hm => ?_⟩
  have := R.nd
  rw [List.nodup_append] at this
  exact this.2.2 a hm a (List.mem_singleton.mpr rfl) rfl
theorem tT_false {m : ME} {QT : Bool → Hp → Prop} {c : Str} {p : Pay} {L1 : Sto} (hm : m ρ L = .exc c p L1) : True := trivial
/-- the reading of a comprehension -/
theorem comp_read {wi : TI} {t : Tg} {tst elt : ME} {it : MI} {vs : List Nat} (h : tE k W (mComp t vs tst elt it) σ H Q) (hw : ∀ σ H R, tI k W it σ H R → wi σ H R) :
    tLc wi (t.tg k.K) (tT k W0 tst) (tE k W0 elt) vs σ H Q := by
  obtain ⟨φ, F, ρ, L, env, R, g⟩ := h
  refine hw _ _ _ ⟨φ, F, ρ, L, env, R, ?_⟩
  unfold mComp at g
  cases hit : it ρ L with
  | ok ds gd L1 =>
    simp only [hit] at g
    split at g
    · rename_i hg0
      obtain ⟨hg0, hsub⟩ := hg0
      intro φ1 F1 H1 J q1 R1 fd D hD
      obtain ⟨G, Y, wk, hG, hY⟩ := fd
      refine lc_it wk (fun i H' => ∃ φ2 F2 L2 acc, Lq φ1 F1 φ2 F2 ∧ Rl k (φ2 ++ [D]) F2 H' (L2 ++ [.lst acc]) ∧ L2.length = L1.length ∧ guardOk gd L2 = true ∧ GoodE k W σ Q φ2 F2 (compL t tst elt L1.length gd (wipeR ρ vs) (ds.drop i) acc L2)) ?_ ?_ ?_ ?_
      · have n : NewAt k φ1 F1 (upd H1 D (.lst [])) D (.lst []) := (R1.newLst (ds := []) hD rfl).2
        have R2 := (R1.newLst (k := k) (ds := []) (xs := []) hD rfl).1
        exact ⟨φ1, F1, L1, [], Lq.refl _ _, (R2.push n).1, rfl, hg0, GoodE.lq g q1⟩
      · rintro i H' hi ⟨φ2, F2, L2, acc, q2, R2, l2, g2, _⟩
        exact hG φ2 F2 H' L2 q2 R2.pop.1 g2
      · intro i x H' H2 hi ⟨φ2, F2, L2, acc, q2, R2, l2, g2, gs⟩ y
        have qp : Lq φ2 F2 (φ2 ++ [D]) F2 := ⟨fun m b e => by rw [List.getElem?_append_left (List.getElem?_eq_some_iff.mp e).1]; exact e, fun _ _ e => e⟩
        have ga : guardOk gd (L2 ++ [.lst acc]) = true := by
          cases gd with
          | none => exact g2
          | some p =>
            obtain ⟨n, xs⟩ := p
            rw [guardOk_some] at g2 ⊢
            rw [List.getElem?_append_left (List.getElem?_eq_some_iff.mp g2).1]
            exact g2
        obtain ⟨F3, q3, R3, d, hd, rd⟩ := hY i H' x H2 (φ2 ++ [D]) F2 (L2 ++ [.lst acc]) hi (q2.trans qp) R2 ga y
        have hdr : ds.drop i = d :: ds.drop (i + 1) := by
          rw [List.drop_eq_getElem_cons hi]
          rw [List.getElem?_eq_getElem hi] at hd
          cases hd
          rfl
        rw [hdr] at gs
        unfold compL at gs
        cases hp : t.put d (wipeR ρ vs) with
        | none => simp only [hp] at gs; exact gs.elim
        | some ρ3 =>
          simp only [hp] at gs
          have qs : Lq φ1 F1 (φ2 ++ [D]) F3 := (q2.trans qp).trans q3
          refine Tg.ok ((env.lq (q1.trans qs)).wipe vs) R3 rd hp fun σ3 e3 sb => ⟨wipe_same sb hsub, φ2 ++ [D], F3, ρ3, L2 ++ [.lst acc], e3, R3, ?_⟩
          have hlen : φ2.length = L1.length := by rw [R2.pop.1.len, l2]
          have hD2 : (φ2 ++ [D])[L1.length]? = some D := by rw [← hlen, List.getElem?_append_right (Nat.le_refl _)]; simp
          have q23 : Lq φ2 F2 φ2 F3 := ⟨fun _ _ e => e, q3.ex⟩
          split at gs
          · rename_i La hta
            rw [hta]
            intro φ4 F4 H4 q4 R4
            refine iteT ⟨φ4, F4, ρ3, La, e3.lq q4, R4, ?_⟩
            split at gs
            · rename_i r Lb he
              rw [he]
              split at gs
              · rename_i xv hx
                split at gs
                · rename_i yv Lc hmv
                  split at gs
                  · rename_i hc
                    obtain ⟨c1, c2, c3⟩ := hc
                    have main : ∀ φ5 F5 H5 v, Lq φ4 F4 φ5 F5 → Rl k φ5 F5 H5 Lb → RepS k φ5 F5 xv v → ∃ acc, H5 D = some (.lst acc) ∧ acc.length < sizeLine ∧
                        ∃ φ2 F2 L2 acc', Lq φ1 F1 φ2 F2 ∧ Rl k (φ2 ++ [D]) F2 (upd H5 D (.lst (acc ++ [v]))) (L2 ++ [.lst acc']) ∧ L2.length = L1.length ∧ guardOk gd L2 = true ∧ GoodE k W σ Q φ2 F2 (compL t tst elt L1.length gd (wipeR ρ vs) (ds.drop (i + 1)) acc' L2) := by
                      intro φ5 F5 H5 v q5 R5 r5
                      obtain ⟨F6, q6, R6, r6⟩ := movD_ok R5 r5 hmv
                      have q46 : Lq (φ2 ++ [D]) F3 φ5 F6 := q4.trans (q5.trans q6)
                      have hD5 : φ5[L1.length]? = some D := q46.pre _ _ hD2
                      obtain ⟨_, ys, h1, h2⟩ := R6.own _ _ D c1 hD5
                      have Rw := R6.write c1 hD5 (h2.app (es := [yv]) (ys := [v]) ⟨v, [], rfl, r6, rfl⟩)
                      have hle : L1.length < Lc.length := (List.getElem?_eq_some_iff.mp c1).1
                      have Rc := Rw.cut (L1.length + 1)
                      have e1 : φ5.take (L1.length + 1) = φ5.take L1.length ++ [D] := by
                        rw [List.take_add_one, hD5] <;> rfl
                      have e2 : (Lc.set L1.length (.lst (acc ++ [yv]))).take (L1.length + 1) = Lc.take L1.length ++ [.lst (acc ++ [yv])] := by
                        rw [List.take_add_one, List.getElem?_set_self hle, List.take_set_of_le (Nat.le_refl _)] <;> rfl
                      rw [e1, e2] at Rc
                      have q2c : Lq φ2 F2 (φ5.take L1.length) F6 := (qp.trans (q3.trans q46)).cut (by rw [hlen]; exact Nat.le_refl _)
                      refine ⟨ys, h1, by rw [h2.len]; exact c3, φ5.take L1.length, F6, Lc.take L1.length, acc ++ [yv], q2.trans q2c, Rc, ?_, c2, GoodE.lq gs q2c⟩
                      rw [List.length_take]
                      omega
                    cases r with
                    | sv y0 => cases hx; exact main
                    | new o =>
                      intro φ5 F5 H5 a q5 R5 n5
                      obtain ⟨F6, q6, R6, r6⟩ := R5.freeze n5 hx
                      exact main φ5 F6 H5 _ (q5.trans q6) R6 r6
                  · exact gs.elim
                · exact gs.elim
              · exact gs.elim
            · exact gs.elim
          · rename_i La hta
            rw [hta]
            intro φ4 F4 H4 q4 R4
            split at gs
            · rename_i hc
              obtain ⟨c1, c2⟩ := hc
              refine iteF ?_
              have hD4 : φ4[L1.length]? = some D := q4.pre _ _ hD2
              have hle : L1.length < La.length := (List.getElem?_eq_some_iff.mp c1).1
              have Rc := R4.cut (L1.length + 1)
              have e1 : φ4.take (L1.length + 1) = φ4.take L1.length ++ [D] := by
                rw [List.take_add_one, hD4] <;> rfl
              have e2 : La.take (L1.length + 1) = La.take L1.length ++ [.lst acc] := by
                rw [List.take_add_one, c1] <;> rfl
              rw [e1, e2] at Rc
              have q2c : Lq φ2 F2 (φ4.take L1.length) F4 := (qp.trans (q3.trans q4)).cut (by rw [hlen]; exact Nat.le_refl _)
              refine ⟨φ4.take L1.length, F4, La.take L1.length, acc, q2.trans q2c, Rc, ?_, c2, GoodE.lq gs q2c⟩
              rw [List.length_take]
              omega
            · exact gs.elim
          · exact gs.elim
      · rintro H' ⟨φ2, F2, L2, acc, q2, R2, l2, g2, gs⟩
        rw [List.drop_length] at gs
        obtain ⟨R3, hn⟩ := R2.pop
        have hlen : φ2.length = L2.length := R3.len
        have h := R2.own L2.length (.lst acc) D (by rw [List.getElem?_append_right (Nat.le_refl _)]; simp) (by rw [← hlen, List.getElem?_append_right (Nat.le_refl _)]; simp)
        exact gs φ2 F2 H' D (Lq.refl _ _) R3 ⟨hn, h⟩
    · exact g.elim
  | exc c p L1 => simp only [hit] at g; exact g
  | stuck => simp only [hit] at g; exact g.elim
theorem xe_lc {elt tg iter : Expr} {ifs : List Expr} {scope : Scope} {own : List (Str × Nat)} {pos : Pos} {t : Tg} {tst el : ME} {it : MI} (hc : X.calm = true) (hN : X.N.Nodup) (hi : XI X W tg iter it) (ok : BlkOk X.N X.env.scope scope own)
    (hg : ∀ (s : Shared) (H : Hp) (C : Addr) (cl : List (Str × Addr)) (fp : List Addr), XG (X.blk s H scope (compEnvC scope cl C X.env) fp) tg t) (ht : ∀ (s : Shared) (H : Hp) (C : Addr) (cl : List (Str × Addr)) (fp : List Addr), XTs (X.blk s H scope (compEnvC scope cl C X.env) fp) W0 ifs tst)
    (he : ∀ (s : Shared) (H : Hp) (C : Addr) (cl : List (Str × Addr)) (fp : List Addr), XE (X.blk s H scope (compEnvC scope cl C X.env) fp) W0 elt el) (hs : ∀ x, foldedSetIterable iter X.env x = pure x := by intro _; rfl) :
    XE X W (.ListComp elt [⟨tg, iter, ifs, 0⟩] scope pos) (mComp t (own.map (·.2)) tst el it) :=
  xe_of (pe_lc (g := t.tg X.K) (tt := tT (kx X) W0 tst) (te := tE (kx X) W0 el) hc hN hi ok hg ht he hs) fun σ H Q h => comp_read h fun _ _ _ h => h
theorem xas_lc {i : Nat} {y : Str} {py spos : Pos} {elt tg iter : Expr} {ifs : List Expr} {scope : Scope} {own : List (Str × Nat)} {pos : Pos} {t : Tg} {tst el : ME} {it : MI} (hc : X.calm = true) (hN : X.N.Nodup)
    (hi : XI X W tg iter it) (ok : BlkOk X.N X.env.scope scope own)
    (hg : ∀ (s : Shared) (H : Hp) (C : Addr) (cl : List (Str × Addr)) (fp : List Addr), XG (X.blk s H scope (compEnvC scope cl C X.env) fp) tg t) (ht : ∀ (s : Shared) (H : Hp) (C : Addr) (cl : List (Str × Addr)) (fp : List Addr), XTs (X.blk s H scope (compEnvC scope cl C X.env) fp) W0 ifs tst)
    (he : ∀ (s : Shared) (H : Hp) (C : Addr) (cl : List (Str × Addr)) (fp : List Addr), XE (X.blk s H scope (compEnvC scope cl C X.env) fp) W0 elt el)
    (hsw : swapsWith (.ListComp elt [⟨tg, iter, ifs, 0⟩] scope pos) (some (.Name y py)) spos.line X.env = pure true) (hy : X.N[i]? = some y := by rfl) (hyl : X.env.scope.names.lookup y = some .local := by rfl) (hs : ∀ x, foldedSetIterable iter X.env x = pure x := by intro _; rfl) :
    XAs X W (.Assign [.Name y py] (.ListComp elt [⟨tg, iter, ifs, 0⟩] scope pos) spos) i (mComp t (own.map (·.2)) tst el it) :=
  ps_imp (ps_setLc (g := t.tg X.K) (tt := tT (kx X) W0 tst) (te := tE (kx X) W0 el) hc hN hy hyl hsw hi ok hg ht he hs) fun D σ H h => comp_read h fun _ _ _ h => h
def cutR (n : Nat) : RS → RE
  | .nx _ L => .ok (.sv (.d .none)) (L.take n)
  | .rt (.sv (.own m)) L => if m < n then .ok (.sv (.own m)) (L.take n) else match L[m]? with
    | some (.lst xs) => .ok (.new (.lst xs)) (L.take n)
    | _ => .stuck
  | .rt r L => .ok r (L.take n)
  | .exc c p _ L => .exc c p (L.take n)
  | _ => .stuck
def mkFn (np nn : Nat) (s : MS) : Fn := fun xs L => if xs.length = np then cutR L.length (s (xs.map some ++ List.replicate (nn - np) none) L) else .stuck
def WC (E : XK) : WX := fun cls d _ H => E cls d H
def spOf (k : Kx) (f : Fn) : Sp := fun vs H Q E => ∃ φ F L xs, Rl k φ F H L ∧ RepSL k φ F xs vs ∧ GoodE k (WC E) [] Q φ F (f xs L)
structure DefOk (P : Program) (w : World) (K : PySem.W.Frag) (mg : Str → Option Value) (base : Heap) (name : Str) (np : Nat) (fn : Fn) (lv : Nat) : Prop where
  ex : ∃ f fd ps, mg name = some (.ref f) ∧ PySem.W.keepIn K (.ref f) = true ∧ Binds K fd ps [] ∧ FnOk P w K mg base (L2.CX P w) lv f fd ps (spOf ⟨K, mg⟩ fn)
theorem xe_call {name : Str} {np lv n : Nat} {fn : Fn} {p pos : Pos} {e : Expr} {es : List Expr} {ms : List ME} (C : CzB X W n) (D : DefOk X.prog X.w X.K X.mg X.base name np fn lv) (hl : lv ≤ n) (ha : XA X W (e :: es) ms) (hg : Gl X name := by rfl)
    (hdb : (name == ("__debug__" : Str)) = false := by decide) (he : starEach (e :: es) X.env = (false, eval e X.env) :: starEach es X.env := by rfl) (hpl : (backTo pos (starEach es X.env)).any (·.1) = false := by rfl) :
    XE X W (.Call (.Name name p) (e :: es) [] pos) (mCall fn ms) := by
  obtain ⟨f, fd, ps, hm, hk, hb, F⟩ := D.ex
  refine xe_of (pe_callS F (C.hr.mono hl) hg hm hk hb (fun σ => passAt C.tk σ) ha hdb he hpl) fun σ H Q h => ?_
  refine tA_mono (good_bindA h) fun vs H1 ⟨φ1, F1, xs, ρ1, L1, _, R1, r1, g1⟩ => ⟨φ1, F1, L1, xs, R1, r1, ?_⟩
  cases hf : fn xs L1 with
  | ok r L2 => rw [hf] at g1; cases r <;> exact g1
  | exc c p L2 => rw [hf] at g1; exact g1
  | stuck => rw [hf] at g1; exact g1
theorem start_env {N : List Str} {xs : List SV} {vs : List V} (r : RepSL k φ F xs vs) : EnvOk k φ F (xs.map some ++ List.replicate (N.length - xs.length) none) (L2.start N vs) := by
  refine ⟨?_, fun i x e => ?_⟩
  · unfold L2.start
    rw [List.length_append, List.length_append, List.length_map, List.length_map, List.length_replicate, List.length_replicate, r.len]
  · unfold L2.start
    by_cases hi : i < xs.length
    · rw [List.getElem?_append_left (by rw [List.length_map]; exact hi), List.getElem?_map] at e
      cases h : xs[i]? with
      | none => rw [h] at e; cases e
      | some y =>
        rw [h] at e
        have e' : y = x := by
          have := Option.some.inj e
          exact Option.some.inj this
        subst e'
        obtain ⟨v, h1, h2⟩ := r.get h
        exact ⟨v, by rw [List.getElem?_append_left (by rw [List.length_map, r.len]; exact hi), List.getElem?_map, h1] <;> rfl, h2⟩
    · rw [List.getElem?_append_right (by rw [List.length_map]; omega), List.getElem?_replicate] at e
      split at e <;> cases e
/-- THE RULE for a def -/
theorem def_fn {P : Program} {w : World} {K : PySem.W.Frag} {mg : Str → Option Value} {base : Heap} {x qual : Str} {st : Stmt} {f : Addr} {fd : FuncData} {N ps : List Str} {lv : Nat} {m : MS} (Fu : Fun K x qual st f fd) (S : FnScope N ps (defScope st))
    (hbody : ∀ (cdv : Value) (A : Around) (outer : List Env) (s : Shared) (H : Hp) (E : XK), Cz (cxOf (L2.CX P w) P w K mg base N qual (defScope st) f cdv A outer s H E) (WC E) lv →
      XSs (cxOf (L2.CX P w) P w K mg base N qual (defScope st) f cdv A outer s H E) (WC E) (defBody st) m) : FnOk P w K mg base (L2.CX P w) (lv + 1) f fd ps (spOf ⟨K, mg⟩ (mkFn ps.length N.length m)) := by
  refine Fu.okX S (fun vs H Q E h => ?_) (fun cdv A outer s H vs Q E hr h => ?_)
  · obtain ⟨φ, F, L, xs, R, r, g⟩ := h
    unfold mkFn at g
    split at g
    · rename_i hl
      rw [r.len]; exact hl
    · exact g.elim
  · obtain ⟨φ, F, L, xs, R, r, g⟩ := h
    have C : Cz (cxOf (L2.CX P w) P w K mg base N qual (defScope st) f cdv A outer s H E) (WC E) lv := { calm := rfl, nd := S.nd, tk := takes_of rfl rfl rfl rfl, hr := hr, hp := passes_of rfl }
    refine ⟨_, hbody cdv A outer s H E C, φ, F, _, L, start_env r, R, ?_⟩
    unfold mkFn at g
    split at g
    · rename_i hl
      rw [hl]
      have hn : φ.length ≤ L.length := by rw [R.len]; exact Nat.le_refl _
      cases hms : m (xs.map some ++ List.replicate (N.length - ps.length) none) L with
      | nx ρ' L' =>
        rw [hms] at g
        intro φ' F' σ' H' q e R'
        exact g _ F' H' .non (q.cut hn) (R'.cut _) rfl
      | rt r' L' =>
        rw [hms] at g
        cases r' with
        | sv y =>
          cases y with
          | own mm =>
            intro φ' F' H' v q R' rv
            have g : GoodE ⟨K, mg⟩ (WC E) [] Q φ F (if mm < L.length then .ok (.sv (.own mm)) (L'.take L.length) else match L'[mm]? with
              | some (.lst xs) => .ok (.new (.lst xs)) (L'.take L.length)
              | _ => .stuck) := g
            split at g
            · rename_i hmm
              exact g _ F' H' v (q.cut hn) (R'.cut _) (repS_cut rv fun m' e => by cases e; exact hmm)
            · split at g
              · rename_i hmm zs he
                obtain ⟨a, e1, e2⟩ := rv
                subst e1
                refine g _ F' H' a (q.cut hn) (R'.cut _) ⟨fun hmem => ?_, R'.own _ _ a he e2⟩
                obtain ⟨j, hj⟩ := List.getElem?_of_mem hmem
                obtain ⟨hj1, hj2⟩ := take_get.mp hj
                have := nodup_ixA R'.nd hj1 e2
                omega
              · exact g.elim
          | d y => intro φ' F' H' v q R' rv; exact g _ F' H' v (q.cut hn) (R'.cut _) rv
          | ro y => intro φ' F' H' v q R' rv; exact g _ F' H' v (q.cut hn) (R'.cut _) rv
          | ty y => intro φ' F' H' v q R' rv; exact g _ F' H' v (q.cut hn) (R'.cut _) rv
        | new o =>
          intro φ' F' H' a q R' n
          refine g _ F' H' a (q.cut hn) (R'.cut _) ?_
          cases o with
          | lst ds => exact ⟨fun h => n.1 (List.mem_of_mem_take h), n.2⟩
          | dead => exact n.elim
      | bk ρ' L' => rw [hms] at g; exact g.elim
      | ct ρ' L' => rw [hms] at g; exact g.elim
      | exc c p ρ' L' =>
        rw [hms] at g
        intro φ' F' σ' H' cls d q e R' x
        exact g _ F' H' cls d (q.cut hn) (R'.cut _) x
      | stuck => rw [hms] at g; exact g.elim
    · exact g.elim
theorem def_ok {P : Program} {w : World} {K : PySem.W.Frag} {mg : Str → Option Value} {base : Heap} {x qual : Str} {st : Stmt} {f : Addr} {fd : FuncData} {N ps : List Str} {lv : Nat} {m : MS} (Fu : Fun K x qual st f fd) (hm : mg x = some (.ref f)) (hb : Binds K fd ps []) (S : FnScope N ps (defScope st))
    (hbody : ∀ (cdv : Value) (A : Around) (outer : List Env) (s : Shared) (H : Hp) (E : XK), Cz (cxOf (L2.CX P w) P w K mg base N qual (defScope st) f cdv A outer s H E) (WC E) lv →
      XSs (cxOf (L2.CX P w) P w K mg base N qual (defScope st) f cdv A outer s H E) (WC E) (defBody st) m) : DefOk P w K mg base x ps.length (mkFn ps.length N.length m) (lv + 1) :=
  ⟨f, fd, ps, hm, Fu.kp, hb, def_fn Fu S hbody⟩
theorem def_stuck {P : Program} {w : World} {K : PySem.W.Frag} {mg : Str → Option Value} {base : Heap} {x qual : Str} {st : Stmt} {f : Addr} {fd : FuncData} {ps : List Str} {lv np : Nat} (Fu : Fun K x qual st f fd) (hm : mg x = some (.ref f)) (hb : Binds K fd ps []) :
    DefOk P w K mg base x np (fun _ _ => .stuck) lv := by
  have no : ∀ vs H Q E, ¬ spOf ⟨K, mg⟩ (fun _ _ => .stuck) vs H Q E := fun vs H Q E ⟨_, _, _, _, _, _, g⟩ => g
  exact ⟨f, fd, ps, hm, Fu.kp, hb, ⟨fun vs H Q E h => absurd h (no vs H Q E), fun A outer s H args us vs Q E _ _ _ _ h => absurd h (no vs H Q E)⟩⟩
theorem CzB.blk {n : Nat} {s : Shared} {H : Hp} {scope : Scope} {cenv : Env} {fp : List Addr} (C : CzB X W n) : CzB (X.blk s H scope cenv fp) W0 n :=
  { calm := C.calm, nd := C.nd, tk := takes0, hr := C.hr }
theorem CzB.mono {n n' : Nat} (C : CzB X W n) (h : n' ≤ n) : CzB X W n' := { calm := C.calm, nd := C.nd, tk := C.tk, hr := C.hr.mono h }
theorem DefOk.mono {P : Program} {w : World} {K : PySem.W.Frag} {mg : Str → Option Value} {base : Heap} {x : Str} {np lv lv' : Nat} {fn : Fn} (D : DefOk P w K mg base x np fn lv) (h : lv ≤ lv') : DefOk P w K mg base x np fn lv' := by
  obtain ⟨f, fd, ps, h1, h2, h3, h4⟩ := D.ex
  exact ⟨f, fd, ps, h1, h2, h3, h4.mono h⟩
def rgOk (i j : Int) : Prop := -(2 ^ 62) ≤ i ∧ i < 2 ^ 62 ∧ -(2 ^ 62) ≤ j ∧ j < 2 ^ 62 ∧ (j - i).toNat ≤ 2 ^ 24
instance (i j : Int) : Decidable (rgOk i j) := by unfold rgOk; exact inferInstance
def fListRg (x y : SV) (L : Sto) : RE := match x, y with
  | .d (.int i), .d (.int j) => if rgOk i j then .ok (.new (.lst (rng i j))) L else .stuck
  | _, _ => .stuck
def fTupleRg (x y : SV) (L : Sto) : RE := match x, y with
  | .d (.int i), .d (.int j) => if rgOk i j then okD (.tuple (rng i j)) L else .stuck
  | _, _ => .stuck
def mListRg (a b : ME) : ME := bind2 a b fListRg
def mTupleRg (a b : ME) : ME := bind2 a b fTupleRg
theorem rng_rep (i j : Int) : RepL k F (rng i j) (rgV i j) := repL_map (k := k) (F := F) (f := fun n : Nat => PyData.int (i + (n : Int))) (g := fun n : Nat => V.int (i + (n : Int))) (fun _ => rfl) _
theorem good_bind0 {x : SV} {mb : ME} {f : SV → SV → Sto → RE} (h : tE k W (bind2 (mC x) mb f) σ H Q) : tE k W mb σ H fun w H2 => ∃ σ φ F L y, Rl k φ F H2 L ∧ RepS k φ F y w ∧ GoodE k W σ Q φ F (f x y L) := by
  obtain ⟨φ, F, ρ, L, env, R, g⟩ := h
  have g : GoodE k W σ Q φ F (bindS mb (fun y => fun _ L => f x y L) ρ L) := g
  exact tE_mono (good_bind env R g) fun w H2 ⟨φ2, F2, y, L2, q2, R2, r2, g2⟩ => ⟨σ, φ2, F2, L2, y, R2, r2, g2⟩
theorem xe_listRg2 {a b : Expr} {p pos p2 pos2 : Pos} {ma mb : ME} (hc : X.calm = true) (hg : Gl X "list") (hm : X.mg "list" = none) (hg2 : Gl X "range") (hm2 : X.mg "range" = none) (ha : XE X W a ma) (hb : XE X W b mb)
    (na : starEach [a, b] X.env = (false, eval a X.env) :: starEach [b] X.env := by rfl) (nb : starEach [b] X.env = (false, eval b X.env) :: starEach [] X.env := by rfl) (hp : (backTo pos2 (starEach [b] X.env)).any (·.1) = false := by rfl)
    (nc : starEach [.Call (.Name "range" p2) [a, b] [] pos2] X.env = (false, eval (.Call (.Name "range" p2) [a, b] [] pos2) X.env) :: starEach [] X.env := by rfl) : XE X W (.Call (.Name "list" p) [.Call (.Name "range" p2) [a, b] [] pos2] [] pos) (mListRg ma mb) :=
  xe_of (pe_listRg hc hg hm (prg_2 hg2 hm2 ha hb na nb hp) nc) fun σ H Q h => tE_mono (good_bind2 h) fun v H1 h1 => tE_mono h1 fun w H2 ⟨σ', φ, F, L, x, y, R, ra, rb, g⟩ => by
    unfold fListRg at g
    split at g
    · split at g
      · rename_i hz
        exact ⟨_, _, ra, rb, hz, fun q hq => good_lst R (rng_rep _ _) g hq⟩
      · exact g.elim
    · exact g.elim
theorem xe_listRg1 {b : Expr} {p pos p2 pos2 : Pos} {mb : ME} (hc : X.calm = true) (hg : Gl X "list") (hm : X.mg "list" = none) (hg2 : Gl X "range") (hm2 : X.mg "range" = none) (hb : XE X W b mb)
    (nb : starEach [b] X.env = (false, eval b X.env) :: starEach [] X.env := by rfl)
    (nc : starEach [.Call (.Name "range" p2) [b] [] pos2] X.env = (false, eval (.Call (.Name "range" p2) [b] [] pos2) X.env) :: starEach [] X.env := by rfl) : XE X W (.Call (.Name "list" p) [.Call (.Name "range" p2) [b] [] pos2] [] pos) (mListRg (mC (.d (.int 0))) mb) :=
  xe_of (pe_listRg hc hg hm (prg_1 hg2 hm2 hb nb) nc) fun σ H Q h => tE_mono (good_bind0 h) fun w H2 ⟨σ', φ, F, L, y, R, rb, g⟩ => by
    unfold fListRg at g
    split at g
    · rename_i i j e
      have e0 : (0 : Int) = i := PyData.int.inj (SV.d.inj e)
      subst e0
      split at g
      · rename_i hz
        exact ⟨_, rb, hz, fun q hq => good_lst R (rng_rep _ _) g hq⟩
      · exact g.elim
    · exact g.elim
theorem xe_tupleRg2 {a b : Expr} {p pos p2 pos2 : Pos} {ma mb : ME} (hc : X.calm = true) (hg : Gl X "tuple") (hm : X.mg "tuple" = none) (hg2 : Gl X "range") (hm2 : X.mg "range" = none) (ha : XE X W a ma) (hb : XE X W b mb)
    (na : starEach [a, b] X.env = (false, eval a X.env) :: starEach [b] X.env := by rfl) (nb : starEach [b] X.env = (false, eval b X.env) :: starEach [] X.env := by rfl) (hp : (backTo pos2 (starEach [b] X.env)).any (·.1) = false := by rfl)
    (nc : starEach [.Call (.Name "range" p2) [a, b] [] pos2] X.env = (false, eval (.Call (.Name "range" p2) [a, b] [] pos2) X.env) :: starEach [] X.env := by rfl) : XE X W (.Call (.Name "tuple" p) [.Call (.Name "range" p2) [a, b] [] pos2] [] pos) (mTupleRg ma mb) :=
  xe_of (pe_tupRg hc hg hm (prg_2 hg2 hm2 ha hb na nb hp) nc) fun σ H Q h => tE_mono (good_bind2 h) fun v H1 h1 => tE_mono h1 fun w H2 ⟨σ', φ, F, L, x, y, R, ra, rb, g⟩ => by
    unfold fTupleRg at g
    split at g
    · split at g
      · rename_i hz
        exact ⟨_, _, ra, rb, hz, fun q hq => good_tup R (rng_rep _ _) g hq⟩
      · exact g.elim
    · exact g.elim
theorem xe_tupleRg1 {b : Expr} {p pos p2 pos2 : Pos} {mb : ME} (hc : X.calm = true) (hg : Gl X "tuple") (hm : X.mg "tuple" = none) (hg2 : Gl X "range") (hm2 : X.mg "range" = none) (hb : XE X W b mb)
    (nb : starEach [b] X.env = (false, eval b X.env) :: starEach [] X.env := by rfl)
    (nc : starEach [.Call (.Name "range" p2) [b] [] pos2] X.env = (false, eval (.Call (.Name "range" p2) [b] [] pos2) X.env) :: starEach [] X.env := by rfl) : XE X W (.Call (.Name "tuple" p) [.Call (.Name "range" p2) [b] [] pos2] [] pos) (mTupleRg (mC (.d (.int 0))) mb) :=
  xe_of (pe_tupRg hc hg hm (prg_1 hg2 hm2 hb nb) nc) fun σ H Q h => tE_mono (good_bind0 h) fun w H2 ⟨σ', φ, F, L, y, R, rb, g⟩ => by
    unfold fTupleRg at g
    split at g
    · rename_i i j e
      have e0 : (0 : Int) = i := PyData.int.inj (SV.d.inj e)
      subst e0
      split at g
      · rename_i hz
        exact ⟨_, rb, hz, fun q hq => good_tup R (rng_rep _ _) g hq⟩
      · exact g.elim
    · exact g.elim
def mNeg (m : ME) : ME := bindS m fun x _ L => match x with
  | .d (.int i) => okD (.int (-i)) L
  | _ => .stuck
theorem xe_neg {a : Expr} {pos : Pos} {m : ME} (h : XE X W a m) : XE X W (.UnaryOp .USub a pos) (mNeg m) :=
  xe_of (pe_un un_neg h) fun σ H Q ⟨φ, F, ρ, L, env, R, g⟩ => tE_mono (good_bind env R g) fun v H1 ⟨φ1, F1, x, L1, q1, R1, r1, g1⟩ => by
    split at g1
    · exact ⟨_, r1, good_d R1 g1 rfl⟩
    · exact g1.elim
theorem walk_end {l : PySem.W.OpenLaw} {lv : Nat} {q : Program} {loose : List Str} {XP : (Str → Option Value) → Heap → Prop} {YP : World → Heap → Prop} {d : DefRec} {K : Params → PySem.W.Frag} {fn : Fn} {x : Str} (hn : l.most = some 63) (hdf : d.params.defaults = []) (hr : Room lv callerA)
    (hY : ∀ (w : World) (h : Heap), YP w h → (K w.params).In h)
    (hlaw : ∀ ns : List Int, ns.length ≤ 63 → fn [.ro (ns.map PyData.int)] [] = okD (.bool true) [])
    (F : ∀ (w : World) (mg : Str → Option Value) (fa : Addr) (h : Heap), (K w.params).In h → h.Ns mainGlobals mg → mg d.name = some (.ref fa) →
      ∃ fd : FuncData, (∀ (s : Shared) (u : Value), BindsTo s fd ⟨[u], []⟩ [(x, u)]) ∧ ∀ base : Heap, (K w.params).In base → base.Ns mainGlobals mg → FnOk l.prog w (K w.params) mg base (L2.CX l.prog w) lv fa fd [x] (spOf ⟨K w.params, mg⟩ fn)) :
    PySem.W.WalkO q loose XP YP l.row.toRowW d [] (fun f vs => PySem.call f vs) := by
  refine L2.walk_of (n := 63) (k := lv) (x := x) (CX := fun w => L2.CX l.prog w) (sp := fun w => fun vs H Q _ => ∃ (a : Addr) (ns : List Int), vs = [.ref a] ∧ ns.length ≤ 63 ∧ SqL (K w.params) H a (ns.map V.int) ∧ ∀ H', Q (.bl true) H') hn (by decide) hdf hr hY (fun w mg fa h KX G hmg => ?_) (fun w H a ns hl _ hS => ⟨a, ns, rfl, hl, hS, fun _ => rfl⟩) fun w H s e s' z => ?_
  · obtain ⟨fd, hb, hF⟩ := F w mg fa h KX G hmg
    refine ⟨fd, hb, fun base kb gb => (hF base kb gb).imp fun vs H Q E ⟨a, ns, e, hl, hS, q⟩ => ?_⟩
    subst e
    refine ⟨[], H, [], [.ro (ns.map PyData.int)], ⟨rfl, List.nodup_nil, fun _ _ e => e, fun a h => absurd h (by simp), fun n o a h _ => by simp at h⟩, ⟨_, _, rfl, ⟨a, _, rfl, hS, repL_map (k := ⟨K w.params, mg⟩) (F := H) (f := PyData.int) (g := V.int) (fun _ => rfl) ns⟩, rfl⟩, ?_⟩
    rw [hlaw ns hl]
    intro φ' F' H' v _ _ r
    cases (show v = _ from r)
    exact q H'
  · obtain ⟨_, _, _, _, _, _, _, _, _, _, _, _, z⟩ := z
    exact z
end
end PD
namespace PD
open PySem L2
section
variable {ρ ρ1 ρ2 : Rho} {L L1 L2 : Sto} {m n t : ME} {a b s : MS} {f : SV → SV → Sto → RE} {x y : SV} {i j k : Nat}
@[simp] theorem okD_eq (x : PyData) (L : Sto) : okD x L = .ok (.sv (.d x)) L := Eq.trans rfl rfl
@[simp] theorem mC_ap : mC x ρ L = .ok (.sv x) L := Eq.trans rfl rfl
@[simp] theorem mV_ap : mV i ρ L = (match ρ[i]? with
  | some (some x) => .ok (.sv x) L
  | _ => .stuck) := Eq.trans rfl rfl
@[simp] theorem toS_sv : toS (.sv x) = some x := Eq.trans rfl rfl
@[simp] theorem toS_lst (xs : List PyData) : toS (.new (.lst xs)) = some (.d (.list xs)) := Eq.trans rfl rfl
@[simp] theorem bindS_ap (f : SV → ME) : bindS m f ρ L = (match m ρ L with
  | .ok r L1 => match toS r with
    | some x => f x ρ L1
    | none => .stuck
  | .exc c p L1 => .exc c p L1
  | .stuck => .stuck) := Eq.trans rfl rfl
@[simp] theorem bind2_ap : bind2 m n f ρ L = bindS m (fun x => bindS n fun y => fun _ L => f x y L) ρ L := Eq.trans rfl rfl
@[simp] theorem evalA_nil : evalA [] ρ L = .ok [] L := Eq.trans rfl rfl
@[simp] theorem evalA_cons (ms : List ME) : evalA (m :: ms) ρ L = (match m ρ L with
    | .ok r L1 => match toS r with
      | some x => match evalA ms ρ L1 with
        | .ok xs L2 => .ok (x :: xs) L2
        | .exc c p L2 => .exc c p L2
        | .stuck => .stuck
      | none => .stuck
    | .exc c p L1 => .exc c p L1
    | .stuck => .stuck) := Eq.trans rfl rfl
@[simp] theorem mCall_ap (f : List SV → Sto → RE) (ms : List ME) : mCall f ms ρ L = (match evalA ms ρ L with
  | .ok xs L1 => f xs L1
  | .exc c p L1 => .exc c p L1
  | .stuck => .stuck) := Eq.trans rfl rfl
@[simp] theorem movD_d (x : PyData) : movD (.d x) L = some (x, L) := Eq.trans rfl rfl
@[simp] theorem movL_nil : movL [] L = some ([], L) := Eq.trans rfl rfl
@[simp] theorem movL_cons (xs : List SV) : movL (x :: xs) L = (match movD x L with
    | some (y, L1) => match movL xs L1 with
      | some (ys, L2) => some (y :: ys, L2)
      | none => none
    | none => none) := Eq.trans rfl rfl
@[simp] theorem mTup_ap (ms : List ME) : mTup ms ρ L = (match evalA ms ρ L with
  | .ok xs L1 => match movL xs L1 with
    | some (ys, L') => if ys.length ≤ sizeLine then okD (.tuple ys) L' else .stuck
    | none => .stuck
  | .exc c p L1 => .exc c p L1
  | .stuck => .stuck) := Eq.trans rfl rfl
@[simp] theorem mLst_ap (ms : List ME) : mLst ms ρ L = (match evalA ms ρ L with
  | .ok xs L1 => match movL xs L1 with
    | some (ys, L') => if ys.length ≤ sizeLine then .ok (.new (.lst ys)) L' else .stuck
    | none => .stuck
  | .exc c p L1 => .exc c p L1
  | .stuck => .stuck) := Eq.trans rfl rfl
@[simp] theorem mTru_ap : mTru m ρ L = (match m ρ L with
  | .ok r L1 => match toS r with
    | some x => match truOf L1 x with
      | some b => okD (.bool b) L1
      | none => .stuck
    | none => .stuck
  | .exc c p L1 => .exc c p L1
  | .stuck => .stuck) := Eq.trans rfl rfl
@[simp] theorem mNot_ap : mNot m ρ L = (match m ρ L with
  | .ok r L1 => match toS r with
    | some x => match x with
      | .d (.bool b) => okD (.bool (!b)) L1
      | _ => .stuck
    | none => .stuck
  | .exc c p L1 => .exc c p L1
  | .stuck => .stuck) := Eq.trans rfl rfl
@[simp] theorem mAnd_ap : mAnd m n ρ L = (match m ρ L with
  | .ok r L1 => match toS r with
    | some x => (match x with
      | .d (.bool true) => n
      | .d (.bool false) => mC (.d (.bool false))
      | _ => fun _ _ => .stuck) ρ L1
    | none => .stuck
  | .exc c p L1 => .exc c p L1
  | .stuck => .stuck) := Eq.trans rfl rfl
@[simp] theorem mOr_ap : mOr m n ρ L = (match m ρ L with
  | .ok r L1 => match toS r with
    | some x => (match x with
      | .d (.bool false) => n
      | .d (.bool true) => mC (.d (.bool true))
      | _ => fun _ _ => .stuck) ρ L1
    | none => .stuck
  | .exc c p L1 => .exc c p L1
  | .stuck => .stuck) := Eq.trans rfl rfl
@[simp] theorem mIf_ap : mIf t m n ρ L = (match t ρ L with
  | .ok r L1 => match toS r with
    | some x => (match x with
      | .d (.bool true) => m
      | .d (.bool false) => n
      | _ => fun _ _ => .stuck) ρ L1
    | none => .stuck
  | .exc c p L1 => .exc c p L1
  | .stuck => .stuck) := Eq.trans rfl rfl
@[simp] theorem mNeg_ap : mNeg m ρ L = (match m ρ L with
  | .ok r L1 => match toS r with
    | some x => match x with
      | .d (.int i) => okD (.int (-i)) L1
      | _ => .stuck
    | none => .stuck
  | .exc c p L1 => .exc c p L1
  | .stuck => .stuck) := Eq.trans rfl rfl
@[simp] theorem mMeth_ap (T : String) (g : SV → List SV → Sto → RE) (ms : List ME) : mMeth T g m ms ρ L = (match m ρ L with
  | .ok r L1 => match toS r with
    | some x => if isTy T L1 x = true then (match evalA ms ρ L1 with
      | .ok xs L2 => g x xs L2
      | .exc c p L1 => .exc c p L1
      | .stuck => .stuck) else .stuck
    | none => .stuck
  | .exc c p L1 => .exc c p L1
  | .stuck => .stuck) := Eq.trans rfl rfl
@[simp] theorem oNone_ap : oNone ρ L = .ok none L := Eq.trans rfl rfl
@[simp] theorem oSome_ap : oSome m ρ L = (match m ρ L with
  | .ok (.sv (.d (.int i))) L1 => .ok (some i) L1
  | .ok _ _ => .stuck
  | .exc c p L1 => .exc c p L1
  | .stuck => .stuck) := Eq.trans rfl rfl
@[simp] theorem mSl_ap (lo hi : MOp) : mSl m lo hi ρ L = (match m ρ L with
  | .ok r L1 => match toS r with
    | some x => (match lo ρ L1 with
      | .ok l L1 => match hi ρ L1 with
        | .ok h L2 => opSl x l h L2
        | .exc c p L2 => .exc c p L2
        | .stuck => .stuck
      | .exc c p L1 => .exc c p L1
      | .stuck => .stuck)
    | none => .stuck
  | .exc c p L1 => .exc c p L1
  | .stuck => .stuck) := Eq.trans rfl rfl
@[simp] theorem opI_int (g : Int → Int → PyData) (i j : Int) : opI g (.d (.int i)) (.d (.int j)) L = okD (g i j) L := Eq.trans rfl rfl
@[simp] theorem opIC_int (C : Int → Int → Prop) [∀ i j, Decidable (C i j)] (g : Int → Int → PyData) (i j : Int) : opIC C g (.d (.int i)) (.d (.int j)) L = if C i j then okD (g i j) L else .stuck := Eq.trans rfl rfl
@[simp] theorem opAdd_int (i j : Int) : opAdd (.d (.int i)) (.d (.int j)) L = okD (.int (i + j)) L := Eq.trans rfl rfl
@[simp] theorem opAdd_str (i j : Str) : opAdd (.d (.str i)) (.d (.str j)) L = if i.length + j.length ≤ sizeLine then okD (.str (i ++ j)) L else .stuck := Eq.trans rfl rfl
@[simp] theorem opAdd_tup (i j : List PyData) : opAdd (.d (.tuple i)) (.d (.tuple j)) L = if i.length + j.length ≤ sizeLine then okD (.tuple (i ++ j)) L else .stuck := Eq.trans rfl rfl
@[simp] theorem opAdd_lst (i j : List PyData) : opAdd (.d (.list i)) (.d (.list j)) L = if i.length + j.length ≤ sizeLine then .ok (.new (.lst (i ++ j))) L else .stuck := Eq.trans rfl rfl
@[simp] theorem opMul_int (i j : Int) : opMul (.d (.int i)) (.d (.int j)) L = if opMulC i j then okD (.int (i * j)) L else .stuck := Eq.trans rfl rfl
@[simp] theorem opMul_lst (xs : List PyData) (j : Int) : opMul (.d (.list xs)) (.d (.int j)) L = if repOk xs.length j then .ok (.new (.lst (List.replicate j.toNat xs).flatten)) L else .stuck := Eq.trans rfl rfl
@[simp] theorem opIx_tup (xs : List PyData) (i : Int) : opIx (.d (.tuple xs)) (.d (.int i)) L = (match atI xs i with
    | some d => okD d L
    | none => .stuck) := Eq.trans rfl rfl
@[simp] theorem opIx_lst (xs : List PyData) (i : Int) : opIx (.d (.list xs)) (.d (.int i)) L = (match atI xs i with
    | some d => okD d L
    | none => .stuck) := Eq.trans rfl rfl
@[simp] theorem opIx_ro (xs : List PyData) (i : Int) : opIx (.ro xs) (.d (.int i)) L = (match atI xs i with
    | some d => okD d L
    | none => .stuck) := Eq.trans rfl rfl
@[simp] theorem opIx_str (s : Str) (i : Int) : opIx (.d (.str s)) (.d (.int i)) L = if s.length ≤ sizeLine then (match atI s.cps.toList i with
    | some c => okD (.str ⟨#[c]⟩) L
    | none => .stuck) else .stuck := Eq.trans rfl rfl
@[simp] theorem asL_lst (xs : List PyData) : asL L (.d (.list xs)) = some xs := Eq.trans rfl rfl
@[simp] theorem asL_ro (xs : List PyData) : asL L (.ro xs) = some xs := Eq.trans rfl rfl
@[simp] theorem asW_lst (xs : List PyData) : asW L (.d (.list xs)) = some xs := Eq.trans rfl rfl
@[simp] theorem asL_own : asL L (.own k) = (match L[k]? with
    | some (.lst xs) => some xs
    | _ => none) := Eq.trans rfl rfl
@[simp] theorem asW_own : asW L (.own k) = (match L[k]? with
    | some (.lst xs) => some xs
    | _ => none) := Eq.trans rfl rfl
@[simp] theorem asL_tup (xs : List PyData) : asL L (.d (.tuple xs)) = none := Eq.trans rfl rfl
theorem opIx_own (i : Int) : opIx (.own k) (.d (.int i)) L = (match asL L (.own k) with
    | some xs => (match atI xs i with
      | some d => okD d L
      | none => .stuck)
    | none => .stuck) := Eq.trans rfl rfl
@[simp] theorem opIs_d (x : SV) : opIsG false x (.d .none) L = okD (.bool (isNone x)) L := Eq.trans rfl rfl
@[simp] theorem opIsNot_d (x : SV) : opIsG true x (.d .none) L = okD (.bool (!isNone x)) L := Eq.trans rfl rfl
@[simp] theorem cLen_str (s : Str) : cLen [.d (.str s)] L = if s.length ≤ sizeLine then okD (.int s.length) L else .stuck := Eq.trans rfl rfl
@[simp] theorem cLen_tup (xs : List PyData) : cLen [.d (.tuple xs)] L = okD (.int xs.length) L := Eq.trans rfl rfl
@[simp] theorem cLen_lst (xs : List PyData) : cLen [.d (.list xs)] L = okD (.int xs.length) L := Eq.trans rfl rfl
@[simp] theorem cLen_ro (xs : List PyData) : cLen [.ro xs] L = okD (.int xs.length) L := Eq.trans rfl rfl
@[simp] theorem cLen_own : cLen [.own k] L = (match asL L (.own k) with
    | some ds => okD (.int ds.length) L
    | none => .stuck) := Eq.trans rfl rfl
@[simp] theorem cInt_int (i : Int) : cInt [.d (.int i)] L = okD (.int i) L := Eq.trans rfl rfl
@[simp] theorem cInt_bool (b : Bool) : cInt [.d (.bool b)] L = okD (.int (if b then 1 else 0)) L := Eq.trans rfl rfl
@[simp] theorem cList_tup (xs : List PyData) : cList [.d (.tuple xs)] L = .ok (.new (.lst xs)) L := Eq.trans rfl rfl
@[simp] theorem cList_lst (xs : List PyData) : cList [.d (.list xs)] L = .ok (.new (.lst xs)) L := Eq.trans rfl rfl
@[simp] theorem cList_own : cList [.own k] L = (match asL L (.own k) with
    | some ds => .ok (.new (.lst ds)) L
    | none => .stuck) := Eq.trans rfl rfl
@[simp] theorem cTuple_tup (xs : List PyData) : cTuple [.d (.tuple xs)] L = okD (.tuple xs) L := Eq.trans rfl rfl
@[simp] theorem cTuple_lst (xs : List PyData) : cTuple [.d (.list xs)] L = okD (.tuple xs) L := Eq.trans rfl rfl
@[simp] theorem cTuple_own : cTuple [.own k] L = (match asL L (.own k) with
    | some ds => okD (.tuple ds) L
    | none => .stuck) := Eq.trans rfl rfl
@[simp] theorem mListRg_ap : mListRg m n ρ L = bind2 m n fListRg ρ L := Eq.trans rfl rfl
@[simp] theorem mTupleRg_ap : mTupleRg m n ρ L = bind2 m n fTupleRg ρ L := Eq.trans rfl rfl
@[simp] theorem fListRg_int (i j : Int) : fListRg (.d (.int i)) (.d (.int j)) L = if rgOk i j then .ok (.new (.lst (rng i j))) L else .stuck := Eq.trans rfl rfl
@[simp] theorem fTupleRg_int (i j : Int) : fTupleRg (.d (.int i)) (.d (.int j)) L = if rgOk i j then okD (.tuple (rng i j)) L else .stuck := Eq.trans rfl rfl
@[simp] theorem isTy_list (x : SV) : isTy "list" L x = (asL L x).isSome := Eq.trans rfl rfl
@[simp] theorem isTy_str (x : Str) : isTy "str" L (.d (.str x)) = true := Eq.trans rfl rfl
theorem cAppend_own (y : SV) : cAppend (.own k) [y] L = (match movD y L with
    | some (d, L1) => match L1[k]? with
      | some (.lst ds) => if ds.length < sizeLine then okD .none (L1.set k (.lst (ds ++ [d]))) else .stuck
      | _ => .stuck
    | none => .stuck) := Eq.trans rfl rfl
@[simp] theorem cAppend_d (y : PyData) : cAppend (.own k) [.d y] L = (match L[k]? with
      | some (.lst ds) => if ds.length < sizeLine then okD .none (L.set k (.lst (ds ++ [y]))) else .stuck
      | _ => .stuck) := Eq.trans rfl rfl
@[simp] theorem cExtend_own (y : SV) : cExtend (.own k) [y] L = (match L[k]?, asW L y with
    | some (.lst ds), some es => if ds.length + es.length ≤ sizeLine then okD .none (L.set k (.lst (ds ++ es))) else .stuck
    | _, _ => .stuck) := Eq.trans rfl rfl
@[simp] theorem cJoin_lst (a : Str) (ds : List PyData) : cJoin (.d (.str a)) [.d (.list ds)] L = (match strsOf ds with
      | some ss => if (ss.map (·.length)).sum + ss.length * a.length ≤ 16777216 then okD (.str (Txt.join a ss)) L else .stuck
      | none => .stuck) := Eq.trans rfl rfl
@[simp] theorem cIsI_ty (n : String) (x : SV) : cIsI [x, .ty n] L = (match tyOf L x with
    | some t => match isiB t n with
      | some b => okD (.bool b) L
      | none => .stuck
    | none => .stuck) := Eq.trans rfl rfl
@[simp] theorem tyOf_none : tyOf L (.d .none) = some "NoneType" := Eq.trans rfl rfl
@[simp] theorem tyOf_bool (b : Bool) : tyOf L (.d (.bool b)) = some "bool" := Eq.trans rfl rfl
@[simp] theorem tyOf_int (b : Int) : tyOf L (.d (.int b)) = some "int" := Eq.trans rfl rfl
@[simp] theorem tyOf_str (b : Str) : tyOf L (.d (.str b)) = some "str" := Eq.trans rfl rfl
@[simp] theorem tyOf_lst (b : List PyData) : tyOf L (.d (.list b)) = some "list" := Eq.trans rfl rfl
@[simp] theorem tyOf_tup (b : List PyData) : tyOf L (.d (.tuple b)) = some "tuple" := Eq.trans rfl rfl
@[simp] theorem truOf_bool (b : Bool) : truOf L (.d (.bool b)) = some b := Eq.trans rfl rfl
@[simp] theorem truOf_none : truOf L (.d .none) = some false := Eq.trans rfl rfl
@[simp] theorem truOf_int (i : Int) : truOf L (.d (.int i)) = some (i != 0) := Eq.trans rfl rfl
@[simp] theorem truOf_lst (xs : List PyData) : truOf L (.d (.list xs)) = some (!xs.isEmpty) := Eq.trans rfl rfl
@[simp] theorem truOf_tup (xs : List PyData) : truOf L (.d (.tuple xs)) = some (!xs.isEmpty) := Eq.trans rfl rfl
@[simp] theorem truOf_own : truOf L (.own k) = (match asL L (.own k) with
    | some xs => some (!xs.isEmpty)
    | none => none) := Eq.trans rfl rfl
@[simp] theorem isNone_none : isNone (.d .none) = true := Eq.trans rfl rfl
@[simp] theorem isNone_bool (b : Bool) : isNone (.d (.bool b)) = false := Eq.trans rfl rfl
@[simp] theorem isNone_int (b : Int) : isNone (.d (.int b)) = false := Eq.trans rfl rfl
@[simp] theorem isNone_str (b : Str) : isNone (.d (.str b)) = false := Eq.trans rfl rfl
@[simp] theorem isNone_lst (b : List PyData) : isNone (.d (.list b)) = false := Eq.trans rfl rfl
@[simp] theorem isNone_tup (b : List PyData) : isNone (.d (.tuple b)) = false := Eq.trans rfl rfl
@[simp] theorem isNone_own : isNone (.own k) = false := Eq.trans rfl rfl
@[simp] theorem sSub_ap (mo mi : ME) : sSub m mo mi ρ L = sDrop (bindS m fun x => bindS mo fun o => bindS mi fun i _ L => match o, i with
  | .own n, .d (.int j) => match movD x L with
    | some (d, L1) => match L1[n]? with
      | some (.lst ds) => match ixN ds.length j with
        | some p => okD .none (L1.set n (.lst (ds.set p d)))
        | none => .stuck
      | _ => .stuck
    | none => .stuck
  | _, _ => .stuck) ρ L := Eq.trans rfl rfl
@[simp] theorem sNx_ap : sNx ρ L = .nx ρ L := Eq.trans rfl rfl
@[simp] theorem sBk_ap : sBk ρ L = .bk ρ L := Eq.trans rfl rfl
@[simp] theorem sCt_ap : sCt ρ L = .ct ρ L := Eq.trans rfl rfl
@[simp] theorem sRetN_ap : sRetN ρ L = .rt (.sv (.d .none)) L := Eq.trans rfl rfl
@[simp] theorem sSeq_ap : sSeq a b ρ L = (match a ρ L with
  | .nx ρ1 L1 => b ρ1 L1
  | r => r) := Eq.trans rfl rfl
@[simp] theorem sDrop_ap : sDrop m ρ L = (match m ρ L with
  | .ok _ L1 => .nx ρ L1
  | .exc c p L1 => .exc c p ρ L1
  | .stuck => .stuck) := Eq.trans rfl rfl
@[simp] theorem sRet_ap : sRet m ρ L = (match m ρ L with
  | .ok r L1 => .rt r L1
  | .exc c p L1 => .exc c p ρ L1
  | .stuck => .stuck) := Eq.trans rfl rfl
@[simp] theorem sIf_ap : sIf t a b ρ L = (match t ρ L with
  | .ok (.sv (.d (.bool true))) L1 => a ρ L1
  | .ok (.sv (.d (.bool false))) L1 => b ρ L1
  | .ok _ _ => .stuck
  | .exc c p L1 => .exc c p ρ L1
  | .stuck => .stuck) := Eq.trans rfl rfl
@[simp] theorem sAsg_ap : sAsg i m ρ L = (match m ρ L with
  | .ok r L1 => match toS r with
    | some x => .nx (ρ.set i (some x)) L1
    | none => .stuck
  | .exc c p L1 => .exc c p ρ L1
  | .stuck => .stuck) := Eq.trans rfl rfl
@[simp] theorem sOwn_ap : sOwn i m ρ L = (match m ρ L with
  | .ok (.new o) L1 => .nx (ρ.set i (some (.own L1.length))) (L1 ++ [o])
  | .ok (.sv x) L1 => .nx (ρ.set i (some x)) L1
  | .exc c p L1 => .exc c p ρ L1
  | .stuck => .stuck) := Eq.trans rfl rfl
@[simp] theorem sAug_ap (g : Int → Int → Int) : sAug i m g ρ L = (match ρ[i]? with
  | some (some (.d (.int a))) => match m ρ L with
    | .ok (.sv (.d (.int b))) L1 => .nx (ρ.set i (some (.d (.int (g a b))))) L1
    | .ok _ _ => .stuck
    | .exc c p L1 => .exc c p ρ L1
    | .stuck => .stuck
  | _ => .stuck) := Eq.trans rfl rfl
@[simp] theorem mkFn_ap (np nn : Nat) (s : MS) (xs : List SV) : mkFn np nn s xs L = if xs.length = np then cutR L.length (s (xs.map some ++ List.replicate (nn - np) none) L) else .stuck := Eq.trans rfl rfl
@[simp] theorem cutR_nx : cutR k (.nx ρ L) = .ok (.sv (.d .none)) (L.take k) := Eq.trans rfl rfl
@[simp] theorem cutR_rt_d (x : PyData) : cutR k (.rt (.sv (.d x)) L) = .ok (.sv (.d x)) (L.take k) := Eq.trans rfl rfl
@[simp] theorem cutR_rt_new (o : MO) : cutR k (.rt (.new o) L) = .ok (.new o) (L.take k) := Eq.trans rfl rfl
@[simp] theorem cutR_exc (c : Str) (p : Pay) : cutR k (.exc c p ρ L) = .exc c p (L.take k) := Eq.trans rfl rfl
@[simp] theorem cutR_stuck : cutR k .stuck = .stuck := Eq.trans rfl rfl
theorem cutR_rt_own : cutR k (.rt (.sv (.own i)) L) = if i < k then .ok (.sv (.own i)) (L.take k) else match L[i]? with
    | some (.lst xs) => .ok (.new (.lst xs)) (L.take k)
    | _ => .stuck := Eq.trans rfl rfl
@[simp] theorem put_nm (d : PyData) : (Tg.nm i).put d ρ = some (ρ.set i (some (.d d))) := Eq.trans rfl rfl
@[simp] theorem put_tup (is : List Nat) (ds : List PyData) : (Tg.tup is).put (.tuple ds) ρ = setAll is ds ρ := Eq.trans rfl rfl
@[simp] theorem scrub_nil (n : Nat) : scrub n [] = [] := Eq.trans rfl rfl
@[simp] theorem scrub_cons (n : Nat) (o : Option SV) : scrub n (o :: ρ) = keepS n o :: scrub n ρ := Eq.trans rfl rfl
@[simp] theorem keepS_none (n : Nat) : keepS n none = none := Eq.trans rfl rfl
@[simp] theorem keepS_d (n : Nat) (x : PyData) : keepS n (some (.d x)) = some (.d x) := Eq.trans rfl rfl
@[simp] theorem keepS_ro (n : Nat) (x : List PyData) : keepS n (some (.ro x)) = some (.ro x) := Eq.trans rfl rfl
@[simp] theorem keepS_ty (n : Nat) (x : String) : keepS n (some (.ty x)) = some (.ty x) := Eq.trans rfl rfl
@[simp] theorem keepS_own (n m : Nat) : keepS n (some (.own m)) = if m < n then some (.own m) else none := Eq.trans rfl rfl
@[simp] theorem guard_none : guardOk none L = true := Eq.trans rfl rfl
theorem okR_of {j : Int} (h0 : -1000000000 ≤ j) (h : j ≤ 1000000000) : okR j := by unfold okR; omega
@[simp] theorem iRange1_ap (ms : List ME) : iRange1 ms ρ L = (match evalA ms ρ L with
  | .ok [.d (.int j)] L1 => if okR j then .ok (rng 0 j) none L1 else .stuck
  | .ok _ _ => .stuck
  | .exc c p L1 => .exc c p L1
  | .stuck => .stuck) := Eq.trans rfl rfl
@[simp] theorem iRange2_ap (ms : List ME) : iRange2 ms ρ L = (match evalA ms ρ L with
  | .ok [.d (.int i), .d (.int j)] L1 => if okR i ∧ okR j then .ok (rng i j) none L1 else .stuck
  | .ok _ _ => .stuck
  | .exc c p L1 => .exc c p L1
  | .stuck => .stuck) := Eq.trans rfl rfl
@[simp] theorem iOf_ap : iOf m ρ L = (match m ρ L with
  | .ok r L1 => match toS r with
    | some x => match itOf L1 x with
      | some (ds, g) => .ok ds g L1
      | none => .stuck
    | none => .stuck
  | .exc c p L1 => .exc c p L1
  | .stuck => .stuck) := Eq.trans rfl rfl
@[simp] theorem itOf_lst (xs : List PyData) : itOf L (.d (.list xs)) = some (xs, none) := Eq.trans rfl rfl
@[simp] theorem itOf_tup (xs : List PyData) : itOf L (.d (.tuple xs)) = some (xs, none) := Eq.trans rfl rfl
@[simp] theorem itOf_str (s : Str) : itOf L (.d (.str s)) = some (signs s, none) := Eq.trans rfl rfl
@[simp] theorem itOf_ro (xs : List PyData) : itOf L (.ro xs) = some (xs, none) := Eq.trans rfl rfl
@[simp] theorem itOf_own : itOf L (.own k) = (match L[k]? with
    | some (.lst xs) => some (xs, some (k, xs))
    | _ => none) := Eq.trans rfl rfl
theorem repOk_of {n : Nat} {j : Int} (h : -100000 ≤ j ∧ j ≤ 100000) (h2 : n * j.toNat ≤ 100000) : repOk n j := ⟨by omega, by omega, by rw [sizeLine_eq]; omega⟩
@[simp] theorem le_line {n : Nat} (h : n ≤ 100000) : n ≤ sizeLine := by rw [sizeLine_eq]; omega
@[simp] theorem lt_line {n : Nat} (h : n ≤ 100000) : n < sizeLine := by rw [sizeLine_eq]; omega
end
theorem seq_eq {a b : MS} {ρ ρ1 : Rho} {L L1 : Sto} {r : RS} (h : a ρ L = .nx ρ1 L1) (h2 : b ρ1 L1 = r) : sSeq a b ρ L = r := by
  rw [sSeq_ap, h]
  exact h2
theorem fn_eq {np nn : Nat} {s : MS} {xs : List SV} {L : Sto} {r : RS} {r' : RE} (hl : xs.length = np) (h : s (xs.map some ++ List.replicate (nn - np) none) L = r) (h2 : cutR L.length r = r') : mkFn np nn s xs L = r' := by
  rw [mkFn_ap, if_pos hl, h, h2]
theorem if_t {t : ME} {a b : MS} {ρ : Rho} {L L1 : Sto} {r : RS} (h : t ρ L = okD (.bool true) L1) (h2 : a ρ L1 = r) : sIf t a b ρ L = r := by
  rw [sIf_ap, h, okD_eq]
  exact h2
theorem if_f {t : ME} {a b : MS} {ρ : Rho} {L L1 : Sto} {r : RS} (h : t ρ L = okD (.bool false) L1) (h2 : b ρ L1 = r) : sIf t a b ρ L = r := by
  rw [sIf_ap, h, okD_eq]
  exact h2
theorem ret_eq {m : ME} {ρ : Rho} {L L1 : Sto} {r : Ret} (h : m ρ L = .ok r L1) : sRet m ρ L = .rt r L1 := by rw [sRet_ap, h]
theorem asg_eq {m : ME} {i : Nat} {ρ : Rho} {L L1 : Sto} {r : Ret} {x : SV} (h : m ρ L = .ok r L1) (h2 : toS r = some x) : sAsg i m ρ L = .nx (ρ.set i (some x)) L1 := by rw [sAsg_ap, h]; simp only [h2]
theorem drop_eq {m : ME} {ρ : Rho} {L L1 : Sto} {r : Ret} (h : m ρ L = .ok r L1) : sDrop m ρ L = .nx ρ L1 := by rw [sDrop_ap, h]
theorem sFor_ap (t : Tg) (it : MI) (body : MS) (ρ : Rho) (L : Sto) : sFor t it body ρ L = (match it ρ L with
  | .ok ds g L1 => if guardOk g L1 = true then forL t body L1.length g ds ρ L1 else .stuck
  | .exc c p L1 => .exc c p ρ L1
  | .stuck => .stuck) := Eq.trans rfl rfl
section
variable {t : Tg} {body : MS} {n : Nat} {g : Option (Nat × List PyData)} {ρ : Rho} {L : Sto}
/-- WP for a for: I by the turn, P of the result -/
theorem forL_wp (I : Nat → Rho → Sto → Prop) (P : RS → Prop) : ∀ (ds : List PyData) (i : Nat) (ρ : Rho) (L : Sto), I i ρ L →
    (∀ j d ρ L, i ≤ j → ds[j - i]? = some d → I j ρ L → ∃ ρ1, t.put d ρ = some ρ1 ∧ match body ρ1 L with
      | .nx ρ2 L2 => guardOk g (L2.take n) = true ∧ n ≤ L2.length ∧ I (j + 1) (scrub n ρ2) (L2.take n)
      | .ct ρ2 L2 => guardOk g (L2.take n) = true ∧ n ≤ L2.length ∧ I (j + 1) (scrub n ρ2) (L2.take n)
      | .bk ρ2 L2 => P (.nx (scrub n ρ2) (L2.take n))
      | .rt r L2 => P (.rt r L2)
      | .exc c p ρ2 L2 => P (.exc c p ρ2 L2)
      | .stuck => False) →
    (∀ ρ L, I (i + ds.length) ρ L → P (.nx ρ L)) → P (forL t body n g ds ρ L)
  | [], i, ρ, L, h0, _, he => by
    rw [forL]
    exact he ρ L (by simpa using h0)
  | d :: ds, i, ρ, L, h0, hs, he => by
    obtain ⟨ρ1, e1, h1⟩ := hs i d ρ L (Nat.le_refl _) (by simp) h0
    rw [forL]
    simp only [e1]
    have next : ∀ (ρ2 : Rho) (L2 : Sto), guardOk g (L2.take n) = true ∧ n ≤ L2.length ∧ I (i + 1) (scrub n ρ2) (L2.take n) → P (if guardOk g (L2.take n) = true ∧ n ≤ L2.length then forL t body n g ds (scrub n ρ2) (L2.take n) else .stuck) := by
      intro ρ2 L2 ⟨c1, c2, c3⟩
      rw [if_pos ⟨c1, c2⟩]
      refine forL_wp I P ds (i + 1) _ _ c3 (fun j d' ρ L hj hd hI => hs j d' ρ L (by omega) ?_ hI) (fun ρ L h => he ρ L ?_)
      · have e : j - i = (j - (i + 1)) + 1 := by omega
        rw [e, List.getElem?_cons_succ]; exact hd
      · have e : i + 1 + ds.length = i + (d :: ds).length := by simp; omega
        rw [← e]; exact h
    cases hb : body ρ1 L with
    | nx ρ2 L2 => simp only [hb] at h1; exact next _ _ h1
    | ct ρ2 L2 => simp only [hb] at h1; exact next _ _ h1
    | bk ρ2 L2 => simp only [hb] at h1; exact h1
    | rt r L2 => simp only [hb] at h1; exact h1
    | exc c p ρ2 L2 => simp only [hb] at h1; exact h1
    | stuck => simp only [hb] at h1
/-- a for that runs to its end -/
theorem forL_run (I : Nat → Rho → Sto → Prop) {ds : List PyData} (h0 : I 0 ρ L)
    (hs : ∀ j d ρ L, ds[j]? = some d → I j ρ L → ∃ ρ1 ρ2 L2, t.put d ρ = some ρ1 ∧ (body ρ1 L = .nx ρ2 L2 ∨ body ρ1 L = .ct ρ2 L2) ∧ guardOk g (L2.take n) = true ∧ n ≤ L2.length ∧ I (j + 1) (scrub n ρ2) (L2.take n)) :
    ∃ ρ' L', forL t body n g ds ρ L = .nx ρ' L' ∧ I ds.length ρ' L' := by
  refine forL_wp I (fun r => ∃ ρ' L', r = .nx ρ' L' ∧ I ds.length ρ' L') ds 0 ρ L h0 (fun j d ρ L _ hd hI => ?_) (fun ρ L h => ⟨ρ, L, rfl, by simpa using h⟩)
  obtain ⟨ρ1, ρ2, L2, e1, e2, e3, e4, e5⟩ := hs j d ρ L (by simpa using hd) hI
  refine ⟨ρ1, e1, ?_⟩
  rcases e2 with e2 | e2 <;> (rw [e2]; exact ⟨e3, e4, e5⟩)
theorem sFor_ok {it : MI} {ds : List PyData} {L1 : Sto} (h : it ρ L = .ok ds g L1) (hg : guardOk g L1 = true) : sFor t it body ρ L = forL t body L1.length g ds ρ L1 := by
  unfold sFor
  simp only [h, hg, if_true]
/-- a comprehension whose element and test change nothing -/
theorem compL_pure {tst elt : ME} (F : PyData → Option PyData) {ρ0 : Rho} : ∀ (ds acc : List PyData) (L : Sto), guardOk g L = true → L.length = n → acc.length + ds.length ≤ sizeLine →
    (∀ d ∈ ds, ∀ acc : List PyData, ∃ ρ1, t.put d ρ0 = some ρ1 ∧ match F d with
      | some y => tst ρ1 (L ++ [.lst acc]) = okD (.bool true) (L ++ [.lst acc]) ∧ ∃ r, elt ρ1 (L ++ [.lst acc]) = .ok r (L ++ [.lst acc]) ∧ toS r = some (.d y)
      | none => tst ρ1 (L ++ [.lst acc]) = okD (.bool false) (L ++ [.lst acc])) →
    compL t tst elt n g ρ0 ds acc L = .ok (.new (.lst (acc ++ ds.filterMap F))) L
  | [], acc, L, hg, hl, hz, h => by rw [compL]; simp
  | d :: ds, acc, L, hg, hl, hz, h => by
    obtain ⟨ρ1, e1, h1⟩ := h d List.mem_cons_self acc
    rw [compL]
    simp only [e1]
    have hn : (L ++ [MO.lst acc])[n]? = some (.lst acc) := by subst hl; rw [List.getElem?_append_right (Nat.le_refl _)]; simp
    have ht : (L ++ [MO.lst acc]).take n = L := by subst hl; exact List.take_left' rfl
    have hlt : acc.length < sizeLine := by simp at hz; omega
    cases hF : F d with
    | some y =>
      rw [hF] at h1
      obtain ⟨h2, r, h3, h4⟩ := h1
      simp only [h2, okD_eq, h3, h4, movD_d, hn, ht, hg, hlt, and_self, if_true]
      rw [compL_pure F ds (acc ++ [y]) L hg hl (by simp at hz ⊢; omega) fun d' hd' => h d' (List.mem_cons_of_mem _ hd')]
      simp [List.filterMap_cons, hF]
    | none =>
      rw [hF] at h1
      simp only [h1, okD_eq, hn, ht, hg, and_self, if_true]
      rw [compL_pure F ds acc L hg hl (by simp at hz; omega) fun d' hd' => h d' (List.mem_cons_of_mem _ hd')]
      simp [List.filterMap_cons, hF]
theorem mComp_ok {vs : List Nat} {tst elt : ME} {it : MI} {ds : List PyData} {L1 : Sto} (h : it ρ L = .ok ds g L1) (hg : guardOk g L1 = true) (hs : ∀ i ∈ t.sl, i ∈ vs) : mComp t vs tst elt it ρ L = compL t tst elt L1.length g (wipeR ρ vs) ds [] L1 := by
  unfold mComp
  simp only [h]
  rw [if_pos ⟨hg, hs⟩]
/-- .. over frozen data, no test: the list of f's values -/
theorem mComp_map {vs : List Nat} {elt : ME} {it : MI} {ds : List PyData} {L1 : Sto} (f : PyData → PyData) (h : it ρ L = .ok ds none L1) (hs : ∀ i ∈ t.sl, i ∈ vs) (hz : ds.length ≤ sizeLine)
    (he : ∀ d ∈ ds, ∀ L2 : Sto, ∃ ρ1, t.put d (wipeR ρ vs) = some ρ1 ∧ ∃ r, elt ρ1 L2 = .ok r L2 ∧ toS r = some (.d (f d))) :
    mComp t vs (mC (.d (.bool true))) elt it ρ L = .ok (.new (.lst (ds.map f))) L1 := by
  rw [mComp_ok h rfl hs, compL_pure (fun d => some (f d)) ds [] L1 rfl rfl (by simpa using hz) fun d hd acc => ?_]
  · simp
  · obtain ⟨ρ1, e, r, e1, e2⟩ := he d hd (L1 ++ [.lst acc])
    exact ⟨ρ1, e, rfl, r, e1, e2⟩
end
end PD
namespace PD
open PySem L2
/-- a walk from any heap: P by the turn -/
theorem walk_go {J : It} {n : Nat} {G : Hp → Prop} {Y : Nat → Hp → V → Hp → Prop} (w : Walk J n G Y) {H0 : Hp} {Qd : Hp → Prop} {R : V → Hp → (Hp → Prop) → Prop} (Pv : Nat → Hp → Prop) (h0 : Pv 0 H0) (hG : ∀ i H, i ≤ n → Pv i H → G H)
    (hs : ∀ i x H H', i < n → Pv i H → Y i H x H' → R x H' (Pv (i + 1))) (hd : ∀ H, Pv n H → Qd H) :
    ∃ W : Nat → Nat → Hp → Prop, (∃ m, W 0 m H0) ∧ ∀ i m H, W i m H → (J.stop i H ∧ Qd H) ∨ (J.go i H ∧ ∃ Nx : Hp → Prop, (∀ H', Nx H' → ∃ m', m' < m ∧ W (i + 1) m' H') ∧ ∀ x H', J.yld i H x H' → R x H' Nx) := by
  refine ⟨fun i m H => m = n - i ∧ i ≤ n ∧ Pv i H, ⟨n, by simp, Nat.zero_le _, h0⟩, ?_⟩
  rintro i m H ⟨hm, hi, p⟩
  subst hm
  have q := hG i H hi p
  by_cases hlt : i < n
  · exact .inr ⟨w.goes i H hlt q, Pv (i + 1), fun H' p' => ⟨n - (i + 1), by omega, rfl, hlt, p'⟩, fun x H' y => hs i x H H' hlt p (w.yields i H x H' hlt q y)⟩
  · have e : i = n := by omega
    subst e
    exact .inl ⟨w.stops H q, hd H p⟩
section
variable {X : Cx} {W : WX} {k : Kx} {σ : L2.St} {Q Q' : VK} {φ φ' : List Addr} {F F' H H' : Hp} {ρ : Rho} {L : Sto}
inductive RC where
  | ok (acc : List PyData) (L : Sto)
  | stuck
open Classical in
noncomputable def compIn (t : Tg) (elt : ME) (n : Nat) (g g1 : Option (Nat × List PyData)) (ρ0 : Rho) : List PyData → List PyData → Sto → RC
  | [], acc, L => .ok acc L
  | d :: ds, acc, L => match t.put d ρ0 with
    | some ρ1 => match elt ρ1 (L ++ [.lst acc]) with
      | .ok r L2 => match toS r with
        | some x => match movD x L2 with
          | some (y, L3) => if L3[n]? = some (.lst acc) ∧ guardOk g (L3.take n) = true ∧ guardOk g1 (L3.take n) = true ∧ acc.length < sizeLine then compIn t elt n g g1 ρ0 ds (acc ++ [y]) (L3.take n) else .stuck
          | none => .stuck
        | none => .stuck
      | _ => .stuck
    | none => .stuck
open Classical in
noncomputable def compL2 (t t1 : Tg) (vs1 : List Nat) (it1 : MI) (elt : ME) (n : Nat) (g : Option (Nat × List PyData)) (ρ0 : Rho) : List PyData → List PyData → Sto → RE
  | [], acc, L => .ok (.new (.lst acc)) L
  | d :: ds, acc, L => match t.put d ρ0 with
    | some ρ1 => match it1 ρ1 (L ++ [.lst acc]) with
      | .ok ds1 g1 L1 => if L1[n]? = some (.lst acc) ∧ L1.length = n + 1 ∧ guardOk g (L1.take n) = true ∧ guardOk g1 (L1.take n) = true then (match compIn t1 elt n g g1 (wipeR ρ1 vs1) ds1 acc (L1.take n) with
        | .ok acc' L2 => compL2 t t1 vs1 it1 elt n g ρ0 ds acc' L2
        | .stuck => .stuck) else .stuck
      | _ => .stuck
    | none => .stuck
noncomputable def mComp2 (t : Tg) (vs : List Nat) (it : MI) (t1 : Tg) (vs1 : List Nat) (it1 : MI) (elt : ME) : ME := fun ρ L => match it ρ L with
  | .ok ds g L1 => if guardOk g L1 = true ∧ (∀ i ∈ t.sl, i ∈ vs) ∧ (∀ i ∈ t1.sl, i ∈ vs1) then compL2 t t1 vs1 it1 elt L1.length g (wipeR ρ vs) ds [] L1 else .stuck
  | .exc c p L1 => .exc c p L1
  | .stuck => .stuck
/-- what holds while the new list, at D, is filled -/
def Fill (k : Kx) (φ1 : List Addr) (F1 : Hp) (n : Nat) (D : Addr) (g : Option (Nat × List PyData)) (P : List Addr → Hp → List PyData → Sto → Prop) (H' : Hp) : Prop :=
  ∃ φ2 F2 L2 acc, Lq φ1 F1 φ2 F2 ∧ Rl k (φ2 ++ [D]) F2 H' (L2 ++ [.lst acc]) ∧ L2.length = n ∧ guardOk g L2 = true ∧ P φ2 F2 acc L2
theorem Lq.app (φ : List Addr) (F : Hp) (D : Addr) : Lq φ F (φ ++ [D]) F := ⟨fun m b e => by rw [List.getElem?_append_left (List.getElem?_eq_some_iff.mp e).1]; exact e, fun _ _ e => e⟩
theorem guard_app {g : Option (Nat × List PyData)} {L : Sto} {o : MO} (h : guardOk g L = true) : guardOk g (L ++ [o]) = true := by
  cases g with
  | none => exact h
  | some p =>
    obtain ⟨n, xs⟩ := p
    rw [guardOk_some] at h ⊢
    rw [List.getElem?_append_left (List.getElem?_eq_some_iff.mp h).1]
    exact h
theorem guard_take {g : Option (Nat × List PyData)} {L : Sto} {n : Nat} (h : guardOk g (L.take n) = true) : guardOk g L = true := by
  cases g with
  | none => exact h
  | some p =>
    obtain ⟨m, xs⟩ := p
    rw [guardOk_some] at h ⊢
    exact (take_get.mp h).1
/-- cutting back to the new list -/
theorem cut_fill {φ5 : List Addr} {F6 H5 : Hp} {Lc : Sto} {D : Addr} {n : Nat} {acc : List PyData} (R : Rl k φ5 F6 H5 Lc) (hD : φ5[n]? = some D) (c1 : Lc[n]? = some (.lst acc)) : Rl k (φ5.take n ++ [D]) F6 H5 (Lc.take n ++ [.lst acc]) := by
  have Rc := R.cut (n + 1)
  have e1 : φ5.take (n + 1) = φ5.take n ++ [D] := by rw [List.take_add_one, hD] <;> rfl
  have e2 : Lc.take (n + 1) = Lc.take n ++ [.lst acc] := by rw [List.take_add_one, c1] <;> rfl
  rw [e1, e2] at Rc
  exact Rc
theorem comp_read2 {wi wi1 : TI} {t t1 : Tg} {elt : ME} {it it1 : MI} {vs vs1 : List Nat} (h : tE k W (mComp2 t vs it t1 vs1 it1 elt) σ H Q) (hw : ∀ σ H R, tI k W it σ H R → wi σ H R) (hw1 : ∀ σ H R, tI k W0 it1 σ H R → wi1 σ H R) :
    tLc2 wi (t.tg k.K) (tT k W0 (mC (.d (.bool true)))) wi1 (t1.tg k.K) (tT k W0 (mC (.d (.bool true)))) (tE k W0 elt) vs vs1 σ H Q := by
  obtain ⟨φ, F, ρ, L, env, R, g⟩ := h
  refine hw _ _ _ ⟨φ, F, ρ, L, env, R, ?_⟩
  unfold mComp2 at g
  cases hit : it ρ L with
  | ok ds gd L1 =>
    simp only [hit] at g
    split at g
    · rename_i hg0
      obtain ⟨hg0, hsub, hsub1⟩ := hg0
      intro φ1 F1 H1 J q1 R1 fd D hD
      obtain ⟨G, Y, wk, hG, hY⟩ := fd
      refine walk_go wk (fun i H' => Fill k φ1 F1 L1.length D gd (fun φ2 F2 acc L2 => GoodE k W σ Q φ2 F2 (compL2 t t1 vs1 it1 elt L1.length gd (wipeR ρ vs) (ds.drop i) acc L2)) H') ?_ ?_ ?_ ?_
      · have R2 := (R1.newLst (k := k) (ds := []) (xs := []) hD rfl).1
        exact ⟨φ1, F1, L1, [], Lq.refl _ _, (R2.push (R1.newLst (ds := []) hD rfl).2).1, rfl, hg0, GoodE.lq g q1⟩
      · rintro i H' hi ⟨φ2, F2, L2, acc, q2, R2, l2, g2, _⟩
        exact hG φ2 F2 H' L2 q2 R2.pop.1 g2
      · intro i x H' H2 hi ⟨φ2, F2, L2, acc, q2, R2, l2, g2, gs⟩ y
        have qp : Lq φ2 F2 (φ2 ++ [D]) F2 := Lq.app _ _ _
        have ga : guardOk gd (L2 ++ [.lst acc]) = true := guard_app g2
        obtain ⟨F3, q3, R3, d, hd, rd⟩ := hY i H' x H2 (φ2 ++ [D]) F2 (L2 ++ [.lst acc]) hi (q2.trans qp) R2 ga y
        have hdr : ds.drop i = d :: ds.drop (i + 1) := by
          rw [List.drop_eq_getElem_cons hi]
          rw [List.getElem?_eq_getElem hi] at hd
          cases hd
          rfl
        rw [hdr] at gs
        unfold compL2 at gs
        cases hp : t.put d (wipeR ρ vs) with
        | none => simp only [hp] at gs; exact gs.elim
        | some ρ3 =>
          simp only [hp] at gs
          have qs : Lq φ1 F1 (φ2 ++ [D]) F3 := (q2.trans qp).trans q3
          refine Tg.ok ((env.lq (q1.trans qs)).wipe vs) R3 rd hp fun σ3 e3 sb => ⟨wipe_same sb hsub, φ2 ++ [D], F3, ρ3, L2 ++ [.lst acc], e3, R3, ?_⟩
          have hlen : φ2.length = L1.length := by rw [R2.pop.1.len, l2]
          have hD2 : (φ2 ++ [D])[L1.length]? = some D := by rw [← hlen, List.getElem?_append_right (Nat.le_refl _)]; simp
          intro φ4 F4 H4 q4 R4
          show (if true = true then _ else _)
          rw [if_pos rfl]
          refine hw1 _ _ _ ⟨φ4, F4, ρ3, _, e3.lq q4, R4, ?_⟩
          split at gs
          · rename_i ds1 gd1 La hta
            rw [hta]
            split at gs
            · rename_i hc
              obtain ⟨c1, cl, c2, c3⟩ := hc
              intro φ5 F5 H5 J1 q5 R5 fd1
              obtain ⟨G1, Y1, wk1, hG1, hY1⟩ := fd1
              have q15 : Lq φ1 F1 φ5 F5 := qs.trans (q4.trans q5)
              have hD5 : φ5[L1.length]? = some D := (q4.trans q5).pre _ _ hD2
              have h5 : φ5.length = L1.length + 1 := by rw [R5.len, cl]
              have q25 : Lq φ2 F2 (φ5.take L1.length) F5 := (qp.trans (q3.trans (q4.trans q5))).cut (by rw [hlen]; exact Nat.le_refl _)
              have e5 : φ5 = φ5.take L1.length ++ [D] := by
                have : φ5.take (L1.length + 1) = φ5.take L1.length ++ [D] := by rw [List.take_add_one, hD5] <;> rfl
                rw [← this, List.take_of_length_le (by rw [h5]; exact Nat.le_refl _)]
              have eL : La = La.take L1.length ++ [.lst acc] := by
                have : La.take (L1.length + 1) = La.take L1.length ++ [.lst acc] := by rw [List.take_add_one, c1] <;> rfl
                rw [← this, List.take_of_length_le (by rw [cl]; exact Nat.le_refl _)]
              refine walk_go wk1 (fun j H' => ∃ φ6 F6 L6 ac6, Lq φ5 F5 (φ6 ++ [D]) F6 ∧ Rl k (φ6 ++ [D]) F6 H' (L6 ++ [.lst ac6]) ∧ L6.length = L1.length ∧ guardOk gd L6 = true ∧ guardOk gd1 L6 = true ∧
                GoodE k W σ Q φ6 F6 (match compIn t1 elt L1.length gd gd1 (wipeR ρ3 vs1) (ds1.drop j) ac6 L6 with
                  | .ok acc' L3 => compL2 t t1 vs1 it1 elt L1.length gd (wipeR ρ vs) (ds.drop (i + 1)) acc' L3
                  | .stuck => .stuck)) ?_ ?_ ?_ ?_
              · refine ⟨φ5.take L1.length, F5, La.take L1.length, acc, ?_, ?_, ?_, c2, c3, GoodE.lq gs q25⟩
                · rw [← e5]; exact Lq.refl _ _
                · rw [← e5, ← eL]; exact R5
                · rw [List.length_take]; omega
              · rintro j H6 hj ⟨φ6, F6, L6, ac6, q6, R6, l6, g6, g61, _⟩
                exact hG1 _ _ _ _ q6 R6 (guard_app g61)
              · intro j x1 H6 H7 hj ⟨φ6, F6, L6, ac6, q6, R6, l6, g6, g61, gs6⟩ y1
                have ga6 : guardOk gd1 (L6 ++ [.lst ac6]) = true := guard_app g61
                obtain ⟨F7, q7, R7, d1, hd1, rd1⟩ := hY1 j H6 x1 H7 (φ6 ++ [D]) F6 (L6 ++ [.lst ac6]) hj q6 R6 ga6 y1
                have hdr1 : ds1.drop j = d1 :: ds1.drop (j + 1) := by
                  rw [List.drop_eq_getElem_cons hj]
                  rw [List.getElem?_eq_getElem hj] at hd1
                  cases hd1
                  rfl
                rw [hdr1] at gs6
                unfold compIn at gs6
                cases hp1 : t1.put d1 (wipeR ρ3 vs1) with
                | none => simp only [hp1] at gs6; exact gs6.elim
                | some ρ8 =>
                  simp only [hp1] at gs6
                  have h6 : φ6.length = L1.length := by rw [R6.pop.1.len, l6]
                  have hD6 : (φ6 ++ [D])[L1.length]? = some D := by rw [← h6, List.getElem?_append_right (Nat.le_refl _)]; simp
                  refine Tg.ok ((e3.lq ((q4.trans q5).trans (q6.trans q7))).wipe vs1) R7 rd1 hp1 fun σ8 e8 sb8 => ⟨wipe_same sb8 hsub1, φ6 ++ [D], F7, ρ8, L6 ++ [.lst ac6], e8, R7, ?_⟩
                  intro φ8 F8 H8 q8 R8
                  show (if true = true then _ else _)
                  rw [if_pos rfl]
                  refine ⟨φ8, F8, ρ8, _, e8.lq q8, R8, ?_⟩
                  cases he : elt ρ8 (L6 ++ [.lst ac6]) with
                  | exc c p Lb => simp only [he] at gs6; exact gs6.elim
                  | stuck => simp only [he] at gs6; exact gs6.elim
                  | ok r Lb =>
                  simp only [he] at gs6
                  cases hx : toS r with
                  | none => simp only [hx] at gs6; exact gs6.elim
                  | some xv =>
                  simp only [hx] at gs6
                  cases hmv : movD xv Lb with
                  | none => simp only [hmv] at gs6; exact gs6.elim
                  | some yl =>
                  obtain ⟨yv, Lc⟩ := yl
                  simp only [hmv] at gs6
                  by_cases hc6 : Lc[L1.length]? = some (.lst ac6) ∧ guardOk gd (Lc.take L1.length) = true ∧ guardOk gd1 (Lc.take L1.length) = true ∧ ac6.length < sizeLine
                  rotate_left
                  · rw [if_neg hc6] at gs6; exact gs6.elim
                  rw [if_pos hc6] at gs6
                  obtain ⟨c61, c62, c63, c64⟩ := hc6
                  have main : ∀ φ9 F9 H9 v, Lq φ8 F8 φ9 F9 → Rl k φ9 F9 H9 Lb → RepS k φ9 F9 xv v → ∃ acc, H9 D = some (.lst acc) ∧ acc.length < sizeLine ∧
                      ∃ φ2 F2 L2 ac2, Lq φ5 F5 (φ2 ++ [D]) F2 ∧ Rl k (φ2 ++ [D]) F2 (upd H9 D (.lst (acc ++ [v]))) (L2 ++ [.lst ac2]) ∧ L2.length = L1.length ∧ guardOk gd L2 = true ∧ guardOk gd1 L2 = true ∧
                        GoodE k W σ Q φ2 F2 (match compIn t1 elt L1.length gd gd1 (wipeR ρ3 vs1) (ds1.drop (j + 1)) ac2 L2 with
                          | .ok acc' L3 => compL2 t t1 vs1 it1 elt L1.length gd (wipeR ρ vs) (ds.drop (i + 1)) acc' L3
                          | .stuck => .stuck) := by
                    intro φ9 F9 H9 v q9 R9 r9
                    obtain ⟨F10, q10, R10, r10⟩ := movD_ok R9 r9 hmv
                    have q89 : Lq (φ6 ++ [D]) F7 φ9 F10 := q8.trans (q9.trans q10)
                    have hD9 : φ9[L1.length]? = some D := q89.pre _ _ hD6
                    obtain ⟨_, ys, h1, h2⟩ := R10.own _ _ D c61 hD9
                    have Rw := R10.write c61 hD9 (h2.app (es := [yv]) (ys := [v]) ⟨v, [], rfl, r10, rfl⟩)
                    have hle : L1.length < Lc.length := (List.getElem?_eq_some_iff.mp c61).1
                    have Rc := Rw.cut (L1.length + 1)
                    have e1 : φ9.take (L1.length + 1) = φ9.take L1.length ++ [D] := by
                      rw [List.take_add_one, hD9] <;> rfl
                    have e2 : (Lc.set L1.length (.lst (ac6 ++ [yv]))).take (L1.length + 1) = Lc.take L1.length ++ [.lst (ac6 ++ [yv])] := by
                      rw [List.take_add_one, List.getElem?_set_self hle, List.take_set_of_le (Nat.le_refl _)] <;> rfl
                    rw [e1, e2] at Rc
                    have q2c : Lq φ6 F6 (φ9.take L1.length) F10 := ((Lq.app φ6 F6 D).trans (q7.trans q89)).cut (by rw [h6]; exact Nat.le_refl _)
                    have q5c : Lq φ5 F5 (φ9.take L1.length ++ [D]) F10 := by
                      rw [← e1]
                      exact (q6.trans (q7.trans q89)).cut (by rw [h5]; exact Nat.le_refl _)
                    refine ⟨ys, h1, by rw [h2.len]; exact c64, φ9.take L1.length, F10, Lc.take L1.length, ac6 ++ [yv], q5c, Rc, ?_, c62, c63, GoodE.lq gs6 q2c⟩
                    rw [List.length_take]
                    omega
                  cases r with
                  | sv y0 => cases hx; exact main
                  | new o =>
                    intro φ9 F9 H9 a q9 R9 n9
                    obtain ⟨F10, q10, R10, r10⟩ := R9.freeze n9 hx
                    exact main φ9 F10 H9 _ (q9.trans q10) R10 r10
              · rintro H6 ⟨φ6, F6, L6, ac6, q6, R6, l6, g6, g61, gs6⟩
                rw [List.drop_length] at gs6
                have h6 : φ6.length = L1.length := by rw [R6.pop.1.len, l6]
                refine ⟨φ6, F6, L6, ac6, ?_, R6, l6, g6, gs6⟩
                have := (q15.trans q6).cut (n := L1.length) (by rw [R1.len]; exact Nat.le_refl _)
                rwa [List.take_left' h6] at this
            · exact gs.elim
          · exact gs.elim
      · rintro H' ⟨φ2, F2, L2, acc, q2, R2, l2, g2, gs⟩
        rw [List.drop_length] at gs
        obtain ⟨R3, hn⟩ := R2.pop
        have hlen : φ2.length = L2.length := R3.len
        have h := R2.own L2.length (.lst acc) D (by rw [List.getElem?_append_right (Nat.le_refl _)]; simp) (by rw [← hlen, List.getElem?_append_right (Nat.le_refl _)]; simp)
        exact gs φ2 F2 H' D (Lq.refl _ _) R3 ⟨hn, h⟩
    · exact g.elim
  | exc c p L1 => simp only [hit] at g; exact g
  | stuck => simp only [hit] at g; exact g.elim
theorem xe_lc2 {elt tg iter tg1 iter1 : Expr} {scope : Scope} {own : List (Str × Nat)} {vs1 : List Nat} {pos : Pos} {t t1 : Tg} {el : ME} {it it1 : MI} (hc : X.calm = true) (hN : X.N.Nodup) (hi : XI X W tg iter it) (ok : BlkOk X.N X.env.scope scope own) (hv : ∀ i ∈ vs1, i ∈ own.map (·.2))
    (hg : ∀ (s : Shared) (H : Hp) (C : Addr) (cl : List (Str × Addr)) (fp : List Addr), XG (X.blk s H scope (compEnvC scope cl C X.env) fp) tg t)
    (hi1 : ∀ (s : Shared) (H : Hp) (C : Addr) (cl : List (Str × Addr)) (fp : List Addr), XI (X.blk s H scope (compEnvC scope cl C X.env) fp) W0 tg1 iter1 it1)
    (hg1 : ∀ (s : Shared) (H : Hp) (C : Addr) (cl : List (Str × Addr)) (fp : List Addr), XG (X.blk s H scope (compEnvC scope cl C X.env) fp) tg1 t1)
    (he : ∀ (s : Shared) (H : Hp) (C : Addr) (cl : List (Str × Addr)) (fp : List Addr), XE (X.blk s H scope (compEnvC scope cl C X.env) fp) W0 elt el) (hs : ∀ x, foldedSetIterable iter X.env x = pure x := by intro _; rfl) (hs1 : ∀ env x, foldedSetIterable iter1 env x = pure x := by intro _ _; rfl) :
    XE X W (.ListComp elt [⟨tg, iter, [], 0⟩, ⟨tg1, iter1, [], 0⟩] scope pos) (mComp2 t (own.map (·.2)) it t1 vs1 it1 el) :=
  xe_of (pe_lc2 (g := t.tg X.K) (tt := tT (kx X) W0 (mC (.d (.bool true)))) (g1 := t1.tg X.K) (tt1 := tT (kx X) W0 (mC (.d (.bool true)))) (te := tE (kx X) W0 el) (wi1 := tI (kx X) W0 it1) hc hN hi ok hv hg (fun _ _ _ _ _ => xts_nil) hi1 hg1 (fun _ _ _ _ _ => xts_nil) he hs hs1)
    fun σ H Q h => comp_read2 h (fun _ _ _ h => h) (fun _ _ _ h => h)
theorem xas_lc2 {i : Nat} {y : Str} {py spos : Pos} {elt tg iter tg1 iter1 : Expr} {scope : Scope} {own : List (Str × Nat)} {vs1 : List Nat} {pos : Pos} {t t1 : Tg} {el : ME} {it it1 : MI} (hc : X.calm = true) (hN : X.N.Nodup) (hi : XI X W tg iter it) (ok : BlkOk X.N X.env.scope scope own) (hv : ∀ i ∈ vs1, i ∈ own.map (·.2))
    (hg : ∀ (s : Shared) (H : Hp) (C : Addr) (cl : List (Str × Addr)) (fp : List Addr), XG (X.blk s H scope (compEnvC scope cl C X.env) fp) tg t)
    (hi1 : ∀ (s : Shared) (H : Hp) (C : Addr) (cl : List (Str × Addr)) (fp : List Addr), XI (X.blk s H scope (compEnvC scope cl C X.env) fp) W0 tg1 iter1 it1)
    (hg1 : ∀ (s : Shared) (H : Hp) (C : Addr) (cl : List (Str × Addr)) (fp : List Addr), XG (X.blk s H scope (compEnvC scope cl C X.env) fp) tg1 t1)
    (he : ∀ (s : Shared) (H : Hp) (C : Addr) (cl : List (Str × Addr)) (fp : List Addr), XE (X.blk s H scope (compEnvC scope cl C X.env) fp) W0 elt el)
    (hsw : swapsWith (.ListComp elt [⟨tg, iter, [], 0⟩, ⟨tg1, iter1, [], 0⟩] scope pos) (some (.Name y py)) spos.line X.env = pure true) (hy : X.N[i]? = some y := by rfl) (hyl : X.env.scope.names.lookup y = some .local := by rfl) (hs : ∀ x, foldedSetIterable iter X.env x = pure x := by intro _; rfl) (hs1 : ∀ env x, foldedSetIterable iter1 env x = pure x := by intro _ _; rfl) :
    XAs X W (.Assign [.Name y py] (.ListComp elt [⟨tg, iter, [], 0⟩, ⟨tg1, iter1, [], 0⟩] scope pos) spos) i (mComp2 t (own.map (·.2)) it t1 vs1 it1 el) :=
  ps_imp (ps_setLc2 (g := t.tg X.K) (tt := tT (kx X) W0 (mC (.d (.bool true)))) (g1 := t1.tg X.K) (tt1 := tT (kx X) W0 (mC (.d (.bool true)))) (te := tE (kx X) W0 el) (wi1 := tI (kx X) W0 it1) hc hN hy hyl hsw hi ok hv hg (fun _ _ _ _ _ => xts_nil) hi1 hg1 (fun _ _ _ _ _ => xts_nil) he hs hs1)
    fun D σ H h => comp_read2 h (fun _ _ _ h => h) (fun _ _ _ h => h)
theorem compIn_pure {n : Nat} {t : Tg} {elt : ME} {ρ0 : Rho} (f : PyData → PyData) : ∀ (ds acc : List PyData) (L : Sto), L.length = n → acc.length + ds.length ≤ sizeLine →
    (∀ d ∈ ds, ∀ L2 : Sto, ∃ ρ1, t.put d ρ0 = some ρ1 ∧ ∃ r, elt ρ1 L2 = .ok r L2 ∧ toS r = some (.d (f d))) → compIn t elt n none none ρ0 ds acc L = .ok (acc ++ ds.map f) L
  | [], acc, L, _, _, _ => by simp [compIn]
  | d :: ds, acc, L, hL, hz, he => by
    subst hL
    obtain ⟨ρ1, e0, r, e1, e2⟩ := he d List.mem_cons_self (L ++ [.lst acc])
    rw [List.length_cons] at hz
    unfold compIn
    simp only [e0, e1, e2, movD_d]
    rw [if_pos ⟨by rw [List.getElem?_append_right (Nat.le_refl _)]; simp, rfl, rfl, by omega⟩, List.take_left' rfl,
      compIn_pure f ds (acc ++ [f d]) L rfl (by rw [List.length_append, List.length_singleton]; omega) fun d' hd' => he d' (List.mem_cons_of_mem _ hd')]
    simp
theorem compL2_pure {n : Nat} {t t1 : Tg} {vs1 : List Nat} {it1 : MI} {elt : ME} {ρ0 : Rho} (gs : PyData → List PyData) (f : PyData → PyData → PyData) : ∀ (ds acc : List PyData) (L : Sto), L.length = n → acc.length + (ds.flatMap gs).length ≤ sizeLine →
    (∀ d ∈ ds, ∃ ρ1, t.put d ρ0 = some ρ1 ∧ (∀ L2, it1 ρ1 L2 = .ok (gs d) none L2) ∧ ∀ e ∈ gs d, ∀ L2 : Sto, ∃ ρ2, t1.put e (wipeR ρ1 vs1) = some ρ2 ∧ ∃ r, elt ρ2 L2 = .ok r L2 ∧ toS r = some (.d (f d e))) →
    compL2 t t1 vs1 it1 elt n none ρ0 ds acc L = .ok (.new (.lst (acc ++ ds.flatMap fun d => (gs d).map (f d)))) L
  | [], acc, L, _, _, _ => by simp [compL2]
  | d :: ds, acc, L, hL, hz, he => by
    subst hL
    obtain ⟨ρ1, e0, e1, e2⟩ := he d List.mem_cons_self
    rw [List.flatMap_cons, List.length_append] at hz
    unfold compL2
    simp only [e0, e1]
    rw [if_pos ⟨by rw [List.getElem?_append_right (Nat.le_refl _)]; simp, by simp, rfl, rfl⟩, List.take_left' rfl, compIn_pure (f d) (gs d) acc L rfl (by omega) e2]
    show compL2 t t1 vs1 it1 elt L.length none ρ0 ds (acc ++ (gs d).map (f d)) L = _
    rw [compL2_pure gs f ds (acc ++ (gs d).map (f d)) L rfl (by rw [List.length_append, List.length_map]; omega) fun d' hd' => he d' (List.mem_cons_of_mem _ hd')]
    simp
theorem mComp2_map {t t1 : Tg} {vs vs1 : List Nat} {it it1 : MI} {elt : ME} {ds : List PyData} {L1 : Sto} (gs : PyData → List PyData) (f : PyData → PyData → PyData) (h : it ρ L = .ok ds none L1) (hs : ∀ i ∈ t.sl, i ∈ vs) (hs1 : ∀ i ∈ t1.sl, i ∈ vs1) (hz : (ds.flatMap gs).length ≤ sizeLine)
    (he : ∀ d ∈ ds, ∃ ρ1, t.put d (wipeR ρ vs) = some ρ1 ∧ (∀ L2, it1 ρ1 L2 = .ok (gs d) none L2) ∧ ∀ e ∈ gs d, ∀ L2 : Sto, ∃ ρ2, t1.put e (wipeR ρ1 vs1) = some ρ2 ∧ ∃ r, elt ρ2 L2 = .ok r L2 ∧ toS r = some (.d (f d e))) :
    mComp2 t vs it t1 vs1 it1 elt ρ L = .ok (.new (.lst (ds.flatMap fun d => (gs d).map (f d)))) L1 := by
  unfold mComp2
  simp only [h]
  rw [if_pos ⟨rfl, hs, hs1⟩, compL2_pure gs f ds [] L1 rfl (by simpa using hz) he, List.nil_append]
end
end PD
namespace PD
open PySem L2
section
variable {X : Cx} {W : WX} {k : Kx} {σ : L2.St} {Q Q' : VK} {φ φ' : List Addr} {F F' H H' : Hp} {ρ : Rho} {L : Sto}
theorem op_inT (neg : Bool) (hu : X.A.units + 65 < cLine) : OpR X (compareOp (if neg then .NotIn else .In)) (fun x y H Q => ∃ d ds, Dp X.K H x d ∧ Dp X.K H y (.tuple ds) ∧ SeqAt.shaped d = true ∧ SeqAt.shaped (.tuple ds) = true ∧ Q (.bl (if neg then !(ds.any fun z => PyData.eqv z d) else ds.any fun z => PyData.eqv z d)) H) := by
  intro pins s σ H x y v u Q I rx ry h
  obtain ⟨d, ds, hd, he, sd, se, q⟩ := h
  obtain ⟨as, r1⟩ := Dp.reads I d x v hd rx
  obtain ⟨bs, r2⟩ := Dp.reads I (.tuple ds) y u he ry
  cases neg with
  | false => exact SeqAt.in_tuple_reads r2 r1 (SeqAt.canLay_of_shaped se) (SeqAt.canLay_of_shaped sd) (PyProof.Rows.room_in_shaped sd hu) ⟨.bl _, H, I, rfl, q⟩
  | true => exact SeqAt.notIn_tuple_reads r2 r1 (SeqAt.canLay_of_shaped se) (SeqAt.canLay_of_shaped sd) (PyProof.Rows.room_in_shaped sd hu) ⟨.bl _, H, I, rfl, q⟩
def inD (neg : Bool) (a : PyData) (ds : List PyData) (L : Sto) : RE := okD (.bool (if neg then !(ds.any fun z => PyData.eqv z a) else ds.any fun z => PyData.eqv z a)) L
def opInG (neg : Bool) (x y : SV) (L : Sto) : RE := match x, y with
  | .d (.str a), .d (.str b) => match a.cps.toList with
    | [c] => okD (.bool (if neg then !decide (c ∈ b.cps.toList) else decide (c ∈ b.cps.toList))) L
    | _ => .stuck
  | x, y => match pyOf L x, pyOf L y with
    | some a, some (.list ds) => if SeqAt.shaped a = true ∧ SeqAt.shaped (.list ds) = true then inD neg a ds L else .stuck
    | some a, some (.tuple ds) => if SeqAt.shaped a = true ∧ SeqAt.shaped (.tuple ds) = true then inD neg a ds L else .stuck
    | _, _ => .stuck
abbrev opIn := opInG false
abbrev opNotIn := opInG true
theorem units65 {n : Nat} {A : Around} (r : Room n A) : A.units + 65 < cLine := by have := r.un; omega
theorem op_inG {n : Nat} (neg : Bool) (hr : Room n X.A) : OpS X W (compareOp (if neg then .NotIn else .In)) (opInG neg) := by
  intro pins s σ H x y v u Q I rx ry h
  obtain ⟨σ', φ, F, L, a, b, R, ra, rb, g⟩ := h
  unfold opInG at g
  split at g
  · rename_i za zb
    cases (show x = _ from ra)
    cases (show y = _ from rb)
    split at g
    · rename_i c hc
      have e : za = ⟨#[c]⟩ := by
        cases za
        simp only [Str.mk.injEq] at hc ⊢
        exact Array.toList_inj.mp hc
      cases neg with
      | false => exact op_in_sign pins s σ H _ _ v u Q I rx ry ⟨c, zb, by rw [e], rfl, good_d R g rfl⟩
      | true => exact op_notIn_sign pins s σ H _ _ v u Q I rx ry ⟨c, zb, by rw [e], rfl, good_d R g rfl⟩
    · exact g.elim
  split at g
  · rename_i p ds h1 h2
    split at g
    · rename_i hc
      cases neg with
      | false => exact op_inD (units65 hr) pins s σ H x y v u Q I rx ry ⟨p, ds, pyOf_ok R ra h1, pyOf_ok R rb h2, hc.1, hc.2, good_d R g rfl⟩
      | true => exact op_notInD (units65 hr) pins s σ H x y v u Q I rx ry ⟨p, ds, pyOf_ok R ra h1, pyOf_ok R rb h2, hc.1, hc.2, good_d R g rfl⟩
    · exact g.elim
  · rename_i p ds h1 h2
    split at g
    · rename_i hc
      exact op_inT neg (units65 hr) pins s σ H x y v u Q I rx ry ⟨p, ds, pyOf_ok R ra h1, pyOf_ok R rb h2, hc.1, hc.2, good_d R g rfl⟩
    · exact g.elim
  · exact g.elim
theorem op_inS {n : Nat} (hr : Room n X.A) : OpS X W (compareOp .In) opIn := op_inG false hr
theorem op_notInS {n : Nat} (hr : Room n X.A) : OpS X W (compareOp .NotIn) opNotIn := op_inG true hr
def intsOf : List PyData → Option (List Int)
  | [] => some []
  | .int s :: r => (intsOf r).map (s :: ·)
  | _ :: _ => none
theorem intsOf_rep : ∀ {ds : List PyData} {ss : List Int} {xs : List V}, intsOf ds = some ss → RepL k F ds xs → xs = ss.map V.int
  | [], ss, xs, h, r => by cases h; exact r
  | d :: ds, ss, xs, h, r => by
    obtain ⟨x, q, e, h1, h2⟩ := r
    unfold intsOf at h
    split at h
    · rename_i e0; cases e0
    · rename_i s r' e0
      cases e0
      cases hs : intsOf ds with
      | none => rw [hs] at h; cases h
      | some s2 =>
        rw [hs] at h
        cases h
        cases (show x = _ from h1)
        rw [e, intsOf_rep hs h2] <;> rfl
    · cases h
theorem rep_ints : ∀ (ns : List Int), RepL k F (ns.map PyData.int) (ns.map V.int)
  | [] => rfl
  | n :: ns => ⟨_, _, rfl, rfl, rep_ints ns⟩
@[simp] theorem intsOf_map : ∀ (ss : List Int), intsOf (ss.map PyData.int) = some ss
  | [] => rfl
  | s :: r => by rw [List.map_cons, intsOf, intsOf_map r] <;> rfl
def minI (n : Int) (ns : List Int) : Int := ns.foldl (fun a b => if b < a then b else a) n
def maxI (n : Int) (ns : List Int) : Int := ns.foldl (fun a b => if a < b then b else a) n
theorem minI_ok : ∀ (ns : List Int) (n : Int), minI n ns ∈ n :: ns ∧ ∀ y ∈ n :: ns, minI n ns ≤ y
  | [], n => ⟨List.mem_cons_self, fun y h => by rw [List.mem_singleton.mp h]; exact Int.le_refl _⟩
  | m :: ns, n => by
    show minI (if m < n then m else n) ns ∈ _ ∧ ∀ y ∈ _, minI (if m < n then m else n) ns ≤ y
    obtain ⟨h1, h2⟩ := minI_ok ns (if m < n then m else n)
    refine ⟨?_, fun y hy => ?_⟩
    · rcases List.mem_cons.mp h1 with h | h
      · rw [h]; split
        · exact List.mem_cons_of_mem _ List.mem_cons_self
        · exact List.mem_cons_self
      · exact List.mem_cons_of_mem _ (List.mem_cons_of_mem _ h)
    · have h0 := h2 _ List.mem_cons_self
      have h3 : (if m < n then m else n) ≤ n ∧ (if m < n then m else n) ≤ m := by split <;> omega
      rcases List.mem_cons.mp hy with h | h
      · subst h; omega
      · rcases List.mem_cons.mp h with h | h
        · subst h; omega
        · exact h2 _ (List.mem_cons_of_mem _ h)
theorem maxI_ok : ∀ (ns : List Int) (n : Int), maxI n ns ∈ n :: ns ∧ ∀ y ∈ n :: ns, y ≤ maxI n ns
  | [], n => ⟨List.mem_cons_self, fun y h => by rw [List.mem_singleton.mp h]; exact Int.le_refl _⟩
  | m :: ns, n => by
    show maxI (if n < m then m else n) ns ∈ _ ∧ ∀ y ∈ _, y ≤ maxI (if n < m then m else n) ns
    obtain ⟨h1, h2⟩ := maxI_ok ns (if n < m then m else n)
    refine ⟨?_, fun y hy => ?_⟩
    · rcases List.mem_cons.mp h1 with h | h
      · rw [h]; split
        · exact List.mem_cons_of_mem _ List.mem_cons_self
        · exact List.mem_cons_self
      · exact List.mem_cons_of_mem _ (List.mem_cons_of_mem _ h)
    · have h0 := h2 _ List.mem_cons_self
      have h3 : n ≤ (if n < m then m else n) ∧ m ≤ (if n < m then m else n) := by split <;> omega
      rcases List.mem_cons.mp hy with h | h
      · subst h; omega
      · rcases List.mem_cons.mp h with h | h
        · subst h; omega
        · exact h2 _ (List.mem_cons_of_mem _ h)
def cMin (xs : List SV) (L : Sto) : RE := match xs with
  | [.d (.int i), .d (.int j)] => okD (.int (if j < i then j else i)) L
  | [x] => match asL L x with
    | some ds => match intsOf ds with
      | some (n :: ns) => okD (.int (minI n ns)) L
      | _ => .stuck
    | none => .stuck
  | _ => .stuck
def cMax (xs : List SV) (L : Sto) : RE := match xs with
  | [.d (.int i), .d (.int j)] => okD (.int (if j > i then j else i)) L
  | [x] => match asL L x with
    | some ds => match intsOf ds with
      | some (n :: ns) => okD (.int (maxI n ns)) L
      | _ => .stuck
    | none => .stuck
  | _ => .stuck
theorem cl_min (hc : X.calm = true) : CallS X W (.builtin "min") cMin := by
  intro pins s σ H vs us Q I rv h
  obtain ⟨σ', φ, F, L, xs, R, r, g⟩ := h
  unfold cMin at g
  split at g
  · rename_i i j
    obtain ⟨v, w, e, h1, h2⟩ := repSL2 r
    cases (show v = _ from h1)
    cases (show w = _ from h2)
    exact call_min2 hc pins s σ H vs us Q I rv ⟨i, j, e, good_d R g rfl⟩
  · split at g
    · rename_i ds hd
      split at g
      · rename_i n ns hi
        obtain ⟨v, e, r⟩ := repSL1 r
        obtain ⟨a, ys, e1, z, q⟩ := asL_ok R r hd
        subst e1
        rw [intsOf_rep hi q] at z
        refine cr_min hc pins s σ H vs us Q I rv ⟨a, n :: ns, e, z, by simp, fun m h1 h2 => ?_⟩
        have := minI_ok ns n
        have e0 : m = minI n ns := Int.le_antisymm (h2 _ this.1) (this.2 _ h1)
        rw [e0]
        exact good_d R g rfl
      · exact g.elim
    · exact g.elim
  · exact g.elim
theorem cl_max (hc : X.calm = true) : CallS X W (.builtin "max") cMax := by
  intro pins s σ H vs us Q I rv h
  obtain ⟨σ', φ, F, L, xs, R, r, g⟩ := h
  unfold cMax at g
  split at g
  · rename_i i j
    obtain ⟨v, w, e, h1, h2⟩ := repSL2 r
    cases (show v = _ from h1)
    cases (show w = _ from h2)
    exact call_max2 hc pins s σ H vs us Q I rv ⟨i, j, e, good_d R g rfl⟩
  · split at g
    · rename_i ds hd
      split at g
      · rename_i n ns hi
        obtain ⟨v, e, r⟩ := repSL1 r
        obtain ⟨a, ys, e1, z, q⟩ := asL_ok R r hd
        subst e1
        rw [intsOf_rep hi q] at z
        refine cr_max hc pins s σ H vs us Q I rv ⟨a, n :: ns, e, z, by simp, fun m h1 h2 => ?_⟩
        have := maxI_ok ns n
        have e0 : m = maxI n ns := Int.le_antisymm (this.2 _ h1) (h2 _ this.1)
        rw [e0]
        exact good_d R g rfl
      · exact g.elim
    · exact g.elim
  · exact g.elim
def sortI (ns : List Int) : List Int := ns.mergeSort fun a b => decide (a ≤ b)
theorem sortI_perm (ns : List Int) : (sortI ns).Perm ns := List.mergeSort_perm _ _
theorem sortI_sorted (ns : List Int) : (sortI ns).Pairwise (· ≤ ·) := by
  have := List.pairwise_mergeSort (le := fun (a b : Int) => decide (a ≤ b)) (fun a b c h1 h2 => by simp at *; omega) (fun a b => by simp; omega) ns
  exact this.imp fun h => by simpa using h
theorem sortI_uniq {ns ns' : List Int} (h1 : ns'.Perm ns) (h2 : ns'.Pairwise (· ≤ ·)) : ns' = sortI ns :=
  List.Perm.eq_of_pairwise (le := (· ≤ ·)) (fun a b _ _ h1 h2 => Int.le_antisymm h1 h2) h2 (sortI_sorted ns) (h1.trans (sortI_perm ns).symm)
def cSorted (xs : List SV) (L : Sto) : RE := match xs with
  | [x] => match asL L x with
    | some ds => match intsOf ds with
      | some ns => .ok (.new (.lst ((sortI ns).map PyData.int))) L
      | none => .stuck
    | none => .stuck
  | _ => .stuck
theorem cl_sorted : CallS X W (.builtin "sorted") cSorted := by
  intro pins s σ H vs us Q I rv h
  obtain ⟨σ', φ, F, L, xs, R, r, g⟩ := h
  unfold cSorted at g
  split at g
  · split at g
    · rename_i ds hd
      split at g
      · rename_i ns hi
        obtain ⟨v, e, r⟩ := repSL1 r
        obtain ⟨a, ys, e1, z, q⟩ := asL_ok R r hd
        subst e1
        rw [intsOf_rep hi q] at z
        refine cr_sortedI pins s σ H vs us Q I rv ⟨a, ns, e, z, fun ns' p h1 h2 hp => ?_⟩
        rw [sortI_uniq h1 h2]
        exact good_lst R (rep_ints _) g hp
      · exact g.elim
    · exact g.elim
  · exact g.elim
def cSIndex (x : SV) (xs : List SV) (L : Sto) : RE := match x, xs with
  | .d (.str a), [.d (.str b)] => match Builtin.Str.occurrences a b 0 a.length 1 with
    | i :: _ => okD (.int (i : Nat)) L
    | [] => .stuck
  | _, _ => .stuck
theorem me_sindex : MethS X W "str.index" cSIndex := by
  intro pins s σ H v vs u us Q I rx rv h
  obtain ⟨σ', φ, F, L, x, xs, R, r, rs, g⟩ := h
  unfold cSIndex at g
  split at g
  · rename_i a b
    split at g
    · rename_i i rest ho
      cases (show v = _ from r)
      obtain ⟨w, e, rw'⟩ := repSL1 rs
      cases (show w = _ from rw')
      exact mt_sindex pins s σ H _ vs u us Q I rx rv ⟨a, b, i, rest, rfl, e, ho, good_d R g rfl⟩
    · exact g.elim
  · exact g.elim
def cLIndex (x : SV) (xs : List SV) (L : Sto) : RE := match xs with
  | [y] => match pyOf L x, pyOf L y with
    | some (.list ds), some d => if SeqAt.shaped (.list ds) = true ∧ SeqAt.shaped d = true then (match ds.findIdx? (fun z => PyData.eqv z d) with
      | some j => okD (.int (j : Nat)) L
      | none => .stuck) else .stuck
    | _, _ => .stuck
  | _ => .stuck
theorem me_lindex {n : Nat} (hr : Room n X.A) : MethS X W "list.index" cLIndex := by
  intro pins s σ H v vs u us Q I rx rv h
  obtain ⟨σ', φ, F, L, x, xs, R, r, rs, g⟩ := h
  unfold cLIndex at g
  split at g
  · rename_i y
    split at g
    · rename_i ds d h1 h2
      split at g
      · rename_i hc
        split at g
        · rename_i j hj
          obtain ⟨w, e, rw'⟩ := repSL1 rs
          have hx := pyOf_ok R r h1
          have hy := pyOf_ok R rw' h2
          have ha : ∃ a, v = .ref a := by cases hx; exact ⟨_, rfl⟩
          obtain ⟨a, rfl⟩ := ha
          obtain ⟨hj1, hj2, hj3⟩ := List.findIdx?_eq_some_iff_getElem.mp hj
          refine mt_indexD (units65 hr) pins s σ H _ vs u us Q I rx rv ⟨a, w, d, ds, j, ds[j], rfl, e, hx, hy, hc.1, hc.2, List.getElem?_eq_getElem hj1, hj2, fun m z' hm hz => ?_, good_d R g rfl⟩
          obtain ⟨hm1, hm2⟩ := List.getElem?_eq_some_iff.mp hz
          have := hj3 m hm
          rw [hm2] at this
          simpa using this
        · exact g.elim
      · exact g.elim
    · exact g.elim
  · exact g.elim
def repS (a : Str) (n : Nat) : Str := ⟨(List.replicate n a.cps).foldl (· ++ ·) #[]⟩
theorem rep_size (c : Array Nat) : ∀ (n : Nat) (acc : Array Nat), ((List.replicate n c).foldl (· ++ ·) acc).size = acc.size + n * c.size
  | 0, acc => by simp
  | n + 1, acc => by rw [List.replicate_succ, List.foldl_cons, rep_size c n, Array.size_append, Nat.succ_mul]; omega
theorem repS_len (a : Str) (n : Nat) : (repS a n).length = n * a.length := (rep_size a.cps n #[]).trans (by simp [Str.length])
def repSC (a : Str) (n : Int) : Prop := 2 ≤ n ∧ n ≤ 100000 ∧ 0 < a.length ∧ a.length * n.toNat ≤ 100000
instance (a : Str) (n : Int) : Decidable (repSC a n) := by unfold repSC; exact inferInstance
def opMulX (x y : SV) (L : Sto) : RE := match x, y with
  | .d (.str a), .d (.int n) => if repSC a n then okD (.str (repS a n.toNat)) L else .stuck
  | x, y => opMul x y L
theorem op_mulX : OpS X W (binaryOp .Mult) opMulX := by
  intro pins s σ H x y v u Q I rx ry h
  obtain ⟨σ', φ, F, L, a, b, R, ra, rb, g⟩ := h
  unfold opMulX at g
  split at g
  · rename_i z n
    split at g
    · rename_i hc
      obtain ⟨h2, h3, h4, h5⟩ := hc
      cases (show x = _ from ra)
      cases (show y = _ from rb)
      obtain ⟨t, rfl⟩ := rx
      obtain ⟨t', rfl⟩ := ry
      have e1 : (n == 1 || z.length == 0) = false := by
        have a1 : (n == 1) = false := by simp; omega
        have a2 : (z.length == 0) = false := by simp; omega
        rw [a1, a2] <;> rfl
      refine PySem.P.mul_str ?_ (fun _ _ => ?_) (fun _ _ => ?_) ?_
      · have a1 : decide (n < -(2 ^ 63 : Int)) = false := decide_eq_false (by omega)
        have a2 : decide (n ≥ (2 ^ 63 : Int)) = false := decide_eq_false (by omega)
        rw [a1, a2] <;> rfl
      · have e2 : (z.length : Int) * n = ((z.length * n.toNat : Nat) : Int) := by rw [Int.natCast_mul, Int.toNat_of_nonneg (by omega)]
        have : (z.length : Int) ≤ (2 ^ 63 - 1) / n := (Int.le_ediv_iff_mul_le (by omega)).mpr (by rw [e2]; omega)
        omega
      · exact decide_eq_false (show ¬ z.length * n.toNat > sizeLine by rw [sizeLine_eq]; omega)
      · rw [if_neg (by omega), if_neg (by rw [e1]; exact Bool.false_ne_true)]
        refine ⟨?_, V.str (repS z n.toNat), H, I.tok _, ⟨_, rfl⟩, good_d R g rfl⟩
        show (repS z n.toNat).length ≤ sizeLine
        rw [repS_len, sizeLine_eq, Nat.mul_comm]
        omega
    · exact g.elim
  · exact op_mulS pins s σ H x y v u Q I rx ry ⟨σ', φ, F, L, _, _, R, ra, rb, g⟩
@[simp] theorem opMulX_str (a : Str) (n : Int) : opMulX (.d (.str a)) (.d (.int n)) L = if repSC a n then okD (.str (repS a n.toNat)) L else .stuck := Eq.trans rfl rfl
theorem compL_ex {n : Nat} {t : Tg} {elt : ME} {ρ0 : Rho} (P : PyData → PyData → Prop) : ∀ (ds acc : List PyData) (L : Sto), L.length = n → acc.length + ds.length ≤ sizeLine →
    (∀ d ∈ ds, ∀ L2 : Sto, ∃ ρ1, t.put d ρ0 = some ρ1 ∧ ∃ r y, elt ρ1 L2 = .ok r L2 ∧ toS r = some (.d y) ∧ P d y) →
    ∃ ys : List PyData, compL t (mC (.d (.bool true))) elt n none ρ0 ds acc L = .ok (.new (.lst (acc ++ ys))) L ∧ ys.length = ds.length ∧ ∀ (i : Nat) (d y : PyData), ds[i]? = some d → ys[i]? = some y → P d y
  | [], acc, L, _, _, _ => ⟨[], by simp [compL], rfl, fun i d y h => by simp at h⟩
  | d :: ds, acc, L, hL, hz, he => by
    subst hL
    obtain ⟨ρ1, e0, r, y, e1, e2, hp⟩ := he d List.mem_cons_self (L ++ [.lst acc])
    rw [List.length_cons] at hz
    obtain ⟨ys, f1, f2, f3⟩ := compL_ex (t := t) (elt := elt) (ρ0 := ρ0) P ds (acc ++ [y]) L rfl (by rw [List.length_append, List.length_singleton]; omega) fun d' hd' => he d' (List.mem_cons_of_mem _ hd')
    refine ⟨y :: ys, ?_, by simp [f2], fun i d' y' h1 h2 => ?_⟩
    · unfold compL
      simp only [e0, mC_ap, e1, e2, movD_d]
      rw [if_pos ⟨by rw [List.getElem?_append_right (Nat.le_refl _)]; simp, rfl, by omega⟩, List.take_left' rfl, f1]
      simp
    · cases i with
      | zero =>
        rw [List.getElem?_cons_zero] at h1 h2
        cases h1
        cases h2
        exact hp
      | succ i =>
        rw [List.getElem?_cons_succ] at h1 h2
        exact f3 i d' y' h1 h2
theorem mComp_ex {t : Tg} {vs : List Nat} {elt : ME} {it : MI} {ds : List PyData} {L1 : Sto} (P : PyData → PyData → Prop) (h : it ρ L = .ok ds none L1) (hs : ∀ i ∈ t.sl, i ∈ vs) (hz : ds.length ≤ sizeLine)
    (he : ∀ d ∈ ds, ∀ L2 : Sto, ∃ ρ1, t.put d (wipeR ρ vs) = some ρ1 ∧ ∃ r y, elt ρ1 L2 = .ok r L2 ∧ toS r = some (.d y) ∧ P d y) :
    ∃ ys : List PyData, mComp t vs (mC (.d (.bool true))) elt it ρ L = .ok (.new (.lst ys)) L1 ∧ ys.length = ds.length ∧ ∀ (i : Nat) (d y : PyData), ds[i]? = some d → ys[i]? = some y → P d y := by
  obtain ⟨ys, f1, f2, f3⟩ := compL_ex P ds [] L1 rfl (by simpa using hz) he
  exact ⟨ys, by rw [mComp_ok h rfl hs, f1, List.nil_append], f2, f3⟩
theorem map_ex {α : Type} {f : α → PyData} {P : α → Prop} : ∀ (ys : List PyData), (∀ y ∈ ys, ∃ q, y = f q ∧ P q) → ∃ qs : List α, ys = qs.map f ∧ ∀ q ∈ qs, P q
  | [], _ => ⟨[], rfl, fun q h => by simp at h⟩
  | y :: ys, h => by
    obtain ⟨q, e, hq⟩ := h y List.mem_cons_self
    obtain ⟨qs, e2, hqs⟩ := map_ex (f := f) (P := P) ys fun y' h' => h y' (List.mem_cons_of_mem _ h')
    refine ⟨q :: qs, by rw [List.map_cons, e, e2], fun q' h' => ?_⟩
    rcases List.mem_cons.mp h' with h' | h'
    · rw [h']; exact hq
    · exact hqs q' h'
/-- all elements have a property -/
theorem mComp_all {α : Type} {f : α → PyData} {P : α → Prop} {t : Tg} {vs : List Nat} {elt : ME} {it : MI} {ds : List PyData} {L1 : Sto} (h : it ρ L = .ok ds none L1) (hs : ∀ i ∈ t.sl, i ∈ vs) (hz : ds.length ≤ sizeLine)
    (he : ∀ d ∈ ds, ∀ L2 : Sto, ∃ ρ1, t.put d (wipeR ρ vs) = some ρ1 ∧ ∃ r q, elt ρ1 L2 = .ok r L2 ∧ toS r = some (.d (f q)) ∧ P q) :
    ∃ qs : List α, mComp t vs (mC (.d (.bool true))) elt it ρ L = .ok (.new (.lst (qs.map f))) L1 ∧ qs.length = ds.length ∧ ∀ q ∈ qs, P q := by
  obtain ⟨ys, f1, f2, f3⟩ := mComp_ex (elt := elt) (fun _ y => ∃ q, y = f q ∧ P q) h hs hz fun d hd L2 => by
    obtain ⟨ρ1, e0, r, q, e1, e2, e3⟩ := he d hd L2
    exact ⟨ρ1, e0, r, f q, e1, e2, q, rfl, e3⟩
  obtain ⟨qs, g1, g2⟩ := map_ex (f := f) (P := P) ys fun y hy => by
    obtain ⟨i, hi⟩ := List.getElem?_of_mem hy
    have hl : i < ds.length := by rw [← f2]; exact (List.getElem?_eq_some_iff.mp hi).1
    exact f3 i _ y (List.getElem?_eq_getElem hl) hi
  exact ⟨qs, by rw [f1, g1], by rw [← f2, g1, List.length_map], g2⟩
@[simp] theorem cMin2 (i j : Int) : cMin [.d (.int i), .d (.int j)] L = okD (.int (if j < i then j else i)) L := Eq.trans rfl rfl
@[simp] theorem cMax2 (i j : Int) : cMax [.d (.int i), .d (.int j)] L = okD (.int (if j > i then j else i)) L := Eq.trans rfl rfl
@[simp] theorem cSorted_lst (ds : List PyData) : cSorted [.d (.list ds)] L = (match intsOf ds with
      | some ns => .ok (.new (.lst ((sortI ns).map PyData.int))) L
      | none => .stuck) := Eq.trans rfl rfl
@[simp] theorem cSIndex_ap (a b : Str) : cSIndex (.d (.str a)) [.d (.str b)] L = (match Builtin.Str.occurrences a b 0 a.length 1 with
    | i :: _ => okD (.int (i : Nat)) L
    | [] => .stuck) := Eq.trans rfl rfl
end
end PD
namespace LW
open PySem L2 PD
noncomputable def b_p_remembered : MS :=
  (sSeq (sIf (bind2 (mV 1) (mC (.d .none)) opIs)
  (sRet (mC (.d (.bool false))))
  sNx)
  (sSeq (sIf (bind2 (bind2 (mV 0) (mC (.d (.int 0))) opIx) (mC (.d (.str "before"))) opEq)
  (sRet (bind2 (mV 1) (bind2 (mV 0) (mC (.d (.int 1))) opIx) opIx))
  sNx)
  (sRet (bind2 (mV 1) (mV 2) opIx))))
noncomputable def f_p_remembered : Fn := mkFn 3 3 b_p_remembered
noncomputable def k1_p_moment : MS :=
  (sSeq (sAsg 5 (bind2 (mV 4) (mC (.d (.int 0))) opIx))
  (sIf (bind2 (mV 5) (mC (.d (.str "letter"))) opEq)
  (sDrop (mMeth "list" cAppend (mV 3) [(bind2 (mV 1) (bind2 (mV 4) (mC (.d (.int 1))) opIx) opEq)]))
  (sIf (bind2 (mV 5) (mC (.d (.str "start"))) opEq)
  (sDrop (mMeth "list" cAppend (mV 3) [(bind2 (mV 2) (mC (.d .none)) opIs)]))
  (sIf (bind2 (mV 5) (mC (.d (.str "true"))) opEq)
  (sDrop (mMeth "list" cAppend (mV 3) [(mC (.d (.bool true)))]))
  (sIf (bind2 (mV 5) (mC (.d (.str "not"))) opEq)
  (sDrop (mMeth "list" cAppend (mV 3) [(mNot (bind2 (mV 3) (bind2 (mV 4) (mC (.d (.int 1))) opIx) opIx))]))
  (sIf (bind2 (mV 5) (mC (.d (.str "and"))) opEq)
  (sDrop (mMeth "list" cAppend (mV 3) [(mAnd (bind2 (mV 3) (bind2 (mV 4) (mC (.d (.int 1))) opIx) opIx) (bind2 (mV 3) (bind2 (mV 4) (mC (.d (.int 2))) opIx) opIx))]))
  (sIf (bind2 (mV 5) (mC (.d (.str "or"))) opEq)
  (sDrop (mMeth "list" cAppend (mV 3) [(mOr (bind2 (mV 3) (bind2 (mV 4) (mC (.d (.int 1))) opIx) opIx) (bind2 (mV 3) (bind2 (mV 4) (mC (.d (.int 2))) opIx) opIx))]))
  (sIf (bind2 (mV 5) (mC (.d (.str "before"))) opEq)
  (sDrop (mMeth "list" cAppend (mV 3) [(mCall f_p_remembered [(mV 4), (mV 2), (mCall cLen [(mV 3)])])]))
  (sDrop (mMeth "list" cAppend (mV 3) [(mOr (bind2 (mV 3) (bind2 (mV 4) (mC (.d (.int 2))) opIx) opIx) (mAnd (bind2 (mV 3) (bind2 (mV 4) (mC (.d (.int 1))) opIx) opIx) (mCall f_p_remembered [(mV 4), (mV 2), (mCall cLen [(mV 3)])])))]))))))))))
noncomputable def b_p_moment : MS :=
  (sSeq (sOwn 3 (mLst []))
  (sSeq (sFor (.nm 4) (iOf (mV 0))
  k1_p_moment)
  (sRet (mV 3))))
noncomputable def f_p_moment : Fn := mkFn 3 6 b_p_moment
noncomputable def k1_p_truths : MS :=
  (sSeq (sAsg 2 (mCall f_p_moment [(mV 0), (mV 4), (mV 2)]))
  (sDrop (mMeth "list" cAppend (mV 3) [(bind2 (mV 2) (mNeg (mC (.d (.int 1)))) opIx)])))
noncomputable def b_p_truths : MS :=
  (sSeq (sAsg 2 (mCall f_p_moment [(mV 0), (mC (.d (.str ""))), (mC (.d .none))]))
  (sSeq (sOwn 3 (mLst [(bind2 (mV 2) (mNeg (mC (.d (.int 1)))) opIx)]))
  (sSeq (sFor (.nm 4) (iOf (mV 1))
  k1_p_truths)
  (sRet (mV 3)))))
noncomputable def f_p_truths : Fn := mkFn 2 5 b_p_truths
noncomputable def b_p_holds : MS :=
  (sRet (bind2 (mCall f_p_truths [(mV 0), (mV 1)]) (mNeg (mC (.d (.int 1)))) opIx))
noncomputable def f_p_holds : Fn := mkFn 2 2 b_p_holds
noncomputable def b_l_cell : MS :=
  (sSeq (sIf (bind2 (mV 1) (mCall cLen [(mV 0)]) opLt)
  (sRet (bind2 (mV 0) (mV 1) opIx))
  sNx)
  (sRet (mC (.d (.int 0)))))
noncomputable def f_l_cell : Fn := mkFn 2 2 b_l_cell
noncomputable def k1_l_numbers : MS :=
  (sSeq (sDrop (mMeth "list" cAppend (mV 2) [(bind2 (mCall cInt [(mV 0)]) (mC (.d (.int 1000))) opMod)]))
  (sAsg 0 (bind2 (mV 0) (mC (.d (.int 1000))) opDiv)))
noncomputable def k2_l_numbers : MS :=
  (sSeq (sAsg 3 (bind2 (mCall cInt [(bind2 (bind2 (mV 3) (mC (.d (.int 48271))) opMul) (bind2 (mC (.d (.int 69621))) (bind2 (mV 4) (mC (.d (.int 1))) opAdd) opMul) opAdd)]) (mC (.d (.int 2147483647))) opMod))
  (sDrop (mMeth "list" cAppend (mV 2) [(bind2 (bind2 (mV 3) (mC (.d (.int 7))) opDiv) (mC (.d (.int 1000))) opMod)])))
noncomputable def b_l_numbers : MS :=
  (sSeq (sOwn 2 (mLst []))
  (sSeq (sIf (bind2 (mV 0) (bind2 (mC (.d (.int 10))) (mC (.d (.int 18))) opPow) opGe)
  (sSeq (sFor (.nm 4) (iRange1 [(mV 1)])
  k1_l_numbers)
  (sRet (mV 2)))
  sNx)
  (sSeq (sAsg 3 (bind2 (mCall cInt [(mV 0)]) (mC (.d (.int 2147483647))) opMod))
  (sSeq (sFor (.nm 4) (iRange1 [(mV 1)])
  k2_l_numbers)
  (sRet (mV 2))))))
noncomputable def f_l_numbers : Fn := mkFn 2 5 b_l_numbers
noncomputable def k1_l_same (self : Fn) : MS :=
  (sIf (mNot (mTru (mCall self [(bind2 (mV 0) (mV 2) opIx), (bind2 (mV 1) (mV 2) opIx)])))
  (sRet (mC (.d (.bool false))))
  sNx)
noncomputable def b_l_same (self : Fn) : MS :=
  (sSeq (sIf (bind2 (mV 1) (mC (.d .none)) opIs)
  (sRet (bind2 (mV 0) (mC (.d .none)) opIs))
  sNx)
  (sSeq (sIf (mOr (mTru (mCall cIsI [(mV 1), (mC (.ty "list"))])) (mTru (mCall cIsI [(mV 1), (mC (.ty "tuple"))])))
  (sSeq (sIf (mOr (bind2 (mCall cIsI [(mV 1), (mC (.ty "list"))]) (mCall cIsI [(mV 0), (mC (.ty "list"))]) opNe) (bind2 (mCall cIsI [(mV 1), (mC (.ty "tuple"))]) (mCall cIsI [(mV 0), (mC (.ty "tuple"))]) opNe))
  (sRet (mC (.d (.bool false))))
  sNx)
  (sSeq (sIf (bind2 (mCall cLen [(mV 0)]) (mCall cLen [(mV 1)]) opNe)
  (sRet (mC (.d (.bool false))))
  sNx)
  (sSeq (sFor (.nm 2) (iRange1 [(mCall cLen [(mV 1)])])
  (k1_l_same self))
  (sRet (mC (.d (.bool true)))))))
  sNx)
  (sSeq (sIf (mOr (bind2 (mCall cIsI [(mV 1), (mC (.ty "bool"))]) (mCall cIsI [(mV 0), (mC (.ty "bool"))]) opNe) (bind2 (mCall cIsI [(mV 1), (mC (.ty "int"))]) (mCall cIsI [(mV 0), (mC (.ty "int"))]) opNe))
  (sRet (mC (.d (.bool false))))
  sNx)
  (sRet (mAnd (bind2 (mCall cIsI [(mV 1), (mC (.ty "str"))]) (mCall cIsI [(mV 0), (mC (.ty "str"))]) opEq) (bind2 (mV 0) (mV 1) opEq))))))
noncomputable def f_l_same : Nat → Fn
  | 0 => fun _ _ => .stuck
  | n + 1 => mkFn 2 3 (b_l_same (f_l_same n))
noncomputable def k1_l_words : MS :=
  (sAsg 5 (bind2 (mV 5) (mComp (.nm 7) [7] (mC (.d (.bool true))) (bind2 (mV 6) (mV 7) opAdd) (iOf (mSl (mC (.d (.str "abcd"))) oNone (oSome (mV 0))))) opAdd))
noncomputable def k2_l_words : MS :=
  (sSeq (sAsg 5 (mLst []))
  (sSeq (sFor (.nm 6) (iOf (mV 3))
  k1_l_words)
  (sSeq (sAsg 3 (mV 5))
  (sAsg 2 (bind2 (mV 2) (mV 3) opAdd)))))
noncomputable def b_l_words : MS :=
  (sSeq (sAsg 2 (mLst [(mC (.d (.str "")))]))
  (sSeq (sAsg 3 (mLst [(mC (.d (.str "")))]))
  (sSeq (sFor (.nm 4) (iRange1 [(mV 1)])
  k2_l_words)
  (sRet (mV 2)))))
noncomputable def f_l_words : Fn := mkFn 2 8 b_l_words
noncomputable def b_l_word : MS :=
  (sSeq (sAsg 2 (mCall f_l_numbers [(mV 0), (mC (.d (.int 14)))]))
  (sSeq (sAsg 3 (bind2 (mLst [(bind2 (bind2 (mV 2) (mC (.d (.int 0))) opIx) (mC (.d (.int 4))) opMod), (bind2 (bind2 (mV 2) (mC (.d (.int 0))) opIx) (mC (.d (.int 13))) opMod)]) (bind2 (bind2 (mV 2) (mC (.d (.int 13))) opIx) (mC (.d (.int 2))) opMod) opIx))
  (sRet (mMeth "str" cJoin (mC (.d (.str ""))) [(mComp (.nm 4) [4] (mC (.d (.bool true))) (bind2 (mC (.d (.str "abcd"))) (bind2 (mV 4) (mV 1) opMod) opIx) (iOf (mSl (mV 2) (oSome (mC (.d (.int 1)))) (oSome (bind2 (mC (.d (.int 1))) (mV 3) opAdd)))))]))))
noncomputable def f_l_word : Fn := mkFn 2 5 b_l_word
noncomputable def b_l_line : MS :=
  (sSeq (sAsg 2 (bind2 (bind2 (mV 0) (mC (.d (.int 0))) opIx) (mC (.d (.int 10))) opMod))
  (sSeq (sIf (mOr (bind2 (mV 2) (mC (.d (.int 2))) opLt) (bind2 (mV 1) (mC (.d (.int 0))) opEq))
  (sRet (mTup [(mC (.d (.str "letter"))), (bind2 (mC (.d (.str "abcd"))) (bind2 (bind2 (mV 0) (mC (.d (.int 1))) opIx) (mC (.d (.int 4))) opMod) opIx)]))
  sNx)
  (sSeq (sIf (bind2 (mV 2) (mC (.d (.int 2))) opEq)
  (sRet (bind2 (mLst [(mTup [(mC (.d (.str "start")))]), (mTup [(mC (.d (.str "true")))])]) (bind2 (bind2 (mV 0) (mC (.d (.int 1))) opIx) (mC (.d (.int 2))) opMod) opIx))
  sNx)
  (sSeq (sAsg 3 (bind2 (bind2 (mV 1) (mC (.d (.int 1))) opSub) (bind2 (bind2 (mV 0) (mC (.d (.int 1))) opIx) (mCall cMin [(mV 1), (mC (.d (.int 4)))]) opMod) opSub))
  (sSeq (sAsg 4 (bind2 (bind2 (mV 0) (mC (.d (.int 2))) opIx) (mV 1) opMod))
  (sSeq (sIf (bind2 (mV 2) (mC (.d (.int 5))) opLt)
  (sRet (mTup [(bind2 (mLst [(mC (.d (.str "not"))), (mC (.d (.str "before")))]) (bind2 (mV 2) (mC (.d (.int 3))) opSub) opIx), (mV 3)]))
  sNx)
  (sSeq (sIf (bind2 (mV 2) (mC (.d (.int 9))) opEq)
  (sRet (mTup [(mC (.d (.str "before"))), (mV 3)]))
  sNx)
  (sRet (mTup [(bind2 (mLst [(mC (.d (.str "and"))), (mC (.d (.str "or"))), (mC (.d (.str "since"))), (mC (.d (.str "since")))]) (bind2 (mV 2) (mC (.d (.int 5))) opSub) opIx), (mV 3), (mV 4)])))))))))
noncomputable def f_l_line : Fn := mkFn 2 5 b_l_line
noncomputable def k1_l_lines : MS :=
  (sDrop (mMeth "list" cAppend (mV 3) [(mCall f_l_line [(mCall f_l_numbers [(bind2 (mCall f_l_cell [(mV 0), (bind2 (mV 1) (mV 4) opAdd)]) (mV 4) opAdd), (mC (.d (.int 3)))]), (mCall cLen [(mV 3)])])]))
noncomputable def b_l_lines : MS :=
  (sSeq (sOwn 3 (mLst []))
  (sSeq (sFor (.nm 4) (iRange1 [(mV 2)])
  k1_l_lines)
  (sRet (mCall cTuple [(mV 3)]))))
noncomputable def f_l_lines : Fn := mkFn 3 5 b_l_lines
noncomputable def k1_l_truth : MS :=
  (sIf (mAnd (mTru (bind2 (mV 5) (mV 6) opIx)) (bind2 (mC (.d (.bool false))) (mSl (mV 4) (oSome (bind2 (mV 6) (mC (.d (.int 1))) opAdd)) (oSome (bind2 (mV 3) (mC (.d (.int 1))) opAdd))) opNotIn))
  (sRet (mC (.d (.bool true))))
  sNx)
noncomputable def b_l_truth : MS :=
  (sSeq (sIf (bind2 (bind2 (mV 0) (mC (.d (.int 0))) opIx) (mC (.d (.str "letter"))) opEq)
  (sRet (mAnd (bind2 (mV 3) (mC (.d (.int 0))) opGt) (bind2 (bind2 (mV 2) (bind2 (mV 3) (mC (.d (.int 1))) opSub) opIx) (bind2 (mV 0) (mC (.d (.int 1))) opIx) opEq)))
  sNx)
  (sSeq (sIf (bind2 (bind2 (mV 0) (mC (.d (.int 0))) opIx) (mC (.d (.str "start"))) opEq)
  (sRet (bind2 (mV 3) (mC (.d (.int 0))) opEq))
  sNx)
  (sSeq (sIf (bind2 (bind2 (mV 0) (mC (.d (.int 0))) opIx) (mC (.d (.str "true"))) opEq)
  (sRet (mC (.d (.bool true))))
  sNx)
  (sSeq (sAsg 4 (bind2 (mV 1) (bind2 (mV 0) (mC (.d (.int 1))) opIx) opIx))
  (sSeq (sIf (bind2 (bind2 (mV 0) (mC (.d (.int 0))) opIx) (mC (.d (.str "not"))) opEq)
  (sRet (mNot (bind2 (mV 4) (mV 3) opIx)))
  sNx)
  (sSeq (sIf (bind2 (bind2 (mV 0) (mC (.d (.int 0))) opIx) (mC (.d (.str "before"))) opEq)
  (sRet (mAnd (bind2 (mV 3) (mC (.d (.int 0))) opGt) (bind2 (mV 4) (bind2 (mV 3) (mC (.d (.int 1))) opSub) opIx)))
  sNx)
  (sSeq (sAsg 5 (bind2 (mV 1) (bind2 (mV 0) (mC (.d (.int 2))) opIx) opIx))
  (sSeq (sIf (bind2 (bind2 (mV 0) (mC (.d (.int 0))) opIx) (mC (.d (.str "and"))) opEq)
  (sRet (mAnd (bind2 (mV 4) (mV 3) opIx) (bind2 (mV 5) (mV 3) opIx)))
  sNx)
  (sSeq (sIf (bind2 (bind2 (mV 0) (mC (.d (.int 0))) opIx) (mC (.d (.str "or"))) opEq)
  (sRet (mOr (bind2 (mV 4) (mV 3) opIx) (bind2 (mV 5) (mV 3) opIx)))
  sNx)
  (sSeq (sFor (.nm 6) (iRange1 [(bind2 (mV 3) (mC (.d (.int 1))) opAdd)])
  k1_l_truth)
  (sRet (mC (.d (.bool false))))))))))))))
noncomputable def f_l_truth : Fn := mkFn 4 7 b_l_truth
noncomputable def k1_l_table : MS :=
  (sDrop (mMeth "list" cAppend (mV 4) [(mCall f_l_truth [(mV 3), (mV 2), (mV 1), (mV 5)])]))
noncomputable def k2_l_table : MS :=
  (sSeq (sOwn 4 (mLst []))
  (sSeq (sFor (.nm 5) (iRange1 [(bind2 (mCall cLen [(mV 1)]) (mC (.d (.int 1))) opAdd)])
  k1_l_table)
  (sDrop (mMeth "list" cAppend (mV 2) [(mV 4)]))))
noncomputable def b_l_table : MS :=
  (sSeq (sOwn 2 (mLst []))
  (sSeq (sFor (.nm 3) (iOf (mV 0))
  k2_l_table)
  (sRet (mV 2))))
noncomputable def f_l_table : Fn := mkFn 2 6 b_l_table
noncomputable def k1_p_law : MS :=
  (sSeq (sAsg 5 (bind2 (mCall f_l_table [(mV 2), (mV 4)]) (mNeg (mC (.d (.int 1)))) opIx))
  (sSeq (sOwn 6 (mCall f_p_truths [(mV 2), (mV 4)]))
  (sSeq (sIf (mNot (mTru (mCall (f_l_same 8) [(mV 6), (mV 5)])))
  (sRet (mC (.d (.bool false))))
  sNx)
  (sSeq (sDrop (mMeth "list" cAppend (mV 6) [(mC (.d (.bool true)))]))
  (sIf (mOr (mNot (mTru (mCall (f_l_same 8) [(mCall f_p_holds [(mV 2), (mV 4)]), (bind2 (mV 5) (mNeg (mC (.d (.int 1)))) opIx)]))) (mNot (mTru (mCall (f_l_same 8) [(mCall f_p_truths [(mV 2), (mV 4)]), (mV 5)]))))
  (sRet (mC (.d (.bool false))))
  sNx)))))
noncomputable def b_p_law : MS :=
  (sSeq (sAsg 1 (mCall f_l_numbers [(mCall f_l_cell [(mV 0), (mC (.d (.int 0)))]), (mC (.d (.int 4)))]))
  (sSeq (sAsg 2 (mCall f_l_lines [(mV 0), (mC (.d (.int 1))), (bind2 (mC (.d (.int 1))) (bind2 (bind2 (mV 1) (mC (.d (.int 0))) opIx) (mC (.d (.int 24))) opMod) opAdd)]))
  (sSeq (sOwn 3 (mComp (.nm 7) [7] (mC (.d (.bool true))) (mCall f_l_word [(bind2 (mCall f_l_cell [(mV 0), (bind2 (mC (.d (.int 25))) (mV 7) opAdd)]) (mV 7) opAdd), (mC (.d (.int 4)))]) (iRange1 [(mC (.d (.int 3)))])))
  (sSeq (sDrop (mMeth "list" cAppend (mV 3) [(mSl (bind2 (bind2 (bind2 (bind2 (bind2 (mV 3) (mC (.d (.int 0))) opIx) (mC (.d (.str "ab"))) opAdd) (bind2 (mV 3) (mC (.d (.int 1))) opIx) opAdd) (mC (.d (.str "c"))) opAdd) (mC (.d (.int 34))) opMulX) oNone (oSome (mC (.d (.int 100)))))]))
  (sSeq (sFor (.nm 4) (iOf (mV 3))
  k1_p_law)
  (sRet (mC (.d (.bool true)))))))))
noncomputable def f_p_law : Fn := mkFn 1 8 b_p_law
end LW
namespace LW
open PySem L2 PD
section Common
theorem atI_get {α : Type} (xs : List α) (i : Int) (x : α) (h0 : 0 ≤ i) (h : xs[i.toNat]? = some x) : atI xs i = some x := by
  have e : i = ((i.toNat : Nat) : Int) := by omega
  rw [e]
  exact atI_nat h
theorem atI_getN {α : Type} (xs : List α) (i : Nat) (x : α) (h : xs[i]? = some x) : atI xs (i : Int) = some x := atI_nat h
theorem cell_eq (ns : List Int) (k : Int) (hk : 0 ≤ k) (L : Sto) : f_l_cell [.ro (ns.map PyData.int), .d (.int k)] L = okD (.int (ns.getD k.toNat 0)) L := by
  by_cases h : k < (ns.length : Int)
  · have hn : k.toNat < ns.length := by omega
    have e : atI (ns.map PyData.int) k = some (.int (ns.getD k.toNat 0)) := atI_get _ _ _ hk (by
      rw [List.getElem?_map, List.getElem?_eq_getElem hn, List.getD_eq_getElem?_getD, List.getElem?_eq_getElem hn] <;> rfl)
    simp [b_l_cell, f_l_cell, h, e]
  · have hn : ns.length ≤ k.toNat := by omega
    have e : ns.getD k.toNat 0 = 0 := by rw [List.getD_eq_getElem?_getD, List.getElem?_eq_none hn] <;> rfl
    simp only [e]
    simp [b_l_cell, f_l_cell, h]
def numsB : Nat → Int → List Int
  | 0, _ => []
  | k + 1, c => c % 1000 :: numsB k (c / 1000)
def lcg (m : Int) (i : Nat) : Int := (m * 48271 + 69621 * ((i : Int) + 1)) % 2147483647
def numsL : Nat → Nat → Int → List Int
  | 0, _, _ => []
  | k + 1, i, m => (lcg m i / 7 % 1000) :: numsL k (i + 1) (lcg m i)
def nums (c : Int) (n : Nat) : List Int := if 10 ^ 18 ≤ c then numsB n c else numsL n 0 (c % 2147483647)
theorem numsB_len : ∀ (n : Nat) (c : Int), (numsB n c).length = n
  | 0, _ => rfl
  | n + 1, c => by rw [numsB, List.length_cons, numsB_len n]
theorem numsL_len : ∀ (n i : Nat) (c : Int), (numsL n i c).length = n
  | 0, _, _ => rfl
  | n + 1, i, c => by rw [numsL, List.length_cons, numsL_len n]
theorem nums_len (c : Int) (n : Nat) : (nums c n).length = n := by
  unfold nums
  split
  · exact numsB_len n c
  · exact numsL_len n 0 _
theorem numsB_bd : ∀ (n : Nat) (c : Int), ∀ x ∈ numsB n c, 0 ≤ x ∧ x < 1000
  | 0, _, x, h => by simp [numsB] at h
  | n + 1, c, x, h => by
    rw [numsB, List.mem_cons] at h
    rcases h with h | h
    · subst h; omega
    · exact numsB_bd n _ x h
theorem numsL_bd : ∀ (n i : Nat) (c : Int), ∀ x ∈ numsL n i c, 0 ≤ x ∧ x < 1000
  | 0, _, _, x, h => by simp [numsL] at h
  | n + 1, i, c, x, h => by
    rw [numsL, List.mem_cons] at h
    rcases h with h | h
    · subst h; omega
    · exact numsL_bd n _ _ x h
theorem nums_bd (c : Int) (n : Nat) : ∀ x ∈ nums c n, 0 ≤ x ∧ x < 1000 := by
  unfold nums
  split
  · exact numsB_bd n c
  · exact numsL_bd n 0 _
theorem lcg_bd (m : Int) (i : Nat) : 0 ≤ lcg m i ∧ lcg m i < 2147483647 := by unfold lcg; omega
theorem own_last {L0 : Sto} {acc : List PyData} : (L0 ++ [MO.lst acc])[L0.length]? = some (.lst acc) := by rw [List.getElem?_append_right (Nat.le_refl _)]; simp
theorem set_last {L0 : Sto} {a b : MO} : (L0 ++ [a]).set L0.length b = L0 ++ [b] := by rw [List.set_append_right _ _ (Nat.le_refl _)]; simp
theorem take_all {L0 : Sto} {a : MO} : (L0 ++ [a]).take (L0.length + 1) = L0 ++ [a] := List.take_of_length_le (by simp)
theorem take_last {L0 : Sto} {a : MO} : (L0 ++ [a]).take L0.length = L0 := List.take_left' rfl
theorem rng0 (n : Nat) : rng 0 (n : Int) = (List.range n).map fun i : Nat => PyData.int (i : Int) := by
  unfold rng
  rw [Int.sub_zero, Int.toNat_natCast]
  exact List.map_congr_left fun i _ => by rw [Int.zero_add]
theorem rng0_get {n j : Nat} {d : PyData} (h : (rng 0 (n : Int))[j]? = some d) : d = .int (j : Int) ∧ j < n := by
  rw [rng0, List.getElem?_map] at h
  cases e : (List.range n)[j]? with
  | none => rw [e] at h; cases h
  | some i =>
    rw [e] at h
    obtain ⟨h1, h2⟩ := List.getElem?_eq_some_iff.mp e
    simp at h1 h2
    subst h2
    exact ⟨(Option.some.inj h).symm, h1⟩
theorem rng0_len (n : Nat) : (rng 0 (n : Int)).length = n := by rw [rng0, List.length_map, List.length_range]
/-- the draws -/
theorem numbers_eq (c : Int) (n : Nat) (hn : n ≤ 10000) (L : Sto) : f_l_numbers [.d (.int c), .d (.int (n : Int))] L = .ok (.new (.lst ((nums c n).map PyData.int))) L := by
  have hp : opPowC 10 18 := by decide
  have hd1 : ∀ i, opDivC i 1000 := fun _ => by unfold opDivC; omega
  have hd7 : ∀ i, opDivC i 7 := fun _ => by unfold opDivC; omega
  have hm1 : ∀ i, opModC i 1000 := fun _ => by unfold opModC; omega
  have hm2 : ∀ i, opModC i 2147483647 := fun _ => by unfold opModC; omega
  have hb : okR (n : Int) := okR_of (by omega) (by omega)
  unfold f_l_numbers b_l_numbers nums
  by_cases hc : (10 : Int) ^ 18 ≤ c
  · have hc' : (1000000000000000000 : Int) ≤ c := hc
    rw [if_pos hc]
    obtain ⟨ρ', L', e, v, c', acc, rfl, e1, e2, rfl⟩ := forL_run (t := .nm 4) (body := k1_l_numbers) (n := L.length + 1) (g := none)
      (ρ := [some (.d (.int c)), some (.d (.int n)), some (.own L.length), none, none]) (L := L ++ [.lst []]) (ds := rng 0 (n : Int))
      (fun j ρ L' => ∃ (v : Option SV) (c' : Int) (acc : List Int), ρ = [some (.d (.int c')), some (.d (.int n)), some (.own L.length), none, v] ∧ acc.length = j ∧ numsB n c = acc ++ numsB (n - j) c' ∧ L' = L ++ [.lst (acc.map PyData.int)])
      ⟨none, c, [], rfl, rfl, rfl, rfl⟩ (by
        rintro j d ρ L' hd ⟨v, c', acc, rfl, ha, e1, rfl⟩
        obtain ⟨rfl, hj⟩ := rng0_get hd
        have hl : acc.length < sizeLine := lt_line (by omega)
        have e4 : n - j = (n - (j + 1)) + 1 := by omega
        rw [e4, numsB] at e1
        refine ⟨_, [some (.d (.int (c' / 1000))), some (.d (.int n)), some (.own L.length), none, some (.d (.int j))], L ++ [.lst ((acc ++ [c' % 1000]).map PyData.int)], rfl, .inl ?_, rfl, by simp, some (.d (.int j)), c' / 1000, acc ++ [c' % 1000], by simp, by simp [ha], by rw [e1]; simp, take_all⟩
        simp [k1_l_numbers, own_last, hl, set_last, hd1, hm1])
    rw [rng0_len] at e1 e2
    simp [hp, hm2, hc', sFor_ap, hb, e, cutR_rt_own, own_last, take_last]
    rw [Nat.sub_self, numsB, List.append_nil] at e2
    rw [e2]
  · have hc' : ¬ (1000000000000000000 : Int) ≤ c := hc
    rw [if_neg hc]
    obtain ⟨ρ', L', e, v, m', acc, rfl, e1, e0, e2, rfl⟩ := forL_run (t := .nm 4) (body := k2_l_numbers) (n := L.length + 1) (g := none)
      (ρ := [some (.d (.int c)), some (.d (.int n)), some (.own L.length), some (.d (.int (c % 2147483647))), none]) (L := L ++ [.lst []]) (ds := rng 0 (n : Int))
      (fun j ρ L' => ∃ (v : Option SV) (m' : Int) (acc : List Int), ρ = [some (.d (.int c)), some (.d (.int n)), some (.own L.length), some (.d (.int m')), v] ∧ acc.length = j ∧ (0 ≤ m' ∧ m' < 2147483647) ∧ numsL n 0 (c % 2147483647) = acc ++ numsL (n - j) j m' ∧ L' = L ++ [.lst (acc.map PyData.int)])
      ⟨none, c % 2147483647, [], rfl, rfl, by omega, rfl, rfl⟩ (by
        rintro j d ρ L' hd ⟨v, m', acc, rfl, ha, hm, e1, rfl⟩
        obtain ⟨rfl, hj⟩ := rng0_get hd
        have hl : acc.length < sizeLine := lt_line (by omega)
        have e4 : n - j = (n - (j + 1)) + 1 := by omega
        rw [e4, numsL] at e1
        have h1 : opMulC m' 48271 := .inr (by decide)
        have h2 : opMulC 69621 ((j : Int) + 1) := .inl (by decide)
        refine ⟨_, [some (.d (.int c)), some (.d (.int n)), some (.own L.length), some (.d (.int (lcg m' j))), some (.d (.int j))], L ++ [.lst ((acc ++ [lcg m' j / 7 % 1000]).map PyData.int)], rfl, .inl ?_, rfl, by simp, some (.d (.int j)), lcg m' j, acc ++ [lcg m' j / 7 % 1000], by simp, by simp [ha], lcg_bd m' j, by rw [e1]; simp, take_all⟩
        simp [k2_l_numbers, own_last, hl, set_last, hd7, hm1, hm2, h1, h2, lcg])
    rw [rng0_len] at e1 e2
    simp [hp, hm2, hc', sFor_ap, hb, e, cutR_rt_own, own_last, take_last]
    rw [Nat.sub_self, numsL, List.append_nil] at e2
    rw [e2]
abbrev tI (a : List Int) : PyData := .tuple (a.map PyData.int)
abbrev lI (a : List Int) : PyData := .list (a.map PyData.int)
theorem atI_int {xs : List Int} {i : Int} (h0 : 0 ≤ i) (h : i < (xs.length : Int)) : atI (xs.map PyData.int) i = some (.int (xs.getD i.toNat 0)) := atI_get _ _ _ h0 (by
  have hn : i.toNat < xs.length := by omega
  rw [List.getElem?_map, List.getElem?_eq_getElem hn, List.getD_eq_getElem?_getD, List.getElem?_eq_getElem hn] <;> rfl)
theorem atI_ex {xs : List Int} {i : Int} (h0 : 0 ≤ i) (h : i < (xs.length : Int)) : ∃ a, atI (xs.map PyData.int) i = some (.int a) ∧ a ∈ xs ∧ xs[i.toNat]? = some a := by
  have hn : i.toNat < xs.length := by omega
  exact ⟨xs[i.toNat], atI_get _ _ _ h0 (by rw [List.getElem?_map, List.getElem?_eq_getElem hn] <;> rfl), List.getElem_mem hn, List.getElem?_eq_getElem hn⟩
theorem ixN_of {n : Nat} {i : Int} (h0 : 0 ≤ i) (h : i < (n : Int)) : ixN n i = some i.toNat := by
  unfold ixN
  rw [if_pos (by omega), if_pos (by omega)]
theorem getD_bd {xs : List Int} {P : Int → Prop} (h : ∀ x ∈ xs, P x) {i : Nat} (hi : i < xs.length) : P (xs.getD i 0) := by
  rw [List.getD_eq_getElem?_getD, List.getElem?_eq_getElem hi]
  exact h _ (List.getElem_mem hi)
theorem sIx_nn {n d : Nat} {i : Int} (h : 0 ≤ i) : HT.sIx n d (some i) = min i.toNat n := by
  unfold HT.sIx
  simp only [if_neg (Int.not_lt.mpr h)]
theorem cut_from {α : Type} (xs : List α) (i : Int) (h : 0 ≤ i) : (xs.drop (HT.sIx xs.length 0 (some i)) |>.take (HT.sIx xs.length xs.length none - HT.sIx xs.length 0 (some i))) = xs.drop i.toNat := by
  rw [sIx_nn h]
  show (xs.drop (min i.toNat xs.length)).take (xs.length - min i.toNat xs.length) = _
  rw [List.take_of_length_le (by rw [List.length_drop]; exact Nat.le_refl _)]
  by_cases hi : i.toNat ≤ xs.length
  · rw [Nat.min_eq_left hi]
  · rw [Nat.min_eq_right (by omega), List.drop_length, List.drop_eq_nil_of_le (by omega)]
theorem cut_to {α : Type} (xs : List α) (j : Int) (h : 0 ≤ j) : (xs.drop (HT.sIx xs.length 0 none) |>.take (HT.sIx xs.length xs.length (some j) - HT.sIx xs.length 0 none)) = xs.take j.toNat := by
  rw [sIx_nn h]
  show (xs.drop 0).take (min j.toNat xs.length - 0) = _
  rw [List.drop_zero, Nat.sub_zero]
  by_cases hi : j.toNat ≤ xs.length
  · rw [Nat.min_eq_left hi]
  · rw [Nat.min_eq_right (by omega), List.take_length, List.take_of_length_le (by omega)]
theorem cut_mid {α : Type} (xs : List α) (i j : Int) (h : 0 ≤ i) (h' : 0 ≤ j) : (xs.drop (HT.sIx xs.length 0 (some i)) |>.take (HT.sIx xs.length xs.length (some j) - HT.sIx xs.length 0 (some i))) = (xs.drop i.toNat).take (j.toNat - i.toNat) := by
  rw [sIx_nn h, sIx_nn h']
  apply List.ext_getElem?
  intro k
  simp only [List.getElem?_take, List.getElem?_drop]
  by_cases h1 : k < j.toNat - i.toNat
  · rw [if_pos h1]
    by_cases h2 : i.toNat + k < xs.length
    · rw [if_pos (by omega), Nat.min_eq_left (by omega)]
    · rw [List.getElem?_eq_none (by omega : xs.length ≤ i.toNat + k)]
      split
      · rw [List.getElem?_eq_none (by omega)]
      · rfl
  · rw [if_neg h1, if_neg (by omega)]
theorem slL_from (xs : List PyData) (i : Int) (L : Sto) (h : 0 ≤ i) : opSl (.d (.list xs)) (some i) none L = .ok (.new (.lst (xs.drop i.toNat))) L := by
  show RE.ok (.new (.lst _)) L = _
  rw [cut_from xs i h]
theorem slL_to (xs : List PyData) (j : Int) (L : Sto) (h : 0 ≤ j) : opSl (.d (.list xs)) none (some j) L = .ok (.new (.lst (xs.take j.toNat))) L := by
  show RE.ok (.new (.lst _)) L = _
  rw [cut_to xs j h]
theorem slL_mid (xs : List PyData) (i j : Int) (L : Sto) (h : 0 ≤ i) (h' : 0 ≤ j) : opSl (.d (.list xs)) (some i) (some j) L = .ok (.new (.lst ((xs.drop i.toNat).take (j.toNat - i.toNat)))) L := by
  show RE.ok (.new (.lst _)) L = _
  rw [cut_mid xs i j h h']
theorem slT_from (xs : List PyData) (i : Int) (L : Sto) (h : 0 ≤ i) : opSl (.d (.tuple xs)) (some i) none L = okD (.tuple (xs.drop i.toNat)) L := by
  show okD (.tuple _) L = _
  rw [cut_from xs i h]
theorem slT_to (xs : List PyData) (j : Int) (L : Sto) (h : 0 ≤ j) : opSl (.d (.tuple xs)) none (some j) L = okD (.tuple (xs.take j.toNat)) L := by
  show okD (.tuple _) L = _
  rw [cut_to xs j h]
theorem slT_mid (xs : List PyData) (i j : Int) (L : Sto) (h : 0 ≤ i) (h' : 0 ≤ j) : opSl (.d (.tuple xs)) (some i) (some j) L = okD (.tuple ((xs.drop i.toNat).take (j.toNat - i.toNat))) L := by
  show okD (.tuple _) L = _
  rw [cut_mid xs i j h h']
mutual
def nested : Nat → PyData → Bool
  | _, .none => true
  | _, .bool _ => true
  | _, .int _ => true
  | _, .str s => PyData.strOk s
  | n + 1, .list xs => decide (xs.length ≤ 100000000) && nestedL n xs
  | n + 1, .tuple xs => decide (xs.length ≤ 100000000) && nestedL n xs
  | _, _ => false
def nestedL : Nat → List PyData → Bool
  | _, [] => true
  | n, x :: xs => nested n x && nestedL n xs
end
theorem nestedL_mem : ∀ {n : Nat} {xs : List PyData} {x : PyData}, nestedL n xs = true → x ∈ xs → nested n x = true
  | _, [], _, _, h => by simp at h
  | n, y :: xs, x, h, hm => by
    rw [nestedL, Bool.and_eq_true] at h
    rcases List.mem_cons.mp hm with e | e
    · subst e; exact h.1
    · exact nestedL_mem h.2 e
theorem nestedL_all : ∀ {n : Nat} {xs : List PyData}, (∀ x ∈ xs, nested n x = true) → nestedL n xs = true
  | _, [], _ => by rw [nestedL]
  | n, y :: xs, h => by
    rw [nestedL, Bool.and_eq_true]
    exact ⟨h y List.mem_cons_self, nestedL_all fun x hx => h x (List.mem_cons_of_mem _ hx)⟩
mutual
theorem nested_lay : ∀ (n : Nat) (x : PyData), nested n x = true → x.canLay0 = true ∧ x.depth ≤ n ∧ PyData.eqv x x = true
  | n, .none, _ => ⟨rfl, Nat.zero_le _, rfl⟩
  | n, .bool b, _ => ⟨rfl, Nat.zero_le _, by simp [PyData.eqv]⟩
  | n, .int i, _ => ⟨rfl, Nat.zero_le _, by simp [PyData.eqv]⟩
  | n, .str s, h => ⟨by rw [PyData.canLay0]; cases n <;> exact h, Nat.zero_le _, by simp [PyData.eqv]⟩
  | 0, .list xs, h => by simp [nested] at h
  | 0, .tuple xs, h => by simp [nested] at h
  | n, .dict xs, h => by cases n <;> simp [nested] at h
  | n + 1, .list xs, h => by
    rw [nested, Bool.and_eq_true] at h
    obtain ⟨h1, h2, h3⟩ := nestedL_lay n xs h.2
    exact ⟨by rw [PyData.canLay0]; exact h1, by rw [PyData.depth]; omega, by rw [PyData.eqv]; exact h3⟩
  | n + 1, .tuple xs, h => by
    rw [nested, Bool.and_eq_true] at h
    obtain ⟨h1, h2, h3⟩ := nestedL_lay n xs h.2
    exact ⟨by rw [PyData.canLay0]; exact h1, by rw [PyData.depth]; omega, by rw [PyData.eqv]; exact h3⟩
theorem nestedL_lay : ∀ (n : Nat) (xs : List PyData), nestedL n xs = true → PyData.canLayAll0 xs = true ∧ PyData.depthAll xs ≤ n ∧ PyData.eqvAll xs xs = true
  | n, [], _ => ⟨rfl, Nat.zero_le _, rfl⟩
  | n, x :: xs, h => by
    rw [nestedL, Bool.and_eq_true] at h
    obtain ⟨h1, h2, h3⟩ := nested_lay n x h.1
    obtain ⟨h4, h5, h6⟩ := nestedL_lay n xs h.2
    exact ⟨by rw [PyData.canLayAll0, h1, h4] <;> rfl, by rw [PyData.depthAll]; omega, by rw [PyData.eqvAll, h3, h6] <;> rfl⟩
end
theorem shaped_nested {n : Nat} {x : PyData} (hn : n ≤ 64) (h : nested n x = true) : SeqAt.shaped x = true := by
  obtain ⟨h1, h2, _⟩ := nested_lay n x h
  unfold SeqAt.shaped
  rw [h1, Bool.true_and, decide_eq_true_eq]
  omega
theorem opEq_self {n : Nat} {x : PyData} (hn : n ≤ 64) (h : nested n x = true) (L : Sto) : opEqG false (.d x) (.d x) L = okD (.bool true) L := by
  have h1 := shaped_nested hn h
  have h2 := (nested_lay n x h).2.2
  cases x <;> simp [opEqG, pyOf, h1, h2]
theorem nested_tI (a : List Int) (h : a.length ≤ 100000000) (n : Nat) : nested (n + 1) (tI a) = true := by
  rw [nested, Bool.and_eq_true, decide_eq_true_eq]
  refine ⟨by simpa using h, nestedL_all fun x hx => ?_⟩
  obtain ⟨i, _, rfl⟩ := List.mem_map.mp hx
  rw [nested]
theorem nested_tup {n : Nat} {xs : List PyData} (hl : xs.length ≤ 100000000) (h : ∀ x ∈ xs, nested n x = true) : nested (n + 1) (.tuple xs) = true := by
  rw [nested, Bool.and_eq_true, decide_eq_true_eq]
  exact ⟨hl, nestedL_all h⟩
theorem nested_lst {n : Nat} {xs : List PyData} (hl : xs.length ≤ 100000000) (h : ∀ x ∈ xs, nested n x = true) : nested (n + 1) (.list xs) = true := by
  rw [nested, Bool.and_eq_true, decide_eq_true_eq]
  exact ⟨hl, nestedL_all h⟩
theorem nested_int (n : Nat) (i : Int) : nested n (.int i) = true := by cases n <;> rw [nested]
theorem sh_bool (b : Bool) : SeqAt.shaped (.bool b) = true := by simp [SeqAt.shaped, PyData.canLay0, PyData.depth]
theorem sh_int (b : Int) : SeqAt.shaped (.int b) = true := by simp [SeqAt.shaped, PyData.canLay0, PyData.depth]
@[simp] theorem opEq_bool (a b : Bool) (L : Sto) : opEqG false (.d (.bool a)) (.d (.bool b)) L = okD (.bool (a == b)) L := by simp [opEqG, pyOf, sh_bool, PyData.eqv]
@[simp] theorem opNe_bool (a b : Bool) (L : Sto) : opEqG true (.d (.bool a)) (.d (.bool b)) L = okD (.bool (a != b)) L := by simp [opEqG, pyOf, sh_bool, PyData.eqv, bne]
@[simp] theorem opEq_int (a b : Int) (L : Sto) : opEqG false (.d (.int a)) (.d (.int b)) L = okD (.bool (a == b)) L := by simp [opEqG, pyOf, sh_int, PyData.eqv]
@[simp] theorem opNe_int (a b : Int) (L : Sto) : opEqG true (.d (.int a)) (.d (.int b)) L = okD (.bool (a != b)) L := by simp [opEqG, pyOf, sh_int, PyData.eqv, bne]
@[simp] theorem opEq_str (a b : Str) (L : Sto) : opEqG false (.d (.str a)) (.d (.str b)) L = okD (.bool (a == b)) L := by simp [opEqG]
@[simp] theorem opNe_str (a b : Str) (L : Sto) : opEqG true (.d (.str a)) (.d (.str b)) L = okD (.bool (a != b)) L := by simp [opEqG, bne]
end Common
section Common2
theorem same_loop (n : Nat) (xs : List PyData) (x : PyData) (L : Sto) (hx : ∀ i : Nat, ∀ d, xs[i]? = some d → opIx (.d x) (.d (.int (i : Int))) L = okD d L) (ih : ∀ d ∈ xs, f_l_same n [.d d, .d d] L = okD (.bool true) L) :
    ∃ v, forL (.nm 2) (k1_l_same (f_l_same n)) L.length none (rng 0 (xs.length : Int)) [some (.d x), some (.d x), none] L = .nx [some (.d x), some (.d x), v] L := by
  obtain ⟨ρ', L', e, v, rfl, rfl⟩ := forL_run (t := .nm 2) (body := k1_l_same (f_l_same n)) (n := L.length) (g := none)
    (ρ := [some (.d x), some (.d x), none]) (L := L) (ds := rng 0 (xs.length : Int))
    (fun j ρ L' => ∃ v : Option SV, ρ = [some (.d x), some (.d x), v] ∧ L' = L) ⟨none, rfl, rfl⟩ (by
      rintro j d ρ L' hd ⟨v, rfl, rfl⟩
      obtain ⟨rfl, hj⟩ := rng0_get hd
      have h1 := hx j _ (List.getElem?_eq_getElem hj)
      have h2 := ih _ (List.getElem_mem hj)
      refine ⟨_, [some (.d x), some (.d x), some (.d (.int j))], L', rfl, .inl ?_, rfl, Nat.le_refl _, some (.d (.int j)), by simp, List.take_length⟩
      simp [k1_l_same, h1, h2])
  exact ⟨v, e⟩
theorem same_refl : ∀ (n : Nat) (x : PyData), nested n x = true → (∀ L, f_l_same (n + 1) [.d x, .d x] L = okD (.bool true) L)
  | n, .none, _, L => by simp [f_l_same, b_l_same]
  | n, .bool b, _, L => by
    cases b <;> simp [f_l_same, b_l_same, isiB]
  | n, .int i, _, L => by simp [f_l_same, b_l_same, isiB]
  | n, .str s, _, L => by simp [f_l_same, b_l_same, isiB]
  | 0, .list xs, h, _ => by simp [nested] at h
  | 0, .tuple xs, h, _ => by simp [nested] at h
  | n, .dict xs, h, _ => by cases n <;> simp [nested] at h
  | n + 1, .list xs, h, L => by
    rw [nested, Bool.and_eq_true, decide_eq_true_eq] at h
    have hl : okR (xs.length : Int) := okR_of (by omega) (by omega)
    obtain ⟨v, e⟩ := same_loop (n + 1) xs (.list xs) L (fun i d hd => by rw [opIx_lst, atI_getN _ _ _ hd]) (fun d hd => same_refl n d (nestedL_mem h.2 hd) L)
    rw [f_l_same]
    simp [b_l_same, isiB, sFor_ap, hl, e]
  | n + 1, .tuple xs, h, L => by
    rw [nested, Bool.and_eq_true, decide_eq_true_eq] at h
    have hl : okR (xs.length : Int) := okR_of (by omega) (by omega)
    obtain ⟨v, e⟩ := same_loop (n + 1) xs (.tuple xs) L (fun i d hd => by rw [opIx_tup, atI_getN _ _ _ hd]) (fun d hd => same_refl n d (nestedL_mem h.2 hd) L)
    rw [f_l_same]
    simp [b_l_same, isiB, sFor_ap, hl, e]
theorem same_own (n : Nat) (xs : List PyData) (k : Nat) (L : Sto) (h : nested (n + 1) (.list xs) = true) (hL : L[k]? = some (.lst xs)) : f_l_same (n + 2) [.own k, .d (.list xs)] L = okD (.bool true) L := by
  rw [nested, Bool.and_eq_true, decide_eq_true_eq] at h
  have hl : okR (xs.length : Int) := okR_of (by omega) (by omega)
  have hk : k < L.length := (List.getElem?_eq_some_iff.mp hL).1
  obtain ⟨ρ', L', e, v, hρ, hL'⟩ := forL_run (t := .nm 2) (body := k1_l_same (f_l_same (n + 1))) (n := L.length) (g := none)
    (ρ := [some (.own k), some (.d (.list xs)), none]) (L := L) (ds := rng 0 (xs.length : Int))
    (fun j ρ L' => ∃ v : Option SV, ρ = [some (.own k), some (.d (.list xs)), v] ∧ L' = L) ⟨none, rfl, rfl⟩ (by
      rintro j d ρ L' hd ⟨v, hρ, hL'⟩
      subst hρ
      subst hL'
      obtain ⟨rfl, hj⟩ := rng0_get hd
      have h1 := atI_getN _ _ _ (List.getElem?_eq_getElem hj)
      have h2 := same_refl n _ (nestedL_mem h.2 (List.getElem_mem hj)) L'
      simp only [okD_eq] at h2
      refine ⟨_, [some (.own k), some (.d (.list xs)), some (.d (.int j))], L', rfl, .inl ?_, rfl, Nat.le_refl _, some (.d (.int j)), by simp [hk], List.take_length⟩
      simp [k1_l_same, opIx_own, hL, h1, h2])
  rw [hρ, hL'] at e
  rw [f_l_same]
  simp [b_l_same, isiB, sFor_ap, hl, e, hL, tyOf]
end Common2
section Strs
def alpha (l : Nat) : List Str := ([⟨#[97]⟩, ⟨#[98]⟩, ⟨#[99]⟩, ⟨#[100]⟩] : List Str).take l
def ext (l : Nat) (w : Str) : List Str := (alpha l).map fun a => w ++ a
def lvl (l : Nat) : Nat → List Str
  | 0 => [⟨#[]⟩]
  | n + 1 => (lvl l n).flatMap (ext l)
def wds (l : Nat) : Nat → List Str
  | 0 => [⟨#[]⟩]
  | n + 1 => wds l n ++ lvl l (n + 1)
def tot (l : Nat) : Nat → Nat
  | 0 => 1
  | n + 1 => tot l n + l ^ (n + 1)
theorem str_e : (("" : String) : Str) = ⟨#[]⟩ := by decide +kernel
theorem str_len (a b : Str) : (a ++ b).length = a.length + b.length := Array.size_append
theorem alpha_mem {l : Nat} {a : Str} (h : a ∈ alpha l) : a.length = 1 ∧ PyData.strOk a = true := by
  have h : a ∈ ([⟨#[97]⟩, ⟨#[98]⟩, ⟨#[99]⟩, ⟨#[100]⟩] : List Str) := List.mem_of_mem_take h
  simp at h
  rcases h with rfl | rfl | rfl | rfl <;> exact ⟨rfl, by decide +kernel⟩
theorem alpha_len {l : Nat} (h : l ≤ 4) : (alpha l).length = l := by
  unfold alpha
  rw [List.length_take]
  simp
  omega
theorem strOk_app {a b : Str} (ha : PyData.strOk a = true) (hb : PyData.strOk b = true) : PyData.strOk (a ++ b) = true := by
  unfold PyData.strOk at *
  show (a.cps ++ b.cps).all _ = true
  rw [Array.all_append, ha, hb] <;> rfl
theorem lvl_mem {l : Nat} : ∀ {n : Nat} {w : Str}, w ∈ lvl l n → w.length = n ∧ PyData.strOk w = true
  | 0, w, h => by
    rw [lvl, List.mem_singleton] at h
    subst h
    exact ⟨rfl, by decide +kernel⟩
  | n + 1, w, h => by
    rw [lvl, List.mem_flatMap] at h
    obtain ⟨v, hv, h⟩ := h
    obtain ⟨a, ha, rfl⟩ := List.mem_map.mp h
    obtain ⟨h1, h2⟩ := lvl_mem hv
    obtain ⟨h3, h4⟩ := alpha_mem ha
    exact ⟨by rw [str_len, h1, h3], strOk_app h2 h4⟩
theorem flat_len {l : Nat} (hl : l ≤ 4) (xs : List Str) : (xs.flatMap (ext l)).length = xs.length * l := by
  induction xs with
  | nil => simp
  | cons x xs ih => rw [List.flatMap_cons, List.length_append, ih, ext, List.length_map, alpha_len hl, List.length_cons, Nat.succ_mul]; omega
theorem lvl_len {l : Nat} (hl : l ≤ 4) : ∀ n, (lvl l n).length = l ^ n
  | 0 => rfl
  | n + 1 => by rw [lvl, flat_len hl, lvl_len hl n, Nat.pow_succ]
theorem wds_len {l : Nat} (hl : l ≤ 4) : ∀ n, (wds l n).length = tot l n
  | 0 => rfl
  | n + 1 => by rw [wds, List.length_append, wds_len hl n, lvl_len hl, tot]
theorem tot_mono {l : Nat} : ∀ {j n : Nat}, j ≤ n → tot l j ≤ tot l n
  | j, 0, h => by rw [Nat.le_zero.mp h]; exact Nat.le_refl _
  | j, n + 1, h => by
    by_cases e : j = n + 1
    · rw [e]; exact Nat.le_refl _
    · have := tot_mono (l := l) (j := j) (n := n) (by omega)
      rw [tot]; omega
theorem pow_tot {l : Nat} : ∀ n, l ^ n ≤ tot l n
  | 0 => by simp [tot]
  | n + 1 => by rw [tot]; omega
theorem wds_mem {l : Nat} : ∀ {n : Nat} {w : Str}, w ∈ wds l n → w.length ≤ n ∧ PyData.strOk w = true
  | 0, w, h => by
    rw [wds, List.mem_singleton] at h
    subst h
    exact ⟨Nat.le_refl 0, by decide +kernel⟩
  | n + 1, w, h => by
    rw [wds, List.mem_append] at h
    rcases h with h | h
    · have := wds_mem h; exact ⟨by omega, this.2⟩
    · have := lvl_mem h; exact ⟨by omega, this.2⟩
theorem sl_abcd {l : Nat} (hl : 1 ≤ l ∧ l ≤ 4) (L : Sto) : ∃ s : Str, opSl (.d (.str ("abcd" : Str))) none (some (l : Int)) L = okD (.str s) L ∧ signs s = (alpha l).map PyData.str ∧ s.length ≤ 4 := by
  have : l = 1 ∨ l = 2 ∨ l = 3 ∨ l = 4 := by omega
  have hz : ("abcd" : Str).length ≤ sizeLine := le_line (by decide)
  refine ⟨cutS ("abcd" : Str) none (some (l : Int)), by show (if ("abcd" : Str).length ≤ sizeLine then okD _ L else RE.stuck) = _; rw [if_pos hz], ?_, ?_⟩ <;> rcases this with rfl | rfl | rfl | rfl <;> first | decide +kernel | rfl
abbrev lS (ws : List Str) : PyData := .list (ws.map PyData.str)
theorem sjoin_e : ∀ ss : List Str, (Str.join ⟨#[]⟩ ss).cps.toList = (ss.map fun s => s.cps.toList).flatten
  | [] => rfl
  | [x] => by simp [Str.join]
  | x :: y :: r => by
    have := sjoin_e (y :: r)
    rw [List.map_cons, List.flatten_cons, ← this]
    show ((x ++ ⟨#[]⟩) ++ Str.join ⟨#[]⟩ (y :: r)).cps.toList = _
    show ((x.cps ++ #[]) ++ (Str.join ⟨#[]⟩ (y :: r)).cps).toList = _
    simp
theorem join_e (ss : List Str) : (Txt.join ⟨#[]⟩ ss).cps.toList = (ss.map fun s => s.cps.toList).flatten := by
  rw [← sjoin_e, eq_of_beq (PyProof.Rows.join_plain_closes ⟨#[]⟩ ss)]
theorem abcd_cps : ((("abcd" : String) : Str)).cps.toList = [97, 98, 99, 100] := by decide +kernel
theorem abcd_len : ((("abcd" : String) : Str)).length = 4 := by decide +kernel
theorem abcd_at {i : Int} (h0 : 0 ≤ i) (h : i < 4) : atI ((("abcd" : String) : Str)).cps.toList i = some (97 + i.toNat) := by
  rw [abcd_cps]
  have : i = 0 ∨ i = 1 ∨ i = 2 ∨ i = 3 := by omega
  rcases this with rfl | rfl | rfl | rfl <;> rfl
/-- a word over the first letters -/
def Wd (l n : Nat) (w : Str) : Prop := w.length ≤ n ∧ ∀ ch ∈ w.cps.toList, 97 ≤ ch ∧ ch < 97 + l
theorem Wd.app {l n m : Nat} {v w : Str} (a : Wd l n v) (b : Wd l m w) : Wd l (n + m) (v ++ w) := by
  refine ⟨by rw [str_len]; have := a.1; have := b.1; omega, fun ch h => ?_⟩
  have e : (v ++ w).cps.toList = v.cps.toList ++ w.cps.toList := Array.toList_append
  rw [e] at h
  rcases List.mem_append.mp h with h | h
  · exact a.2 ch h
  · exact b.2 ch h
theorem rep_list (c : Array Nat) : ∀ (n : Nat) (acc : Array Nat), ((List.replicate n c).foldl (· ++ ·) acc).toList = acc.toList ++ (List.replicate n c.toList).flatten
  | 0, acc => by simp
  | n + 1, acc => by rw [List.replicate_succ, List.foldl_cons, rep_list c n, Array.toList_append, List.replicate_succ, List.flatten_cons, List.append_assoc]
theorem Wd.rep {l n : Nat} {w : Str} (a : Wd l n w) (k : Nat) : Wd l (k * n) (repS w k) := by
  refine ⟨by rw [repS_len]; exact Nat.mul_le_mul_left k a.1, fun ch h => ?_⟩
  have e : (repS w k).cps.toList = (List.replicate k w.cps.toList).flatten := (rep_list w.cps k #[]).trans (by simp)
  rw [e, List.mem_flatten] at h
  obtain ⟨xs, h1, h2⟩ := h
  rw [(List.mem_replicate.mp h1).2] at h2
  exact a.2 ch h2
end Strs
section Words
/-- the law's words -/
theorem words_eq (l n : Nat) (hl : 1 ≤ l ∧ l ≤ 4) (hn : n ≤ 1000) (ht : tot l n ≤ 10000) (L : Sto) :
    f_l_words [.d (.int (l : Int)), .d (.int (n : Int))] L = okD (lS (wds l n)) L := by
  have hb : okR (n : Int) := okR_of (by omega) (by omega)
  obtain ⟨s, es, hs, hs4⟩ := sl_abcd hl L
  obtain ⟨ρ', L', e, v4, v5, v6, rfl, rfl⟩ := forL_run (t := .nm 4) (body := k2_l_words) (n := L.length) (g := none)
    (ρ := [some (.d (.int l)), some (.d (.int n)), some (.d (.list [.str ⟨#[]⟩])), some (.d (.list [.str ⟨#[]⟩])), none, none, none, none]) (L := L) (ds := rng 0 (n : Int))
    (fun j ρ L' => ∃ v4 v5 v6 : Option SV, ρ = [some (.d (.int l)), some (.d (.int n)), some (.d (lS (wds l j))), some (.d (lS (lvl l j))), v4, v5, v6, none] ∧ L' = L)
    ⟨none, none, none, rfl, rfl⟩ (by
      rintro j d ρ L' hd ⟨v4, v5, v6, rfl, rfl⟩
      obtain ⟨rfl, hj⟩ := rng0_get hd
      have b1 := tot_mono (l := l) (show j + 1 ≤ n by omega)
      have b2 := pow_tot (l := l) (j + 1)
      obtain ⟨ρ', L'', e, v6', hρ, hL⟩ := forL_run (t := .nm 6) (body := k1_l_words) (n := L'.length) (g := none)
        (ρ := [some (.d (.int l)), some (.d (.int n)), some (.d (lS (wds l j))), some (.d (lS (lvl l j))), some (.d (.int j)), some (.d (.list [])), v6, none]) (L := L') (ds := (lvl l j).map PyData.str)
        (fun i ρ L'' => ∃ v6 : Option SV, ρ = [some (.d (.int l)), some (.d (.int n)), some (.d (lS (wds l j))), some (.d (lS (lvl l j))), some (.d (.int j)), some (.d (lS (((lvl l j).take i).flatMap (ext l)))), v6, none] ∧ L'' = L')
        ⟨v6, rfl, rfl⟩ (by
          rintro i d ρ L'' hd ⟨v6, rfl, rfl⟩
          rw [List.getElem?_map] at hd
          obtain ⟨w, hw, rfl⟩ := Option.map_eq_some_iff.mp hd
          have hwm : w ∈ lvl l j := List.mem_of_getElem? hw
          have hc : mComp (.nm 7) [7] (mC (.d (.bool true))) (bind2 (mV 6) (mV 7) opAdd) (iOf (mSl (mC (.d (.str ("abcd" : Str)))) oNone (oSome (mV 0)))) [some (.d (.int l)), some (.d (.int n)), some (.d (lS (wds l j))), some (.d (lS (lvl l j))), some (.d (.int j)), some (.d (lS (((lvl l j).take i).flatMap (ext l)))), some (.d (.str w)), none] L'' =
              .ok (.new (.lst ((ext l w).map PyData.str))) L'' := by
            rw [mComp_map (ds := (alpha l).map PyData.str) (L1 := L'') (fun e => match e with
              | .str a => .str (w ++ a)
              | _ => .none) (by simp only [okD_eq] at es; simp [es, hs]) (by simp [Tg.sl]) (by rw [List.length_map, alpha_len hl.2]; exact le_line (by omega)) fun e he L2 => ⟨_, rfl, ?_⟩]
            · congr 3
              simp [ext, List.map_map, Function.comp_def]
            · obtain ⟨a, ha, rfl⟩ := List.mem_map.mp he
              have hz : w.length + a.length ≤ sizeLine := le_line (by rw [(lvl_mem hwm).1, (alpha_mem ha).1]; omega)
              exact ⟨.sv (.d (.str (w ++ a))), by simp [wipeR, hz], rfl⟩
          have hz : (((lvl l j).take i).flatMap (ext l)).length + (ext l w).length ≤ sizeLine := le_line (by
            rw [flat_len hl.2, ext, List.length_map, alpha_len hl.2, ← Nat.succ_mul]
            have h1 : i < (lvl l j).length := (List.getElem?_eq_some_iff.mp hw).1
            have h2 : ((lvl l j).take i).length + 1 ≤ l ^ j := by rw [← lvl_len hl.2, List.length_take]; omega
            have h3 : (((lvl l j).take i).length + 1) * l ≤ l ^ (j + 1) := by rw [Nat.pow_succ]; exact Nat.mul_le_mul_right l h2
            show (((lvl l j).take i).length + 1) * l ≤ _
            omega)
          have et : ((lvl l j).take (i + 1)).flatMap (ext l) = ((lvl l j).take i).flatMap (ext l) ++ ext l w := by rw [List.take_add_one, hw, List.flatMap_append]; simp
          refine ⟨_, [some (.d (.int l)), some (.d (.int n)), some (.d (lS (wds l j))), some (.d (lS (lvl l j))), some (.d (.int j)), some (.d (lS (((lvl l j).take (i + 1)).flatMap (ext l)))), some (.d (.str w)), none], L'', rfl, .inl ?_, rfl, Nat.le_refl _, some (.d (.str w)), by simp, List.take_length⟩
          rw [et]
          generalize ((lvl l j).take i).flatMap (ext l) = A at hc hz ⊢
          generalize ext l w = B at hc hz ⊢
          simp [k1_l_words, hc, hz])
      rw [hρ, hL, List.length_map, List.take_length] at e
      have hz : (wds l j).length + (lvl l (j + 1)).length ≤ sizeLine := le_line (by rw [← List.length_append]; show (wds l (j + 1)).length ≤ _; rw [wds_len hl.2]; omega)
      refine ⟨_, [some (.d (.int l)), some (.d (.int n)), some (.d (lS (wds l (j + 1)))), some (.d (lS (lvl l (j + 1)))), some (.d (.int j)), some (.d (lS (lvl l (j + 1)))), v6', none], L', rfl, .inl ?_, rfl, Nat.le_refl _, some (.d (.int j)), some (.d (lS (lvl l (j + 1)))), keepS L'.length v6', by simp, List.take_length⟩
      unfold k2_l_words
      refine seq_eq (ρ1 := [some (.d (.int l)), some (.d (.int n)), some (.d (lS (wds l j))), some (.d (lS (lvl l j))), some (.d (.int j)), some (.d (.list [])), v6, none]) (L1 := L') (by simp) ?_
      refine seq_eq (ρ1 := [some (.d (.int l)), some (.d (.int n)), some (.d (lS (wds l j))), some (.d (lS (lvl l j))), some (.d (.int j)), some (.d (lS (lvl l (j + 1)))), v6', none]) (L1 := L') (by simp only [sFor_ap]; simp [e, lvl]) ?_
      refine seq_eq (ρ1 := [some (.d (.int l)), some (.d (.int n)), some (.d (lS (wds l j))), some (.d (lS (lvl l (j + 1)))), some (.d (.int j)), some (.d (lS (lvl l (j + 1)))), v6', none]) (L1 := L') (by simp) ?_
      simp [hz, wds])
  rw [rng0_len] at e
  simp [f_l_words, b_l_words, str_e, sFor_ap, hb, e]
theorem tot_one : ∀ n, tot 1 n = n + 1
  | 0 => rfl
  | n + 1 => by rw [tot, tot_one n, Nat.one_pow]
theorem wds_nested (l n : Nat) (hl : l ≤ 4) (ht : tot l n ≤ 10000) (m : Nat) : nested (m + 1) (lS (wds l n)) = true := by
  refine nested_lst (by rw [List.length_map, wds_len hl]; omega) fun x hx => ?_
  obtain ⟨w, hw, rfl⟩ := List.mem_map.mp hx
  cases m <;> rw [nested] <;> exact (wds_mem hw).2
end Words
section Word
/-- the letter that a number tells -/
def chr (l : Nat) : PyData → Str
  | .int i => ⟨#[97 + (i % (l : Int)).toNat]⟩
  | _ => ⟨#[]⟩
theorem word_eq (c : Int) (l : Nat) (hl : 1 ≤ l ∧ l ≤ 4) (L : Sto) : ∃ w : Str, f_l_word [.d (.int c), .d (.int (l : Int))] L = okD (.str w) L ∧ Wd l 12 w := by
  have hx := nums_len c 14
  have hb := nums_bd c 14
  have en : f_l_numbers [.d (.int c), .d (.int 14)] L = .ok (.new (.lst ((nums c 14).map PyData.int))) L := numbers_eq c 14 (by omega) L
  generalize nums c 14 = xs at hx hb en
  obtain ⟨a0, g0, m0, _⟩ := atI_ex (xs := xs) (i := 0) (by omega) (by omega)
  obtain ⟨a13, g13, m13, _⟩ := atI_ex (xs := xs) (i := 13) (by omega) (by omega)
  have m4 : ∀ i, opModC i 4 := fun _ => by show (0 : Int) < 4; omega
  have m13' : ∀ i, opModC i 13 := fun _ => by show (0 : Int) < 13; omega
  have m2 : ∀ i, opModC i 2 := fun _ => by show (0 : Int) < 2; omega
  have ml : ∀ i, opModC i (l : Int) := fun _ => by show (0 : Int) < l; omega
  have hs : ∃ s : Nat, atI [PyData.int (a0 % 4), .int (a0 % 13)] (a13 % 2) = some (.int (s : Int)) ∧ s ≤ 12 := by
    have : a13 % 2 = 0 ∨ a13 % 2 = 1 := by omega
    rcases this with h | h
    · exact ⟨(a0 % 4).toNat, by rw [h, Int.toNat_of_nonneg (by omega)] <;> rfl, by omega⟩
    · exact ⟨(a0 % 13).toNat, by rw [h, Int.toNat_of_nonneg (by omega)] <;> rfl, by omega⟩
  obtain ⟨s, es, hs⟩ := hs
  have sl : opSl (.d (lI xs)) (some 1) (some (1 + (s : Int))) L = .ok (.new (.lst (((xs.map PyData.int).drop 1).take s))) L := by
    rw [slL_mid _ _ _ _ (by omega) (by omega), show (1 + (s : Int)).toNat - (1 : Int).toNat = s by omega] <;> rfl
  generalize hds : ((xs.map PyData.int).drop 1).take s = ds at sl
  have hdl : ds.length ≤ s := by rw [← hds, List.length_take]; omega
  have hdm : ∀ d ∈ ds, ∃ i, d = .int i := fun d hd => by
    rw [← hds] at hd
    obtain ⟨i, _, rfl⟩ := List.mem_map.mp (List.mem_of_mem_drop (List.mem_of_mem_take hd))
    exact ⟨i, rfl⟩
  have hz : ("abcd" : Str).length ≤ sizeLine := le_line (by rw [abcd_len]; omega)
  have hc : mComp (.nm 4) [4] (mC (.d (.bool true))) (bind2 (mC (.d (.str "abcd"))) (bind2 (mV 4) (mV 1) opMod) opIx) (iOf (mSl (mV 2) (oSome (mC (.d (.int 1)))) (oSome (bind2 (mC (.d (.int 1))) (mV 3) opAdd))))
      [some (.d (.int c)), some (.d (.int (l : Int))), some (.d (lI xs)), some (.d (.int (s : Int))), none] L = .ok (.new (.lst ((ds.map (chr l)).map PyData.str))) L := by
    rw [mComp_map (ds := ds) (L1 := L) (fun d => .str (chr l d)) (by simp [sl]) (by simp [Tg.sl]) (le_line (by omega)) fun d hd L2 => ⟨_, rfl, ?_⟩]
    · rw [List.map_map] <;> rfl
    · obtain ⟨i, rfl⟩ := hdm d hd
      have h1 := Int.emod_nonneg i (show (l : Int) ≠ 0 by omega)
      have h2 := Int.emod_lt_of_pos i (show (0 : Int) < l by omega)
      have e := abcd_at h1 (by omega)
      exact ⟨.sv (.d (.str (chr l (.int i)))), by simp [wipeR, ml, hz, e, chr], rfl⟩
  have hsum : ∀ ds : List PyData, (∀ d ∈ ds, ∃ i, d = PyData.int i) → ((ds.map (chr l)).map (·.length)).sum = ds.length ∧ ((ds.map (chr l)).map fun s => s.cps.toList).flatten.length = ds.length := by
    intro ds h
    induction ds with
    | nil => exact ⟨rfl, rfl⟩
    | cons d ds ih =>
      obtain ⟨i, rfl⟩ := h d List.mem_cons_self
      obtain ⟨h1, h2⟩ := ih fun d hd => h d (List.mem_cons_of_mem _ hd)
      refine ⟨?_, ?_⟩
      · rw [List.map_cons, List.map_cons, List.sum_cons, h1, List.length_cons, Nat.add_comm] <;> rfl
      · rw [List.map_cons, List.map_cons, List.flatten_cons, List.length_append, h2, List.length_cons, Nat.add_comm] <;> rfl
  obtain ⟨q1, q2⟩ := hsum ds hdm
  have hj := join_e (ds.map (chr l))
  refine ⟨Txt.join ⟨#[]⟩ (ds.map (chr l)), ?_, ?_, fun ch hch => ?_⟩
  · have e0 : (⟨#[]⟩ : Str).length = 0 := rfl
    have hq : ds.length ≤ 16777216 := by omega
    unfold f_l_word b_l_word
    refine fn_eq rfl (r := .rt (.sv (.d (.str (Txt.join ⟨#[]⟩ (ds.map (chr l)))))) L) ?_ (by simp)
    refine seq_eq (ρ1 := [some (.d (.int c)), some (.d (.int (l : Int))), some (.d (lI xs)), none, none]) (L1 := L) (by simp [en]) ?_
    refine seq_eq (ρ1 := [some (.d (.int c)), some (.d (.int (l : Int))), some (.d (lI xs)), some (.d (.int (s : Int))), none]) (L1 := L) (by simp [g0, g13, m4, m13', m2, es]) ?_
    refine ret_eq ?_
    rw [str_e, mMeth_ap]
    simp only [mC_ap, toS_sv, isTy_str, if_true, evalA_cons, hc, toS_lst, evalA_nil, cJoin_lst, strsOf_map, q1, e0, Nat.mul_zero, Nat.add_zero, if_pos hq, okD_eq]
  · show (Txt.join ⟨#[]⟩ (ds.map (chr l))).cps.size ≤ 12
    rw [← Array.length_toList, hj, q2]
    omega
  · rw [hj, List.mem_flatten] at hch
    obtain ⟨ys, h1, h2⟩ := hch
    obtain ⟨z, h3, rfl⟩ := List.mem_map.mp h1
    obtain ⟨d, h4, rfl⟩ := List.mem_map.mp h3
    obtain ⟨i, rfl⟩ := hdm d h4
    have h5 := Int.emod_nonneg i (show (l : Int) ≠ 0 by omega)
    have h6 := Int.emod_lt_of_pos i (show (0 : Int) < l by omega)
    have h7 : ch = 97 + (i % (l : Int)).toNat := by simpa [chr] using h2
    omega
end Word
end LW
namespace LW
open PySem L2 PD
def top (i : Nat) : Stmt := PySem.Challenge.pw_turnsandthrows_k55_truths.main.body.getD i (.Pass ⟨0, 0, 0, 0⟩)
section
variable {P : Program} {w : World} {K : PySem.W.Frag} {mg : Str → Option Value} {base : Heap}
abbrev s_p_remembered : Stmt := top 1
theorem sc_p_remembered : FnScope ["line", "before", "number"] ["line", "before", "number"] (defScope s_p_remembered) := ⟨rfl, rfl, rfl, by decide +kernel, rfl, by decide +kernel, by decide +kernel⟩
theorem ok_p_remembered {f : Addr} {fd : FuncData} (Fu : Fun K "remembered" "remembered" s_p_remembered f fd) (hm : mg "remembered" = some (.ref f)) (hb : Binds K fd ["line", "before", "number"] []) : DefOk P w K mg base "remembered" 3 f_p_remembered 1 :=
  def_ok (m := b_p_remembered) Fu hm hb (N := ["line", "before", "number"]) sc_p_remembered fun cdv A outer s H E C =>
  (xss_cons (xs_if (xt_cmp op_isS (xe_v 1) xe_non)
  (xss_one (xs_ret xe_bl))
  xss_nil)
  (xss_cons (xs_if (xt_cmp (op_eqS C.hr) (xe_ix (xe_v 0) xe_int) xe_str)
  (xss_one (xs_ret (xe_ix (xe_v 1) (xe_ix (xe_v 0) xe_int))))
  xss_nil)
  (xss_one (xs_ret (xe_ix (xe_v 1) (xe_v 2))))))
abbrev s_p_moment : Stmt := top 2
theorem sc_p_moment : FnScope ["lines", "letter", "before", "found", "line", "word"] ["lines", "letter", "before"] (defScope s_p_moment) := ⟨rfl, rfl, rfl, by decide +kernel, rfl, by decide +kernel, by decide +kernel⟩
theorem ok_p_moment {f : Addr} {fd : FuncData} (Fu : Fun K "moment" "moment" s_p_moment f fd) (hm : mg "moment" = some (.ref f)) (hb : Binds K fd ["lines", "letter", "before"] []) (z_len : mg "len" = none) (D_p_remembered : DefOk P w K mg base "remembered" 3 f_p_remembered 1) : DefOk P w K mg base "moment" 3 f_p_moment 2 :=
  def_ok (m := b_p_moment) Fu hm hb (N := ["lines", "letter", "before", "found", "line", "word"]) sc_p_moment fun cdv A outer s H E C =>
  (xss_cons (xs_own (xas (i := 3) C.nd (xe_lst xa_nil)))
  (xss_cons (xs_for C (xi_of (xe_v 0)) (xg_nm 4 C.nd)
  (xss_cons (xs_asg (xas (i := 5) C.nd (xe_ix (xe_v 4) xe_int)))
  (xss_one (xs_if (xt_cmp (op_eqS C.hr) (xe_v 5) xe_str)
  (xss_one (xs_expr (xe_bm PySem.F.plainAttrs_list PySem.F.slot_list_append PySem.F.type_list_append me_append (xe_v 3) (xa_cons (xe_cmp (op_eqS C.hr) (xe_v 1) (xe_ix (xe_v 4) xe_int)) xa_nil))))
  (xss_one (xs_if (xt_cmp (op_eqS C.hr) (xe_v 5) xe_str)
  (xss_one (xs_expr (xe_bm PySem.F.plainAttrs_list PySem.F.slot_list_append PySem.F.type_list_append me_append (xe_v 3) (xa_cons (xe_cmp op_isS (xe_v 2) xe_non) xa_nil))))
  (xss_one (xs_if (xt_cmp (op_eqS C.hr) (xe_v 5) xe_str)
  (xss_one (xs_expr (xe_bm PySem.F.plainAttrs_list PySem.F.slot_list_append PySem.F.type_list_append me_append (xe_v 3) (xa_cons xe_bl xa_nil))))
  (xss_one (xs_if (xt_cmp (op_eqS C.hr) (xe_v 5) xe_str)
  (xss_one (xs_expr (xe_bm PySem.F.plainAttrs_list PySem.F.slot_list_append PySem.F.type_list_append me_append (xe_v 3) (xa_cons (xe_not (xe_ix (xe_v 3) (xe_ix (xe_v 4) xe_int))) xa_nil))))
  (xss_one (xs_if (xt_cmp (op_eqS C.hr) (xe_v 5) xe_str)
  (xss_one (xs_expr (xe_bm PySem.F.plainAttrs_list PySem.F.slot_list_append PySem.F.type_list_append me_append (xe_v 3) (xa_cons (xe_and (xe_ix (xe_v 3) (xe_ix (xe_v 4) xe_int)) (xe_one (xe_ix (xe_v 3) (xe_ix (xe_v 4) xe_int)))) xa_nil))))
  (xss_one (xs_if (xt_cmp (op_eqS C.hr) (xe_v 5) xe_str)
  (xss_one (xs_expr (xe_bm PySem.F.plainAttrs_list PySem.F.slot_list_append PySem.F.type_list_append me_append (xe_v 3) (xa_cons (xe_or (xe_ix (xe_v 3) (xe_ix (xe_v 4) xe_int)) (xe_one (xe_ix (xe_v 3) (xe_ix (xe_v 4) xe_int)))) xa_nil))))
  (xss_one (xs_if (xt_cmp (op_eqS C.hr) (xe_v 5) xe_str)
  (xss_one (xs_expr (xe_bm PySem.F.plainAttrs_list PySem.F.slot_list_append PySem.F.type_list_append me_append (xe_v 3) (xa_cons (xe_call C.1 D_p_remembered (by first | decide | exact Nat.le_add_left _ _ | omega) (xa_cons (xe_v 4) (xa_cons (xe_v 2) (xa_cons (xe_callB cl_len (by rfl) z_len (by rfl) (xa_cons (xe_v 3) xa_nil)) xa_nil)))) xa_nil))))
  (xss_one (xs_expr (xe_bm PySem.F.plainAttrs_list PySem.F.slot_list_append PySem.F.type_list_append me_append (xe_v 3) (xa_cons (xe_or (xe_ix (xe_v 3) (xe_ix (xe_v 4) xe_int)) (xe_one (xe_and (xe_ix (xe_v 3) (xe_ix (xe_v 4) xe_int)) (xe_one (xe_call C.1 D_p_remembered (by first | decide | exact Nat.le_add_left _ _ | omega) (xa_cons (xe_v 4) (xa_cons (xe_v 2) (xa_cons (xe_callB cl_len (by rfl) z_len (by rfl) (xa_cons (xe_v 3) xa_nil)) xa_nil)))))))) xa_nil))))))))))))))))))))
  (xss_one (xs_ret (xe_v 3)))))
abbrev s_p_truths : Stmt := top 3
theorem sc_p_truths : FnScope ["lines", "word", "before", "found", "letter"] ["lines", "word"] (defScope s_p_truths) := ⟨rfl, rfl, rfl, by decide +kernel, rfl, by decide +kernel, by decide +kernel⟩
theorem ok_p_truths {f : Addr} {fd : FuncData} (Fu : Fun K "truths" "truths" s_p_truths f fd) (hm : mg "truths" = some (.ref f)) (hb : Binds K fd ["lines", "word"] []) (D_p_moment : DefOk P w K mg base "moment" 3 f_p_moment 2) : DefOk P w K mg base "truths" 2 f_p_truths 3 :=
  def_ok (m := b_p_truths) Fu hm hb (N := ["lines", "word", "before", "found", "letter"]) sc_p_truths fun cdv A outer s H E C =>
  (xss_cons (xs_asg (xas (i := 2) C.nd (xe_call C.1 D_p_moment (by first | decide | exact Nat.le_add_left _ _ | omega) (xa_cons (xe_v 0) (xa_cons xe_str (xa_cons xe_non xa_nil))))))
  (xss_cons (xs_own (xas (i := 3) C.nd (xe_lst (xa_cons (xe_ix (xe_v 2) (xe_neg xe_int)) xa_nil))))
  (xss_cons (xs_for C (xi_of (xe_v 1)) (xg_nm 4 C.nd)
  (xss_cons (xs_asg (xas (i := 2) C.nd (xe_call C.1 D_p_moment (by first | decide | exact Nat.le_add_left _ _ | omega) (xa_cons (xe_v 0) (xa_cons (xe_v 4) (xa_cons (xe_v 2) xa_nil))))))
  (xss_one (xs_expr (xe_bm PySem.F.plainAttrs_list PySem.F.slot_list_append PySem.F.type_list_append me_append (xe_v 3) (xa_cons (xe_ix (xe_v 2) (xe_neg xe_int)) xa_nil))))))
  (xss_one (xs_ret (xe_v 3))))))
abbrev s_p_holds : Stmt := top 4
theorem sc_p_holds : FnScope ["lines", "word"] ["lines", "word"] (defScope s_p_holds) := ⟨rfl, rfl, rfl, by decide +kernel, rfl, by decide +kernel, by decide +kernel⟩
theorem ok_p_holds {f : Addr} {fd : FuncData} (Fu : Fun K "holds" "holds" s_p_holds f fd) (hm : mg "holds" = some (.ref f)) (hb : Binds K fd ["lines", "word"] []) (D_p_truths : DefOk P w K mg base "truths" 2 f_p_truths 3) : DefOk P w K mg base "holds" 2 f_p_holds 4 :=
  def_ok (m := b_p_holds) Fu hm hb (N := ["lines", "word"]) sc_p_holds fun cdv A outer s H E C =>
  (xss_one (xs_ret (xe_ix (xe_call C.1 D_p_truths (by first | decide | exact Nat.le_add_left _ _ | omega) (xa_cons (xe_v 0) (xa_cons (xe_v 1) xa_nil))) (xe_neg xe_int))))
abbrev s_l_cell : Stmt := top 6
theorem sc_l_cell : FnScope ["_law_script", "_law_k"] ["_law_script", "_law_k"] (defScope s_l_cell) := ⟨rfl, rfl, rfl, by decide +kernel, rfl, by decide +kernel, by decide +kernel⟩
theorem ok_l_cell {f : Addr} {fd : FuncData} (Fu : Fun K "_law_cell" "_law_cell" s_l_cell f fd) (hm : mg "_law_cell" = some (.ref f)) (hb : Binds K fd ["_law_script", "_law_k"] []) (z_len : mg "len" = none) : DefOk P w K mg base "_law_cell" 2 f_l_cell 1 :=
  def_ok (m := b_l_cell) Fu hm hb (N := ["_law_script", "_law_k"]) sc_l_cell fun cdv A outer s H E C =>
  (xss_cons (xs_if (xt_cmp op_ltS (xe_v 1) (xe_callB cl_len (by rfl) z_len (by rfl) (xa_cons (xe_v 0) xa_nil)))
  (xss_one (xs_ret (xe_ix (xe_v 0) (xe_v 1))))
  xss_nil)
  (xss_one (xs_ret xe_int)))
abbrev s_l_numbers : Stmt := top 7
theorem sc_l_numbers : FnScope ["_law_cell_here", "_law_count", "_law_numbers_here", "_law_mixed", "_law_k"] ["_law_cell_here", "_law_count"] (defScope s_l_numbers) := ⟨rfl, rfl, rfl, by decide +kernel, rfl, by decide +kernel, by decide +kernel⟩
theorem ok_l_numbers {f : Addr} {fd : FuncData} (Fu : Fun K "_law_numbers" "_law_numbers" s_l_numbers f fd) (hm : mg "_law_numbers" = some (.ref f)) (hb : Binds K fd ["_law_cell_here", "_law_count"] []) (z_range : mg "range" = none) (z_int : mg "int" = none) : DefOk P w K mg base "_law_numbers" 2 f_l_numbers 1 :=
  def_ok (m := b_l_numbers) Fu hm hb (N := ["_law_cell_here", "_law_count", "_law_numbers_here", "_law_mixed", "_law_k"]) sc_l_numbers fun cdv A outer s H E C =>
  (xss_cons (xs_own (xas (i := 2) C.nd (xe_lst xa_nil)))
  (xss_cons (xs_if (xt_cmp op_geS (xe_v 0) (xe_bin op_powS xe_int xe_int))
  (xss_cons (xs_for C (xi_range1 (xa_cons (xe_v 1) xa_nil) z_range) (xg_nm 4 C.nd)
  (xss_cons (xs_expr (xe_bm PySem.F.plainAttrs_list PySem.F.slot_list_append PySem.F.type_list_append me_append (xe_v 2) (xa_cons (xe_bin op_modS (xe_callT cl_int (by rfl) z_int (by rfl) (xa_cons (xe_v 0) xa_nil)) xe_int) xa_nil)))
  (xss_one (xs_asg (xas (i := 0) C.nd (xe_bin op_divS (xe_v 0) xe_int))))))
  (xss_one (xs_ret (xe_v 2))))
  xss_nil)
  (xss_cons (xs_asg (xas (i := 3) C.nd (xe_bin op_modS (xe_callT cl_int (by rfl) z_int (by rfl) (xa_cons (xe_v 0) xa_nil)) xe_int)))
  (xss_cons (xs_for C (xi_range1 (xa_cons (xe_v 1) xa_nil) z_range) (xg_nm 4 C.nd)
  (xss_cons (xs_asg (xas (i := 3) C.nd (xe_bin op_modS (xe_callT cl_int (by rfl) z_int (by rfl) (xa_cons (xe_bin op_addS (xe_bin op_mulS (xe_v 3) xe_int) (xe_bin op_mulS xe_int (xe_bin op_addS (xe_v 4) xe_int))) xa_nil)) xe_int)))
  (xss_one (xs_expr (xe_bm PySem.F.plainAttrs_list PySem.F.slot_list_append PySem.F.type_list_append me_append (xe_v 2) (xa_cons (xe_bin op_modS (xe_bin op_divS (xe_v 3) xe_int) xe_int) xa_nil))))))
  (xss_one (xs_ret (xe_v 2)))))))
abbrev s_l_same : Stmt := top 8
theorem sc_l_same : FnScope ["_law_actual", "_law_due", "_law_k"] ["_law_actual", "_law_due"] (defScope s_l_same) := ⟨rfl, rfl, rfl, by decide +kernel, rfl, by decide +kernel, by decide +kernel⟩
theorem ok_l_same {f : Addr} {fd : FuncData} (Fu : Fun K "_law_same" "_law_same" s_l_same f fd) (hm : mg "_law_same" = some (.ref f)) (hb : Binds K fd ["_law_actual", "_law_due"] []) (z_isinstance : mg "isinstance" = none) (z_list : mg "list" = none) (z_tuple : mg "tuple" = none) (z_len : mg "len" = none) (z_range : mg "range" = none) (z_bool : mg "bool" = none) (z_int : mg "int" = none) (z_str : mg "str" = none) : ∀ n : Nat, DefOk P w K mg base "_law_same" 2 (f_l_same n) (n + 1)
  | 0 => def_stuck Fu hm hb
  | n + 1 => by
    have ih := ok_l_same Fu hm hb z_isinstance z_list z_tuple z_len z_range z_bool z_int z_str n
    exact def_ok (m := b_l_same (f_l_same n)) (lv := n + 1) Fu hm hb (N := ["_law_actual", "_law_due", "_law_k"]) sc_l_same fun cdv A outer s H E C =>
  (xss_cons (xs_if (xt_cmp op_isS (xe_v 1) xe_non)
  (xss_one (xs_ret (xe_cmp op_isS (xe_v 0) xe_non)))
  xss_nil)
  (xss_cons (xs_if (xt_w (xw_or (xt_tru (xe_callB cl_isi (by rfl) z_isinstance (by rfl) (xa_cons (xe_v 1) (xa_cons (xe_ty (by rfl) z_list (by rfl)) xa_nil)))) (xw_or1 (xt_tru (xe_callB cl_isi (by rfl) z_isinstance (by rfl) (xa_cons (xe_v 1) (xa_cons (xe_ty (by rfl) z_tuple (by rfl)) xa_nil)))))))
  (xss_cons (xs_if (xt_w (xw_or (xt_cmp (op_neS C.hr) (xe_callB cl_isi (by rfl) z_isinstance (by rfl) (xa_cons (xe_v 1) (xa_cons (xe_ty (by rfl) z_list (by rfl)) xa_nil))) (xe_callB cl_isi (by rfl) z_isinstance (by rfl) (xa_cons (xe_v 0) (xa_cons (xe_ty (by rfl) z_list (by rfl)) xa_nil)))) (xw_or1 (xt_cmp (op_neS C.hr) (xe_callB cl_isi (by rfl) z_isinstance (by rfl) (xa_cons (xe_v 1) (xa_cons (xe_ty (by rfl) z_tuple (by rfl)) xa_nil))) (xe_callB cl_isi (by rfl) z_isinstance (by rfl) (xa_cons (xe_v 0) (xa_cons (xe_ty (by rfl) z_tuple (by rfl)) xa_nil)))))))
  (xss_one (xs_ret xe_bl))
  xss_nil)
  (xss_cons (xs_if (xt_cmp (op_neS C.hr) (xe_callB cl_len (by rfl) z_len (by rfl) (xa_cons (xe_v 0) xa_nil)) (xe_callB cl_len (by rfl) z_len (by rfl) (xa_cons (xe_v 1) xa_nil)))
  (xss_one (xs_ret xe_bl))
  xss_nil)
  (xss_cons (xs_for C (xi_range1 (xa_cons (xe_callB cl_len (by rfl) z_len (by rfl) (xa_cons (xe_v 1) xa_nil)) xa_nil) z_range) (xg_nm 2 C.nd)
  (xss_one (xs_if (xt_not (xt_tru (xe_call C.1 ih (Nat.le_refl _) (xa_cons (xe_ix (xe_v 0) (xe_v 2)) (xa_cons (xe_ix (xe_v 1) (xe_v 2)) xa_nil)))))
  (xss_one (xs_ret xe_bl))
  xss_nil)))
  (xss_one (xs_ret xe_bl)))))
  xss_nil)
  (xss_cons (xs_if (xt_w (xw_or (xt_cmp (op_neS C.hr) (xe_callB cl_isi (by rfl) z_isinstance (by rfl) (xa_cons (xe_v 1) (xa_cons (xe_ty (by rfl) z_bool (by rfl)) xa_nil))) (xe_callB cl_isi (by rfl) z_isinstance (by rfl) (xa_cons (xe_v 0) (xa_cons (xe_ty (by rfl) z_bool (by rfl)) xa_nil)))) (xw_or1 (xt_cmp (op_neS C.hr) (xe_callB cl_isi (by rfl) z_isinstance (by rfl) (xa_cons (xe_v 1) (xa_cons (xe_ty (by rfl) z_int (by rfl)) xa_nil))) (xe_callB cl_isi (by rfl) z_isinstance (by rfl) (xa_cons (xe_v 0) (xa_cons (xe_ty (by rfl) z_int (by rfl)) xa_nil)))))))
  (xss_one (xs_ret xe_bl))
  xss_nil)
  (xss_one (xs_ret (xe_and (xe_cmp (op_eqS C.hr) (xe_callB cl_isi (by rfl) z_isinstance (by rfl) (xa_cons (xe_v 1) (xa_cons (xe_ty (by rfl) z_str (by rfl)) xa_nil))) (xe_callB cl_isi (by rfl) z_isinstance (by rfl) (xa_cons (xe_v 0) (xa_cons (xe_ty (by rfl) z_str (by rfl)) xa_nil)))) (xe_one (xe_cmp (op_eqS C.hr) (xe_v 0) (xe_v 1)))))))))
abbrev s_l_words : Stmt := top 9
theorem sc_l_words : FnScope ["_law_letters", "_law_length", "_law_words_here", "_law_last", "_law_k", "_law_longer", "_law_word_here", "_law_letter"] ["_law_letters", "_law_length"] (defScope s_l_words) := ⟨rfl, rfl, rfl, by decide +kernel, rfl, by decide +kernel, by decide +kernel⟩
theorem ok_l_words {f : Addr} {fd : FuncData} (Fu : Fun K "_law_words" "_law_words" s_l_words f fd) (hm : mg "_law_words" = some (.ref f)) (hb : Binds K fd ["_law_letters", "_law_length"] []) (z_range : mg "range" = none) : DefOk P w K mg base "_law_words" 2 f_l_words 1 :=
  def_ok (m := b_l_words) Fu hm hb (N := ["_law_letters", "_law_length", "_law_words_here", "_law_last", "_law_k", "_law_longer", "_law_word_here", "_law_letter"]) sc_l_words fun cdv A outer s H E C =>
  (xss_cons (xs_asg (xas (i := 2) C.nd (xe_lst (xa_cons xe_str xa_nil))))
  (xss_cons (xs_asg (xas (i := 3) C.nd (xe_lst (xa_cons xe_str xa_nil))))
  (xss_cons (xs_for C (xi_range1 (xa_cons (xe_v 1) xa_nil) z_range) (xg_nm 4 C.nd)
  (xss_cons (xs_asg (xas (i := 5) C.nd (xe_lst xa_nil)))
  (xss_cons (xs_for C (xi_of (xe_v 3)) (xg_nm 6 C.nd)
  (xss_one (xs_asg (xas (i := 5) C.nd (xe_bin op_addS (xe_v 5) (xe_lc C.calm C.nd (own := [("_law_letter", 7)]) (xi_of (xe_sl xe_str xo_none (xo_some (xe_v 0)))) (blkOk_by (own := [("_law_letter", 7)]) (by first | rfl | kernel_rfl)) (fun s_ H_ C_ cl_ fp_ => have C := (C.1).blk (s := s_) (H := H_) (scope := _) (cenv := _) (fp := fp_); (xg_nm 7 C.nd)) (fun _ _ _ _ _ => xts_nil) (fun _ _ _ _ _ => (xe_bin op_addS (xe_v 6) (xe_v 7)))))))))
  (xss_cons (xs_asg (xas (i := 3) C.nd (xe_v 5)))
  (xss_one (xs_asg (xas (i := 2) C.nd (xe_bin op_addS (xe_v 2) (xe_v 3)))))))))
  (xss_one (xs_ret (xe_v 2))))))
abbrev s_l_word : Stmt := top 10
theorem sc_l_word : FnScope ["_law_cell_here", "_law_letters", "_law_numbers_here", "_law_size", "_law_number"] ["_law_cell_here", "_law_letters"] (defScope s_l_word) := ⟨rfl, rfl, rfl, by decide +kernel, rfl, by decide +kernel, by decide +kernel⟩
theorem ok_l_word {f : Addr} {fd : FuncData} (Fu : Fun K "_law_word" "_law_word" s_l_word f fd) (hm : mg "_law_word" = some (.ref f)) (hb : Binds K fd ["_law_cell_here", "_law_letters"] []) (D_l_numbers : DefOk P w K mg base "_law_numbers" 2 f_l_numbers 1) : DefOk P w K mg base "_law_word" 2 f_l_word 2 :=
  def_ok (m := b_l_word) Fu hm hb (N := ["_law_cell_here", "_law_letters", "_law_numbers_here", "_law_size", "_law_number"]) sc_l_word fun cdv A outer s H E C =>
  (xss_cons (xs_asg (xas (i := 2) C.nd (xe_call C.1 D_l_numbers (by first | decide | exact Nat.le_add_left _ _ | omega) (xa_cons (xe_v 0) (xa_cons xe_int xa_nil)))))
  (xss_cons (xs_asg (xas (i := 3) C.nd (xe_ix (xe_lst (xa_cons (xe_bin op_modS (xe_ix (xe_v 2) xe_int) xe_int) (xa_cons (xe_bin op_modS (xe_ix (xe_v 2) xe_int) xe_int) xa_nil))) (xe_bin op_modS (xe_ix (xe_v 2) xe_int) xe_int))))
  (xss_one (xs_ret (xe_bm PySem.F.plainAttrs_str PySem.F.slot_str_join PySem.F.type_str_join me_join xe_str (xa_cons (xe_lc C.calm C.nd (own := [("_law_number", 4)]) (xi_of (xe_sl (xe_v 2) (xo_some xe_int) (xo_some (xe_bin op_addS xe_int (xe_v 3))))) (blkOk_by (own := [("_law_number", 4)]) (by first | rfl | kernel_rfl)) (fun s_ H_ C_ cl_ fp_ => have C := (C.1).blk (s := s_) (H := H_) (scope := _) (cenv := _) (fp := fp_); (xg_nm 4 C.nd)) (fun _ _ _ _ _ => xts_nil) (fun _ _ _ _ _ => (xe_ix xe_str (xe_bin op_modS (xe_v 4) (xe_v 1))))) xa_nil))))))
abbrev s_l_line : Stmt := top 11
theorem sc_l_line : FnScope ["_law_numbers_here", "_law_count", "_law_sort", "_law_i", "_law_j"] ["_law_numbers_here", "_law_count"] (defScope s_l_line) := ⟨rfl, rfl, rfl, by decide +kernel, rfl, by decide +kernel, by decide +kernel⟩
theorem ok_l_line {f : Addr} {fd : FuncData} (Fu : Fun K "_law_line" "_law_line" s_l_line f fd) (hm : mg "_law_line" = some (.ref f)) (hb : Binds K fd ["_law_numbers_here", "_law_count"] []) (z_min : mg "min" = none) : DefOk P w K mg base "_law_line" 2 f_l_line 1 :=
  def_ok (m := b_l_line) Fu hm hb (N := ["_law_numbers_here", "_law_count", "_law_sort", "_law_i", "_law_j"]) sc_l_line fun cdv A outer s H E C =>
  (xss_cons (xs_asg (xas (i := 2) C.nd (xe_bin op_modS (xe_ix (xe_v 0) xe_int) xe_int)))
  (xss_cons (xs_if (xt_w (xw_or (xt_cmp op_ltS (xe_v 2) xe_int) (xw_or1 (xt_cmp (op_eqS C.hr) (xe_v 1) xe_int))))
  (xss_one (xs_ret (xe_tup (xa_cons xe_str (xa_cons (xe_ix xe_str (xe_bin op_modS (xe_ix (xe_v 0) xe_int) xe_int)) xa_nil)))))
  xss_nil)
  (xss_cons (xs_if (xt_cmp (op_eqS C.hr) (xe_v 2) xe_int)
  (xss_one (xs_ret (xe_ix (xe_lst (xa_cons (xe_tup (xa_cons xe_str xa_nil)) (xa_cons (xe_tup (xa_cons xe_str xa_nil)) xa_nil))) (xe_bin op_modS (xe_ix (xe_v 0) xe_int) xe_int))))
  xss_nil)
  (xss_cons (xs_asg (xas (i := 3) C.nd (xe_bin op_subS (xe_bin op_subS (xe_v 1) xe_int) (xe_bin op_modS (xe_ix (xe_v 0) xe_int) (xe_callB (cl_min C.calm) (by rfl) z_min (by rfl) (xa_cons (xe_v 1) (xa_cons xe_int xa_nil)))))))
  (xss_cons (xs_asg (xas (i := 4) C.nd (xe_bin op_modS (xe_ix (xe_v 0) xe_int) (xe_v 1))))
  (xss_cons (xs_if (xt_cmp op_ltS (xe_v 2) xe_int)
  (xss_one (xs_ret (xe_tup (xa_cons (xe_ix (xe_lst (xa_cons xe_str (xa_cons xe_str xa_nil))) (xe_bin op_subS (xe_v 2) xe_int)) (xa_cons (xe_v 3) xa_nil)))))
  xss_nil)
  (xss_cons (xs_if (xt_cmp (op_eqS C.hr) (xe_v 2) xe_int)
  (xss_one (xs_ret (xe_tup (xa_cons xe_str (xa_cons (xe_v 3) xa_nil)))))
  xss_nil)
  (xss_one (xs_ret (xe_tup (xa_cons (xe_ix (xe_lst (xa_cons xe_str (xa_cons xe_str (xa_cons xe_str (xa_cons xe_str xa_nil))))) (xe_bin op_subS (xe_v 2) xe_int)) (xa_cons (xe_v 3) (xa_cons (xe_v 4) xa_nil)))))))))))))
abbrev s_l_lines : Stmt := top 12
theorem sc_l_lines : FnScope ["_law_script", "_law_first", "_law_size", "_law_lines_here", "_law_k"] ["_law_script", "_law_first", "_law_size"] (defScope s_l_lines) := ⟨rfl, rfl, rfl, by decide +kernel, rfl, by decide +kernel, by decide +kernel⟩
theorem ok_l_lines {f : Addr} {fd : FuncData} (Fu : Fun K "_law_lines" "_law_lines" s_l_lines f fd) (hm : mg "_law_lines" = some (.ref f)) (hb : Binds K fd ["_law_script", "_law_first", "_law_size"] []) (z_range : mg "range" = none) (D_l_cell : DefOk P w K mg base "_law_cell" 2 f_l_cell 1) (D_l_numbers : DefOk P w K mg base "_law_numbers" 2 f_l_numbers 1) (z_len : mg "len" = none) (D_l_line : DefOk P w K mg base "_law_line" 2 f_l_line 1) (z_tuple : mg "tuple" = none) : DefOk P w K mg base "_law_lines" 3 f_l_lines 2 :=
  def_ok (m := b_l_lines) Fu hm hb (N := ["_law_script", "_law_first", "_law_size", "_law_lines_here", "_law_k"]) sc_l_lines fun cdv A outer s H E C =>
  (xss_cons (xs_own (xas (i := 3) C.nd (xe_lst xa_nil)))
  (xss_cons (xs_for C (xi_range1 (xa_cons (xe_v 2) xa_nil) z_range) (xg_nm 4 C.nd)
  (xss_one (xs_expr (xe_bm PySem.F.plainAttrs_list PySem.F.slot_list_append PySem.F.type_list_append me_append (xe_v 3) (xa_cons (xe_call C.1 D_l_line (by first | decide | exact Nat.le_add_left _ _ | omega) (xa_cons (xe_call C.1 D_l_numbers (by first | decide | exact Nat.le_add_left _ _ | omega) (xa_cons (xe_bin op_addS (xe_call C.1 D_l_cell (by first | decide | exact Nat.le_add_left _ _ | omega) (xa_cons (xe_v 0) (xa_cons (xe_bin op_addS (xe_v 1) (xe_v 4)) xa_nil))) (xe_v 4)) (xa_cons xe_int xa_nil))) (xa_cons (xe_callB cl_len (by rfl) z_len (by rfl) (xa_cons (xe_v 3) xa_nil)) xa_nil))) xa_nil)))))
  (xss_one (xs_ret (xe_callT cl_tuple (by rfl) z_tuple (by rfl) (xa_cons (xe_v 3) xa_nil))))))
abbrev s_l_truth : Stmt := top 14
theorem sc_l_truth : FnScope ["_law_line_here", "_law_rows", "_law_word_here", "_law_moment", "_law_first", "_law_second", "_law_begin"] ["_law_line_here", "_law_rows", "_law_word_here", "_law_moment"] (defScope s_l_truth) := ⟨rfl, rfl, rfl, by decide +kernel, rfl, by decide +kernel, by decide +kernel⟩
theorem ok_l_truth {f : Addr} {fd : FuncData} (Fu : Fun K "_law_truth" "_law_truth" s_l_truth f fd) (hm : mg "_law_truth" = some (.ref f)) (hb : Binds K fd ["_law_line_here", "_law_rows", "_law_word_here", "_law_moment"] []) (z_range : mg "range" = none) : DefOk P w K mg base "_law_truth" 4 f_l_truth 1 :=
  def_ok (m := b_l_truth) Fu hm hb (N := ["_law_line_here", "_law_rows", "_law_word_here", "_law_moment", "_law_first", "_law_second", "_law_begin"]) sc_l_truth fun cdv A outer s H E C =>
  (xss_cons (xs_if (xt_cmp (op_eqS C.hr) (xe_ix (xe_v 0) xe_int) xe_str)
  (xss_one (xs_ret (xe_and (xe_cmp op_gtS (xe_v 3) xe_int) (xe_one (xe_cmp (op_eqS C.hr) (xe_ix (xe_v 2) (xe_bin op_subS (xe_v 3) xe_int)) (xe_ix (xe_v 0) xe_int))))))
  xss_nil)
  (xss_cons (xs_if (xt_cmp (op_eqS C.hr) (xe_ix (xe_v 0) xe_int) xe_str)
  (xss_one (xs_ret (xe_cmp (op_eqS C.hr) (xe_v 3) xe_int)))
  xss_nil)
  (xss_cons (xs_if (xt_cmp (op_eqS C.hr) (xe_ix (xe_v 0) xe_int) xe_str)
  (xss_one (xs_ret xe_bl))
  xss_nil)
  (xss_cons (xs_asg (xas (i := 4) C.nd (xe_ix (xe_v 1) (xe_ix (xe_v 0) xe_int))))
  (xss_cons (xs_if (xt_cmp (op_eqS C.hr) (xe_ix (xe_v 0) xe_int) xe_str)
  (xss_one (xs_ret (xe_not (xe_ix (xe_v 4) (xe_v 3)))))
  xss_nil)
  (xss_cons (xs_if (xt_cmp (op_eqS C.hr) (xe_ix (xe_v 0) xe_int) xe_str)
  (xss_one (xs_ret (xe_and (xe_cmp op_gtS (xe_v 3) xe_int) (xe_one (xe_ix (xe_v 4) (xe_bin op_subS (xe_v 3) xe_int))))))
  xss_nil)
  (xss_cons (xs_asg (xas (i := 5) C.nd (xe_ix (xe_v 1) (xe_ix (xe_v 0) xe_int))))
  (xss_cons (xs_if (xt_cmp (op_eqS C.hr) (xe_ix (xe_v 0) xe_int) xe_str)
  (xss_one (xs_ret (xe_and (xe_ix (xe_v 4) (xe_v 3)) (xe_one (xe_ix (xe_v 5) (xe_v 3))))))
  xss_nil)
  (xss_cons (xs_if (xt_cmp (op_eqS C.hr) (xe_ix (xe_v 0) xe_int) xe_str)
  (xss_one (xs_ret (xe_or (xe_ix (xe_v 4) (xe_v 3)) (xe_one (xe_ix (xe_v 5) (xe_v 3))))))
  xss_nil)
  (xss_cons (xs_for C (xi_range1 (xa_cons (xe_bin op_addS (xe_v 3) xe_int) xa_nil) z_range) (xg_nm 6 C.nd)
  (xss_one (xs_if (xt_w (xw_and (xt_tru (xe_ix (xe_v 5) (xe_v 6))) (xw_and1 (xt_cmp (op_notInS C.hr) xe_bl (xe_sl (xe_v 4) (xo_some (xe_bin op_addS (xe_v 6) xe_int)) (xo_some (xe_bin op_addS (xe_v 3) xe_int)))))))
  (xss_one (xs_ret xe_bl))
  xss_nil)))
  (xss_one (xs_ret xe_bl))))))))))))
abbrev s_l_table : Stmt := top 13
theorem sc_l_table : FnScope ["_law_lines_here", "_law_word_here", "_law_rows", "_law_line_here", "_law_row", "_law_moment"] ["_law_lines_here", "_law_word_here"] (defScope s_l_table) := ⟨rfl, rfl, rfl, by decide +kernel, rfl, by decide +kernel, by decide +kernel⟩
theorem ok_l_table {f : Addr} {fd : FuncData} (Fu : Fun K "_law_table" "_law_table" s_l_table f fd) (hm : mg "_law_table" = some (.ref f)) (hb : Binds K fd ["_law_lines_here", "_law_word_here"] []) (z_range : mg "range" = none) (z_len : mg "len" = none) (D_l_truth : DefOk P w K mg base "_law_truth" 4 f_l_truth 1) : DefOk P w K mg base "_law_table" 2 f_l_table 2 :=
  def_ok (m := b_l_table) Fu hm hb (N := ["_law_lines_here", "_law_word_here", "_law_rows", "_law_line_here", "_law_row", "_law_moment"]) sc_l_table fun cdv A outer s H E C =>
  (xss_cons (xs_own (xas (i := 2) C.nd (xe_lst xa_nil)))
  (xss_cons (xs_for C (xi_of (xe_v 0)) (xg_nm 3 C.nd)
  (xss_cons (xs_own (xas (i := 4) C.nd (xe_lst xa_nil)))
  (xss_cons (xs_for C (xi_range1 (xa_cons (xe_bin op_addS (xe_callB cl_len (by rfl) z_len (by rfl) (xa_cons (xe_v 1) xa_nil)) xe_int) xa_nil) z_range) (xg_nm 5 C.nd)
  (xss_one (xs_expr (xe_bm PySem.F.plainAttrs_list PySem.F.slot_list_append PySem.F.type_list_append me_append (xe_v 4) (xa_cons (xe_call C.1 D_l_truth (by first | decide | exact Nat.le_add_left _ _ | omega) (xa_cons (xe_v 3) (xa_cons (xe_v 2) (xa_cons (xe_v 1) (xa_cons (xe_v 5) xa_nil))))) xa_nil)))))
  (xss_one (xs_expr (xe_bm PySem.F.plainAttrs_list PySem.F.slot_list_append PySem.F.type_list_append me_append (xe_v 2) (xa_cons (xe_v 4) xa_nil)))))))
  (xss_one (xs_ret (xe_v 2)))))
abbrev s_p_law : Stmt := top 15
theorem sc_p_law : FnScope ["_law_script", "_law_numbers_here", "_law_lines_here", "_law_words_here", "_law_word_here", "_law_due", "_law_told", "_law_k"] ["_law_script"] (defScope s_p_law) := ⟨rfl, rfl, rfl, by decide +kernel, rfl, by decide +kernel, by decide +kernel⟩
theorem ok_law {f : Addr} {fd : FuncData} (Fu : Fun K "law" "law" s_p_law f fd) (D_l_cell : DefOk P w K mg base "_law_cell" 2 f_l_cell 1) (D_l_numbers : DefOk P w K mg base "_law_numbers" 2 f_l_numbers 1) (D_l_lines : DefOk P w K mg base "_law_lines" 3 f_l_lines 2) (z_range : mg "range" = none) (D_l_word : DefOk P w K mg base "_law_word" 2 f_l_word 2) (D_l_table : DefOk P w K mg base "_law_table" 2 f_l_table 2) (D_p_truths : DefOk P w K mg base "truths" 2 f_p_truths 3) (D_l_same : DefOk P w K mg base "_law_same" 2 (f_l_same 8) 9) (D_p_holds : DefOk P w K mg base "holds" 2 f_p_holds 4) : FnOk P w K mg base (L2.CX P w) 10 f fd ["_law_script"] (spOf ⟨K, mg⟩ f_p_law) :=
  def_fn (m := b_p_law) Fu (N := ["_law_script", "_law_numbers_here", "_law_lines_here", "_law_words_here", "_law_word_here", "_law_due", "_law_told", "_law_k"]) (ps := ["_law_script"]) sc_p_law fun cdv A outer s H E C =>
  (xss_cons (xs_asg (xas (i := 1) C.nd (xe_call C.1 D_l_numbers (by first | decide | exact Nat.le_add_left _ _ | omega) (xa_cons (xe_call C.1 D_l_cell (by first | decide | exact Nat.le_add_left _ _ | omega) (xa_cons (xe_v 0) (xa_cons xe_int xa_nil))) (xa_cons xe_int xa_nil)))))
  (xss_cons (xs_asg (xas (i := 2) C.nd (xe_call C.1 D_l_lines (by first | decide | exact Nat.le_add_left _ _ | omega) (xa_cons (xe_v 0) (xa_cons xe_int (xa_cons (xe_bin op_addS xe_int (xe_bin op_modS (xe_ix (xe_v 1) xe_int) xe_int)) xa_nil))))))
  (xss_cons (xs_own (xas_lc (i := 3) C.calm C.nd (own := [("_law_k", 7)]) (xi_range1 (xa_cons xe_int xa_nil) z_range) (blkOk_by (own := [("_law_k", 7)]) (by first | rfl | kernel_rfl)) (fun s_ H_ C_ cl_ fp_ => have C := (C.1).blk (s := s_) (H := H_) (scope := _) (cenv := _) (fp := fp_); (xg_nm 7 C.nd)) (fun _ _ _ _ _ => xts_nil) (fun s_ H_ C_ cl_ fp_ => have C := (C.1).blk (s := s_) (H := H_) (scope := _) (cenv := _) (fp := fp_); (xe_call C D_l_word (by first | decide | exact Nat.le_add_left _ _ | omega) (xa_cons (xe_bin op_addS (xe_call C D_l_cell (by first | decide | exact Nat.le_add_left _ _ | omega) (xa_cons (xe_v 0) (xa_cons (xe_bin op_addS xe_int (xe_v 7)) xa_nil))) (xe_v 7)) (xa_cons xe_int xa_nil)))) (sw_true rfl rfl rfl (by decide +kernel))))
  (xss_cons (xs_expr (xe_bm PySem.F.plainAttrs_list PySem.F.slot_list_append PySem.F.type_list_append me_append (xe_v 3) (xa_cons (xe_sl (xe_bin op_mulX (xe_bin op_addS (xe_bin op_addS (xe_bin op_addS (xe_ix (xe_v 3) xe_int) xe_str) (xe_ix (xe_v 3) xe_int)) xe_str) xe_int) xo_none (xo_some xe_int)) xa_nil)))
  (xss_cons (xs_for C (xi_of (xe_v 3)) (xg_nm 4 C.nd)
  (xss_cons (xs_asg (xas (i := 5) C.nd (xe_ix (xe_call C.1 D_l_table (by first | decide | exact Nat.le_add_left _ _ | omega) (xa_cons (xe_v 2) (xa_cons (xe_v 4) xa_nil))) (xe_neg xe_int))))
  (xss_cons (xs_own (xas (i := 6) C.nd (xe_call C.1 D_p_truths (by first | decide | exact Nat.le_add_left _ _ | omega) (xa_cons (xe_v 2) (xa_cons (xe_v 4) xa_nil)))))
  (xss_cons (xs_if (xt_not (xt_tru (xe_call C.1 D_l_same (by first | decide | exact Nat.le_add_left _ _ | omega) (xa_cons (xe_v 6) (xa_cons (xe_v 5) xa_nil)))))
  (xss_one (xs_ret xe_bl))
  xss_nil)
  (xss_cons (xs_expr (xe_bm PySem.F.plainAttrs_list PySem.F.slot_list_append PySem.F.type_list_append me_append (xe_v 6) (xa_cons xe_bl xa_nil)))
  (xss_one (xs_if (xt_w (xw_or (xt_not (xt_tru (xe_call C.1 D_l_same (by first | decide | exact Nat.le_add_left _ _ | omega) (xa_cons (xe_call C.1 D_p_holds (by first | decide | exact Nat.le_add_left _ _ | omega) (xa_cons (xe_v 2) (xa_cons (xe_v 4) xa_nil))) (xa_cons (xe_ix (xe_v 5) (xe_neg xe_int)) xa_nil))))) (xw_or1 (xt_not (xt_tru (xe_call C.1 D_l_same (by first | decide | exact Nat.le_add_left _ _ | omega) (xa_cons (xe_call C.1 D_p_truths (by first | decide | exact Nat.le_add_left _ _ | omega) (xa_cons (xe_v 2) (xa_cons (xe_v 4) xa_nil))) (xa_cons (xe_v 5) xa_nil))))))))
  (xss_one (xs_ret xe_bl))
  xss_nil)))))))
  (xss_one (xs_ret xe_bl)))))))
end
end LW
namespace LW
open PySem L2 PD
@[simp] theorem nm_letter_letter : ((("letter" : String) : Str) == (("letter" : String) : Str)) = true := by decide +kernel
@[simp] theorem nm_letter_start : ((("letter" : String) : Str) == (("start" : String) : Str)) = false := by decide +kernel
@[simp] theorem nm_letter_true : ((("letter" : String) : Str) == (("true" : String) : Str)) = false := by decide +kernel
@[simp] theorem nm_letter_not : ((("letter" : String) : Str) == (("not" : String) : Str)) = false := by decide +kernel
@[simp] theorem nm_letter_and : ((("letter" : String) : Str) == (("and" : String) : Str)) = false := by decide +kernel
@[simp] theorem nm_letter_or : ((("letter" : String) : Str) == (("or" : String) : Str)) = false := by decide +kernel
@[simp] theorem nm_letter_before : ((("letter" : String) : Str) == (("before" : String) : Str)) = false := by decide +kernel
@[simp] theorem nm_letter_since : ((("letter" : String) : Str) == (("since" : String) : Str)) = false := by decide +kernel
@[simp] theorem nm_start_letter : ((("start" : String) : Str) == (("letter" : String) : Str)) = false := by decide +kernel
@[simp] theorem nm_start_start : ((("start" : String) : Str) == (("start" : String) : Str)) = true := by decide +kernel
@[simp] theorem nm_start_true : ((("start" : String) : Str) == (("true" : String) : Str)) = false := by decide +kernel
@[simp] theorem nm_start_not : ((("start" : String) : Str) == (("not" : String) : Str)) = false := by decide +kernel
@[simp] theorem nm_start_and : ((("start" : String) : Str) == (("and" : String) : Str)) = false := by decide +kernel
@[simp] theorem nm_start_or : ((("start" : String) : Str) == (("or" : String) : Str)) = false := by decide +kernel
@[simp] theorem nm_start_before : ((("start" : String) : Str) == (("before" : String) : Str)) = false := by decide +kernel
@[simp] theorem nm_start_since : ((("start" : String) : Str) == (("since" : String) : Str)) = false := by decide +kernel
@[simp] theorem nm_true_letter : ((("true" : String) : Str) == (("letter" : String) : Str)) = false := by decide +kernel
@[simp] theorem nm_true_start : ((("true" : String) : Str) == (("start" : String) : Str)) = false := by decide +kernel
@[simp] theorem nm_true_true : ((("true" : String) : Str) == (("true" : String) : Str)) = true := by decide +kernel
@[simp] theorem nm_true_not : ((("true" : String) : Str) == (("not" : String) : Str)) = false := by decide +kernel
@[simp] theorem nm_true_and : ((("true" : String) : Str) == (("and" : String) : Str)) = false := by decide +kernel
@[simp] theorem nm_true_or : ((("true" : String) : Str) == (("or" : String) : Str)) = false := by decide +kernel
@[simp] theorem nm_true_before : ((("true" : String) : Str) == (("before" : String) : Str)) = false := by decide +kernel
@[simp] theorem nm_true_since : ((("true" : String) : Str) == (("since" : String) : Str)) = false := by decide +kernel
@[simp] theorem nm_not_letter : ((("not" : String) : Str) == (("letter" : String) : Str)) = false := by decide +kernel
@[simp] theorem nm_not_start : ((("not" : String) : Str) == (("start" : String) : Str)) = false := by decide +kernel
@[simp] theorem nm_not_true : ((("not" : String) : Str) == (("true" : String) : Str)) = false := by decide +kernel
@[simp] theorem nm_not_not : ((("not" : String) : Str) == (("not" : String) : Str)) = true := by decide +kernel
@[simp] theorem nm_not_and : ((("not" : String) : Str) == (("and" : String) : Str)) = false := by decide +kernel
@[simp] theorem nm_not_or : ((("not" : String) : Str) == (("or" : String) : Str)) = false := by decide +kernel
@[simp] theorem nm_not_before : ((("not" : String) : Str) == (("before" : String) : Str)) = false := by decide +kernel
@[simp] theorem nm_not_since : ((("not" : String) : Str) == (("since" : String) : Str)) = false := by decide +kernel
@[simp] theorem nm_and_letter : ((("and" : String) : Str) == (("letter" : String) : Str)) = false := by decide +kernel
@[simp] theorem nm_and_start : ((("and" : String) : Str) == (("start" : String) : Str)) = false := by decide +kernel
@[simp] theorem nm_and_true : ((("and" : String) : Str) == (("true" : String) : Str)) = false := by decide +kernel
@[simp] theorem nm_and_not : ((("and" : String) : Str) == (("not" : String) : Str)) = false := by decide +kernel
@[simp] theorem nm_and_and : ((("and" : String) : Str) == (("and" : String) : Str)) = true := by decide +kernel
@[simp] theorem nm_and_or : ((("and" : String) : Str) == (("or" : String) : Str)) = false := by decide +kernel
@[simp] theorem nm_and_before : ((("and" : String) : Str) == (("before" : String) : Str)) = false := by decide +kernel
@[simp] theorem nm_and_since : ((("and" : String) : Str) == (("since" : String) : Str)) = false := by decide +kernel
@[simp] theorem nm_or_letter : ((("or" : String) : Str) == (("letter" : String) : Str)) = false := by decide +kernel
@[simp] theorem nm_or_start : ((("or" : String) : Str) == (("start" : String) : Str)) = false := by decide +kernel
@[simp] theorem nm_or_true : ((("or" : String) : Str) == (("true" : String) : Str)) = false := by decide +kernel
@[simp] theorem nm_or_not : ((("or" : String) : Str) == (("not" : String) : Str)) = false := by decide +kernel
@[simp] theorem nm_or_and : ((("or" : String) : Str) == (("and" : String) : Str)) = false := by decide +kernel
@[simp] theorem nm_or_or : ((("or" : String) : Str) == (("or" : String) : Str)) = true := by decide +kernel
@[simp] theorem nm_or_before : ((("or" : String) : Str) == (("before" : String) : Str)) = false := by decide +kernel
@[simp] theorem nm_or_since : ((("or" : String) : Str) == (("since" : String) : Str)) = false := by decide +kernel
@[simp] theorem nm_before_letter : ((("before" : String) : Str) == (("letter" : String) : Str)) = false := by decide +kernel
@[simp] theorem nm_before_start : ((("before" : String) : Str) == (("start" : String) : Str)) = false := by decide +kernel
@[simp] theorem nm_before_true : ((("before" : String) : Str) == (("true" : String) : Str)) = false := by decide +kernel
@[simp] theorem nm_before_not : ((("before" : String) : Str) == (("not" : String) : Str)) = false := by decide +kernel
@[simp] theorem nm_before_and : ((("before" : String) : Str) == (("and" : String) : Str)) = false := by decide +kernel
@[simp] theorem nm_before_or : ((("before" : String) : Str) == (("or" : String) : Str)) = false := by decide +kernel
@[simp] theorem nm_before_before : ((("before" : String) : Str) == (("before" : String) : Str)) = true := by decide +kernel
@[simp] theorem nm_before_since : ((("before" : String) : Str) == (("since" : String) : Str)) = false := by decide +kernel
@[simp] theorem nm_since_letter : ((("since" : String) : Str) == (("letter" : String) : Str)) = false := by decide +kernel
@[simp] theorem nm_since_start : ((("since" : String) : Str) == (("start" : String) : Str)) = false := by decide +kernel
@[simp] theorem nm_since_true : ((("since" : String) : Str) == (("true" : String) : Str)) = false := by decide +kernel
@[simp] theorem nm_since_not : ((("since" : String) : Str) == (("not" : String) : Str)) = false := by decide +kernel
@[simp] theorem nm_since_and : ((("since" : String) : Str) == (("and" : String) : Str)) = false := by decide +kernel
@[simp] theorem nm_since_or : ((("since" : String) : Str) == (("or" : String) : Str)) = false := by decide +kernel
@[simp] theorem nm_since_before : ((("since" : String) : Str) == (("before" : String) : Str)) = false := by decide +kernel
@[simp] theorem nm_since_since : ((("since" : String) : Str) == (("since" : String) : Str)) = true := by decide +kernel
/-- a line -/
inductive Ln where
  | letter (c : Nat) | start | tru | not (i : Nat) | bef (i : Nat) | and (i j : Nat) | or (i j : Nat) | since (i j : Nat)
def Ln.enc : Ln → PyData
  | .letter c => .tuple [.str "letter", .str ⟨#[c]⟩]
  | .start => .tuple [.str "start"]
  | .tru => .tuple [.str "true"]
  | .not i => .tuple [.str "not", .int (i : Int)]
  | .bef i => .tuple [.str "before", .int (i : Int)]
  | .and i j => .tuple [.str "and", .int (i : Int), .int (j : Int)]
  | .or i j => .tuple [.str "or", .int (i : Int), .int (j : Int)]
  | .since i j => .tuple [.str "since", .int (i : Int), .int (j : Int)]
def Ln.ok (n : Nat) : Ln → Prop
  | .letter _ => True
  | .start => True
  | .tru => True
  | .not i => i < n
  | .bef i => i < n
  | .and i j => i < n ∧ j < n
  | .or i j => i < n ∧ j < n
  | .since i j => i < n ∧ j < n
def prevAt (b : Option (List Bool)) (n : Nat) : Bool := match b with
  | none => false
  | some b => b.getD n false
/-- the value of a line, the lines ahead and the moment before at hand -/
def Ln.val (f : List Bool) (b : Option (List Bool)) (c : Str) : Ln → Bool
  | .letter x => c == ⟨#[x]⟩
  | .start => b.isNone
  | .tru => true
  | .not i => !f.getD i false
  | .bef i => prevAt b i
  | .and i j => f.getD i false && f.getD j false
  | .or i j => f.getD i false || f.getD j false
  | .since i j => f.getD j false || (f.getD i false && prevAt b f.length)
def mom (b : Option (List Bool)) (c : Str) : List Ln → List Bool → List Bool
  | [], f => f
  | ln :: r, f => mom b c r (f ++ [ln.val f b c])
theorem mom_len (b : Option (List Bool)) (c : Str) : ∀ (r : List Ln) (f : List Bool), (mom b c r f).length = f.length + r.length
  | [], f => rfl
  | ln :: r, f => by rw [mom, mom_len b c r, List.length_append, List.length_singleton, List.length_cons]; omega
theorem mom_app (b : Option (List Bool)) (c : Str) : ∀ (r r' : List Ln) (f : List Bool), mom b c (r ++ r') f = mom b c r' (mom b c r f)
  | [], _, _ => rfl
  | _ :: r, r', f => mom_app b c r r' _
abbrev lB (f : List Bool) : PyData := .list (f.map PyData.bool)
theorem atB {f : List Bool} {i : Nat} (h : i < f.length) : atI (f.map PyData.bool) (i : Int) = some (.bool (f.getD i false)) := by
  refine atI_getN _ _ _ ?_
  rw [List.getElem?_map, List.getD_eq_getElem?_getD, List.getElem?_eq_getElem h] <;> rfl
/-- before: none or the truths of the moment before -/
def encB : Option (List Bool) → PyData
  | none => .none
  | some b => lB b
theorem rem_none (x : PyData) (n : Int) (L : Sto) : f_p_remembered [.d x, .d .none, .d (.int n)] L = okD (.bool false) L := by
  simp [f_p_remembered, b_p_remembered]
theorem rem_bef (b : List Bool) (i : Nat) (h : i < b.length) (n : Int) (L : Sto) : f_p_remembered [.d (Ln.bef i).enc, .d (lB b), .d (.int n)] L = okD (.bool (b.getD i false)) L := by
  have h0 : atI [PyData.str "before", .int (i : Int)] 0 = some (.str "before") := rfl
  have h1 : atI [PyData.str "before", .int (i : Int)] 1 = some (.int (i : Int)) := rfl
  have h2 := atB h
  generalize b.getD i false = z at h2 ⊢
  simp [f_p_remembered, b_p_remembered, Ln.enc, h0, h1, h2]
theorem rem_since (b : List Bool) (i j n : Nat) (h : n < b.length) (L : Sto) : f_p_remembered [.d (Ln.since i j).enc, .d (lB b), .d (.int (n : Int))] L = okD (.bool (b.getD n false)) L := by
  have h0 : atI [PyData.str "since", .int (i : Int), .int (j : Int)] 0 = some (.str "since") := rfl
  have h2 := atB h
  generalize b.getD n false = z at h2 ⊢
  simp [f_p_remembered, b_p_remembered, Ln.enc, h0, h2]
theorem moment_step (x : PyData) (c : Str) (b : Option (List Bool)) (f : List Bool) (ln : Ln) (hl : ln.ok f.length) (hf : f.length < 100000) (hb : ∀ y, b = some y → f.length < y.length) (v5 : Option SV) (L : Sto) :
    ∃ v5' : Option SV, keepS (L.length + 1) v5' = v5' ∧ k1_p_moment [some (.d x), some (.d (.str c)), some (.d (encB b)), some (.own L.length), some (.d ln.enc), v5] (L ++ [.lst (f.map PyData.bool)]) =
      .nx [some (.d x), some (.d (.str c)), some (.d (encB b)), some (.own L.length), some (.d ln.enc), v5'] (L ++ [.lst ((f ++ [ln.val f b c]).map PyData.bool)]) := by
  have hz : f.length < sizeLine := lt_line (by omega)
  cases ln with
  | letter y =>
    have h0 : atI [PyData.str "letter", .str ⟨#[y]⟩] 0 = some (.str "letter") := rfl
    have h1 : atI [PyData.str "letter", .str ⟨#[y]⟩] 1 = some (.str ⟨#[y]⟩) := rfl
    exact ⟨some (.d (.str "letter")), rfl, by simp [k1_p_moment, Ln.enc, h0, h1, own_last, hz, set_last, Ln.val]⟩
  | start =>
    have h0 : atI [PyData.str "start"] 0 = some (.str "start") := rfl
    refine ⟨some (.d (.str "start")), rfl, ?_⟩
    cases b <;> simp [k1_p_moment, Ln.enc, h0, own_last, hz, set_last, Ln.val, encB]
  | tru =>
    have h0 : atI [PyData.str "true"] 0 = some (.str "true") := rfl
    exact ⟨some (.d (.str "true")), rfl, by simp [k1_p_moment, Ln.enc, h0, own_last, hz, set_last, Ln.val]⟩
  | not i =>
    have h0 : atI [PyData.str "not", .int (i : Int)] 0 = some (.str "not") := rfl
    have h1 : atI [PyData.str "not", .int (i : Int)] 1 = some (.int (i : Int)) := rfl
    have h2 := atB (f := f) (i := i) hl
    have e : (Ln.not i).val f b c = !f.getD i false := rfl
    rw [e]
    generalize f.getD i false = z at h2 ⊢
    exact ⟨some (.d (.str "not")), rfl, by simp [k1_p_moment, Ln.enc, h0, h1, h2, opIx_own, own_last, hz, set_last]⟩
  | and i j =>
    have h0 : atI [PyData.str "and", .int (i : Int), .int (j : Int)] 0 = some (.str "and") := rfl
    have h1 : atI [PyData.str "and", .int (i : Int), .int (j : Int)] 1 = some (.int (i : Int)) := rfl
    have h2 : atI [PyData.str "and", .int (i : Int), .int (j : Int)] 2 = some (.int (j : Int)) := rfl
    have h3 := atB (f := f) (i := i) hl.1
    have h4 := atB (f := f) (i := j) hl.2
    have e : (Ln.and i j).val f b c = (f.getD i false && f.getD j false) := rfl
    rw [e]
    generalize f.getD i false = z at h3 ⊢
    generalize f.getD j false = z' at h4 ⊢
    refine ⟨some (.d (.str "and")), rfl, ?_⟩
    cases z <;> simp [k1_p_moment, Ln.enc, h0, h1, h2, h3, h4, opIx_own, own_last, hz, set_last]
  | or i j =>
    have h0 : atI [PyData.str "or", .int (i : Int), .int (j : Int)] 0 = some (.str "or") := rfl
    have h1 : atI [PyData.str "or", .int (i : Int), .int (j : Int)] 1 = some (.int (i : Int)) := rfl
    have h2 : atI [PyData.str "or", .int (i : Int), .int (j : Int)] 2 = some (.int (j : Int)) := rfl
    have h3 := atB (f := f) (i := i) hl.1
    have h4 := atB (f := f) (i := j) hl.2
    have e : (Ln.or i j).val f b c = (f.getD i false || f.getD j false) := rfl
    rw [e]
    generalize f.getD i false = z at h3 ⊢
    generalize f.getD j false = z' at h4 ⊢
    refine ⟨some (.d (.str "or")), rfl, ?_⟩
    cases z <;> simp [k1_p_moment, Ln.enc, h0, h1, h2, h3, h4, opIx_own, own_last, hz, set_last]
  | bef i =>
    have h0 : atI [PyData.str "before", .int (i : Int)] 0 = some (.str "before") := rfl
    refine ⟨some (.d (.str "before")), rfl, ?_⟩
    have hr : f_p_remembered [.d (Ln.bef i).enc, .d (encB b), .d (.int (f.length : Int))] (L ++ [.lst (f.map PyData.bool)]) = okD (.bool ((Ln.bef i).val f b c)) (L ++ [.lst (f.map PyData.bool)]) := by
      cases b with
      | none => exact rem_none _ _ _
      | some y => exact rem_bef y i (Nat.lt_trans hl (hb y rfl)) _ _
    generalize (Ln.bef i).val f b c = z at hr ⊢
    simp only [okD_eq, Ln.enc] at hr
    simp [k1_p_moment, Ln.enc, h0, hr, own_last, hz, set_last]
  | since i j =>
    have h0 : atI [PyData.str "since", .int (i : Int), .int (j : Int)] 0 = some (.str "since") := rfl
    have h1 : atI [PyData.str "since", .int (i : Int), .int (j : Int)] 1 = some (.int (i : Int)) := rfl
    have h2 : atI [PyData.str "since", .int (i : Int), .int (j : Int)] 2 = some (.int (j : Int)) := rfl
    have h3 := atB (f := f) (i := i) hl.1
    have h4 := atB (f := f) (i := j) hl.2
    have hr : f_p_remembered [.d (Ln.since i j).enc, .d (encB b), .d (.int (f.length : Int))] (L ++ [.lst (f.map PyData.bool)]) = okD (.bool (prevAt b f.length)) (L ++ [.lst (f.map PyData.bool)]) := by
      cases b with
      | none => exact rem_none _ _ _
      | some y => exact rem_since y i j f.length (hb y rfl) _
    have e : (Ln.since i j).val f b c = (f.getD j false || (f.getD i false && prevAt b f.length)) := rfl
    rw [e]
    generalize prevAt b f.length = r at hr ⊢
    generalize f.getD i false = z at h3 ⊢
    generalize f.getD j false = z' at h4 ⊢
    simp only [okD_eq, Ln.enc] at hr
    refine ⟨some (.d (.str "since")), rfl, ?_⟩
    cases z <;> cases z' <;> simp [k1_p_moment, Ln.enc, h0, h1, h2, h3, h4, hr, opIx_own, own_last, hz, set_last]
theorem moment_eq (lns : List Ln) (hok : ∀ (k : Nat) (ln : Ln), lns[k]? = some ln → ln.ok k) (hlen : lns.length ≤ 1000) (c : Str) (b : Option (List Bool)) (hb : ∀ y, b = some y → lns.length ≤ y.length) (L : Sto) :
    f_p_moment [.d (.tuple (lns.map Ln.enc)), .d (.str c), .d (encB b)] L = .ok (.new (.lst ((mom b c lns []).map PyData.bool))) L := by
  obtain ⟨ρ', L', e, v4, v5, hρ, _, hL⟩ := forL_run (t := .nm 4) (body := k1_p_moment) (n := L.length + 1) (g := none)
    (ρ := [some (.d (.tuple (lns.map Ln.enc))), some (.d (.str c)), some (.d (encB b)), some (.own L.length), none, none]) (L := L ++ [.lst []]) (ds := lns.map Ln.enc)
    (fun j ρ L' => ∃ v4 v5 : Option SV, ρ = [some (.d (.tuple (lns.map Ln.enc))), some (.d (.str c)), some (.d (encB b)), some (.own L.length), v4, v5] ∧ keepS (L.length + 1) v5 = v5 ∧ L' = L ++ [.lst ((mom b c (lns.take j) []).map PyData.bool)])
    ⟨none, none, rfl, rfl, rfl⟩ (by
      rintro j d ρ L' hd ⟨v4, v5, rfl, h5, rfl⟩
      rw [List.getElem?_map] at hd
      obtain ⟨ln, hc, rfl⟩ := Option.map_eq_some_iff.mp hd
      have hj : j < lns.length := (List.getElem?_eq_some_iff.mp hc).1
      have hml : (mom b c (lns.take j) []).length = j := by rw [mom_len, List.length_nil, List.length_take]; omega
      obtain ⟨v5', k5, e⟩ := moment_step (.tuple (lns.map Ln.enc)) c b (mom b c (lns.take j) []) ln (by rw [hml]; exact hok j ln hc) (by omega) (fun y hy => by have := hb y hy; omega) v5 L
      have et : mom b c (lns.take (j + 1)) [] = mom b c (lns.take j) [] ++ [ln.val (mom b c (lns.take j) []) b c] := by
        rw [List.take_add_one, hc, mom_app] <;> rfl
      refine ⟨_, _, _, rfl, .inl e, rfl, by simp, some (.d ln.enc), v5', ?_, k5, ?_⟩
      · cases b <;> simp [k5, encB]
      · rw [et, take_all])
  rw [List.length_map, List.take_length] at hL
  rw [hρ, hL] at e
  simp [f_p_moment, b_p_moment, sFor_ap, e, cutR_rt_own, own_last, take_last]
/-- the truths of all lines at a moment -/
def col (lns : List Ln) (cs : List Nat) : Nat → List Bool
  | 0 => mom none ⟨#[]⟩ lns []
  | t + 1 => mom (some (col lns cs t)) ⟨#[cs.getD t 0]⟩ lns []
theorem col_len (lns : List Ln) (cs : List Nat) : ∀ t, (col lns cs t).length = lns.length
  | 0 => by rw [col, mom_len, List.length_nil, Nat.zero_add]
  | t + 1 => by rw [col, mom_len, List.length_nil, Nat.zero_add]
def trs (lns : List Ln) (cs : List Nat) (n : Nat) : List Bool := (List.range n).map fun t => (col lns cs t).getD (lns.length - 1) false
theorem trs_succ (lns : List Ln) (cs : List Nat) (n : Nat) : trs lns cs (n + 1) = trs lns cs n ++ [(col lns cs n).getD (lns.length - 1) false] := by
  unfold trs
  rw [List.range_succ, List.map_append] <;> rfl
theorem trs_len (lns : List Ln) (cs : List Nat) (n : Nat) : (trs lns cs n).length = n := by unfold trs; rw [List.length_map, List.length_range]
theorem at_last {f : List Bool} (h : 1 ≤ f.length) : atI (f.map PyData.bool) (-1) = some (.bool (f.getD (f.length - 1) false)) := by
  unfold atI
  have e : ixN (f.map PyData.bool).length (-1) = some (f.length - 1) := by
    unfold ixN
    rw [List.length_map, if_neg (by omega), if_pos (by omega)]
    congr 1
    omega
  rw [e]
  show (f.map PyData.bool)[f.length - 1]? = _
  rw [List.getElem?_map, List.getD_eq_getElem?_getD, List.getElem?_eq_getElem (by omega)] <;> rfl
theorem truths_eq (lns : List Ln) (hok : ∀ (k : Nat) (ln : Ln), lns[k]? = some ln → ln.ok k) (hlen : 1 ≤ lns.length ∧ lns.length ≤ 1000) (w : Str) (hw : w.length ≤ 10000) (L : Sto) :
    f_p_truths [.d (.tuple (lns.map Ln.enc)), .d (.str w)] L = .ok (.new (.lst ((trs lns w.cps.toList (w.length + 1)).map PyData.bool))) L := by
  have hwl : (signs w).length = w.length := by unfold signs; rw [List.length_map]; exact Array.length_toList
  obtain ⟨ρ', L', e, v4, hρ, hL⟩ := forL_run (t := .nm 4) (body := k1_p_truths) (n := L.length + 1) (g := none)
    (ρ := [some (.d (.tuple (lns.map Ln.enc))), some (.d (.str w)), some (.d (lB (col lns w.cps.toList 0))), some (.own L.length), none]) (L := L ++ [.lst [.bool ((col lns w.cps.toList 0).getD (lns.length - 1) false)]]) (ds := signs w)
    (fun j ρ L' => ∃ v4 : Option SV, ρ = [some (.d (.tuple (lns.map Ln.enc))), some (.d (.str w)), some (.d (lB (col lns w.cps.toList j))), some (.own L.length), v4] ∧ L' = L ++ [.lst ((trs lns w.cps.toList (j + 1)).map PyData.bool)])
    ⟨none, rfl, rfl⟩ (by
      rintro j d ρ L' hd ⟨v4, rfl, rfl⟩
      have hj : j < w.length := by rw [← hwl]; exact (List.getElem?_eq_some_iff.mp hd).1
      unfold signs at hd
      rw [List.getElem?_map] at hd
      obtain ⟨ch, hc, rfl⟩ := Option.map_eq_some_iff.mp hd
      have em := moment_eq lns hok hlen.2 ⟨#[ch]⟩ (some (col lns w.cps.toList j)) (fun y hy => by cases hy; rw [col_len]; exact Nat.le_refl _) (L ++ [.lst ((trs lns w.cps.toList (j + 1)).map PyData.bool)])
      have ec : col lns w.cps.toList (j + 1) = mom (some (col lns w.cps.toList j)) ⟨#[ch]⟩ lns [] := by
        rw [col, List.getD_eq_getElem?_getD, hc] <;> rfl
      rw [← ec] at em
      have hl' := at_last (f := col lns w.cps.toList (j + 1)) (by rw [col_len]; exact hlen.1)
      rw [col_len] at hl'
      have hz : (trs lns w.cps.toList (j + 1)).length < sizeLine := lt_line (by rw [trs_len]; omega)
      refine ⟨_, [some (.d (.tuple (lns.map Ln.enc))), some (.d (.str w)), some (.d (lB (col lns w.cps.toList (j + 1)))), some (.own L.length), some (.d (.str ⟨#[ch]⟩))], L ++ [.lst ((trs lns w.cps.toList (j + 1 + 1)).map PyData.bool)], rfl, .inl ?_, rfl, by simp, some (.d (.str ⟨#[ch]⟩)), by simp, take_all⟩
      rw [trs_succ lns w.cps.toList (j + 1)]
      generalize trs lns w.cps.toList (j + 1) = tr at em hz ⊢
      generalize col lns w.cps.toList (j + 1) = cl at em hl' ⊢
      generalize cl.getD (lns.length - 1) false = z at hl' ⊢
      simp only [encB] at em
      unfold k1_p_truths
      refine seq_eq (ρ1 := [some (.d (.tuple (lns.map Ln.enc))), some (.d (.str w)), some (.d (lB cl)), some (.own L.length), some (.d (.str ⟨#[ch]⟩))]) (L1 := L ++ [.lst (tr.map PyData.bool)]) (by simp [em]) ?_
      simp [hl', own_last, hz, set_last])
  rw [hwl] at hρ hL
  rw [hρ, hL] at e
  have em := moment_eq lns hok hlen.2 ⟨#[]⟩ none (fun y hy => by cases hy) L
  have e0 : mom none ⟨#[]⟩ lns [] = col lns w.cps.toList 0 := rfl
  rw [e0] at em
  have hl' := at_last (f := col lns w.cps.toList 0) (by rw [col_len]; exact hlen.1)
  rw [col_len] at hl'
  generalize trs lns w.cps.toList (w.length + 1) = tr at e ⊢
  generalize hcl : col lns w.cps.toList 0 = cl at em hl' e
  generalize cl.getD (lns.length - 1) false = z at hl' e
  simp only [encB] at em
  unfold f_p_truths b_p_truths
  refine fn_eq rfl (r := .rt (.sv (.own L.length)) (L ++ [.lst (tr.map PyData.bool)])) ?_ (by simp [cutR_rt_own, own_last, take_last])
  refine seq_eq (ρ1 := [some (.d (.tuple (lns.map Ln.enc))), some (.d (.str w)), some (.d (lB cl)), none, none]) (L1 := L) (by simp [str_e, em]) ?_
  refine seq_eq (ρ1 := [some (.d (.tuple (lns.map Ln.enc))), some (.d (.str w)), some (.d (lB cl)), some (.own L.length), none]) (L1 := L ++ [.lst [.bool z]]) (by simp [hl']) ?_
  refine seq_eq (ρ1 := [some (.d (.tuple (lns.map Ln.enc))), some (.d (.str w)), some (.d (lB (col lns w.cps.toList w.length))), some (.own L.length), v4]) (L1 := L ++ [.lst (tr.map PyData.bool)]) ?_ (by simp)
  simp only [sFor_ap]
  simp [e]
theorem holds_eq (lns : List Ln) (hok : ∀ (k : Nat) (ln : Ln), lns[k]? = some ln → ln.ok k) (hlen : 1 ≤ lns.length ∧ lns.length ≤ 1000) (w : Str) (hw : w.length ≤ 10000) (L : Sto) :
    f_p_holds [.d (.tuple (lns.map Ln.enc)), .d (.str w)] L = okD (.bool ((trs lns w.cps.toList (w.length + 1)).getD w.length false)) L := by
  have e := truths_eq lns hok hlen w hw L
  have hl := trs_len lns w.cps.toList (w.length + 1)
  generalize trs lns w.cps.toList (w.length + 1) = tr at e hl ⊢
  have h := at_last (f := tr) (by omega)
  rw [hl, Nat.add_sub_cancel] at h
  generalize tr.getD w.length false = z at h ⊢
  simp [f_p_holds, b_p_holds, e, h]
theorem lineG (xs : List Int) (hx : xs.length = 3) (k : Nat) (hk : k ≤ 1000) (L : Sto) : ∃ ln : Ln, f_l_line [.d (lI xs), .d (.int (k : Int))] L = okD ln.enc L ∧ ln.ok k := by
  obtain ⟨a0, g0, _⟩ := atI_ex (xs := xs) (i := 0) (by omega) (by omega)
  obtain ⟨a1, g1, _⟩ := atI_ex (xs := xs) (i := 1) (by omega) (by omega)
  obtain ⟨a2, g2, _⟩ := atI_ex (xs := xs) (i := 2) (by omega) (by omega)
  have m10 : ∀ i, opModC i 10 := fun _ => by show (0 : Int) < 10; omega
  have m4 : ∀ i, opModC i 4 := fun _ => by show (0 : Int) < 4; omega
  have m2 : ∀ i, opModC i 2 := fun _ => by show (0 : Int) < 2; omega
  have hz : ("abcd" : Str).length ≤ sizeLine := le_line (by rw [abcd_len]; omega)
  have ea := abcd_at (i := a1 % 4) (by omega) (by omega)
  have main : ∃ ln : Ln, b_l_line [some (.d (lI xs)), some (.d (.int (k : Int))), none, none, none] L = .rt (.sv (.d ln.enc)) L ∧ ln.ok k := by
    unfold b_l_line
    have s1 : sAsg 2 (bind2 (bind2 (mV 0) (mC (.d (.int 0))) opIx) (mC (.d (.int 10))) opMod) [some (.d (lI xs)), some (.d (.int (k : Int))), none, none, none] L = .nx [some (.d (lI xs)), some (.d (.int (k : Int))), some (.d (.int (a0 % 10))), none, none] L := by simp [g0, m10]
    by_cases h0 : a0 % 10 < 2 ∨ k = 0
    · refine ⟨.letter (97 + (a1 % 4).toNat), seq_eq s1 ?_, trivial⟩
      have hd : ((decide (a0 % 10 < 2)) || ((k : Int) == 0)) = true := by
        rcases h0 with h | h
        · simp [h]
        · simp [h]
      rw [sSeq_ap]
      by_cases h : a0 % 10 < 2
      · simp [h, g1, m4, hz, ea, Ln.enc]
      · have hk0 : ((k : Int) == 0) = true := by simp; omega
        simp [h, hk0, g1, m4, hz, ea, Ln.enc]
    have h2 : ¬ a0 % 10 < 2 := fun h => h0 (.inl h)
    have hk1 : 1 ≤ k := by omega
    have hk0 : ((k : Int) == 0) = false := by simp; omega
    have s2 : ∀ b : MS, sSeq (sIf (mOr (bind2 (mV 2) (mC (.d (.int 2))) opLt) (bind2 (mV 1) (mC (.d (.int 0))) opEq))
  (sRet (mTup [(mC (.d (.str "letter"))), (bind2 (mC (.d (.str "abcd"))) (bind2 (bind2 (mV 0) (mC (.d (.int 1))) opIx) (mC (.d (.int 4))) opMod) opIx)]))
  sNx) b [some (.d (lI xs)), some (.d (.int (k : Int))), some (.d (.int (a0 % 10))), none, none] L = b [some (.d (lI xs)), some (.d (.int (k : Int))), some (.d (.int (a0 % 10))), none, none] L := fun b => seq_eq (by simp [h2, hk0]) rfl
    by_cases h3 : a0 % 10 = 2
    · have : a1 % 2 = 0 ∨ a1 % 2 = 1 := by omega
      rcases this with h | h
      · refine ⟨.start, seq_eq s1 ((s2 _).trans ?_), trivial⟩
        have e : atI [PyData.tuple [.str "start"], .tuple [.str "true"]] 0 = some (.tuple [.str "start"]) := rfl
        rw [sSeq_ap]
        simp [h3, g1, m2, h, e, Ln.enc]
      · refine ⟨.tru, seq_eq s1 ((s2 _).trans ?_), trivial⟩
        have e : atI [PyData.tuple [.str "start"], .tuple [.str "true"]] 1 = some (.tuple [.str "true"]) := rfl
        rw [sSeq_ap]
        simp [h3, g1, m2, h, e, Ln.enc]
    have h3' : (a0 % 10 == 2) = false := by simpa using h3
    have s3 : ∀ b : MS, sSeq (sIf (bind2 (mV 2) (mC (.d (.int 2))) opEq)
  (sRet (bind2 (mLst [(mTup [(mC (.d (.str "start")))]), (mTup [(mC (.d (.str "true")))])]) (bind2 (bind2 (mV 0) (mC (.d (.int 1))) opIx) (mC (.d (.int 2))) opMod) opIx))
  sNx) b [some (.d (lI xs)), some (.d (.int (k : Int))), some (.d (.int (a0 % 10))), none, none] L = b [some (.d (lI xs)), some (.d (.int (k : Int))), some (.d (.int (a0 % 10))), none, none] L := fun b => seq_eq (by simp [h3']) rfl
    have hi : ∃ i : Nat, (k : Int) - 1 - a1 % (if (4 : Int) < (k : Int) then 4 else (k : Int)) = (i : Int) ∧ i < k := by
      have hm : 0 < (if (4 : Int) < (k : Int) then 4 else (k : Int)) ∧ (if (4 : Int) < (k : Int) then 4 else (k : Int)) ≤ (k : Int) := by split <;> omega
      generalize (if (4 : Int) < (k : Int) then 4 else (k : Int)) = m at hm
      have q1 := Int.emod_nonneg a1 (show m ≠ 0 by omega)
      have q2 := Int.emod_lt_of_pos a1 hm.1
      exact ⟨((k : Int) - 1 - a1 % m).toNat, by omega, by omega⟩
    have hmm : ∀ i, opModC i (if (4 : Int) < (k : Int) then 4 else (k : Int)) := fun _ => by show (0 : Int) < _; split <;> omega
    obtain ⟨i, ei, hi⟩ := hi
    have mk : ∀ i, opModC i (k : Int) := fun _ => by show (0 : Int) < k; omega
    have hj : ∃ j : Nat, a2 % (k : Int) = (j : Int) ∧ j < k := by
      have q1 := Int.emod_nonneg a2 (show (k : Int) ≠ 0 by omega)
      have q2 := Int.emod_lt_of_pos a2 (show (0 : Int) < k by omega)
      exact ⟨(a2 % (k : Int)).toNat, by omega, by omega⟩
    obtain ⟨j, ej, hj⟩ := hj
    have s4 : ∀ b : MS, sSeq (sAsg 3 (bind2 (bind2 (mV 1) (mC (.d (.int 1))) opSub) (bind2 (bind2 (mV 0) (mC (.d (.int 1))) opIx) (mCall cMin [(mV 1), (mC (.d (.int 4)))]) opMod) opSub)) b [some (.d (lI xs)), some (.d (.int (k : Int))), some (.d (.int (a0 % 10))), none, none] L = b [some (.d (lI xs)), some (.d (.int (k : Int))), some (.d (.int (a0 % 10))), some (.d (.int (i : Int))), none] L := fun b => seq_eq (by
      have hmin : ∀ L : Sto, cMin [.d (.int (k : Int)), .d (.int 4)] L = .ok (.sv (.d (.int (if (4 : Int) < (k : Int) then 4 else (k : Int))))) L := fun L => (cMin2 (k : Int) 4).trans rfl
      generalize (if (4 : Int) < (k : Int) then 4 else (k : Int)) = m at ei hmm hmin
      simp [-cMin2, hmin, g1, hmm, ei]) rfl
    have s5 : ∀ b : MS, sSeq (sAsg 4 (bind2 (bind2 (mV 0) (mC (.d (.int 2))) opIx) (mV 1) opMod)) b [some (.d (lI xs)), some (.d (.int (k : Int))), some (.d (.int (a0 % 10))), some (.d (.int (i : Int))), none] L = b [some (.d (lI xs)), some (.d (.int (k : Int))), some (.d (.int (a0 % 10))), some (.d (.int (i : Int))), some (.d (.int (j : Int)))] L := fun b => seq_eq (by simp [g2, mk, ej]) rfl
    have hs : a0 % 10 = 3 ∨ a0 % 10 = 4 ∨ a0 % 10 = 5 ∨ a0 % 10 = 6 ∨ a0 % 10 = 7 ∨ a0 % 10 = 8 ∨ a0 % 10 = 9 := by omega
    have n1 : atI [PyData.str "not", .str "before"] 0 = some (.str "not") := rfl
    have n2 : atI [PyData.str "not", .str "before"] 1 = some (.str "before") := rfl
    have n3 : atI [PyData.str "and", .str "or", .str "since", .str "since"] 0 = some (.str "and") := rfl
    have n4 : atI [PyData.str "and", .str "or", .str "since", .str "since"] 1 = some (.str "or") := rfl
    have n5 : atI [PyData.str "and", .str "or", .str "since", .str "since"] 2 = some (.str "since") := rfl
    have n6 : atI [PyData.str "and", .str "or", .str "since", .str "since"] 3 = some (.str "since") := rfl
    rcases hs with h | h | h | h | h | h | h
    · refine ⟨.not i, seq_eq s1 ((s2 _).trans ((s3 _).trans ((s4 _).trans ((s5 _).trans ?_)))), hi⟩
      rw [h]
      simp only [sSeq_ap]
      simp [n1, Ln.enc]
    · refine ⟨.bef i, seq_eq s1 ((s2 _).trans ((s3 _).trans ((s4 _).trans ((s5 _).trans ?_)))), hi⟩
      rw [h]
      simp only [sSeq_ap]
      simp [n2, Ln.enc]
    · refine ⟨.and i j, seq_eq s1 ((s2 _).trans ((s3 _).trans ((s4 _).trans ((s5 _).trans ?_)))), ⟨hi, hj⟩⟩
      rw [h]
      simp only [sSeq_ap]
      simp [n3, Ln.enc]
    · refine ⟨.or i j, seq_eq s1 ((s2 _).trans ((s3 _).trans ((s4 _).trans ((s5 _).trans ?_)))), ⟨hi, hj⟩⟩
      rw [h]
      simp only [sSeq_ap]
      simp [n4, Ln.enc]
    · refine ⟨.since i j, seq_eq s1 ((s2 _).trans ((s3 _).trans ((s4 _).trans ((s5 _).trans ?_)))), ⟨hi, hj⟩⟩
      rw [h]
      simp only [sSeq_ap]
      simp [n5, Ln.enc]
    · refine ⟨.since i j, seq_eq s1 ((s2 _).trans ((s3 _).trans ((s4 _).trans ((s5 _).trans ?_)))), ⟨hi, hj⟩⟩
      rw [h]
      simp only [sSeq_ap]
      simp [n6, Ln.enc]
    · refine ⟨.bef i, seq_eq s1 ((s2 _).trans ((s3 _).trans ((s4 _).trans ((s5 _).trans ?_)))), hi⟩
      rw [h]
      simp only [sSeq_ap]
      simp [n2, Ln.enc]
  obtain ⟨ln, e, h⟩ := main
  exact ⟨ln, fn_eq rfl e (by simp), h⟩
theorem linesG (ns : List Int) (size : Nat) (hs : size ≤ 1000) (L : Sto) : ∃ lns : List Ln, f_l_lines [.ro (ns.map PyData.int), .d (.int 1), .d (.int (size : Int))] L = okD (.tuple (lns.map Ln.enc)) L ∧ lns.length = size ∧ ∀ (k : Nat) (ln : Ln), lns[k]? = some ln → ln.ok k := by
  have hr : okR (size : Int) := okR_of (by omega) (by omega)
  obtain ⟨ρ', L', e, lns, v4, hρ, hl, hok, hL⟩ := forL_run (t := .nm 4) (body := k1_l_lines) (n := L.length + 1) (g := none)
    (ρ := [some (.ro (ns.map PyData.int)), some (.d (.int 1)), some (.d (.int (size : Int))), some (.own L.length), none]) (L := L ++ [.lst []]) (ds := rng 0 (size : Int))
    (fun j ρ L' => ∃ (lns : List Ln) (v4 : Option SV), ρ = [some (.ro (ns.map PyData.int)), some (.d (.int 1)), some (.d (.int (size : Int))), some (.own L.length), v4] ∧ lns.length = j ∧ (∀ (k : Nat) (ln : Ln), lns[k]? = some ln → ln.ok k) ∧ L' = L ++ [.lst (lns.map Ln.enc)])
    ⟨[], none, rfl, rfl, fun k ln h => by simp at h, rfl⟩ (by
      rintro j d ρ L' hd ⟨lns, v4, rfl, hl, hok, rfl⟩
      obtain ⟨rfl, hj⟩ := rng0_get hd
      have ec := cell_eq ns (1 + (j : Int)) (by omega) (L ++ [.lst (lns.map Ln.enc)])
      simp only [okD_eq] at ec
      generalize ns.getD (1 + (j : Int)).toNat 0 = c at ec
      have en : f_l_numbers [.d (.int (c + (j : Int))), .d (.int 3)] (L ++ [.lst (lns.map Ln.enc)]) = .ok (.new (.lst ((nums (c + (j : Int)) 3).map PyData.int))) (L ++ [.lst (lns.map Ln.enc)]) := numbers_eq (c + (j : Int)) 3 (by omega) _
      have hx := nums_len (c + (j : Int)) 3
      generalize nums (c + (j : Int)) 3 = xs at en hx
      obtain ⟨ln, eln, hln⟩ := lineG xs hx j (by omega) (L ++ [.lst (lns.map Ln.enc)])
      simp only [okD_eq] at eln
      have hz : j < sizeLine := lt_line (by omega)
      refine ⟨_, [some (.ro (ns.map PyData.int)), some (.d (.int 1)), some (.d (.int (size : Int))), some (.own L.length), some (.d (.int (j : Int)))], L ++ [.lst ((lns ++ [ln]).map Ln.enc)], rfl, .inl ?_, rfl, by simp, lns ++ [ln], some (.d (.int (j : Int))), by simp, by simp [hl], fun k l' hk => ?_, take_all⟩
      · simp [k1_l_lines, ec, en, own_last, hl, eln, hz, set_last]
      · by_cases h : k < lns.length
        · rw [List.getElem?_append_left h] at hk; exact hok k l' hk
        · rw [List.getElem?_append_right (by omega)] at hk
          have : k - lns.length = 0 := by
            have := (List.getElem?_eq_some_iff.mp hk).1
            simp at this
            omega
          rw [this] at hk
          cases hk
          rw [show k = j by omega]
          exact hln)
  rw [rng0_len] at hl
  rw [hρ, hL] at e
  refine ⟨lns, ?_, hl, hok⟩
  simp [f_l_lines, b_l_lines, sFor_ap, hr, e, own_last, take_last]
/-- whether one line has held since the other one held -/
def sv (r1 r2 : List Bool) : Nat → Bool
  | 0 => r2.getD 0 false
  | t + 1 => r2.getD (t + 1) false || (r1.getD (t + 1) false && sv r1 r2 t)
theorem sv_iff (r1 r2 : List Bool) : ∀ t, sv r1 r2 t = true ↔ ∃ b, b ≤ t ∧ r2.getD b false = true ∧ ∀ s, b < s → s ≤ t → r1.getD s false = true
  | 0 => by
    rw [sv]
    constructor
    · exact fun h => ⟨0, Nat.le_refl 0, h, fun s h1 h2 => by omega⟩
    · rintro ⟨b, h1, h2, _⟩
      rw [Nat.le_zero.mp h1] at h2
      exact h2
  | t + 1 => by
    rw [sv, Bool.or_eq_true, Bool.and_eq_true, sv_iff r1 r2 t]
    constructor
    · rintro (h | ⟨h, b, h1, h2, h3⟩)
      · exact ⟨t + 1, Nat.le_refl _, h, fun s h1 h2 => by omega⟩
      · refine ⟨b, by omega, h2, fun s q1 q2 => ?_⟩
        by_cases e : s = t + 1
        · rw [e]; exact h
        · exact h3 s q1 (by omega)
    · rintro ⟨b, h1, h2, h3⟩
      by_cases e : b = t + 1
      · rw [e] at h2; exact .inl h2
      · exact .inr ⟨h3 (t + 1) (by omega) (Nat.le_refl _), b, by omega, h2, fun s q1 q2 => h3 s q1 (by omega)⟩
def tv (rows : List (List Bool)) (cs : List Nat) (t : Nat) : Ln → Bool
  | .letter x => decide (0 < t) && (cs.getD (t - 1) 0 == x)
  | .start => t == 0
  | .tru => true
  | .not i => !(rows.getD i []).getD t false
  | .bef i => decide (0 < t) && (rows.getD i []).getD (t - 1) false
  | .and i j => (rows.getD i []).getD t false && (rows.getD j []).getD t false
  | .or i j => (rows.getD i []).getD t false || (rows.getD j []).getD t false
  | .since i j => sv (rows.getD i []) (rows.getD j []) t
theorem anyF : ∀ g : List Bool, (g.map PyData.bool).any (fun z => PyData.eqv z (.bool false)) = g.any (· == false)
  | [] => rfl
  | x :: g => by rw [List.map_cons, List.any_cons, List.any_cons, anyF g]; cases x <;> simp [PyData.eqv]
theorem nested_lB (f : List Bool) (h : f.length ≤ 100000) (n : Nat) : nested (n + 1) (lB f) = true := by
  refine nested_lst (by rw [List.length_map]; omega) fun x hx => ?_
  obtain ⟨b, _, rfl⟩ := List.mem_map.mp hx
  cases n <;> rw [nested]
theorem opNotIn_lB (g : List Bool) (hg : g.length ≤ 100000) (L : Sto) : opInG true (.d (.bool false)) (.d (lB g)) L = okD (.bool (!g.any (· == false))) L := by
  have h1 := sh_bool false
  have h2 := shaped_nested (n := 1) (by omega) (nested_lB g hg 0)
  show (if SeqAt.shaped (.bool false) = true ∧ SeqAt.shaped (lB g) = true then inD true (.bool false) (g.map PyData.bool) L else .stuck) = _
  rw [if_pos ⟨h1, h2⟩]
  unfold inD
  rw [anyF] <;> rfl
theorem cut_any (r : List Bool) (b t : Nat) (ht : t < r.length) : ((r.drop (b + 1)).take (t - b)).any (· == false) = false ↔ ∀ s, b < s → s ≤ t → r.getD s false = true := by
  rw [List.any_eq_false]
  constructor
  · intro h s h1 h2
    have hs : s < r.length := by omega
    have hm : r[s] ∈ (r.drop (b + 1)).take (t - b) := by
      refine List.mem_iff_getElem?.mpr ⟨s - (b + 1), ?_⟩
      rw [List.getElem?_take, if_pos (by omega), List.getElem?_drop, show b + 1 + (s - (b + 1)) = s by omega, List.getElem?_eq_getElem hs]
    have := h _ hm
    rw [List.getD_eq_getElem?_getD, List.getElem?_eq_getElem hs]
    simpa using this
  · intro h x hx
    obtain ⟨i, hi⟩ := List.mem_iff_getElem?.mp hx
    rw [List.getElem?_take] at hi
    split at hi
    · rename_i hlt
      rw [List.getElem?_drop] at hi
      have := h (b + 1 + i) (by omega) (by omega)
      rw [List.getD_eq_getElem?_getD, hi] at this
      simpa using this
    · cases hi
abbrev lR (rows : List (List Bool)) : List PyData := rows.map lB
theorem since_loop (x : PyData) (k : Nat) (w : Str) (r1 r2 : List Bool) (t : Nat) (h1 : t < r1.length) (h2 : t < r2.length) (hl : r1.length ≤ 10000) (L : Sto) (hk : k < L.length) :
    ∃ r, forL (.nm 6) k1_l_truth L.length none (rng 0 ((t + 1 : Nat) : Int)) [some (.d x), some (.own k), some (.d (.str w)), some (.d (.int (t : Int))), some (.d (lB r1)), some (.d (lB r2)), none] L = r ∧
      ((sv r1 r2 t = true ∧ r = .rt (.sv (.d (.bool true))) L) ∨ (sv r1 r2 t = false ∧ ∃ ρ, r = .nx ρ L)) := by
  refine ⟨_, rfl, ?_⟩
  refine forL_wp (fun j ρ L' => (∃ v6, ρ = [some (.d x), some (.own k), some (.d (.str w)), some (.d (.int (t : Int))), some (.d (lB r1)), some (.d (lB r2)), v6]) ∧ L' = L ∧ ∀ b, b < j → ¬ (r2.getD b false = true ∧ ∀ s, b < s → s ≤ t → r1.getD s false = true))
    (fun r => (sv r1 r2 t = true ∧ r = .rt (.sv (.d (.bool true))) L) ∨ (sv r1 r2 t = false ∧ ∃ ρ, r = .nx ρ L)) _ 0 _ _ ⟨⟨none, rfl⟩, rfl, fun b hb => by omega⟩ ?_ ?_
  · rintro j d ρ L' _ hd ⟨⟨v6, rfl⟩, rfl, hno⟩
    rw [Nat.sub_zero] at hd
    obtain ⟨rfl, hj⟩ := rng0_get hd
    refine ⟨_, rfl, ?_⟩
    have e2 := atB (f := r2) (i := j) (by omega)
    have es : opSl (.d (lB r1)) (some ((j : Int) + 1)) (some ((t : Int) + 1)) L' = .ok (.new (.lst (((r1.drop (j + 1)).take (t - j)).map PyData.bool))) L' := by
      rw [slL_mid _ _ _ _ (by omega) (by omega), show ((j : Int) + 1).toNat = j + 1 by omega, show ((t : Int) + 1).toNat - (j + 1) = t - j by omega, List.map_take, List.map_drop]
    have ho := opNotIn_lB ((r1.drop (j + 1)).take (t - j)) (by rw [List.length_take, List.length_drop]; omega) L'
    have hcut := cut_any r1 j t h1
    generalize (r1.drop (j + 1)).take (t - j) = cu at es ho hcut
    simp only [okD_eq] at ho
    have eb : k1_l_truth ([some (.d x), some (.own k), some (.d (.str w)), some (.d (.int (t : Int))), some (.d (lB r1)), some (.d (lB r2)), v6].set 6 (some (.d (.int (j : Int))))) L' =
        if r2.getD j false = true ∧ cu.any (· == false) = false then .rt (.sv (.d (.bool true))) L' else .nx [some (.d x), some (.own k), some (.d (.str w)), some (.d (.int (t : Int))), some (.d (lB r1)), some (.d (lB r2)), some (.d (.int (j : Int)))] L' := by
      generalize r2.getD j false = z at e2 ⊢
      generalize cu.any (· == false) = y at ho ⊢
      cases z <;> cases y <;> simp [k1_l_truth, e2, es, ho]
    rw [eb]
    by_cases hc : r2.getD j false = true ∧ cu.any (· == false) = false
    · rw [if_pos hc]
      exact .inl ⟨(sv_iff r1 r2 t).mpr ⟨j, by omega, hc.1, hcut.mp hc.2⟩, rfl⟩
    · rw [if_neg hc]
      refine ⟨rfl, Nat.le_refl _, ⟨some (.d (.int (j : Int))), by simp [hk]⟩, List.take_length, fun b hb => ?_⟩
      by_cases e : b = j
      · rw [e]; exact fun h => hc ⟨h.1, hcut.mpr h.2⟩
      · exact hno b (by omega)
  · rintro ρ L' ⟨_, rfl, hno⟩
    rw [Nat.zero_add, rng0_len] at hno
    refine .inr ⟨?_, ρ, rfl⟩
    rw [← Bool.not_eq_true, sv_iff]
    rintro ⟨b, q1, q2, q3⟩
    exact hno b (by omega) ⟨q2, q3⟩
theorem skip {nm h : Str} {r : List PyData} {a b : MS} {ρ : Rho} {L : Sto} (h0 : ρ[0]? = some (some (.d (.tuple (.str h :: r))))) (hn : (h == nm) = false) :
    sSeq (sIf (bind2 (bind2 (mV 0) (mC (.d (.int 0))) opIx) (mC (.d (.str nm))) opEq) a sNx) b ρ L = b ρ L := by
  have e : atI (PyData.str h :: r) 0 = some (.str h) := by unfold atI; rw [ixN_of (by omega) (by rw [List.length_cons]; omega)] <;> rfl
  exact seq_eq (by simp [h0, e, hn]) rfl
theorem hit {nm h : Str} {r : List PyData} {m : ME} {b : MS} {ρ : Rho} {L L1 : Sto} {v : Ret} (h0 : ρ[0]? = some (some (.d (.tuple (.str h :: r))))) (hn : (h == nm) = true) (hm : m ρ L = .ok v L1) :
    sSeq (sIf (bind2 (bind2 (mV 0) (mC (.d (.int 0))) opIx) (mC (.d (.str nm))) opEq) (sRet m) sNx) b ρ L = .rt v L1 := by
  have e : atI (PyData.str h :: r) 0 = some (.str h) := by unfold atI; rw [ixN_of (by omega) (by rw [List.length_cons]; omega)] <;> rfl
  rw [sSeq_ap]
  simp [h0, e, hn, hm]
theorem str1_eq (c x : Nat) : ((⟨#[c]⟩ : Str) == ⟨#[x]⟩) = (c == x) := by
  rw [Bool.eq_iff_iff, beq_iff_eq, beq_iff_eq]
  constructor
  · intro h
    have := congrArg (fun s : Str => s.cps.toList) h
    simpa using this
  · intro h; rw [h]
theorem atR {rows : List (List Bool)} {i : Nat} (h : i < rows.length) : atI (lR rows) (i : Int) = some (lB (rows.getD i [])) := by
  refine atI_getN _ _ _ ?_
  rw [List.getElem?_map, List.getD_eq_getElem?_getD, List.getElem?_eq_getElem h] <;> rfl
theorem truth_eq (ln : Ln) (rows : List (List Bool)) (w : Str) (t : Nat) (ht : t ≤ w.length) (hw : w.length ≤ 1000) (hrow : ∀ r ∈ rows, r.length = w.length + 1) (hok : ln.ok rows.length) (k : Nat) (L : Sto) (hL : L[k]? = some (.lst (lR rows))) :
    f_l_truth [.d ln.enc, .own k, .d (.str w), .d (.int (t : Int))] L = okD (.bool (tv rows w.cps.toList t ln)) L := by
  have hk : k < L.length := (List.getElem?_eq_some_iff.mp hL).1
  have hlen : ∀ i, i < rows.length → (rows.getD i []).length = w.length + 1 := fun i hi => by
    have e : rows.getD i [] = rows[i] := by rw [List.getD_eq_getElem?_getD, List.getElem?_eq_getElem hi] <;> rfl
    rw [e]
    exact hrow _ (List.getElem_mem hi)
  have hz : w.length ≤ sizeLine := le_line (by omega)
  have main : b_l_truth [some (.d ln.enc), some (.own k), some (.d (.str w)), some (.d (.int (t : Int))), none, none, none] L = .rt (.sv (.d (.bool (tv rows w.cps.toList t ln)))) L := by
    unfold b_l_truth
    cases ln with
    | letter x =>
      refine hit (h := "letter") rfl (by decide +kernel) ?_
      have h1 : atI [PyData.str "letter", .str ⟨#[x]⟩] 1 = some (.str ⟨#[x]⟩) := rfl
      unfold tv
      by_cases h : 0 < t
      · have hl : w.cps.toList.length = w.length := Array.length_toList
        have e : atI w.cps.toList ((t : Int) - 1) = some (w.cps.toList.getD (t - 1) 0) := by
          rw [show (t : Int) - 1 = ((t - 1 : Nat) : Int) by omega]
          refine atI_getN _ _ _ ?_
          rw [List.getD_eq_getElem?_getD, List.getElem?_eq_getElem (by omega)] <;> rfl
        generalize w.cps.toList.getD (t - 1) 0 = c at e ⊢
        have hd : decide ((0 : Int) < (t : Int)) = true := by simp; omega
        simp [Ln.enc, h1, h, hz, e, str1_eq]
      · simp [h]
    | start =>
      refine (skip (h := "start") rfl (by decide +kernel)).trans (hit (h := "start") rfl (by decide +kernel) ?_)
      unfold tv
      have e : ((t : Int) == 0) = (t == 0) := by rw [Bool.eq_iff_iff, beq_iff_eq, beq_iff_eq]; omega
      simp [e]
    | tru =>
      refine (skip (h := "true") rfl (by decide +kernel)).trans ((skip (h := "true") rfl (by decide +kernel)).trans (hit (h := "true") rfl (by decide +kernel) ?_))
      simp [tv]
    | not i =>
      have h1 : atI [PyData.str "not", .int (i : Int)] 1 = some (.int (i : Int)) := rfl
      have hi := atR (rows := rows) (i := i) hok
      have h2 := atB (f := rows.getD i []) (i := t) (by rw [hlen i hok]; omega)
      have et : tv rows w.cps.toList t (Ln.not i) = !(rows.getD i []).getD t false := rfl
      rw [et]
      generalize rows.getD i [] = r at hi h2 ⊢
      generalize r.getD t false = z at h2 ⊢
      refine (skip (h := "not") rfl (by decide +kernel)).trans ((skip (h := "not") rfl (by decide +kernel)).trans ((skip (h := "not") rfl (by decide +kernel)).trans ?_))
      refine seq_eq (ρ1 := [some (.d (Ln.not i).enc), some (.own k), some (.d (.str w)), some (.d (.int (t : Int))), some (.d (lB r)), none, none]) (L1 := L) (by simp [Ln.enc, h1, opIx_own, hL, hi]) ?_
      refine hit (h := "not") rfl (by decide +kernel) ?_
      simp [h2]
    | bef i =>
      have h1 : atI [PyData.str "before", .int (i : Int)] 1 = some (.int (i : Int)) := rfl
      have hi := atR (rows := rows) (i := i) hok
      have h2 : 0 < t → atI ((rows.getD i []).map PyData.bool) ((t : Int) - 1) = some (.bool ((rows.getD i []).getD (t - 1) false)) := fun h => by
        rw [show (t : Int) - 1 = ((t - 1 : Nat) : Int) by omega]
        exact atB (f := rows.getD i []) (i := t - 1) (by rw [hlen i hok]; omega)
      have et : tv rows w.cps.toList t (Ln.bef i) = (decide (0 < t) && (rows.getD i []).getD (t - 1) false) := rfl
      rw [et]
      generalize rows.getD i [] = r at hi h2 ⊢
      generalize r.getD (t - 1) false = z at h2 ⊢
      refine (skip (h := "before") rfl (by decide +kernel)).trans ((skip (h := "before") rfl (by decide +kernel)).trans ((skip (h := "before") rfl (by decide +kernel)).trans ?_))
      refine seq_eq (ρ1 := [some (.d (Ln.bef i).enc), some (.own k), some (.d (.str w)), some (.d (.int (t : Int))), some (.d (lB r)), none, none]) (L1 := L) (by simp [Ln.enc, h1, opIx_own, hL, hi]) ?_
      refine (skip (h := "before") rfl (by decide +kernel)).trans (hit (h := "before") rfl (by decide +kernel) ?_)
      by_cases h : 0 < t
      · simp [h, h2 h]
      · simp [h]
    | and i j =>
      have h1 : atI [PyData.str "and", .int (i : Int), .int (j : Int)] 1 = some (.int (i : Int)) := rfl
      have h1' : atI [PyData.str "and", .int (i : Int), .int (j : Int)] 2 = some (.int (j : Int)) := rfl
      have hi := atR (rows := rows) (i := i) hok.1
      have hj := atR (rows := rows) (i := j) hok.2
      have h2 := atB (f := rows.getD i []) (i := t) (by rw [hlen i hok.1]; omega)
      have h3 := atB (f := rows.getD j []) (i := t) (by rw [hlen j hok.2]; omega)
      have et : tv rows w.cps.toList t (Ln.and i j) = ((rows.getD i []).getD t false && (rows.getD j []).getD t false) := rfl
      rw [et]
      generalize rows.getD i [] = r at hi h2 ⊢
      generalize rows.getD j [] = r' at hj h3 ⊢
      generalize r.getD t false = z at h2 ⊢
      generalize r'.getD t false = z' at h3 ⊢
      refine (skip (h := "and") rfl (by decide +kernel)).trans ((skip (h := "and") rfl (by decide +kernel)).trans ((skip (h := "and") rfl (by decide +kernel)).trans ?_))
      refine seq_eq (ρ1 := [some (.d (Ln.and i j).enc), some (.own k), some (.d (.str w)), some (.d (.int (t : Int))), some (.d (lB r)), none, none]) (L1 := L) (by simp [Ln.enc, h1, opIx_own, hL, hi]) ?_
      refine (skip (h := "and") rfl (by decide +kernel)).trans ((skip (h := "and") rfl (by decide +kernel)).trans ?_)
      refine seq_eq (ρ1 := [some (.d (Ln.and i j).enc), some (.own k), some (.d (.str w)), some (.d (.int (t : Int))), some (.d (lB r)), some (.d (lB r')), none]) (L1 := L) (by simp [Ln.enc, h1', opIx_own, hL, hj]) ?_
      refine hit (h := "and") rfl (by decide +kernel) ?_
      cases z <;> simp [h2, h3]
    | or i j =>
      have h1 : atI [PyData.str "or", .int (i : Int), .int (j : Int)] 1 = some (.int (i : Int)) := rfl
      have h1' : atI [PyData.str "or", .int (i : Int), .int (j : Int)] 2 = some (.int (j : Int)) := rfl
      have hi := atR (rows := rows) (i := i) hok.1
      have hj := atR (rows := rows) (i := j) hok.2
      have h2 := atB (f := rows.getD i []) (i := t) (by rw [hlen i hok.1]; omega)
      have h3 := atB (f := rows.getD j []) (i := t) (by rw [hlen j hok.2]; omega)
      have et : tv rows w.cps.toList t (Ln.or i j) = ((rows.getD i []).getD t false || (rows.getD j []).getD t false) := rfl
      rw [et]
      generalize rows.getD i [] = r at hi h2 ⊢
      generalize rows.getD j [] = r' at hj h3 ⊢
      generalize r.getD t false = z at h2 ⊢
      generalize r'.getD t false = z' at h3 ⊢
      refine (skip (h := "or") rfl (by decide +kernel)).trans ((skip (h := "or") rfl (by decide +kernel)).trans ((skip (h := "or") rfl (by decide +kernel)).trans ?_))
      refine seq_eq (ρ1 := [some (.d (Ln.or i j).enc), some (.own k), some (.d (.str w)), some (.d (.int (t : Int))), some (.d (lB r)), none, none]) (L1 := L) (by simp [Ln.enc, h1, opIx_own, hL, hi]) ?_
      refine (skip (h := "or") rfl (by decide +kernel)).trans ((skip (h := "or") rfl (by decide +kernel)).trans ?_)
      refine seq_eq (ρ1 := [some (.d (Ln.or i j).enc), some (.own k), some (.d (.str w)), some (.d (.int (t : Int))), some (.d (lB r)), some (.d (lB r')), none]) (L1 := L) (by simp [Ln.enc, h1', opIx_own, hL, hj]) ?_
      refine (skip (h := "or") rfl (by decide +kernel)).trans (hit (h := "or") rfl (by decide +kernel) ?_)
      cases z <;> simp [h2, h3]
    | since i j =>
      have h1 : atI [PyData.str "since", .int (i : Int), .int (j : Int)] 1 = some (.int (i : Int)) := rfl
      have h1' : atI [PyData.str "since", .int (i : Int), .int (j : Int)] 2 = some (.int (j : Int)) := rfl
      have hi := atR (rows := rows) (i := i) hok.1
      have hj := atR (rows := rows) (i := j) hok.2
      have hl1 := hlen i hok.1
      have hl2 := hlen j hok.2
      have et : tv rows w.cps.toList t (Ln.since i j) = sv (rows.getD i []) (rows.getD j []) t := rfl
      rw [et]
      generalize rows.getD i [] = r at hi hl1 ⊢
      generalize rows.getD j [] = r' at hj hl2 ⊢
      obtain ⟨res, e, hres⟩ := since_loop (Ln.since i j).enc k w r r' t (by omega) (by omega) (by omega) L hk
      refine (skip (h := "since") rfl (by decide +kernel)).trans ((skip (h := "since") rfl (by decide +kernel)).trans ((skip (h := "since") rfl (by decide +kernel)).trans ?_))
      refine seq_eq (ρ1 := [some (.d (Ln.since i j).enc), some (.own k), some (.d (.str w)), some (.d (.int (t : Int))), some (.d (lB r)), none, none]) (L1 := L) (by simp [Ln.enc, h1, opIx_own, hL, hi]) ?_
      refine (skip (h := "since") rfl (by decide +kernel)).trans ((skip (h := "since") rfl (by decide +kernel)).trans ?_)
      refine seq_eq (ρ1 := [some (.d (Ln.since i j).enc), some (.own k), some (.d (.str w)), some (.d (.int (t : Int))), some (.d (lB r)), some (.d (lB r')), none]) (L1 := L) (by simp [Ln.enc, h1', opIx_own, hL, hj]) ?_
      refine (skip (h := "since") rfl (by decide +kernel)).trans ((skip (h := "since") rfl (by decide +kernel)).trans ?_)
      have hr : okR ((t + 1 : Nat) : Int) := okR_of (by omega) (by omega)
      have ef : sFor (.nm 6) (iRange1 [(bind2 (mV 3) (mC (.d (.int 1))) opAdd)]) k1_l_truth [some (.d (Ln.since i j).enc), some (.own k), some (.d (.str w)), some (.d (.int (t : Int))), some (.d (lB r)), some (.d (lB r')), none] L = res := by
        rw [sFor_ok (ds := rng 0 ((t + 1 : Nat) : Int)) (L1 := L) (g := none) ?_ rfl]
        · exact e
        · have hr' : okR ((t : Int) + 1) := hr
          simp [hr']
      rw [sSeq_ap, ef]
      rcases hres with ⟨h, rfl⟩ | ⟨h, ρ, rfl⟩
      · rw [h]
      · rw [h]; simp
  exact fn_eq rfl main (by simp)
def bld {α : Type} (g : List α → Ln → α) : List Ln → List α → List α
  | [], acc => acc
  | ln :: r, acc => bld g r (acc ++ [g acc ln])
theorem mom_bld (b : Option (List Bool)) (c : Str) : ∀ (r : List Ln) (f : List Bool), mom b c r f = bld (fun f ln => ln.val f b c) r f
  | [], _ => rfl
  | _ :: r, _ => mom_bld b c r _
theorem bld_len {α : Type} (g : List α → Ln → α) : ∀ (r : List Ln) (acc : List α), (bld g r acc).length = acc.length + r.length
  | [], _ => rfl
  | ln :: r, acc => by rw [bld, bld_len g r, List.length_append, List.length_singleton, List.length_cons]; omega
theorem bld_app {α : Type} (g : List α → Ln → α) : ∀ (r r' : List Ln) (acc : List α), bld g (r ++ r') acc = bld g r' (bld g r acc)
  | [], _, _ => rfl
  | _ :: r, r', _ => bld_app g r r' _
theorem bld_pre {α : Type} (g : List α → Ln → α) : ∀ (r : List Ln) (acc : List α), (bld g r acc).take acc.length = acc
  | [], acc => List.take_length
  | ln :: r, acc => by
    have h := bld_pre g r (acc ++ [g acc ln])
    rw [bld]
    have h2 := congrArg (List.take acc.length) h
    rw [List.take_take, List.length_append, Nat.min_eq_left (by omega), List.take_left' rfl] at h2
    exact h2
theorem bld_get {α : Type} (g : List α → Ln → α) : ∀ (r : List Ln) (acc : List α) (k : Nat) (ln : Ln), r[k]? = some ln → (bld g r acc)[acc.length + k]? = some (g ((bld g r acc).take (acc.length + k)) ln)
  | [], _, _, _, h => by simp at h
  | l :: r, acc, 0, ln, h => by
    rw [List.getElem?_cons_zero] at h
    cases h
    have h0 := bld_pre g (l :: r) acc
    have h1 := bld_pre g r (acc ++ [g acc l])
    rw [Nat.add_zero, h0]
    have h2 := congrArg (fun l => l[acc.length]?) h1
    rw [List.getElem?_take, if_pos (by rw [List.length_append, List.length_singleton]; omega), List.getElem?_append_right (Nat.le_refl _), Nat.sub_self] at h2
    exact h2
  | l :: r, acc, k + 1, ln, h => by
    rw [List.getElem?_cons_succ] at h
    have := bld_get g r (acc ++ [g acc l]) k ln h
    rw [List.length_append, List.length_singleton, show acc.length + 1 + k = acc.length + (k + 1) by omega] at this
    exact this
def rowF (cs : List Nat) (m : Nat) (rows : List (List Bool)) (ln : Ln) : List Bool := (List.range (m + 1)).map fun t => tv rows cs t ln
theorem getD_map_range {m t : Nat} (f : Nat → Bool) (h : t ≤ m) : ((List.range (m + 1)).map f).getD t false = f t := by
  rw [List.getD_eq_getElem?_getD, List.getElem?_map, List.getElem?_range (by omega)] <;> rfl
theorem getD_take {α : Type} {xs : List α} {i k : Nat} {d : α} (h : i < k) : (xs.take k).getD i d = xs.getD i d := by
  rw [List.getD_eq_getElem?_getD, List.getD_eq_getElem?_getD, List.getElem?_take, if_pos h]
/-- the moment's value, over the full row of truths -/
theorem col_get (lns : List Ln) (cs : List Nat) (t k : Nat) (ln : Ln) (h : lns[k]? = some ln) :
    (col lns cs t).getD k false = ln.val ((col lns cs t).take k) (match t with | 0 => none | t + 1 => some (col lns cs t)) (match t with | 0 => ⟨#[]⟩ | t + 1 => ⟨#[cs.getD t 0]⟩) := by
  cases t with
  | zero =>
    have := bld_get (fun f ln => ln.val f none ⟨#[]⟩) lns [] k ln h
    rw [← mom_bld, List.length_nil, Nat.zero_add] at this
    show (mom none ⟨#[]⟩ lns []).getD k false = _
    rw [List.getD_eq_getElem?_getD, this] <;> rfl
  | succ t =>
    have := bld_get (fun f ln => ln.val f (some (col lns cs t)) ⟨#[cs.getD t 0]⟩) lns [] k ln h
    rw [← mom_bld, List.length_nil, Nat.zero_add] at this
    show (mom (some (col lns cs t)) ⟨#[cs.getD t 0]⟩ lns []).getD k false = _
    rw [List.getD_eq_getElem?_getD, this] <;> rfl
/-- the table's truths are the moments' -/
theorem tab_col (lns : List Ln) (hok : ∀ (k : Nat) (ln : Ln), lns[k]? = some ln → ln.ok k) (cs : List Nat) (m : Nat) : ∀ (k : Nat), k < lns.length → ∀ t, t ≤ m → ((bld (rowF cs m) lns []).getD k []).getD t false = (col lns cs t).getD k false := by
  intro k
  induction k using Nat.strongRecOn with
  | ind k ih =>
    intro hk
    have hln : lns[k]? = some lns[k] := List.getElem?_eq_getElem hk
    have ho := hok k _ hln
    generalize lns[k] = ln at hln ho
    have hb := bld_get (rowF cs m) lns [] k ln hln
    rw [List.length_nil, Nat.zero_add] at hb
    have hrow : (bld (rowF cs m) lns []).getD k [] = rowF cs m ((bld (rowF cs m) lns []).take k) ln := by rw [List.getD_eq_getElem?_getD, hb] <;> rfl
    have hi : ∀ i, i < k → ∀ t, t ≤ m → (((bld (rowF cs m) lns []).take k).getD i []).getD t false = (col lns cs t).getD i false := fun i h t ht => by
      rw [getD_take h]; exact ih i h (by omega) t ht
    have hcl : ∀ t, ((col lns cs t).take k).length = k := fun t => by rw [List.length_take, col_len]; omega
    rw [hrow]
    generalize (bld (rowF cs m) lns []).take k = rows at hi
    unfold rowF
    intro t ht
    rw [getD_map_range _ ht]
    cases ln with
    | letter x =>
      rw [col_get lns cs t k _ hln]
      cases t with
      | zero =>
        have : ((⟨#[]⟩ : Str) == ⟨#[x]⟩) = false := by
          rw [← Bool.not_eq_true, beq_iff_eq]
          intro h
          have := congrArg (fun s : Str => s.cps.toList) h
          simp at this
        simp [tv, Ln.val, this]
      | succ t => simp only [tv, Ln.val, str1_eq, Nat.add_sub_cancel]; simp
    | start =>
      rw [col_get lns cs t k _ hln]
      cases t <;> simp [tv, Ln.val]
    | tru =>
      rw [col_get lns cs t k _ hln]
      simp [tv, Ln.val]
    | not i =>
      rw [col_get lns cs t k _ hln]
      simp only [tv, Ln.val]
      rw [getD_take ho, hi i ho t ht]
    | and i j =>
      rw [col_get lns cs t k _ hln]
      simp only [tv, Ln.val]
      rw [getD_take ho.1, getD_take ho.2, hi i ho.1 t ht, hi j ho.2 t ht]
    | or i j =>
      rw [col_get lns cs t k _ hln]
      simp only [tv, Ln.val]
      rw [getD_take ho.1, getD_take ho.2, hi i ho.1 t ht, hi j ho.2 t ht]
    | bef i =>
      rw [col_get lns cs t k _ hln]
      cases t with
      | zero => simp [tv, Ln.val, prevAt]
      | succ t =>
        simp only [tv, Ln.val, prevAt, Nat.add_sub_cancel]
        rw [hi i ho t (by omega)]
        simp
    | since i j =>
      simp only [tv]
      induction t with
      | zero =>
        rw [col_get lns cs 0 k _ hln]
        simp only [Ln.val, prevAt, sv, Bool.and_false, Bool.or_false]
        rw [getD_take ho.2, hi j ho.2 0 ht]
      | succ t iht =>
        rw [col_get lns cs (t + 1) k _ hln]
        simp only [Ln.val, prevAt, sv]
        rw [getD_take ho.1, getD_take ho.2, hi i ho.1 (t + 1) ht, hi j ho.2 (t + 1) ht, iht (by omega), hcl]
theorem own1 {L : Sto} {a b : MO} : (L ++ [a, b])[L.length]? = some a := by rw [List.getElem?_append_right (Nat.le_refl _)]; simp
theorem own2 {L : Sto} {a b : MO} : (L ++ [a, b])[L.length + 1]? = some b := by rw [List.getElem?_append_right (by omega)]; simp
theorem set1 {L : Sto} {a b c : MO} : (L ++ [a, b]).set L.length c = L ++ [c, b] := by rw [List.set_append_right _ _ (Nat.le_refl _)]; simp
theorem set2 {L : Sto} {a b c : MO} : (L ++ [a, b]).set (L.length + 1) c = L ++ [a, c] := by rw [List.set_append_right _ _ (by omega)]; simp
theorem take1 {L : Sto} {a b : MO} : (L ++ [a, b]).take (L.length + 1) = L ++ [a] := by rw [show L ++ [a, b] = (L ++ [a]) ++ [b] by simp]; exact List.take_left' (by simp)
theorem take2 {L : Sto} {a b : MO} : (L ++ [a, b]).take (L.length + 2) = L ++ [a, b] := List.take_of_length_le (by simp)
theorem row_loop (x : PyData) (ln : Ln) (rows : List (List Bool)) (w : Str) (hw : w.length ≤ 1000) (hrow : ∀ r ∈ rows, r.length = w.length + 1) (hok : ln.ok rows.length) (L : Sto) (v5 : Option SV) (h5 : keepS (L.length + 2) v5 = v5) :
    ∃ v5' : Option SV, keepS (L.length + 1) v5' = v5' ∧ forL (.nm 5) k1_l_table (L.length + 2) none (rng 0 ((w.length + 1 : Nat) : Int)) [some (.d x), some (.d (.str w)), some (.own L.length), some (.d ln.enc), some (.own (L.length + 1)), v5] (L ++ [.lst (lR rows), .lst []]) =
      .nx [some (.d x), some (.d (.str w)), some (.own L.length), some (.d ln.enc), some (.own (L.length + 1)), v5'] (L ++ [.lst (lR rows), .lst ((rowF w.cps.toList w.length rows ln).map PyData.bool)]) := by
  obtain ⟨ρ', L', e, v5', k5, hρ, hL⟩ := forL_run (t := .nm 5) (body := k1_l_table) (n := L.length + 2) (g := none)
    (ρ := [some (.d x), some (.d (.str w)), some (.own L.length), some (.d ln.enc), some (.own (L.length + 1)), v5]) (L := L ++ [.lst (lR rows), .lst []]) (ds := rng 0 ((w.length + 1 : Nat) : Int))
    (fun j ρ L' => ∃ v5' : Option SV, (0 < j → keepS (L.length + 1) v5' = v5') ∧ ρ = [some (.d x), some (.d (.str w)), some (.own L.length), some (.d ln.enc), some (.own (L.length + 1)), v5'] ∧ L' = L ++ [.lst (lR rows), .lst (((List.range j).map fun t => tv rows w.cps.toList t ln).map PyData.bool)])
    ⟨v5, fun h => absurd h (Nat.lt_irrefl 0), rfl, rfl⟩ (by
      rintro j d ρ L' hd ⟨v5', k5, rfl, rfl⟩
      obtain ⟨rfl, hj⟩ := rng0_get hd
      have e := truth_eq ln rows w j (by omega) hw hrow hok L.length (L ++ [.lst (lR rows), .lst (((List.range j).map fun t => tv rows w.cps.toList t ln).map PyData.bool)]) own1
      have hz : j < sizeLine := lt_line (by omega)
      have er : (List.range (j + 1)).map (fun t => tv rows w.cps.toList t ln) = (List.range j).map (fun t => tv rows w.cps.toList t ln) ++ [tv rows w.cps.toList j ln] := by rw [List.range_succ, List.map_append] <;> rfl
      have hlen : ((List.range j).map fun t => tv rows w.cps.toList t ln).length = j := by simp
      refine ⟨_, [some (.d x), some (.d (.str w)), some (.own L.length), some (.d ln.enc), some (.own (L.length + 1)), some (.d (.int (j : Int)))], L ++ [.lst (lR rows), .lst (((List.range (j + 1)).map fun t => tv rows w.cps.toList t ln).map PyData.bool)], rfl, .inl ?_, rfl, by simp, some (.d (.int (j : Int))), fun _ => rfl, by simp, take2⟩
      rw [er]
      generalize (List.range j).map (fun t => tv rows w.cps.toList t ln) = acc at e hlen ⊢
      generalize tv rows w.cps.toList j ln = z at e ⊢
      simp only [okD_eq] at e
      simp [k1_l_table, e, own2, hlen, hz, set2])
  rw [rng0_len] at k5 hL
  exact ⟨v5', k5 (by omega), by rw [e, hρ, hL] <;> rfl⟩
theorem bld_rows (cs : List Nat) (m : Nat) : ∀ (r : List Ln) (acc : List (List Bool)), (∀ x ∈ acc, x.length = m + 1) → ∀ x ∈ bld (rowF cs m) r acc, x.length = m + 1
  | [], _, h => h
  | ln :: r, acc, h => bld_rows cs m r _ fun x hx => by
    rcases List.mem_append.mp hx with hx | hx
    · exact h x hx
    · rw [List.mem_singleton.mp hx]; simp [rowF]
theorem table_eq (lns : List Ln) (hok : ∀ (k : Nat) (ln : Ln), lns[k]? = some ln → ln.ok k) (hlen : lns.length ≤ 1000) (w : Str) (hw : w.length ≤ 1000) (L : Sto) :
    f_l_table [.d (.tuple (lns.map Ln.enc)), .d (.str w)] L = .ok (.new (.lst (lR (bld (rowF w.cps.toList w.length) lns [])))) L := by
  have hr : okR ((w.length + 1 : Nat) : Int) := okR_of (by omega) (by omega)
  have hr' : okR ((w.length : Int) + 1) := hr
  have hz : w.length ≤ sizeLine := le_line (by omega)
  obtain ⟨ρ', L', e, v3, v5, k5, hρ, hL⟩ := forL_run (t := .nm 3) (body := k2_l_table) (n := L.length + 1) (g := none)
    (ρ := [some (.d (.tuple (lns.map Ln.enc))), some (.d (.str w)), some (.own L.length), none, none, none]) (L := L ++ [.lst []]) (ds := lns.map Ln.enc)
    (fun j ρ L' => ∃ v3 v5 : Option SV, keepS (L.length + 1) v5 = v5 ∧ ρ = [some (.d (.tuple (lns.map Ln.enc))), some (.d (.str w)), some (.own L.length), v3, none, v5] ∧ L' = L ++ [.lst (lR (bld (rowF w.cps.toList w.length) (lns.take j) []))])
    ⟨none, none, rfl, rfl, rfl⟩ (by
      rintro j d ρ L' hd ⟨v3, v5, k5, rfl, rfl⟩
      rw [List.getElem?_map] at hd
      obtain ⟨ln, hc, rfl⟩ := Option.map_eq_some_iff.mp hd
      have hj : j < lns.length := (List.getElem?_eq_some_iff.mp hc).1
      have hbl : (bld (rowF w.cps.toList w.length) (lns.take j) []).length = j := by rw [bld_len, List.length_nil, List.length_take]; omega
      have hbr := bld_rows w.cps.toList w.length (lns.take j) [] (fun x hx => by simp at hx)
      have et : bld (rowF w.cps.toList w.length) (lns.take (j + 1)) [] = bld (rowF w.cps.toList w.length) (lns.take j) [] ++ [rowF w.cps.toList w.length (bld (rowF w.cps.toList w.length) (lns.take j) []) ln] := by
        rw [List.take_add_one, hc, bld_app] <;> rfl
      rw [et]
      generalize bld (rowF w.cps.toList w.length) (lns.take j) [] = rows at hbl hbr ⊢
      have k5' : keepS (L.length + 2) v5 = v5 := by
        cases v5 with
        | none => rfl
        | some y =>
          cases y with
          | own m =>
            rw [keepS_own] at k5 ⊢
            split at k5
            · rw [if_pos (by omega)]
            · cases k5
          | d y => rfl
          | ro y => rfl
          | ty y => rfl
      obtain ⟨v5', q5, e⟩ := row_loop (.tuple (lns.map Ln.enc)) ln rows w hw hbr (by rw [hbl]; exact hok j ln hc) L v5 k5'
      generalize rowF w.cps.toList w.length rows ln = row at e ⊢
      have hz2 : rows.length < sizeLine := lt_line (by omega)
      refine ⟨_, [some (.d (.tuple (lns.map Ln.enc))), some (.d (.str w)), some (.own L.length), some (.d ln.enc), some (.own (L.length + 1)), v5'], L ++ [.lst (lR (rows ++ [row])), .dead], rfl, .inl ?_, rfl, by simp, some (.d ln.enc), v5', q5, by simp [q5], take1⟩
      unfold k2_l_table
      refine seq_eq (ρ1 := [some (.d (.tuple (lns.map Ln.enc))), some (.d (.str w)), some (.own L.length), some (.d ln.enc), some (.own (L.length + 1)), v5]) (L1 := L ++ [.lst (lR rows), .lst []]) (by simp) ?_
      refine seq_eq (ρ1 := [some (.d (.tuple (lns.map Ln.enc))), some (.d (.str w)), some (.own L.length), some (.d ln.enc), some (.own (L.length + 1)), v5']) (L1 := L ++ [.lst (lR rows), .lst (row.map PyData.bool)]) ?_ ?_
      · rw [sFor_ok (ds := rng 0 ((w.length + 1 : Nat) : Int)) (L1 := L ++ [.lst (lR rows), .lst []]) (g := none) (by simp [hz, hr']) rfl]
        simp only [List.length_append, List.length_cons, List.length_nil, Nat.zero_add, Nat.reduceAdd]
        exact e
      · simp [cAppend_own, movD, own2, own1, set1, set2, hz2])
  rw [List.length_map, List.take_length] at hL
  rw [hρ, hL] at e
  simp [f_l_table, b_l_table, sFor_ap, e, cutR_rt_own, own_last, take_last]
theorem due_eq (lns : List Ln) (hok : ∀ (k : Nat) (ln : Ln), lns[k]? = some ln → ln.ok k) (hl : 1 ≤ lns.length) (cs : List Nat) (m : Nat) : (bld (rowF cs m) lns []).getD (lns.length - 1) [] = trs lns cs (m + 1) := by
  have h := tab_col lns hok cs m (lns.length - 1) (by omega)
  have hb : (bld (rowF cs m) lns []).length = lns.length := by rw [bld_len, List.length_nil, Nat.zero_add]
  have hlen : ((bld (rowF cs m) lns []).getD (lns.length - 1) []).length = m + 1 := by
    have e : (bld (rowF cs m) lns []).getD (lns.length - 1) [] = (bld (rowF cs m) lns [])[lns.length - 1] := by rw [List.getD_eq_getElem?_getD, List.getElem?_eq_getElem (by omega)] <;> rfl
    rw [e]
    exact bld_rows cs m lns [] (fun x hx => by simp at hx) _ (List.getElem_mem _)
  generalize (bld (rowF cs m) lns []).getD (lns.length - 1) [] = D at h hlen
  refine List.ext_getElem (by rw [hlen, trs_len]) fun t h1 h2 => ?_
  have := h t (by omega)
  rw [List.getD_eq_getElem?_getD, List.getElem?_eq_getElem h1] at this
  have e2 : (trs lns cs (m + 1))[t] = (col lns cs t).getD (lns.length - 1) false := by simp [trs]
  rw [e2]
  exact this
theorem at_lastR {rows : List (List Bool)} (h : 1 ≤ rows.length) : atI (lR rows) (-1) = some (lB (rows.getD (rows.length - 1) [])) := by
  unfold atI
  have e : ixN (lR rows).length (-1) = some (rows.length - 1) := by
    unfold ixN
    rw [List.length_map, if_neg (by omega), if_pos (by omega)]
    congr 1
    omega
  rw [e]
  show (lR rows)[rows.length - 1]? = _
  rw [List.getElem?_map, List.getD_eq_getElem?_getD, List.getElem?_eq_getElem (by omega)] <;> rfl
theorem body_eq (lns : List Ln) (hok : ∀ (k : Nat) (ln : Ln), lns[k]? = some ln → ln.ok k) (hlen : 1 ≤ lns.length ∧ lns.length ≤ 1000) (w : Str) (hw : w.length ≤ 1000) (a : List PyData) (x : PyData) (ds : List PyData) (v5 : Option SV) :
    ∃ D : List Bool, k1_p_law [some (.ro a), some (.d x), some (.d (.tuple (lns.map Ln.enc))), some (.own 0), some (.d (.str w)), v5, none, none] [.lst ds] =
      .nx [some (.ro a), some (.d x), some (.d (.tuple (lns.map Ln.enc))), some (.own 0), some (.d (.str w)), some (.d (lB D)), some (.own 1), none] [.lst ds, .lst ((D ++ [true]).map PyData.bool)] := by
  have et := table_eq lns hok hlen.2 w hw [.lst ds]
  have hb : (bld (rowF w.cps.toList w.length) lns []).length = lns.length := by rw [bld_len, List.length_nil, Nat.zero_add]
  have hl := at_lastR (rows := bld (rowF w.cps.toList w.length) lns []) (by omega)
  rw [hb, due_eq lns hok hlen.1] at hl
  generalize bld (rowF w.cps.toList w.length) lns [] = rows at et hl
  have hD := trs_len lns w.cps.toList (w.length + 1)
  have e1 := truths_eq lns hok hlen w (by omega) [.lst ds]
  have e2 := truths_eq lns hok hlen w (by omega) [.lst ds, .lst ((trs lns w.cps.toList (w.length + 1) ++ [true]).map PyData.bool)]
  have e3 := holds_eq lns hok hlen w (by omega) [.lst ds, .lst ((trs lns w.cps.toList (w.length + 1) ++ [true]).map PyData.bool)]
  generalize trs lns w.cps.toList (w.length + 1) = D at hl hD e1 e2 e3
  have nx := nested_lB D (by omega) 6
  have s1 : f_l_same 8 [.own 1, .d (lB D)] [.lst ds, .lst (D.map PyData.bool)] = .ok (.sv (.d (.bool true))) [.lst ds, .lst (D.map PyData.bool)] := same_own 6 _ 1 _ nx rfl
  have s2 : f_l_same 8 [.d (lB D), .d (lB D)] [.lst ds, .lst ((D ++ [true]).map PyData.bool)] = .ok (.sv (.d (.bool true))) [.lst ds, .lst ((D ++ [true]).map PyData.bool)] := same_refl 7 _ nx _
  have s3 : ∀ z : Bool, f_l_same 8 [.d (.bool z), .d (.bool z)] [.lst ds, .lst ((D ++ [true]).map PyData.bool)] = .ok (.sv (.d (.bool true))) [.lst ds, .lst ((D ++ [true]).map PyData.bool)] := fun z => same_refl 7 _ (by rw [nested]) _
  have hd := at_last (f := D) (by omega)
  rw [hD, Nat.add_sub_cancel] at hd
  generalize D.getD w.length false = z at e3 hd
  have hz : D.length < sizeLine := lt_line (by omega)
  simp only [okD_eq] at e3
  refine ⟨D, ?_⟩
  unfold k1_p_law
  refine seq_eq (ρ1 := [some (.ro a), some (.d x), some (.d (.tuple (lns.map Ln.enc))), some (.own 0), some (.d (.str w)), some (.d (lB D)), none, none]) (L1 := [.lst ds]) (by simp [et, hl]) ?_
  refine seq_eq (ρ1 := [some (.ro a), some (.d x), some (.d (.tuple (lns.map Ln.enc))), some (.own 0), some (.d (.str w)), some (.d (lB D)), some (.own 1), none]) (L1 := [.lst ds, .lst (D.map PyData.bool)]) (by simp [e1]) ?_
  refine seq_eq (ρ1 := [some (.ro a), some (.d x), some (.d (.tuple (lns.map Ln.enc))), some (.own 0), some (.d (.str w)), some (.d (lB D)), some (.own 1), none]) (L1 := [.lst ds, .lst (D.map PyData.bool)]) (by simp [s1]) ?_
  refine seq_eq (ρ1 := [some (.ro a), some (.d x), some (.d (.tuple (lns.map Ln.enc))), some (.own 0), some (.d (.str w)), some (.d (lB D)), some (.own 1), none]) (L1 := [.lst ds, .lst ((D ++ [true]).map PyData.bool)]) (by simp [hz]) ?_
  generalize (D ++ [true]).map PyData.bool = es at e2 e3 s2 s3 ⊢
  simp [e2, e3, hd, s2, s3]
theorem law_loop (lns : List Ln) (hok : ∀ (k : Nat) (ln : Ln), lns[k]? = some ln → ln.ok k) (hlen : 1 ≤ lns.length ∧ lns.length ≤ 1000) (ws : List Str) (hw : ∀ w ∈ ws, w.length ≤ 1000) (a : List PyData) (x : PyData) :
    ∃ ρ' : Rho, forL (.nm 4) k1_p_law 1 (some (0, ws.map PyData.str)) (ws.map PyData.str) [some (.ro a), some (.d x), some (.d (.tuple (lns.map Ln.enc))), some (.own 0), none, none, none, none] [.lst (ws.map PyData.str)] = .nx ρ' [.lst (ws.map PyData.str)] := by
  obtain ⟨ρ', L', e, v4, v5, hρ, _, hL⟩ := forL_run (t := .nm 4) (body := k1_p_law) (n := 1) (g := some (0, ws.map PyData.str))
    (ρ := [some (.ro a), some (.d x), some (.d (.tuple (lns.map Ln.enc))), some (.own 0), none, none, none, none]) (L := [.lst (ws.map PyData.str)]) (ds := ws.map PyData.str)
    (fun j ρ L' => ∃ v4 v5 : Option SV, ρ = [some (.ro a), some (.d x), some (.d (.tuple (lns.map Ln.enc))), some (.own 0), v4, v5, none, none] ∧ keepS 1 v5 = v5 ∧ L' = [.lst (ws.map PyData.str)])
    ⟨none, none, rfl, rfl, rfl⟩ (by
      rintro j d ρ L' hd ⟨v4, v5, rfl, k5, rfl⟩
      rw [List.getElem?_map] at hd
      obtain ⟨w, hc, rfl⟩ := Option.map_eq_some_iff.mp hd
      obtain ⟨D, e⟩ := body_eq lns hok hlen w (hw w (List.mem_of_getElem? hc)) a x (ws.map PyData.str) v5
      exact ⟨_, _, _, rfl, .inl e, guardOk_some.mpr rfl, by simp, some (.d (.str w)), some (.d (lB D)), by simp, rfl, rfl⟩)
  exact ⟨ρ', by rw [e, hL]⟩
theorem ab_len : ((("ab" : String) : Str)).length = 2 := by decide +kernel
theorem c_len : ((("c" : String) : Str)).length = 1 := by decide +kernel
theorem cut_len (z : Str) (j : Int) : (cutS z none (some j)).length ≤ z.length := by
  show (cutS z none (some j)).cps.size ≤ z.cps.size
  rw [← Array.length_toList (xs := z.cps)]
  show (((z.cps.toList.drop _).take _).toArray).size ≤ _
  rw [List.size_toArray, List.length_take, List.length_drop]
  omega
theorem law_eq (ns : List Int) (hns : ns.length ≤ 63) : f_p_law [.ro (ns.map PyData.int)] [] = okD (.bool true) [] := by
  have e0 := cell_eq ns 0 (by omega) []
  have ec : ∀ (k : Nat) (L : Sto), ∃ c : Int, f_l_cell [.ro (ns.map PyData.int), .d (.int (25 + (k : Int)))] L = okD (.int c) L := fun k L => ⟨_, cell_eq ns (25 + (k : Int)) (by omega) L⟩
  simp only [okD_eq] at e0 ec
  generalize ns.getD (0 : Int).toNat 0 = c0 at e0
  have hx := nums_len c0 4
  have en : f_l_numbers [.d (.int c0), .d (.int 4)] [] = .ok (.new (.lst ((nums c0 4).map PyData.int))) [] := numbers_eq c0 4 (by omega) []
  generalize nums c0 4 = xs at hx en
  obtain ⟨a0, g0, _, _⟩ := atI_ex (xs := xs) (i := 0) (by omega) (by omega)
  have m24 : ∀ i, opModC i 24 := fun _ => by show (0 : Int) < 24; omega
  have hn : ∃ n : Nat, 1 + a0 % 24 = (n : Int) ∧ 1 ≤ n ∧ n ≤ 24 := ⟨(1 + a0 % 24).toNat, by omega, by omega, by omega⟩
  obtain ⟨n, em, hn⟩ := hn
  obtain ⟨lns, eln, hll, hok⟩ := linesG ns n (by omega) []
  simp only [okD_eq] at eln
  generalize ns.map PyData.int = a at e0 ec eln ⊢
  have h3 : okR (3 : Int) := okR_of (by omega) (by omega)
  obtain ⟨ws, ew, hwl, hwm⟩ := mComp_all (f := PyData.str) (P := Wd 4 12) (t := .nm 7) (vs := [7]) (elt := mCall f_l_word [(bind2 (mCall f_l_cell [(mV 0), (bind2 (mC (.d (.int 25))) (mV 7) opAdd)]) (mV 7) opAdd), (mC (.d (.int 4)))]) (it := iRange1 [(mC (.d (.int 3)))])
    (ρ := [some (.ro a), some (.d (lI xs)), some (.d (.tuple (lns.map Ln.enc))), none, none, none, none, none]) (L := []) (ds := rng 0 ((3 : Nat) : Int)) (L1 := []) (by simp [h3]) (by simp [Tg.sl]) (le_line (by rw [rng0_len]; omega)) fun d hd L2 => by
      rw [rng0] at hd
      obtain ⟨k, hk, rfl⟩ := List.mem_map.mp hd
      obtain ⟨c, ec⟩ := ec k L2
      obtain ⟨w, ew, hw⟩ := word_eq (c + (k : Int)) 4 (by omega) L2
      have ew : f_l_word [.d (.int (c + (k : Int))), .d (.int 4)] L2 = .ok (.sv (.d (.str w))) L2 := ew
      refine ⟨_, rfl, .sv (.d (.str w)), w, ?_, rfl, hw⟩
      simp [wipeR, ec, ew]
  rw [rng0_len] at hwl
  have at_ : ∀ k : Nat, k < 3 → ∃ w : Str, atI (ws.map PyData.str) (k : Int) = some (.str w) ∧ Wd 4 12 w := fun k hk =>
    ⟨ws[k], atI_getN _ _ _ (by rw [List.getElem?_map, List.getElem?_eq_getElem (by omega)] <;> rfl), hwm _ (List.getElem_mem _)⟩
  obtain ⟨w0, q0, p0, _⟩ := at_ 0 (by omega)
  obtain ⟨w1, q1, p1, _⟩ := at_ 1 (by omega)
  have q0 : atI (ws.map PyData.str) 0 = some (.str w0) := q0
  have q1 : atI (ws.map PyData.str) 1 = some (.str w1) := q1
  have l1 : (w0 ++ "ab").length ≤ 14 := by rw [str_len, ab_len]; omega
  have l2 : (w0 ++ "ab" ++ w1).length ≤ 26 := by rw [str_len]; omega
  have l3 : (w0 ++ "ab" ++ w1 ++ "c").length ≤ 27 := by rw [str_len, c_len]; omega
  have l4 : 0 < (w0 ++ "ab" ++ w1 ++ "c").length := by rw [str_len, c_len]; omega
  have z1 : w0.length + (("ab" : String) : Str).length ≤ sizeLine := le_line (by rw [← str_len]; omega)
  have z2 : (w0 ++ "ab").length + w1.length ≤ sizeLine := le_line (by rw [← str_len]; omega)
  have z3 : (w0 ++ "ab" ++ w1).length + (("c" : String) : Str).length ≤ sizeLine := le_line (by rw [← str_len]; omega)
  have z4 : repSC (w0 ++ "ab" ++ w1 ++ "c") 34 := ⟨by omega, by omega, l4, by show _ * 34 ≤ _; omega⟩
  have l5 : (repS (w0 ++ "ab" ++ w1 ++ "c") 34).length ≤ 918 := by rw [repS_len]; omega
  have z5 : (repS (w0 ++ "ab" ++ w1 ++ "c") 34).length ≤ sizeLine := le_line (by omega)
  have hz : ws.length < sizeLine := lt_line (by omega)
  have ex : mSl (bind2 (bind2 (bind2 (bind2 (bind2 (mV 3) (mC (.d (.int 0))) opIx) (mC (.d (.str "ab"))) opAdd) (bind2 (mV 3) (mC (.d (.int 1))) opIx) opAdd) (mC (.d (.str "c"))) opAdd) (mC (.d (.int 34))) opMulX) oNone (oSome (mC (.d (.int 100))))
      [some (.ro a), some (.d (lI xs)), some (.d (.tuple (lns.map Ln.enc))), some (.own 0), none, none, none, none] [.lst (ws.map PyData.str)] = okD (.str (cutS (repS (w0 ++ "ab" ++ w1 ++ "c") 34) none (some 100))) [.lst (ws.map PyData.str)] := by
    have ho : opSl (.d (.str (repS (w0 ++ "ab" ++ w1 ++ "c") 34))) none (some 100) [.lst (ws.map PyData.str)] = .ok (.sv (.d (.str (cutS (repS (w0 ++ "ab" ++ w1 ++ "c") 34) none (some 100))))) [.lst (ws.map PyData.str)] := if_pos z5
    simp [opIx_own, q0, q1, z1, z2, z3, z4, ho]
  have l6 := cut_len (repS (w0 ++ "ab" ++ w1 ++ "c") 34) 100
  generalize hr : cutS (repS (w0 ++ "ab" ++ w1 ++ "c") 34) none (some 100) = r at ex l6
  obtain ⟨ρ', el⟩ := law_loop lns hok (by omega) (ws ++ [r]) (fun w hw => by
    rcases List.mem_append.mp hw with h | h
    · have := (hwm w h).1; omega
    · rw [List.mem_singleton.mp h]; omega) a (lI xs)
  simp only [okD_eq] at ex
  unfold f_p_law
  refine fn_eq rfl (r := .rt (.sv (.d (.bool true))) [.lst ((ws ++ [r]).map PyData.str)]) ?_ (by simp)
  unfold b_p_law
  refine seq_eq (ρ1 := [some (.ro a), some (.d (lI xs)), none, none, none, none, none, none]) (L1 := []) (by simp [e0, en]) ?_
  refine seq_eq (ρ1 := [some (.ro a), some (.d (lI xs)), some (.d (.tuple (lns.map Ln.enc))), none, none, none, none, none]) (L1 := []) (by simp [g0, m24, em, eln]) ?_
  refine seq_eq (ρ1 := [some (.ro a), some (.d (lI xs)), some (.d (.tuple (lns.map Ln.enc))), some (.own 0), none, none, none, none]) (L1 := [.lst (ws.map PyData.str)]) (by rw [sOwn_ap, ew]; simp) ?_
  refine seq_eq (ρ1 := [some (.ro a), some (.d (lI xs)), some (.d (.tuple (lns.map Ln.enc))), some (.own 0), none, none, none, none]) (L1 := [.lst ((ws ++ [r]).map PyData.str)]) (by rw [sDrop_ap, mMeth_ap]; simp [-mSl_ap, ex, hz]) ?_
  refine seq_eq (ρ1 := ρ') (L1 := [.lst ((ws ++ [r]).map PyData.str)]) ?_ (by simp)
  rw [sFor_ok (ds := (ws ++ [r]).map PyData.str) (L1 := [.lst ((ws ++ [r]).map PyData.str)]) (g := some (0, (ws ++ [r]).map PyData.str)) (by simp) (guardOk_some.mpr rfl)]
  exact el
end LW
namespace LW
open PySem L2 PD
section
theorem all_mk {l : PySem.W.OpenLaw} {w : World} {K : PySem.W.Frag} {h : Heap} {mg : Str → Option Value} {fa f0 f1 f2 f3 f4 f5 f6 f7 f8 f9 f10 f11 f12 f13 : Addr} (X : K.In h) (G : h.Ns mainGlobals mg) (hfa : mg "law" = some (.ref fa))
    {od0 an0 od1 an1 od2 an2 od3 an3 od4 an4 od5 an5 od6 an6 od7 an7 od8 an8 od9 an9 od10 an10 od11 an11 od12 an12 od13 an13 : Option Addr} {sl0 sl1 sl2 sl3 sl4 sl5 sl6 sl7 sl8 sl9 sl10 sl11 sl12 sl13 : Array (Option Value)} {oc0 kV0 dc0 pm0 cd0 ct0 oc1 kV1 dc1 pm1 cd1 ct1 oc2 kV2 dc2 pm2 cd2 ct2 oc3 kV3 dc3 pm3 cd3 ct3 oc4 kV4 dc4 pm4 cd4 ct4 oc5 kV5 dc5 pm5 cd5 ct5 oc6 kV6 dc6 pm6 cd6 ct6 oc7 kV7 dc7 pm7 cd7 ct7 oc8 kV8 dc8 pm8 cd8 ct8 oc9 kV9 dc9 pm9 cd9 ct9 oc10 kV10 dc10 pm10 cd10 ct10 oc11 kV11 dc11 pm11 cd11 ct11 oc12 kV12 dc12 pm12 cd12 ct12 oc13 kV13 dc13 pm13 cd13 ct13 : Value}
    (a0 : PySem.W.nsIn K mainGlobals "remembered" = some (some (.ref f0))) (l0 : K.lookup f0 = some ⟨oc0, od0, .func (PySem.W.fnOf "remembered" "remembered" (defArgs s_p_remembered) (defBody s_p_remembered) (defScope s_p_remembered) .none kV0 dc0 pm0 an0 cd0 ct0), sl0⟩) (c0 : PySem.W.codeIn K cd0 "remembered" = true) (k0 : PySem.W.keepIn K (.ref f0) = true)
    (a1 : PySem.W.nsIn K mainGlobals "moment" = some (some (.ref f1))) (l1 : K.lookup f1 = some ⟨oc1, od1, .func (PySem.W.fnOf "moment" "moment" (defArgs s_p_moment) (defBody s_p_moment) (defScope s_p_moment) .none kV1 dc1 pm1 an1 cd1 ct1), sl1⟩) (c1 : PySem.W.codeIn K cd1 "moment" = true) (k1 : PySem.W.keepIn K (.ref f1) = true)
    (a2 : PySem.W.nsIn K mainGlobals "truths" = some (some (.ref f2))) (l2 : K.lookup f2 = some ⟨oc2, od2, .func (PySem.W.fnOf "truths" "truths" (defArgs s_p_truths) (defBody s_p_truths) (defScope s_p_truths) .none kV2 dc2 pm2 an2 cd2 ct2), sl2⟩) (c2 : PySem.W.codeIn K cd2 "truths" = true) (k2 : PySem.W.keepIn K (.ref f2) = true)
    (a3 : PySem.W.nsIn K mainGlobals "holds" = some (some (.ref f3))) (l3 : K.lookup f3 = some ⟨oc3, od3, .func (PySem.W.fnOf "holds" "holds" (defArgs s_p_holds) (defBody s_p_holds) (defScope s_p_holds) .none kV3 dc3 pm3 an3 cd3 ct3), sl3⟩) (c3 : PySem.W.codeIn K cd3 "holds" = true) (k3 : PySem.W.keepIn K (.ref f3) = true)
    (a4 : PySem.W.nsIn K mainGlobals "_law_cell" = some (some (.ref f4))) (l4 : K.lookup f4 = some ⟨oc4, od4, .func (PySem.W.fnOf "_law_cell" "_law_cell" (defArgs s_l_cell) (defBody s_l_cell) (defScope s_l_cell) .none kV4 dc4 pm4 an4 cd4 ct4), sl4⟩) (c4 : PySem.W.codeIn K cd4 "_law_cell" = true) (k4 : PySem.W.keepIn K (.ref f4) = true)
    (a5 : PySem.W.nsIn K mainGlobals "_law_numbers" = some (some (.ref f5))) (l5 : K.lookup f5 = some ⟨oc5, od5, .func (PySem.W.fnOf "_law_numbers" "_law_numbers" (defArgs s_l_numbers) (defBody s_l_numbers) (defScope s_l_numbers) .none kV5 dc5 pm5 an5 cd5 ct5), sl5⟩) (c5 : PySem.W.codeIn K cd5 "_law_numbers" = true) (k5 : PySem.W.keepIn K (.ref f5) = true)
    (a6 : PySem.W.nsIn K mainGlobals "_law_same" = some (some (.ref f6))) (l6 : K.lookup f6 = some ⟨oc6, od6, .func (PySem.W.fnOf "_law_same" "_law_same" (defArgs s_l_same) (defBody s_l_same) (defScope s_l_same) .none kV6 dc6 pm6 an6 cd6 ct6), sl6⟩) (c6 : PySem.W.codeIn K cd6 "_law_same" = true) (k6 : PySem.W.keepIn K (.ref f6) = true)
    (a7 : PySem.W.nsIn K mainGlobals "_law_words" = some (some (.ref f7))) (l7 : K.lookup f7 = some ⟨oc7, od7, .func (PySem.W.fnOf "_law_words" "_law_words" (defArgs s_l_words) (defBody s_l_words) (defScope s_l_words) .none kV7 dc7 pm7 an7 cd7 ct7), sl7⟩) (c7 : PySem.W.codeIn K cd7 "_law_words" = true) (k7 : PySem.W.keepIn K (.ref f7) = true)
    (a8 : PySem.W.nsIn K mainGlobals "_law_word" = some (some (.ref f8))) (l8 : K.lookup f8 = some ⟨oc8, od8, .func (PySem.W.fnOf "_law_word" "_law_word" (defArgs s_l_word) (defBody s_l_word) (defScope s_l_word) .none kV8 dc8 pm8 an8 cd8 ct8), sl8⟩) (c8 : PySem.W.codeIn K cd8 "_law_word" = true) (k8 : PySem.W.keepIn K (.ref f8) = true)
    (a9 : PySem.W.nsIn K mainGlobals "_law_line" = some (some (.ref f9))) (l9 : K.lookup f9 = some ⟨oc9, od9, .func (PySem.W.fnOf "_law_line" "_law_line" (defArgs s_l_line) (defBody s_l_line) (defScope s_l_line) .none kV9 dc9 pm9 an9 cd9 ct9), sl9⟩) (c9 : PySem.W.codeIn K cd9 "_law_line" = true) (k9 : PySem.W.keepIn K (.ref f9) = true)
    (a10 : PySem.W.nsIn K mainGlobals "_law_lines" = some (some (.ref f10))) (l10 : K.lookup f10 = some ⟨oc10, od10, .func (PySem.W.fnOf "_law_lines" "_law_lines" (defArgs s_l_lines) (defBody s_l_lines) (defScope s_l_lines) .none kV10 dc10 pm10 an10 cd10 ct10), sl10⟩) (c10 : PySem.W.codeIn K cd10 "_law_lines" = true) (k10 : PySem.W.keepIn K (.ref f10) = true)
    (a11 : PySem.W.nsIn K mainGlobals "_law_truth" = some (some (.ref f11))) (l11 : K.lookup f11 = some ⟨oc11, od11, .func (PySem.W.fnOf "_law_truth" "_law_truth" (defArgs s_l_truth) (defBody s_l_truth) (defScope s_l_truth) .none kV11 dc11 pm11 an11 cd11 ct11), sl11⟩) (c11 : PySem.W.codeIn K cd11 "_law_truth" = true) (k11 : PySem.W.keepIn K (.ref f11) = true)
    (a12 : PySem.W.nsIn K mainGlobals "_law_table" = some (some (.ref f12))) (l12 : K.lookup f12 = some ⟨oc12, od12, .func (PySem.W.fnOf "_law_table" "_law_table" (defArgs s_l_table) (defBody s_l_table) (defScope s_l_table) .none kV12 dc12 pm12 an12 cd12 ct12), sl12⟩) (c12 : PySem.W.codeIn K cd12 "_law_table" = true) (k12 : PySem.W.keepIn K (.ref f12) = true)
    (a13 : PySem.W.nsIn K mainGlobals "law" = some (some (.ref f13))) (l13 : K.lookup f13 = some ⟨oc13, od13, .func (PySem.W.fnOf "law" "law" (defArgs s_p_law) (defBody s_p_law) (defScope s_p_law) .none kV13 dc13 pm13 an13 cd13 ct13), sl13⟩) (c13 : PySem.W.codeIn K cd13 "law" = true) (k13 : PySem.W.keepIn K (.ref f13) = true)
    (Z_len : PySem.W.nsIn K mainGlobals "len" = some none)
    (Z_range : PySem.W.nsIn K mainGlobals "range" = some none)
    (Z_int : PySem.W.nsIn K mainGlobals "int" = some none)
    (Z_isinstance : PySem.W.nsIn K mainGlobals "isinstance" = some none)
    (Z_list : PySem.W.nsIn K mainGlobals "list" = some none)
    (Z_tuple : PySem.W.nsIn K mainGlobals "tuple" = some none)
    (Z_bool : PySem.W.nsIn K mainGlobals "bool" = some none)
    (Z_str : PySem.W.nsIn K mainGlobals "str" = some none)
    (Z_min : PySem.W.nsIn K mainGlobals "min" = some none)
    : ∃ fd : FuncData, (∀ (s : Shared) (v : Value), BindsTo s fd ⟨[v], []⟩ [("_law_script", v)]) ∧ ∀ base : Heap, K.In base → base.Ns mainGlobals mg → FnOk l.prog w K mg base (L2.CX l.prog w) 10 fa fd ["_law_script"] (spOf ⟨K, mg⟩ f_p_law) := by
  have e := hfa.symm.trans (PySem.W.mg_of X G a13)
  cases e
  have z_len := PySem.W.mg_none_of X G Z_len
  have z_range := PySem.W.mg_none_of X G Z_range
  have z_int := PySem.W.mg_none_of X G Z_int
  have z_isinstance := PySem.W.mg_none_of X G Z_isinstance
  have z_list := PySem.W.mg_none_of X G Z_list
  have z_tuple := PySem.W.mg_none_of X G Z_tuple
  have z_bool := PySem.W.mg_none_of X G Z_bool
  have z_str := PySem.W.mg_none_of X G Z_str
  have z_min := PySem.W.mg_none_of X G Z_min
  have F0 := fun_mk (st := s_p_remembered) l0 c0 k0
  have b0 := F0.binds (ps := ["line", "before", "number"]) fun _ _ _ _ _ _ us hl => match us, hl with | [_, _, _], _ => rfl
  have F1 := fun_mk (st := s_p_moment) l1 c1 k1
  have b1 := F1.binds (ps := ["lines", "letter", "before"]) fun _ _ _ _ _ _ us hl => match us, hl with | [_, _, _], _ => rfl
  have F2 := fun_mk (st := s_p_truths) l2 c2 k2
  have b2 := F2.binds (ps := ["lines", "word"]) fun _ _ _ _ _ _ us hl => match us, hl with | [_, _], _ => rfl
  have F3 := fun_mk (st := s_p_holds) l3 c3 k3
  have b3 := F3.binds (ps := ["lines", "word"]) fun _ _ _ _ _ _ us hl => match us, hl with | [_, _], _ => rfl
  have F4 := fun_mk (st := s_l_cell) l4 c4 k4
  have b4 := F4.binds (ps := ["_law_script", "_law_k"]) fun _ _ _ _ _ _ us hl => match us, hl with | [_, _], _ => rfl
  have F5 := fun_mk (st := s_l_numbers) l5 c5 k5
  have b5 := F5.binds (ps := ["_law_cell_here", "_law_count"]) fun _ _ _ _ _ _ us hl => match us, hl with | [_, _], _ => rfl
  have F6 := fun_mk (st := s_l_same) l6 c6 k6
  have b6 := F6.binds (ps := ["_law_actual", "_law_due"]) fun _ _ _ _ _ _ us hl => match us, hl with | [_, _], _ => rfl
  have F7 := fun_mk (st := s_l_words) l7 c7 k7
  have b7 := F7.binds (ps := ["_law_letters", "_law_length"]) fun _ _ _ _ _ _ us hl => match us, hl with | [_, _], _ => rfl
  have F8 := fun_mk (st := s_l_word) l8 c8 k8
  have b8 := F8.binds (ps := ["_law_cell_here", "_law_letters"]) fun _ _ _ _ _ _ us hl => match us, hl with | [_, _], _ => rfl
  have F9 := fun_mk (st := s_l_line) l9 c9 k9
  have b9 := F9.binds (ps := ["_law_numbers_here", "_law_count"]) fun _ _ _ _ _ _ us hl => match us, hl with | [_, _], _ => rfl
  have F10 := fun_mk (st := s_l_lines) l10 c10 k10
  have b10 := F10.binds (ps := ["_law_script", "_law_first", "_law_size"]) fun _ _ _ _ _ _ us hl => match us, hl with | [_, _, _], _ => rfl
  have F11 := fun_mk (st := s_l_truth) l11 c11 k11
  have b11 := F11.binds (ps := ["_law_line_here", "_law_rows", "_law_word_here", "_law_moment"]) fun _ _ _ _ _ _ us hl => match us, hl with | [_, _, _, _], _ => rfl
  have F12 := fun_mk (st := s_l_table) l12 c12 k12
  have b12 := F12.binds (ps := ["_law_lines_here", "_law_word_here"]) fun _ _ _ _ _ _ us hl => match us, hl with | [_, _], _ => rfl
  have F13 := fun_mk (st := s_p_law) l13 c13 k13
  refine ⟨PySem.W.fnOf "law" "law" (defArgs s_p_law) (defBody s_p_law) (defScope s_p_law) .none kV13 dc13 pm13 an13 cd13 ct13, fun s v => .of_eq rfl, fun base _ _ => ?_⟩
  have D_p_remembered := ok_p_remembered (P := l.prog) (w := w) (base := base) F0 (PySem.W.mg_of X G a0) b0
  have D_p_moment := ok_p_moment (P := l.prog) (w := w) (base := base) F1 (PySem.W.mg_of X G a1) b1 z_len D_p_remembered
  have D_p_truths := ok_p_truths (P := l.prog) (w := w) (base := base) F2 (PySem.W.mg_of X G a2) b2 D_p_moment
  have D_p_holds := ok_p_holds (P := l.prog) (w := w) (base := base) F3 (PySem.W.mg_of X G a3) b3 D_p_truths
  have D_l_cell := ok_l_cell (P := l.prog) (w := w) (base := base) F4 (PySem.W.mg_of X G a4) b4 z_len
  have D_l_numbers := ok_l_numbers (P := l.prog) (w := w) (base := base) F5 (PySem.W.mg_of X G a5) b5 z_range z_int
  have D_l_same := ok_l_same (P := l.prog) (w := w) (base := base) F6 (PySem.W.mg_of X G a6) b6 z_isinstance z_list z_tuple z_len z_range z_bool z_int z_str 8
  have D_l_words := ok_l_words (P := l.prog) (w := w) (base := base) F7 (PySem.W.mg_of X G a7) b7 z_range
  have D_l_word := ok_l_word (P := l.prog) (w := w) (base := base) F8 (PySem.W.mg_of X G a8) b8 D_l_numbers
  have D_l_line := ok_l_line (P := l.prog) (w := w) (base := base) F9 (PySem.W.mg_of X G a9) b9 z_min
  have D_l_lines := ok_l_lines (P := l.prog) (w := w) (base := base) F10 (PySem.W.mg_of X G a10) b10 z_range D_l_cell D_l_numbers z_len D_l_line z_tuple
  have D_l_truth := ok_l_truth (P := l.prog) (w := w) (base := base) F11 (PySem.W.mg_of X G a11) b11 z_range
  have D_l_table := ok_l_table (P := l.prog) (w := w) (base := base) F12 (PySem.W.mg_of X G a12) b12 z_range z_len D_l_truth
  exact ok_law F13 D_l_cell D_l_numbers D_l_lines z_range D_l_word D_l_table D_p_truths D_l_same D_p_holds
end
theorem walk {l : PySem.W.OpenLaw} {q : Program} {loose : List Str} {XP : (Str → Option Value) → Heap → Prop} {YP : World → Heap → Prop} {d : DefRec} {K : Params → PySem.W.Frag} (hn : l.most = some 63) (hdf : d.params.defaults = [])
    (hY : ∀ (w : World) (h : Heap), YP w h → (K w.params).In h)
    (F : ∀ (w : World) (mg : Str → Option Value) (fa : Addr) (h : Heap), (K w.params).In h → h.Ns mainGlobals mg → mg d.name = some (.ref fa) →
      ∃ fd : FuncData, (∀ (s : Shared) (u : Value), BindsTo s fd ⟨[u], []⟩ [("_law_script", u)]) ∧ ∀ base : Heap, (K w.params).In base → base.Ns mainGlobals mg → FnOk l.prog w (K w.params) mg base (L2.CX l.prog w) 10 fa fd ["_law_script"] (spOf ⟨K w.params, mg⟩ f_p_law)) :
    PySem.W.WalkO q loose XP YP l.row.toRowW d [] (fun f vs => PySem.call f vs) :=
  walk_end hn hdf ⟨rfl, by decide, by decide⟩ hY law_eq F
end LW
open PySem PySem.W PyProof.Rows
set_option maxRecDepth 100000 in
set_option maxHeartbeats 0 in
theorem PySem.Challenge.cw_turnsandthrows_k55_truths_holds : PySem.Challenge.rw_turnsandthrows_k55_truths.Holds := by
  w_on; o_law; k_head; (case hw => w_witness2)
  k_fill
  refine LW.walk (l := PySem.Challenge.rw_turnsandthrows_k55_truths) rfl rfl (fun w h Y => PySem.W.kIn_of Y) ?F
  case F =>
    intro w mg fa h KX G hmg
    refine' LW.all_mk KX G hmg ?a0 ?l0 ?c0 ?k0 ?a1 ?l1 ?c1 ?k1 ?a2 ?l2 ?c2 ?k2 ?a3 ?l3 ?c3 ?k3 ?a4 ?l4 ?c4 ?k4 ?a5 ?l5 ?c5 ?k5 ?a6 ?l6 ?c6 ?k6 ?a7 ?l7 ?c7 ?k7 ?a8 ?l8 ?c8 ?k8 ?a9 ?l9 ?c9 ?k9 ?a10 ?l10 ?c10 ?k10 ?a11 ?l11 ?c11 ?k11 ?a12 ?l12 ?c12 ?k12 ?a13 ?l13 ?c13 ?k13 ?Z_len ?Z_range ?Z_int ?Z_isinstance ?Z_list ?Z_tuple ?Z_bool ?Z_str ?Z_min
    (case a0 => k_is)
    (case l0 => k_is)
    (case c0 => k_is)
    (case k0 => k_is)
    (case a1 => k_is)
    (case l1 => k_is)
    (case c1 => k_is)
    (case k1 => k_is)
    (case a2 => k_is)
    (case l2 => k_is)
    (case c2 => k_is)
    (case k2 => k_is)
    (case a3 => k_is)
    (case l3 => k_is)
    (case c3 => k_is)
    (case k3 => k_is)
    (case a4 => k_is)
    (case l4 => k_is)
    (case c4 => k_is)
    (case k4 => k_is)
    (case a5 => k_is)
    (case l5 => k_is)
    (case c5 => k_is)
    (case k5 => k_is)
    (case a6 => k_is)
    (case l6 => k_is)
    (case c6 => k_is)
    (case k6 => k_is)
    (case a7 => k_is)
    (case l7 => k_is)
    (case c7 => k_is)
    (case k7 => k_is)
    (case a8 => k_is)
    (case l8 => k_is)
    (case c8 => k_is)
    (case k8 => k_is)
    (case a9 => k_is)
    (case l9 => k_is)
    (case c9 => k_is)
    (case k9 => k_is)
    (case a10 => k_is)
    (case l10 => k_is)
    (case c10 => k_is)
    (case k10 => k_is)
    (case a11 => k_is)
    (case l11 => k_is)
    (case c11 => k_is)
    (case k11 => k_is)
    (case a12 => k_is)
    (case l12 => k_is)
    (case c12 => k_is)
    (case k12 => k_is)
    (case a13 => k_is)
    (case l13 => k_is)
    (case c13 => k_is)
    (case k13 => k_is)
    (case Z_len => k_is)
    (case Z_range => k_is)
    (case Z_int => k_is)
    (case Z_isinstance => k_is)
    (case Z_list => k_is)
    (case Z_tuple => k_is)
    (case Z_bool => k_is)
    (case Z_str => k_is)
    (case Z_min => k_is)
