import PyProof.Rows.All
import Wide.All
import OpenK.AllK
import Wide.FinOn
import HandS.ForMost
import HandS.Evl
import HandS.Steps
import HandS.Style
import HandS.IsInst
import HandS.Strs
import HandS.SortInts
import HandS.Conv
import HandS.Wide
import HandS.Walk
import HandS.SetFor
import HandS.Zip
import KE.DatumOrd
import PySem.Challenge.RW_fallrow_k06_answers_by_hand
set_option Elab.async false
set_option linter.all false
set_option maxRecDepth 100000
set_option maxHeartbeats 8000000
/-! Values as data: what a slot holds is told as a tree of data, the heap stays behind. -/
namespace FR
open PySem L2 Evl

/-! ### data -/
inductive Da where
  | non | bl (b : Bool) | int (i : Int) | str (s : Str) | ty (n : String) | cls (C : Addr)
  | lst (ds : List Da) | sq (ds : List Da) | tup (ds : List Da) | obj (C : Addr) (ns : List Str) (ds : List Da)

mutual
def Rp (K : PySem.W.Frag) (B : Hp) : Da → V → Prop
  | .non, v => v = .non
  | .bl b, v => v = .bl b
  | .int i, v => v = .int i
  | .str s, v => v = .str s
  | .ty n, v => v = .ty n
  | .cls C, v => v = .ref C
  | .lst ds, v => ∃ a xs, v = .ref a ∧ B a = some (.lst xs) ∧ RpAll K B ds xs
  | .sq ds, v => ∃ a xs, v = .ref a ∧ SqL K B a xs ∧ RpAll K B ds xs
  | .tup ds, v => ∃ a xs, v = .ref a ∧ B a = some (.tup xs) ∧ RpAll K B ds xs
  | .obj C ns ds, v => ∃ a dx xs, v = .ref a ∧ B a = some (.ins C dx (ns.zip xs)) ∧ xs.length = ns.length ∧ RpAll K B ds xs
def RpAll (K : PySem.W.Frag) (B : Hp) : List Da → List V → Prop
  | [], vs => vs = []
  | d :: ds, vs => ∃ v r, vs = v :: r ∧ Rp K B d v ∧ RpAll K B ds r
end
section
variable {K : PySem.W.Frag} {B B' H H' H1 H2 : Hp}
mutual
theorem Rp.mono (e : Ex B B') : ∀ (d : Da) (v : V), Rp K B d v → Rp K B' d v
  | .non, v, h => by simpa only [Rp] using h
  | .bl b, v, h => by simpa only [Rp] using h
  | .int i, v, h => by simpa only [Rp] using h
  | .str s, v, h => by simpa only [Rp] using h
  | .ty n, v, h => by simpa only [Rp] using h
  | .cls C, v, h => by simpa only [Rp] using h
  | .lst ds, v, h => by
    simp only [Rp] at h ⊢
    obtain ⟨a, xs, h1, h2, h3⟩ := h
    exact ⟨a, xs, h1, e _ _ h2, RpAll.mono e ds xs h3⟩
  | .sq ds, v, h => by
    simp only [Rp] at h ⊢
    obtain ⟨a, xs, h1, h2, h3⟩ := h
    exact ⟨a, xs, h1, ex_l e h2, RpAll.mono e ds xs h3⟩
  | .tup ds, v, h => by
    simp only [Rp] at h ⊢
    obtain ⟨a, xs, h1, h2, h3⟩ := h
    exact ⟨a, xs, h1, e _ _ h2, RpAll.mono e ds xs h3⟩
  | .obj C ns ds, v, h => by
    simp only [Rp] at h ⊢
    obtain ⟨a, dx, xs, h1, h2, h3, h4⟩ := h
    exact ⟨a, dx, xs, h1, e _ _ h2, h3, RpAll.mono e ds xs h4⟩
theorem RpAll.mono (e : Ex B B') : ∀ (ds : List Da) (vs : List V), RpAll K B ds vs → RpAll K B' ds vs
  | [], vs, h => by simpa only [RpAll] using h
  | d :: ds, vs, h => by
    simp only [RpAll] at h ⊢
    obtain ⟨v, r, h1, h2, h3⟩ := h
    exact ⟨v, r, h1, Rp.mono e d v h2, RpAll.mono e ds r h3⟩
end
theorem RpAll.nil : RpAll K B [] [] := by simp only [RpAll]
theorem RpAll.cons {d : Da} {v : V} {ds : List Da} {vs : List V} (h : Rp K B d v) (t : RpAll K B ds vs) : RpAll K B (d :: ds) (v :: vs) := by
  simp only [RpAll]
  exact ⟨v, vs, rfl, h, t⟩
theorem RpAll.uncons {d : Da} {ds : List Da} {vs : List V} (h : RpAll K B (d :: ds) vs) : ∃ v r, vs = v :: r ∧ Rp K B d v ∧ RpAll K B ds r := by
  simpa only [RpAll] using h
theorem RpAll.len : ∀ {ds : List Da} {vs : List V}, RpAll K B ds vs → vs.length = ds.length
  | [], vs, h => by
    have e : vs = [] := by simpa only [RpAll] using h
    rw [e]
    rfl
  | d :: ds, vs, h => by
    obtain ⟨v, r, rfl, _, h3⟩ := h.uncons
    rw [List.length_cons, List.length_cons, h3.len]
theorem RpAll.get : ∀ {ds : List Da} {vs : List V} {i : Nat} {d : Da}, RpAll K B ds vs → ds[i]? = some d → ∃ v, vs[i]? = some v ∧ Rp K B d v
  | [], vs, i, d, h, e => by simp at e
  | x :: ds, vs, 0, d, h, e => by
    obtain ⟨v, r, rfl, h2, h3⟩ := h.uncons
    simp only [List.getElem?_cons_zero, Option.some.injEq] at e
    subst e
    exact ⟨v, rfl, h2⟩
  | x :: ds, vs, i + 1, d, h, e => by
    obtain ⟨v, r, rfl, h2, h3⟩ := h.uncons
    simp only [List.getElem?_cons_succ] at e ⊢
    exact h3.get e
theorem RpAll.getV : ∀ {ds : List Da} {vs : List V} {i : Nat} {v : V}, RpAll K B ds vs → vs[i]? = some v → ∃ d, ds[i]? = some d ∧ Rp K B d v
  | [], vs, i, v, h, e => by
    have q : vs = [] := by simpa only [RpAll] using h
    subst q
    simp at e
  | x :: ds, vs, 0, v, h, e => by
    obtain ⟨w, r, rfl, h2, h3⟩ := h.uncons
    simp only [List.getElem?_cons_zero, Option.some.injEq] at e
    subst e
    exact ⟨x, rfl, h2⟩
  | x :: ds, vs, i + 1, v, h, e => by
    obtain ⟨w, r, rfl, h2, h3⟩ := h.uncons
    simp only [List.getElem?_cons_succ] at e ⊢
    exact h3.getV e
theorem RpAll.app : ∀ {ds es : List Da} {vs us : List V}, RpAll K B ds vs → RpAll K B es us → RpAll K B (ds ++ es) (vs ++ us)
  | [], es, vs, us, h, t => by
    have q : vs = [] := by simpa only [RpAll] using h
    subst q
    exact t
  | x :: ds, es, vs, us, h, t => by
    obtain ⟨w, r, rfl, h2, h3⟩ := h.uncons
    exact RpAll.cons h2 (h3.app t)
theorem RpAll.drop : ∀ {ds : List Da} {vs : List V} (n : Nat), RpAll K B ds vs → RpAll K B (ds.drop n) (vs.drop n)
  | ds, vs, 0, h => h
  | [], vs, n + 1, h => by
    have q : vs = [] := by simpa only [RpAll] using h
    subst q
    exact h
  | x :: ds, vs, n + 1, h => by
    obtain ⟨w, r, rfl, h2, h3⟩ := h.uncons
    exact h3.drop n
theorem RpAll.take : ∀ {ds : List Da} {vs : List V} (n : Nat), RpAll K B ds vs → RpAll K B (ds.take n) (vs.take n)
  | ds, vs, 0, h => by
    rw [List.take_zero, List.take_zero]
    exact .nil
  | [], vs, n + 1, h => by
    have q : vs = [] := by simpa only [RpAll] using h
    subst q
    exact h
  | x :: ds, vs, n + 1, h => by
    obtain ⟨w, r, rfl, h2, h3⟩ := h.uncons
    exact .cons h2 (h3.take n)
theorem RpAll.rev : ∀ {ds : List Da} {vs : List V}, RpAll K B ds vs → RpAll K B ds.reverse vs.reverse
  | [], vs, h => by
    have q : vs = [] := by simpa only [RpAll] using h
    subst q
    exact h
  | x :: ds, vs, h => by
    obtain ⟨w, r, rfl, h2, h3⟩ := h.uncons
    rw [List.reverse_cons, List.reverse_cons]
    exact h3.rev.app (.cons h2 .nil)
theorem RpAll.set : ∀ {ds : List Da} {vs : List V} {d : Da} {v : V} (i : Nat), RpAll K B ds vs → Rp K B d v → RpAll K B (ds.set i d) (vs.set i v)
  | [], vs, d, v, i, h, g => by
    have q : vs = [] := by simpa only [RpAll] using h
    subst q
    exact h
  | x :: ds, vs, d, v, 0, h, g => by
    obtain ⟨w, r, rfl, h2, h3⟩ := h.uncons
    exact .cons g h3
  | x :: ds, vs, d, v, i + 1, h, g => by
    obtain ⟨w, r, rfl, h2, h3⟩ := h.uncons
    exact .cons h2 (h3.set i g)
theorem RpAll.dropLast {ds : List Da} {vs : List V} (h : RpAll K B ds vs) : RpAll K B ds.dropLast vs.dropLast := by
  rw [List.dropLast_eq_take, List.dropLast_eq_take, h.len]
  exact h.take _
/-- scalars: the heap does not matter -/
def isSc : Da → Bool
  | .non | .bl _ | .int _ | .str _ | .ty _ | .cls _ => true
  | _ => false
theorem Rp.sc {d : Da} {v : V} (hs : isSc d = true) (h : Rp K B d v) : Rp K B' d v := by
  cases d <;> first | (simpa only [Rp] using h) | (cases hs)
theorem RpAll.sc : ∀ {ds : List Da} {vs : List V}, ds.all isSc = true → RpAll K B ds vs → RpAll K B' ds vs
  | [], vs, _, h => by simpa only [RpAll] using h
  | d :: ds, vs, hs, h => by
    obtain ⟨v, r, rfl, h2, h3⟩ := h.uncons
    rw [List.all_cons, Bool.and_eq_true] at hs
    exact .cons (h2.sc hs.1) (h3.sc hs.2)
theorem rp_ints : ∀ {ns : List Int} {vs : List V}, RpAll K B (ns.map Da.int) vs → vs = ns.map V.int
  | [], vs, h => by simpa only [RpAll, List.map_nil] using h
  | n :: ns, vs, h => by
    rw [List.map_cons] at h ⊢
    obtain ⟨v, r, rfl, h2, h3⟩ := h.uncons
    have e : v = V.int n := by simpa only [Rp] using h2
    rw [e, rp_ints h3]
theorem ints_rp : ∀ (ns : List Int), RpAll K B (ns.map Da.int) (ns.map V.int)
  | [] => .nil
  | n :: ns => .cons (by simp only [Rp]) (ints_rp ns)
theorem rp_bls : ∀ {ns : List Bool} {vs : List V}, RpAll K B (ns.map Da.bl) vs → vs = ns.map V.bl
  | [], vs, h => by simpa only [RpAll, List.map_nil] using h
  | n :: ns, vs, h => by
    rw [List.map_cons] at h ⊢
    obtain ⟨v, r, rfl, h2, h3⟩ := h.uncons
    have e : v = V.bl n := by simpa only [Rp] using h2
    rw [e, rp_bls h3]
theorem rp_atI {ds : List Da} {vs : List V} {i : Int} {d : Da} (h : RpAll K B ds vs) (e : atI ds i = some d) : ∃ v, atI vs i = some v ∧ Rp K B d v := by
  unfold atI at e ⊢
  rw [h.len]
  cases hx : ixN ds.length i with
  | none =>
    rw [hx] at e
    cases e
  | some j =>
    rw [hx] at e
    exact h.get e
def cutD (ds : List Da) (lo hi : Option Int) : List Da := (ds.drop (HT.sIx ds.length 0 lo)).take (HT.sIx ds.length ds.length hi - HT.sIx ds.length 0 lo)
theorem rp_cut {ds : List Da} {vs : List V} {lo hi : Option Int} (h : RpAll K B ds vs) : RpAll K B (cutD ds lo hi) (cutV vs lo hi) := by
  unfold cutD cutV
  rw [h.len]
  exact (h.drop _).take _
/-- a dict's pairs -/
def KvR (K : PySem.W.Frag) (B : Hp) : List (Int × Da) → List (Key × V) → Prop
  | [], ws => ws = []
  | (k, d) :: r, ws => ∃ v t, ws = (Sum.inl k, v) :: t ∧ Rp K B d v ∧ KvR K B r t
theorem KvR.mono (e : Ex B B') : ∀ {kvs : List (Int × Da)} {ws : List (Key × V)}, KvR K B kvs ws → KvR K B' kvs ws
  | [], ws, h => h
  | (k, d) :: r, ws, h => by
    obtain ⟨v, t, h1, h2, h3⟩ := h
    exact ⟨v, t, h1, h2.mono e, h3.mono e⟩
theorem KvR.len : ∀ {kvs : List (Int × Da)} {ws : List (Key × V)}, KvR K B kvs ws → ws.length = kvs.length
  | [], ws, h => by
    have e : ws = [] := h
    rw [e]
    rfl
  | (k, d) :: r, ws, h => by
    obtain ⟨v, t, rfl, h2, h3⟩ := h
    rw [List.length_cons, List.length_cons, h3.len]
def valD : List (Int × Da) → Int → Option Da
  | [], _ => none
  | (k, d) :: r, j => if k = j then some d else valD r j
def putD (kvs : List (Int × Da)) (k : Int) (d : Da) : List (Int × Da) :=
  if (kvs.any fun kv => decide (kv.1 = k)) = true then kvs.map (fun kv => if kv.1 = k then (kv.1, d) else kv) else kvs ++ [(k, d)]
end

/-! ### slots -/
inductive Sl where
  | no
  | im (d : Da)
  | mu (ds : List Da)
  | md (kvs : List (Int × Da))
  | ob (C : Addr) (ns : List Str) (dss : List (List Da))
abbrev En := List Sl
def imm1 : Sl → Sl
  | .im d => .im d
  | _ => .no
def frz1 : Sl → Sl
  | .im d => .im d
  | .mu ds => .im (.lst ds)
  | .md kvs => .md kvs
  | .ob C ns dss => .im (.obj C ns (dss.map Da.lst))
  | .no => .no
abbrev imm (env : En) : En := env.map imm1
abbrev frz (env : En) : En := env.map frz1
/-- a view: no slot of one's own but dicts that are read -/
def SlV (K : PySem.W.Frag) (B : Hp) (o : Option (Option V)) : Sl → Prop
  | .im d => ∃ v, o = some (some v) ∧ Rp K B d v
  | .md kvs => ∃ a ws, o = some (some (.ref a)) ∧ B a = some (.dK ws) ∧ KvR K B kvs ws
  | _ => True
structure SD (K : PySem.W.Frag) (B : Hp) (σ : L2.St) (env : En) : Prop where
  len : env.length = σ.length
  sl : ∀ (i : Nat) s, env[i]? = some s → SlV K B (σ[i]?) s
structure Gr (B H1 B' H2 : Hp) : Prop where
  b : Ex B B'
  h : Ex B' H2
  k : Ex H1 H2
  n : ∀ a, H1 a ≠ none → B' a = B a
section
variable {K : PySem.W.Frag} {B B' B1 B2 H H' H1 H2 H3 : Hp}
theorem Gr.refl (e : Ex B H) : Gr B H B H := ⟨Ex.refl _, e, Ex.refl _, fun _ _ => rfl⟩
theorem Gr.keep (e : Ex B H1) (k : Ex H1 H2) : Gr B H1 B H2 := ⟨Ex.refl _, e.trans k, k, fun _ _ => rfl⟩
theorem Gr.trans (g : Gr B H1 B1 H2) (g' : Gr B1 H2 B2 H3) : Gr B H1 B2 H3 := ⟨g.b.trans g'.b, g'.h, g.k.trans g'.k, fun a h => by
  have h2 : H2 a ≠ none := fun z => by
    cases e : H1 a with
    | none => exact h e
    | some o =>
      rw [g.k a o e] at z
      cases z
  rw [g'.n a h2, g.n a h]⟩
theorem Gr.lay (e : Ex B H1) {p : Addr} {o : HO} (hp : H1 p = none) : Gr B H1 (upd B p o) (upd H1 p o) := by
  have hb : B p = none := fresh_back e hp
  refine ⟨Ex.new hb, fun a u h => ?_, Ex.new hp, fun a h => ?_⟩
  · by_cases q : a = p
    · subst q
      rw [upd_same] at h ⊢
      exact h
    · rw [upd_ne q] at h ⊢
      exact e a u h
  · exact upd_ne fun q => h (q ▸ hp)
/-- a new place, not (yet) told as data -/
theorem Gr.put (e : Ex B H1) {p : Addr} {o : HO} (hp : H1 p = none) : Gr B H1 B (upd H1 p o) := Gr.keep e (Ex.new hp)
theorem SlV.mono {o : Option (Option V)} {s : Sl} (e : Ex B B') (h : SlV K B o s) : SlV K B' o s := by
  cases s with
  | im d =>
    obtain ⟨v, h1, h2⟩ := h
    exact ⟨v, h1, h2.mono e⟩
  | md kvs =>
    obtain ⟨a, ws, h1, h2, h3⟩ := h
    exact ⟨a, ws, h1, e _ _ h2, h3.mono e⟩
  | _ => trivial
theorem SD.mono {σ : L2.St} {env : En} (e : Ex B B') (h : SD K B σ env) : SD K B' σ env := ⟨h.len, fun i s q => (h.sl i s q).mono e⟩
theorem SD.set {σ : L2.St} {env : En} {i : Nat} {v : V} {d : Da} (h : SD K B σ env) (hd : Rp K B d v) : SD K B (σ.set i (some v)) (env.set i (.im d)) := by
  refine ⟨by rw [List.length_set, List.length_set, h.len], fun j s q => ?_⟩
  by_cases e : i = j
  · subst e
    rw [List.getElem?_set_self'] at q
    cases hi : env[i]? with
    | none =>
      rw [hi] at q
      cases q
    | some t =>
      rw [hi] at q
      cases q
      have hl : i < σ.length := by
        rw [← h.len]
        exact (List.getElem?_eq_some_iff.mp hi).1
      exact ⟨v, by rw [List.getElem?_set_self hl], hd⟩
  · rw [List.getElem?_set_ne e] at q ⊢
    exact h.sl j s q
theorem SD.unset {σ : L2.St} {env : En} {i : Nat} {o : Option V} (h : SD K B σ env) : SD K B (σ.set i o) (env.set i .no) := by
  refine ⟨by rw [List.length_set, List.length_set, h.len], fun j s q => ?_⟩
  by_cases e : i = j
  · subst e
    rw [List.getElem?_set_self'] at q
    cases hi : env[i]? with
    | none =>
      rw [hi] at q
      cases q
    | some t =>
      rw [hi] at q
      cases q
      trivial
  · rw [List.getElem?_set_ne e] at q ⊢
    exact h.sl j s q
def wipeE (env : En) : List Nat → En
  | [] => env
  | v :: vs => (wipeE env vs).set v .no
theorem SD.wipe {σ : L2.St} {env : En} (h : SD K B σ env) : ∀ vs : List Nat, SD K B (L2.wipe σ vs) (wipeE env vs)
  | [] => h
  | v :: vs => (h.wipe vs).unset
end

/-! ### expressions -/
section
variable (K : PySem.W.Frag)
def EvE (te : TE) (env : En) (d : Da) : Prop := ∀ σ B, SD K B σ env → ∀ H1, Ex B H1 → ∀ Q : VK, (∀ v B' H2, Gr B H1 B' H2 → Rp K B' d v → Q v H2) → te σ H1 Q
def EvN (te : TE) (env : En) (ds : List Da) : Prop := ∀ σ B, SD K B σ env → ∀ H1, Ex B H1 → ∀ Q : VK, (∀ p xs B' H2, Gr B H1 B' H2 → H1 p = none → B' p = none → H2 p = some (.lst xs) → RpAll K B' ds xs → Q (.ref p) H2) → te σ H1 Q
def EvD (te : TE) (env : En) (kvs : List (Int × Da)) : Prop := ∀ σ B, SD K B σ env → ∀ H1, Ex B H1 → ∀ Q : VK, (∀ p ws B' H2, Gr B H1 B' H2 → H1 p = none → B' p = none → H2 p = some (.dK ws) → KvR K B' kvs ws → Q (.ref p) H2) → te σ H1 Q
def EvB (tt : TT) (env : En) (b : Bool) : Prop := ∀ σ B, SD K B σ env → ∀ H1, Ex B H1 → ∀ Q : Bool → Hp → Prop, (∀ H2, Ex H1 H2 → Q b H2) → tt σ H1 Q
def EvA (ta : TA) (env : En) (ds : List Da) : Prop := ∀ σ B, SD K B σ env → ∀ H1, Ex B H1 → ∀ Q : List V → Hp → Prop, (∀ vs B' H2, Gr B H1 B' H2 → RpAll K B' ds vs → Q vs H2) → ta σ H1 Q
end
section
variable {K : PySem.W.Frag} {env : En} {te ta tb tc : TE} {tt tu : TT} {d : Da} {ds es : List Da} {i j : Int}
theorem EvE.is {d' : Da} (h : EvE K te env d) (e : d = d') : EvE K te env d' := e ▸ h
theorem EvN.is {ds' : List Da} (h : EvN K te env ds) (e : ds = ds') : EvN K te env ds' := e ▸ h
theorem EvB.is {b b' : Bool} (h : EvB K tt env b) (e : b = b') : EvB K tt env b' := e ▸ h
theorem ev_new (h : EvN K te env ds) : EvE K te env (.lst ds) := fun σ B s H1 e Q q => h σ B s H1 e Q fun p xs B' H2 g h1 hb h2 r => by
  have eb : Ex B' (upd B' p (.lst xs)) := Ex.new hb
  refine q _ (upd B' p (.lst xs)) H2 ⟨g.b.trans eb, fun a u h => ?_, g.k, fun a h => ?_⟩ ?_
  · by_cases z : a = p
    · subst z
      rw [upd_same] at h
      rw [h2]
      exact h
    · rw [upd_ne z] at h
      exact g.h a u h
  · rw [upd_ne (show a ≠ p from fun z => h (by rw [z]; exact h1))]
    exact g.n a h
  · simp only [Rp]
    exact ⟨p, xs, rfl, upd_same, r.mono eb⟩
theorem ev_var {i : Nat} (h : env[i]? = some (.im d)) : EvE K (tVar i) env d := fun σ B s H1 e Q q => by
  obtain ⟨v, h1, h2⟩ := s.sl i _ h
  exact ⟨v, h1, q v B H1 (Gr.refl e) h2⟩
theorem ev_c {v : V} (h : ∀ B, Rp K B d v) : EvE K (tC v) env d := fun σ B s H1 e Q q => q v B H1 (Gr.refl e) (h B)
theorem ev_int : EvE K (tC (.int i)) env (.int i) := ev_c fun _ => by simp only [Rp]
theorem ev_bl {b : Bool} : EvE K (tC (.bl b)) env (.bl b) := ev_c fun _ => by simp only [Rp]
theorem ev_non : EvE K (tC .non) env .non := ev_c fun _ => by simp only [Rp]
theorem ev_str {s : Str} : EvE K (tC (.str s)) env (.str s) := ev_c fun _ => by simp only [Rp]
theorem ev_ty {n : String} : EvE K (tC (.ty n)) env (.ty n) := ev_c fun _ => by simp only [Rp]
theorem ev_cls {C : Addr} : EvE K (tC (.ref C)) env (.cls C) := ev_c fun _ => by simp only [Rp]
/-- two operands, the answer by values and heap -/
theorem ev_op {r : R2} {x y z : Da} (ha : EvE K ta env x) (hb : EvE K tb env y)
    (hr : ∀ B H v w, Ex B H → Rp K B x v → Rp K B y w → ∀ Q : VK, (∀ u B' H2, Gr B H B' H2 → Rp K B' z u → Q u H2) → r v w H Q) : EvE K (tOp r ta tb) env z := fun σ B s H1 e Q q =>
  ha σ B s H1 e _ fun v B2 H2 g2 r2 => hb σ B2 (s.mono g2.b) H2 g2.h _ fun w B3 H3 g3 r3 =>
    hr B3 H3 v w g3.h (r2.mono g3.b) r3 Q fun u B4 H4 g4 r4 => q u B4 H4 ((g2.trans g3).trans g4) r4
theorem ev_opN {r : R2} {x y : Da} {zs : List Da} (ha : EvE K ta env x) (hb : EvE K tb env y)
    (hr : ∀ B H v w, Ex B H → Rp K B x v → Rp K B y w → ∀ Q : VK, (∀ p xs B' H2, Gr B H B' H2 → H p = none → B' p = none → H2 p = some (.lst xs) → RpAll K B' zs xs → Q (.ref p) H2) → r v w H Q) : EvN K (tOp r ta tb) env zs := fun σ B s H1 e Q q =>
  ha σ B s H1 e _ fun v B2 H2 g2 r2 => hb σ B2 (s.mono g2.b) H2 g2.h _ fun w B3 H3 g3 r3 =>
    hr B3 H3 v w g3.h (r2.mono g3.b) r3 Q fun p xs B4 H4 g4 h1 h2 h3 h4 => q p xs B4 H4 ((g2.trans g3).trans g4) (fresh_back (g2.k.trans g3.k) h1) h2 h3 h4
theorem ev_I0 {g : Int → Int → V} {z : Da} (hz : ∀ B, Rp K B z (g i j)) (ha : EvE K ta env (.int i)) (hb : EvE K tb env (.int j)) : EvE K (tOp (rI0 g) ta tb) env z :=
  ev_op ha hb fun B H v w e r1 r2 Q q => by
    simp only [Rp] at r1 r2
    subst r1 r2
    exact ⟨i, j, rfl, rfl, q _ B H (Gr.refl e) (hz B)⟩
theorem ev_IC {C : Int → Int → Prop} {g : Int → Int → V} {z : Da} (hz : ∀ B, Rp K B z (g i j)) (ha : EvE K ta env (.int i)) (hb : EvE K tb env (.int j)) (hc : C i j) : EvE K (tOp (rI C g) ta tb) env z :=
  ev_op ha hb fun B H v w e r1 r2 Q q => by
    simp only [Rp] at r1 r2
    subst r1 r2
    exact ⟨i, j, rfl, rfl, hc, q _ B H (Gr.refl e) (hz B)⟩
end
/-! ### the readings' names -/
abbrev rAddI : R2 := rI0 fun i j => .int (i + j)
abbrev rSubI : R2 := rI0 fun i j => .int (i - j)
abbrev rMulI : R2 := rI CMul fun i j => .int (i * j)
abbrev rModI : R2 := rI (fun _ j => 0 < j) fun i j => .int (i % j)
abbrev rDivI : R2 := rI CDiv fun i j => .int (i / j)
abbrev rDivW : R2 := rI CDivW fun i j => .int (i / j)
abbrev rPowI : R2 := rI CPow fun i j => .int (i ^ j.toNat)
abbrev rLtI : R2 := rI0 fun i j => .bl (decide (i < j))
abbrev rLeI : R2 := rI0 fun i j => .bl (decide (i ≤ j))
abbrev rGtI : R2 := rI0 fun i j => .bl (decide (j < i))
abbrev rGeI : R2 := rI0 fun i j => .bl (decide (j ≤ i))
abbrev rCatS : R2 := fun x y H Q => ∃ i j, x = .str i ∧ y = .str j ∧ i.length + j.length ≤ sizeLine ∧ Q (.str (i ++ j)) H
section
variable {K : PySem.W.Frag} {env : En} {te ta tb tc : TE} {tt tu : TT} {d : Da} {ds es : List Da} {i j : Int}
theorem ev_add (ha : EvE K ta env (.int i)) (hb : EvE K tb env (.int j)) : EvE K (tOp rAddI ta tb) env (.int (i + j)) := ev_I0 (fun _ => by simp only [Rp]) ha hb
theorem ev_sub (ha : EvE K ta env (.int i)) (hb : EvE K tb env (.int j)) : EvE K (tOp rSubI ta tb) env (.int (i - j)) := ev_I0 (fun _ => by simp only [Rp]) ha hb
theorem ev_mul (ha : EvE K ta env (.int i)) (hb : EvE K tb env (.int j)) (hc : CMul i j) : EvE K (tOp rMulI ta tb) env (.int (i * j)) := ev_IC (fun _ => by simp only [Rp]) ha hb hc
theorem ev_mod (ha : EvE K ta env (.int i)) (hb : EvE K tb env (.int j)) (hc : 0 < j) : EvE K (tOp rModI ta tb) env (.int (i % j)) := ev_IC (fun _ => by simp only [Rp]) ha hb hc
theorem ev_div (ha : EvE K ta env (.int i)) (hb : EvE K tb env (.int j)) (hc : 0 < j ∧ j < 1073741824) : EvE K (tOp rDivI ta tb) env (.int (i / j)) := ev_IC (fun _ => by simp only [Rp]) ha hb hc
theorem ev_divW (ha : EvE K ta env (.int i)) (hb : EvE K tb env (.int j)) (hc : CDivW i j) : EvE K (tOp rDivW ta tb) env (.int (i / j)) := ev_IC (fun _ => by simp only [Rp]) ha hb hc
theorem ev_pow (ha : EvE K ta env (.int i)) (hb : EvE K tb env (.int j)) (hc : CPow i j) : EvE K (tOp rPowI ta tb) env (.int (i ^ j.toNat)) := ev_IC (fun _ => by simp only [Rp]) ha hb hc
theorem ev_lt (ha : EvE K ta env (.int i)) (hb : EvE K tb env (.int j)) : EvE K (tOp rLtI ta tb) env (.bl (decide (i < j))) := ev_I0 (fun _ => by simp only [Rp]) ha hb
theorem ev_le (ha : EvE K ta env (.int i)) (hb : EvE K tb env (.int j)) : EvE K (tOp rLeI ta tb) env (.bl (decide (i ≤ j))) := ev_I0 (fun _ => by simp only [Rp]) ha hb
theorem ev_gt (ha : EvE K ta env (.int i)) (hb : EvE K tb env (.int j)) : EvE K (tOp rGtI ta tb) env (.bl (decide (j < i))) := ev_I0 (fun _ => by simp only [Rp]) ha hb
theorem ev_ge (ha : EvE K ta env (.int i)) (hb : EvE K tb env (.int j)) : EvE K (tOp rGeI ta tb) env (.bl (decide (j ≤ i))) := ev_I0 (fun _ => by simp only [Rp]) ha hb
theorem ev_neg (ha : EvE K ta env (.int i)) : EvE K (tUn (rU fun i => .int (-i)) ta) env (.int (-i)) := fun σ B s H1 e Q q =>
  ha σ B s H1 e _ fun v B2 H2 g2 r2 => by
    simp only [Rp] at r2
    subst r2
    exact ⟨i, rfl, q _ B2 H2 g2 (by simp only [Rp])⟩
/-- == of scalars -/
theorem ev_eqI (ha : EvE K ta env (.int i)) (hb : EvE K tb env (.int j)) : EvE K (tOp rEq ta tb) env (.bl (decide (i = j))) :=
  ev_op ha hb fun B H v w e r1 r2 Q q => by
    simp only [Rp] at r1 r2
    subst r1 r2
    refine ⟨rfl, q _ B H (Gr.refl e) ?_⟩
    simp only [Rp, V.int.injEq]
theorem ev_neI (ha : EvE K ta env (.int i)) (hb : EvE K tb env (.int j)) : EvE K (tOp rNe ta tb) env (.bl (!decide (i = j))) :=
  ev_op ha hb fun B H v w e r1 r2 Q q => by
    simp only [Rp] at r1 r2
    subst r1 r2
    refine ⟨rfl, q _ B H (Gr.refl e) ?_⟩
    simp only [Rp, V.int.injEq]
theorem ev_eqB {a b : Bool} (ha : EvE K ta env (.bl a)) (hb : EvE K tb env (.bl b)) : EvE K (tOp rEq ta tb) env (.bl (decide (a = b))) :=
  ev_op ha hb fun B H v w e r1 r2 Q q => by
    simp only [Rp] at r1 r2
    subst r1 r2
    refine ⟨rfl, q _ B H (Gr.refl e) ?_⟩
    simp only [Rp, V.bl.injEq]
theorem ev_neB {a b : Bool} (ha : EvE K ta env (.bl a)) (hb : EvE K tb env (.bl b)) : EvE K (tOp rNe ta tb) env (.bl (!decide (a = b))) :=
  ev_op ha hb fun B H v w e r1 r2 Q q => by
    simp only [Rp] at r1 r2
    subst r1 r2
    refine ⟨rfl, q _ B H (Gr.refl e) ?_⟩
    simp only [Rp, V.bl.injEq]
/-- xs[i], t[i] -/
theorem ev_ixL (ha : EvE K ta env (.lst ds)) (hb : EvE K tb env (.int i)) (h : atI ds i = some d) : EvE K (tOp (rIxL K) ta tb) env d :=
  ev_op ha hb fun B H v w e r1 r2 Q q => by
    simp only [Rp] at r1 r2
    obtain ⟨a, xs, rfl, h2, h3⟩ := r1
    subst r2
    obtain ⟨u, hu, ru⟩ := rp_atI h3 h
    exact ⟨a, xs, i, u, rfl, rfl, sq_of (e _ _ h2), hu, q u B H (Gr.refl e) ru⟩
theorem ev_ixT (ha : EvE K ta env (.tup ds)) (hb : EvE K tb env (.int i)) (h : atI ds i = some d) : EvE K (tOp (rIxT K) ta tb) env d :=
  ev_op ha hb fun B H v w e r1 r2 Q q => by
    simp only [Rp] at r1 r2
    obtain ⟨a, xs, rfl, h2, h3⟩ := r1
    subst r2
    obtain ⟨u, hu, ru⟩ := rp_atI h3 h
    exact ⟨a, xs, i, u, rfl, rfl, st_of (e _ _ h2), hu, q u B H (Gr.refl e) ru⟩
/-- arguments, displays -/
theorem ea_nil : EvA K tNil env [] := fun σ B s H1 e Q q => q [] B H1 (Gr.refl e) .nil
theorem ea_cons {tr : TA} (h : EvE K te env d) (hr : EvA K tr env ds) : EvA K (tCons te tr) env (d :: ds) := fun σ B s H1 e Q q =>
  h σ B s H1 e _ fun v B2 H2 g2 r2 => hr σ B2 (s.mono g2.b) H2 g2.h _ fun vs B3 H3 g3 r3 => q (v :: vs) B3 H3 (g2.trans g3) (.cons (r2.mono g3.b) r3)
theorem ev_tup {t : TA} (h : EvA K t env ds) (hl : ds.length ≤ 100000 := by first | decide | simp) : EvE K (tTup t) env (.tup ds) := fun σ B s H1 e Q q =>
  h σ B s H1 e _ fun vs B2 H2 g2 r2 => ⟨sz_of (by rw [r2.len]; exact hl), fun p hp => q _ (upd B2 p (.tup vs)) _ (g2.trans (Gr.lay g2.h hp)) (by
    simp only [Rp]
    exact ⟨p, vs, rfl, upd_same, r2.mono (Ex.new (fresh_back g2.h hp))⟩)⟩
theorem en_lst {t : TA} (h : EvA K t env ds) (hl : ds.length ≤ 100000 := by first | decide | simp) : EvN K (tLst t) env ds := fun σ B s H1 e Q q =>
  h σ B s H1 e _ fun vs B2 H2 g2 r2 => ⟨sz_of (by rw [r2.len]; exact hl), fun p hp => q p vs B2 _ (g2.trans (Gr.put g2.h hp)) (fresh_back g2.k hp) (fresh_back g2.h hp) upd_same r2⟩
/-- built-ins by values -/
theorem ev_cb {r : List V → Hp → VK → Prop} {t : TA} (h : EvA K t env ds) (hr : ∀ B H vs, Ex B H → RpAll K B ds vs → ∀ Q : VK, (∀ u B' H2, Gr B H B' H2 → Rp K B' d u → Q u H2) → r vs H Q) : EvE K (tCB r t) env d := fun σ B s H1 e Q q =>
  h σ B s H1 e _ fun vs B2 H2 g2 r2 => hr B2 H2 vs g2.h r2 Q fun u B3 H3 g3 r3 => q u B3 H3 (g2.trans g3) r3
theorem en_cb {r : List V → Hp → VK → Prop} {t : TA} (h : EvA K t env ds) (hr : ∀ B H vs, Ex B H → RpAll K B ds vs → ∀ Q : VK, (∀ p xs B' H2, Gr B H B' H2 → H p = none → B' p = none → H2 p = some (.lst xs) → RpAll K B' es xs → Q (.ref p) H2) → r vs H Q) : EvN K (tCB r t) env es := fun σ B s H1 e Q q =>
  h σ B s H1 e _ fun vs B2 H2 g2 r2 => hr B2 H2 vs g2.h r2 Q fun p xs B3 H3 g3 h1 h2 h3 r3 => q p xs B3 H3 (g2.trans g3) (fresh_back g2.k h1) h2 h3 r3
theorem one_rp {B : Hp} {vs : List V} (h : RpAll K B [d] vs) : ∃ v, vs = [v] ∧ Rp K B d v := by
  obtain ⟨v, r, rfl, h2, h3⟩ := h.uncons
  have e : r = [] := by simpa only [RpAll] using h3
  subst e
  exact ⟨v, rfl, h2⟩
theorem two_rp {B : Hp} {vs : List V} {d' : Da} (h : RpAll K B [d, d'] vs) : ∃ v w, vs = [v, w] ∧ Rp K B d v ∧ Rp K B d' w := by
  obtain ⟨v, r, rfl, h2, h3⟩ := h.uncons
  obtain ⟨w, rfl, h4⟩ := one_rp h3
  exact ⟨v, w, rfl, h2, h4⟩
theorem ev_max2 (ha : EvE K ta env (.int i)) (hb : EvE K tb env (.int j)) : EvE K (tCB rMax2 (tCons ta (tCons tb tNil))) env (.int (if j > i then j else i)) :=
  ev_cb (ea_cons ha (ea_cons hb ea_nil)) fun B H vs e r Q q => by
    obtain ⟨v, w, rfl, h1, h2⟩ := two_rp r
    simp only [Rp] at h1 h2
    subst h1 h2
    exact ⟨i, j, rfl, q _ B H (Gr.refl e) (by simp only [Rp])⟩
def rMin2 : List V → Hp → VK → Prop := fun xs H Q => ∃ i j, xs = [.int i, .int j] ∧ Q (.int (if j < i then j else i)) H
theorem ev_min2 (ha : EvE K ta env (.int i)) (hb : EvE K tb env (.int j)) : EvE K (tCB rMin2 (tCons ta (tCons tb tNil))) env (.int (if j < i then j else i)) :=
  ev_cb (ea_cons ha (ea_cons hb ea_nil)) fun B H vs e r Q q => by
    obtain ⟨v, w, rfl, h1, h2⟩ := two_rp r
    simp only [Rp] at h1 h2
    subst h1 h2
    exact ⟨i, j, rfl, q _ B H (Gr.refl e) (by simp only [Rp])⟩
def rAbs : List V → Hp → VK → Prop := fun xs H Q => ∃ i, xs = [.int i] ∧ Q (.int (if i < 0 then -i else i)) H
theorem ev_abs (ha : EvE K ta env (.int i)) : EvE K (tCB rAbs (tCons ta tNil)) env (.int (if i < 0 then -i else i)) :=
  ev_cb (ea_cons ha ea_nil) fun B H vs e r Q q => by
    obtain ⟨v, rfl, h1⟩ := one_rp r
    simp only [Rp] at h1
    subst h1
    exact ⟨i, rfl, q _ B H (Gr.refl e) (by simp only [Rp])⟩
theorem ev_lenL (ha : EvE K ta env (.lst ds)) : EvE K (tCB (rLenS K) (tCons ta tNil)) env (.int (ds.length : Int)) :=
  ev_cb (ea_cons ha ea_nil) fun B H vs e r Q q => by
    obtain ⟨v, rfl, h1⟩ := one_rp r
    simp only [Rp] at h1
    obtain ⟨a, xs, rfl, h2, h3⟩ := h1
    exact ⟨a, xs, rfl, .inl (sq_of (e _ _ h2)), q _ B H (Gr.refl e) (by simp only [Rp]; rw [h3.len])⟩
theorem ev_lenQ (ha : EvE K ta env (.sq ds)) : EvE K (tCB (rLenS K) (tCons ta tNil)) env (.int (ds.length : Int)) :=
  ev_cb (ea_cons ha ea_nil) fun B H vs e r Q q => by
    obtain ⟨v, rfl, h1⟩ := one_rp r
    simp only [Rp] at h1
    obtain ⟨a, xs, rfl, h2, h3⟩ := h1
    exact ⟨a, xs, rfl, .inl (ex_l e h2), q _ B H (Gr.refl e) (by simp only [Rp]; rw [h3.len])⟩
theorem ev_lenT (ha : EvE K ta env (.tup ds)) : EvE K (tCB (rLenS K) (tCons ta tNil)) env (.int (ds.length : Int)) :=
  ev_cb (ea_cons ha ea_nil) fun B H vs e r Q q => by
    obtain ⟨v, rfl, h1⟩ := one_rp r
    simp only [Rp] at h1
    obtain ⟨a, xs, rfl, h2, h3⟩ := h1
    exact ⟨a, xs, rfl, .inr (st_of (e _ _ h2)), q _ B H (Gr.refl e) (by simp only [Rp]; rw [h3.len])⟩
theorem en_listL (ha : EvE K ta env (.lst ds)) : EvN K (tCB (rListS K) (tCons ta tNil)) env ds :=
  en_cb (ea_cons ha ea_nil) fun B H vs e r Q q => by
    obtain ⟨v, rfl, h1⟩ := one_rp r
    simp only [Rp] at h1
    obtain ⟨a, xs, rfl, h2, h3⟩ := h1
    exact ⟨a, xs, rfl, .inl (sq_of (e _ _ h2)), fun l hl => q l xs B _ (Gr.put e hl) hl (fresh_back e hl) upd_same h3⟩
theorem en_listT (ha : EvE K ta env (.tup ds)) : EvN K (tCB (rListS K) (tCons ta tNil)) env ds :=
  en_cb (ea_cons ha ea_nil) fun B H vs e r Q q => by
    obtain ⟨v, rfl, h1⟩ := one_rp r
    simp only [Rp] at h1
    obtain ⟨a, xs, rfl, h2, h3⟩ := h1
    exact ⟨a, xs, rfl, .inr (st_of (e _ _ h2)), fun l hl => q l xs B _ (Gr.put e hl) hl (fresh_back e hl) upd_same h3⟩
theorem ev_sumQ {ns : List Int} (ha : EvE K ta env (.sq (ns.map Da.int))) : EvE K (tCB (rSum K) (tCons ta tNil)) env (.int ns.sum) :=
  ev_cb (ea_cons ha ea_nil) fun B H vs e r Q q => by
    obtain ⟨v, rfl, h1⟩ := one_rp r
    simp only [Rp] at h1
    obtain ⟨a, xs, rfl, h2, h3⟩ := h1
    have z := rp_ints h3
    subst z
    exact ⟨a, ns, rfl, ex_l e h2, q _ B H (Gr.refl e) (by simp only [Rp])⟩
theorem ev_sumL {ns : List Int} (ha : EvE K ta env (.lst (ns.map Da.int))) : EvE K (tCB (rSum K) (tCons ta tNil)) env (.int ns.sum) :=
  ev_cb (ea_cons ha ea_nil) fun B H vs e r Q q => by
    obtain ⟨v, rfl, h1⟩ := one_rp r
    simp only [Rp] at h1
    obtain ⟨a, xs, rfl, h2, h3⟩ := h1
    have z := rp_ints h3
    subst z
    exact ⟨a, ns, rfl, sq_of (e _ _ h2), q _ B H (Gr.refl e) (by simp only [Rp])⟩
theorem ev_all {bs : List Bool} (ha : EvE K ta env (.lst (bs.map Da.bl))) : EvE K (tCB (L2.rAll K) (tCons ta tNil)) env (.bl (bs.all id)) :=
  ev_cb (ea_cons ha ea_nil) fun B H vs e r Q q => by
    obtain ⟨v, rfl, h1⟩ := one_rp r
    simp only [Rp] at h1
    obtain ⟨a, xs, rfl, h2, h3⟩ := h1
    have z := rp_bls h3
    subst z
    exact ⟨a, bs, rfl, sq_of (e _ _ h2), q _ B H (Gr.refl e) (by simp only [Rp])⟩
theorem ev_any {bs : List Bool} (ha : EvE K ta env (.lst (bs.map Da.bl))) : EvE K (tCB (L2.rAny K) (tCons ta tNil)) env (.bl (bs.any id)) :=
  ev_cb (ea_cons ha ea_nil) fun B H vs e r Q q => by
    obtain ⟨v, rfl, h1⟩ := one_rp r
    simp only [Rp] at h1
    obtain ⟨a, xs, rfl, h2, h3⟩ := h1
    have z := rp_bls h3
    subst z
    exact ⟨a, bs, rfl, sq_of (e _ _ h2), q _ B H (Gr.refl e) (by simp only [Rp])⟩
/-- isinstance -/
def tyD : Da → Option String
  | .non => some "NoneType"
  | .bl _ => some "bool"
  | .int _ => some "int"
  | .str _ => some "str"
  | .lst _ => some "list"
  | .sq _ => some "list"
  | .tup _ => some "tuple"
  | _ => none
theorem tyx_of {B H : Hp} {v : V} {n : String} (e : Ex B H) (h : Rp K B d v) (hn : tyD d = some n) : TyX K H v (.type n) := by
  cases d with
  | non => simp only [Rp] at h; subst h; cases hn; exact .base .non
  | bl b => simp only [Rp] at h; subst h; cases hn; exact .base (.bl b)
  | int i => simp only [Rp] at h; subst h; cases hn; exact .base (.int i)
  | str s => simp only [Rp] at h; subst h; cases hn; exact .base (.str s)
  | ty n => cases hn
  | cls C => cases hn
  | lst ds =>
    simp only [Rp] at h
    obtain ⟨a, xs, rfl, h2, h3⟩ := h
    cases hn
    exact .base (.lst (e _ _ h2))
  | sq ds =>
    simp only [Rp] at h
    obtain ⟨a, xs, rfl, h2, h3⟩ := h
    cases hn
    rcases ex_l e h2 with (h2 | ⟨o, h2⟩) | ⟨o, its, n, h2, h4, _⟩
    · exact .base (.lst h2)
    · exact .base (.frz h2)
    · exact .kList h2 h4
  | tup ds =>
    simp only [Rp] at h
    obtain ⟨a, xs, rfl, h2, h3⟩ := h
    cases hn
    exact .base (.tup (e _ _ h2))
  | obj C ns ds => cases hn
theorem ev_isiB {n m : String} {b : Bool} (ha : EvE K ta env d) (hb : EvE K tb env (.ty m)) (hn : tyD d = some n) (hk : kitB n m = some b) : EvE K (tCB (rIsi K) (tCons ta (tCons tb tNil))) env (.bl b) :=
  ev_cb (ea_cons ha (ea_cons hb ea_nil)) fun B H vs e r Q q => by
    obtain ⟨v, w, rfl, h1, h2⟩ := two_rp r
    simp only [Rp] at h2
    subst h2
    exact ⟨v, .ty m, .type n, .type m, b, rfl, .ty m, tyx_of e h1 hn, kit_ty hk, q _ B H (Gr.refl e) (by simp only [Rp])⟩
/-- and, or, not, if by values -/
theorem ev_andV {a b : Bool} (h1 : EvE K ta env (.bl a)) (h2 : a = true → EvE K tb env (.bl b)) : EvE K (tAndV ta tb) env (.bl (a && b)) := fun σ B s H1 e Q q =>
  h1 σ B s H1 e _ fun v B2 H2 g2 r2 => by
    simp only [Rp] at r2
    subst r2
    refine ⟨a, rfl, ?_⟩
    cases a with
    | true =>
      show tb σ H2 Q
      exact h2 rfl σ B2 (s.mono g2.b) H2 g2.h Q fun w B3 H3 g3 r3 => q w B3 H3 (g2.trans g3) r3
    | false =>
      show Q (.bl false) H2
      exact q _ B2 H2 g2 (by simp only [Rp, Bool.false_and])
theorem ev_orV {a b : Bool} (h1 : EvE K ta env (.bl a)) (h2 : a = false → EvE K tb env (.bl b)) : EvE K (tOrV ta tb) env (.bl (a || b)) := fun σ B s H1 e Q q =>
  h1 σ B s H1 e _ fun v B2 H2 g2 r2 => by
    simp only [Rp] at r2
    subst r2
    refine ⟨a, rfl, ?_⟩
    cases a with
    | false =>
      show tb σ H2 Q
      exact h2 rfl σ B2 (s.mono g2.b) H2 g2.h Q fun w B3 H3 g3 r3 => q w B3 H3 (g2.trans g3) r3
    | true =>
      show Q (.bl true) H2
      exact q _ B2 H2 g2 (by simp only [Rp, Bool.true_or])
theorem ev_notV {a : Bool} (h1 : EvE K ta env (.bl a)) : EvE K (tNotV ta) env (.bl (!a)) := fun σ B s H1 e Q q =>
  h1 σ B s H1 e _ fun v B2 H2 g2 r2 => by
    simp only [Rp] at r2
    subst r2
    exact ⟨a, rfl, q _ B2 H2 g2 (by simp only [Rp])⟩
theorem ev_ifE {b : Bool} (h : EvB K tt env b) (h1 : b = true → EvE K ta env d) (h2 : b = false → EvE K tb env d) : EvE K (tIf tt ta tb) env d := fun σ B s H1 e Q q =>
  h σ B s H1 e _ fun H2 e2 => by
    have gt : ∀ v B' H3, Gr B H2 B' H3 → Rp K B' d v → Q v H3 := fun v B' H3 g r => q v B' H3 ((Gr.keep e e2).trans g) r
    cases b with
    | true =>
      show ta σ H2 Q
      exact h1 rfl σ B s H2 (e.trans e2) Q gt
    | false =>
      show tb σ H2 Q
      exact h2 rfl σ B s H2 (e.trans e2) Q gt
/-- a chain of two -/
theorem ev_chain {r r' : R2} {x y z : Da} {k b : Bool} (ha : EvE K ta env x) (hb : EvE K tb env y) (hc : k = true → EvE K tc env z)
    (h1 : ∀ B H v w, Ex B H → Rp K B x v → Rp K B y w → ∀ Q : VK, (∀ u B' H2, Gr B H B' H2 → Rp K B' (.bl k) u → Q u H2) → r v w H Q)
    (h2 : k = true → ∀ B H v w, Ex B H → Rp K B y v → Rp K B z w → ∀ Q : VK, (∀ u B' H2, Gr B H B' H2 → Rp K B' (.bl b) u → Q u H2) → r' v w H Q) : EvE K (tChain r r' ta tb tc) env (.bl (k && b)) := fun σ B s H1 e Q q =>
  ha σ B s H1 e _ fun v B2 H2 g2 r2 => hb σ B2 (s.mono g2.b) H2 g2.h _ fun w B3 H3 g3 r3 =>
    h1 B3 H3 v w g3.h (r2.mono g3.b) r3 _ fun u B4 H4 g4 r4 => by
      simp only [Rp] at r4
      subst r4
      have g := (g2.trans g3).trans g4
      refine ⟨k, rfl, ?_⟩
      cases k with
      | true =>
        show tc σ H4 fun w' H4 => r' w w' H4 Q
        exact hc rfl σ B4 (s.mono g.b) H4 g.h _ fun w' B5 H5 g5 r5 => h2 rfl B5 H5 w w' g5.h ((r3.mono g4.b).mono g5.b) r5 Q fun u B6 H6 g6 r6 => q u B6 H6 ((g.trans g5).trans g6) (by simpa only [Bool.true_and] using r6)
      | false =>
        show Q (.bl false) H4
        exact q _ B4 H4 g (by simp only [Rp, Bool.false_and])
theorem ru_I {g : Int → Int → V} {b : Bool} (hg : g i j = .bl b) (B H : Hp) (v w : V) (e : Ex B H) (r1 : Rp K B (.int i) v) (r2 : Rp K B (.int j) w) (Q : VK) (q : ∀ u B' H2, Gr B H B' H2 → Rp K B' (.bl b) u → Q u H2) : rI0 g v w H Q := by
  simp only [Rp] at r1 r2
  subst r1 r2
  refine ⟨i, j, rfl, rfl, q _ B H (Gr.refl e) ?_⟩
  simp only [Rp]
  exact hg
theorem ev_chainI {g g' : Int → Int → V} {l : Int} {k b : Bool} (hg : g i j = .bl k) (hg' : g' j l = .bl b) (ha : EvE K ta env (.int i)) (hb : EvE K tb env (.int j)) (hc : k = true → EvE K tc env (.int l)) : EvE K (tChain (rI0 g) (rI0 g') ta tb tc) env (.bl (k && b)) :=
  ev_chain ha hb hc (ru_I hg) (fun _ => ru_I hg')

/-! ### tests -/
theorem eb_test {b : Bool} (h : EvE K te env (.bl b)) : EvB K (tTest te) env b := fun σ B s H1 e Q q =>
  h σ B s H1 e _ fun v B2 H2 g2 r2 => by
    simp only [Rp] at r2
    exact ⟨b, r2, q H2 g2.k⟩
theorem eb_B {b : Bool} (h : EvE K te env (.bl b)) : EvB K (tB te) env b := fun σ B s H1 e Q q =>
  h σ B s H1 e _ fun v B2 H2 g2 r2 => by
    simp only [Rp] at r2
    exact ⟨b, r2, q H2 g2.k⟩
theorem eb_not {a : Bool} (h : EvB K tt env a) : EvB K (tNot tt) env (!a) := fun σ B s H1 e Q q => h σ B s H1 e _ fun H2 e2 => q H2 e2
theorem eb_and {a b : Bool} (h1 : EvB K tt env a) (h2 : a = true → EvB K tu env b) : EvB K (tAnd tt tu) env (a && b) := fun σ B s H1 e Q q => h1 σ B s H1 e _ fun H2 e2 => by
  cases a with
  | true =>
    show tu σ H2 Q
    exact h2 rfl σ B s H2 (e.trans e2) Q fun H3 e3 => q H3 (e2.trans e3)
  | false =>
    show Q false H2
    exact q H2 e2
theorem eb_or {a b : Bool} (h1 : EvB K tt env a) (h2 : a = false → EvB K tu env b) : EvB K (tOr tt tu) env (a || b) := fun σ B s H1 e Q q => h1 σ B s H1 e _ fun H2 e2 => by
  cases a with
  | true =>
    show Q true H2
    exact q H2 e2
  | false =>
    show tu σ H2 Q
    exact h2 rfl σ B s H2 (e.trans e2) Q fun H3 e3 => q H3 (e2.trans e3)
theorem eb_yes : EvB K tYes env true := fun σ B s H1 e Q q => q H1 (Ex.refl _)

/-! ### slices -/
def EvO (K : PySem.W.Frag) (to : TO) (env : En) (o : Option Int) : Prop := ∀ σ B, SD K B σ env → ∀ H1, Ex B H1 → ∀ Q : Option Int → Hp → Prop, (∀ H2, Ex H1 H2 → Q o H2) → to σ H1 Q
theorem eo_none : EvO K tNoPart env none := fun σ B s H1 e Q q => q H1 (Ex.refl _)
theorem eo_some (h : EvE K te env (.int i)) : EvO K (tPart te) env (some i) := fun σ B s H1 e Q q => h σ B s H1 e _ fun v B2 H2 g2 r2 => by
  simp only [Rp] at r2
  exact ⟨i, r2, q H2 g2.k⟩
theorem en_slL {tl th : TO} {lo hi : Option Int} (h : EvE K te env (.lst ds)) (h1 : EvO K tl env lo) (h2 : EvO K th env hi) : EvN K (tSl (rSlL K) te tl th) env (cutD ds lo hi) := fun σ B s H1 e Q q =>
  h σ B s H1 e _ fun v B2 H2 g2 r2 => h1 σ B2 (s.mono g2.b) H2 g2.h _ fun H3 e3 => h2 σ B2 (s.mono g2.b) H3 (g2.h.trans e3) _ fun H4 e4 => by
    simp only [Rp] at r2
    obtain ⟨a, xs, rfl, h5, h6⟩ := r2
    exact ⟨a, xs, rfl, sq_of (e4 _ _ (e3 _ _ (g2.h _ _ h5))), fun p hp => q p _ B2 _ ((g2.trans (Gr.keep g2.h (e3.trans e4))).trans (Gr.put (g2.h.trans (e3.trans e4)) hp)) (fresh_back (g2.k.trans (e3.trans e4)) hp) (fresh_back (g2.h.trans (e3.trans e4)) hp) upd_same (rp_cut h6)⟩
theorem en_slQ {tl th : TO} {lo hi : Option Int} (h : EvE K te env (.sq ds)) (h1 : EvO K tl env lo) (h2 : EvO K th env hi) : EvN K (tSl (rSlL K) te tl th) env (cutD ds lo hi) := fun σ B s H1 e Q q =>
  h σ B s H1 e _ fun v B2 H2 g2 r2 => h1 σ B2 (s.mono g2.b) H2 g2.h _ fun H3 e3 => h2 σ B2 (s.mono g2.b) H3 (g2.h.trans e3) _ fun H4 e4 => by
    simp only [Rp] at r2
    obtain ⟨a, xs, rfl, h5, h6⟩ := r2
    exact ⟨a, xs, rfl, ex_l e4 (ex_l e3 (ex_l g2.h h5)), fun p hp => q p _ B2 _ ((g2.trans (Gr.keep g2.h (e3.trans e4))).trans (Gr.put (g2.h.trans (e3.trans e4)) hp)) (fresh_back (g2.k.trans (e3.trans e4)) hp) (fresh_back (g2.h.trans (e3.trans e4)) hp) upd_same (rp_cut h6)⟩
theorem en_rev (h : EvE K te env (.lst ds)) : EvN K (tRevL K te) env ds.reverse := fun σ B s H1 e Q q =>
  h σ B s H1 e _ fun v B2 H2 g2 r2 => by
    simp only [Rp] at r2
    obtain ⟨a, xs, rfl, h5, h6⟩ := r2
    exact ⟨a, xs, rfl, sq_of (g2.h _ _ h5), fun p hp => q p _ B2 _ (g2.trans (Gr.put g2.h hp)) (fresh_back g2.k hp) (fresh_back g2.h hp) upd_same h6.rev⟩
theorem en_cat (ha : EvE K ta env (.lst ds)) (hb : EvE K tb env (.lst es)) (hl : ds.length + es.length ≤ 100000) : EvN K (tOp rCat ta tb) env (ds ++ es) :=
  ev_opN ha hb fun B H v w e r1 r2 Q q => by
    simp only [Rp] at r1 r2
    obtain ⟨a, xs, rfl, h2, h3⟩ := r1
    obtain ⟨b, ys, rfl, h4, h5⟩ := r2
    exact ⟨a, b, xs, ys, rfl, rfl, e _ _ h2, e _ _ h4, sz_of (by rw [h3.len, h5.len]; exact hl), fun p hp => q p _ B _ (Gr.put e hp) hp (fresh_back e hp) upd_same (h3.app h5)⟩
theorem en_listRg (ha : EvE K ta env (.int i)) (hb : EvE K tb env (.int j)) (h : RgOk i j) : EvN K (tLstRg (tRg2 ta tb)) env ((List.range (j - i).toNat).map fun k => Da.int (i + (k : Nat))) := fun σ B s H1 e Q q =>
  ha σ B s H1 e _ fun v B2 H2 g2 r2 => hb σ B2 (s.mono g2.b) H2 g2.h _ fun w B3 H3 g3 r3 => by
    simp only [Rp] at r2 r3
    subst r2 r3
    refine ⟨i, j, rfl, rfl, h, fun p hp => q p _ B3 _ ((g2.trans g3).trans (Gr.put g3.h hp)) (fresh_back (g2.trans g3).k hp) (fresh_back g3.h hp) upd_same ?_⟩
    have z := ints_rp (K := K) (B := B3) ((List.range (j - i).toNat).map fun k => i + ((k : Nat) : Int))
    rw [List.map_map, List.map_map] at z
    exact z
theorem en_listRg1 (hb : EvE K tb env (.int j)) (h : RgOk 0 j) : EvN K (tLstRg (tRg1 tb)) env ((List.range j.toNat).map fun k => Da.int ((k : Nat) : Int)) := fun σ B s H1 e Q q =>
  hb σ B s H1 e _ fun w B3 H3 g3 r3 => by
    simp only [Rp] at r3
    subst r3
    refine ⟨j, rfl, h, fun p hp => q p _ B3 _ (g3.trans (Gr.put g3.h hp)) (fresh_back g3.k hp) (fresh_back g3.h hp) upd_same ?_⟩
    have z := ints_rp (K := K) (B := B3) ((List.range (j - 0).toNat).map fun k => (0 : Int) + ((k : Nat) : Int))
    rw [List.map_map, List.map_map] at z
    have e0 : (j - 0).toNat = j.toNat := by rw [Int.sub_zero]
    rw [e0] at z
    have e1 : rgV 0 j = List.map (V.int ∘ fun k : Nat => 0 + (k : Int)) (List.range j.toNat) := by
      unfold rgV
      rw [e0]
      rfl
    rw [e1]
    have e2 : (List.map (fun k : Nat => Da.int (k : Int)) (List.range j.toNat)) = List.map (Da.int ∘ fun k : Nat => (0 : Int) + (k : Int)) (List.range j.toNat) := by
      apply List.map_congr_left
      intro a _
      simp
    rw [e2]
    exact z
end

/-! ### targets, walks, comprehensions -/
def TgE (K : PySem.W.Frag) (g : TG) (d : Da) (env env' : En) : Prop := ∀ σ B v, SD K B σ env → Rp K B d v → ∀ H, Ex B H → ∀ Q : L2.St → Hp → Prop, (∀ σ', SD K B σ' env' → Q σ' H) → g v σ H Q
section
variable {K : PySem.W.Frag} {env env' env2 : En} {d : Da}
theorem tg_name {i : Nat} : TgE K (gName i) d env (env.set i (.im d)) := fun σ B v s r H e Q q => q _ (s.set r)
theorem tg_tup2 {g1 g2 : TG} {x y : Da} (h1 : TgE K g1 x env env') (h2 : TgE K g2 y env' env2) : TgE K (gTup K 2 (gCons g1 (gCons g2 gNil))) (.tup [x, y]) env env2 := fun σ B v s r H e Q q => by
  simp only [Rp] at r
  obtain ⟨a, xs, rfl, h, hr⟩ := r
  obtain ⟨v, w, rfl, r1, r2⟩ := two_rp hr
  refine ⟨a, [v, w], rfl, st_of (e _ _ h), rfl, v, [w], rfl, h1 σ B v s r1 H e _ fun σ' s' => ⟨w, [], rfl, h2 σ' B w s' r2 H e _ fun σ2 s2 => ⟨rfl, q σ2 s2⟩⟩⟩
theorem tg_tup3 {g1 g2 g3 : TG} {x y z : Da} {env3 : En} (h1 : TgE K g1 x env env') (h2 : TgE K g2 y env' env2) (h3 : TgE K g3 z env2 env3) : TgE K (gTup K 3 (gCons g1 (gCons g2 (gCons g3 gNil)))) (.tup [x, y, z]) env env3 := fun σ B v s r H e Q q => by
  simp only [Rp] at r
  obtain ⟨a, xs, rfl, h, hr⟩ := r
  obtain ⟨v, r', rfl, r1, hr2⟩ := hr.uncons
  obtain ⟨w, u, rfl, r2, r3⟩ := two_rp hr2
  refine ⟨a, [v, w, u], rfl, st_of (e _ _ h), rfl, v, [w, u], rfl, h1 σ B v s r1 H e _ fun σ' s' => ⟨w, [u], rfl, h2 σ' B w s' r2 H e _ fun σ2 s2 => ⟨u, [], rfl, h3 σ2 B u s2 r3 H e _ fun σ3 s3 => ⟨rfl, q σ3 s3⟩⟩⟩⟩
end
end FR

/-! Walks, comprehensions, statements over data. -/
namespace FR
open PySem L2 Evl

/-! ### what is walked -/
def WkE (K : PySem.W.Frag) (wi : TI) (env : En) (ds : List Da) : Prop := ∀ σ B, SD K B σ env → ∀ H1, Ex B H1 → ∀ R : It → Hp → Prop,
  (∀ J B' H2 G Y, Gr B H1 B' H2 → Walk J ds.length G Y → (∀ H, Ex B' H → G H) → (∀ i H x H' Bi, Ex B' Bi → Ex Bi H → Y i H x H' → ∃ d B2, ds[i]? = some d ∧ Gr Bi H B2 H' ∧ Rp K B2 d x) → R J H2) → wi σ H1 R
section
variable {K : PySem.W.Frag} {env : En} {te ta tb : TE} {ds es : List Da} {i j : Int}
theorem wk_list (h : EvE K te env (.lst ds)) : WkE K (iList K te) env ds := fun σ B s H1 e R q =>
  h σ B s H1 e _ fun v B2 H2 g r => by
    simp only [Rp] at r
    obtain ⟨a, xs, rfl, h2, h3⟩ := r
    refine ⟨a, rfl, ⟨xs, sq_of (g.h _ _ h2)⟩, ?_⟩
    have w : Walk (Itl K a) xs.length (fun H => SqL K H a xs) (YAt xs) := walk_list
    rw [h3.len] at w
    refine q _ B2 H2 _ _ g w (fun H e2 => sq_of (e2 _ _ h2)) fun i H x H' Bi eb eh y => ?_
    obtain ⟨rfl, hx⟩ := y
    obtain ⟨d, hd, rd⟩ := h3.getV hx
    exact ⟨d, Bi, hd, Gr.refl eh, rd.mono eb⟩
theorem wk_sq (h : EvE K te env (.sq ds)) : WkE K (iList K te) env ds := fun σ B s H1 e R q =>
  h σ B s H1 e _ fun v B2 H2 g r => by
    simp only [Rp] at r
    obtain ⟨a, xs, rfl, h2, h3⟩ := r
    refine ⟨a, rfl, ⟨xs, ex_l g.h h2⟩, ?_⟩
    have w : Walk (Itl K a) xs.length (fun H => SqL K H a xs) (YAt xs) := walk_list
    rw [h3.len] at w
    refine q _ B2 H2 _ _ g w (fun H e2 => ex_l e2 h2) fun i H x H' Bi eb eh y => ?_
    obtain ⟨rfl, hx⟩ := y
    obtain ⟨d, hd, rd⟩ := h3.getV hx
    exact ⟨d, Bi, hd, Gr.refl eh, rd.mono eb⟩
theorem wk_tup (h : EvE K te env (.tup ds)) : WkE K (iTup K te) env ds := fun σ B s H1 e R q =>
  h σ B s H1 e _ fun v B2 H2 g r => by
    simp only [Rp] at r
    obtain ⟨a, xs, rfl, h2, h3⟩ := r
    refine ⟨a, rfl, ⟨xs, st_of (g.h _ _ h2)⟩, ?_⟩
    have w : Walk (Itt K a) xs.length (fun H => SqT K H a xs) (YAt xs) := walk_tup
    rw [h3.len] at w
    refine q _ B2 H2 _ _ g w (fun H e2 => st_of (e2 _ _ h2)) fun i H x H' Bi eb eh y => ?_
    obtain ⟨rfl, hx⟩ := y
    obtain ⟨d, hd, rd⟩ := h3.getV hx
    exact ⟨d, Bi, hd, Gr.refl eh, rd.mono eb⟩
theorem wk_rev {ta : TE} (h : EvE K te env (.lst ds)) : WkE K (iRev K (tCons te tNil)) env ds.reverse := fun σ B s H1 e R q =>
  h σ B s H1 e _ fun v B2 H2 g r => by
    simp only [Rp] at r
    obtain ⟨a, xs, rfl, h2, h3⟩ := r
    refine ⟨a, xs, rfl, sq_of (g.h _ _ h2), ?_⟩
    have w := walk_rev (K := K) (a := a) (xs := xs)
    have hl : xs.length = ds.reverse.length := by rw [h3.len, List.length_reverse]
    have w' : Walk (Itv K a xs.length) ds.reverse.length (fun H => SqL K H a xs) (fun i H x H' => H' = H ∧ xs[xs.length - 1 - i]? = some x ∧ i < xs.length) := by
      rw [← hl]
      exact w.mono (fun _ h => h) fun i H x H' hi _ y => ⟨y.1, y.2, hi⟩
    refine q _ B2 H2 _ _ g w' (fun H e2 => sq_of (e2 _ _ h2)) fun i H x H' Bi eb eh y => ?_
    obtain ⟨rfl, hx, hi⟩ := y
    have hrev := h3.rev
    have hx' : xs.reverse[i]? = some x := by
      rw [List.getElem?_reverse hi]
      exact hx
    obtain ⟨d, hd, rd⟩ := hrev.getV hx'
    exact ⟨d, Bi, hd, Gr.refl eh, rd.mono eb⟩
def rngD (i j : Int) : List Da := (List.range (j - i).toNat).map fun k => Da.int (i + (k : Nat))
theorem rngD_len (i j : Int) : (rngD i j).length = (j - i).toNat := by
  unfold rngD
  rw [List.length_map, List.length_range]
theorem rngD_get {i j : Int} {k : Nat} (h : k < (j - i).toNat) : (rngD i j)[k]? = some (.int (i + (k : Nat))) := by
  unfold rngD
  rw [List.getElem?_map, List.getElem?_range h]
  rfl
theorem wk_rng2 (ha : EvE K ta env (.int i)) (hb : EvE K tb env (.int j)) (hi : -(2 ^ 62) ≤ i ∧ i < 2 ^ 62 ∧ -(2 ^ 62) ≤ j ∧ j < 2 ^ 62) : WkE K (iRng2 (tCons ta (tCons tb tNil))) env (rngD i j) := fun σ B s H1 e R q =>
  ha σ B s H1 e _ fun v B2 H2 g2 r2 => hb σ B2 (s.mono g2.b) H2 g2.h _ fun w B3 H3 g3 r3 => by
    simp only [Rp] at r2 r3
    subst r2 r3
    refine ⟨i, j, rfl, hi, ?_⟩
    have w : Walk (Itr i (j - i).toNat) (rngD i j).length (fun _ => True) (fun k H x H' => (H' = H ∧ x = .int (i + k)) ∧ k < (j - i).toNat) := by
      rw [rngD_len]
      exact walk_range.mono (fun _ h => h) fun k H x H' hk _ y => ⟨y, hk⟩
    refine q _ B3 H3 _ _ (g2.trans g3) w (fun _ _ => trivial) fun k H x H' Bi eb eh y => ?_
    obtain ⟨⟨rfl, rfl⟩, hk⟩ := y
    exact ⟨_, Bi, rngD_get hk, Gr.refl eh, by simp only [Rp]⟩
theorem wk_rng1 (hb : EvE K tb env (.int j)) (hi : -(2 ^ 62) ≤ j ∧ j < 2 ^ 62) : WkE K (iRng1 (tCons tb tNil)) env (rngD 0 j) := fun σ B s H1 e R q =>
  hb σ B s H1 e _ fun w B3 H3 g3 r3 => by
    simp only [Rp] at r3
    subst r3
    refine ⟨j, rfl, hi.1, hi.2, ?_⟩
    have w : Walk (Itr 0 j.toNat) (rngD 0 j).length (fun _ => True) (fun k H x H' => (H' = H ∧ x = .int (0 + k)) ∧ k < (j - 0).toNat) := by
      rw [rngD_len, Int.sub_zero]
      exact walk_range.mono (fun _ h => h) fun k H x H' hk _ y => ⟨y, hk⟩
    refine q _ B3 H3 _ _ g3 w (fun _ _ => trivial) fun k H x H' Bi eb eh y => ?_
    obtain ⟨⟨rfl, rfl⟩, hk⟩ := y
    exact ⟨_, Bi, rngD_get hk, Gr.refl eh, by simp only [Rp]⟩
theorem wk_zip (ha : EvE K ta env (.lst ds)) (hb : EvE K tb env (.lst es)) : WkE K (iZip K (tCons ta (tCons tb tNil))) env (List.zipWith (fun x y => Da.tup [x, y]) ds es) := fun σ B s H1 e R q =>
  ha σ B s H1 e _ fun v B2 H2 g2 r2 => hb σ B2 (s.mono g2.b) H2 g2.h _ fun w B3 H3 g3 r3 => by
    simp only [Rp] at r2 r3
    obtain ⟨a, xs, rfl, h2, h3⟩ := r2
    obtain ⟨b, ys, rfl, h4, h5⟩ := r3
    refine ⟨a, b, xs, ys, rfl, sq_of (g3.h _ _ (g3.b _ _ h2)), sq_of (g3.h _ _ h4), ?_⟩
    have hl : (List.zipWith (fun x y => Da.tup [x, y]) ds es).length = min xs.length ys.length := by rw [List.length_zipWith, h3.len, h5.len]
    have w := walk_zip (K := K) (a := a) (b := b) hl
    refine q _ B3 H3 _ _ (g2.trans g3) w (fun H e2 => ⟨sq_of (e2 _ _ (g3.b _ _ h2)), sq_of (e2 _ _ h4)⟩) fun k H x H' Bi eb eh y => ?_
    obtain ⟨T, x1, x2, rfl, hT, rfl, e1, e2⟩ := y
    obtain ⟨d1, hd1, r1⟩ := h3.getV e1
    obtain ⟨d2, hd2, r2⟩ := h5.getV e2
    have nb : Ex Bi (upd Bi T (.tup [x1, x2])) := Ex.new (fresh_back eh hT)
    refine ⟨.tup [d1, d2], upd Bi T (.tup [x1, x2]), ?_, Gr.lay eh hT, ?_⟩
    · rw [List.getElem?_zipWith, hd1, hd2]
    · simp only [Rp]
      exact ⟨T, [x1, x2], rfl, upd_same, .cons (((r1.mono g3.b).mono eb).mono nb) (.cons ((r2.mono eb).mono nb) .nil)⟩
end

/-! ### comprehensions -/
def TgC (K : PySem.W.Frag) (g : TG) (d : Da) (env env' : En) (us : List Nat) : Prop := ∀ σ B v, SD K B σ env → Rp K B d v → ∀ H, Ex B H → ∀ Q : L2.St → Hp → Prop,
  (∀ σ', SD K B σ' env' → σ'.length = σ.length → (∀ j, j ∉ us → σ'[j]? = σ[j]?) → Q σ' H) → g v σ H Q
section
variable {K : PySem.W.Frag} {env env' env2 : En}
theorem tc_name {i : Nat} {d : Da} : TgC K (gName i) d env (env.set i (.im d)) [i] := fun σ B v s r H e Q q =>
  q _ (s.set r) (by rw [List.length_set]) fun j hj => by
    rw [List.getElem?_set_ne]
    intro z
    exact hj (by simp [z])
theorem tc_tup2 {g1 g2 : TG} {x y : Da} {u1 u2 : List Nat} (h1 : TgC K g1 x env env' u1) (h2 : TgC K g2 y env' env2 u2) : TgC K (gTup K 2 (gCons g1 (gCons g2 gNil))) (.tup [x, y]) env env2 (u1 ++ u2) := fun σ B v s r H e Q q => by
  simp only [Rp] at r
  obtain ⟨a, xs, rfl, h, hr⟩ := r
  obtain ⟨v, w, rfl, r1, r2⟩ := two_rp hr
  refine ⟨a, [v, w], rfl, st_of (e _ _ h), rfl, v, [w], rfl, h1 σ B v s r1 H e _ fun σ' s' l1 n1 => ⟨w, [], rfl, h2 σ' B w s' r2 H e _ fun σ2 s2 l2 n2 => ⟨rfl, q σ2 s2 (l2.trans l1) fun j hj => ?_⟩⟩⟩
  rw [n2 j fun z => hj (List.mem_append_right _ z), n1 j fun z => hj (List.mem_append_left _ z)]
theorem tc_tup3 {g1 g2 g3 : TG} {x y z : Da} {env3 : En} {u1 u2 u3 : List Nat} (h1 : TgC K g1 x env env' u1) (h2 : TgC K g2 y env' env2 u2) (h3 : TgC K g3 z env2 env3 u3) : TgC K (gTup K 3 (gCons g1 (gCons g2 (gCons g3 gNil)))) (.tup [x, y, z]) env env3 (u1 ++ u2 ++ u3) := fun σ B v s r H e Q q => by
  simp only [Rp] at r
  obtain ⟨a, xs, rfl, h, hr⟩ := r
  obtain ⟨v, r', rfl, r1, hr2⟩ := hr.uncons
  obtain ⟨w, u, rfl, r2, r3⟩ := two_rp hr2
  refine ⟨a, [v, w, u], rfl, st_of (e _ _ h), rfl, v, [w, u], rfl, h1 σ B v s r1 H e _ fun σ' s' l1 n1 => ⟨w, [u], rfl, h2 σ' B w s' r2 H e _ fun σ2 s2 l2 n2 => ⟨u, [], rfl, h3 σ2 B u s2 r3 H e _ fun σ3 s3 l3 n3 => ⟨rfl, q σ3 s3 (l3.trans (l2.trans l1)) fun j hj => ?_⟩⟩⟩⟩
  rw [n3 j fun z => hj (List.mem_append_right _ z), n2 j fun z => hj (List.mem_append_left _ (List.mem_append_right _ z)), n1 j fun z => hj (List.mem_append_left _ (List.mem_append_left _ z))]
theorem wipe_get (σ : L2.St) : ∀ (vs : List Nat) (j : Nat), (L2.wipe σ vs)[j]? = if j ∈ vs then (if j < σ.length then some none else none) else σ[j]?
  | [], j => by simp [L2.wipe]
  | v :: vs, j => by
    show ((L2.wipe σ vs).set v none)[j]? = _
    by_cases e : v = j
    · subst e
      rw [List.getElem?_set_self']
      simp only [List.mem_cons, true_or, if_true]
      by_cases hl : v < σ.length
      · have h2 : v < (L2.wipe σ vs).length := by rw [L2.wipe_length]; exact hl
        rw [List.getElem?_eq_getElem h2, if_pos hl]
        rfl
      · have h2 : ¬ v < (L2.wipe σ vs).length := by rw [L2.wipe_length]; exact hl
        rw [List.getElem?_eq_none (by omega), if_neg hl]
        rfl
    · rw [List.getElem?_set_ne e, wipe_get σ vs j]
      have e2 : (j ∈ v :: vs) = (j ∈ vs) := by
        simp only [List.mem_cons, eq_iff_iff, or_iff_right_iff_imp]
        intro z
        exact absurd z.symm e
      simp only [e2]
theorem wipe_eq {σ σ' : L2.St} {vs us : List Nat} (hl : σ'.length = (L2.wipe σ vs).length) (h : ∀ j, j ∉ us → σ'[j]? = (L2.wipe σ vs)[j]?) (hu : ∀ j ∈ us, j ∈ vs) : L2.wipe σ' vs = L2.wipe σ vs := by
  apply List.ext_getElem?
  intro j
  rw [wipe_get, wipe_get]
  rw [L2.wipe_length] at hl
  by_cases hj : j ∈ vs
  · rw [if_pos hj, if_pos hj, hl]
  · rw [if_neg hj, if_neg hj, h j fun z => hj (hu j z), wipe_get, if_neg hj]
variable {wi : TI} {g : TG} {tt : TT} {te : TE} {vs us : List Nat}
theorem en_lc {α : Type} (δ : α → Da) (p : α → Bool) (f : α → Da) (xs : List α) (hw : WkE K wi env (xs.map δ)) (hu : ∀ j ∈ us, j ∈ vs) (hz : xs.length ≤ 50000)
    (h : ∀ x ∈ xs, ∃ env', TgC K g (δ x) (wipeE env vs) env' us ∧ EvB K tt env' (p x) ∧ (p x = true → EvE K te env' (f x))) : EvN K (tLc wi g tt te vs) env ((xs.filter p).map f) := fun σ B s H1 e Q q =>
  hw σ B s H1 e _ fun J B' H2 G Y g0 w hG hY D hD => by
    rw [List.length_map] at w
    refine lc_it w (fun i H => ∃ Bi acc, Ex B' Bi ∧ Ex Bi H ∧ (∀ a, H2 a ≠ none → Bi a = B' a ∧ H a = H2 a) ∧ Bi D = none ∧ H D = some (.lst acc) ∧ RpAll K Bi (((xs.take i).filter p).map f) acc)
      ⟨B', [], Ex.refl _, g0.h.trans (Ex.new hD), fun a ha => ⟨rfl, upd_ne fun z => ha (by rw [z]; exact hD)⟩, fresh_back g0.h hD, upd_same, .nil⟩
      (fun i H _ hp => by
        obtain ⟨Bi, acc, e1, e2, _⟩ := hp
        exact hG H (e1.trans e2)) ?_ ?_
    · rintro i x H H' hi ⟨Bi, acc, e1, e2, old, bD, hDD, racc⟩ y
      obtain ⟨d, B2, hd, gy, rd⟩ := hY i H x H' Bi e1 e2 y
      rw [List.getElem?_map] at hd
      obtain ⟨x0, hx0, rfl⟩ : ∃ x0, xs[i]? = some x0 ∧ δ x0 = d := by
        cases hq : xs[i]? with
        | none =>
          rw [hq] at hd
          cases hd
        | some x0 =>
          rw [hq] at hd
          exact ⟨x0, rfl, Option.some.inj hd⟩
      obtain ⟨env', tg, tb, tv⟩ := h x0 (List.mem_of_getElem? hx0)
      have sw : SD K B2 (L2.wipe σ vs) (wipeE env vs) := (s.wipe vs).mono (((g0.b).trans e1).trans gy.b)
      refine tg _ B2 x sw rd H' gy.h _ fun σ2 s2 hl hn => ⟨wipe_eq hl hn hu, ?_⟩
      refine tb σ2 B2 s2 H' gy.h _ fun H3 e3 => ?_
      have hDn : H D ≠ none := by rw [hDD]; exact fun z => by cases z
      have b2D : B2 D = none := by rw [gy.n D hDn, bD]
      have h3D : H3 D = some (.lst acc) := e3 _ _ (gy.k _ _ hDD)
      have neD : ∀ a, H2 a ≠ none → a ≠ D := fun a ha z => ha (by rw [z]; exact hD)
      have hHn : ∀ a, H2 a ≠ none → H a ≠ none := fun a ha => by rw [(old a ha).2]; exact ha
      have exn : ∀ {Ha Hb : Hp} {a : Addr}, Ex Ha Hb → Ha a ≠ none → Hb a = Ha a := fun {Ha Hb a} ee ha => by
        cases hq : Ha a with
        | none => exact absurd hq ha
        | some o => exact ee a o hq
      have takeS : xs.take (i + 1) = xs.take i ++ [x0] := by
        rw [List.take_add_one, hx0]
        rfl
      cases hp : p x0 with
      | true =>
        show te σ2 H3 _
        refine tv hp σ2 B2 s2 H3 (gy.h.trans e3) _ fun v B3 H4 g4 r4 => ?_
        have h3n : ∀ a, H a ≠ none → H3 a ≠ none := fun a ha => by rw [exn (gy.k.trans e3) ha]; exact ha
        have b3D : B3 D = none := by rw [g4.n D (by rw [h3D]; exact fun z => by cases z), b2D]
        refine ⟨acc, g4.k _ _ h3D, sz_lt ?_, B3, acc ++ [v], (e1.trans gy.b).trans g4.b, Ex.mut g4.h b3D, fun a ha => ⟨?_, ?_⟩, b3D, upd_same, ?_⟩
        · have l1 := racc.len
          have l2 := List.length_filter_le p (xs.take i)
          rw [List.length_map] at l1
          rw [List.length_take] at l2
          omega
        · rw [g4.n a (h3n a (hHn a ha)), gy.n a (hHn a ha), (old a ha).1]
        · rw [upd_ne (neD a ha), exn g4.k (h3n a (hHn a ha)), exn (gy.k.trans e3) (hHn a ha), (old a ha).2]
        · rw [takeS, List.filter_append, List.map_append, show List.filter p [x0] = [x0] by simp [hp]]
          exact (RpAll.mono (gy.b.trans g4.b) _ _ racc).app (.cons r4 .nil)
      | false =>
        show ∃ Bi acc, _
        refine ⟨B2, acc, e1.trans gy.b, gy.h.trans e3, fun a ha => ⟨?_, ?_⟩, b2D, h3D, ?_⟩
        · rw [gy.n a (hHn a ha), (old a ha).1]
        · rw [exn (gy.k.trans e3) (hHn a ha), (old a ha).2]
        · rw [takeS, List.filter_append, show List.filter p [x0] = [] by simp [hp], List.append_nil]
          exact RpAll.mono gy.b _ _ racc
    · rintro H ⟨Bi, acc, e1, e2, old, bD, hDD, racc⟩
      rw [List.take_length] at racc
      refine q D acc Bi H (g0.trans ⟨e1, e2, fun a o ha => ?_, fun a ha => (old a ha).1⟩) (fresh_back g0.k hD) bD hDD racc
      rw [(old a (by rw [ha]; exact fun z => by cases z)).2]
      exact ha
end

/-! ### states -/
def OwL (K : PySem.W.Frag) (B H : Hp) : List (List Da) → List Addr → Prop
  | [], ls => ls = []
  | ds :: r, ls => ∃ l t xs, ls = l :: t ∧ H l = some (.lst xs) ∧ RpAll K B ds xs ∧ OwL K B H r t
def SlO (K : PySem.W.Frag) (B H : Hp) (o : Option (Option V)) (A : List Addr) : Sl → Prop
  | .no => True
  | .im d => ∃ v, o = some (some v) ∧ Rp K B d v
  | .mu ds => ∃ l xs, o = some (some (.ref l)) ∧ A = [l] ∧ H l = some (.lst xs) ∧ RpAll K B ds xs
  | .md kvs => ∃ l ws, o = some (some (.ref l)) ∧ A = [l] ∧ H l = some (.dK ws) ∧ KvR K B kvs ws
  | .ob C ns dss => ∃ a dx ls, o = some (some (.ref a)) ∧ A = a :: ls ∧ A.Nodup ∧ H a = some (.ins C dx (ns.zip (ls.map V.ref))) ∧ ls.length = ns.length ∧ OwL K B H dss ls
structure Sta (K : PySem.W.Frag) (B0 H0 B H : Hp) (σ : L2.St) (env : En) : Prop where
  eB : Ex B0 B
  eH : Ex B H
  old : ∀ a, H0 a ≠ none → B a = B0 a ∧ H a = H0 a
  len : env.length = σ.length
  own : ∃ ad : Nat → List Addr, (∀ i j x, x ∈ ad i → x ∈ ad j → i = j) ∧ (∀ i x, x ∈ ad i → H0 x = none ∧ B x = none ∧ H x ≠ none) ∧ ∀ i s, env[i]? = some s → SlO K B H (σ[i]?) (ad i) s
structure Ed where
  nx : En → Prop
  rd : Da → Prop
  rl : List Da → Prop
  ro : Addr → List Str → List (List Da) → Prop := fun _ _ _ => False
  bk : En → Prop := fun _ => False
  ct : En → Prop := fun _ => False
structure EndsOk (K : PySem.W.Frag) (B0 H0 Bs : Hp) (D : Ends) (E : Ed) : Prop where
  nx : ∀ σ B H env, Sta K B0 H0 B H σ env → Ex Bs B → E.nx env → D.nx σ H
  bk : ∀ σ B H env, Sta K B0 H0 B H σ env → Ex Bs B → E.bk env → D.bk σ H
  ct : ∀ σ B H env, Sta K B0 H0 B H σ env → Ex Bs B → E.ct env → D.ct σ H
  rd : ∀ v B H d, Gr B0 H0 B H → Rp K B d v → E.rd d → D.rt v H
  rl : ∀ l xs B H ds, Gr B0 H0 B H → H0 l = none → B l = none → H l = some (.lst xs) → RpAll K B ds xs → E.rl ds → D.rt (.ref l) H
  ro : ∀ a dx ls B H C ns dss, Gr B0 H0 B H → (a :: ls).Nodup → (∀ x ∈ a :: ls, H0 x = none ∧ B x = none) → H a = some (.ins C dx (ns.zip (ls.map V.ref))) → ls.length = ns.length → OwL K B H dss ls → E.ro C ns dss → D.rt (.ref a) H
def Run (K : PySem.W.Frag) (t : TS) (env : En) (E : Ed) : Prop := ∀ B0 H0 B H σ D Bs, Ex Bs B → Sta K B0 H0 B H σ env → EndsOk K B0 H0 Bs D E → t D σ H
section
variable {K : PySem.W.Frag} {B0 H0 B B' H H' H1 H2 : Hp} {σ : L2.St} {env env' : En}
theorem ex_ne {Ha Hb : Hp} {a : Addr} (ee : Ex Ha Hb) (ha : Ha a ≠ none) : Hb a = Ha a := by
  cases hq : Ha a with
  | none => exact absurd hq ha
  | some o => exact ee a o hq
theorem ex_nn {Ha Hb : Hp} {a : Addr} (ee : Ex Ha Hb) (ha : Ha a ≠ none) : Hb a ≠ none := by
  rw [ex_ne ee ha]
  exact ha
theorem OwL.up (eB : Ex B B') (eH : Ex H H') : ∀ {dss : List (List Da)} {ls : List Addr}, OwL K B H dss ls → OwL K B' H' dss ls
  | [], ls, h => h
  | ds :: r, ls, h => by
    obtain ⟨l, t, xs, h1, h2, h3, h4⟩ := h
    exact ⟨l, t, xs, h1, eH _ _ h2, RpAll.mono eB _ _ h3, h4.up eB eH⟩
theorem SlO.up (eB : Ex B B') (eH : Ex H H') {o : Option (Option V)} {A : List Addr} {s : Sl} (h : SlO K B H o A s) : SlO K B' H' o A s := by
  cases s with
  | no => trivial
  | im d =>
    obtain ⟨v, h1, h2⟩ := h
    exact ⟨v, h1, h2.mono eB⟩
  | mu ds =>
    obtain ⟨l, xs, h1, h2, h3, h4⟩ := h
    exact ⟨l, xs, h1, h2, eH _ _ h3, RpAll.mono eB _ _ h4⟩
  | md kvs =>
    obtain ⟨l, ws, h1, h2, h3, h4⟩ := h
    exact ⟨l, ws, h1, h2, eH _ _ h3, h4.mono eB⟩
  | ob C ns dss =>
    obtain ⟨a, dx, ls, h1, h2, h3, h4, h5, h6⟩ := h
    exact ⟨a, dx, ls, h1, h2, h3, eH _ _ h4, h5, h6.up eB eH⟩
theorem Sta.gr (s : Sta K B0 H0 B H σ env) : Gr B0 H0 B H := ⟨s.eB, s.eH, fun a o h => by rw [(s.old a (by rw [h]; exact fun z => by cases z)).2]; exact h, fun a h => (s.old a h).1⟩
/-- the heap and the base grow -/
theorem Sta.up (s : Sta K B0 H0 B H σ env) (g : Gr B H B' H') : Sta K B0 H0 B' H' σ env := by
  obtain ⟨ad, a1, a2, a3⟩ := s.own
  refine ⟨s.eB.trans g.b, g.h, fun a h => ?_, s.len, ad, a1, fun i x hx => ?_, fun i sl hs => (a3 i sl hs).up g.b g.k⟩
  · have hH : H a ≠ none := by rw [(s.old a h).2]; exact h
    exact ⟨by rw [g.n a hH, (s.old a h).1], by rw [ex_ne g.k hH, (s.old a h).2]⟩
  · obtain ⟨z1, z2, z3⟩ := a2 i x hx
    exact ⟨z1, by rw [g.n x z3, z2], ex_nn g.k z3⟩
theorem Sta.grow (s : Sta K B0 H0 B H σ env) (e : Ex H H') : Sta K B0 H0 B H' σ env := s.up (Gr.keep s.eH e)
/-- a slot bound anew: to data, or to what is new since H -/
theorem Sta.new (s : Sta K B0 H0 B H σ env) (g : Gr B H B' H') {i : Nat} {v : V} {sl : Sl} (A : List Addr) (hA : ∀ x ∈ A, H x = none ∧ B' x = none ∧ H' x ≠ none) (hs : SlO K B' H' (some (some v)) A sl) : Sta K B0 H0 B' H' (σ.set i (some v)) (env.set i sl) := by
  obtain ⟨ad, a1, a2, a3⟩ := s.own
  have h0 : ∀ x, H x = none → H0 x = none := fun x hx => by
    cases hq : H0 x with
    | none => rfl
    | some o =>
      have := (s.old x (by rw [hq]; exact fun z => by cases z)).2
      rw [hx, hq] at this
      cases this
  have s' := s.up g
  have hdis : ∀ k x, x ∈ A → x ∈ ad k → False := fun k x h1 h2 => (a2 k x h2).2.2 (hA x h1).1
  refine ⟨s'.eB, s'.eH, s'.old, by rw [List.length_set, List.length_set, s.len], fun k => if k = i then A else ad k, fun k j x hk hj => ?_, fun k x hk => ?_, fun k t ht => ?_⟩
  · by_cases e1 : k = i
    · by_cases e2 : j = i
      · rw [e1, e2]
      · simp only [if_pos e1] at hk
        simp only [if_neg e2] at hj
        exact (hdis j x hk hj).elim
    · simp only [if_neg e1] at hk
      by_cases e2 : j = i
      · simp only [if_pos e2] at hj
        exact (hdis k x hj hk).elim
      · simp only [if_neg e2] at hj
        exact a1 k j x hk hj
  · by_cases e1 : k = i
    · simp only [if_pos e1] at hk
      obtain ⟨z1, z2, z3⟩ := hA x hk
      exact ⟨h0 x z1, z2, z3⟩
    · simp only [if_neg e1] at hk
      obtain ⟨z1, z2, z3⟩ := a2 k x hk
      exact ⟨z1, by rw [g.n x z3, z2], ex_nn g.k z3⟩
  · by_cases e1 : i = k
    · subst e1
      rw [List.getElem?_set_self'] at ht
      cases hi : env[i]? with
      | none =>
        rw [hi] at ht
        cases ht
      | some t' =>
        rw [hi] at ht
        cases ht
        have hl : i < σ.length := by
          rw [← s.len]
          exact (List.getElem?_eq_some_iff.mp hi).1
        rw [List.getElem?_set_self hl]
        simp only [if_true]
        exact hs
    · rw [List.getElem?_set_ne e1] at ht ⊢
      have e2 : ¬ k = i := fun z => e1 z.symm
      simp only [if_neg e2]
      exact (a3 k t ht).up g.b g.k
theorem Sta.im (s : Sta K B0 H0 B H σ env) (g : Gr B H B' H') {i : Nat} {v : V} {d : Da} (r : Rp K B' d v) : Sta K B0 H0 B' H' (σ.set i (some v)) (env.set i (.im d)) :=
  s.new g [] (fun x h => by cases h) ⟨v, rfl, r⟩
theorem Sta.no (s : Sta K B0 H0 B H σ env) {i : Nat} {v : V} : Sta K B0 H0 B H (σ.set i (some v)) (env.set i .no) :=
  s.new (Gr.refl s.eH) [] (fun x h => by cases h) trivial
theorem Sta.mu (s : Sta K B0 H0 B H σ env) (g : Gr B H B' H') {i : Nat} {p : Addr} {xs : List V} {ds : List Da} (h1 : H p = none) (h2 : B' p = none) (h3 : H' p = some (.lst xs)) (r : RpAll K B' ds xs) : Sta K B0 H0 B' H' (σ.set i (some (.ref p))) (env.set i (.mu ds)) :=
  s.new g [p] (fun x h => by
    rw [List.mem_singleton] at h
    subst h
    exact ⟨h1, h2, by rw [h3]; exact fun z => by cases z⟩) ⟨p, xs, rfl, rfl, h3, r⟩
theorem Sta.md (s : Sta K B0 H0 B H σ env) (g : Gr B H B' H') {i : Nat} {p : Addr} {ws : List (Key × V)} {kvs : List (Int × Da)} (h1 : H p = none) (h2 : B' p = none) (h3 : H' p = some (.dK ws)) (r : KvR K B' kvs ws) : Sta K B0 H0 B' H' (σ.set i (some (.ref p))) (env.set i (.md kvs)) :=
  s.new g [p] (fun x h => by
    rw [List.mem_singleton] at h
    subst h
    exact ⟨h1, h2, by rw [h3]; exact fun z => by cases z⟩) ⟨p, ws, rfl, rfl, h3, r⟩
theorem OwL.same : ∀ {dss : List (List Da)} {ls : List Addr}, (∀ a ∈ ls, H' a = H a) → OwL K B H dss ls → OwL K B H' dss ls
  | [], ls, _, h => h
  | ds :: r, ls, e, h => by
    obtain ⟨l, t, xs, rfl, h2, h3, h4⟩ := h
    exact ⟨l, t, xs, rfl, by rw [e l List.mem_cons_self]; exact h2, h3, h4.same fun a ha => e a (List.mem_cons_of_mem _ ha)⟩
theorem SlO.same {o : Option (Option V)} {A : List Addr} {s : Sl} (e : ∀ a ∈ A, H' a = H a) (h : SlO K B H o A s) : SlO K B H' o A s := by
  cases s with
  | no => trivial
  | im d => exact h
  | mu ds =>
    obtain ⟨l, xs, h1, rfl, h3, h4⟩ := h
    exact ⟨l, xs, h1, rfl, by rw [e l List.mem_cons_self]; exact h3, h4⟩
  | md kvs =>
    obtain ⟨l, ws, h1, rfl, h3, h4⟩ := h
    exact ⟨l, ws, h1, rfl, by rw [e l List.mem_cons_self]; exact h3, h4⟩
  | ob C ns dss =>
    obtain ⟨a, dx, ls, h1, rfl, h3, h4, h5, h6⟩ := h
    exact ⟨a, dx, ls, h1, rfl, h3, by rw [e a List.mem_cons_self]; exact h4, h5, h6.same fun a ha => e a (List.mem_cons_of_mem _ ha)⟩
/-- an own thing written -/
theorem Sta.wr (s : Sta K B0 H0 B H σ env) {ad : Nat → List Addr} (a1 : ∀ i j x, x ∈ ad i → x ∈ ad j → i = j) (a2 : ∀ i x, x ∈ ad i → H0 x = none ∧ B x = none ∧ H x ≠ none) (a3 : ∀ i s, env[i]? = some s → SlO K B H (σ[i]?) (ad i) s)
    {i : Nat} {sl : Sl} (same : ∀ a, a ∉ ad i → H' a = H a) (nn : ∀ a ∈ ad i, H' a ≠ none) (hs : SlO K B H' (σ[i]?) (ad i) sl) : Sta K B0 H0 B H' σ (env.set i sl) := by
  refine ⟨s.eB, fun a o h => ?_, fun a h => ?_, by rw [List.length_set, s.len], ad, a1, fun k x hk => ?_, fun k t ht => ?_⟩
  · rw [same a fun z => by rw [(a2 i a z).2.1] at h; cases h]
    exact s.eH a o h
  · rw [same a fun z => h (a2 i a z).1]
    exact s.old a h
  · obtain ⟨z1, z2, z3⟩ := a2 k x hk
    refine ⟨z1, z2, ?_⟩
    by_cases q : x ∈ ad i
    · exact nn x q
    · rw [same x q]
      exact z3
  · by_cases e1 : i = k
    · subst e1
      rw [List.getElem?_set_self'] at ht
      cases hi : env[i]? with
      | none =>
        rw [hi] at ht
        cases ht
      | some t' =>
        rw [hi] at ht
        cases ht
        exact hs
    · rw [List.getElem?_set_ne e1] at ht
      exact (a3 k t ht).same fun a ha => same a fun z => e1 (a1 i k a z ha)
/-- the views -/
theorem OwL.rp : ∀ {dss : List (List Da)} {ls : List Addr}, Ex B H → OwL K B H dss ls → RpAll K H (dss.map Da.lst) (ls.map V.ref)
  | [], ls, _, h => by
    have e : ls = [] := h
    subst e
    exact .nil
  | ds :: r, ls, e, h => by
    obtain ⟨l, t, xs, rfl, h2, h3, h4⟩ := h
    rw [List.map_cons, List.map_cons]
    refine .cons ?_ (h4.rp e)
    simp only [Rp]
    exact ⟨l, xs, rfl, h2, RpAll.mono e _ _ h3⟩
theorem Sta.frz (s : Sta K B0 H0 B H σ env) : SD K H σ (frz env) := by
  obtain ⟨ad, a1, a2, a3⟩ := s.own
  refine ⟨by rw [List.length_map, s.len], fun i t ht => ?_⟩
  rw [List.getElem?_map] at ht
  cases hi : env[i]? with
  | none =>
    rw [hi] at ht
    cases ht
  | some t' =>
    rw [hi] at ht
    cases ht
    have h := a3 i t' hi
    cases t' with
    | no => trivial
    | im d =>
      obtain ⟨v, h1, h2⟩ := h
      exact ⟨v, h1, h2.mono s.eH⟩
    | mu ds =>
      obtain ⟨l, xs, h1, h2, h3, h4⟩ := h
      exact ⟨_, h1, by simp only [Rp]; exact ⟨l, xs, rfl, h3, RpAll.mono s.eH _ _ h4⟩⟩
    | md kvs =>
      obtain ⟨l, ws, h1, h2, h3, h4⟩ := h
      exact ⟨l, ws, h1, h3, h4.mono s.eH⟩
    | ob C ns dss =>
      obtain ⟨a, dx, ls, h1, h2, h3, h4, h5, h6⟩ := h
      exact ⟨_, h1, by simp only [Rp]; exact ⟨a, dx, ls.map V.ref, rfl, h4, by rw [List.length_map]; exact h5, h6.rp s.eH⟩⟩
theorem Sta.imm (s : Sta K B0 H0 B H σ env) : SD K B σ (imm env) := by
  obtain ⟨ad, a1, a2, a3⟩ := s.own
  refine ⟨by rw [List.length_map, s.len], fun i t ht => ?_⟩
  rw [List.getElem?_map] at ht
  cases hi : env[i]? with
  | none =>
    rw [hi] at ht
    cases ht
  | some t' =>
    rw [hi] at ht
    cases ht
    have h := a3 i t' hi
    cases t' with
    | im d => exact h
    | _ => trivial
end

/-! ### statements -/
section
variable {K : PySem.W.Frag} {env env' : En} {E : Ed} {t u tb : TS} {te ta : TE} {tt : TT} {d : Da} {ds : List Da} {i : Nat}
theorem run_seq (h : Run K t env { E with nx := fun e => Run K u e E }) : Run K (tSeq t u) env E := fun B0 H0 B H σ D Bs eb s k =>
  h B0 H0 B H σ { D with nx := u D } Bs eb s ⟨fun σ' B' H' e' s' eb' r => r B0 H0 B' H' σ' D Bs eb' s' k, k.bk, k.ct, k.rd, k.rl, k.ro⟩
theorem run_next (h : E.nx env) : Run K tNext env E := fun B0 H0 B H σ D Bs eb s k => k.nx σ B H env s eb h
theorem run_asg (h : EvE K te (imm env) d) (q : E.nx (env.set i (.im d))) : Run K (tAsg te (gName i)) env E := fun B0 H0 B H σ D Bs eb s k =>
  h σ B s.imm H s.eH _ fun v B' H' g r => k.nx _ B' H' _ (s.im g r) (eb.trans g.b) q
theorem run_asgF (h : EvE K te (frz env) d) (hs : isSc d = true) (q : E.nx (env.set i (.im d))) : Run K (tAsg te (gName i)) env E := fun B0 H0 B H σ D Bs eb s k =>
  h σ H s.frz H (Ex.refl _) _ fun v B' H' g r => k.nx _ B H' _ (s.im (Gr.keep s.eH g.k) (r.sc hs)) eb q
theorem run_asgN (h : EvN K te (imm env) ds) (q : E.nx (env.set i (.mu ds))) : Run K (tAsg te (gName i)) env E := fun B0 H0 B H σ D Bs eb s k =>
  h σ B s.imm H s.eH _ fun p xs B' H' g h1 h2 h3 r => k.nx _ B' H' _ (s.mu g h1 h2 h3 r) (eb.trans g.b) q
theorem run_asgNF (h : EvN K te (frz env) ds) (hs : ds.all isSc = true) (q : E.nx (env.set i (.mu ds))) : Run K (tAsg te (gName i)) env E := fun B0 H0 B H σ D Bs eb s k =>
  h σ H s.frz H (Ex.refl _) _ fun p xs B' H' g h1 h2 h3 r => k.nx _ B H' _ (s.mu (Gr.keep s.eH g.k) h1 (fresh_back s.eH h1) h3 (r.sc hs)) eb q
theorem run_asgD {kvs : List (Int × Da)} (h : EvD K te (imm env) kvs) (q : E.nx (env.set i (.md kvs))) : Run K (tAsg te (gName i)) env E := fun B0 H0 B H σ D Bs eb s k =>
  h σ B s.imm H s.eH _ fun p xs B' H' g h1 h2 h3 r => k.nx _ B' H' _ (s.md g h1 h2 h3 r) (eb.trans g.b) q
theorem run_par {j : Nat} {ta : TA} {d' : Da} (h : EvA K ta (imm env) [d, d']) (q : E.nx ((env.set i (.im d)).set j (.im d'))) : Run K (tPar i j ta) env E := fun B0 H0 B H σ D Bs eb s k =>
  h σ B s.imm H s.eH _ fun vs B' H' g r => by
    obtain ⟨v, w, rfl, r1, r2⟩ := two_rp r
    exact ⟨v, w, rfl, k.nx _ B' H' _ ((s.im g r1).im (Gr.refl g.h) r2) (eb.trans g.b) q⟩
theorem run_parF {j : Nat} {ta : TA} {d' : Da} (h : EvA K ta (frz env) [d, d']) (h1 : isSc d = true) (h2 : isSc d' = true) (q : E.nx ((env.set i (.im d)).set j (.im d'))) : Run K (tPar i j ta) env E := fun B0 H0 B H σ D Bs eb s k =>
  h σ H s.frz H (Ex.refl _) _ fun vs B' H' g r => by
    obtain ⟨v, w, rfl, r1, r2⟩ := two_rp r
    exact ⟨v, w, rfl, k.nx _ B H' _ ((s.im (Gr.keep s.eH g.k) (r1.sc h1)).im (Gr.refl (s.eH.trans g.k)) (r2.sc h2)) eb q⟩
theorem run_if {b : Bool} (h : EvB K tt (frz env) b) (h1 : b = true → Run K t env E) (h2 : b = false → Run K u env E) : Run K (tIfS tt t u) env E := fun B0 H0 B H σ D Bs eb s k =>
  h σ H s.frz H (Ex.refl _) _ fun H' e => by
    cases b with
    | true =>
      show t D σ H'
      exact h1 rfl B0 H0 B H' σ D Bs eb (s.grow e) k
    | false =>
      show u D σ H'
      exact h2 rfl B0 H0 B H' σ D Bs eb (s.grow e) k
theorem run_never (h : False) : Run K tNever env E := h.elim
theorem run_drop (h : EvE K te (frz env) d) (q : E.nx env) : Run K (tDrop te) env E := fun B0 H0 B H σ D Bs eb s k =>
  h σ H s.frz H (Ex.refl _) _ fun v B' H' g r => k.nx σ B H' env (s.grow g.k) eb q
theorem run_ret (h : EvE K te (imm env) d) (q : E.rd d) : Run K (tRet te) env E := fun B0 H0 B H σ D Bs eb s k =>
  h σ B s.imm H s.eH _ fun v B' H' g r => k.rd v B' H' d ((s.up g).gr) r q
theorem run_retF (h : EvE K te (frz env) d) (hs : isSc d = true) (q : E.rd d) : Run K (tRet te) env E := fun B0 H0 B H σ D Bs eb s k =>
  h σ H s.frz H (Ex.refl _) _ fun v B' H' g r => k.rd v B H' d ((s.grow g.k).gr) (r.sc hs) q
theorem h0_none {B0 H0 B H : Hp} {σ : L2.St} {x : Addr} (s : Sta K B0 H0 B H σ env) (hx : H x = none) : H0 x = none := by
  cases hq : H0 x with
  | none => rfl
  | some o =>
    have := (s.old x (by rw [hq]; exact fun z => by cases z)).2
    rw [hx, hq] at this
    cases this
theorem run_retN (h : EvN K te (imm env) ds) (q : E.rl ds) : Run K (tRet te) env E := fun B0 H0 B H σ D Bs eb s k =>
  h σ B s.imm H s.eH _ fun p xs B' H' g h1 h2 h3 r => k.rl p xs B' H' ds ((s.up g).gr) (h0_none s h1) h2 h3 r q
theorem run_retNF (h : EvN K te (frz env) ds) (hs : ds.all isSc = true) (q : E.rl ds) : Run K (tRet te) env E := fun B0 H0 B H σ D Bs eb s k =>
  h σ H s.frz H (Ex.refl _) _ fun p xs B' H' g h1 h2 h3 r => k.rl p xs B H' ds ((s.grow g.k).gr) (h0_none s h1) (fresh_back s.eH h1) h3 (r.sc hs) q
theorem run_retV (h : env[i]? = some (.mu ds)) (q : E.rl ds) : Run K (tRet (tVar i)) env E := fun B0 H0 B H σ D Bs eb s k => by
  obtain ⟨ad, a1, a2, a3⟩ := s.own
  obtain ⟨l, xs, h1, h2, h3, h4⟩ := a3 i _ h
  obtain ⟨z1, z2, z3⟩ := a2 i l (by rw [h2]; exact List.mem_cons_self)
  exact ⟨_, h1, k.rl l xs B H ds s.gr z1 z2 h3 h4 q⟩
theorem run_retNo (q : E.rd .non) : Run K tRetN env E := fun B0 H0 B H σ D Bs eb s k => k.rd .non B H .non s.gr (by simp only [Rp]) q
/-- an own list told as data from here on -/
theorem run_fix (h : env[i]? = some (.mu ds)) (q : Run K t (env.set i (.im (.lst ds))) E) : Run K t env E := fun B0 H0 B H σ D Bs eb s k => by
  obtain ⟨ad, a1, a2, a3⟩ := s.own
  obtain ⟨l, xs, h1, h2, h3, h4⟩ := a3 i _ h
  obtain ⟨z1, z2, z3⟩ := a2 i l (by rw [h2]; exact List.mem_cons_self)
  have eB : Ex B (upd B l (.lst xs)) := Ex.new z2
  refine q B0 H0 (upd B l (.lst xs)) H σ D Bs (eb.trans eB) ⟨s.eB.trans eB, fun a o ho => ?_, fun a ha => ⟨?_, (s.old a ha).2⟩, by rw [List.length_set, s.len], fun j => if j = i then [] else ad j, fun p j x hp hj => ?_, fun p x hp => ?_, fun p t ht => ?_⟩ k
  · by_cases e : a = l
    · subst e
      rw [upd_same] at ho
      rw [h3]
      exact ho
    · rw [upd_ne e] at ho
      exact s.eH a o ho
  · rw [upd_ne fun e => ha (by rw [e]; exact z1)]
    exact (s.old a ha).1
  · by_cases e1 : p = i
    · simp only [if_pos e1] at hp
      cases hp
    · by_cases e2 : j = i
      · simp only [if_pos e2] at hj
        cases hj
      · simp only [if_neg e1] at hp
        simp only [if_neg e2] at hj
        exact a1 p j x hp hj
  · by_cases e1 : p = i
    · simp only [if_pos e1] at hp
      cases hp
    · simp only [if_neg e1] at hp
      obtain ⟨w1, w2, w3⟩ := a2 p x hp
      refine ⟨w1, ?_, w3⟩
      rw [upd_ne fun e => e1 (a1 p i x hp (by rw [h2, e]; exact List.mem_cons_self))]
      exact w2
  · by_cases e1 : i = p
    · subst e1
      rw [List.getElem?_set_self', h] at ht
      cases ht
      exact ⟨_, h1, by simp only [Rp]; exact ⟨l, xs, rfl, upd_same, RpAll.mono eB _ _ h4⟩⟩
    · rw [List.getElem?_set_ne e1] at ht
      have e2 : ¬ p = i := fun z => e1 z.symm
      simp only [if_neg e2]
      exact (a3 p t ht).up eB (Ex.refl _)
/-- less told of a slot -/
theorem run_less (q : Run K t (env.set i .no) E) : Run K t env E := fun B0 H0 B H σ D Bs eb s k => by
  obtain ⟨ad, a1, a2, a3⟩ := s.own
  refine q B0 H0 B H σ D Bs eb ⟨s.eB, s.eH, s.old, by rw [List.length_set, s.len], ad, a1, a2, fun p t ht => ?_⟩ k
  by_cases e1 : i = p
  · subst e1
    rw [List.getElem?_set_self'] at ht
    cases hi : env[i]? with
    | none =>
      rw [hi] at ht
      cases ht
    | some t' =>
      rw [hi] at ht
      cases ht
      trivial
  · rw [List.getElem?_set_ne e1] at ht
    exact a3 p t ht
theorem run_aug {f : Int → Int → Int} {a b : Int} (hx : env[i]? = some (.im (.int a))) (h : EvE K te (frz env) (.int b)) (q : E.nx (env.set i (.im (.int (f a b))))) : Run K (tAug i te (ipI f)) env E := fun B0 H0 B H σ D Bs eb s k => by
  obtain ⟨v, h1, h2⟩ := s.imm.sl i (.im (.int a)) (by rw [List.getElem?_map, hx]; rfl)
  simp only [Rp] at h2
  subst h2
  refine ⟨.int a, h1, h σ H s.frz H (Ex.refl _) _ fun w B' H' g r => ?_⟩
  simp only [Rp] at r
  subst r
  exact ⟨a, b, rfl, rfl, k.nx _ B H' _ (s.im (Gr.keep s.eH g.k) (by simp only [Rp])) eb q⟩
/-- xs.append(e), xs one's own -/
theorem run_app (hx : env[i]? = some (.mu ds)) (h : EvE K te (imm env) d) (hz : ds.length < 100000) (q : E.nx (env.set i (.mu (ds ++ [d])))) : Run K (tDrop (tBM K "list" rAppend (tVar i) (tCons te tNil))) env E := fun B0 H0 B H σ D Bs eb s k => by
  obtain ⟨ad, a1, a2, a3⟩ := s.own
  obtain ⟨l, xs, h1, h2, h3, h4⟩ := a3 i _ hx
  refine ⟨_, h1, .inl ⟨rfl, xs, sq_of h3⟩, h σ B s.imm H s.eH _ fun v B' H' g r => ?_⟩
  have s' := s.up g
  have h3' := g.k _ _ h3
  have hA : ∀ i x, x ∈ ad i → H0 x = none ∧ B' x = none ∧ H' x ≠ none := fun i x hx => by
    obtain ⟨z1, z2, z3⟩ := a2 i x hx
    exact ⟨z1, by rw [g.n x z3, z2], ex_nn g.k z3⟩
  refine ⟨l, xs, v, rfl, rfl, h3', sz_lt (by rw [h4.len]; exact hz), k.nx σ B' _ _ (s'.wr (i := i) (sl := .mu (ds ++ [d])) (H' := upd H' l (.lst (xs ++ [v]))) a1 hA (fun j t ht => (a3 j t ht).up g.b g.k) (fun a ha => upd_ne fun e => ha (by rw [h2, e]; exact List.mem_cons_self)) (fun a ha => ?_) ⟨l, xs ++ [v], h1, h2, upd_same, ?_⟩) (eb.trans g.b) q⟩
  · rw [h2, List.mem_singleton] at ha
    subst ha
    rw [upd_same]
    exact fun z => by cases z
  · exact (RpAll.mono g.b _ _ h4).app (.cons r .nil)
theorem run_appF (hx : env[i]? = some (.mu ds)) (h : EvE K te (frz env) d) (hs : isSc d = true) (hz : ds.length < 100000) (q : E.nx (env.set i (.mu (ds ++ [d])))) : Run K (tDrop (tBM K "list" rAppend (tVar i) (tCons te tNil))) env E := fun B0 H0 B H σ D Bs eb s k => by
  obtain ⟨ad, a1, a2, a3⟩ := s.own
  obtain ⟨l, xs, h1, h2, h3, h4⟩ := a3 i _ hx
  refine ⟨_, h1, .inl ⟨rfl, xs, sq_of h3⟩, h σ H s.frz H (Ex.refl _) _ fun v B' H' g r => ?_⟩
  have s' := s.grow g.k
  have h3' := g.k _ _ h3
  have hA : ∀ i x, x ∈ ad i → H0 x = none ∧ B x = none ∧ H' x ≠ none := fun i x hx => by
    obtain ⟨z1, z2, z3⟩ := a2 i x hx
    exact ⟨z1, z2, ex_nn g.k z3⟩
  refine ⟨l, xs, v, rfl, rfl, h3', sz_lt (by rw [h4.len]; exact hz), k.nx σ B _ _ (s'.wr (i := i) (sl := .mu (ds ++ [d])) (H' := upd H' l (.lst (xs ++ [v]))) a1 hA (fun j t ht => (a3 j t ht).up (Ex.refl _) g.k) (fun a ha => upd_ne fun e => ha (by rw [h2, e]; exact List.mem_cons_self)) (fun a ha => ?_) ⟨l, xs ++ [v], h1, h2, upd_same, ?_⟩) eb q⟩
  · rw [h2, List.mem_singleton] at ha
    subst ha
    rw [upd_same]
    exact fun z => by cases z
  · exact h4.app (.cons (r.sc hs) .nil)
theorem run_while (I : Nat → En → Prop) (m0 : Nat) (h0 : I m0 env)
    (hs : ∀ m e, I m e → ∃ b, EvB K tt (frz e) b ∧ (b = true → Run K tb e { E with nx := fun e' => ∃ m', m' < m ∧ I m' e', ct := fun e' => ∃ m', m' < m ∧ I m' e', bk := E.nx }) ∧ (b = false → E.nx e)) : Run K (tWhile tt tb) env E := fun B0 H0 B H σ D Bs eb s k => by
  refine ⟨fun m σ' H' => ∃ e B', I m e ∧ Sta K B0 H0 B' H' σ' e ∧ Ex Bs B', ⟨m0, env, B, h0, s, eb⟩, ?_⟩
  rintro m σ' H' ⟨e, B', hi, s', eb'⟩
  obtain ⟨b, hb, h1, h2⟩ := hs m e hi
  refine hb σ' H' s'.frz H' (Ex.refl _) _ fun H2 e2 => ?_
  cases b with
  | true =>
    refine iteT ⟨fun σ2 H3 => ∃ m', m' < m ∧ ∃ e B', I m' e ∧ Sta K B0 H0 B' H3 σ2 e ∧ Ex Bs B', fun σ2 H3 h => h, ?_⟩
    have hn : ∀ σ2 B2 H3 e3, Sta K B0 H0 B2 H3 σ2 e3 → Ex Bs B2 → (∃ m', m' < m ∧ I m' e3) → ∃ m', m' < m ∧ ∃ e B', I m' e ∧ Sta K B0 H0 B' H3 σ2 e ∧ Ex Bs B' := fun σ2 B2 H3 e3 s3 eb3 ⟨m', hm, hI⟩ => ⟨m', hm, e3, B2, hI, s3, eb3⟩
    exact h1 rfl B0 H0 B' H2 σ' _ Bs eb' (s'.grow e2) ⟨hn, fun σ2 B2 H3 e3 s3 eb3 q => k.nx σ2 B2 H3 e3 s3 eb3 q, hn, k.rd, k.rl, k.ro⟩
  | false => exact iteF (k.nx σ' B' H2 e (s'.grow e2) eb' (h2 rfl))
def TgS (K : PySem.W.Frag) (g : TG) (d : Da) (env env' : En) : Prop := ∀ B0 H0 B H σ v, Sta K B0 H0 B H σ env → Rp K B d v → ∀ Q : L2.St → Hp → Prop, (∀ σ', Sta K B0 H0 B H σ' env' → Q σ' H) → g v σ H Q
theorem ts_name : TgS K (gName i) d env (env.set i (.im d)) := fun B0 H0 B H σ v s r Q q => q _ (s.im (Gr.refl s.eH) r)
theorem ts_tup2 {g1 g2 : TG} {x y : Da} {env2 : En} (h1 : TgS K g1 x env env') (h2 : TgS K g2 y env' env2) : TgS K (gTup K 2 (gCons g1 (gCons g2 gNil))) (.tup [x, y]) env env2 := fun B0 H0 B H σ v s r Q q => by
  simp only [Rp] at r
  obtain ⟨a, xs, rfl, h, hr⟩ := r
  obtain ⟨v, w, rfl, r1, r2⟩ := two_rp hr
  exact ⟨a, [v, w], rfl, st_of (s.eH _ _ h), rfl, v, [w], rfl, h1 B0 H0 B H σ v s r1 _ fun σ' s' => ⟨w, [], rfl, h2 B0 H0 B H σ' w s' r2 _ fun σ2 s2 => ⟨rfl, q σ2 s2⟩⟩⟩
theorem ts_tup3 {g1 g2 g3 : TG} {x y z : Da} {env2 env3 : En} (h1 : TgS K g1 x env env') (h2 : TgS K g2 y env' env2) (h3 : TgS K g3 z env2 env3) : TgS K (gTup K 3 (gCons g1 (gCons g2 (gCons g3 gNil)))) (.tup [x, y, z]) env env3 := fun B0 H0 B H σ v s r Q q => by
  simp only [Rp] at r
  obtain ⟨a, xs, rfl, h, hr⟩ := r
  obtain ⟨v, r', rfl, r1, hr2⟩ := hr.uncons
  obtain ⟨w, u, rfl, r2, r3⟩ := two_rp hr2
  exact ⟨a, [v, w, u], rfl, st_of (s.eH _ _ h), rfl, v, [w, u], rfl, h1 B0 H0 B H σ v s r1 _ fun σ' s' => ⟨w, [u], rfl, h2 B0 H0 B H σ' w s' r2 _ fun σ2 s2 => ⟨u, [], rfl, h3 B0 H0 B H σ2 u s2 r3 _ fun σ3 s3 => ⟨rfl, q σ3 s3⟩⟩⟩⟩
theorem run_asgT {g : TG} (h : EvE K te (imm env) d) (hg : TgS K g d env env') (q : E.nx env') : Run K (tAsg te g) env E := fun B0 H0 B H σ D Bs eb s k =>
  h σ B s.imm H s.eH _ fun v B' H' g' r => hg B0 H0 B' H' σ v (s.up g') r _ fun σ' s' => k.nx σ' B' H' env' s' (eb.trans g'.b) q
/-- a tuple of two scalars, made by a call that reads own lists -/
theorem run_asgTF {j : Nat} {x y : Da} (h : EvE K te (frz env) (.tup [x, y])) (hx : isSc x = true) (hy : isSc y = true) (q : E.nx ((env.set i (.im x)).set j (.im y))) : Run K (tAsg te (gTup K 2 (gCons (gName i) (gCons (gName j) gNil)))) env E := fun B0 H0 B H σ D Bs eb s k =>
  h σ H s.frz H (Ex.refl _) _ fun v B' H' g' r => by
    simp only [Rp] at r
    obtain ⟨a, xs, rfl, h, hr⟩ := r
    obtain ⟨v, w, rfl, r1, r2⟩ := two_rp hr
    exact ⟨a, [v, w], rfl, st_of (g'.h _ _ h), rfl, v, [w], rfl, w, [], rfl, rfl, k.nx _ B H' _ ((s.im (Gr.keep s.eH g'.k) (r1.sc hx)).im (Gr.refl (s.eH.trans g'.k)) (r2.sc hy)) eb q⟩
theorem run_for {wi : TI} {g : TG} (hw : WkE K wi (imm env) ds) (I : Nat → En → Prop) (h0 : I 0 env)
    (hs : ∀ n d e, ds[n]? = some d → I n e → ∃ e', TgS K g d e e' ∧ Run K tb e' { E with nx := I (n + 1), ct := I (n + 1), bk := E.nx }) (hd : ∀ e, I ds.length e → E.nx e) : Run K (tFor wi g tb) env E := fun B0 H0 B H σ D Bs eb s k =>
  hw σ B s.imm H s.eH _ fun J B' H2 G Y g0 w hG hY => by
    refine for_it w (fun n σ' H' => ∃ e Bi, I n e ∧ Sta K B0 H0 Bi H' σ' e ∧ Ex B' Bi) ⟨env, B', h0, s.up g0, Ex.refl _⟩ (fun n σ' H' _ ⟨e, Bi, _, s', eb'⟩ => hG H' (eb'.trans s'.eH)) ?_ ?_
    · rintro n x σ' H' H3 hn ⟨e, Bi, hi, s', eb'⟩ y
      obtain ⟨d, B3, hd', gy, rd⟩ := hY n H' x H3 Bi eb' s'.eH y
      obtain ⟨e', tg, rb⟩ := hs n d e hd' hi
      refine tg B0 H0 B3 H3 σ' x (s'.up gy) rd _ fun σ2 s2 => ?_
      exact rb B0 H0 B3 H3 σ2 _ B' (eb'.trans gy.b) s2 ⟨fun σ4 B4 H4 e4 s4 eb4 q => ⟨e4, B4, q, s4, eb4⟩, fun σ4 B4 H4 e4 s4 eb4 q => k.nx σ4 B4 H4 e4 s4 ((eb.trans g0.b).trans eb4) q, fun σ4 B4 H4 e4 s4 eb4 q => ⟨e4, B4, q, s4, eb4⟩, k.rd, k.rl, k.ro⟩
    · rintro σ' H' ⟨e, Bi, hi, s', eb'⟩
      exact k.nx σ' Bi H' e s' ((eb.trans g0.b).trans eb') (hd e hi)
theorem run_brk (q : E.bk env) : Run K tBreak env E := fun B0 H0 B H σ D Bs eb s k => k.bk σ B H env s eb q
theorem run_ct (q : E.ct env) : Run K tCont env E := fun B0 H0 B H σ D Bs eb s k => k.ct σ B H env s eb q
theorem Run.imp {E' : Ed} (h : Run K t env E') (h1 : ∀ e, E'.nx e → E.nx e) (h2 : ∀ d, E'.rd d → E.rd d) (h3 : ∀ d, E'.rl d → E.rl d) (h4 : ∀ C n d, E'.ro C n d → E.ro C n d) (h5 : ∀ e, E'.bk e → E.bk e) (h6 : ∀ e, E'.ct e → E.ct e) : Run K t env E := fun B0 H0 B H σ D Bs eb s k =>
  h B0 H0 B H σ D Bs eb s ⟨fun σ' B' H' e s' eb' q => k.nx σ' B' H' e s' eb' (h1 e q), fun σ' B' H' e s' eb' q => k.bk σ' B' H' e s' eb' (h5 e q), fun σ' B' H' e s' eb' q => k.ct σ' B' H' e s' eb' (h6 e q), fun v B' H' d g r q => k.rd v B' H' d g r (h2 d q), fun l xs B' H' ds g z1 z2 z3 z4 q => k.rl l xs B' H' ds g z1 z2 z3 z4 (h3 ds q), fun a dx ls B' H' C ns dss g z1 z2 z3 z4 z5 q => k.ro a dx ls B' H' C ns dss g z1 z2 z3 z4 z5 (h4 C ns dss q)⟩
end

/-! ### promises of defs over data -/
def FnP (K : PySem.W.Frag) (P : List Da → Da → Prop) : Sp := fun vs H Q _ => ∃ B ds d, Ex B H ∧ RpAll K B ds vs ∧ P ds d ∧ ∀ v B' H', Gr B H B' H' → Rp K B' d v → Q v H'
def FnL (K : PySem.W.Frag) (P : List Da → List Da → Prop) : Sp := fun vs H Q _ => ∃ B ds es, Ex B H ∧ RpAll K B ds vs ∧ P ds es ∧ ∀ p xs B' H', Gr B H B' H' → H p = none → B' p = none → H' p = some (.lst xs) → RpAll K B' es xs → Q (.ref p) H'
def FnO (K : PySem.W.Frag) (P : List Da → Addr → List Str → List (List Da) → Prop) : Sp := fun vs H Q _ => ∃ B ds C ns dss, Ex B H ∧ RpAll K B ds vs ∧ P ds C ns dss ∧
  ∀ a dx ls B' H', Gr B H B' H' → (a :: ls).Nodup → (∀ x ∈ a :: ls, H x = none ∧ B' x = none) → H' a = some (.ins C dx (ns.zip (ls.map V.ref))) → ls.length = ns.length → OwL K B' H' dss ls → Q (.ref a) H'
section
variable {K : PySem.W.Frag} {env : En} {ta : TA} {ds es : List Da} {d : Da}
theorem ev_call {P : List Da → Da → Prop} {E : XK} (h : EvA K ta env ds) (hp : P ds d) : EvE K (tCall (FnP K P) [] E ta) env d := fun σ B s H1 e Q q =>
  h σ B s H1 e _ fun vs B2 H2 g r => by
    refine ⟨B2, ds, d, g.h, by rw [List.append_nil]; exact r, hp, fun v B' H' g' r' => q v B' H' (g.trans g') r'⟩
theorem en_call {P : List Da → List Da → Prop} {E : XK} (h : EvA K ta env ds) (hp : P ds es) : EvN K (tCall (FnL K P) [] E ta) env es := fun σ B s H1 e Q q =>
  h σ B s H1 e _ fun vs B2 H2 g r => by
    refine ⟨B2, ds, es, g.h, by rw [List.append_nil]; exact r, hp, fun p xs B' H' g' h1 h2 h3 r' => q p xs B' H' (g.trans g') (fresh_back g.k h1) h2 h3 r'⟩
/-- the slots at a def's entry -/
def ent (ds : List Da) (n : Nat) : En := ds.map Sl.im ++ List.replicate n .no
theorem sta_ent {B H : Hp} {vs : List V} {n : Nat} (e : Ex B H) (r : RpAll K B ds vs) : Sta K B H B H (vs.map some ++ List.replicate n none) (ent ds n) := by
  refine ⟨Ex.refl _, e, fun a _ => ⟨rfl, rfl⟩, by unfold ent; simp [r.len], fun _ => [], fun i j x h => (List.not_mem_nil h).elim, fun i x h => (List.not_mem_nil h).elim, fun i s hs => ?_⟩
  unfold ent at hs
  by_cases hi : i < ds.length
  · rw [List.getElem?_append_left (by simpa using hi), List.getElem?_map] at hs
    cases hd : ds[i]? with
    | none =>
      rw [hd] at hs
      cases hs
    | some d =>
      rw [hd] at hs
      cases hs
      obtain ⟨v, hv, rv⟩ := r.get hd
      refine ⟨v, ?_, rv⟩
      rw [List.getElem?_append_left (by rw [List.length_map, r.len]; exact hi), List.getElem?_map, hv]
      rfl
  · rw [List.getElem?_append_right (by simpa using Nat.le_of_not_lt hi)] at hs
    rw [List.getElem?_replicate] at hs
    split at hs
    · cases hs
      trivial
    · cases hs
def retD (d : Da) : Ed := { nx := fun _ => d = .non, rd := fun x => x = d, rl := fun xs => d = .lst xs }
def retL (es : List Da) : Ed := { nx := fun _ => False, rd := fun _ => False, rl := fun xs => xs = es }
theorem start_eq {N : List Str} {vs : List V} : start N vs = vs.map some ++ List.replicate (N.length - vs.length) none := rfl
theorem fnP_of {P : List Da → Da → Prop} {t : TS} {N : List Str} (n : Nat) (hn : ∀ ds d, P ds d → N.length - ds.length = n) (h : ∀ ds d, P ds d → Run K t (ent ds n) (retD d)) {vs : List V} {H : Hp} {Q : VK} {E : XK} (hp : FnP K P vs H Q E) :
    t { nx := fun _ H' => Q .non H', rt := Q } (start N vs) H := by
  obtain ⟨B, ds, d, e, r, p, q⟩ := hp
  have s := sta_ent (n := n) e r
  have hl : N.length - vs.length = n := by rw [r.len]; exact hn ds d p
  rw [start_eq, hl]
  refine h ds d p B H B H _ _ B (Ex.refl _) s ⟨fun σ B' H' env s' _ z => ?_, fun _ _ _ _ _ _ z => z.elim, fun _ _ _ _ _ _ z => z.elim, fun v B' H' d' g r' z => ?_, fun l xs B' H' es g h1 h2 h3 h4 z => ?_, fun _ _ _ _ _ _ _ _ _ _ _ _ _ _ z => z.elim⟩
  · have z' : d = .non := z
    subst z'
    exact q .non B' H' s'.gr (by simp only [Rp])
  · have z' : d' = d := z
    subst z'
    exact q v B' H' g r'
  · have z' : d = .lst es := z
    subst z'
    have eB : Ex B' (upd B' l (.lst xs)) := Ex.new h2
    refine q (.ref l) (upd B' l (.lst xs)) H' ⟨g.b.trans eB, fun a o ho => ?_, g.k, fun a ha => ?_⟩ ?_
    · by_cases e : a = l
      · subst e
        rw [upd_same] at ho
        rw [h3]
        exact ho
      · rw [upd_ne e] at ho
        exact g.h a o ho
    · rw [upd_ne fun e => ha (by rw [e]; exact h1)]
      exact g.n a ha
    · simp only [Rp]
      exact ⟨l, xs, rfl, upd_same, RpAll.mono eB _ _ h4⟩
theorem fnL_of {P : List Da → List Da → Prop} {t : TS} {N : List Str} (n : Nat) (hn : ∀ ds d, P ds d → N.length - ds.length = n) (h : ∀ ds d, P ds d → Run K t (ent ds n) (retL d)) {vs : List V} {H : Hp} {Q : VK} {E : XK} (hp : FnL K P vs H Q E) :
    t { nx := fun _ H' => Q .non H', rt := Q } (start N vs) H := by
  obtain ⟨B, ds, d, e, r, p, q⟩ := hp
  have s := sta_ent (n := n) e r
  have hl : N.length - vs.length = n := by rw [r.len]; exact hn ds d p
  rw [start_eq, hl]
  refine h ds d p B H B H _ _ B (Ex.refl _) s ⟨fun σ B' H' env s' _ z => z.elim, fun _ _ _ _ _ _ z => z.elim, fun _ _ _ _ _ _ z => z.elim, fun v B' H' d' g r' z => z.elim, fun l xs B' H' es g h1 h2 h3 h4 z => ?_, fun _ _ _ _ _ _ _ _ _ _ _ _ _ _ z => z.elim⟩
  have z' : es = d := z
  subst z'
  exact q l xs B' H' g h1 h2 h3 h4
theorem len_P {P : List Da → Da → Prop} {m : Nat} (hm : ∀ ds d, P ds d → ds.length = m) {vs : List V} {H : Hp} {Q : VK} {E : XK} (hp : FnP K P vs H Q E) : vs.length = m := by
  obtain ⟨B, ds, d, e, r, p, q⟩ := hp
  rw [r.len]
  exact hm ds d p
theorem len_L {P : List Da → List Da → Prop} {m : Nat} (hm : ∀ ds d, P ds d → ds.length = m) {vs : List V} {H : Hp} {Q : VK} {E : XK} (hp : FnL K P vs H Q E) : vs.length = m := by
  obtain ⟨B, ds, d, e, r, p, q⟩ := hp
  rw [r.len]
  exact hm ds d p
end
end FR

/-! Calls in short; equality of data; dicts; sets; chains of three. -/
namespace FR
open PySem L2 Evl
open PySem.Spec PyProof.Rows

/-! ### defs, methods, classes that stand behind the top -/
structure Cal (P : Program) (w : World) (K : PySem.W.Frag) (mg : Str → Option Value) (base : Heap) (CX : CXT) (k : Nat) (x : Str) (ps : List Str) (sp : Sp) : Prop where
  ex : ∃ f fd, FnOk P w K mg base CX k f fd ps sp ∧ mg x = some (.ref f) ∧ PySem.W.keepIn K (.ref f) = true ∧ Binds K fd ps []
structure CalM (P : Program) (w : World) (K : PySem.W.Frag) (mg : Str → Option Value) (base : Heap) (CX : CXT) (k : Nat) (C : Addr) (m : Str) (ps : List Str) (sp : Sp) : Prop where
  ex : ∃ f fd, FnOk P w K mg base CX k f fd ps sp ∧ Meth K C m f ∧ Binds K fd ps []
structure CalI (P : Program) (w : World) (K : PySem.W.Frag) (mg : Str → Option Value) (base : Heap) (CX : CXT) (k : Nat) (C : Addr) (ps : List Str) (sp : Sp) : Prop where
  ex : ∃ f fd, FnOk P w K mg base CX k f fd ps sp ∧ Mk K C f ∧ Binds K fd ps []
section
variable {X : Cx} {k : Nat} {x : Str} {ps : List Str} {sp : Sp} {CX : CXT} {E : XK} {e o : Expr} {es : List Expr} {t : TA} {to : TE} {p pos apos : Pos} {C : Addr} {m : Str}
theorem pe_cal (g : Cal X.prog X.w X.K X.mg X.base CX k x ps sp) (hr : Room k X.A) (hg : Gl X x) (hx : Passes CX X E) (ha : PA X (e :: es) t)
    (hdb : (x == ("__debug__" : Str)) = false := by decide) (he : starEach (e :: es) X.env = (false, eval e X.env) :: starEach es X.env := by rfl) (hpl : (backTo pos (starEach es X.env)).any (·.1) = false := by rfl) :
    PE X (.Call (.Name x p) (e :: es) [] pos) (tCall sp [] E t) := by
  obtain ⟨f, fd, F, hm, hk, hb⟩ := g.ex
  exact pe_call F hr hg hm hk hb .nil hx ha hdb he hpl
theorem pe_cal0 (g : Cal X.prog X.w X.K X.mg X.base CX k x ps sp) (hr : Room k X.A) (hg : Gl X x) (hx : Passes CX X E) (hdb : (x == ("__debug__" : Str)) = false := by decide) :
    PE X (.Call (.Name x p) [] [] pos) (tCall sp [] E tNil) := by
  obtain ⟨f, fd, F, hm, hk, hb⟩ := g.ex
  exact pe_call0 F hr hg hm hk hb .nil hx hdb
theorem pe_met {pl : Sem Bool} (he : PE X o to) (c : Cls X.K C) (g : CalM X.prog X.w X.K X.mg X.base CX k C m ps sp) (hr : Room k X.A) (hx : Passes CX X E) (ha : PA X (e :: es) t)
    (hst : starEach (e :: es) X.env = (false, eval e X.env) :: starEach es X.env := by rfl) (hpl : (backTo pos (starEach es X.env)).any (·.1) = false := by rfl)
    (ht : eval (.Call (.Attribute o m apos) (e :: es) [] pos) X.env = (do
      let ov ← eval o X.env
      standAt apos.atName
      let (f, first) ← holding [ov] (getMethod ov m pl)
      callWith pos f first (backTo pos (starEach (e :: es) X.env)) (backToKw pos (keywordEach [] X.env))) := by rfl) :
    PE X (.Call (.Attribute o m apos) (e :: es) [] pos) (tMeth C m sp [] E to t) := by
  obtain ⟨f, fd, F, hm, hb⟩ := g.ex
  exact pe_meth he c hm F hr hb .nil hx ha hst hpl ht
theorem pe_mak (g : CalI X.prog X.w X.K X.mg X.base CX k C ps sp) (hm : X.mg x = some (.ref C)) (hr : Room (k + 1) X.A) (hg : Gl X x) (hx : Passes CX X E) (ha : PA X (e :: es) t)
    (hdb : (x == ("__debug__" : Str)) = false := by decide) (he : starEach (e :: es) X.env = (false, eval e X.env) :: starEach es X.env := by rfl) (hpl : (backTo pos (starEach es X.env)).any (·.1) = false := by rfl) :
    PE X (.Call (.Name x p) (e :: es) [] pos) (tMake C sp [] E t) := by
  obtain ⟨f, fd, F, M, hb⟩ := g.ex
  exact pe_make M F hr hg hm hb .nil hx ha hdb he hpl
end

/-! ### data as the library's -/
mutual
def py : Da → PyData
  | .bl b => .bool b
  | .int i => .int i
  | .str s => .str s
  | .lst ds => .list (pyAll ds)
  | .sq ds => .list (pyAll ds)
  | .tup ds => .tuple (pyAll ds)
  | _ => .none
def pyAll : List Da → List PyData
  | [] => []
  | d :: ds => py d :: pyAll ds
end
mutual
def isPy : Da → Bool
  | .ty _ | .cls _ | .obj _ _ _ => false
  | .lst ds => isPyAll ds
  | .sq ds => isPyAll ds
  | .tup ds => isPyAll ds
  | _ => true
def isPyAll : List Da → Bool
  | [] => true
  | d :: ds => isPy d && isPyAll ds
end
section
variable {K : PySem.W.Frag} {B H : Hp}
mutual
theorem dp_of (e : Ex B H) : ∀ (d : Da) (v : V), isPy d = true → Rp K B d v → Dp K H v (py d)
  | .non, v, _, h => by
    simp only [Rp] at h
    subst h
    simp only [py]
    exact .non
  | .bl b, v, _, h => by
    simp only [Rp] at h
    subst h
    simp only [py]
    exact .bl b
  | .int i, v, _, h => by
    simp only [Rp] at h
    subst h
    simp only [py]
    exact .int i
  | .str s, v, _, h => by
    simp only [Rp] at h
    subst h
    simp only [py]
    exact .str s
  | .ty n, v, p, h => by simp [isPy] at p
  | .cls C, v, p, h => by simp [isPy] at p
  | .lst ds, v, p, h => by
    simp only [Rp] at h
    obtain ⟨a, xs, rfl, h2, h3⟩ := h
    simp only [py]
    exact .lst (sq_of (e _ _ h2)) (dpAll_of e ds xs (by simpa only [isPy] using p) h3)
  | .sq ds, v, p, h => by
    simp only [Rp] at h
    obtain ⟨a, xs, rfl, h2, h3⟩ := h
    simp only [py]
    exact .lst (ex_l e h2) (dpAll_of e ds xs (by simpa only [isPy] using p) h3)
  | .tup ds, v, p, h => by
    simp only [Rp] at h
    obtain ⟨a, xs, rfl, h2, h3⟩ := h
    simp only [py]
    exact .tup (st_of (e _ _ h2)) (dpAll_of e ds xs (by simpa only [isPy] using p) h3)
  | .obj C ns ds, v, p, h => by simp [isPy] at p
theorem dpAll_of (e : Ex B H) : ∀ (ds : List Da) (vs : List V), isPyAll ds = true → RpAll K B ds vs → DpAll K H vs (pyAll ds)
  | [], vs, _, h => by
    have q : vs = [] := by simpa only [RpAll] using h
    subst q
    simp only [pyAll]
    exact .nil
  | d :: ds, vs, p, h => by
    obtain ⟨v, r, rfl, h2, h3⟩ := h.uncons
    simp only [isPyAll, Bool.and_eq_true] at p
    simp only [pyAll]
    exact .cons (dp_of e d v p.1 h2) (dpAll_of e ds r p.2 h3)
end
variable {env : En} {te ta tb tc td : TE} {d x y : Da} {ds es : List Da} {i j : Int}
theorem ev_eqD {b : Bool} (ha : EvE K ta env x) (hb : EvE K tb env y) (hx : isPy x = true ∧ SeqAt.shaped (py x) = true) (hy : isPy y = true ∧ SeqAt.shaped (py y) = true) (e : PyData.eqv (py x) (py y) = b) : EvE K (tOp (rEqD K) ta tb) env (.bl b) :=
  ev_op ha hb fun B H v w eh r1 r2 Q q => ⟨py x, py y, dp_of eh x v hx.1 r1, dp_of eh y w hy.1 r2, hx.2, hy.2, q _ B H (Gr.refl eh) (by simp only [Rp, e])⟩
theorem ev_neD {b : Bool} (ha : EvE K ta env x) (hb : EvE K tb env y) (hx : isPy x = true ∧ SeqAt.shaped (py x) = true) (hy : isPy y = true ∧ SeqAt.shaped (py y) = true) (e : PyData.eqv (py x) (py y) = b) : EvE K (tOp (rNeD K) ta tb) env (.bl (!b)) :=
  ev_op ha hb fun B H v w eh r1 r2 Q q => ⟨py x, py y, dp_of eh x v hx.1 r1, dp_of eh y w hy.1 r2, hx.2, hy.2, q _ B H (Gr.refl eh) (by simp only [Rp, e])⟩
end
/-! ints, truths, pairs, their lists -/
theorem beqd {α : Type} [DecidableEq α] (a b : α) : (a == b) = decide (a = b) := by
  by_cases h : a = b <;> simp [h]
theorem pyAll_map {α : Type} (f : α → Da) : ∀ xs : List α, pyAll (xs.map f) = xs.map fun x => py (f x)
  | [] => by simp [pyAll]
  | x :: xs => by simp [pyAll, pyAll_map f xs]
theorem isPyAll_map {α : Type} {f : α → Da} : ∀ {xs : List α}, (∀ x ∈ xs, isPy (f x) = true) → isPyAll (xs.map f) = true
  | [], _ => by simp [isPyAll]
  | x :: xs, h => by
    simp only [List.map_cons, isPyAll, Bool.and_eq_true]
    exact ⟨h x List.mem_cons_self, isPyAll_map fun y hy => h y (List.mem_cons_of_mem _ hy)⟩
theorem canAll {α : Type} {f : α → PyData} : ∀ {xs : List α}, (∀ x, (f x).canLay0 = true) → PyData.canLayAll0 (xs.map f) = true
  | [], _ => by simp [PyData.canLayAll0]
  | x :: xs, h => by simp [PyData.canLayAll0, h x, canAll h]
theorem depAll {α : Type} {f : α → PyData} {n : Nat} : ∀ {xs : List α}, (∀ x, (f x).depth ≤ n) → PyData.depthAll (xs.map f) ≤ n
  | [], _ => by simp [PyData.depthAll]
  | x :: xs, h => by
    have h1 := h x
    have h2 := depAll (xs := xs) h
    simp only [List.map_cons, PyData.depthAll]
    omega
theorem eqvAll_map {α : Type} [DecidableEq α] {f : α → PyData} (h : ∀ x y, PyData.eqv (f x) (f y) = decide (x = y)) : ∀ xs ys : List α, PyData.eqvAll (xs.map f) (ys.map f) = decide (xs = ys)
  | [], [] => by simp [PyData.eqvAll]
  | [], y :: ys => by simp [PyData.eqvAll]
  | x :: xs, [] => by simp [PyData.eqvAll]
  | x :: xs, y :: ys => by
    simp only [List.map_cons, PyData.eqvAll, h, eqvAll_map h xs ys]
    by_cases e1 : x = y <;> by_cases e2 : xs = ys <;> simp [e1, e2]
/-- a pair of ints -/
def prD (p : Int × Int) : Da := .tup [.int p.1, .int p.2]
abbrev rowL (row : List (Int × Int)) : List Da := row.map prD
abbrev rowD (row : List (Int × Int)) : Da := .lst (rowL row)
abbrev intL (ns : List Int) : List Da := ns.map Da.int
abbrev intsD (ns : List Int) : Da := .lst (intL ns)
abbrev blL (ns : List Bool) : List Da := ns.map Da.bl
theorem okInts (ns : List Int) : isPy (intsD ns) = true ∧ SeqAt.shaped (py (intsD ns)) = true := by
  refine ⟨?_, ?_⟩
  · simp only [intsD, isPy]
    exact isPyAll_map fun x _ => by simp [isPy]
  · simp only [intsD, py, pyAll_map, SeqAt.shaped, PyData.canLay0, PyData.depth, Bool.and_eq_true, decide_eq_true_eq]
    exact ⟨canAll fun x => by simp [PyData.canLay0], by have := depAll (f := fun i : Int => PyData.int i) (n := 0) (xs := ns) (fun x => by simp [PyData.depth]); omega⟩
theorem okBls (ns : List Bool) : isPy (.lst (blL ns)) = true ∧ SeqAt.shaped (py (.lst (blL ns))) = true := by
  refine ⟨?_, ?_⟩
  · simp only [isPy]
    exact isPyAll_map fun x _ => by simp [isPy]
  · simp only [py, pyAll_map, SeqAt.shaped, PyData.canLay0, PyData.depth, Bool.and_eq_true, decide_eq_true_eq]
    exact ⟨canAll fun x => by simp [PyData.canLay0], by have := depAll (f := fun i : Bool => PyData.bool i) (n := 0) (xs := ns) (fun x => by simp [PyData.depth]); omega⟩
theorem py_prD (p : Int × Int) : py (prD p) = .tuple [.int p.1, .int p.2] := by simp [prD, py, pyAll]
theorem okRow (row : List (Int × Int)) : isPy (rowD row) = true ∧ SeqAt.shaped (py (rowD row)) = true := by
  refine ⟨?_, ?_⟩
  · simp only [rowD, isPy]
    exact isPyAll_map fun x _ => by simp [prD, isPy, isPyAll]
  · simp only [rowD, py, pyAll_map, py_prD, SeqAt.shaped, PyData.canLay0, PyData.depth, Bool.and_eq_true, decide_eq_true_eq]
    exact ⟨canAll fun x => by simp [PyData.canLay0, PyData.canLayAll0], by have := depAll (f := fun p : Int × Int => PyData.tuple [.int p.1, .int p.2]) (n := 1) (xs := row) (fun x => by simp [PyData.depth, PyData.depthAll]); omega⟩
theorem eqv_ints (ns ms : List Int) : PyData.eqv (py (intsD ns)) (py (intsD ms)) = decide (ns = ms) := by
  simp only [intsD, py, pyAll_map, PyData.eqv]
  exact eqvAll_map (fun x y => by simp [PyData.eqv, beqd]) ns ms
theorem eqv_bls (ns ms : List Bool) : PyData.eqv (py (.lst (blL ns))) (py (.lst (blL ms))) = decide (ns = ms) := by
  simp only [py, pyAll_map, PyData.eqv]
  exact eqvAll_map (fun x y => by simp [PyData.eqv, beqd]) ns ms
theorem eqv_row (ns ms : List (Int × Int)) : PyData.eqv (py (rowD ns)) (py (rowD ms)) = decide (ns = ms) := by
  simp only [rowD, py, pyAll_map, py_prD, PyData.eqv]
  refine eqvAll_map (f := fun p : Int × Int => PyData.tuple [.int p.1, .int p.2]) (fun x y => ?_) ns ms
  simp only [PyData.eqv, PyData.eqvAll, Bool.and_true, beqd]
  obtain ⟨a, b⟩ := x
  obtain ⟨c, d⟩ := y
  simp
section
variable {K : PySem.W.Frag} {env : En} {te ta tb tc td : TE} {d x y : Da} {i j : Int}
theorem ev_eqInts {ns ms : List Int} (ha : EvE K ta env (intsD ns)) (hb : EvE K tb env (intsD ms)) : EvE K (tOp (rEqD K) ta tb) env (.bl (decide (ns = ms))) := ev_eqD ha hb (okInts ns) (okInts ms) (eqv_ints ns ms)
theorem ev_neInts {ns ms : List Int} (ha : EvE K ta env (intsD ns)) (hb : EvE K tb env (intsD ms)) : EvE K (tOp (rNeD K) ta tb) env (.bl (!decide (ns = ms))) := ev_neD ha hb (okInts ns) (okInts ms) (eqv_ints ns ms)
theorem ev_eqRow {ns ms : List (Int × Int)} (ha : EvE K ta env (rowD ns)) (hb : EvE K tb env (rowD ms)) : EvE K (tOp (rEqD K) ta tb) env (.bl (decide (ns = ms))) := ev_eqD ha hb (okRow ns) (okRow ms) (eqv_row ns ms)
theorem ev_neRow {ns ms : List (Int × Int)} (ha : EvE K ta env (rowD ns)) (hb : EvE K tb env (rowD ms)) : EvE K (tOp (rNeD K) ta tb) env (.bl (!decide (ns = ms))) := ev_neD ha hb (okRow ns) (okRow ms) (eqv_row ns ms)
end

/-! ### dicts of one's own with int keys -/
section
variable {K : PySem.W.Frag} {B H : Hp} {env : En} {te ta tb tc td tv : TE} {d x y : Da} {i j : Int} {kvs : List (Int × Da)} {ws : List (Key × V)}
theorem KvR.val : ∀ {kvs : List (Int × Da)} {ws : List (Key × V)} (j : Int), KvR K B kvs ws → (match valD kvs j with | none => valV ws (Sum.inl j : Key) = none | some d => ∃ v, valV ws (Sum.inl j : Key) = some v ∧ Rp K B d v)
  | [], ws, j, h => by
    have e : ws = [] := h
    subst e
    simp only [valD]
    exact valV_nil
  | (k, d) :: r, ws, j, h => by
    obtain ⟨v, t, rfl, h2, h3⟩ := h
    simp only [valD]
    by_cases e : k = j
    · rw [if_pos e]
      subst e
      exact ⟨v, valV_pos rfl, h2⟩
    · rw [if_neg e]
      have e2 : ¬ ((Sum.inl k : Key) = Sum.inl j) := fun z => e (Sum.inl.inj z)
      rw [valV_neg (p := ((Sum.inl k : Key), v)) e2]
      exact KvR.val j h3
theorem kvr_any : ∀ {kvs : List (Int × Da)} {ws : List (Key × V)} (j : Int), KvR K B kvs ws → (ws.any fun kv => decide (kv.1 = (Sum.inl j : Key))) = kvs.any fun kv => decide (kv.1 = j)
  | [], ws, j, h => by
    have e : ws = [] := h
    subst e
    rfl
  | (k, d) :: r, ws, j, h => by
    obtain ⟨v, t, rfl, h2, h3⟩ := h
    rw [List.any_cons, List.any_cons, kvr_any j h3]
    congr 1
    by_cases e : k = j
    · subst e
      simp
    · have e2 : ¬ ((Sum.inl k : Key) = Sum.inl j) := fun z => e (Sum.inl.inj z)
      simp [e, e2]
theorem kvr_map : ∀ {kvs : List (Int × Da)} {ws : List (Key × V)} (j : Int) {d : Da} {v : V}, KvR K B kvs ws → Rp K B d v → KvR K B (kvs.map fun kv => if kv.1 = j then (kv.1, d) else kv) (ws.map fun kv => if kv.1 = (Sum.inl j : Key) then (kv.1, v) else kv)
  | [], ws, j, d, v, h, r => by
    have e : ws = [] := h
    subst e
    exact h
  | (k, d') :: r', ws, j, d, v, h, r => by
    obtain ⟨v', t, rfl, h2, h3⟩ := h
    rw [List.map_cons, List.map_cons]
    by_cases e : k = j
    · subst e
      simp only [if_true]
      exact ⟨v, _, rfl, r, kvr_map k h3 r⟩
    · have e2 : ¬ ((Sum.inl k : Key) = Sum.inl j) := fun z => e (Sum.inl.inj z)
      simp only [if_neg e, if_neg e2]
      exact ⟨v', _, rfl, h2, kvr_map j h3 r⟩
theorem kvr_app : ∀ {kvs : List (Int × Da)} {ws : List (Key × V)} {j : Int} {d : Da} {v : V}, KvR K B kvs ws → Rp K B d v → KvR K B (kvs ++ [(j, d)]) (ws ++ [(Sum.inl j, v)])
  | [], ws, j, d, v, h, r => by
    have e : ws = [] := h
    subst e
    exact ⟨v, [], rfl, r, rfl⟩
  | (k, d') :: r', ws, j, d, v, h, r => by
    obtain ⟨v', t, rfl, h2, h3⟩ := h
    exact ⟨v', _, rfl, h2, kvr_app h3 r⟩
theorem KvR.put {v : V} (j : Int) (h : KvR K B kvs ws) (r : Rp K B d v) : KvR K B (putD kvs j d) (putK ws (Sum.inl j) v) := by
  unfold putD putK
  rw [kvr_any j h]
  split
  · exact kvr_map j h r
  · exact kvr_app h r
/-- a slot that holds a dict, in a view -/
theorem ev_din {n : Nat} (hd : env[n]? = some (.md kvs)) (hi : EvE K ta env (.int i)) : EvE K (tDIn ta (tVar n)) env (.bl (valD kvs i).isSome) := fun σ B s H1 e Q q =>
  hi σ B s H1 e _ fun v B2 H2 g r => by
    simp only [Rp] at r
    subst r
    obtain ⟨a, ws, h1, h2, h3⟩ := s.sl n _ hd
    refine ⟨_, h1, a, valV ws (Sum.inl i), rfl, DGet.k (k := Sum.inl i) (g.k _ _ (e _ _ h2)), q _ B2 H2 g ?_⟩
    have z := h3.val i
    simp only [Rp]
    cases hv : valD kvs i with
    | none =>
      rw [hv] at z
      have z' : valV ws (Sum.inl i : Key) = none := z
      rw [z']
      all_goals rfl
    | some d =>
      rw [hv] at z
      obtain ⟨v, z1, z2⟩ := z
      rw [z1]
      all_goals rfl
theorem ev_dnotin {n : Nat} (hd : env[n]? = some (.md kvs)) (hi : EvE K ta env (.int i)) : EvE K (tDNotIn ta (tVar n)) env (.bl (!(valD kvs i).isSome)) := fun σ B s H1 e Q q =>
  hi σ B s H1 e _ fun v B2 H2 g r => by
    simp only [Rp] at r
    subst r
    obtain ⟨a, ws, h1, h2, h3⟩ := s.sl n _ hd
    refine ⟨_, h1, a, valV ws (Sum.inl i), rfl, DGet.k (k := Sum.inl i) (g.k _ _ (e _ _ h2)), q _ B2 H2 g ?_⟩
    have z := h3.val i
    simp only [Rp]
    cases hv : valD kvs i with
    | none =>
      rw [hv] at z
      have z' : valV ws (Sum.inl i : Key) = none := z
      rw [z']
      all_goals rfl
    | some d =>
      rw [hv] at z
      obtain ⟨v, z1, z2⟩ := z
      rw [z1]
      all_goals rfl
theorem ev_dget {n : Nat} (hd : env[n]? = some (.md kvs)) (hi : EvE K ta env (.int i)) (hv : valD kvs i = some d) : EvE K (tDGet (tVar n) ta) env d := fun σ B s H1 e Q q => by
  obtain ⟨a, ws, h1, h2, h3⟩ := s.sl n _ hd
  refine ⟨_, h1, hi σ B s H1 e _ fun v B2 H2 g r => ?_⟩
  simp only [Rp] at r
  subst r
  have z := h3.val i
  rw [hv] at z
  obtain ⟨v, z1, z2⟩ := z
  exact ⟨a, v, rfl, by rw [← z1]; exact DGet.k (k := Sum.inl i) (g.k _ _ (e _ _ h2)), q v B2 H2 g (z2.mono g.b)⟩
def rLenD : List V → Hp → VK → Prop := fun xs H Q => ∃ a kvs, xs = [V.ref a] ∧ H a = some (.dK kvs) ∧ Q (.int kvs.length) H
theorem ev_lenD {n : Nat} (hd : env[n]? = some (.md kvs)) : EvE K (tCB rLenD (tCons (tVar n) tNil)) env (.int (kvs.length : Int)) := fun σ B s H1 e Q q => by
  obtain ⟨a, ws, h1, h2, h3⟩ := s.sl n _ hd
  exact ⟨_, h1, a, ws, rfl, e _ _ h2, q _ B H1 (Gr.refl e) (by simp only [Rp]; rw [h3.len])⟩
theorem ed_new : EvD K tDNewK env [] := fun σ B s H1 e Q q p hp => q p [] B _ (Gr.put e hp) hp (fresh_back e hp) upd_same rfl
/-- d[k] = e -/
theorem run_dput {n : Nat} {E : Ed} (hx : env[n]? = some (.md kvs)) (hv : EvE K tv (imm env) d) (hi : EvE K ta (frz env) (.int i)) (hz : kvs.length < 100000) (q : E.nx (env.set n (.md (putD kvs i d)))) : Run K (sDPut (tVar n) ta tv) env E := fun B0 H0 B H σ D Bs eb s k => by
  refine hv σ B s.imm H s.eH _ fun v B2 H2 g r => ?_
  obtain ⟨ad, a1, a2, a3⟩ := (s.up g).own
  obtain ⟨l, ws, h1, h2, h3, h4⟩ := a3 n _ hx
  refine ⟨_, h1, hi σ H2 (s.up g).frz H2 (Ex.refl _) _ fun u B3 H3 g3 r3 => ?_⟩
  simp only [Rp] at r3
  subst r3
  have s' := (s.up g).grow g3.k
  have h3' := g3.k _ _ h3
  refine ⟨l, _, rfl, DPut.k (k := Sum.inl i) (v := v) h3' (sz_lt (by rw [h4.len]; exact hz)), k.nx σ B2 _ _ (s'.wr (i := n) (sl := .md (putD kvs i d)) (H' := upd H3 l (.dK (putK ws (Sum.inl i) v))) a1 (fun p x hx => ?_) (fun p t ht => (a3 p t ht).up (Ex.refl _) g3.k) (fun a ha => upd_ne fun e => ha (by rw [h2, e]; exact List.mem_cons_self)) (fun a ha => ?_) ⟨l, _, h1, h2, upd_same, h4.put i r⟩) (eb.trans g.b) q⟩
  · obtain ⟨z1, z2, z3⟩ := a2 p x hx
    exact ⟨z1, z2, ex_nn g3.k z3⟩
  · rw [h2, List.mem_singleton] at ha
    subst ha
    rw [upd_same]
    exact fun z => by cases z
/-- sorted(xs), ints -/
theorem en_sortedI {ns ms : List Int} (ha : EvE K ta env (intsD ns)) (hm : ∀ ns' : List Int, ns'.Perm ns → ns'.Pairwise (· ≤ ·) → ns' = ms) : EvN K (tCB (rSortedI K) (tCons ta tNil)) env (intL ms) :=
  en_cb (ea_cons ha ea_nil) fun B H vs e r Q q => by
    obtain ⟨v, rfl, h1⟩ := one_rp r
    simp only [intsD, Rp] at h1
    obtain ⟨a, xs, rfl, h2, h3⟩ := h1
    have z := rp_ints h3
    subst z
    refine ⟨a, ns, rfl, sq_of (e _ _ h2), fun ns' p hp hs hn => ?_⟩
    have z2 := hm ns' hp hs
    subst z2
    exact q p _ B _ (Gr.put e hn) hn (fresh_back e hn) upd_same (ints_rp ns')
end

/-! ### is, in -/
section
variable {K : PySem.W.Frag} {env : En} {te ta tb tc : TE} {d x y : Da} {a b : Bool}
theorem ev_isBl (ha : EvE K ta env (.bl a)) (hb : EvE K tb env (.bl b)) : EvE K (tOp rIsB ta tb) env (.bl (decide (a = b))) :=
  ev_op ha hb fun B H v w e r1 r2 Q q => by
    simp only [Rp] at r1 r2
    subst r1 r2
    exact ⟨a, b, rfl, rfl, q _ B H (Gr.refl e) (by simp only [Rp])⟩
theorem ev_notBl (ha : EvE K ta env (.bl a)) (hb : EvE K tb env (.bl b)) : EvE K (tOp rNotB ta tb) env (.bl (!decide (a = b))) :=
  ev_op ha hb fun B H v w e r1 r2 Q q => by
    simp only [Rp] at r1 r2
    subst r1 r2
    exact ⟨a, b, rfl, rfl, q _ B H (Gr.refl e) (by simp only [Rp])⟩
def isNonD : Da → Bool
  | .non => true
  | _ => false
theorem isN_dec {B : Hp} {v : V} (r : Rp K B d v) : decide (v = .non) = isNonD d := by
  cases d with
  | non =>
    simp only [Rp] at r
    subst r
    rfl
  | bl b =>
    simp only [Rp] at r
    subst r
    rfl
  | int i =>
    simp only [Rp] at r
    subst r
    rfl
  | str s =>
    simp only [Rp] at r
    subst r
    rfl
  | ty n =>
    simp only [Rp] at r
    subst r
    rfl
  | cls C =>
    simp only [Rp] at r
    subst r
    rfl
  | lst ds =>
    simp only [Rp] at r
    obtain ⟨a, xs, rfl, _⟩ := r
    rfl
  | sq ds =>
    simp only [Rp] at r
    obtain ⟨a, xs, rfl, _⟩ := r
    rfl
  | tup ds =>
    simp only [Rp] at r
    obtain ⟨a, xs, rfl, _⟩ := r
    rfl
  | obj C ns ds =>
    simp only [Rp] at r
    obtain ⟨a, dx, xs, rfl, _⟩ := r
    rfl
theorem ev_isN (ha : EvE K ta env d) : EvE K (tOp rIsN ta (tC .non)) env (.bl (isNonD d)) :=
  ev_op ha ev_non fun B H v w e r1 r2 Q q => by
    simp only [Rp] at r2
    subst r2
    exact ⟨rfl, q _ B H (Gr.refl e) (by simp only [Rp, isN_dec r1])⟩
theorem ev_notN (ha : EvE K ta env d) : EvE K (tOp rNotN ta (tC .non)) env (.bl (!isNonD d)) :=
  ev_op ha ev_non fun B H v w e r1 r2 Q q => by
    simp only [Rp] at r2
    subst r2
    exact ⟨rfl, q _ B H (Gr.refl e) (by simp only [Rp, isN_dec r1])⟩
/-- an int in a tuple of ints -/
theorem inV_ints (i : Int) (ns : List Int) : inV (.int i) (ns.map V.int) = decide (i ∈ ns) := by
  unfold inV
  rw [List.any_map]
  induction ns with
  | nil => simp
  | cons n ns ih =>
    rw [List.any_cons, ih]
    have e : (Function.comp (fun y => eqV y (V.int i)) V.int) n = decide (n = i) := by
      simp [eqV, beqd]
    rw [e]
    by_cases h : n = i
    · simp [h]
    · have h' : ¬ i = n := fun z => h z.symm
      simp [h, h']
theorem ev_inI {i : Int} {ns : List Int} {neg : Bool} (ha : EvE K ta env (.int i)) (hb : EvE K tb env (.tup (intL ns))) : EvE K (tOp (rIn K neg) ta tb) env (.bl (if neg then !decide (i ∈ ns) else decide (i ∈ ns))) :=
  ev_op ha hb fun B H v w e r1 r2 Q q => by
    simp only [Rp] at r1 r2
    obtain ⟨a, xs, rfl, h2, h3⟩ := r2
    subst r1
    have z := rp_ints h3
    subst z
    refine ⟨a, ns.map V.int, rfl, .inr (st_of (e _ _ h2)), rfl, ?_, q _ B H (Gr.refl e) (by simp only [Rp, inV_ints])⟩
    rw [List.all_map]
    exact List.all_eq_true.mpr fun _ _ => rfl
end
end FR

/-! Rows of stones: what falls. -/
namespace FR

/-! ### rows -/
def plc (row : List (Int × Int)) (i : Int) : Int := (row.getD i.toNat (0, 0)).1
def hgt (row : List (Int × Int)) (i : Int) : Int := (row.getD i.toNat (0, 0)).2
def mx (a b : Int) : Int := if b > a then b else a
def mn (a b : Int) : Int := if b < a then b else a
theorem mx_eq (a b : Int) : (if b > a then b else a) = mx a b := rfl
theorem mn_eq (a b : Int) : (if b < a then b else a) = mn a b := rfl
structure Okr (row : List (Int × Int)) : Prop where
  pos : ∀ i : Nat, i < row.length → 0 < hgt row i
  inc : ∀ i j : Nat, i < j → j < row.length → plc row i < plc row j
  few : row.length ≤ 1000
/-- the stones ahead of a pushed one, told from it on: how far, how high -/
def qf (row : List (Int × Int)) (s : Int) (i : Nat) (k : Nat) : Int × Int := (s * plc row (i + s * k), hgt row (i + s * k))
/-- how many lie ahead to that side -/
def ah (row : List (Int × Int)) (s : Int) (i : Nat) : Nat := if s = 1 then row.length - 1 - i else i
def goN (q : Nat → Int × Int) : Nat → Nat → Int → Nat × Int
  | 0, k, far => (k, far)
  | m + 1, k, far => if (q (k + 1)).1 ≤ far then goN q m (k + 1) (mx far ((q (k + 1)).1 + (q (k + 1)).2)) else (k, far)
/-- how many fall behind the pushed one, and how far all reach -/
def fell (row : List (Int × Int)) (s : Int) (i : Nat) : Nat × Int := goN (qf row s i) (ah row s i) 0 ((qf row s i 0).1 + (qf row s i 0).2)
/-- the last one that falls -/
def lastI (row : List (Int × Int)) (s : Int) (i : Nat) : Int := i + s * (fell row s i).1
def farI (row : List (Int × Int)) (s : Int) (i : Nat) : Int := (fell row s i).2
def Sd (s : Int) : Prop := s = 1 ∨ s = -1

structure Chn (q : Nat → Int × Int) (m K : Nat) (F : Int) : Prop where
  le : K ≤ m
  by_ : ∀ j, j < K → ∃ t, t ≤ j ∧ (q (j + 1)).1 ≤ (q t).1 + (q t).2
  stop : K < m → ∀ t, t ≤ K → (q t).1 + (q t).2 < (q (K + 1)).1
  far : ∀ t, t ≤ K → (q t).1 + (q t).2 ≤ F
  att : ∃ t, t ≤ K ∧ F = (q t).1 + (q t).2
theorem goN_chn (q : Nat → Int × Int) (m : Nat) : ∀ (r k : Nat) (far : Int), k + r = m → Chn q k k far → Chn q m (goN q r k far).1 (goN q r k far).2
  | 0, k, far, e, c => by
    subst e
    exact ⟨by simp [goN], c.by_, fun h => by simp [goN] at h, c.far, c.att⟩
  | r + 1, k, far, e, c => by
    unfold goN
    by_cases h : (q (k + 1)).1 ≤ far
    · rw [if_pos h]
      refine goN_chn q m r (k + 1) _ (by omega) ⟨Nat.le_refl _, fun j hj => ?_, fun z => absurd z (by omega), fun t ht => ?_, ?_⟩
      · by_cases e2 : j = k
        · subst e2
          obtain ⟨t, ht, ef⟩ := c.att
          exact ⟨t, ht, by omega⟩
        · exact c.by_ j (by omega)
      · unfold mx
        by_cases e2 : t = k + 1
        · subst e2
          split <;> omega
        · have := c.far t (by omega)
          split <;> omega
      · unfold mx
        split
        · exact ⟨k + 1, Nat.le_refl _, rfl⟩
        · obtain ⟨t, ht, ef⟩ := c.att
          exact ⟨t, by omega, ef⟩
    · rw [if_neg h]
      exact ⟨by omega, c.by_, fun _ t ht => by
        have := c.far t ht
        show _ < (q (k + 1)).1
        omega, c.far, c.att⟩
theorem fell_chn (row : List (Int × Int)) (s : Int) (i : Nat) : Chn (qf row s i) (ah row s i) (fell row s i).1 (fell row s i).2 :=
  goN_chn _ _ _ 0 _ (by omega) ⟨Nat.le_refl _, fun j hj => absurd hj (by omega), fun z => absurd z (by omega), fun t ht => by
    have : t = 0 := by omega
    subst this
    exact Int.le_refl _, ⟨0, Nat.le_refl _, rfl⟩⟩
theorem Chn.uniq {q : Nat → Int × Int} {m K K' : Nat} {F F' : Int} (c : Chn q m K F) (c' : Chn q m K' F') : K = K' := by
  rcases Nat.lt_trichotomy K K' with h | h | h
  · obtain ⟨t, ht, e⟩ := c'.by_ K h
    have := c.stop (by have := c'.le; omega) t ht
    omega
  · exact h
  · obtain ⟨t, ht, e⟩ := c.by_ K' h
    have := c'.stop (by have := c.le; omega) t ht
    omega
end FR

/-! The program's defs about rows: what each computes. -/
namespace FR
open PySem L2 Evl
structure CS where
  w : World
  Answer : Addr
  Chain : Addr
  Stands : Addr
  Fewest : Addr
  Rights : Addr
  Higher : Addr

/-! ### rows read -/
theorem getD_atI {α : Type} {xs : List α} {i : Int} {d : α} (h0 : 0 ≤ i) (h1 : i < xs.length) : atI xs i = some (xs.getD i.toNat d) := by
  have e : i = ((i.toNat : Nat) : Int) := by omega
  have hl : i.toNat < xs.length := by omega
  rw [e]
  refine atI_nat ?_
  simp only [Int.toNat_natCast]
  rw [List.getElem?_eq_getElem hl, List.getD_eq_getElem?_getD, List.getElem?_eq_getElem hl]
  rfl
section
variable {K : PySem.W.Frag} {env : En} {te ta tb tc : TE} {row : List (Int × Int)} {i : Int} {ns : List Int}
theorem row_atI (h0 : 0 ≤ i) (h1 : i < row.length) : atI (rowL row) i = some (prD (plc row i, hgt row i)) := by
  have h := getD_atI (xs := row) (d := (0, 0)) h0 h1
  unfold atI at h ⊢
  rw [List.length_map]
  cases e : ixN row.length i with
  | none =>
    rw [e] at h
    cases h
  | some j =>
    rw [e] at h
    have h' : row[j]? = some (row.getD i.toNat (0, 0)) := h
    show (rowL row)[j]? = _
    rw [List.getElem?_map, h']
    rfl
theorem ev_rowI (ha : EvE K ta env (rowD row)) (hb : EvE K tb env (.int i)) (h0 : 0 ≤ i) (h1 : i < row.length) : EvE K (tOp (rIxL K) ta tb) env (prD (plc row i, hgt row i)) :=
  ev_ixL ha hb (row_atI h0 h1)
theorem ev_row0 (ha : EvE K ta env (rowD row)) (hb : EvE K tb env (.int i)) (h0 : 0 ≤ i) (h1 : i < row.length) : EvE K (tOp (rIxT K) (tOp (rIxL K) ta tb) (tC (.int 0))) env (.int (plc row i)) :=
  ev_ixT (ev_rowI ha hb h0 h1) ev_int rfl
theorem ev_row1 (ha : EvE K ta env (rowD row)) (hb : EvE K tb env (.int i)) (h0 : 0 ≤ i) (h1 : i < row.length) : EvE K (tOp (rIxT K) (tOp (rIxL K) ta tb) (tC (.int 1))) env (.int (hgt row i)) :=
  ev_ixT (ev_rowI ha hb h0 h1) ev_int rfl
theorem ev_pr0 {p : Int × Int} (ha : EvE K ta env (prD p)) : EvE K (tOp (rIxT K) ta (tC (.int 0))) env (.int p.1) := ev_ixT ha ev_int rfl
theorem ev_pr1 {p : Int × Int} (ha : EvE K ta env (prD p)) : EvE K (tOp (rIxT K) ta (tC (.int 1))) env (.int p.2) := ev_ixT ha ev_int rfl
theorem ev_lenR (ha : EvE K ta env (rowD row)) : EvE K (tCB (rLenS K) (tCons ta tNil)) env (.int (row.length : Int)) := (ev_lenL ha).is (by rw [List.length_map])
theorem ev_lenI (ha : EvE K ta env (intsD ns)) : EvE K (tCB (rLenS K) (tCons ta tNil)) env (.int (ns.length : Int)) := (ev_lenL ha).is (by rw [List.length_map])
theorem plc_get {j : Nat} {p : Int × Int} (h : row[j]? = some p) : p = (plc row j, hgt row j) := by
  unfold plc hgt
  simp only [Int.toNat_natCast]
  rw [List.getD_eq_getElem?_getD, h]
  rfl
theorem plc_mem {p : Int × Int} (h : p ∈ row) : ∃ j : Nat, j < row.length ∧ p = (plc row j, hgt row j) := by
  obtain ⟨j, hj, e⟩ := List.mem_iff_getElem.mp h
  exact ⟨j, hj, plc_get (by rw [List.getElem?_eq_getElem hj, e])⟩
end
local macro_rules | `(tactic| walk_at "ev") => `(tactic| first
  | (apply ev_pr0; walk_at "ev")
  | (apply ev_pr1; walk_at "ev")
  | (apply ev_lenR; walk_at "ev")
  | (apply ev_lenI; walk_at "ev"))
local macro_rules | `(tactic| walk_at "side") => `(tactic| first | assumption | decide | omega | (exact Or.inl ⟨by decide, by decide⟩) | (exact Or.inr ⟨by decide, by decide⟩))
local macro_rules | `(tactic| walk_at "wk") => `(tactic| first
  | (apply wk_rng1 <;> first | walk_at "ev" | walk_at "side")
  | (apply wk_rng2 <;> first | walk_at "ev" | walk_at "side")
  | (apply wk_list; walk_at "ev")
  | (apply wk_sq; walk_at "ev")
  | (apply wk_tup; walk_at "ev"))
local macro_rules | `(tactic| walk_at "en") => `(tactic| first
  | (apply en_lst <;> first | walk_at "ea" | simp)
  | (apply en_listL; walk_at "ev")
  | (apply en_listT; walk_at "ev")
  | (apply en_rev; walk_at "ev")
  | (apply en_slL <;> first | walk_at "ev" | walk_at "eo")
  | (apply en_slQ <;> first | walk_at "ev" | walk_at "eo"))
local macro_rules | `(tactic| walk_at "eo") => `(tactic| first
  | exact eo_none
  | (apply eo_some; walk_at "ev"))
local macro_rules | `(tactic| walk_at "ea") => `(tactic| first
  | exact ea_nil
  | (apply ea_cons <;> first | walk_at "ev" | walk_at "ea"))
local macro_rules | `(tactic| walk_at "eb") => `(tactic| first
  | exact eb_yes
  | (apply eb_not; walk_at "eb")
  | (apply eb_test; walk_at "ev")
  | (apply eb_B; walk_at "ev"))
local macro_rules | `(tactic| walk_at "ev") => `(tactic| first
  | exact ev_int
  | exact ev_bl
  | exact ev_non
  | exact ev_ty
  | exact ev_str
  | exact ev_cls
  | exact ev_var rfl
  | assumption
  | (apply ev_row0 <;> first | walk_at "ev" | walk_at "side")
  | (apply ev_row1 <;> first | walk_at "ev" | walk_at "side")
  | (apply ev_rowI <;> first | walk_at "ev" | walk_at "side")
  | (apply ev_add <;> walk_at "ev")
  | (apply ev_sub <;> walk_at "ev")
  | (apply ev_mul <;> first | walk_at "ev" | walk_at "side")
  | (apply ev_neg; walk_at "ev")
  | (apply ev_lt <;> walk_at "ev")
  | (apply ev_le <;> walk_at "ev")
  | (apply ev_gt <;> walk_at "ev")
  | (apply ev_ge <;> walk_at "ev")
  | (apply ev_mod <;> first | walk_at "ev" | walk_at "side")
  | (apply ev_div <;> first | walk_at "ev" | exact ⟨by decide, by decide⟩)
  | (apply ev_eqI <;> walk_at "ev")
  | (apply ev_neI <;> walk_at "ev")
  | (apply ev_max2 <;> walk_at "ev")
  | (apply ev_min2 <;> walk_at "ev")
  | (apply ev_abs; walk_at "ev")
  | (apply ev_lenL; walk_at "ev")
  | (apply ev_lenQ; walk_at "ev")
  | (apply ev_lenT; walk_at "ev")
  | (apply ev_isiB <;> first | walk_at "ev" | rfl | decide +kernel)
  | (apply ev_chainI rfl rfl <;> first | walk_at "ev" | (intro _; walk_at "ev"))
  | (apply ev_notV; walk_at "ev")
  | (apply ev_tup <;> first | walk_at "ea" | simp)
  | (apply ev_new; walk_at "en"))


/-! ### what the defs promise -/
def P_is_number (ds : List Da) (d : Da) : Prop := ∃ i : Int, ds = [.int i] ∧ d = .bl true
def P_is_pair (ds : List Da) (d : Da) : Prop := ∃ p : Int × Int, ds = [prD p] ∧ d = .bl true
def P_check_row (ds : List Da) (d : Da) : Prop := ∃ row, ds = [rowD row] ∧ Okr row ∧ d = .non
def P_check_stone (ds : List Da) (d : Da) : Prop := ∃ row, ∃ i : Int, ds = [rowD row, .int i] ∧ (0 ≤ i ∧ i < row.length) ∧ d = .non
def P_check_side (ds : List Da) (d : Da) : Prop := ∃ s : Int, ds = [.int s] ∧ Sd s ∧ d = .non
def P_last_felled (ds : List Da) (d : Da) : Prop := ∃ row, ∃ i : Nat, ∃ s : Int, ds = [rowD row, .int i, .int s] ∧ (i < row.length ∧ row.length ≤ 1000 ∧ Sd s) ∧ d = .tup [.int (lastI row s i), .int (farI row s i)]
/-- the ints lo .. hi -/
def spanL (lo hi : Int) : List Int := (List.range (hi + 1 - lo).toNat).map fun k => lo + (k : Nat)
def fellL (row : List (Int × Int)) (i : Nat) (s : Int) : List Int := spanL (mn i (lastI row s i)) (mx i (lastI row s i))
def P_felled_by (ds : List Da) (es : List Da) : Prop := ∃ row, ∃ i : Nat, ∃ s : Int, ds = [rowD row, .int i, .int s] ∧ (i < row.length ∧ row.length ≤ 1000 ∧ Sd s) ∧ es = intL (fellL row i s)
def mir (row : List (Int × Int)) : List (Int × Int) := row.reverse.map fun p => (-p.1, p.2)
def P_mirrored (ds : List Da) (es : List Da) : Prop := ∃ row, ds = [rowD row] ∧ Okr row ∧ es = rowL (mir row)
def P_felled (ds : List Da) (es : List Da) : Prop := ∃ row, ∃ i : Nat, ∃ s : Int, ds = [rowD row, .int i, .int s] ∧ (i < row.length ∧ Okr row ∧ Sd s) ∧ es = intL (fellL row i s)
abbrev sp_is_number (K : PySem.W.Frag) (C : CS) : Sp := FnP K P_is_number
abbrev sp_is_pair (K : PySem.W.Frag) (C : CS) : Sp := FnP K P_is_pair
abbrev sp_check_row (K : PySem.W.Frag) (C : CS) : Sp := FnP K P_check_row
abbrev sp_check_stone (K : PySem.W.Frag) (C : CS) : Sp := FnP K P_check_stone
abbrev sp_check_side (K : PySem.W.Frag) (C : CS) : Sp := FnP K P_check_side
abbrev sp_last_felled (K : PySem.W.Frag) (C : CS) : Sp := FnP K P_last_felled
abbrev sp_felled_by (K : PySem.W.Frag) (C : CS) : Sp := FnL K P_felled_by
abbrev sp_mirrored (K : PySem.W.Frag) (C : CS) : Sp := FnL K P_mirrored
abbrev sp_felled (K : PySem.W.Frag) (C : CS) : Sp := FnL K P_felled
def t_is_number (K : PySem.W.Frag) (C : CS) : TS :=
  (tRet (tAndV (tCB (rIsi K) (tCons (tVar 0) (tCons (tC (.ty "int")) tNil))) (tNotV (tCB (rIsi K) (tCons (tVar 0) (tCons (tC (.ty "bool")) tNil))))))
def t_is_pair (K : PySem.W.Frag) (C : CS) : TS :=
  (tRet (tAndV (tCB (rIsi K) (tCons (tVar 0) (tCons (tC (.ty "tuple")) tNil))) (tAndV (tOp rEq (tCB (rLenS K) (tCons (tVar 0) tNil)) (tC (.int 2))) (tAndV (tCall (sp_is_number K C) [] E0 (tCons (tOp (rIxT K) (tVar 0) (tC (.int 0))) tNil)) (tCall (sp_is_number K C) [] E0 (tCons (tOp (rIxT K) (tVar 0) (tC (.int 1))) tNil))))))
def t_check_row (K : PySem.W.Frag) (C : CS) : TS :=
  (tSeq (tIfS (tOr (tNot (tB (tCB (rIsi K) (tCons (tVar 0) (tCons (tC (.ty "list")) tNil))))) (tNot (tB (tCB (rAll K) (tCons (tLc (iList K (tVar 0)) (gName 1) tYes (tAndV (tCall (sp_is_pair K C) [] E0 (tCons (tVar 1) tNil)) (tOp rGtI (tOp (rIxT K) (tVar 1) (tC (.int 1))) (tC (.int 0)))) [1]) tNil))))) tNever tNext) (tIfS (tNot (tB (tCB (rAll K) (tCons (tLc (iRng2 (tCons (tC (.int 1)) (tCons (tCB (rLenS K) (tCons (tVar 0) tNil)) tNil))) (gName 2) tYes (tOp rLtI (tOp (rIxT K) (tOp (rIxL K) (tVar 0) (tOp rSubI (tVar 2) (tC (.int 1)))) (tC (.int 0))) (tOp (rIxT K) (tOp (rIxL K) (tVar 0) (tVar 2)) (tC (.int 0)))) [2]) tNil)))) tNever tNext))
def t_check_stone (K : PySem.W.Frag) (C : CS) : TS :=
  (tIfS (tOr (tNot (tB (tCall (sp_is_number K C) [] E0 (tCons (tVar 1) tNil)))) (tNot (tTest (tChain rLeI rLtI (tC (.int 0)) (tVar 1) (tCB (rLenS K) (tCons (tVar 0) tNil)))))) tNever tNext)
def t_check_side (K : PySem.W.Frag) (C : CS) : TS :=
  (tIfS (tOr (tNot (tB (tCall (sp_is_number K C) [] E0 (tCons (tVar 0) tNil)))) (tTest (tOp (rIn K true) (tVar 0) (tTup (tCons (tC (.int 1)) (tCons (tUn (rU fun i => .int (-i)) (tC (.int 1))) tNil)))))) tNever tNext)
def t_last_felled (K : PySem.W.Frag) (C : CS) : TS :=
  (tSeq (tAsg (tOp rAddI (tOp rMulI (tVar 2) (tOp (rIxT K) (tOp (rIxL K) (tVar 0) (tVar 1)) (tC (.int 0)))) (tOp (rIxT K) (tOp (rIxL K) (tVar 0) (tVar 1)) (tC (.int 1)))) (gName 3)) (tSeq (tAsg (tVar 1) (gName 4)) (tSeq (tWhile (tAnd (tTest (tChain rLeI rLtI (tC (.int 0)) (tOp rAddI (tVar 4) (tVar 2)) (tCB (rLenS K) (tCons (tVar 0) tNil)))) (tTest (tOp rLeI (tOp rMulI (tVar 2) (tOp (rIxT K) (tOp (rIxL K) (tVar 0) (tOp rAddI (tVar 4) (tVar 2))) (tC (.int 0)))) (tVar 3)))) (tSeq (tAug 4 (tVar 2) (ipI fun i j => i + j)) (tAsg (tCB rMax2 (tCons (tVar 3) (tCons (tOp rAddI (tOp rMulI (tVar 2) (tOp (rIxT K) (tOp (rIxL K) (tVar 0) (tVar 4)) (tC (.int 0)))) (tOp (rIxT K) (tOp (rIxL K) (tVar 0) (tVar 4)) (tC (.int 1)))) tNil))) (gName 3)))) (tRet (tTup (tCons (tVar 4) (tCons (tVar 3) tNil)))))))
def t_felled_by (K : PySem.W.Frag) (C : CS) : TS :=
  (tSeq (tAsg (tOp (rIxT K) (tCall (sp_last_felled K C) [] E0 (tCons (tVar 0) (tCons (tVar 1) (tCons (tVar 2) tNil)))) (tC (.int 0))) (gName 3)) (tRet (tLstRg (tRg2 (tCB rMin2 (tCons (tVar 1) (tCons (tVar 3) tNil))) (tOp rAddI (tCB rMax2 (tCons (tVar 1) (tCons (tVar 3) tNil))) (tC (.int 1)))))))
def t_mirrored (K : PySem.W.Frag) (C : CS) : TS :=
  (tSeq (tDrop (tCall (sp_check_row K C) [] E0 (tCons (tVar 0) tNil))) (tRet (tLc (iRev K (tCons (tVar 0) tNil)) (gTup K 2 (gCons (gName 1) (gCons (gName 2) gNil))) tYes (tTup (tCons (tUn (rU fun i => .int (-i)) (tVar 1)) (tCons (tVar 2) tNil))) [1, 2])))
def t_felled (K : PySem.W.Frag) (C : CS) : TS :=
  (tSeq (tDrop (tCall (sp_check_row K C) [] E0 (tCons (tVar 0) tNil))) (tSeq (tDrop (tCall (sp_check_stone K C) [] E0 (tCons (tVar 0) (tCons (tVar 1) tNil)))) (tSeq (tDrop (tCall (sp_check_side K C) [] E0 (tCons (tVar 2) tNil))) (tRet (tCall (sp_felled_by K C) [] E0 (tCons (tVar 0) (tCons (tVar 1) (tCons (tVar 2) tNil))))))))

/-! ### what they compute -/
section
variable {K : PySem.W.Frag} {C : CS}
theorem run_is_number {ds : List Da} {d : Da} (h : P_is_number ds d) : Run K (t_is_number K C) (ent ds 0) (retD d) := by
  obtain ⟨i, rfl, rfl⟩ := h
  refine run_ret (d := .bl (true && !false)) (ev_andV (a := true) (b := !false) ?_ fun _ => ?_) rfl
  · walk_at "ev"
  · walk_at "ev"
theorem run_is_pair {ds : List Da} {d : Da} (h : P_is_pair ds d) : Run K (t_is_pair K C) (ent ds 0) (retD d) := by
  obtain ⟨p, rfl, rfl⟩ := h
  refine run_ret (d := .bl (true && (decide ((2 : Int) = 2) && (true && true)))) (ev_andV ?_ fun _ => ev_andV ?_ fun _ => ev_andV ?_ fun _ => ?_) rfl
  · exact ev_isiB (n := "tuple") (ev_var rfl) ev_ty rfl (by decide)
  · exact ev_eqI (ev_lenT (ds := [.int p.1, .int p.2]) (ev_var rfl)) ev_int
  · exact ev_call (ds := [.int p.1]) (ea_cons (ev_pr0 (ev_var rfl)) ea_nil) ⟨p.1, rfl, rfl⟩
  · exact ev_call (ds := [.int p.2]) (ea_cons (ev_pr1 (ev_var rfl)) ea_nil) ⟨p.2, rfl, rfl⟩
theorem run_check_row {ds : List Da} {d : Da} (h : P_check_row ds d) : Run K (t_check_row K C) (ent ds 2) (retD d) := by
  obtain ⟨row, rfl, ok, rfl⟩ := h
  refine run_seq (run_if (b := !true || !true) (eb_or ?_ fun _ => ?_) (fun z => by cases z) fun _ => run_next ?_)
  · refine eb_not (eb_B ?_)
    exact ev_isiB (n := "list") (ev_var rfl) ev_ty rfl (by decide)
  · refine eb_not (eb_B ?_)
    refine (ev_all (bs := (row.filter fun _ => true).map fun p => true && decide (0 < p.2)) ?_).is ?_
    · refine ev_new ?_
      refine (en_lc (us := [1]) prD (fun _ => true) (fun p => Da.bl (true && decide (0 < p.2))) row (wk_list (ev_var rfl)) (by simp) (by have := ok.few; omega) fun p hp => ⟨_, tc_name, eb_yes, fun _ => ?_⟩).is (by rw [List.map_map]; rfl)
      refine ev_andV ?_ fun _ => ?_
      · exact ev_call (ds := [prD p]) (ea_cons (ev_var rfl) ea_nil) ⟨p, rfl, rfl⟩
      · exact ev_gt (ev_pr1 (ev_var rfl)) ev_int
    · congr 1
      rw [List.all_map, List.all_eq_true]
      intro p hp
      obtain ⟨j, hj, rfl⟩ := plc_mem (List.mem_filter.mp hp).1
      have := ok.pos j hj
      simp [this]
  · refine run_if (b := !true) ?_ (fun z => by cases z) fun _ => run_next rfl
    refine eb_not (eb_B ?_)
    refine (ev_all (bs := ((List.range ((row.length : Int) - 1).toNat).filter fun _ => true).map fun k => decide (plc row (1 + (k : Nat) - 1) < plc row (1 + (k : Nat)))) ?_).is ?_
    · refine ev_new ?_
      refine (en_lc (us := [2]) (fun k : Nat => Da.int (1 + (k : Nat))) (fun _ => true) (fun k => Da.bl (decide (plc row (1 + (k : Nat) - 1) < plc row (1 + (k : Nat))))) (List.range ((row.length : Int) - 1).toNat) ?_ (by simp) (by rw [List.length_range]; have := ok.few; omega) fun k hk => ⟨_, tc_name, eb_yes, fun _ => ?_⟩).is (by rw [List.map_map]; rfl)
      · refine wk_rng2 ev_int (ev_lenR (ev_var rfl)) ?_
        have := ok.few
        omega
      · have hk' := List.mem_range.mp hk
        refine ev_lt (ev_row0 (ev_var rfl) (ev_sub (ev_var rfl) ev_int) (by omega) (by omega)) (ev_row0 (ev_var rfl) (ev_var rfl) (by omega) (by omega))
    · congr 1
      rw [List.all_map, List.all_eq_true]
      intro k hk
      have hk' := List.mem_range.mp (List.mem_filter.mp hk).1
      have := ok.inc k (k + 1) (by omega) (by omega)
      simp only [Function.comp, id, decide_eq_true_eq]
      have e1 : (1 : Int) + (k : Nat) - 1 = ((k : Nat) : Int) := by omega
      have e2 : (1 : Int) + (k : Nat) = ((k + 1 : Nat) : Int) := by omega
      rw [e1, e2]
      exact this
theorem run_check_stone {ds : List Da} {d : Da} (h : P_check_stone ds d) : Run K (t_check_stone K C) (ent ds 0) (retD d) := by
  obtain ⟨row, i, rfl, hi, rfl⟩ := h
  refine run_if (b := !true || !(decide (0 ≤ i) && decide (i < (row.length : Int)))) (eb_or ?_ fun _ => ?_) (fun z => ?_) fun _ => run_next rfl
  · exact eb_not (eb_B (ev_call (ds := [.int i]) (ea_cons (ev_var rfl) ea_nil) ⟨i, rfl, rfl⟩))
  · exact eb_not (eb_test (ev_chainI rfl rfl ev_int (ev_var rfl) fun _ => ev_lenR (ev_var rfl)))
  · rw [decide_eq_true hi.1, decide_eq_true hi.2] at z
    cases z
theorem run_check_side {ds : List Da} {d : Da} (h : P_check_side ds d) : Run K (t_check_side K C) (ent ds 0) (retD d) := by
  obtain ⟨s, rfl, hs, rfl⟩ := h
  refine run_if (b := !true || (if true = true then !decide (s ∈ [1, -1]) else decide (s ∈ [1, -1]))) (eb_or ?_ fun _ => ?_) (fun z => ?_) fun _ => run_next rfl
  · exact eb_not (eb_B (ev_call (ds := [.int s]) (ea_cons (ev_var rfl) ea_nil) ⟨s, rfl, rfl⟩))
  · exact eb_test (ev_inI (ns := [1, -1]) (ev_var rfl) (ev_tup (ea_cons ev_int (ea_cons (ev_neg ev_int) ea_nil))))
  · rcases hs with rfl | rfl <;> simp at z
theorem cmul_s {s x : Int} (h : Sd s) : CMul s x := .inl (by rcases h with rfl | rfl <;> decide)
theorem run_last_felled {ds : List Da} {d : Da} (h : P_last_felled ds d) : Run K (t_last_felled K C) (ent ds 2) (retD d) := by
  obtain ⟨row, i, s, rfl, ⟨hi, hn, hs⟩, rfl⟩ := h
  refine run_seq (run_asg (d := .int ((qf row s i 0).1 + (qf row s i 0).2)) ?_ ?_)
  · refine (ev_add (ev_mul (ev_var rfl) (ev_row0 (i := i) (ev_var rfl) (ev_var rfl) (by omega) (by omega)) (cmul_s hs)) (ev_row1 (i := i) (ev_var rfl) (ev_var rfl) (by omega) (by omega))).is ?_
    simp [qf]
  refine run_seq (run_asg (d := .int (i : Nat)) (ev_var rfl) ?_)
  refine run_seq (run_while (fun m e => ∃ k far, e = [.im (rowD row), .im (.int i), .im (.int s), .im (.int far), .im (.int (i + s * (k : Nat)))] ∧ k + m = ah row s i ∧ goN (qf row s i) m k far = fell row s i) (ah row s i) ⟨0, (qf row s i 0).1 + (qf row s i 0).2, ?_, by omega, rfl⟩ ?_)
  · have e0 : (i : Int) + s * ((0 : Nat) : Int) = i := by simp
    rw [e0]
    rfl
  rintro m e ⟨k, far, rfl, hm, hg⟩
  have hk : 0 ≤ (i : Int) + s * k ∧ (i : Int) + s * k < row.length := by
    rcases hs with rfl | rfl
    · have : ah row 1 i = row.length - 1 - i := by unfold ah; simp
      omega
    · have : ah row (-1) i = i := by unfold ah; simp
      omega
  have e1 : (i : Int) + s * (k : Nat) + s = i + s * ((k + 1 : Nat) : Int) := by
    rcases hs with rfl | rfl <;> omega
  refine ⟨(decide (0 ≤ (i : Int) + s * k + s) && decide ((i : Int) + s * k + s < row.length)) && decide (s * plc row (i + s * k + s) ≤ far), eb_and (eb_test ?_) (fun hb => eb_test ?_), fun hb => ?_, fun hb => ?_⟩
  · exact ev_chainI rfl rfl ev_int (ev_add (ev_var rfl) (ev_var rfl)) fun _ => ev_lenR (ev_var rfl)
  · simp only [Bool.and_eq_true, decide_eq_true_eq] at hb
    exact ev_le (ev_mul (ev_var rfl) (ev_row0 (ev_var rfl) (ev_add (ev_var rfl) (ev_var rfl)) hb.1 hb.2) (cmul_s hs)) (ev_var rfl)
  · simp only [Bool.and_eq_true, decide_eq_true_eq] at hb
    have hm1 : m = (m - 1) + 1 := by
      rcases hs with rfl | rfl
      · have : ah row 1 i = row.length - 1 - i := by unfold ah; simp
        omega
      · have : ah row (-1) i = i := by unfold ah; simp
        omega
    refine run_seq (run_aug (a := i + s * (k : Nat)) (b := s) rfl (ev_var rfl) ?_)
    refine run_asg (d := .int (mx far (s * plc row (i + s * k + s) + hgt row (i + s * k + s)))) ?_ ?_
    · exact ev_max2 (ev_var rfl) (ev_add (ev_mul (ev_var rfl) (ev_row0 (ev_var rfl) (ev_var rfl) hb.1.1 hb.1.2) (cmul_s hs)) (ev_row1 (ev_var rfl) (ev_var rfl) hb.1.1 hb.1.2))
    · refine ⟨m - 1, by omega, k + 1, mx far (s * plc row (i + s * k + s) + hgt row (i + s * k + s)), ?_, by omega, ?_⟩
      · rw [← e1]
        rfl
      · rw [← hg, hm1]
        simp only [Nat.add_sub_cancel]
        conv => rhs; unfold goN
        rw [if_pos (by show s * plc row (i + s * ((k + 1 : Nat) : Int)) ≤ far; rw [← e1]; exact hb.2)]
        show _ = goN (qf row s i) (m - 1) (k + 1) (mx far (s * plc row (i + s * ((k + 1 : Nat) : Int)) + hgt row (i + s * ((k + 1 : Nat) : Int))))
        rw [← e1]
  · have hf : fell row s i = (k, far) := by
      rw [← hg]
      cases m with
      | zero => rfl
      | succ m =>
        unfold goN
        rw [if_neg]
        intro hq
        have hq' : s * plc row (i + s * ((k + 1 : Nat) : Int)) ≤ far := hq
        rw [← e1] at hq'
        rw [decide_eq_true hq', Bool.and_true, Bool.and_eq_false_iff, decide_eq_false_iff_not, decide_eq_false_iff_not] at hb
        rcases hs with rfl | rfl
        · have : ah row 1 i = row.length - 1 - i := by unfold ah; simp
          omega
        · have : ah row (-1) i = i := by unfold ah; simp
          omega
    refine run_ret (d := .tup [.int (i + s * (k : Nat)), .int far]) (ev_tup (ea_cons (ev_var rfl) (ea_cons (ev_var rfl) ea_nil))) ?_
    show Da.tup _ = Da.tup _
    unfold lastI farI
    rw [hf]
theorem lastI_in {row : List (Int × Int)} {s : Int} {i : Nat} (hi : i < row.length) (hs : Sd s) : 0 ≤ lastI row s i ∧ lastI row s i < row.length := by
  have h := (fell_chn row s i).le
  unfold lastI
  rcases hs with rfl | rfl
  · have : ah row 1 i = row.length - 1 - i := by unfold ah; simp
    omega
  · have : ah row (-1) i = i := by unfold ah; simp
    omega
theorem run_felled_by {ds : List Da} {es : List Da} (h : P_felled_by ds es) : Run K (t_felled_by K C) (ent ds 1) (retL es) := by
  obtain ⟨row, i, s, rfl, ⟨hi, hn, hs⟩, rfl⟩ := h
  have hl := lastI_in hi hs
  refine run_seq (run_asg (d := .int (lastI row s i)) ?_ ?_)
  · exact ev_ixT (ev_call (ds := [rowD row, .int i, .int s]) (ea_cons (ev_var rfl) (ea_cons (ev_var rfl) (ea_cons (ev_var rfl) ea_nil))) ⟨row, i, s, rfl, ⟨hi, hn, hs⟩, rfl⟩) ev_int rfl
  · refine run_retN (en_listRg (ev_min2 (ev_var rfl) (ev_var rfl)) (ev_add (ev_max2 (ev_var rfl) (ev_var rfl)) ev_int) ?_) ?_
    · refine RgOk.of_le ?_ ?_ ?_ ?_ <;> (repeat' split) <;> omega
    · show _ = intL (fellL row i s)
      unfold fellL spanL intL
      rw [List.map_map]
      rfl
theorem run_mirrored {ds : List Da} {es : List Da} (h : P_mirrored ds es) : Run K (t_mirrored K C) (ent ds 2) (retL es) := by
  obtain ⟨row, rfl, ok, rfl⟩ := h
  refine run_seq (run_drop (d := .non) (ev_call (ds := [rowD row]) (ea_cons (ev_var rfl) ea_nil) ⟨row, rfl, ok, rfl⟩) ?_)
  refine run_retN (en_lc (us := [1, 2]) prD (fun _ => true) (fun p => prD (-p.1, p.2)) row.reverse ?_ (by simp) (by rw [List.length_reverse]; have := ok.few; omega) fun p hp => ⟨_, tc_tup2 tc_name tc_name, eb_yes, fun _ => ?_⟩) ?_
  · have := wk_rev (K := K) (env := imm (ent [rowD row] 2)) (te := tVar 0) (ta := tVar 0) (ds := rowL row) (ev_var rfl)
    rw [List.map_reverse]
    exact this
  · exact ev_tup (ea_cons (ev_neg (ev_var rfl)) (ea_cons (ev_var rfl) ea_nil))
  · show _ = rowL (mir row)
    unfold mir rowL
    rw [List.map_map, List.filter_eq_self.mpr fun _ _ => rfl]
    rfl
theorem run_felled {ds : List Da} {es : List Da} (h : P_felled ds es) : Run K (t_felled K C) (ent ds 0) (retL es) := by
  obtain ⟨row, i, s, rfl, ⟨hi, ok, hs⟩, rfl⟩ := h
  refine run_seq (run_drop (d := .non) (ev_call (ds := [rowD row]) (ea_cons (ev_var rfl) ea_nil) ⟨row, rfl, ok, rfl⟩) ?_)
  refine run_seq (run_drop (d := .non) (ev_call (ds := [rowD row, .int i]) (ea_cons (ev_var rfl) (ea_cons (ev_var rfl) ea_nil)) ⟨row, i, rfl, by omega, rfl⟩) ?_)
  refine run_seq (run_drop (d := .non) (ev_call (ds := [.int s]) (ea_cons (ev_var rfl) ea_nil) ⟨s, rfl, hs, rfl⟩) ?_)
  exact run_retN (en_call (ds := [rowD row, .int i, .int s]) (ea_cons (ev_var rfl) (ea_cons (ev_var rfl) (ea_cons (ev_var rfl) ea_nil))) ⟨row, i, s, rfl, ⟨hi, ok.few, hs⟩, rfl⟩) rfl
end

/-! ### the same, as a def's body asks it -/
section
variable {K : PySem.W.Frag} {C : CS} {vs : List V} {H : Hp} {Q : VK} {E : XK}
theorem len_is_number (h : sp_is_number K C vs H Q E) : vs.length = 1 := len_P (m := 1) (fun ds d ⟨_, e, _⟩ => by rw [e]; rfl) h
theorem pure_is_number (h : sp_is_number K C vs H Q E) : t_is_number K C { nx := fun _ H' => Q .non H', rt := Q } (start ["thing"] vs) H := fnP_of 0 (fun ds d ⟨_, e, _⟩ => by rw [e]; rfl) (fun ds d p => run_is_number p) h
theorem len_is_pair (h : sp_is_pair K C vs H Q E) : vs.length = 1 := len_P (m := 1) (fun ds d ⟨_, e, _⟩ => by rw [e]; rfl) h
theorem pure_is_pair (h : sp_is_pair K C vs H Q E) : t_is_pair K C { nx := fun _ H' => Q .non H', rt := Q } (start ["thing"] vs) H := fnP_of 0 (fun ds d ⟨_, e, _⟩ => by rw [e]; rfl) (fun ds d p => run_is_pair p) h
theorem len_check_row (h : sp_check_row K C vs H Q E) : vs.length = 1 := len_P (m := 1) (fun ds d ⟨_, e, _⟩ => by rw [e]; rfl) h
theorem pure_check_row (h : sp_check_row K C vs H Q E) : t_check_row K C { nx := fun _ H' => Q .non H', rt := Q } (start ["row", "stone", "at"] vs) H := fnP_of 2 (fun ds d ⟨_, e, _⟩ => by rw [e]; rfl) (fun ds d p => run_check_row p) h
theorem len_check_stone (h : sp_check_stone K C vs H Q E) : vs.length = 2 := len_P (m := 2) (fun ds d ⟨_, _, e, _⟩ => by rw [e]; rfl) h
theorem pure_check_stone (h : sp_check_stone K C vs H Q E) : t_check_stone K C { nx := fun _ H' => Q .non H', rt := Q } (start ["row", "stone"] vs) H := fnP_of 0 (fun ds d ⟨_, _, e, _⟩ => by rw [e]; rfl) (fun ds d p => run_check_stone p) h
theorem len_check_side (h : sp_check_side K C vs H Q E) : vs.length = 1 := len_P (m := 1) (fun ds d ⟨_, e, _⟩ => by rw [e]; rfl) h
theorem pure_check_side (h : sp_check_side K C vs H Q E) : t_check_side K C { nx := fun _ H' => Q .non H', rt := Q } (start ["side"] vs) H := fnP_of 0 (fun ds d ⟨_, e, _⟩ => by rw [e]; rfl) (fun ds d p => run_check_side p) h
theorem len_last_felled (h : sp_last_felled K C vs H Q E) : vs.length = 3 := len_P (m := 3) (fun ds d ⟨_, _, _, e, _⟩ => by rw [e]; rfl) h
theorem pure_last_felled (h : sp_last_felled K C vs H Q E) : t_last_felled K C { nx := fun _ H' => Q .non H', rt := Q } (start ["row", "stone", "side", "far", "last"] vs) H := fnP_of 2 (fun ds d ⟨_, _, _, e, _⟩ => by rw [e]; rfl) (fun ds d p => run_last_felled p) h
theorem len_felled_by (h : sp_felled_by K C vs H Q E) : vs.length = 3 := len_L (m := 3) (fun ds d ⟨_, _, _, e, _⟩ => by rw [e]; rfl) h
theorem pure_felled_by (h : sp_felled_by K C vs H Q E) : t_felled_by K C { nx := fun _ H' => Q .non H', rt := Q } (start ["row", "stone", "side", "last"] vs) H := fnL_of 1 (fun ds d ⟨_, _, _, e, _⟩ => by rw [e]; rfl) (fun ds d p => run_felled_by p) h
theorem len_mirrored (h : sp_mirrored K C vs H Q E) : vs.length = 1 := len_L (m := 1) (fun ds d ⟨_, e, _⟩ => by rw [e]; rfl) h
theorem pure_mirrored (h : sp_mirrored K C vs H Q E) : t_mirrored K C { nx := fun _ H' => Q .non H', rt := Q } (start ["row", "place", "height"] vs) H := fnL_of 2 (fun ds d ⟨_, e, _⟩ => by rw [e]; rfl) (fun ds d p => run_mirrored p) h
theorem len_felled (h : sp_felled K C vs H Q E) : vs.length = 3 := len_L (m := 3) (fun ds d ⟨_, _, _, e, _⟩ => by rw [e]; rfl) h
theorem pure_felled (h : sp_felled K C vs H Q E) : t_felled K C { nx := fun _ H' => Q .non H', rt := Q } (start ["row", "stone", "side"] vs) H := fnL_of 0 (fun ds d ⟨_, _, _, e, _⟩ => by rw [e]; rfl) (fun ds d p => run_felled p) h
end
end FR

/-! set(xs) of a list of ints; list(range(a, b, c)); a chain of three. -/
namespace FR
open PySem PyProof.Rows

/-- a set as it is made, without members -/
abbrev bare (w : World) : Obj := { cls := .type "set", dict := none, data := .set #[] 0 (.fresh 0 0 (!w.params.followText "set-order")) }
section
variable {P : Program} {w : World} {A : Around} {E : Value → Shared → Prop} {s : Shared}
/-- what set(l) leaves: all kept, the new set told -/
def Left (w : World) (s : Shared) (ns : List Int) (h' : Heap) (c : Nat) : Prop :=
  L2.SetR w h' s.heap.objs.size (fun j => decide (j ∈ ns)) c ∧ c ≤ ns.length ∧ ∀ b o, s.heap.get? b = some o → h'.get? b = some o
theorem set_of_list {l : Addr} {xs : Array Value} {ns : List Int} {Q : Value → Shared → Prop} (calm : A.handled = none) (isl : s.heap.IsList l xs) (hin : PyProof.Rows.IntsAre xs.toList ns) (room : ns.length + 1 < scanBound)
    (k : ∀ (h' : Heap) (tk c : Nat), Left w s ns h' c → Q (.ref s.heap.objs.size) { s with heap := h', toks := tk }) : wpAny (model P w) A (call (.type "set") [.ref l]) Q E s := by
  have size : xs.size = ns.length := by
    rw [← Array.length_toList]
    exact PyProof.Rows.IntsAre.length hin
  have ⟨_, _, m1⟩ := F.called_set.mro
  have m2 := F.called_set.made
  have m3 := F.called_set.sub
  refine wpAny_call (codeAny_of_tree ?_)
  show wpAny _ _ (callAny (.type "set") ⟨[.ref l], []⟩) _ _ s
  refine wpAny_pure ⟨Code.quiet_builtin _ (by decide +kernel), codeAny_builtin F.entry_type_call ?_⟩
  rw [Around.under_plain (weight_type_call_type "set" [.ref l] []) rfl]
  have m4 := F.called_set.notType
  have m5 := F.called_set.canCreate
  have m6 := F.typeCall_set_1 (.ref l)
  repeat any_goals first | assumption | wp_step
  refine codeAny_mono (L2.code_set_led1 (.ref l) (E := E) (Q₁ := fun z t => z = .ref s.heap.objs.size ∧ t = { s with heap := s.heap.push (bare w) }) ⟨rfl, rfl⟩) fun r t hr => ?_
  match r, hr with
  | .error e, hr => exact hr
  | .ok .next, hr => exact hr.elim
  | .ok .brk, hr => exact hr.elim
  | .ok .cont, hr => exact hr.elim
  | .ok (.ret z), hr =>
    obtain ⟨rfl, rfl⟩ := hr
    have at0 : (s.heap.push (bare w)).get? s.heap.objs.size = some (bare w) := Heap.get?_push_size _ rfl
    have isS : Shared.TypeIs { s with heap := s.heap.push (bare w) } (.ref s.heap.objs.size) "set" := ⟨_, at0, rfl⟩
    have i1 := F.called_set.init.lookup
    have i2 := F.called_set.init.bind (.ref s.heap.objs.size)
    repeat any_goals first | assumption | wp_step
    refine codeAny_mono (codeAny_call_builtin (R := wants (fun r t => r = .none ∧ ∃ h' tk c, t = { s with heap := h', toks := tk } ∧ Left w s ns h' c) E) F.called_set.init.plain F.entry_set_init (check_set_init_1 isS ?_)) fun r t hr => ?_
    · obtain ⟨⟨oc, od, ot, os⟩, ho, hc, hn, hd⟩ := isl
      simp only at hc hd
      subst hc hd
      have ho1 : (s.heap.push (bare w)).get? l = some { cls := .type "list", dict := od, data := .seq xs hn, slots := os } := Heap.get?_push_of_some _ ho
      have u1 := F.sub_list_set
      have u2 := F.sub_list_frozenset
      have u3 : (Value.type "list" == Value.type "dict") = false := by decide
      have isl1 : (s.heap.push (bare w)).IsList l xs := ⟨_, ho1, rfl, hn, rfl⟩
      unfold Builtin.«set.__init__» noKeywords Builtin.Frozenset.updateFrom
      generalize gi : pyIter = it
      wp_walk
      subst gi
      refine wpAny_pyIter_list isl1 (wpAny_bind (wpAny_runValue ?_))
      have lt0 : l < s.heap.objs.size := Heap.lt_size ho
      have big : (s.heap.push (bare w)).objs.size = s.heap.objs.size + 1 := Heap.size_push ..
      have ne0 : l ≠ (s.heap.push (bare w)).objs.size := fun z => by
        rw [big] at z
        exact Nat.lt_irrefl _ (Nat.lt_of_lt_of_le (Nat.lt_succ_of_lt lt0) (Nat.le_of_eq z.symm))
      have out : s.heap.objs.size ∉ [(s.heap.push (bare w)).objs.size, l] := by
        rw [big]
        intro z
        rcases List.mem_cons.mp z with z | z
        · exact Nat.lt_irrefl _ (Nat.lt_of_lt_of_le (Nat.lt_succ_self _) (Nat.le_of_eq z.symm))
        · exact Nat.ne_of_gt lt0 (List.mem_singleton.mp z)
      refine L2.set_update_ints ((Walks.list (show A.in1.in1.in1.handled = none by simp [calm]) _ l ne0 xs).toS) s.heap.objs.size out ns size room (fun i v hv => ?_) (xs.size - 0) 0 _ (by omega) (Nat.zero_le _) ⟨⟨_, Heap.get?_push_size _ rfl, rfl, rfl⟩, isl1.push _⟩ ?_ ?_
      · have hi : i < ns.length := by
          rw [← size]
          exact (Array.getElem?_eq_some_iff.mp hv).1
        obtain ⟨t, e⟩ := PyProof.Rows.IntsAre.int_at hin i v (by rw [Array.getElem?_toList]; exact hv)
        refine ⟨ns[i], t, List.getElem?_eq_getElem hi, ?_⟩
        rw [e, List.getD_eq_getElem?_getD, List.getElem?_eq_getElem hi]
        rfl
      · exact ⟨0, Nat.le_refl 0, L2.setR_new_at (Heap.get?_push_of_some _ at0)⟩
      · intro t c moved hc hS
        obtain ⟨th, tg, td, tt, to⟩ := t
        obtain rfl : tg = s.gens := moved.gens
        obtain rfl : td = s.drawn := moved.drawn
        obtain rfl : to = s.os := moved.os
        show wpAny _ _ _ _ _ _
        refine wpAny_pure ?_
        show wpAny _ _ (ret Value.none) _ _ _
        refine wpAny_pure ⟨rfl, th, tt, c, rfl, hS, by omega, fun b o e => ?_⟩
        have hb : b < s.heap.objs.size := Heap.lt_size e
        refine moved.heap b o (fun z => ?_) (Heap.get?_push_of_some _ (Heap.get?_push_of_some _ e))
        rcases List.mem_cons.mp z with z | z
        · exact Nat.ne_of_lt hb z
        · rw [List.mem_singleton.mp z, big] at hb
          exact Nat.lt_irrefl _ (Nat.lt_of_lt_of_le hb (Nat.le_succ _))
    · match r, hr with
      | .error e, hr => exact hr
      | .ok .next, hr => exact hr.elim
      | .ok .brk, hr => exact hr.elim
      | .ok .cont, hr => exact hr.elim
      | .ok (.ret z), hr =>
        obtain ⟨rfl, h', tk, c, rfl, left⟩ := hr
        repeat any_goals first | assumption | wp_step
        exact k h' tk c left
end
end FR

namespace FR
open PySem L2 Evl
open PySem.Spec PyProof.Rows
/-! ### sorted(set(xs)) -/
def rSetI (K : PySem.W.Frag) (w : World) : List V → Hp → VK → Prop := fun xs H Q => ∃ (a : Addr) (ns : List Int), xs = [.ref a] ∧ SqL K H a (ns.map V.int) ∧ ns.length < 4000 ∧
  ∀ (c : Nat) (p : Addr), c ≤ ns.length → H p = none → Q (.ref p) (upd H p (SetO w p (fun j => decide (j ∈ ns)) c))
theorem cr_setI {X : Cx} (hc : X.calm = true) : CallR X (.type "set") (rSetI X.K X.w) := by
  intro pins s σ H xs us Q I r h
  obtain ⟨a, ns, rfl, hS, hn, q⟩ := h
  rw [Vals.ref1 r]
  obtain ⟨its, rv, pl, hz⟩ := I.list hS
  have hi : PyProof.Rows.IntsAre its.toArray.toList ns := by
    have z := ints_of_vals rv
    simpa using z
  refine set_of_list (I.ok.hd hc) pl.isList hi (by unfold scanBound; omega) fun h' tk c left => ?_
  have new : H s.heap.objs.size = none := I.hok.fresh (Nat.le_refl _)
  exact ⟨.ref s.heap.objs.size, upd H s.heap.objs.size (SetO X.w s.heap.objs.size (fun j => decide (j ∈ ns)) c), I.laid (t' := tk) left.2.2 (Nat.le_refl _) (setO_new left.1), rfl, q c _ left.2.1 new⟩
section
variable {K : PySem.W.Frag} {w : World} {env : En} {te ta tb tc td : TE} {ns ms : List Int} {i j c : Int}
theorem en_sortedSet (ha : EvE K te env (intsD ns)) (hn : ns.length < 64) (hm : ∀ ns' : List Int, ns'.Pairwise (· < ·) → (∀ k : Int, k ∈ ns' ↔ k ∈ ns) → ns' = ms) : EvN K (tCB (rSortedSet w) (tCons (tCB (rSetI K w) (tCons te tNil)) tNil)) env (intL ms) := fun σ B s H1 e Q q =>
  ha σ B s H1 e _ fun v B2 H2 g r => by
    simp only [intsD, Rp] at r
    obtain ⟨a, xs, rfl, h2, h3⟩ := r
    have z := rp_ints h3
    subst z
    refine ⟨a, ns, rfl, sq_of (g.h _ _ h2), by omega, fun cc p hc hp => ⟨p, fun j => decide (j ∈ ns), cc, rfl, upd_same, by omega, fun ns' l h1 h4 _ hl => ?_⟩⟩
    have z2 := hm ns' h1 fun k => by rw [h4 k]; simp
    subst z2
    have e2 : Ex H2 (upd H2 p (SetO w p (fun j => decide (j ∈ ns)) cc)) := Ex.new hp
    have g2 := g.trans (Gr.keep g.h e2)
    exact q l _ B2 _ (g2.trans (Gr.put g2.h hl)) (fresh_back g2.k hl) (fresh_back g2.h hl) upd_same (ints_rp ns')

/-! ### list(range(a, b, c)) -/
def stepV (i c : Int) (n : Nat) : List V := (List.range n).map fun k => V.int (i + (k : Nat) * c)
theorem vals_step {i c : Int} {n : Nat} {acc : Array Value} (h : ItemsOf (fun k v => ∃ t, v = .int (i + k * c) t) acc n) : Vals (stepV i c n) acc.toList := by
  have e : acc.toList.length = n := by
    rw [Array.length_toList]
    exact h.1
  unfold stepV
  rw [← e]
  refine vals_of_get acc.toList _ fun k u hk => ?_
  obtain ⟨t, rfl⟩ := h.2 k u (by rw [← hk, Array.getElem?_toList])
  exact ⟨t, rfl⟩
/-- bounds of a stepped range -/
def RgS (i j c : Int) (n : Nat) : Prop := c ≠ 0 ∧ c.natAbs < 1073741824 ∧ Builtin.Range.small i j c = true ∧ Builtin.Range.rangeSize i j c = n ∧ n ≤ 2 ^ 24
def tLstRg3 (ta tb tc : TE) : TE := fun σ H Q => ta σ H fun x H1 => tb σ H1 fun y H2 => tc σ H2 fun z H3 => ∃ (i j c : Int) (n : Nat), [x, y, z] = [.int i, .int j, .int c] ∧ RgS i j c n ∧ ∀ q, H3 q = none → Q (.ref q) (upd H3 q (.lst (stepV i c n)))
theorem pe_listRg3 {X : Cx} {a b c : Expr} {ta tb tc : TE} {p pos p' pos' : Pos} (hc : X.calm = true) (hg : Gl X "list") (hm : X.mg "list" = none) (hg' : Gl X "range") (hm' : X.mg "range" = none) (ha : PE X a ta) (hb : PE X b tb) (hd : PE X c tc)
    (n1 : starEach [.Call (.Name "range" p') [a, b, c] [] pos'] X.env = (false, eval (.Call (.Name "range" p') [a, b, c] [] pos') X.env) :: starEach [] X.env := by rfl)
    (n2 : starEach [a, b, c] X.env = (false, eval a X.env) :: starEach [b, c] X.env := by rfl) (n3 : (backTo pos' (starEach [b, c] X.env)).any (·.1) = false := by rfl) (n4 : starEach [b, c] X.env = (false, eval b X.env) :: starEach [c] X.env := by rfl) (n5 : starEach [c] X.env = (false, eval c X.env) :: starEach [] X.env := by rfl) :
    PE X (.Call (.Name "list" p) [.Call (.Name "range" p') [a, b, c] [] pos'] [] pos) (tLstRg3 ta tb tc) := by
  refine ⟨fun pins s σ H Q I h => ?_⟩
  have args : PA X [a, b, c] (tCons ta (tCons tb (tCons tc tNil))) := pa_cons ha (pa_cons hb (pa_cons hd pa_nil n5) n4) n2
  have h3 : tCons ta (tCons tb (tCons tc tNil)) σ H fun vs H3 => ∃ (i j k : Int) (n : Nat), vs = [.int i, .int j, .int k] ∧ RgS i j k n ∧ ∀ q, H3 q = none → Q (.ref q) (upd H3 q (.lst (stepV i k n))) := h
  have inner : wpAny (model X.prog X.w) X.A (eval (.Call (.Name "range" p') [a, b, c] [] pos') X.env) (fun x s' => ∃ (r : Addr) (i j k : Int) (n : Nat) (t u v : Tok) (H' : Hp), x = .ref r ∧ IsRange s'.heap r i j k t u v ∧ Inv X pins σ H' s' ∧ RgS i j k n ∧ ∀ q, H' q = none → Q (.ref q) (upd H' q (.lst (stepV i k n)))) X.xe s := by
    refine Call_ (ld_blt I hg' hm' boot_range (PyProof.Rows.callWith_type1 (thn (args.run pos' pins s σ H (fun vs H3 => ∃ (i j k : Int) (n : Nat), vs = [.int i, .int j, .int k] ∧ RgS i j k n ∧ ∀ q, H3 q = none → Q (.ref q) (upd H3 q (.lst (stepV i k n)))) I ?_) fun us s1 ⟨vs, H1, I1, r1, q1⟩ => ?_) n2 n3))
    · exact h3
    · obtain ⟨i, j, k, n, rfl, ok, q⟩ := q1
      cases r1 with
      | cons r rr =>
        cases rr with
        | cons r' rr =>
          cases rr with
          | cons r'' rr =>
            cases rr
            obtain ⟨t, rfl⟩ := r
            obtain ⟨t', rfl⟩ := r'
            obtain ⟨t'', rfl⟩ := r''
            exact call_range_3 ok.1 ⟨_, i, j, k, n, _, _, _, H1, rfl, IsRange.new .., I1.kept fun b o e => Heap.get?_push_of_some _ e, ok, q⟩ (.inl (PyProof.noPylong_small ok.2.1))
  refine Call_ (ld_blt I hg hm boot_list (PyProof.Rows.callWith_type1 (args_cons (thn inner fun x s1 ⟨r, i, j, k, n, t, u, v, H1, ex, hr, I1, ok, q⟩ => args_nil ?_) n1) n1))
  subst ex
  refine call_list_range (n := n) (I1.ok.hd hc) hr ok.2.2.1 ok.2.2.2.1 ok.2.2.2.2 fun h' tk acc c' hk e' hi => ?_
  refine ⟨.ref s1.heap.objs.size, upd H1 s1.heap.objs.size (.lst (stepV i k n)), I1.laid hk (Nat.le_refl _) (show ObjOk X.prog X.w _ _ _ (.lst (stepV i k n)) from ⟨?_, acc.toList, c', vals_step hi, ?_⟩), rfl, q _ (I1.hok.fresh (Nat.le_refl _))⟩
  · unfold stepV
    rw [List.length_map, List.length_range, sizeLine_eq]
    exact ok.2.2.2.2
  · rw [Array.toArray_toList]
    exact e'
theorem en_listRg3 {n : Nat} (ha : EvE K ta env (.int i)) (hb : EvE K tb env (.int j)) (hc : EvE K tc env (.int c)) (h : RgS i j c n) : EvN K (tLstRg3 ta tb tc) env (intL ((List.range n).map fun k => i + ((k : Nat) : Int) * c)) := fun σ B s H1 e Q q =>
  ha σ B s H1 e _ fun v B2 H2 g2 r2 => hb σ B2 (s.mono g2.b) H2 g2.h _ fun w B3 H3 g3 r3 => hc σ B3 ((s.mono g2.b).mono g3.b) H3 g3.h _ fun u B4 H4 g4 r4 => by
    simp only [Rp] at r2 r3 r4
    subst r2 r3 r4
    have g := (g2.trans g3).trans g4
    refine ⟨i, j, c, n, rfl, h, fun p hp => q p _ B4 _ (g.trans (Gr.put g.h hp)) (fresh_back g.k hp) (fresh_back g.h hp) upd_same ?_⟩
    have z := ints_rp (K := K) (B := B4) ((List.range n).map fun k => i + ((k : Nat) : Int) * c)
    have ez : stepV i c n = List.map V.int ((List.range n).map fun k => i + ((k : Nat) : Int) * c) := by
      unfold stepV
      rw [List.map_map]
      rfl
    rw [ez]
    exact z
theorem rgS_neg {a b : Int} (h0 : -1000000 ≤ a) (h1 : a ≤ 1000000) (h2 : -1000000 ≤ b) (h3 : b ≤ 1000000) : RgS a b (-1) (a - b).toNat := by
  have z := RgC.neg (i := a) (j := b) (by omega) (by omega) (by omega) (by omega)
  exact ⟨z.1, z.2.1, z.2.2.1, z.2.2.2, by omega⟩
theorem rgS_pos {a b c : Int} (hc : 0 < c) (hc1 : c ≤ 1000000) (h0 : 0 ≤ a) (h1 : a ≤ 1000000) (h2 : 0 ≤ b) (h3 : b ≤ 1000000) : RgS a b c (Builtin.Range.rangeSize a b c).toNat := by
  have e : Builtin.Range.rangeSize a b c = if a < b then (b - a - 1) / c + 1 else 0 := by
    unfold Builtin.Range.rangeSize
    rw [if_pos hc]
  have hq : (b - a - 1) / c ≤ b - a - 1 ∨ b - a - 1 < 0 := by
    by_cases z : b - a - 1 < 0
    · exact .inr z
    · exact .inl (Int.ediv_le_self _ (by omega))
  have hq0 : a < b → 0 ≤ (b - a - 1) / c := fun z => Int.ediv_nonneg (by omega) (by omega)
  refine ⟨by omega, by omega, ?_, ?_, ?_⟩
  · unfold Builtin.Range.small
    rw [e]
    simp only [Builtin.Range.rangeFitsLong, Bool.and_eq_true, Bool.or_eq_true, decide_eq_true_eq, beq_iff_eq, if_pos hc]
    split <;> omega
  · rw [e]
    split <;> omega
  · rw [e]
    split <;> omega
end
/-! ### a chain of three -/
def tChain3 (r r' r'' : R2) (ta tb tc td : TE) : TE := fun σ H Q => ta σ H fun x H1 => tb σ H1 fun y H2 => r x y H2 fun z H3 => ∃ k, z = .bl k ∧
  (if k = true then tc σ H3 fun w' H4 => r' y w' H4 fun z' H5 => ∃ k', z' = .bl k' ∧ (if k' = true then td σ H5 fun u H6 => r'' w' u H6 Q else Q (.bl false) H5) else Q (.bl false) H3)
section
variable {X : Cx} {a b c d : Expr} {ta tb tc td : TE} {pos : Pos}
theorem pe_chain3 {op op' op'' : CmpOp} {r r' r'' : R2} (ho : OpR X (compareOp op) r) (ho' : OpR X (compareOp op') r') (ho'' : OpR X (compareOp op'') r'') (ha : PE X a ta) (hb : PE X b tb) (hc : PE X c tc) (hd : PE X d td)
    (hm : lastMarks [op, op', op''] [b, c, d] = false := by with_unfolding_all rfl) : PE X (.Compare a [op, op', op''] [b, c, d] pos) (tChain3 r r' r'' ta tb tc td) := by
  refine ⟨fun pins s σ H Q I h => Compare_chain (thn (ha.run pins s σ H _ I h) fun v s1 ⟨x, H1, I1, r1, q1⟩ => chain_link (thn (hb.run pins s1 σ H1 _ I1 q1) fun u s2 ⟨y, H2, I2, r2, q2⟩ =>
    thn (ho pins s2 σ H2 x y v u _ I2 r1 r2 q2) fun z s3 ⟨z', H3, I3, r3, k, e, q3⟩ => ?_)) hm⟩
  subst e
  cases r3
  refine wpAny_truthy_bool ?_
  cases k with
  | false => exact ite_ff ⟨.bl false, H3, I3, rfl, q3⟩
  | true =>
    refine ite_tt (chain_link (thn (hc.run pins s3 σ H3 _ I3 q3) fun w' s4 ⟨c', H4, I4, r4, q4⟩ => thn (ho' pins s4 σ H4 y c' u w' _ I4 r2 r4 q4) fun z s5 ⟨z', H5, I5, r5, k', e', q5⟩ => ?_))
    subst e'
    cases r5
    refine wpAny_truthy_bool ?_
    cases k' with
    | false => exact ite_ff ⟨.bl false, H5, I5, rfl, q5⟩
    | true => exact ite_tt (chain_last (thn (hd.run pins s5 σ H5 _ I5 q5) fun u' s6 ⟨d', H6, I6, r6, q6⟩ => ho'' pins s6 σ H6 c' d' w' u' Q I6 r4 r6 q6))
end
section
variable {K : PySem.W.Frag} {env : En} {ta tb tc td : TE} {i j l m : Int}
theorem ev_chain3I {g g' g'' : Int → Int → V} {k b b' : Bool} (hg : g i j = .bl k) (hg' : g' j l = .bl b) (hg'' : g'' l m = .bl b') (ha : EvE K ta env (.int i)) (hb : EvE K tb env (.int j)) (hc : EvE K tc env (.int l)) (hd : EvE K td env (.int m)) :
    EvE K (tChain3 (rI0 g) (rI0 g') (rI0 g'') ta tb tc td) env (.bl (k && (b && b'))) := fun σ B s H1 e Q q =>
  ha σ B s H1 e _ fun v B2 H2 g2 r2 => hb σ B2 (s.mono g2.b) H2 g2.h _ fun w B3 H3 g3 r3 => by
    simp only [Rp] at r2 r3
    subst r2 r3
    have ga := g2.trans g3
    refine ⟨i, j, rfl, rfl, k, hg, ?_⟩
    cases k with
    | false => exact iteF (q _ B3 H3 ga (by simp only [Rp, Bool.false_and]))
    | true =>
      refine iteT (hc σ B3 (s.mono ga.b) H3 ga.h _ fun u B4 H4 g4 r4 => ?_)
      simp only [Rp] at r4
      subst r4
      refine ⟨j, l, rfl, rfl, b, hg', ?_⟩
      cases b with
      | false => exact iteF (q _ B4 H4 (ga.trans g4) (by simp only [Rp, Bool.false_and, Bool.true_and]))
      | true =>
        refine iteT (hd σ B4 (s.mono (ga.trans g4).b) H4 (ga.trans g4).h _ fun u B5 H5 g5 r5 => ?_)
        simp only [Rp] at r5
        subst r5
        exact ⟨l, m, rfl, rfl, q _ B5 H5 ((ga.trans g4).trans g5) (by simp only [Rp, Bool.true_and]; exact hg'')⟩
end
end FR

/-! The laws' own row and their look at numbers. -/
namespace FR
open PySem L2 Evl
local macro_rules | `(tactic| walk_at "ev") => `(tactic| first
  | (apply ev_pr0; walk_at "ev")
  | (apply ev_pr1; walk_at "ev")
  | (apply ev_lenR; walk_at "ev")
  | (apply ev_lenI; walk_at "ev"))
local macro_rules | `(tactic| walk_at "side") => `(tactic| first | assumption | decide | omega | (exact Or.inl ⟨by decide, by decide⟩) | (exact Or.inr ⟨by decide, by decide⟩))
local macro_rules | `(tactic| walk_at "wk") => `(tactic| first
  | (apply wk_rng1 <;> first | walk_at "ev" | walk_at "side")
  | (apply wk_rng2 <;> first | walk_at "ev" | walk_at "side")
  | (apply wk_list; walk_at "ev")
  | (apply wk_sq; walk_at "ev")
  | (apply wk_tup; walk_at "ev"))
local macro_rules | `(tactic| walk_at "en") => `(tactic| first
  | (apply en_lst <;> first | walk_at "ea" | simp)
  | (apply en_listL; walk_at "ev")
  | (apply en_listT; walk_at "ev")
  | (apply en_rev; walk_at "ev")
  | (apply en_slL <;> first | walk_at "ev" | walk_at "eo")
  | (apply en_slQ <;> first | walk_at "ev" | walk_at "eo"))
local macro_rules | `(tactic| walk_at "eo") => `(tactic| first
  | exact eo_none
  | (apply eo_some; walk_at "ev"))
local macro_rules | `(tactic| walk_at "ea") => `(tactic| first
  | exact ea_nil
  | (apply ea_cons <;> first | walk_at "ev" | walk_at "ea"))
local macro_rules | `(tactic| walk_at "eb") => `(tactic| first
  | exact eb_yes
  | (apply eb_not; walk_at "eb")
  | (apply eb_test; walk_at "ev")
  | (apply eb_B; walk_at "ev"))
local macro_rules | `(tactic| walk_at "ev") => `(tactic| first
  | exact ev_int
  | exact ev_bl
  | exact ev_non
  | exact ev_ty
  | exact ev_str
  | exact ev_cls
  | exact ev_var rfl
  | assumption
  | (apply ev_row0 <;> first | walk_at "ev" | walk_at "side")
  | (apply ev_row1 <;> first | walk_at "ev" | walk_at "side")
  | (apply ev_rowI <;> first | walk_at "ev" | walk_at "side")
  | (apply ev_add <;> walk_at "ev")
  | (apply ev_sub <;> walk_at "ev")
  | (apply ev_mul <;> first | walk_at "ev" | walk_at "side")
  | (apply ev_neg; walk_at "ev")
  | (apply ev_lt <;> walk_at "ev")
  | (apply ev_le <;> walk_at "ev")
  | (apply ev_gt <;> walk_at "ev")
  | (apply ev_ge <;> walk_at "ev")
  | (apply ev_mod <;> first | walk_at "ev" | walk_at "side")
  | (apply ev_div <;> first | walk_at "ev" | exact ⟨by decide, by decide⟩)
  | (apply ev_eqI <;> walk_at "ev")
  | (apply ev_neI <;> walk_at "ev")
  | (apply ev_max2 <;> walk_at "ev")
  | (apply ev_min2 <;> walk_at "ev")
  | (apply ev_abs; walk_at "ev")
  | (apply ev_lenL; walk_at "ev")
  | (apply ev_lenQ; walk_at "ev")
  | (apply ev_lenT; walk_at "ev")
  | (apply ev_isiB <;> first | walk_at "ev" | rfl | decide +kernel)
  | (apply ev_chainI rfl rfl <;> first | walk_at "ev" | (intro _; walk_at "ev"))
  | (apply ev_notV; walk_at "ev")
  | (apply ev_tup <;> first | walk_at "ea" | simp)
  | (apply ev_new; walk_at "en"))


/-! ### the row of a script -/
def apH (c : Int) : Int × Int := if c % 4 = 0 then (3, 4) else if c % 4 = 1 then (9, 12) else if c % 4 = 2 then (10 ^ 20, 10 ^ 20) else (6, 4)
def stepP (ap p c : Int) : Int := p + 1 + c % ap
def stepH (ap hi c : Int) : Int := 1 + (c / ap + c / 11) % hi
def endP (ap : Int) : Int → List Int → Int
  | p, [] => p
  | p, c :: r => endP ap (stepP ap p c) r
def goR (ap hi : Int) : Int → List Int → List (Int × Int)
  | _, [] => []
  | p, c :: r => (stepP ap p c, stepH ap hi c) :: goR ap hi (stepP ap p c) r
def lrow (ns : List Int) : List (Int × Int) := goR (apH ns.sum).1 (apH ns.sum).2 (-(ns.sum / 4 % 90)) ns
theorem endP_snoc (ap c : Int) : ∀ (l : List Int) (p : Int), endP ap p (l ++ [c]) = stepP ap (endP ap p l) c
  | [], p => rfl
  | x :: l, p => endP_snoc ap c l (stepP ap p x)
theorem goR_snoc (ap hi c : Int) : ∀ (l : List Int) (p : Int), goR ap hi p (l ++ [c]) = goR ap hi p l ++ [(stepP ap (endP ap p l) c, stepH ap hi c)]
  | [], p => rfl
  | x :: l, p => by
    show _ :: goR ap hi (stepP ap p x) (l ++ [c]) = _
    rw [goR_snoc ap hi c l (stepP ap p x)]
    rfl
theorem goR_len (ap hi : Int) : ∀ (l : List Int) (p : Int), (goR ap hi p l).length = l.length
  | [], p => rfl
  | x :: l, p => by
    show (goR ap hi (stepP ap p x) l).length + 1 = _
    rw [goR_len ap hi l]
    rfl
theorem apH_pos (c : Int) : (0 < (apH c).1 ∧ (apH c).1 ≤ 10 ^ 20) ∧ 0 < (apH c).2 := by
  unfold apH
  repeat' split
  all_goals decide
theorem apH_W (c x : Int) : CDivW x (apH c).1 := by
  unfold apH
  repeat' split
  all_goals exact ⟨by decide, by decide +kernel⟩
theorem goR_pos {ap hi : Int} (hh : 0 < hi) : ∀ (l : List Int) (p : Int) (i : Nat), i < l.length → 0 < ((goR ap hi p l).getD i (0, 0)).2
  | [], p, i, h => by simp at h
  | x :: l, p, 0, h => by
    show 0 < 1 + (x / ap + x / 11) % hi
    have := Int.emod_nonneg (x / ap + x / 11) (by omega : hi ≠ 0)
    omega
  | x :: l, p, i + 1, h => goR_pos hh l (stepP ap p x) i (by simpa using h)
theorem goR_inc {ap hi : Int} (ha : 0 < ap) : ∀ (l : List Int) (p : Int) (j : Nat), j < l.length → p < ((goR ap hi p l).getD j (0, 0)).1 ∧ ∀ i, i < j → ((goR ap hi p l).getD i (0, 0)).1 < ((goR ap hi p l).getD j (0, 0)).1
  | [], p, j, h => by simp at h
  | x :: l, p, 0, h => by
    refine ⟨?_, fun i hi => absurd hi (by omega)⟩
    show p < p + 1 + x % ap
    have := Int.emod_nonneg x (by omega : ap ≠ 0)
    omega
  | x :: l, p, j + 1, h => by
    have hx : p < stepP ap p x := by
      show p < p + 1 + x % ap
      have := Int.emod_nonneg x (by omega : ap ≠ 0)
      omega
    obtain ⟨h1, h2⟩ := goR_inc (hi := hi) ha l (stepP ap p x) j (by simpa using h)
    refine ⟨?_, fun i hi => ?_⟩
    · show p < ((goR ap hi (stepP ap p x) l).getD j (0, 0)).1
      omega
    · cases i with
      | zero => exact h1
      | succ i => exact h2 i (by omega)
theorem lrow_len (ns : List Int) : (lrow ns).length = ns.length := goR_len _ _ _ _
theorem lrow_ok {ns : List Int} (h : ns.length ≤ 63) : Okr (lrow ns) := by
  refine ⟨fun i hi => ?_, fun i j hij hj => ?_, by rw [lrow_len]; omega⟩
  · rw [lrow_len] at hi
    unfold hgt
    simp only [Int.toNat_natCast]
    exact goR_pos (apH_pos _).2 ns _ i hi
  · rw [lrow_len] at hj
    unfold plc
    simp only [Int.toNat_natCast]
    exact (goR_inc (apH_pos _).1.1 ns _ j hj).2 i hij
def P_law_row (ds : List Da) (es : List Da) : Prop := ∃ ns, ds = [.sq (intL ns)] ∧ ns.length ≤ 63 ∧ es = rowL (lrow ns)
def P_law_numbers (ds : List Da) (d : Da) : Prop := ∃ ns, ds = [intsD ns] ∧ ns.length ≤ 5000 ∧ d = .bl true
abbrev sp_law_row (K : PySem.W.Frag) (C : CS) : Sp := FnL K P_law_row
abbrev sp_law_numbers (K : PySem.W.Frag) (C : CS) : Sp := FnP K P_law_numbers
def t_law_row (K : PySem.W.Frag) (C : CS) : TS :=
  (tSeq (tAsg (tCB (rSum K) (tCons (tVar 0) tNil)) (gName 1)) (tSeq (tAsg (tOp (rIxT K) (tTup (tCons (tTup (tCons (tC (.int 3)) (tCons (tC (.int 4)) tNil))) (tCons (tTup (tCons (tC (.int 9)) (tCons (tC (.int 12)) tNil))) (tCons (tTup (tCons (tOp rPowI (tC (.int 10)) (tC (.int 20))) (tCons (tOp rPowI (tC (.int 10)) (tC (.int 20))) tNil))) (tCons (tTup (tCons (tC (.int 6)) (tCons (tC (.int 4)) tNil))) tNil))))) (tOp rModI (tVar 1) (tC (.int 4)))) (gTup K 2 (gCons (gName 2) (gCons (gName 3) gNil)))) (tSeq (tAsg (tUn (rU fun i => .int (-i)) (tOp rModI (tOp rDivI (tVar 1) (tC (.int 4))) (tC (.int 90)))) (gName 4)) (tSeq (tAsg (tLst tNil) (gName 5)) (tSeq (tFor (iList K (tVar 0)) (gName 6) (tSeq (tAsg (tOp rAddI (tOp rAddI (tVar 4) (tC (.int 1))) (tOp rModI (tVar 6) (tVar 2))) (gName 4)) (tDrop (tBM K "list" rAppend (tVar 5) (tCons (tTup (tCons (tVar 4) (tCons (tOp rAddI (tC (.int 1)) (tOp rModI (tOp rAddI (tOp rDivW (tVar 6) (tVar 2)) (tOp rDivI (tVar 6) (tC (.int 11)))) (tVar 3))) tNil))) tNil))))) (tRet (tVar 5)))))))
def t_law_numbers (K : PySem.W.Frag) (C : CS) : TS :=
  (tSeq (tIfS (tNot (tB (tCB (rIsi K) (tCons (tVar 0) (tCons (tC (.ty "list")) tNil))))) (tRet (tC (.bl false))) tNext) (tRet (tCB (rAll K) (tCons (tLc (iList K (tVar 0)) (gName 1) tYes (tAndV (tCB (rIsi K) (tCons (tVar 1) (tCons (tC (.ty "int")) tNil))) (tNotV (tCB (rIsi K) (tCons (tVar 1) (tCons (tC (.ty "bool")) tNil))))) [1]) tNil))))
section
variable {K : PySem.W.Frag} {C : CS}
theorem get_row {ns : List Int} {n : Nat} {x : Int} (h : ns[n]? = some x) : ns.take (n + 1) = ns.take n ++ [x] := by
  rw [List.take_add_one, h]
  rfl
theorem intL_get {ns : List Int} {n : Nat} {d : Da} (h : (intL ns)[n]? = some d) : ∃ x, ns[n]? = some x ∧ d = .int x := by
  rw [List.getElem?_map] at h
  cases e : ns[n]? with
  | none =>
    rw [e] at h
    cases h
  | some x =>
    rw [e] at h
    cases h
    exact ⟨x, rfl, rfl⟩
theorem map_get {α : Type} {f : α → Da} {xs : List α} {n : Nat} {d : Da} (h : (xs.map f)[n]? = some d) : ∃ x, xs[n]? = some x ∧ d = f x := by
  rw [List.getElem?_map] at h
  cases e : xs[n]? with
  | none =>
    rw [e] at h
    cases h
  | some x =>
    rw [e] at h
    cases h
    exact ⟨x, rfl, rfl⟩
theorem rowL_snoc (r : List (Int × Int)) (p : Int × Int) : rowL (r ++ [p]) = rowL r ++ [prD p] := List.map_append
theorem intL_snoc (r : List Int) (p : Int) : intL (r ++ [p]) = intL r ++ [.int p] := List.map_append
theorem run_law_row {ds es : List Da} (h : P_law_row ds es) : Run K (t_law_row K C) (ent ds 6) (retL es) := by
  obtain ⟨ns, rfl, hn, rfl⟩ := h
  refine run_seq (run_asg (ev_sumQ (ev_var rfl)) ?_)
  refine run_seq (run_asgT (d := .tup [.int (apH ns.sum).1, .int (apH ns.sum).2]) ?_ (ts_tup2 ts_name ts_name) ?_)
  · refine ev_ixT (ds := [.tup [.int 3, .int 4], .tup [.int 9, .int 12], .tup [.int (10 ^ 20), .int (10 ^ 20)], .tup [.int 6, .int 4]]) (i := ns.sum % 4) (ev_tup (ea_cons (ev_tup (ea_cons ev_int (ea_cons ev_int ea_nil))) (ea_cons (ev_tup (ea_cons ev_int (ea_cons ev_int ea_nil))) (ea_cons (ev_tup (ea_cons ?_ (ea_cons ?_ ea_nil))) (ea_cons (ev_tup (ea_cons ev_int (ea_cons ev_int ea_nil))) ea_nil))))) (ev_mod (ev_var rfl) ev_int (by decide)) ?_
    · exact (ev_pow ev_int ev_int ⟨by decide, by decide, by decide⟩).is rfl
    · exact (ev_pow ev_int ev_int ⟨by decide, by decide, by decide⟩).is rfl
    · have h0 := Int.emod_nonneg ns.sum (by decide : (4 : Int) ≠ 0)
      have h1 := Int.emod_lt_of_pos ns.sum (by decide : (0 : Int) < 4)
      unfold apH
      by_cases e0 : ns.sum % 4 = 0
      · rw [if_pos e0, e0]
        rfl
      · rw [if_neg e0]
        by_cases e1 : ns.sum % 4 = 1
        · rw [if_pos e1, e1]
          rfl
        · rw [if_neg e1]
          by_cases e2 : ns.sum % 4 = 2
          · rw [if_pos e2, e2]
            rfl
          · rw [if_neg e2, show ns.sum % 4 = 3 by omega]
            rfl
  refine run_seq (run_asg (d := .int (-(ns.sum / 4 % 90))) (ev_neg (ev_mod (ev_div (ev_var rfl) ev_int ⟨by decide, by decide⟩) ev_int (by decide))) ?_)
  refine run_seq (run_asgN (en_lst ea_nil) ?_)
  refine run_seq (run_for (wk_sq (ev_var rfl)) (fun n e => ∃ y, e = [.im (.sq (intL ns)), .im (.int ns.sum), .im (.int (apH ns.sum).1), .im (.int (apH ns.sum).2), .im (.int (endP (apH ns.sum).1 (-(ns.sum / 4 % 90)) (ns.take n))), .mu (rowL (goR (apH ns.sum).1 (apH ns.sum).2 (-(ns.sum / 4 % 90)) (ns.take n))), y]) ⟨.no, rfl⟩ ?_ ?_)
  · rintro n d e hd ⟨y, rfl⟩
    obtain ⟨x, hx, rfl⟩ := intL_get hd
    have hl : n < ns.length := (List.getElem?_eq_some_iff.mp hx).1
    refine ⟨_, ts_name, ?_⟩
    refine run_seq (run_asg (d := .int (stepP (apH ns.sum).1 (endP (apH ns.sum).1 (-(ns.sum / 4 % 90)) (ns.take n)) x)) (ev_add (ev_add (ev_var rfl) ev_int) (ev_mod (ev_var rfl) (ev_var rfl) (apH_pos _).1.1)) ?_)
    refine run_app (d := prD (stepP (apH ns.sum).1 (endP (apH ns.sum).1 (-(ns.sum / 4 % 90)) (ns.take n)) x, stepH (apH ns.sum).1 (apH ns.sum).2 x)) (ds := rowL (goR (apH ns.sum).1 (apH ns.sum).2 (-(ns.sum / 4 % 90)) (ns.take n))) rfl ?_ ?_ ⟨.im (.int x), ?_⟩
    · exact ev_tup (ea_cons (ev_var rfl) (ea_cons (ev_add ev_int (ev_mod (ev_add (ev_divW (ev_var rfl) (ev_var rfl) (apH_W _ _)) (ev_div (ev_var rfl) ev_int ⟨by decide, by decide⟩)) (ev_var rfl) (apH_pos _).2)) ea_nil))
    · rw [List.length_map, goR_len, List.length_take]
      omega
    · rw [get_row hx, endP_snoc, goR_snoc, rowL_snoc]
      rfl
  · rintro e ⟨y, rfl⟩
    rw [List.length_map, List.take_length]
    exact run_retV (i := 5) rfl rfl
theorem run_law_numbers {ds : List Da} {d : Da} (h : P_law_numbers ds d) : Run K (t_law_numbers K C) (ent ds 1) (retD d) := by
  obtain ⟨ns, rfl, hn, rfl⟩ := h
  refine run_seq (run_if (b := !true) (eb_not (eb_B ?_)) (fun z => by cases z) fun _ => run_next ?_)
  · exact ev_isiB (n := "list") (ev_var rfl) ev_ty rfl (by decide)
  · refine run_ret (d := .bl (((ns.filter fun _ => true).map fun _ => true).all id)) (ev_all (ev_new ?_)) ?_
    · refine (en_lc (us := [1]) Da.int (fun _ => true) (fun _ => Da.bl (true && !false)) ns (wk_list (ev_var rfl)) (by simp) (by omega) fun p hp => ⟨_, tc_name, eb_yes, fun _ => ?_⟩).is (by rw [List.map_map]; rfl)
      refine ev_andV ?_ fun _ => ?_
      · walk_at "ev"
      · walk_at "ev"
    · show Da.bl _ = Da.bl _
      congr 1
      rw [List.all_map, List.all_eq_true]
      intro _ _
      rfl
end
section
variable {K : PySem.W.Frag} {C : CS} {vs : List V} {H : Hp} {Q : VK} {E : XK}
theorem len_law_row (h : sp_law_row K C vs H Q E) : vs.length = 1 := len_L (m := 1) (fun ds d ⟨_, e, _⟩ => by rw [e]; rfl) h
theorem pure_law_row (h : sp_law_row K C vs H Q E) : t_law_row K C { nx := fun _ H' => Q .non H', rt := Q } (start ["_law_script", "_law_code", "_law_apart", "_law_high", "_law_place", "_law_found", "_law_cell"] vs) H := fnL_of 6 (fun ds d ⟨_, e, _⟩ => by rw [e]; rfl) (fun ds d p => run_law_row p) h
theorem len_law_numbers (h : sp_law_numbers K C vs H Q E) : vs.length = 1 := len_P (m := 1) (fun ds d ⟨_, e, _⟩ => by rw [e]; rfl) h
theorem pure_law_numbers (h : sp_law_numbers K C vs H Q E) : t_law_numbers K C { nx := fun _ H' => Q .non H', rt := Q } (start ["_law_found", "_law_one"] vs) H := fnP_of 1 (fun ds d ⟨_, e, _⟩ => by rw [e]; rfl) (fun ds d p => run_law_numbers p) h
end
end FR

/-! Rows turned round; lists that rise; what falls, found one by one. -/
namespace FR

/-! ### rising lists -/
theorem rise_uniq : ∀ {xs ys : List Int}, xs.Pairwise (· < ·) → ys.Pairwise (· < ·) → (∀ a, a ∈ xs ↔ a ∈ ys) → xs = ys
  | [], [], _, _, _ => rfl
  | [], y :: ys, _, _, h => absurd ((h y).mpr List.mem_cons_self) (by simp)
  | x :: xs, [], _, _, h => absurd ((h x).mp List.mem_cons_self) (by simp)
  | x :: xs, y :: ys, h1, h2, h => by
    obtain ⟨a1, a2⟩ := List.pairwise_cons.mp h1
    obtain ⟨b1, b2⟩ := List.pairwise_cons.mp h2
    have e : x = y := by
      rcases List.mem_cons.mp ((h x).mp List.mem_cons_self) with z | z
      · exact z
      · rcases List.mem_cons.mp ((h y).mpr List.mem_cons_self) with z' | z'
        · exact z'.symm
        · have q1 := b1 x z
          have q2 := a1 y z'
          omega
    subst e
    congr 1
    refine rise_uniq a2 b2 fun a => ⟨fun ha => ?_, fun ha => ?_⟩
    · rcases List.mem_cons.mp ((h a).mp (List.mem_cons_of_mem _ ha)) with z | z
      · have := a1 a ha
        omega
      · exact z
    · rcases List.mem_cons.mp ((h a).mpr (List.mem_cons_of_mem _ ha)) with z | z
      · have := b1 a ha
        omega
      · exact z
theorem rise_of {xs : List Int} (h1 : xs.Pairwise (· ≤ ·)) (h2 : xs.Nodup) : xs.Pairwise (· < ·) := by
  have h3 : xs.Pairwise (fun a b => a ≤ b ∧ a ≠ b) := List.Pairwise.and h1 h2
  exact h3.imp fun h => by omega
theorem range_rise (lo : Int) (n : Nat) : ((List.range n).map fun k => lo + ((k : Nat) : Int)).Pairwise (· < ·) := by
  rw [List.pairwise_map]
  exact List.pairwise_lt_range.imp fun h => by omega
theorem span_rise (lo hi : Int) : (spanL lo hi).Pairwise (· < ·) := range_rise _ _
theorem span_mem {lo hi a : Int} : a ∈ spanL lo hi ↔ lo ≤ a ∧ a ≤ hi := by
  unfold spanL
  simp only [List.mem_map, List.mem_range]
  constructor
  · rintro ⟨k, hk, rfl⟩
    omega
  · rintro ⟨h1, h2⟩
    exact ⟨(a - lo).toNat, by omega, by omega⟩
/-- a sorted arrangement of what lies between -/
theorem sorted_span {xs ys : List Int} {lo hi : Int} (hp : ys.Perm xs) (hs : ys.Pairwise (· ≤ ·)) (hn : xs.Nodup) (hm : ∀ a, a ∈ xs ↔ lo ≤ a ∧ a ≤ hi) : ys = spanL lo hi :=
  rise_uniq (rise_of hs (hp.nodup_iff.mpr hn)) (span_rise _ _) fun a => by rw [hp.mem_iff, hm, span_mem]
theorem nodup_map_inj {α : Type} {f : α → Int} {xs : List α} (h : xs.Nodup) (hf : ∀ a b, f a = f b → a = b) : (xs.map f).Nodup := by
  unfold List.Nodup at *
  rw [List.pairwise_map]
  exact h.imp fun hab z => hab (hf _ _ z)
theorem span_nodup (lo hi : Int) : (spanL lo hi).Nodup := (span_rise lo hi).imp fun h => by omega

/-! ### a row turned round -/
theorem mir_len (row : List (Int × Int)) : (mir row).length = row.length := by
  unfold mir
  rw [List.length_map, List.length_reverse]
theorem mir_get {row : List (Int × Int)} {j : Int} (h0 : 0 ≤ j) (h1 : j < row.length) : plc (mir row) j = -(plc row (row.length - 1 - j)) ∧ hgt (mir row) j = hgt row (row.length - 1 - j) := by
  have hl : j.toNat < row.length := by omega
  have e : (mir row)[j.toNat]? = some (-(plc row (row.length - 1 - j)), hgt row (row.length - 1 - j)) := by
    unfold mir
    rw [List.getElem?_map, List.getElem?_reverse hl]
    have hl2 : row.length - 1 - j.toNat < row.length := by omega
    rw [List.getElem?_eq_getElem hl2]
    have e2 := plc_get (row := row) (List.getElem?_eq_getElem hl2)
    have e3 : ((row.length - 1 - j.toNat : Nat) : Int) = row.length - 1 - j := by omega
    rw [e3] at e2
    rw [e2]
    rfl
  have z := plc_get e
  have e4 : ((j.toNat : Nat) : Int) = j := by omega
  rw [e4] at z
  exact ⟨(congrArg Prod.fst z).symm, (congrArg Prod.snd z).symm⟩
theorem mir_mir (row : List (Int × Int)) : mir (mir row) = row := by
  unfold mir
  rw [← List.map_reverse, List.reverse_reverse, List.map_map]
  conv => rhs; rw [← List.map_id row]
  apply List.map_congr_left
  intro p _
  simp
theorem mir_ok {row : List (Int × Int)} (h : Okr row) : Okr (mir row) := by
  refine ⟨fun i hi => ?_, fun i j hij hj => ?_, by rw [mir_len]; exact h.few⟩
  · rw [mir_len] at hi
    rw [(mir_get (row := row) (j := (i : Nat)) (by omega) (by omega)).2]
    have e : (row.length : Int) - 1 - (i : Nat) = ((row.length - 1 - i : Nat) : Int) := by omega
    rw [e]
    exact h.pos _ (by omega)
  · rw [mir_len] at hj
    rw [(mir_get (row := row) (j := (i : Nat)) (by omega) (by omega)).1, (mir_get (row := row) (j := (j : Nat)) (by omega) (by omega)).1]
    have e1 : (row.length : Int) - 1 - (i : Nat) = ((row.length - 1 - i : Nat) : Int) := by omega
    have e2 : (row.length : Int) - 1 - (j : Nat) = ((row.length - 1 - j : Nat) : Int) := by omega
    rw [e1, e2]
    have := h.inc (row.length - 1 - j) (row.length - 1 - i) (by omega) (by omega)
    omega
theorem goN_congr {q q' : Nat → Int × Int} : ∀ (m k : Nat) (far : Int), (∀ t, k < t → t ≤ k + m → q t = q' t) → goN q m k far = goN q' m k far
  | 0, k, far, h => rfl
  | m + 1, k, far, h => by
    unfold goN
    rw [h (k + 1) (by omega) (by omega)]
    split
    · exact goN_congr m (k + 1) _ fun t h1 h2 => h t (by omega) (by omega)
    · rfl
theorem ah_one (row : List (Int × Int)) (i : Nat) : ah row 1 i = row.length - 1 - i := by
  unfold ah
  simp
theorem ah_neg (row : List (Int × Int)) (i : Nat) : ah row (-1) i = i := by
  unfold ah
  simp
/-- the stones ahead, in range -/
theorem ah_in {row : List (Int × Int)} {s : Int} {i k : Nat} (hi : i < row.length) (hs : Sd s) : k ≤ ah row s i ↔ 0 ≤ (i : Int) + s * k ∧ (i : Int) + s * k < row.length := by
  rcases hs with rfl | rfl
  · rw [ah_one]
    omega
  · rw [ah_neg]
    omega
theorem mir_fell {row : List (Int × Int)} {s : Int} {i : Nat} (hi : i < row.length) (hs : Sd s) : fell (mir row) (-s) (row.length - 1 - i) = fell row s i := by
  have hq : ∀ k, k ≤ ah row s i → qf (mir row) (-s) (row.length - 1 - i) k = qf row s i k := fun k hk => by
    have hk' := (ah_in hi hs).mp hk
    unfold qf
    have e : ((row.length - 1 - i : Nat) : Int) + -s * (k : Nat) = row.length - 1 - ((i : Int) + s * k) := by
      rcases hs with rfl | rfl <;> omega
    have g := mir_get (row := row) (j := row.length - 1 - ((i : Int) + s * k)) (by omega) (by omega)
    have e2 : (row.length : Int) - 1 - (row.length - 1 - ((i : Int) + s * k)) = i + s * k := by omega
    rw [e, g.1, g.2, e2]
    rcases hs with rfl | rfl <;> simp
  have ha : ah (mir row) (-s) (row.length - 1 - i) = ah row s i := by
    rcases hs with rfl | rfl
    · rw [ah_one, ah_neg]
    · have e : -(-1 : Int) = 1 := rfl
      rw [e, ah_one, ah_neg, mir_len]
      omega
  unfold fell
  rw [ha, hq 0 (Nat.zero_le _)]
  exact goN_congr _ _ _ fun t h1 h2 => hq t (by omega)
theorem mir_last {row : List (Int × Int)} {s : Int} {i : Nat} (hi : i < row.length) (hs : Sd s) : lastI (mir row) (-s) (row.length - 1 - i) = row.length - 1 - lastI row s i := by
  unfold lastI
  rw [mir_fell hi hs]
  rcases hs with rfl | rfl <;> omega

/-! ### one by one -/
/-- what waits: found stones (as steps), the first done of them looked through -/
structure Wt (q : Nat → Int × Int) (m K : Nat) (W : List Nat) (done : Nat) : Prop where
  nd : W.Nodup
  le : ∀ k ∈ W, k ≤ K
  z : 0 ∈ W
  few : done ≤ W.length
  cl : ∀ p, p < done → ∀ t, W[p]? = some t → ∀ u, t < u → u ≤ m → (q u).1 ≤ (q t).1 + (q t).2 → u ∈ W
theorem Wt.all {q : Nat → Int × Int} {m K : Nat} {F : Int} {W : List Nat} (c : Chn q m K F) (h : Wt q m K W W.length) : ∀ n k, k ≤ n → k ≤ K → k ∈ W
  | 0, k, h1, h2 => by
    have e : k = 0 := by omega
    subst e
    exact h.z
  | n + 1, k, h1, h2 => by
    by_cases e : k = 0
    · subst e
      exact h.z
    · obtain ⟨t, ht, ht2⟩ := c.by_ (k - 1) (by omega)
      have hw : t ∈ W := Wt.all c h n t (by omega) (by omega)
      obtain ⟨p, hp, ep⟩ := List.mem_iff_getElem.mp hw
      have e1 : k - 1 + 1 = k := by omega
      rw [e1] at ht2
      exact h.cl p hp t (by rw [List.getElem?_eq_getElem hp, ep]) k (by omega) (by have := c.le; omega) ht2
theorem Wt.few_K {q : Nat → Int × Int} {m K done : Nat} {W : List Nat} (h : Wt q m K W done) : W.length ≤ K + 1 := by
  have hsub : W ⊆ List.range (K + 1) := fun k hk => List.mem_range.mpr (Nat.lt_succ_of_le (h.le k hk))
  have := List.Nodup.length_le_of_subset h.nd hsub
  rw [List.length_range] at this
  exact this
end FR

/-! Answers: made, read, asked. -/
namespace FR
open PySem L2 Evl

/-- what isinstance asks of an own class -/
structure Isi (K : PySem.W.Frag) (C : Addr) : Prop where
  cls : Cls K C
  ha : PySem.W.findIn K (.ref C) "__class__" = some (some (.builtin "object.__class__"))
  hn : PySem.W.specialIn K (.builtin "object.__class__") "__get__" = some (some (.builtin "getset_descriptor.__get__"))
  ht : PySem.W.takesIn K (.builtin "object.__class__") = some true
  hm : PySem.W.mroIn K C (.type "object") = some true
/-- a class of answers: its fields are no names of the class -/
structure Fx1 (K : PySem.W.Frag) (A : Addr) (fs : List Str) : Prop where
  isi : Isi K A
  no : ∀ f ∈ fs, NoAttr K A f
/-- whose instance an answer is -/
structure Kits (K : PySem.W.Frag) (A : Addr) (C : CS) (a c s f r h : Bool) : Prop where
  a : PySem.W.kitOne K (.ref A) (.ref C.Answer) = some a
  c : PySem.W.kitOne K (.ref A) (.ref C.Chain) = some c
  s : PySem.W.kitOne K (.ref A) (.ref C.Stands) = some s
  f : PySem.W.kitOne K (.ref A) (.ref C.Fewest) = some f
  r : PySem.W.kitOne K (.ref A) (.ref C.Rights) = some r
  h : PySem.W.kitOne K (.ref A) (.ref C.Higher) = some h
theorem kit_of {K : PySem.W.Frag} {A D : Addr} {b : Bool} (h1 : PySem.W.isClsIn K D = true) (h2 : PySem.W.typeIn K (.ref D) = some (.type "type")) (h3 : PySem.W.subIn K (.ref A) (.ref D) = some b) (h4 : PySem.W.subIn K (.ref A) (.ref A) = some true) : PySem.W.kitOne K (.ref A) (.ref D) = some b := by
  unfold PySem.W.kitOne
  by_cases e : A = D
  · subst e
    rw [h3] at h4
    rw [if_pos (beq_self_eq_true _), h4]
  · have e1 : (Value.ref A == Value.ref D) = false := by simpa using e
    rw [e1, if_neg Bool.false_ne_true]
    have h1' : (PySem.W.clsIn K D).isSome = true := h1
    show (if ((PySem.W.clsIn K D).isSome && PySem.W.typeIn K (.ref D) == some (.type "type")) = true then PySem.W.subIn K (.ref A) (.ref D) else none) = some b
    rw [h1', h2, if_pos (by rw [Bool.true_and]; exact beq_self_eq_true _)]
    exact h3
theorem lk_hd {f n : Str} {v : V} {ns : List Str} {xs : List V} (h : (f == n) = true) : ((n :: ns).zip (v :: xs)).lookup f = some v := by
  show List.lookup f ((n, v) :: ns.zip xs) = some v
  rw [List.lookup_cons, h]
theorem lk_tl {f n : Str} {v : V} {ns : List Str} {xs : List V} (h : (f == n) = false) : ((n :: ns).zip (v :: xs)).lookup f = (ns.zip xs).lookup f := by
  show List.lookup f ((n, v) :: ns.zip xs) = _
  rw [List.lookup_cons, h]
theorem lk_no {f : Str} : ∀ {ns : List Str} {xs : List V}, (ns.any fun n => f == n) = false → (ns.zip xs).lookup f = none
  | [], xs, _ => by simp
  | n :: ns, [], _ => by simp
  | n :: ns, x :: xs, h => by
    rw [List.any_cons, Bool.or_eq_false_iff] at h
    rw [lk_tl h.1]
    exact lk_no h.2
section
variable {K : PySem.W.Frag} {env : En} {te ta tb tc : TE} {t : TA} {d d1 d2 : Da} {ds es : List Da} {C : Addr} {f f1 f2 : Str} {ns : List Str}
/-- a field: which place of the names it has -/
theorem ev_fld (he : EvE K te env (.obj C ns ds)) (c : Cls K C) (na : NoAttr K C f) (hl : ∀ B xs, RpAll K B ds xs → xs.length = ns.length → ∃ v, (ns.zip xs).lookup f = some v ∧ Rp K B d v) : EvE K (tFld K te f) env d := fun σ B s H1 e Q q =>
  he σ B s H1 e _ fun v B2 H2 g r => by
    simp only [Rp] at r
    obtain ⟨a, dx, xs, rfl, h2, h3, h4⟩ := r
    obtain ⟨v, hv, rv⟩ := hl B2 xs h4 h3
    exact ⟨a, C, dx, _, v, rfl, g.h _ _ h2, c, na, hv, q v B2 H2 g rv⟩
theorem ev_fld0 (he : EvE K te env (.obj C (f :: ns) (d :: ds))) (c : Cls K C) (na : NoAttr K C f) : EvE K (tFld K te f) env d :=
  ev_fld he c na fun B xs r hl => by
    obtain ⟨v, t, rfl, r1, r2⟩ := r.uncons
    exact ⟨v, lk_hd (by simp), r1⟩
theorem ev_fld1 (he : EvE K te env (.obj C (f1 :: f :: ns) (d1 :: d :: ds))) (c : Cls K C) (na : NoAttr K C f) (h : (f == f1) = false) : EvE K (tFld K te f) env d :=
  ev_fld he c na fun B xs r hl => by
    obtain ⟨v, t, rfl, r1, r2⟩ := r.uncons
    obtain ⟨v', t', rfl, r3, r4⟩ := r2.uncons
    exact ⟨v', by rw [lk_tl h, lk_hd (by simp)], r3⟩
/-- a method with a data promise -/
theorem ev_meth {P : List Da → Da → Prop} {m : Str} {E : XK} (he : EvE K te env (.obj C ns ds)) (hm : (ns.any fun n => m == n) = false) (ha : EvA K t env es) (hp : P (.obj C ns ds :: es) d) : EvE K (tMeth C m (FnP K P) [] E te t) env d := fun σ B s H1 e Q q =>
  he σ B s H1 e _ fun v B2 H2 g r => by
    have r0 := r
    simp only [Rp] at r0
    obtain ⟨a, dx, xs, rfl, h2, h3, h4⟩ := r0
    refine ⟨a, dx, _, rfl, g.h _ _ h2, lk_no hm, ha σ B2 (s.mono g.b) H2 g.h _ fun vs B3 H3 g3 r3 => ?_⟩
    refine ⟨B3, .obj C ns ds :: es, d, g3.h, ?_, hp, fun v B' H' g' r' => q v B' H' ((g.trans g3).trans g') r'⟩
    rw [List.append_nil]
    exact .cons (r.mono g3.b) r3
/-- isinstance of an answer against an own class -/
theorem ev_isiO {C' : Addr} {b : Bool} (ha : EvE K ta env (.obj C ns ds)) (hb : EvE K tb env (.cls C')) (I : Isi K C) (hk : PySem.W.kitOne K (.ref C) (.ref C') = some b) : EvE K (tCB (rIsi K) (tCons ta (tCons tb tNil))) env (.bl b) :=
  ev_cb (ea_cons ha (ea_cons hb ea_nil)) fun B H vs e r Q q => by
    obtain ⟨v, w, rfl, h1, h2⟩ := two_rp r
    simp only [Rp] at h1 h2
    subst h2
    obtain ⟨a, dx, xs, rfl, h3, h4, h5⟩ := h1
    exact ⟨.ref a, .ref C', .ref C, .ref C', b, rfl, .own C', .base (.ins (e _ _ h3) I.cls I.ha I.hn I.ht I.hm), hk, q _ B H (Gr.refl e) (by simp only [Rp])⟩
/-- an instance with two, with one field(s), made -/
theorem ev_mak2 {sp : Sp} {E : XK} (ha : EvA K t env [d1, d2]) (hs : ∀ (x dx : Addr) (v1 v2 : V) (H : Hp) (Q : VK) (E : XK), H x = some (.ins C dx []) → Q .non (upd (upd H x (.ins C dx [(f1, v1)])) x (.ins C dx [(f1, v1), (f2, v2)])) → sp [.ref x, v1, v2] H Q E) :
    EvE K (tMake C sp [] E t) env (.obj C [f1, f2] [d1, d2]) := fun σ B s H1 e Q q =>
  ha σ B s H1 e _ fun vs B2 H2 g r => by
    obtain ⟨v1, v2, rfl, r1, r2⟩ := two_rp r
    intro x dx hx hdx hne
    refine hs x dx v1 v2 _ _ E upd_same ⟨rfl, ?_⟩
    have bx : B2 x = none := fresh_back g.h hx
    have nb : Ex B2 (upd B2 x (.ins C dx [(f1, v1), (f2, v2)])) := Ex.new bx
    refine q (.ref x) (upd B2 x (.ins C dx [(f1, v1), (f2, v2)])) _ (g.trans ⟨nb, fun a o h => ?_, fun a o h => ?_, fun a h => ?_⟩) ?_
    · by_cases z : a = x
      · subst z
        rw [upd_same] at h ⊢
        exact h
      · rw [upd_ne z] at h
        have hd : a ≠ dx := fun w => by
          rw [w, fresh_back g.h hdx] at h
          cases h
        rw [upd_ne z, upd_ne z, upd_ne z, upd_ne hd]
        exact g.h a o h
    · have h1 : a ≠ x := fun w => by
        rw [w, hx] at h
        cases h
      have h2 : a ≠ dx := fun w => by
        rw [w, hdx] at h
        cases h
      rw [upd_ne h1, upd_ne h1, upd_ne h1, upd_ne h2]
      exact h
    · exact upd_ne fun w => h (by rw [w]; exact hx)
    · simp only [Rp]
      exact ⟨x, dx, [v1, v2], rfl, upd_same, rfl, .cons (r1.mono nb) (.cons (r2.mono nb) .nil)⟩
theorem ev_mak1 {sp : Sp} {E : XK} (ha : EvA K t env [d1]) (hs : ∀ (x dx : Addr) (v1 : V) (H : Hp) (Q : VK) (E : XK), H x = some (.ins C dx []) → Q .non (upd H x (.ins C dx [(f1, v1)])) → sp [.ref x, v1] H Q E) :
    EvE K (tMake C sp [] E t) env (.obj C [f1] [d1]) := fun σ B s H1 e Q q =>
  ha σ B s H1 e _ fun vs B2 H2 g r => by
    obtain ⟨v1, rfl, r1⟩ := one_rp r
    intro x dx hx hdx hne
    refine hs x dx v1 _ _ E upd_same ⟨rfl, ?_⟩
    have bx : B2 x = none := fresh_back g.h hx
    have nb : Ex B2 (upd B2 x (.ins C dx [(f1, v1)])) := Ex.new bx
    refine q (.ref x) (upd B2 x (.ins C dx [(f1, v1)])) _ (g.trans ⟨nb, fun a o h => ?_, fun a o h => ?_, fun a h => ?_⟩) ?_
    · by_cases z : a = x
      · subst z
        rw [upd_same] at h ⊢
        exact h
      · rw [upd_ne z] at h
        have hd : a ≠ dx := fun w => by
          rw [w, fresh_back g.h hdx] at h
          cases h
        rw [upd_ne z, upd_ne z, upd_ne hd]
        exact g.h a o h
    · have h1 : a ≠ x := fun w => by
        rw [w, hx] at h
        cases h
      have h2 : a ≠ dx := fun w => by
        rw [w, hdx] at h
        cases h
      rw [upd_ne h1, upd_ne h1, upd_ne h2]
      exact h
    · exact upd_ne fun w => h (by rw [w]; exact hx)
    · simp only [Rp]
      exact ⟨x, dx, [v1], rfl, upd_same, rfl, .cons (r1.mono nb) .nil⟩
/-- such an __init__, by the heap -/
def InI1 (K : PySem.W.Frag) (C : Addr) (f1 : Str) : Sp := fun vs H Q _ => ∃ (x dx : Addr) (v1 : V), vs = [.ref x, v1] ∧ H x = some (.ins C dx []) ∧ Q .non (upd H x (.ins C dx [(f1, v1)]))
def InI2 (K : PySem.W.Frag) (C : Addr) (f1 f2 : Str) : Sp := fun vs H Q _ => ∃ (x dx : Addr) (v1 v2 : V), vs = [.ref x, v1, v2] ∧ H x = some (.ins C dx []) ∧ Q .non (upd (upd H x (.ins C dx [(f1, v1)])) x (.ins C dx [(f1, v1), (f2, v2)]))
theorem put_one (f : Str) (v : V) : putF f v [] = [(f, v)] := rfl
theorem put_two {f1 f2 : Str} (h : f1 ≠ f2) (v1 v2 : V) : putF f2 v2 [(f1, v1)] = [(f1, v1), (f2, v2)] := by
  show (if f1 = f2 then [(f1, v2)] else (f1, v1) :: putF f2 v2 []) = _
  rw [if_neg h]
  rfl
theorem in_I1 {vs : List V} {H : Hp} {Q : VK} {E : XK} {N : List Str} (hN : N.length = 2) (c : Cls K C) (n1 : NoAttr K C f1) (h : InI1 K C f1 vs H Q E) : sFld K (tVar 0) (tVar 1) f1 { nx := fun _ H' => Q .non H', rt := Q } (start N vs) H := by
  obtain ⟨x, dx, v1, rfl, hx, q⟩ := h
  refine ⟨v1, by rw [start_eq]; rfl, .ref x, by rw [start_eq]; rfl, x, C, dx, [], rfl, hx, c, n1, by simp, ?_⟩
  rw [put_one]
  exact q
theorem in_I2 {vs : List V} {H : Hp} {Q : VK} {E : XK} {N : List Str} (hN : N.length = 3) (c : Cls K C) (n1 : NoAttr K C f1) (n2 : NoAttr K C f2) (hne : f1 ≠ f2) (h : InI2 K C f1 f2 vs H Q E) :
    tSeq (sFld K (tVar 0) (tVar 1) f1) (sFld K (tVar 0) (tVar 2) f2) { nx := fun _ H' => Q .non H', rt := Q } (start N vs) H := by
  obtain ⟨x, dx, v1, v2, rfl, hx, q⟩ := h
  refine ⟨v1, by rw [start_eq]; rfl, .ref x, by rw [start_eq]; rfl, x, C, dx, [], rfl, hx, c, n1, by simp, ?_⟩
  rw [put_one]
  refine ⟨v2, by rw [start_eq]; rfl, .ref x, by rw [start_eq]; rfl, x, C, dx, [(f1, v1)], rfl, upd_same, c, n2, by simp, ?_⟩
  rw [put_two hne]
  exact q
end

/-! ### how far a push fells, as the laws look -/
def P_law_felled (ds : List Da) (d : Da) : Prop := ∃ row, ∃ i : Nat, ∃ s : Int, ds = [rowD row, .int i, .int s] ∧ (i < row.length ∧ row.length ≤ 1000 ∧ Sd s) ∧ d = .int (lastI row s i)
abbrev sp_law_felled (K : PySem.W.Frag) (C : CS) : Sp := FnP K P_law_felled
def t_law_felled (K : PySem.W.Frag) (C : CS) : TS :=
  (tSeq (tPar 3 4 (tCons (tOp rAddI (tOp (rIxT K) (tOp (rIxL K) (tVar 0) (tVar 1)) (tC (.int 0))) (tOp rMulI (tVar 2) (tOp (rIxT K) (tOp (rIxL K) (tVar 0) (tVar 1)) (tC (.int 1))))) (tCons (tVar 1) tNil))) (tSeq (tFor (iList K (tIf (tTest (tOp rEq (tVar 2) (tC (.int 1)))) (tLstRg (tRg2 (tOp rAddI (tVar 1) (tC (.int 1))) (tCB (rLenS K) (tCons (tVar 0) tNil)))) (tLstRg3 (tOp rSubI (tVar 1) (tC (.int 1))) (tUn (rU fun i => .int (-i)) (tC (.int 1))) (tUn (rU fun i => .int (-i)) (tC (.int 1)))))) (gName 5) (tSeq (tAsg (tOp (rIxL K) (tVar 0) (tVar 5)) (gTup K 2 (gCons (gName 6) (gCons (gName 7) gNil)))) (tSeq (tIfS (tTest (tOp rLtI (tOp rMulI (tOp rSubI (tVar 3) (tVar 6)) (tVar 2)) (tC (.int 0)))) (tRet (tVar 4)) tNext) (tSeq (tAsg (tVar 5) (gName 4)) (tIfS (tTest (tOp rGtI (tOp rMulI (tOp rSubI (tOp rAddI (tVar 6) (tOp rMulI (tVar 2) (tVar 7))) (tVar 3)) (tVar 2)) (tC (.int 0)))) (tAsg (tOp rAddI (tVar 6) (tOp rMulI (tVar 2) (tVar 7))) (gName 3)) tNext))))) (tRet (tVar 4))))
section
variable {K : PySem.W.Frag} {C : CS}
theorem cmul_r {s x : Int} (h : Sd s) : CMul x s := .inr (by rcases h with rfl | rfl <;> decide)
theorem ah_one' (row : List (Int × Int)) (i : Nat) : ah row 1 i = row.length - 1 - i := by
  unfold ah
  simp
theorem ah_neg' (row : List (Int × Int)) (i : Nat) : ah row (-1) i = i := by
  unfold ah
  simp
theorem run_law_felled {ds : List Da} {d : Da} (h : P_law_felled ds d) : Run K (t_law_felled K C) (ent ds 5) (retD d) := by
  obtain ⟨row, i, s, rfl, ⟨hi, hn, hs⟩, rfl⟩ := h
  have hss : s * s = 1 := by rcases hs with rfl | rfl <;> rfl
  refine run_seq (run_par (d := .int (s * ((qf row s i 0).1 + (qf row s i 0).2))) (d' := .int (i + s * ((0 : Nat) : Int))) (ea_cons ?_ (ea_cons ?_ ea_nil)) ?_)
  · refine (ev_add (ev_row0 (i := i) (ev_var rfl) (ev_var rfl) (by omega) (by omega)) (ev_mul (ev_var rfl) (ev_row1 (i := i) (ev_var rfl) (ev_var rfl) (by omega) (by omega)) (cmul_s hs))).is ?_
    simp only [qf]
    rcases hs with rfl | rfl <;> simp <;> omega
  · exact (ev_var rfl).is (by simp)
  have hlist : EvE K (tIf (tTest (tOp rEq (tVar 2) (tC (.int 1)))) (tLstRg (tRg2 (tOp rAddI (tVar 1) (tC (.int 1))) (tCB (rLenS K) (tCons (tVar 0) tNil)))) (tLstRg3 (tOp rSubI (tVar 1) (tC (.int 1))) (tUn (rU fun i => .int (-i)) (tC (.int 1))) (tUn (rU fun i => .int (-i)) (tC (.int 1)))))
      (imm ((List.set (ent [rowD row, .int (i : Nat), .int s] 5) 3 (.im (.int (s * ((qf row s i 0).1 + (qf row s i 0).2))))).set 4 (.im (.int (i + s * ((0 : Nat) : Int)))))) (intsD ((List.range (ah row s i)).map fun k => (i : Int) + s * ((k + 1 : Nat) : Int))) := by
    refine ev_ifE (b := decide (s = 1)) (eb_test (ev_eqI (ev_var rfl) ev_int)) (fun hb => ?_) fun hb => ?_
    · have e1 := of_decide_eq_true hb
      subst e1
      refine ev_new ((en_listRg (ev_add (ev_var rfl) ev_int) (ev_lenR (ev_var rfl)) (RgOk.of_le (by omega) (by omega) (by omega) (by omega))).is ?_)
      have e2 : ((row.length : Int) - ((i : Int) + 1)).toNat = ah row 1 i := by
        rw [ah_one']
        omega
      rw [e2, intL, List.map_map]
      apply List.map_congr_left
      intro k _
      show Da.int _ = Da.int _
      congr 1
      show (i : Int) + 1 + ((k : Nat) : Int) = i + 1 * ((k + 1 : Nat) : Int)
      omega
    · have e1 : s = -1 := by
        have := of_decide_eq_false hb
        rcases hs with z | z
        · exact absurd z this
        · exact z
      subst e1
      refine ev_new ((en_listRg3 (ev_sub (ev_var rfl) ev_int) (ev_neg ev_int) (ev_neg ev_int) (rgS_neg (by omega) (by omega) (by omega) (by omega))).is ?_)
      have e2 : ((i : Int) - 1 - -1).toNat = ah row (-1) i := by
        rw [ah_neg']
        omega
      rw [e2, intL]
      congr 1
      apply List.map_congr_left
      intro k _
      omega
  have hah : ∀ k : Nat, k < ah row s i → 0 ≤ (i : Int) + s * ((k + 1 : Nat) : Int) ∧ (i : Int) + s * ((k + 1 : Nat) : Int) < row.length := fun k hk => by
    rcases hs with rfl | rfl
    · rw [ah_one'] at hk
      omega
    · rw [ah_neg'] at hk
      omega
  refine run_seq (run_for (wk_list hlist) (fun k e => ∃ far y5 y6 y7, e = [.im (rowD row), .im (.int i), .im (.int s), .im (.int (s * far)), .im (.int (i + s * ((k : Nat) : Int))), y5, y6, y7] ∧ goN (qf row s i) (ah row s i - k) k far = fell row s i) ⟨_, .no, .no, .no, rfl, rfl⟩ ?_ ?_)
  · rintro k d e hd ⟨far, y5, y6, y7, rfl, hg⟩
    obtain ⟨x, hx, rfl⟩ := intL_get hd
    rw [List.getElem?_map] at hx
    have hk : k < ah row s i := by
      apply Decidable.byContradiction
      intro z
      rw [List.getElem?_eq_none (by rw [List.length_range]; omega)] at hx
      cases hx
    rw [List.getElem?_range hk] at hx
    obtain rfl : (i : Int) + s * ((k + 1 : Nat) : Int) = x := Option.some.inj hx
    have hin := hah k hk
    have hm1 : ah row s i - k = (ah row s i - (k + 1)) + 1 := by omega
    rw [hm1] at hg
    unfold goN at hg
    refine ⟨_, ts_name, ?_⟩
    refine run_seq (run_asgT (ev_rowI (ev_var rfl) (ev_var rfl) hin.1 hin.2) (ts_tup2 ts_name ts_name) ?_)
    refine run_seq (run_if (b := decide ((s * far - plc row (i + s * ((k + 1 : Nat) : Int))) * s < 0)) (eb_test (ev_lt (ev_mul (ev_sub (ev_var rfl) (ev_var rfl)) (ev_var rfl) (cmul_r hs)) ev_int)) (fun hb => ?_) fun hb => run_next ?_)
    · have hlt := of_decide_eq_true hb
      have hq : ¬ (qf row s i (k + 1)).1 ≤ far := by
        show ¬ s * plc row (i + s * ((k + 1 : Nat) : Int)) ≤ far
        rcases hs with rfl | rfl <;> omega
      rw [if_neg hq] at hg
      refine run_ret (ev_var rfl) ?_
      show Da.int _ = Da.int _
      unfold lastI
      rw [← hg]
    · have hge := of_decide_eq_false hb
      have hq : (qf row s i (k + 1)).1 ≤ far := by
        show s * plc row (i + s * ((k + 1 : Nat) : Int)) ≤ far
        rcases hs with rfl | rfl <;> omega
      rw [if_pos hq] at hg
      refine run_seq (run_asg (ev_var rfl) ?_)
      refine run_if (b := decide (0 < (plc row (i + s * ((k + 1 : Nat) : Int)) + s * hgt row (i + s * ((k + 1 : Nat) : Int)) - s * far) * s)) (eb_test (ev_gt (ev_mul (ev_sub (ev_add (ev_var rfl) (ev_mul (ev_var rfl) (ev_var rfl) (cmul_s hs))) (ev_var rfl)) (ev_var rfl) (cmul_r hs)) ev_int)) (fun hb2 => ?_) fun hb2 => run_next ?_
      · have h2 := of_decide_eq_true hb2
        have em : mx far ((qf row s i (k + 1)).1 + (qf row s i (k + 1)).2) = s * plc row (i + s * ((k + 1 : Nat) : Int)) + hgt row (i + s * ((k + 1 : Nat) : Int)) := by
          unfold mx
          show (if s * plc row (i + s * ((k + 1 : Nat) : Int)) + hgt row (i + s * ((k + 1 : Nat) : Int)) > far then s * plc row (i + s * ((k + 1 : Nat) : Int)) + hgt row (i + s * ((k + 1 : Nat) : Int)) else far) = _
          rw [if_pos (by rcases hs with rfl | rfl <;> omega)]
        rw [em] at hg
        have e3 : plc row (i + s * ((k + 1 : Nat) : Int)) + s * hgt row (i + s * ((k + 1 : Nat) : Int)) = s * (s * plc row (i + s * ((k + 1 : Nat) : Int)) + hgt row (i + s * ((k + 1 : Nat) : Int))) := by
          rcases hs with rfl | rfl <;> omega
        exact run_asg ((ev_add (ev_var rfl) (ev_mul (ev_var rfl) (ev_var rfl) (cmul_s hs))).is (congrArg Da.int e3)) ⟨_, _, _, _, rfl, hg⟩
      · have h2 := of_decide_eq_false hb2
        have em : mx far ((qf row s i (k + 1)).1 + (qf row s i (k + 1)).2) = far := by
          unfold mx
          show (if s * plc row (i + s * ((k + 1 : Nat) : Int)) + hgt row (i + s * ((k + 1 : Nat) : Int)) > far then s * plc row (i + s * ((k + 1 : Nat) : Int)) + hgt row (i + s * ((k + 1 : Nat) : Int)) else far) = _
          rw [if_neg (by rcases hs with rfl | rfl <;> omega)]
        rw [em] at hg
        exact ⟨far, _, _, _, rfl, hg⟩
  · rintro e ⟨far, y5, y6, y7, rfl, hg⟩
    rw [List.length_map, List.length_map, List.length_range] at hg ⊢
    rw [Nat.sub_self] at hg
    refine run_ret (ev_var rfl) ?_
    show Da.int _ = Da.int _
    unfold lastI
    rw [← hg]
    rfl
end
section
variable {K : PySem.W.Frag} {C : CS} {vs : List V} {H : Hp} {Q : VK} {E : XK}
theorem lenP_law_felled {ds : List Da} {d : Da} (h : P_law_felled ds d) : ds.length = 3 := by
  unfold P_law_felled at h
  repeat (rcases h with ⟨z, h⟩; first | (subst z; rfl) | skip)
theorem len_law_felled (h : sp_law_felled K C vs H Q E) : vs.length = 3 := len_P (m := 3) (fun _ _ p => lenP_law_felled p) h
theorem pure_law_felled (h : sp_law_felled K C vs H Q E) : t_law_felled K C { nx := fun _ H' => Q .non H', rt := Q } (start ["_law_row_here", "_law_stone", "_law_side", "_law_reach", "_law_at", "_law_other", "_law_place", "_law_height"] vs) H := fnP_of 5 (fun _ _ p => by rw [lenP_law_felled p] <;> rfl) (fun _ _ p => run_law_felled p) h
end
end FR

/-! Higher stones. -/
namespace FR
open PySem L2 Evl

/-! ### the mathematics -/
def ups (row : List (Int × Int)) (n : Int) : List (Int × Int) := row.map fun p => (p.1, p.2 + n)
theorem ups_len (row : List (Int × Int)) (n : Int) : (ups row n).length = row.length := List.length_map ..
theorem ups_get {row : List (Int × Int)} {n j : Int} (h0 : 0 ≤ j) (h1 : j < row.length) : plc (ups row n) j = plc row j ∧ hgt (ups row n) j = hgt row j + n := by
  have hl : j.toNat < row.length := by omega
  have e : (ups row n)[j.toNat]? = some (plc row j, hgt row j + n) := by
    unfold ups
    rw [List.getElem?_map, List.getElem?_eq_getElem hl]
    have e2 := plc_get (row := row) (List.getElem?_eq_getElem hl)
    have e4 : ((j.toNat : Nat) : Int) = j := by omega
    rw [e4] at e2
    rw [e2]
    rfl
  have z := plc_get e
  have e4 : ((j.toNat : Nat) : Int) = j := by omega
  rw [e4] at z
  exact ⟨(congrArg Prod.fst z).symm, (congrArg Prod.snd z).symm⟩
theorem ups_ups (row : List (Int × Int)) (n : Int) : ups (ups row n) (-1) = ups row (n - 1) := by
  unfold ups
  rw [List.map_map]
  apply List.map_congr_left
  intro p _
  simp only [Function.comp, Prod.mk.injEq, true_and]
  omega
/-- whether so much higher a push to the right fells all, and one less not the other one -/
def highB (row : List (Int × Int)) (i : Nat) (n : Int) (o : Option Int) : Bool :=
  if n < 0 || lastI (ups row n) 1 i < row.length - 1 then false
  else match o with
    | none => decide (n = 0)
    | some st => if n = 0 then false else if i < st ∧ st < row.length then decide (lastI (ups row (n - 1)) 1 i < st) else false
def optD : Option Int → Da
  | none => .non
  | some i => .int i
/-- the number and the stone, looked for from left to right: k stones looked at, far, the number, the stone -/
structure Gap (row : List (Int × Int)) (i : Nat) (k : Nat) (far num : Int) (o : Option Int) : Prop where
  reach : ∀ t : Nat, t ≤ k → (qf row 1 i t).1 + (qf row 1 i t).2 ≤ far
  att : ∃ t : Nat, t ≤ k ∧ far = (qf row 1 i t).1 + (qf row 1 i t).2
  pos : 0 ≤ num
  all : ∀ j : Nat, j < k → ∃ t : Nat, t ≤ j ∧ (qf row 1 i (j + 1)).1 ≤ (qf row 1 i t).1 + (qf row 1 i t).2 + num
  non : o = none → num = 0
  som : ∀ st, o = some st → 0 < num ∧ ∃ j : Nat, j < k ∧ st = (i : Int) + ((j + 1 : Nat) : Int) ∧ ∀ t : Nat, t ≤ j → (qf row 1 i t).1 + (qf row 1 i t).2 + num ≤ (qf row 1 i (j + 1)).1
theorem ah_in' {row : List (Int × Int)} {i k : Nat} (hi : i < row.length) (hk : k ≤ ah row 1 i) : 0 ≤ (i : Int) + 1 * (k : Nat) ∧ (i : Int) + 1 * (k : Nat) < row.length := by
  rw [ah_one'] at hk
  omega
theorem ups_q {row : List (Int × Int)} {i k : Nat} {n : Int} (hi : i < row.length) (hk : k ≤ ah row 1 i) : qf (ups row n) 1 i k = ((qf row 1 i k).1, (qf row 1 i k).2 + n) := by
  have h := (ah_in' hi hk)
  unfold qf
  rw [(ups_get h.1 h.2).1, (ups_get h.1 h.2).2]
theorem gap_high {row : List (Int × Int)} {i : Nat} {far num : Int} {o : Option Int} (hi : i < row.length) (g : Gap row i (ah row 1 i) far num o) : highB row i num o = true := by
  have ha : ah row 1 i = row.length - 1 - i := ah_one' row i
  have hl : ∀ n, ah (ups row n) 1 i = ah row 1 i := fun n => by rw [ah_one', ah_one', ups_len]
  have c := fell_chn (ups row num) 1 i
  have hK : (fell (ups row num) 1 i).1 = ah row 1 i := by
    have h1 := c.le
    rw [hl] at h1
    apply Decidable.byContradiction
    intro hn
    obtain ⟨t, ht, hq⟩ := g.all (fell (ups row num) 1 i).1 (by omega)
    have h2 := c.stop (by rw [hl]; omega) t ht
    rw [ups_q hi (by omega), ups_q hi (by omega)] at h2
    simp only at h2
    omega
  have hlast : lastI (ups row num) 1 i = row.length - 1 := by
    unfold lastI
    rw [hK]
    omega
  unfold highB
  rw [hlast]
  have hp := g.pos
  rw [if_neg (by simp; omega)]
  cases o with
  | none => exact decide_eq_true (g.non rfl)
  | some st =>
    obtain ⟨h0, j, hj, rfl, hb⟩ := g.som st rfl
    show (if num = 0 then false else if (i : Int) < (i : Int) + ((j + 1 : Nat) : Int) ∧ (i : Int) + ((j + 1 : Nat) : Int) < row.length then decide (lastI (ups row (num - 1)) 1 i < (i : Int) + ((j + 1 : Nat) : Int)) else false) = true
    rw [if_neg (by omega), if_pos (by omega)]
    refine decide_eq_true ?_
    have c' := fell_chn (ups row (num - 1)) 1 i
    have hlt : (fell (ups row (num - 1)) 1 i).1 < j + 1 := by
      apply Decidable.byContradiction
      intro hn
      obtain ⟨t, ht, hq⟩ := c'.by_ j (by omega)
      rw [ups_q hi (by omega), ups_q hi (by omega)] at hq
      have := hb t ht
      simp only at hq
      omega
    unfold lastI
    omega

/-! ### the promises -/
abbrev FxH (K : PySem.W.Frag) (C : CS) : Prop := Fx1 K C.Higher ["number", "stone"]
structure FxH5 (K : PySem.W.Frag) (C : CS) : Prop where
  f : FxH K C
  k : Kits K C.Higher C true false false false false true
def highD (C : CS) (n : Int) (o : Option Int) : Da := .obj C.Higher ["number", "stone"] [.int n, optD o]
def P_raised (ds : List Da) (es : List Da) : Prop := ∃ row, ∃ n : Int, ds = [rowD row, .int n] ∧ row.length ≤ 1000 ∧ es = rowL (ups row n)
def P_Higher_shows (C : CS) (ds : List Da) (d : Da) : Prop := ∃ row, ∃ i : Nat, ∃ n : Int, ∃ o, ds = [highD C n o, rowD row, .int i] ∧ (i < row.length ∧ row.length ≤ 1000) ∧ d = .bl (highB row i n o)
def P_law_higher (ds : List Da) (d : Da) : Prop := ∃ row, ∃ i : Nat, ∃ n : Int, ∃ o, ds = [rowD row, .int i, .int n, optD o] ∧ (i < row.length ∧ row.length ≤ 1000) ∧ d = .bl (highB row i n o)
/-- the answer itself is left open: one that shows what it tells -/
def P_higher (C : CS) (num : List (Int × Int) → Nat → Int × Option Int) (ds : List Da) (d : Da) : Prop := ∃ row, ∃ i : Nat, ds = [rowD row, .int i] ∧ (i < row.length ∧ Okr row) ∧ d = highD C (num row i).1 (num row i).2
def goH (q : Nat → Int × Int) (i : Nat) : Nat → Nat → Int → Int → Option Int → Int × Option Int
  | 0, k, far, num, o => (num, o)
  | m + 1, k, far, num, o => if (q (k + 1)).1 - far > num then goH q i m (k + 1) (mx far ((q (k + 1)).1 + (q (k + 1)).2)) ((q (k + 1)).1 - far) (some ((i : Int) + ((k + 1 : Nat) : Int))) else goH q i m (k + 1) (mx far ((q (k + 1)).1 + (q (k + 1)).2)) num o
def highF (row : List (Int × Int)) (i : Nat) : Int × Option Int := goH (qf row 1 i) i (ah row 1 i) 0 ((qf row 1 i 0).1 + (qf row 1 i 0).2) 0 none
theorem mx_far {far x : Int} : far ≤ mx far x ∧ x ≤ mx far x ∧ (mx far x = far ∨ mx far x = x) := by
  unfold mx
  split <;> omega
theorem goH_gap {row : List (Int × Int)} {i : Nat} (inc : ∀ t u, t < u → u ≤ ah row 1 i → (qf row 1 i t).1 < (qf row 1 i u).1) : ∀ (m k : Nat) (far num : Int) (o : Option Int), k + m = ah row 1 i → Gap row i k far num o → ∃ far', Gap row i (ah row 1 i) far' (goH (qf row 1 i) i m k far num o).1 (goH (qf row 1 i) i m k far num o).2
  | 0, k, far, num, o, e, g => by
    have ek : k = ah row 1 i := by omega
    subst ek
    exact ⟨far, g⟩
  | m + 1, k, far, num, o, e, g => by
    have hf := mx_far (far := far) (x := (qf row 1 i (k + 1)).1 + (qf row 1 i (k + 1)).2)
    have hfar : ∀ t : Nat, t ≤ k + 1 → (qf row 1 i t).1 + (qf row 1 i t).2 ≤ mx far ((qf row 1 i (k + 1)).1 + (qf row 1 i (k + 1)).2) := fun t ht => by
      by_cases z : t = k + 1
      · subst z
        exact hf.2.1
      · have := g.reach t (by omega)
        omega
    have hatt : ∃ t : Nat, t ≤ k + 1 ∧ mx far ((qf row 1 i (k + 1)).1 + (qf row 1 i (k + 1)).2) = (qf row 1 i t).1 + (qf row 1 i t).2 := by
      rcases hf.2.2 with z | z
      · obtain ⟨t, ht, ea⟩ := g.att
        exact ⟨t, by omega, by omega⟩
      · exact ⟨k + 1, Nat.le_refl _, z⟩
    unfold goH
    by_cases h : (qf row 1 i (k + 1)).1 - far > num
    · rw [if_pos h]
      have hp := g.pos
      refine goH_gap inc m (k + 1) _ _ _ (by omega) ⟨hfar, hatt, by omega, fun j hj => ?_, fun z => (by cases z), fun st z => ?_⟩
      · by_cases z : j = k
        · subst z
          obtain ⟨t, ht, ea⟩ := g.att
          exact ⟨t, ht, by omega⟩
        · obtain ⟨t, ht, hq⟩ := g.all j (by omega)
          exact ⟨t, ht, by omega⟩
      · cases z
        refine ⟨by omega, k, by omega, rfl, fun t ht => ?_⟩
        have := g.reach t ht
        omega
    · rw [if_neg h]
      refine goH_gap inc m (k + 1) _ _ _ (by omega) ⟨hfar, hatt, g.pos, fun j hj => ?_, g.non, fun st z => ?_⟩
      · by_cases z : j = k
        · subst z
          obtain ⟨t, ht, ea⟩ := g.att
          exact ⟨t, ht, by omega⟩
        · exact g.all j (by omega)
      · obtain ⟨h0, j, hj, e2, hb⟩ := g.som st z
        exact ⟨h0, j, by omega, e2, hb⟩
abbrev sp_raised (K : PySem.W.Frag) (C : CS) : Sp := FnL K P_raised
abbrev sp_Higher_init (K : PySem.W.Frag) (C : CS) : Sp := InI2 K C.Higher "number" "stone"
abbrev sp_Higher_shows (K : PySem.W.Frag) (C : CS) : Sp := FnP K (P_Higher_shows C)
abbrev sp_law_higher (K : PySem.W.Frag) (C : CS) : Sp := FnP K P_law_higher
abbrev sp_higher (K : PySem.W.Frag) (C : CS) : Sp := FnP K (P_higher C highF)
def t_raised (K : PySem.W.Frag) (C : CS) : TS :=
  (tRet (tLc (iList K (tVar 0)) (gTup K 2 (gCons (gName 2) (gCons (gName 3) gNil))) tYes (tTup (tCons (tVar 2) (tCons (tOp rAddI (tVar 3) (tVar 1)) tNil))) [2, 3]))
def t_Higher_init (K : PySem.W.Frag) (C : CS) : TS :=
  (tSeq (sFld K (tVar 0) (tVar 1) "number") (sFld K (tVar 0) (tVar 2) "stone"))
def t_Higher_shows (K : PySem.W.Frag) (C : CS) : TS :=
  (tSeq (tIfS (tOr (tTest (tOp rLtI (tFld K (tVar 0) "number") (tC (.int 0)))) (tTest (tOp rLtI (tOp (rIxT K) (tCall (sp_last_felled K C) [] E0 (tCons (tCall (sp_raised K C) [] E0 (tCons (tVar 1) (tCons (tFld K (tVar 0) "number") tNil))) (tCons (tVar 2) (tCons (tC (.int 1)) tNil)))) (tC (.int 0))) (tOp rSubI (tCB (rLenS K) (tCons (tVar 1) tNil)) (tC (.int 1)))))) (tRet (tC (.bl false))) tNext) (tSeq (tIfS (tOr (tTest (tOp rEq (tFld K (tVar 0) "number") (tC (.int 0)))) (tTest (tOp rIsN (tFld K (tVar 0) "stone") (tC .non)))) (tRet (tAndV (tOp rEq (tFld K (tVar 0) "number") (tC (.int 0))) (tOp rIsN (tFld K (tVar 0) "stone") (tC .non)))) tNext) (tSeq (tIfS (tNot (tTest (tChain rLtI rLtI (tVar 2) (tFld K (tVar 0) "stone") (tCB (rLenS K) (tCons (tVar 1) tNil))))) (tRet (tC (.bl false))) tNext) (tRet (tOp rLtI (tOp (rIxT K) (tCall (sp_last_felled K C) [] E0 (tCons (tCall (sp_raised K C) [] E0 (tCons (tVar 1) (tCons (tOp rSubI (tFld K (tVar 0) "number") (tC (.int 1))) tNil))) (tCons (tVar 2) (tCons (tC (.int 1)) tNil)))) (tC (.int 0))) (tFld K (tVar 0) "stone"))))))
def t_higher (K : PySem.W.Frag) (C : CS) : TS :=
  (tSeq (tDrop (tCall (sp_check_row K C) [] E0 (tCons (tVar 0) tNil))) (tSeq (tDrop (tCall (sp_check_stone K C) [] E0 (tCons (tVar 0) (tCons (tVar 1) tNil)))) (tSeq (tAsg (tC (.int 0)) (gName 2)) (tSeq (tAsg (tC .non) (gName 3)) (tSeq (tAsg (tOp rAddI (tOp (rIxT K) (tOp (rIxL K) (tVar 0) (tVar 1)) (tC (.int 0))) (tOp (rIxT K) (tOp (rIxL K) (tVar 0) (tVar 1)) (tC (.int 1)))) (gName 4)) (tSeq (tFor (iRng2 (tCons (tOp rAddI (tVar 1) (tC (.int 1))) (tCons (tCB (rLenS K) (tCons (tVar 0) tNil)) tNil))) (gName 5) (tSeq (tIfS (tTest (tOp rGtI (tOp rSubI (tOp (rIxT K) (tOp (rIxL K) (tVar 0) (tVar 5)) (tC (.int 0))) (tVar 4)) (tVar 2))) (tSeq (tAsg (tOp rSubI (tOp (rIxT K) (tOp (rIxL K) (tVar 0) (tVar 5)) (tC (.int 0))) (tVar 4)) (gName 2)) (tAsg (tVar 5) (gName 3))) tNext) (tAsg (tCB rMax2 (tCons (tVar 4) (tCons (tOp rAddI (tOp (rIxT K) (tOp (rIxL K) (tVar 0) (tVar 5)) (tC (.int 0))) (tOp (rIxT K) (tOp (rIxL K) (tVar 0) (tVar 5)) (tC (.int 1)))) tNil))) (gName 4)))) (tRet (tMake C.Higher (sp_Higher_init K C) [] E0 (tCons (tVar 2) (tCons (tVar 3) tNil))))))))))
def t_law_higher (K : PySem.W.Frag) (C : CS) : TS :=
  (tSeq (tAsg (tLc (iList K (tVar 0)) (gTup K 2 (gCons (gName 6) (gCons (gName 7) gNil))) tYes (tTup (tCons (tVar 6) (tCons (tOp rAddI (tVar 7) (tVar 2)) tNil))) [6, 7]) (gName 4)) (tSeq (tIfS (tOr (tTest (tOp rLtI (tVar 2) (tC (.int 0)))) (tTest (tOp rNe (tCall (sp_law_felled K C) [] E0 (tCons (tVar 4) (tCons (tVar 1) (tCons (tC (.int 1)) tNil)))) (tOp rSubI (tCB (rLenS K) (tCons (tVar 0) tNil)) (tC (.int 1)))))) (tRet (tC (.bl false))) tNext) (tSeq (tIfS (tOr (tTest (tOp rEq (tVar 2) (tC (.int 0)))) (tTest (tOp rIsN (tVar 3) (tC .non)))) (tRet (tAndV (tOp rEq (tVar 2) (tC (.int 0))) (tOp rIsN (tVar 3) (tC .non)))) tNext) (tSeq (tIfS (tNot (tTest (tChain rLtI rLtI (tVar 1) (tVar 3) (tCB (rLenS K) (tCons (tVar 0) tNil))))) (tRet (tC (.bl false))) tNext) (tSeq (tAsg (tLc (iList K (tVar 4)) (gTup K 2 (gCons (gName 6) (gCons (gName 7) gNil))) tYes (tTup (tCons (tVar 6) (tCons (tOp rSubI (tVar 7) (tC (.int 1))) tNil))) [6, 7]) (gName 5)) (tRet (tOp rLtI (tCall (sp_law_felled K C) [] E0 (tCons (tVar 5) (tCons (tVar 1) (tCons (tC (.int 1)) tNil)))) (tVar 3))))))))
section
variable {K : PySem.W.Frag} {C : CS} {env : En} {te ta tb : TE} {n : Int} {o : Option Int} {row : List (Int × Int)} {i : Nat}
theorem fxH1 (A : FxH K C) : NoAttr K C.Higher "number" := A.no _ List.mem_cons_self
theorem fxH2 (A : FxH K C) : NoAttr K C.Higher "stone" := A.no _ (List.mem_cons_of_mem _ List.mem_cons_self)
theorem ev_hn (A : FxH K C) (h : EvE K te env (highD C n o)) : EvE K (tFld K te "number") env (.int n) := ev_fld0 h A.isi.cls (fxH1 A)
theorem ev_hs (A : FxH K C) (h : EvE K te env (highD C n o)) : EvE K (tFld K te "stone") env (optD o) := ev_fld1 h A.isi.cls (fxH2 A) (by decide +kernel)
theorem ev_hs' {st : Int} (A : FxH K C) (h : EvE K te env (highD C n (some st))) : EvE K (tFld K te "stone") env (.int st) := ev_hs A h
theorem ev_makH {t : TA} (h : EvA K t env [.int n, optD o]) : EvE K (tMake C.Higher (sp_Higher_init K C) [] E0 t) env (highD C n o) :=
  ev_mak2 h fun x dx v1 v2 H Q E h1 h2 => ⟨x, dx, v1, v2, rfl, h1, h2⟩
theorem ev_showH {t : TA} (h : EvE K te env (highD C n o)) (ha : EvA K t env [rowD row, .int i]) (hi : i < row.length) (hn : row.length ≤ 1000) : EvE K (tMeth C.Higher "shows" (sp_Higher_shows K C) [] E0 te t) env (.bl (highB row i n o)) :=
  ev_meth h (by decide +kernel) ha ⟨row, i, n, o, rfl, ⟨hi, hn⟩, rfl⟩
theorem ev_lawH {t : TA} (ha : EvA K t env [rowD row, .int i, .int n, optD o]) (hi : i < row.length) (hn : row.length ≤ 1000) : EvE K (tCall (sp_law_higher K C) [] E0 t) env (.bl (highB row i n o)) :=
  ev_call ha ⟨row, i, n, o, rfl, ⟨hi, hn⟩, rfl⟩
theorem isNon_opt (o : Option Int) : isNonD (optD o) = o.isNone := by
  cases o <;> rfl
theorem pure_Higher_init (A : FxH K C) {vs : List V} {H : Hp} {Q : VK} {E : XK} (h : sp_Higher_init K C vs H Q E) : t_Higher_init K C { nx := fun _ H' => Q .non H', rt := Q } (start ["self", "number", "stone"] vs) H :=
  in_I2 rfl A.isi.cls (fxH1 A) (fxH2 A) (by decide +kernel) h
theorem len_Higher_init {vs : List V} {H : Hp} {Q : VK} {E : XK} (h : sp_Higher_init K C vs H Q E) : vs.length = 3 := by
  obtain ⟨x, dx, v1, v2, rfl, _⟩ := h
  rfl
theorem run_raised {ds es : List Da} (h : P_raised ds es) : Run K (t_raised K C) (ent ds 2) (retL es) := by
  obtain ⟨row, n, rfl, hn, rfl⟩ := h
  refine run_retN (en_lc (us := [2, 3]) prD (fun _ => true) (fun p => prD (p.1, p.2 + n)) row (wk_list (ev_var rfl)) (by simp) (by omega) fun p hp => ⟨_, tc_tup2 tc_name tc_name, eb_yes, fun _ => ?_⟩) ?_
  · exact ev_tup (ea_cons (ev_var rfl) (ea_cons (ev_add (ev_var rfl) (ev_var rfl)) ea_nil))
  · show _ = rowL (ups row n)
    unfold ups rowL
    rw [List.map_map, List.filter_eq_self.mpr fun _ _ => rfl]
    rfl
theorem ev_lastR (h : EvE K ta env (rowD row)) {m : Int} (hm : EvE K tb env (.int m)) (hs : EvE K te env (.int i)) (hi : i < row.length) (hn : row.length ≤ 1000) :
    EvE K (tOp (rIxT K) (tCall (sp_last_felled K C) [] E0 (tCons (tCall (sp_raised K C) [] E0 (tCons ta (tCons tb tNil))) (tCons te (tCons (tC (.int 1)) tNil)))) (tC (.int 0))) env (.int (lastI (ups row m) 1 i)) :=
  ev_ixT (ev_call (ds := [rowD (ups row m), .int i, .int 1]) (ea_cons (ev_new (en_call (ds := [rowD row, .int m]) (ea_cons h (ea_cons hm ea_nil)) ⟨row, m, rfl, hn, rfl⟩)) (ea_cons hs (ea_cons ev_int ea_nil))) ⟨ups row m, i, 1, rfl, ⟨by rw [ups_len]; exact hi, by rw [ups_len]; exact hn, .inl rfl⟩, rfl⟩) ev_int rfl
theorem run_Higher_shows (A : FxH K C) {ds : List Da} {d : Da} (h : P_Higher_shows C ds d) : Run K (t_Higher_shows K C) (ent ds 0) (retD d) := by
  obtain ⟨row, i, n, o, rfl, ⟨hi, hn⟩, rfl⟩ := h
  refine run_seq (run_if (b := decide (n < 0) || decide (lastI (ups row n) 1 i < row.length - 1)) (eb_or (eb_test ?_) fun _ => eb_test ?_) (fun hb => ?_) fun hb => run_next ?_)
  · exact ev_lt (ev_hn A (ev_var rfl)) ev_int
  · exact ev_lt (ev_lastR (ev_var rfl) (ev_hn A (ev_var rfl)) (ev_var rfl) hi hn) (ev_sub (ev_lenR (ev_var rfl)) ev_int)
  · refine run_ret ev_bl ?_
    show Da.bl _ = Da.bl _
    unfold highB
    rw [if_pos hb]
  have e1 : highB row i n o = match o with
    | none => decide (n = 0)
    | some st => if n = 0 then false else if i < st ∧ st < row.length then decide (lastI (ups row (n - 1)) 1 i < st) else false := by
    unfold highB
    rw [if_neg (by rw [hb]; exact Bool.false_ne_true)]
  refine run_seq (run_if (b := decide (n = 0) || isNonD (optD o)) (eb_or (eb_test (ev_eqI (ev_hn A (ev_var rfl)) ev_int)) fun _ => eb_test (ev_isN (ev_hs A (ev_var rfl)))) (fun hb2 => ?_) fun hb2 => run_next ?_)
  · refine run_ret (ev_andV (ev_eqI (ev_hn A (ev_var rfl)) ev_int) fun _ => ev_isN (ev_hs A (ev_var rfl))) ?_
    show Da.bl _ = Da.bl _
    rw [e1]
    rw [isNon_opt] at hb2 ⊢
    cases o with
    | none => simp
    | some st =>
      have h0 : n = 0 := by simpa using hb2
      simp [h0]
  · rw [isNon_opt] at hb2
    obtain ⟨h0, ho⟩ : n ≠ 0 ∧ o.isNone = false := by simpa using hb2
    cases o with
    | none => cases ho
    | some st =>
      refine run_seq (run_if (b := !(decide ((i : Int) < st) && decide (st < (row.length : Int)))) (eb_not (eb_test (ev_chainI rfl rfl (ev_var rfl) (ev_hs' A (ev_var rfl)) fun _ => ev_lenR (ev_var rfl)))) (fun hb3 => ?_) fun hb3 => run_next ?_)
      · refine run_ret ev_bl ?_
        show Da.bl _ = Da.bl _
        rw [e1]
        have : ¬ ((i : Int) < st ∧ st < row.length) := by
          intro z
          rw [decide_eq_true z.1, decide_eq_true z.2] at hb3
          cases hb3
        simp only [if_neg h0, if_neg this]
      · have : (i : Int) < st ∧ st < row.length := by simpa using hb3
        refine run_ret (ev_lt (ev_lastR (m := n - 1) (ev_var rfl) (ev_sub (ev_hn A (ev_var rfl)) ev_int) (ev_var rfl) hi hn) (ev_hs' A (ev_var rfl))) ?_
        show Da.bl _ = Da.bl _
        rw [e1]
        simp only [if_neg h0, if_pos this]
theorem run_law_higher {ds : List Da} {d : Da} (h : P_law_higher ds d) : Run K (t_law_higher K C) (ent ds 4) (retD d) := by
  obtain ⟨row, i, n, o, rfl, ⟨hi, hn⟩, rfl⟩ := h
  have hl : ∀ m, i < (ups row m).length ∧ (ups row m).length ≤ 1000 := fun m => by
    rw [ups_len]
    exact ⟨hi, hn⟩
  have hin := lastI_in (row := ups row n) (s := 1) (i := i) (hl n).1 (.inl rfl)
  rw [ups_len] at hin
  refine run_seq (run_asgN (ds := rowL (ups row n)) ?_ (run_fix (i := 4) rfl ?_))
  · refine (en_lc (us := [6, 7]) prD (fun _ => true) (fun p => prD (p.1, p.2 + n)) row (wk_list (ev_var rfl)) (by simp) (by omega) fun p hp => ⟨_, tc_tup2 tc_name tc_name, eb_yes, fun _ => ev_tup (ea_cons (ev_var rfl) (ea_cons (ev_add (ev_var rfl) (ev_var rfl)) ea_nil))⟩).is ?_
    unfold ups rowL
    rw [List.map_map, List.filter_eq_self.mpr fun _ _ => rfl]
    rfl
  refine run_seq (run_if (b := decide (n < 0) || !decide (lastI (ups row n) 1 i = row.length - 1)) (eb_or (eb_test ?_) fun _ => eb_test ?_) (fun hb => ?_) fun hb => run_next ?_)
  · exact ev_lt (ev_var rfl) ev_int
  · exact ev_neI (ev_call (ds := [rowD (ups row n), .int i, .int 1]) (ea_cons (ev_var rfl) (ea_cons (ev_var rfl) (ea_cons ev_int ea_nil))) ⟨ups row n, i, 1, rfl, ⟨(hl n).1, (hl n).2, .inl rfl⟩, rfl⟩) (ev_sub (ev_lenR (ev_var rfl)) ev_int)
  · refine run_ret ev_bl ?_
    show Da.bl _ = Da.bl _
    unfold highB
    rw [if_pos]
    simp only [Bool.or_eq_true, decide_eq_true_eq, Bool.not_eq_true', decide_eq_false_iff_not] at hb ⊢
    omega
  have hb' : (decide (n < 0) || decide (lastI (ups row n) 1 i < row.length - 1)) = false := by
    simp only [Bool.or_eq_false_iff, decide_eq_false_iff_not, Bool.not_eq_false', decide_eq_true_eq] at hb ⊢
    omega
  have e1 : highB row i n o = match o with
    | none => decide (n = 0)
    | some st => if n = 0 then false else if i < st ∧ st < row.length then decide (lastI (ups row (n - 1)) 1 i < st) else false := by
    unfold highB
    rw [if_neg (by rw [hb']; exact Bool.false_ne_true)]
  refine run_seq (run_if (b := decide (n = 0) || isNonD (optD o)) (eb_or (eb_test (ev_eqI (ev_var rfl) ev_int)) fun _ => eb_test (ev_isN (ev_var rfl))) (fun hb2 => ?_) fun hb2 => run_next ?_)
  · refine run_ret (ev_andV (ev_eqI (ev_var rfl) ev_int) fun _ => ev_isN (ev_var rfl)) ?_
    show Da.bl _ = Da.bl _
    rw [e1]
    rw [isNon_opt] at hb2 ⊢
    cases o with
    | none => simp
    | some st =>
      have h0 : n = 0 := by simpa using hb2
      simp [h0]
  · rw [isNon_opt] at hb2
    obtain ⟨h0, ho⟩ : n ≠ 0 ∧ o.isNone = false := by simpa using hb2
    cases o with
    | none => cases ho
    | some st =>
      refine run_seq (run_if (b := !(decide ((i : Int) < st) && decide (st < (row.length : Int)))) (eb_not (eb_test (ev_chainI rfl rfl (ev_var rfl) (ev_var (d := .int st) rfl) fun _ => ev_lenR (ev_var rfl)))) (fun hb3 => ?_) fun hb3 => run_next ?_)
      · refine run_ret ev_bl ?_
        show Da.bl _ = Da.bl _
        rw [e1]
        have : ¬ ((i : Int) < st ∧ st < row.length) := by
          intro z
          rw [decide_eq_true z.1, decide_eq_true z.2] at hb3
          cases hb3
        simp only [if_neg h0, if_neg this]
      · have : (i : Int) < st ∧ st < row.length := by simpa using hb3
        refine run_seq (run_asgN (ds := rowL (ups row (n - 1))) ?_ (run_fix (i := 5) rfl ?_))
        · refine (en_lc (us := [6, 7]) prD (fun _ => true) (fun p => prD (p.1, p.2 + -1)) (ups row n) (wk_list (ev_var rfl)) (by simp) (by rw [ups_len]; omega) fun p hp => ⟨_, tc_tup2 tc_name tc_name, eb_yes, fun _ => ev_tup (ea_cons (ev_var rfl) (ea_cons ((ev_sub (ev_var rfl) ev_int).is (by congr 1)) ea_nil))⟩).is ?_
          rw [← ups_ups]
          unfold ups rowL
          rw [List.map_map, List.filter_eq_self.mpr fun _ _ => rfl]
          rfl
        · refine run_ret (ev_lt (ev_call (ds := [rowD (ups row (n - 1)), .int i, .int 1]) (ea_cons (ev_var rfl) (ea_cons (ev_var rfl) (ea_cons ev_int ea_nil))) ⟨ups row (n - 1), i, 1, rfl, ⟨(hl (n - 1)).1, (hl (n - 1)).2, .inl rfl⟩, rfl⟩) (ev_var (d := .int st) rfl)) ?_
          show Da.bl _ = Da.bl _
          rw [e1]
          simp only [if_neg h0, if_pos this]
theorem run_higher {ds : List Da} {d : Da} (h : P_higher C highF ds d) : Run K (t_higher K C) (ent ds 4) (retD d) := by
  obtain ⟨row, i, rfl, ⟨hi, ok⟩, rfl⟩ := h
  have hn := ok.few
  refine run_seq (run_drop (d := .non) (ev_call (ds := [rowD row]) (ea_cons (ev_var rfl) ea_nil) ⟨row, rfl, ok, rfl⟩) ?_)
  refine run_seq (run_drop (d := .non) (ev_call (ds := [rowD row, .int i]) (ea_cons (ev_var rfl) (ea_cons (ev_var rfl) ea_nil)) ⟨row, i, rfl, by omega, rfl⟩) ?_)
  refine run_seq (run_asg ev_int ?_)
  refine run_seq (run_asg (d := optD none) ev_non ?_)
  refine run_seq (run_asg (d := .int ((qf row 1 i 0).1 + (qf row 1 i 0).2)) ((ev_add (ev_row0 (i := i) (ev_var rfl) (ev_var rfl) (by omega) (by omega)) (ev_row1 (i := i) (ev_var rfl) (ev_var rfl) (by omega) (by omega))).is (by simp [qf])) ?_)
  refine run_seq (run_for (wk_rng2 (ev_add (ev_var rfl) ev_int) (ev_lenR (ev_var rfl)) (by omega)) (fun k e => ∃ num o far y, e = [.im (rowD row), .im (.int i), .im (.int num), .im (optD o), .im (.int far), y] ∧ goH (qf row 1 i) i (ah row 1 i - k) k far num o = highF row i) ⟨0, none, _, .no, rfl, rfl⟩ ?_ ?_)
  · rintro k d e hd ⟨num, o, far, y, rfl, hg⟩
    have hk : k < ah row 1 i := by
      have := (List.getElem?_eq_some_iff.mp hd).1
      rw [rngD_len] at this
      rw [ah_one']
      omega
    rw [rngD_get (by rw [ah_one'] at hk; omega)] at hd
    obtain rfl : Da.int ((i : Int) + 1 + (k : Nat)) = d := Option.some.inj hd
    have e1 : (i : Int) + 1 + (k : Nat) = i + 1 * ((k + 1 : Nat) : Int) := by omega
    rw [e1]
    have hin := ah_in' (i := i) (k := k + 1) hi (by omega)
    have hm1 : ah row 1 i - k = (ah row 1 i - (k + 1)) + 1 := by omega
    rw [hm1] at hg
    unfold goH at hg
    have q1 : (qf row 1 i (k + 1)).1 = plc row (i + 1 * ((k + 1 : Nat) : Int)) := by simp [qf]
    have q2 : (qf row 1 i (k + 1)).2 = hgt row (i + 1 * ((k + 1 : Nat) : Int)) := rfl
    rw [q1, q2] at hg
    have hmax : ∀ env : En, env[0]? = some (.im (rowD row)) → env[5]? = some (.im (.int (i + 1 * ((k + 1 : Nat) : Int)))) → env[4]? = some (.im (.int far)) → EvE K (tCB rMax2 (tCons (tVar 4) (tCons (tOp rAddI (tOp (rIxT K) (tOp (rIxL K) (tVar 0) (tVar 5)) (tC (.int 0))) (tOp (rIxT K) (tOp (rIxL K) (tVar 0) (tVar 5)) (tC (.int 1)))) tNil))) env (.int (mx far (plc row (i + 1 * ((k + 1 : Nat) : Int)) + hgt row (i + 1 * ((k + 1 : Nat) : Int))))) := fun env z0 z5 z4 =>
      ev_max2 (ev_var z4) (ev_add (ev_row0 (ev_var z0) (ev_var z5) hin.1 hin.2) (ev_row1 (ev_var z0) (ev_var z5) hin.1 hin.2))
    refine ⟨_, ts_name, ?_⟩
    refine run_seq (run_if (b := decide (num < plc row (i + 1 * ((k + 1 : Nat) : Int)) - far)) (eb_test (ev_gt (ev_sub (ev_row0 (ev_var rfl) (ev_var rfl) hin.1 hin.2) (ev_var rfl)) (ev_var rfl))) (fun hb => ?_) fun hb => run_next ?_)
    · have hgt' := of_decide_eq_true hb
      rw [if_pos (by omega)] at hg
      refine run_seq (run_asg (ev_sub (ev_row0 (ev_var rfl) (ev_var rfl) hin.1 hin.2) (ev_var rfl)) ?_)
      refine run_asg (d := optD (some (i + 1 * ((k + 1 : Nat) : Int)))) (ev_var rfl) ?_
      refine run_asg (hmax _ rfl rfl rfl) ⟨_, some (i + 1 * ((k + 1 : Nat) : Int)), _, _, rfl, ?_⟩
      have e2 : (i : Int) + 1 * ((k + 1 : Nat) : Int) = i + ((k + 1 : Nat) : Int) := by omega
      rw [← e2] at hg
      exact hg
    · have hgt' := of_decide_eq_false hb
      rw [if_neg (by omega)] at hg
      exact run_asg (hmax _ rfl rfl rfl) ⟨_, o, _, _, rfl, hg⟩
  · rintro e ⟨num, o, far, y, rfl, hg⟩
    have hl : (rngD ((i : Int) + 1) row.length).length = ah row 1 i := by
      rw [rngD_len, ah_one']
      omega
    rw [hl, Nat.sub_self] at hg
    have hg' : (num, o) = highF row i := hg
    refine run_ret (ev_makH (n := num) (o := o) (ea_cons (ev_var rfl) (ea_cons (ev_var rfl) ea_nil))) ?_
    show highD C num o = _
    rw [← hg']
end
section
variable {K : PySem.W.Frag} {C : CS} {vs : List V} {H : Hp} {Q : VK} {E : XK}
theorem lenP_raised {ds es : List Da} (h : P_raised ds es) : ds.length = 2 := by
  unfold P_raised at h
  repeat (rcases h with ⟨z, h⟩; first | (subst z; rfl) | skip)
theorem len_raised (h : sp_raised K C vs H Q E) : vs.length = 2 := len_L (m := 2) (fun _ _ p => lenP_raised p) h
theorem pure_raised (h : sp_raised K C vs H Q E) : t_raised K C { nx := fun _ H' => Q .non H', rt := Q } (start ["row", "number", "place", "height"] vs) H := fnL_of 2 (fun _ _ p => by rw [lenP_raised p] <;> rfl) (fun _ _ p => run_raised p) h
theorem lenP_Higher_shows {ds : List Da} {d : Da} (h : P_Higher_shows C ds d) : ds.length = 3 := by
  unfold P_Higher_shows at h
  repeat (rcases h with ⟨z, h⟩; first | (subst z; rfl) | skip)
theorem len_Higher_shows (h : sp_Higher_shows K C vs H Q E) : vs.length = 3 := len_P (m := 3) (fun _ _ p => lenP_Higher_shows p) h
theorem pure_Higher_shows (A : FxH K C) (h : sp_Higher_shows K C vs H Q E) : t_Higher_shows K C { nx := fun _ H' => Q .non H', rt := Q } (start ["self", "row", "stone"] vs) H := fnP_of 0 (fun _ _ p => by rw [lenP_Higher_shows p] <;> rfl) (fun _ _ p => run_Higher_shows A p) h
theorem lenP_higher {ds : List Da} {d : Da} (h : P_higher C highF ds d) : ds.length = 2 := by
  unfold P_higher at h
  repeat (rcases h with ⟨z, h⟩; first | (subst z; rfl) | skip)
theorem len_higher (h : sp_higher K C vs H Q E) : vs.length = 2 := len_P (m := 2) (fun _ _ p => lenP_higher p) h
theorem pure_higher (h : sp_higher K C vs H Q E) : t_higher K C { nx := fun _ H' => Q .non H', rt := Q } (start ["row", "stone", "number", "found", "far", "other"] vs) H := fnP_of 4 (fun _ _ p => by rw [lenP_higher p] <;> rfl) (fun _ _ p => run_higher p) h
theorem lenP_law_higher {ds : List Da} {d : Da} (h : P_law_higher ds d) : ds.length = 4 := by
  unfold P_law_higher at h
  repeat (rcases h with ⟨z, h⟩; first | (subst z; rfl) | skip)
theorem len_law_higher (h : sp_law_higher K C vs H Q E) : vs.length = 4 := len_P (m := 4) (fun _ _ p => lenP_law_higher p) h
theorem pure_law_higher (h : sp_law_higher K C vs H Q E) : t_law_higher K C { nx := fun _ H' => Q .non H', rt := Q } (start ["_law_row_here", "_law_stone", "_law_number", "_law_other", "_law_more", "_law_less", "_law_place", "_law_height"] vs) H := fnP_of 4 (fun _ _ p => by rw [lenP_law_higher p] <;> rfl) (fun _ _ p => run_law_higher p) h
end
end FR

/-! Instances of one's own, whose fields are lists that may still grow. -/
namespace FR
open PySem L2 Evl
def EvOb (K : PySem.W.Frag) (te : TE) (env : En) (C : Addr) (ns : List Str) (dss : List (List Da)) : Prop := ∀ σ B, SD K B σ env → ∀ H1, Ex B H1 → ∀ Q : VK,
  (∀ a dx ls B' H2, Gr B H1 B' H2 → (a :: ls).Nodup → (∀ x ∈ a :: ls, H1 x = none ∧ B' x = none) → H2 a = some (.ins C dx (ns.zip (ls.map V.ref))) → ls.length = ns.length → OwL K B' H2 dss ls → Q (.ref a) H2) → te σ H1 Q
/-- what becomes visible: the places of A as they stand -/
def vis (B H : Hp) (A : List Addr) : Hp := fun b => if b ∈ A then H b else B b
section
variable {K : PySem.W.Frag} {B B' H H' H1 H2 : Hp} {env : En} {te tv : TE} {t : TA} {d : Da} {ds es : List Da} {C : Addr} {ns : List Str} {dss : List (List Da)} {E : Ed} {i : Nat} {f f1 f2 : Str}
theorem vis_in {A : List Addr} {b : Addr} (h : b ∈ A) : vis B H A b = H b := if_pos h
theorem vis_out {A : List Addr} {b : Addr} (h : b ∉ A) : vis B H A b = B b := if_neg h
theorem vis_ex {A : List Addr} (h : ∀ x ∈ A, B x = none) : Ex B (vis B H A) := fun a o e => by
  rw [vis_out fun z => by rw [h a z] at e; cases e]
  exact e
theorem vis_le {A : List Addr} (h : Ex B H) : Ex (vis B H A) H := fun a o e => by
  by_cases z : a ∈ A
  · rw [vis_in z] at e
    exact e
  · rw [vis_out z] at e
    exact h a o e
theorem OwL.vis {A : List Addr} (hB : ∀ x ∈ A, B x = none) : ∀ {dss : List (List Da)} {ls : List Addr}, (∀ l ∈ ls, l ∈ A) → OwL K B H dss ls → RpAll K (vis B H A) (dss.map Da.lst) (ls.map V.ref)
  | [], ls, _, h => by
    have e : ls = [] := h
    subst e
    exact .nil
  | ds :: r, ls, hl, h => by
    obtain ⟨l, u, xs, rfl, h2, h3, h4⟩ := h
    rw [List.map_cons, List.map_cons]
    refine .cons ?_ (OwL.vis hB (fun x hx => hl x (List.mem_cons_of_mem _ hx)) h4)
    simp only [Rp]
    exact ⟨l, xs, rfl, by rw [vis_in (hl l List.mem_cons_self)]; exact h2, RpAll.mono (vis_ex hB) _ _ h3⟩
theorem ev_ob (h : EvOb K te env C ns dss) : EvE K te env (.obj C ns (dss.map Da.lst)) := fun σ B s H1 e Q q => h σ B s H1 e Q fun a dx ls B' H2 g nd new ha hl ow => by
  have hB : ∀ x ∈ a :: ls, B' x = none := fun x hx => (new x hx).2
  refine q (.ref a) (FR.vis B' H2 (a :: ls)) H2 ⟨g.b.trans (vis_ex hB), vis_le g.h, g.k, fun b hb => ?_⟩ ?_
  · rw [vis_out fun z => hb (new b z).1]
    exact g.n b hb
  · simp only [Rp]
    exact ⟨a, dx, ls.map V.ref, rfl, by rw [vis_in List.mem_cons_self]; exact ha, by rw [List.length_map]; exact hl, ow.vis hB fun l hl => List.mem_cons_of_mem _ hl⟩
theorem run_asgO (h : EvOb K te (imm env) C ns dss) (q : E.nx (env.set i (.ob C ns dss))) : Run K (tAsg te (gName i)) env E := fun B0 H0 B H σ D Bs eb s k =>
  h σ B s.imm H s.eH _ fun a dx ls B' H' g nd new ha hl ow => k.nx _ B' H' _ (s.new (sl := .ob C ns dss) g (a :: ls) (fun x hx => ⟨(new x hx).1, (new x hx).2, fun z => by
    rcases List.mem_cons.mp hx with e | e
    · rw [e, ha] at z
      cases z
    · have : ∀ {dss : List (List Da)} {ls : List Addr}, OwL K B' H' dss ls → ∀ x ∈ ls, H' x ≠ none := by
        intro dss
        induction dss with
        | nil =>
          intro ls h x hx
          have e : ls = [] := h
          subst e
          cases hx
        | cons ds r ih =>
          intro ls h x hx
          obtain ⟨l, u, xs, rfl, h2, h3, h4⟩ := h
          rcases List.mem_cons.mp hx with e | e
          · rw [e, h2]
            exact fun z => by cases z
          · exact ih h4 x e
      exact this ow x e z⟩) ⟨a, dx, ls, rfl, rfl, nd, ha, hl, ow⟩) (eb.trans g.b) q
theorem run_retO (h : EvOb K te (imm env) C ns dss) (q : E.ro C ns dss) : Run K (tRet te) env E := fun B0 H0 B H σ D Bs eb s k =>
  h σ B s.imm H s.eH _ fun a dx ls B' H' g nd new ha hl ow => k.ro a dx ls B' H' C ns dss ((s.up g).gr) nd (fun x hx => ⟨h0_none s (new x hx).1, (new x hx).2⟩) ha hl ow q
theorem eo_call {P : List Da → Addr → List Str → List (List Da) → Prop} {X : XK} (h : EvA K t env es) (hp : P es C ns dss) : EvOb K (tCall (FnO K P) [] X t) env C ns dss := fun σ B s H1 e Q q =>
  h σ B s H1 e _ fun vs B2 H2 g r => by
    refine ⟨B2, es, C, ns, dss, g.h, by rw [List.append_nil]; exact r, hp, fun a dx ls B' H' g' nd new ha hl ow => q a dx ls B' H' (g.trans g') nd (fun x hx => ⟨fresh_back g.k (new x hx).1, (new x hx).2⟩) ha hl ow⟩
def retO (A : Addr) (ns : List Str) (dss : List (List Da)) : Ed := { nx := fun _ => False, rd := fun _ => False, rl := fun _ => False, ro := fun A' ns' dss' => A' = A ∧ ns' = ns ∧ dss' = dss }
theorem fnO_of {P : List Da → Addr → List Str → List (List Da) → Prop} {u : TS} {N : List Str} (n : Nat) (hn : ∀ ds A ns dss, P ds A ns dss → N.length - ds.length = n) (h : ∀ ds A ns dss, P ds A ns dss → Run K u (ent ds n) (retO A ns dss)) {vs : List V} {H : Hp} {Q : VK} {X : XK} (hp : FnO K P vs H Q X) :
    u { nx := fun _ H' => Q .non H', rt := Q } (start N vs) H := by
  obtain ⟨B, ds, A, ns, dss, e, r, p, q⟩ := hp
  have s := sta_ent (n := n) e r
  have hl : N.length - vs.length = n := by rw [r.len]; exact hn ds A ns dss p
  rw [start_eq, hl]
  refine h ds A ns dss p B H B H _ _ B (Ex.refl _) s ⟨fun σ B' H' env s' _ z => z.elim, fun _ _ _ _ _ _ z => z.elim, fun _ _ _ _ _ _ z => z.elim, fun v B' H' d' g r' z => z.elim, fun l xs B' H' es g h1 h2 h3 h4 z => z.elim, fun a dx ls B' H' A' ns' dss' g nd new ha hl ow z => ?_⟩
  obtain ⟨rfl, rfl, rfl⟩ := z
  exact q a dx ls B' H' g nd new ha hl ow
theorem len_O {P : List Da → Addr → List Str → List (List Da) → Prop} {m : Nat} (hm : ∀ ds A ns dss, P ds A ns dss → ds.length = m) {vs : List V} {H : Hp} {Q : VK} {X : XK} (hp : FnO K P vs H Q X) : vs.length = m := by
  obtain ⟨B, ds, A, ns, dss, e, r, p, q⟩ := hp
  rw [r.len]
  exact hm ds A ns dss p
/-- an __init__ that copies one, two lists -/
def InL1 (K : PySem.W.Frag) (C : Addr) (f1 : Str) : Sp := fun vs H Q _ => ∃ (x dx p : Addr) (xs : List V), vs = [.ref x, .ref p] ∧ H x = some (.ins C dx []) ∧ H p = some (.lst xs) ∧ ∀ l, H l = none → Q .non (upd (upd H l (.lst xs)) x (.ins C dx [(f1, .ref l)]))
def InL2 (K : PySem.W.Frag) (C : Addr) (f1 f2 : Str) : Sp := fun vs H Q _ => ∃ (x dx p p' : Addr) (xs ys : List V), vs = [.ref x, .ref p, .ref p'] ∧ H x = some (.ins C dx []) ∧ H p = some (.lst xs) ∧ H p' = some (.lst ys) ∧
  ∀ l, H l = none → ∀ l', upd (upd H l (.lst xs)) x (.ins C dx [(f1, .ref l)]) l' = none → Q .non (upd (upd (upd (upd H l (.lst xs)) x (.ins C dx [(f1, .ref l)])) l' (.lst ys)) x (.ins C dx [(f1, .ref l), (f2, .ref l')]))
theorem in_L1 {vs : List V} {H : Hp} {Q : VK} {X : XK} {N : List Str} (hN : N.length = 2) (c : Cls K C) (n1 : NoAttr K C f1) (h : InL1 K C f1 vs H Q X) : sFld K (tVar 0) (tCB (rListS K) (tCons (tVar 1) tNil)) f1 { nx := fun _ H' => Q .non H', rt := Q } (start N vs) H := by
  obtain ⟨x, dx, p, xs, rfl, hx, hp, q⟩ := h
  refine ⟨.ref p, by rw [start_eq]; rfl, p, xs, rfl, .inl (sq_of hp), fun l hl => ⟨.ref x, by rw [start_eq]; rfl, x, C, dx, [], rfl, ?_, c, n1, by simp, ?_⟩⟩
  · rw [upd_ne (ne_of_none hx hl)]
    exact hx
  · rw [put_one]
    exact q l hl
theorem in_L2 {vs : List V} {H : Hp} {Q : VK} {X : XK} {N : List Str} (hN : N.length = 3) (c : Cls K C) (n1 : NoAttr K C f1) (n2 : NoAttr K C f2) (hne : f1 ≠ f2) (h : InL2 K C f1 f2 vs H Q X) :
    tSeq (sFld K (tVar 0) (tCB (rListS K) (tCons (tVar 1) tNil)) f1) (sFld K (tVar 0) (tCB (rListS K) (tCons (tVar 2) tNil)) f2) { nx := fun _ H' => Q .non H', rt := Q } (start N vs) H := by
  obtain ⟨x, dx, p, p', xs, ys, rfl, hx, hp, hp', q⟩ := h
  refine ⟨.ref p, by rw [start_eq]; rfl, p, xs, rfl, .inl (sq_of hp), fun l hl => ⟨.ref x, by rw [start_eq]; rfl, x, C, dx, [], rfl, ?_, c, n1, by simp, ?_⟩⟩
  · rw [upd_ne (ne_of_none hx hl)]
    exact hx
  · rw [put_one]
    have hp2 : upd (upd H l (.lst xs)) x (.ins C dx [(f1, .ref l)]) p' = some (.lst ys) := by
      rw [upd_ne (ne_of hp' hx (by intro z; cases z)), upd_ne (ne_of_none hp' hl)]
      exact hp'
    refine ⟨.ref p', by rw [start_eq]; rfl, p', ys, rfl, .inl (sq_of hp2), fun l' hl' => ⟨.ref x, by rw [start_eq]; rfl, x, C, dx, [(f1, .ref l)], rfl, ?_, c, n2, by simp, ?_⟩⟩
    · rw [upd_ne (ne_of_none upd_same hl'), upd_same]
    · rw [put_two hne]
      exact q l hl l' hl'
theorem eo_mak1 {X : XK} (h : EvE K te env (.lst ds)) : EvOb K (tMake C (InL1 K C f1) [] X (tCons te tNil)) env C [f1] [ds] := fun σ B s H1 e Q q =>
  h σ B s H1 e _ fun v B2 H2 g r => by
    simp only [Rp] at r
    obtain ⟨p, xs, rfl, hp, rx⟩ := r
    intro x dx hx hdx hne
    have hpH := g.h _ _ hp
    have npx : p ≠ x := ne_of_none hpH hx
    have npd : p ≠ dx := ne_of_none hpH hdx
    refine ⟨x, dx, p, xs, rfl, upd_same, by rw [upd_ne npx, upd_ne npd]; exact hpH, fun l hl => ⟨rfl, ?_⟩⟩
    have nlx : l ≠ x := fun z => by
      rw [z, upd_same] at hl
      cases hl
    rw [upd_ne nlx] at hl
    have nld : l ≠ dx := fun z => by
      rw [z, upd_same] at hl
      cases hl
    rw [upd_ne nld] at hl
    have k2 : Ex H2 (upd (upd (upd (upd H2 dx (.own x)) x (.ins C dx [])) l (.lst xs)) x (.ins C dx [(f1, .ref l)])) := (((Ex.refl H2).mut hdx).mut hx).mut hl |>.mut hx
    refine q x dx [l] B2 _ (g.trans (Gr.keep g.h k2)) (by simp; exact fun z => nlx z.symm) (fun z hz => ?_) upd_same rfl ⟨l, [], xs, rfl, by rw [upd_ne nlx, upd_same], rx, rfl⟩
    rcases List.mem_cons.mp hz with w | w
    · rw [w]
      exact ⟨fresh_back g.k hx, fresh_back g.h hx⟩
    · rw [List.mem_singleton.mp w]
      exact ⟨fresh_back g.k hl, fresh_back g.h hl⟩
theorem eo_mak2 {X : XK} (h : EvE K te env (.lst ds)) (h' : EvE K tv env (.lst es)) : EvOb K (tMake C (InL2 K C f1 f2) [] X (tCons te (tCons tv tNil))) env C [f1, f2] [ds, es] := fun σ B s H1 e Q q =>
  h σ B s H1 e _ fun v B1 H1' g1 r => h' σ B1 (s.mono g1.b) H1' g1.h _ fun v' B2 H2 g2 r' => by
    have g := g1.trans g2
    have r := r.mono g2.b
    simp only [Rp] at r r'
    obtain ⟨p, xs, rfl, hp, rx⟩ := r
    obtain ⟨p', ys, rfl, hp', ry⟩ := r'
    intro x dx hx hdx hne
    have hpH := g.h _ _ hp
    have hpH' := g.h _ _ hp'
    refine ⟨x, dx, p, p', xs, ys, rfl, upd_same, by rw [upd_ne (ne_of_none hpH hx), upd_ne (ne_of_none hpH hdx)]; exact hpH, by rw [upd_ne (ne_of_none hpH' hx), upd_ne (ne_of_none hpH' hdx)]; exact hpH', fun l hl l' hl' => ⟨rfl, ?_⟩⟩
    have nlx : l ≠ x := fun z => by
      rw [z, upd_same] at hl
      cases hl
    rw [upd_ne nlx] at hl
    have nld : l ≠ dx := fun z => by
      rw [z, upd_same] at hl
      cases hl
    rw [upd_ne nld] at hl
    have nlx' : l' ≠ x := fun z => by
      rw [z, upd_same] at hl'
      cases hl'
    rw [upd_ne nlx'] at hl'
    have nll : l' ≠ l := fun z => by
      rw [z, upd_same] at hl'
      cases hl'
    rw [upd_ne nll, upd_ne nlx'] at hl'
    have nld' : l' ≠ dx := fun z => by
      rw [z, upd_same] at hl'
      cases hl'
    rw [upd_ne nld'] at hl'
    have k2 : Ex H2 (upd (upd (upd (upd (upd (upd H2 dx (.own x)) x (.ins C dx [])) l (.lst xs)) x (.ins C dx [(f1, .ref l)])) l' (.lst ys)) x (.ins C dx [(f1, .ref l), (f2, .ref l')])) := ((((((Ex.refl H2).mut hdx).mut hx).mut hl).mut hx).mut hl').mut hx
    refine q x dx [l, l'] B2 _ (g.trans (Gr.keep g.h k2)) ?_ (fun z hz => ?_) upd_same rfl ⟨l, [l'], xs, rfl, by rw [upd_ne nlx, upd_ne (Ne.symm nll), upd_ne nlx, upd_same], rx, l', [], ys, rfl, by rw [upd_ne nlx', upd_same], ry, rfl⟩
    · simp only [List.nodup_cons, List.mem_cons, List.not_mem_nil, or_false, not_or, not_false_eq_true, and_true, List.nodup_nil]
      exact ⟨⟨Ne.symm nlx, Ne.symm nlx'⟩, Ne.symm nll⟩
    · have : z = x ∨ z = l ∨ z = l' := by simpa using hz
      rcases this with w | w | w <;> rw [w]
      · exact ⟨fresh_back g.k hx, fresh_back g.h hx⟩
      · exact ⟨fresh_back g.k hl, fresh_back g.h hl⟩
      · exact ⟨fresh_back g.k hl', fresh_back g.h hl'⟩
/-- the k-th list of an instance -/
theorem OwL.get : ∀ {dss : List (List Da)} {ls : List Addr} {k : Nat} {ds : List Da}, OwL K B H dss ls → dss[k]? = some ds → ∃ l xs, ls[k]? = some l ∧ H l = some (.lst xs) ∧ RpAll K B ds xs
  | [], ls, k, ds, h, e => by simp at e
  | x :: r, ls, 0, ds, h, e => by
    obtain ⟨l, u, xs, rfl, h2, h3, h4⟩ := h
    cases e
    exact ⟨l, xs, rfl, h2, h3⟩
  | x :: r, ls, k + 1, ds, h, e => by
    obtain ⟨l, u, xs, rfl, h2, h3, h4⟩ := h
    have e' : r[k]? = some ds := by simpa using e
    obtain ⟨l', ys, g1, g2, g3⟩ := OwL.get h4 e'
    exact ⟨l', ys, by simpa using g1, g2, g3⟩
theorem OwL.wr : ∀ {dss : List (List Da)} {ls : List Addr} {k : Nat} {l : Addr} {xs : List V} {ds : List Da}, ls.Nodup → OwL K B H dss ls → ls[k]? = some l → RpAll K B ds xs → OwL K B (upd H l (.lst xs)) (dss.set k ds) ls
  | [], ls, k, l, xs, ds, nd, h, e, r => by
    have e2 : ls = [] := h
    subst e2
    simp at e
  | y :: q, ls, 0, l, xs, ds, nd, h, e, r => by
    obtain ⟨l', u, ys, rfl, h2, h3, h4⟩ := h
    have e2 : l' = l := by simpa using e
    subst e2
    obtain ⟨n1, n2⟩ := List.nodup_cons.mp nd
    exact ⟨l', u, xs, rfl, upd_same, r, h4.same fun a ha => upd_ne fun z => n1 (by rw [← z]; exact ha)⟩
  | y :: q, ls, k + 1, l, xs, ds, nd, h, e, r => by
    obtain ⟨l', u, ys, rfl, h2, h3, h4⟩ := h
    obtain ⟨n1, n2⟩ := List.nodup_cons.mp nd
    have e' : u[k]? = some l := by simpa using e
    exact ⟨l', u, ys, rfl, by rw [upd_ne (show l' ≠ l from fun z => n1 (by rw [z]; exact List.mem_of_getElem? e'))]; exact h2, h3, OwL.wr n2 h4 e' r⟩
/-- where a field's list lies: the k-th name -/
def Fat (ns : List Str) (f : Str) (k : Nat) : Prop := ∀ ls : List Addr, ls.length = ns.length → ∀ l, ls[k]? = some l → (ns.zip (ls.map V.ref)).lookup f = some (.ref l)
theorem fat0 {ns : List Str} : Fat (f :: ns) f 0 := fun ls hl l h => by
  cases ls with
  | nil => cases h
  | cons a r =>
    cases h
    exact lk_hd (by simp)
theorem fat1 {ns : List Str} (hne : (f == f1) = false) : Fat (f1 :: f :: ns) f 1 := fun ls hl l h => by
  match ls, hl, h with
  | [], hl, h => simp at h
  | [a], hl, h => simp at h
  | a :: b :: r, hl, h =>
    have e : b = l := by simpa using h
    subst e
    show List.lookup f ((f1, V.ref a) :: (f, V.ref b) :: _) = _
    rw [List.lookup_cons, hne]
    show List.lookup f ((f, V.ref b) :: _) = _
    rw [List.lookup_cons]
    simp
/-- o.f.append(e), o one's own -/
theorem run_appO {k : Nat} (hx : env[i]? = some (.ob C ns dss)) (c : Cls K C) (na : NoAttr K C f) (hf : Fat ns f k) (hk : dss[k]? = some ds) (h : EvE K te (imm env) d) (hz : ds.length < 100000) (q : E.nx (env.set i (.ob C ns (dss.set k (ds ++ [d]))))) :
    Run K (tDrop (tBM K "list" rAppend (tFld K (tVar i) f) (tCons te tNil))) env E := fun B0 H0 B H σ D Bs eb s kk => by
  obtain ⟨ad, a1, a2, a3⟩ := s.own
  obtain ⟨a, dx, ls, h1, h2, nd, h4, h5, h6⟩ := a3 i _ hx
  obtain ⟨l, xs, hl, hlst, rx⟩ := h6.get hk
  refine ⟨_, h1, a, C, dx, _, .ref l, rfl, h4, c, na, hf ls h5 l hl, .inl ⟨rfl, xs, sq_of hlst⟩, h σ B s.imm H s.eH _ fun v B' H' g r => ?_⟩
  have s' := s.up g
  have hA : ∀ i x, x ∈ ad i → H0 x = none ∧ B' x = none ∧ H' x ≠ none := fun i x hx => by
    obtain ⟨z1, z2, z3⟩ := a2 i x hx
    exact ⟨z1, by rw [g.n x z3, z2], ex_nn g.k z3⟩
  rw [h2] at nd
  obtain ⟨n1, n2⟩ := List.nodup_cons.mp nd
  have hla : l ∈ ls := List.mem_of_getElem? hl
  have nla : a ≠ l := fun z => n1 (z ▸ hla)
  refine ⟨l, xs, v, rfl, rfl, g.k _ _ hlst, sz_lt (by rw [rx.len]; exact hz), kk.nx σ B' _ _ (s'.wr (i := i) (sl := .ob C ns (dss.set k (ds ++ [d]))) (H' := upd H' l (.lst (xs ++ [v]))) a1 hA (fun j t ht => (a3 j t ht).up g.b g.k) (fun b hb => upd_ne fun z => hb (by rw [h2, z]; exact List.mem_cons_of_mem _ hla)) (fun b hb => ?_)
    ⟨a, dx, ls, h1, h2, by rw [h2]; exact nd, by rw [upd_ne nla]; exact g.k _ _ h4, h5, OwL.wr n2 (h6.up g.b g.k) hl ((RpAll.mono g.b _ _ rx).app (.cons r .nil))⟩) (eb.trans g.b) q⟩
  by_cases z : b = l
  · rw [z, upd_same]
    exact fun z => by cases z
  · rw [upd_ne z]
    exact (hA i b hb).2.2
/-- o.f.pop() -/
theorem run_popO {k : Nat} (hx : env[i]? = some (.ob C ns dss)) (c : Cls K C) (na : NoAttr K C f) (hf : Fat ns f k) (hk : dss[k]? = some ds) (hz : ds ≠ []) (q : E.nx (env.set i (.ob C ns (dss.set k ds.dropLast)))) :
    Run K (tDrop (tBM0 K "list" rPop (tFld K (tVar i) f))) env E := fun B0 H0 B H σ D Bs eb s kk => by
  obtain ⟨ad, a1, a2, a3⟩ := s.own
  obtain ⟨a, dx, ls, h1, h2, nd, h4, h5, h6⟩ := a3 i _ hx
  obtain ⟨l, xs, hl, hlst, rx⟩ := h6.get hk
  rw [h2] at nd
  obtain ⟨n1, n2⟩ := List.nodup_cons.mp nd
  have hla : l ∈ ls := List.mem_of_getElem? hl
  have nla : a ≠ l := fun z => n1 (z ▸ hla)
  have hlen : xs.length - 1 < xs.length := by
    have := List.length_pos_iff.mpr hz
    rw [rx.len]
    omega
  refine ⟨_, h1, a, C, dx, _, .ref l, rfl, h4, c, na, hf ls h5 l hl, .inl ⟨rfl, xs, sq_of hlst⟩, l, xs, _, rfl, rfl, hlst, List.getElem?_eq_getElem hlen, ?_⟩
  refine kk.nx σ B _ _ (s.wr (i := i) (sl := .ob C ns (dss.set k ds.dropLast)) (H' := upd H l (.lst xs.dropLast)) a1 a2 a3 (fun b hb => upd_ne fun z => hb (by rw [h2, z]; exact List.mem_cons_of_mem _ hla)) (fun b hb => ?_) ⟨a, dx, ls, h1, h2, by rw [h2]; exact nd, by rw [upd_ne nla]; exact h4, h5, OwL.wr n2 h6 hl rx.dropLast⟩) eb q
  by_cases z : b = l
  · rw [z, upd_same]
    exact fun z => by cases z
  · rw [upd_ne z]
    exact (a2 i b hb).2.2
/-- xs[j] = e, xs one's own -/
theorem run_setL {ti : TE} {j : Nat} (hx : env[i]? = some (.mu ds)) (h : EvE K te (imm env) d) (hs : isSc d = true) (hi : EvE K ti (frz env) (.int (j : Nat))) (hj : j < ds.length) (q : E.nx (env.set i (.mu (ds.set j d)))) : Run K (tAsg te (gSub (tVar i) ti rSetL)) env E := fun B0 H0 B H σ D Bs eb s kk => by
  refine h σ B s.imm H s.eH _ fun v B' H' g r => ?_
  have s' := s.grow g.k
  obtain ⟨ad, a1, a2, a3⟩ := s'.own
  obtain ⟨l, xs, h1, h2, h3, h4⟩ := a3 i _ hx
  refine ⟨_, h1, hi σ H' s'.frz H' (Ex.refl _) _ fun w B3 H3 g3 r3 => ?_⟩
  simp only [Rp] at r3
  subst r3
  have s3 := s'.grow g3.k
  refine ⟨l, xs, ((j : Nat) : Int), j, rfl, rfl, g3.k _ _ h3, Evl.ixN_nat (by rw [h4.len]; exact hj), kk.nx σ B _ _ (s3.wr (i := i) (sl := .mu (ds.set j d)) (H' := upd H3 l (.lst (xs.set j v))) a1 (fun p x hx => ?_) (fun p t ht => (a3 p t ht).up (Ex.refl _) g3.k) (fun a ha => upd_ne fun e => ha (by rw [h2, e]; exact List.mem_cons_self)) (fun a ha => ?_) ⟨l, _, h1, h2, upd_same, h4.set j (r.sc hs)⟩) eb q⟩
  · obtain ⟨z1, z2, z3⟩ := a2 p x hx
    exact ⟨z1, z2, ex_nn g3.k z3⟩
  · rw [h2, List.mem_singleton] at ha
    subst ha
    rw [upd_same]
    exact fun z => by cases z
end
end FR

/-! Chains and places beyond which nothing reaches. -/
namespace FR
open PySem L2 Evl

/-! ### the mathematics -/
def linkB (row : List (Int × Int)) (s a b : Int) : Bool := decide (0 < s * (plc row b - plc row a)) && decide (s * (plc row b - plc row a) ≤ hgt row a)
def linksB (row : List (Int × Int)) (s : Int) : List Int → Bool
  | a :: b :: r => linkB row s a b && linksB row s (b :: r)
  | _ => true
def inB (row : List (Int × Int)) (zs : List Int) : Bool := zs.all fun o => decide (0 ≤ o) && decide (o < row.length)
/-- stones that lead from one to another -/
def chainB (row : List (Int × Int)) (p s st : Int) (zs : List Int) : Bool :=
  if zs = [] then false else if zs.headD 0 ≠ p ∨ zs.getLastD 0 ≠ st then false else if inB row zs = true then linksB row s zs else false
def standsB (row : List (Int × Int)) (p s st far : Int) : Bool :=
  !(decide (s * plc row p > s * far) || (decide (s * plc row p ≤ s * plc row st) && decide (s * plc row st ≤ s * far))) &&
    !(row.any fun q => decide (s * plc row p ≤ s * q.1) && (decide (s * q.1 ≤ s * far) && decide (s * far < s * q.1 + q.2)))
theorem linksB_snoc (row : List (Int × Int)) (s a b : Int) : ∀ zs : List Int, linksB row s (zs ++ [a, b]) = (linksB row s (zs ++ [a]) && linkB row s a b)
  | [] => by simp [linksB]
  | [z] => by simp [linksB, Bool.and_assoc]
  | z :: y :: r => by
    have ih := linksB_snoc row s a b (y :: r)
    show (linkB row s z y && linksB row s (y :: r ++ [a, b])) = (linkB row s z y && linksB row s (y :: r ++ [a]) && linkB row s a b)
    rw [ih, Bool.and_assoc]
theorem drop_cons {α : Type} {zs : List α} {k : Nat} {a : α} (h : zs[k]? = some a) : zs.drop k = a :: zs.drop (k + 1) := by
  obtain ⟨hl, e⟩ := List.getElem?_eq_some_iff.mp h
  rw [List.drop_eq_getElem_cons hl, e]
theorem links_step {row : List (Int × Int)} {s : Int} {zs : List Int} {k : Nat} {a b : Int} (ha : zs[k]? = some a) (hb : zs[k + 1]? = some b) : linksB row s (zs.drop k) = (linkB row s a b && linksB row s (zs.drop (k + 1))) := by
  rw [drop_cons ha, drop_cons hb]
  rfl
theorem links_end {row : List (Int × Int)} {s : Int} {zs : List Int} {k : Nat} (h : zs.length ≤ k + 1) : linksB row s (zs.drop k) = true := by
  cases e : zs.drop k with
  | nil => rfl
  | cons a r =>
    cases r with
    | nil => rfl
    | cons b r =>
      have := congrArg List.length e
      rw [List.length_drop, List.length_cons, List.length_cons] at this
      omega
/-- the farthest reaching one of the first -/
def rch (q : Nat → Int × Int) (k : Nat) : Int := (q k).1 + (q k).2
def bestI (q : Nat → Int × Int) : Nat → Nat
  | 0 => 0
  | k + 1 => if rch q (k + 1) > rch q (bestI q k) then k + 1 else bestI q k
theorem bestI_le (q : Nat → Int × Int) : ∀ k, bestI q k ≤ k
  | 0 => Nat.le_refl _
  | k + 1 => by
    unfold bestI
    have := bestI_le q k
    split <;> omega
theorem bestI_max (q : Nat → Int × Int) : ∀ k t, t ≤ k → rch q t ≤ rch q (bestI q k)
  | 0, t, h => by
    have : t = 0 := by omega
    subst this
    exact Int.le_refl _
  | k + 1, t, h => by
    unfold bestI
    by_cases e : t = k + 1
    · subst e
      split <;> omega
    · have := bestI_max q k t (by omega)
      split <;> omega
def chS (q : Nat → Int × Int) : Nat → Nat → List Nat
  | _, 0 => [0]
  | 0, m + 1 => [m + 1]
  | f + 1, m + 1 => (m + 1) :: chS q f (bestI q m)
def ix (i : Nat) (s : Int) (k : Nat) : Int := (i : Int) + s * (k : Nat)
/-- the chain from the pushed stone to the one m steps on -/
def chL (row : List (Int × Int)) (s : Int) (i m : Nat) : List Int := ((chS (qf row s i) m m).map (ix i s)).reverse
theorem ix_inj {i : Nat} {s : Int} (hs : Sd s) {a b : Nat} (h : ix i s a = ix i s b) : a = b := by
  unfold ix at h
  rcases hs with rfl | rfl <;> omega
theorem chS_ne (q : Nat → Int × Int) : ∀ f m, ∃ r, chS q f m = m :: r
  | 0, 0 => ⟨[], rfl⟩
  | 0, m + 1 => ⟨[], rfl⟩
  | f + 1, 0 => ⟨[], rfl⟩
  | f + 1, m + 1 => ⟨_, rfl⟩
theorem chS_last (q : Nat → Int × Int) : ∀ f m, m ≤ f → (chS q f m).getLastD 7 = 0
  | f, 0, h => by cases f <;> rfl
  | 0, m + 1, h => by omega
  | f + 1, m + 1, h => by
    have hb := bestI_le q m
    have ih := chS_last q f (bestI q m) (by omega)
    obtain ⟨r, e⟩ := chS_ne q f (bestI q m)
    show ((m + 1) :: chS q f (bestI q m)).getLastD 7 = 0
    rw [e] at ih ⊢
    simpa using ih
theorem chS_le (q : Nat → Int × Int) : ∀ f m, ∀ k ∈ chS q f m, k ≤ m
  | f, 0, k, h => by
    have : chS q f 0 = [0] := by cases f <;> rfl
    rw [this, List.mem_singleton] at h
    omega
  | 0, m + 1, k, h => by
    have h' : k ∈ [m + 1] := h
    rw [List.mem_singleton] at h'
    omega
  | f + 1, m + 1, k, h => by
    have h' : k ∈ (m + 1) :: chS q f (bestI q m) := h
    have hb := bestI_le q m
    rcases List.mem_cons.mp h' with z | z
    · omega
    · have := chS_le q f (bestI q m) k z
      omega
theorem qf_lt' {row : List (Int × Int)} {s : Int} {i t u : Nat} (ok : Okr row) (hi : i < row.length) (hs : Sd s) (h : t < u) (hu : u ≤ ah row s i) : (qf row s i t).1 < (qf row s i u).1 := by
  have h1 := (ah_in (k := t) hi hs).mp (by omega)
  have h2 := (ah_in (k := u) hi hs).mp hu
  unfold qf
  rcases hs with rfl | rfl
  · have := ok.inc (i + t) (i + u) (by omega) (by omega)
    have e1 : (i : Int) + 1 * (t : Nat) = ((i + t : Nat) : Int) := by omega
    have e2 : (i : Int) + 1 * (u : Nat) = ((i + u : Nat) : Int) := by omega
    show 1 * plc row (i + 1 * (t : Nat)) < 1 * plc row (i + 1 * (u : Nat))
    rw [e1, e2]
    omega
  · have := ok.inc (i - u) (i - t) (by omega) (by omega)
    have e1 : (i : Int) + -1 * (t : Nat) = ((i - t : Nat) : Int) := by omega
    have e2 : (i : Int) + -1 * (u : Nat) = ((i - u : Nat) : Int) := by omega
    show -1 * plc row (i + -1 * (t : Nat)) < -1 * plc row (i + -1 * (u : Nat))
    rw [e1, e2]
    omega
theorem chS_links {row : List (Int × Int)} {s : Int} {i : Nat} (ok : Okr row) (hi : i < row.length) (hs : Sd s) : ∀ f m, m ≤ f → m ≤ (fell row s i).1 → linksB row s (((chS (qf row s i) f m).map (ix i s)).reverse) = true
  | f, 0, h1, h2 => by
    have : chS (qf row s i) f 0 = [0] := by cases f <;> rfl
    rw [this]
    rfl
  | 0, m + 1, h1, h2 => by omega
  | f + 1, m + 1, h1, h2 => by
    have c := fell_chn row s i
    have hb := bestI_le (qf row s i) m
    have ih := chS_links ok hi hs f (bestI (qf row s i) m) (by omega) (by omega)
    obtain ⟨r, e⟩ := chS_ne (qf row s i) f (bestI (qf row s i) m)
    show linksB row s ((((m + 1) :: chS (qf row s i) f (bestI (qf row s i) m)).map (ix i s)).reverse) = true
    rw [e] at ih ⊢
    rw [List.map_cons, List.reverse_cons] at ih
    rw [List.map_cons, List.map_cons, List.reverse_cons, List.reverse_cons, List.append_assoc]
    show linksB row s ((r.map (ix i s)).reverse ++ [ix i s (bestI (qf row s i) m), ix i s (m + 1)]) = true
    rw [linksB_snoc, ih, Bool.true_and]
    obtain ⟨t, ht, hq⟩ := c.by_ m (by omega)
    have h3 := bestI_max (qf row s i) m t ht
    have h4 : (qf row s i (bestI (qf row s i) m)).1 < (qf row s i (m + 1)).1 := qf_lt' ok hi hs (by omega) (by have := c.le; omega)
    unfold rch at h3
    unfold linkB ix
    have e1 : (qf row s i (m + 1)).1 = s * plc row (i + s * ((m + 1 : Nat) : Int)) := rfl
    have e2 : (qf row s i (bestI (qf row s i) m)).1 = s * plc row (i + s * ((bestI (qf row s i) m : Nat) : Int)) := rfl
    have e3 : (qf row s i (bestI (qf row s i) m)).2 = hgt row (i + s * ((bestI (qf row s i) m : Nat) : Int)) := rfl
    rw [Bool.and_eq_true, decide_eq_true_eq, decide_eq_true_eq]
    rcases hs with rfl | rfl <;> constructor <;> omega
theorem chL_ok {row : List (Int × Int)} {s : Int} {i m : Nat} (ok : Okr row) (hi : i < row.length) (hs : Sd s) (hm : m ≤ (fell row s i).1) : chainB row i s (ix i s m) (chL row s i m) = true := by
  obtain ⟨r, e⟩ := chS_ne (qf row s i) m m
  have hlast := chS_last (qf row s i) m m (Nat.le_refl _)
  have c := fell_chn row s i
  unfold chainB
  have hne : chL row s i m ≠ [] := by
    unfold chL
    rw [e]
    simp
  rw [if_neg hne]
  have h1 : (chL row s i m).headD 0 = i := by
    unfold chL
    rw [List.headD_eq_head?_getD, List.head?_reverse, List.getLast?_map]
    have : (chS (qf row s i) m m).getLast? = some 0 := by
      rw [List.getLastD_eq_getLast?] at hlast
      cases h : (chS (qf row s i) m m).getLast? with
      | none =>
        rw [h] at hlast
        cases hlast
      | some x =>
        rw [h] at hlast
        have : x = 0 := hlast
        rw [this]
    rw [this]
    show ix i s 0 = i
    unfold ix
    simp
  have h2 : (chL row s i m).getLastD 0 = ix i s m := by
    unfold chL
    rw [List.getLastD_eq_getLast?, List.getLast?_reverse, e]
    rfl
  rw [if_neg (by rw [h1, h2]; simp)]
  have h3 : inB row (chL row s i m) = true := by
    unfold inB
    rw [List.all_eq_true]
    intro o ho
    unfold chL at ho
    rw [List.mem_reverse, List.mem_map] at ho
    obtain ⟨k, hk, rfl⟩ := ho
    have hk' := chS_le (qf row s i) m m k hk
    have := (ah_in (k := k) hi hs).mp (by have := c.le; omega)
    unfold ix
    rw [decide_eq_true this.1, decide_eq_true this.2]
    rfl
  rw [if_pos h3]
  exact chS_links ok hi hs m m (Nat.le_refl _) hm
/-- what the felled ones reach is such a place -/
theorem stands_ok {row : List (Int × Int)} {s : Int} {i : Nat} {st : Int} (ok : Okr row) (hi : i < row.length) (hs : Sd s) (h0 : 0 ≤ st) (h1 : st < row.length) (hno : ¬ (mn i (lastI row s i) ≤ st ∧ st ≤ mx i (lastI row s i))) : standsB row i s st (s * farI row s i) = true := by
  have c := fell_chn row s i
  have hss : s * (s * farI row s i) = farI row s i := by rcases hs with rfl | rfl <;> omega
  have hF : farI row s i = (fell row s i).2 := rfl
  -- a stone at or beyond the pushed one to that side, no farther than the place, falls
  have key : ∀ j : Nat, j < row.length → s * plc row i ≤ s * plc row j → s * plc row j ≤ farI row s i → ∃ k : Nat, k ≤ (fell row s i).1 ∧ (j : Int) = i + s * (k : Nat) := by
    intro j hj h2 h3
    have hk : ∃ k : Nat, k ≤ ah row s i ∧ (j : Int) = i + s * (k : Nat) := by
      rcases hs with rfl | rfl
      · have : i ≤ j := by
          apply Decidable.byContradiction
          intro z
          have := ok.inc j i (by omega) (by omega)
          omega
        exact ⟨j - i, by rw [ah_one]; omega, by omega⟩
      · have : j ≤ i := by
          apply Decidable.byContradiction
          intro z
          have := ok.inc i j (by omega) (by omega)
          omega
        exact ⟨i - j, by rw [ah_neg]; omega, by omega⟩
    obtain ⟨k, hk, e⟩ := hk
    refine ⟨k, ?_, e⟩
    apply Decidable.byContradiction
    intro z
    obtain ⟨t, ht, ef⟩ := c.att
    have h4 := c.stop (by omega) t ht
    have h5 : (qf row s i ((fell row s i).1 + 1)).1 ≤ (qf row s i k).1 := by
      by_cases w : (fell row s i).1 + 1 = k
      · rw [w]
        exact Int.le_refl _
      · exact Int.le_of_lt (qf_lt' ok hi hs (by omega) hk)
    have h6 : (qf row s i k).1 = s * plc row (j : Int) := by
      rw [e]
      rfl
    omega
  unfold standsB
  rw [Bool.and_eq_true]
  refine ⟨?_, ?_⟩
  · rw [Bool.not_eq_true', Bool.or_eq_false_iff]
    refine ⟨decide_eq_false ?_, ?_⟩
    · have h2 := c.far 0 (Nat.zero_le _)
      have h3 : (qf row s i 0).1 = s * plc row i := by simp [qf]
      have h4 : (qf row s i 0).2 = hgt row i := by simp [qf]
      have h5 := ok.pos i hi
      rw [hss]
      omega
    · rw [hss, Bool.and_eq_false_iff, decide_eq_false_iff_not, decide_eq_false_iff_not]
      apply Decidable.byContradiction
      intro hn
      have e1 : ((st.toNat : Nat) : Int) = st := by omega
      obtain ⟨k, hk, e⟩ := key st.toNat (by omega) (by rw [e1]; omega) (by rw [e1]; omega)
      apply hno
      unfold lastI mn mx
      rw [e1] at e
      rcases hs with rfl | rfl <;> constructor <;> split <;> omega
  · rw [Bool.not_eq_true', List.any_eq_false]
    intro q hq hh
    obtain ⟨j, hj, rfl⟩ := plc_mem hq
    rw [hss] at hh
    simp only [Bool.and_eq_true, decide_eq_true_eq] at hh
    obtain ⟨k, hk, e⟩ := key j hj hh.1 hh.2.1
    have h2 := c.far k hk
    have h3 : (qf row s i k).1 + (qf row s i k).2 = s * plc row j + hgt row j := by
      rw [e]
      rfl
    omega
end FR

/-! Chain, Stands: what the defs compute. -/
namespace FR
open PySem L2 Evl

/-! ### a method of one of two classes -/
def tMeth2 (C1 C2 : Addr) (m : Str) (sp1 sp2 : Sp) (E : XK) (to : TE) (t : TA) : TE := fun σ H Q => to σ H fun x H1 =>
  (∃ a dx fs, x = .ref a ∧ H1 a = some (.ins C1 dx fs) ∧ fs.lookup m = none ∧ t σ H1 fun vs H2 => sp1 (x :: (vs ++ [])) H2 Q E) ∨
  (∃ a dx fs, x = .ref a ∧ H1 a = some (.ins C2 dx fs) ∧ fs.lookup m = none ∧ t σ H1 fun vs H2 => sp2 (x :: (vs ++ [])) H2 Q E)
section
open PySem.Spec PyProof.Rows
variable {X : Cx} {k1 k2 : Nat} {ps1 ps2 : List Str} {sp1 sp2 : Sp} {CX1 CX2 : CXT} {E : XK} {e o : Expr} {es : List Expr} {t : TA} {to : TE} {pos apos : Pos} {C1 C2 : Addr} {m : Str}
theorem bnot_t {b : Bool} (h : (!b) = true) : b = false := by cases b <;> simp_all
theorem bnot_f {b : Bool} (h : (!b) = false) : b = true := by cases b <;> simp_all
theorem pe_met2 {pl : Sem Bool} (he : PE X o to) (c1 : Cls X.K C1) (g1 : CalM X.prog X.w X.K X.mg X.base CX0 k1 C1 m ps1 sp1) (c2 : Cls X.K C2) (g2 : CalM X.prog X.w X.K X.mg X.base CX0 k2 C2 m ps2 sp2) (hr1 : Room k1 X.A) (hr2 : Room k2 X.A) (hx : Passes CX0 X E) (ha : PA X (e :: es) t)
    (hst : starEach (e :: es) X.env = (false, eval e X.env) :: starEach es X.env := by rfl) (hpl : (backTo pos (starEach es X.env)).any (·.1) = false := by rfl)
    (ht : eval (.Call (.Attribute o m apos) (e :: es) [] pos) X.env = (do
      let ov ← eval o X.env
      standAt apos.atName
      let (f, first) ← holding [ov] (getMethod ov m pl)
      callWith pos f first (backTo pos (starEach (e :: es) X.env)) (backToKw pos (keywordEach [] X.env))) := by rfl) :
    PE X (.Call (.Attribute o m apos) (e :: es) [] pos) (tMeth2 C1 C2 m sp1 sp2 E to t) := by
  obtain ⟨f1, fd1, F1, m1, b1⟩ := g1.ex
  obtain ⟨f2, fd2, F2, m2, b2⟩ := g2.ex
  refine ⟨fun pins s σ H Q I h => PySem.W.methodCall_KW (pl := pl) (thn (he.run pins s σ H _ I h) fun u s1 hh => ?_) ht⟩
  obtain ⟨x, H1, I1, rx, hh⟩ := hh
  rcases hh with ⟨a, dx, fs, ex, ea, l, q⟩ | ⟨a, dx, fs, ex, ea, l, q⟩
  · subst ex
    obtain rfl : u = Value.ref a := rx
    refine getmeth_ok I1 ea c1 m1 l (PySem.W.callWith_K (first := [.ref a]) (h₀ := X.base) I.ok.mod.kin m1.kp (thn (ha.run pos pins s1 σ H1 _ I1 q) fun us s2 zz => ?_) hst hpl)
    obtain ⟨vs, H2, I2, r, q2⟩ := zz
    exact ⟨I2.kIn, run_fn (us := .ref a :: us) (vs := .ref a :: vs) F1 hr1 b1 .nil hx I2 (.cons rfl r) q2⟩
  · subst ex
    obtain rfl : u = Value.ref a := rx
    refine getmeth_ok I1 ea c2 m2 l (PySem.W.callWith_K (first := [.ref a]) (h₀ := X.base) I.ok.mod.kin m2.kp (thn (ha.run pos pins s1 σ H1 _ I1 q) fun us s2 zz => ?_) hst hpl)
    obtain ⟨vs, H2, I2, r, q2⟩ := zz
    exact ⟨I2.kIn, run_fn (us := .ref a :: us) (vs := .ref a :: vs) F2 hr2 b2 .nil hx I2 (.cons rfl r) q2⟩
end
section
variable {K : PySem.W.Frag} {env : En} {te : TE} {t : TA} {d : Da} {ds es : List Da} {C1 C2 : Addr} {m : Str} {ns : List Str}
theorem ev_meth2a {P : List Da → Da → Prop} {sp2 : Sp} {E : XK} (he : EvE K te env (.obj C1 ns ds)) (hm : (ns.any fun n => m == n) = false) (ha : EvA K t env es) (hp : P (.obj C1 ns ds :: es) d) : EvE K (tMeth2 C1 C2 m (FnP K P) sp2 E te t) env d := fun σ B s H1 e Q q =>
  he σ B s H1 e _ fun v B2 H2 g r => by
    have r0 := r
    simp only [Rp] at r0
    obtain ⟨a, dx, xs, rfl, h2, h3, h4⟩ := r0
    refine .inl ⟨a, dx, _, rfl, g.h _ _ h2, lk_no hm, ha σ B2 (s.mono g.b) H2 g.h _ fun vs B3 H3 g3 r3 => ?_⟩
    refine ⟨B3, .obj C1 ns ds :: es, d, g3.h, ?_, hp, fun v B' H' g' r' => q v B' H' ((g.trans g3).trans g') r'⟩
    rw [List.append_nil]
    exact .cons (r.mono g3.b) r3
theorem ev_meth2b {P : List Da → Da → Prop} {sp1 : Sp} {E : XK} (he : EvE K te env (.obj C2 ns ds)) (hm : (ns.any fun n => m == n) = false) (ha : EvA K t env es) (hp : P (.obj C2 ns ds :: es) d) : EvE K (tMeth2 C1 C2 m sp1 (FnP K P) E te t) env d := fun σ B s H1 e Q q =>
  he σ B s H1 e _ fun v B2 H2 g r => by
    have r0 := r
    simp only [Rp] at r0
    obtain ⟨a, dx, xs, rfl, h2, h3, h4⟩ := r0
    refine .inr ⟨a, dx, _, rfl, g.h _ _ h2, lk_no hm, ha σ B2 (s.mono g.b) H2 g.h _ fun vs B3 H3 g3 r3 => ?_⟩
    refine ⟨B3, .obj C2 ns ds :: es, d, g3.h, ?_, hp, fun v B' H' g' r' => q v B' H' ((g.trans g3).trans g') r'⟩
    rw [List.append_nil]
    exact .cons (r.mono g3.b) r3
end

/-! ### the promises -/
abbrev FxC (K : PySem.W.Frag) (C : CS) : Prop := Fx1 K C.Chain ["stones"]
abbrev FxS (K : PySem.W.Frag) (C : CS) : Prop := Fx1 K C.Stands ["place"]
structure Fx2 (K : PySem.W.Frag) (C : CS) : Prop where
  c : FxC K C
  s : FxS K C
  kc : Kits K C.Chain C true true false false false false
  ks : Kits K C.Stands C true false true false false false
def chainD (C : CS) (zs : List Int) : Da := .obj C.Chain ["stones"] [intsD zs]
def standD (C : CS) (z : Int) : Da := .obj C.Stands ["place"] [.int z]
def P_Chain_shows (C : CS) (ds : List Da) (d : Da) : Prop := ∃ row, ∃ p s st : Int, ∃ zs, ds = [chainD C zs, rowD row, prD (p, s), .int st] ∧ (row.length ≤ 1000 ∧ zs.length ≤ 5000 ∧ Sd s) ∧ d = .bl (chainB row p s st zs)
def P_Stands_shows (C : CS) (ds : List Da) (d : Da) : Prop := ∃ row, ∃ p s st z : Int, ds = [standD C z, rowD row, prD (p, s), .int st] ∧ ((0 ≤ p ∧ p < row.length) ∧ (0 ≤ st ∧ st < row.length) ∧ row.length ≤ 1000 ∧ Sd s) ∧ d = .bl (standsB row p s st z)
def P_law_chain (ds : List Da) (d : Da) : Prop := ∃ row, ∃ p s st : Int, ∃ zs, ds = [rowD row, prD (p, s), .int st, intsD zs] ∧ (row.length ≤ 1000 ∧ zs.length ≤ 5000 ∧ Sd s) ∧ d = .bl (chainB row p s st zs)
def P_law_stands (ds : List Da) (d : Da) : Prop := ∃ row, ∃ p s st z : Int, ds = [rowD row, prD (p, s), .int st, .int z] ∧ ((0 ≤ p ∧ p < row.length) ∧ (0 ≤ st ∧ st < row.length) ∧ row.length ≤ 1000 ∧ Sd s) ∧ d = .bl (standsB row p s st z)
def P_chain_to (ds es : List Da) : Prop := ∃ row, ∃ i m : Nat, ∃ s : Int, ds = [rowD row, prD ((i : Int), s), .int (ix i s m)] ∧ (i < row.length ∧ row.length ≤ 1000 ∧ Okr row ∧ Sd s ∧ m ≤ (fell row s i).1) ∧ es = intL (chL row s i m)
abbrev sp_Chain_init (K : PySem.W.Frag) (C : CS) : Sp := InL1 K C.Chain "stones"
abbrev sp_Stands_init (K : PySem.W.Frag) (C : CS) : Sp := InI1 K C.Stands "place"
abbrev sp_Chain_shows (K : PySem.W.Frag) (C : CS) : Sp := FnP K (P_Chain_shows C)
abbrev sp_Stands_shows (K : PySem.W.Frag) (C : CS) : Sp := FnP K (P_Stands_shows C)
abbrev sp_law_chain (K : PySem.W.Frag) (C : CS) : Sp := FnP K P_law_chain
abbrev sp_law_stands (K : PySem.W.Frag) (C : CS) : Sp := FnP K P_law_stands
abbrev sp_chain_to (K : PySem.W.Frag) (C : CS) : Sp := FnL K P_chain_to
def P_reachedC (C : CS) (ds : List Da) (A : Addr) (ns : List Str) (dss : List (List Da)) : Prop := ∃ row, ∃ i m : Nat, ∃ s : Int, ds = [rowD row, prD ((i : Int), s), .int (ix i s m)] ∧ (i < row.length ∧ Okr row ∧ Sd s ∧ m ≤ (fell row s i).1) ∧ A = C.Chain ∧ ns = (["stones"] : List Str) ∧ dss = [intL (chL row s i m)]
def P_reachedS (C : CS) (ds : List Da) (d : Da) : Prop := ∃ row, ∃ i : Nat, ∃ s st : Int, ds = [rowD row, prD ((i : Int), s), .int st] ∧ (i < row.length ∧ (0 ≤ st ∧ st < row.length) ∧ Okr row ∧ Sd s ∧ ¬ (mn i (lastI row s i) ≤ st ∧ st ≤ mx i (lastI row s i))) ∧ d = standD C (s * farI row s i)
def FnU (S1 S2 : Sp) : Sp := fun vs H Q E => S1 vs H Q E ∨ S2 vs H Q E
abbrev sp_reached (K : PySem.W.Frag) (C : CS) : Sp := FnU (FnO K (P_reachedC C)) (FnP K (P_reachedS C))
def t_Chain_init (K : PySem.W.Frag) (C : CS) : TS :=
  (sFld K (tVar 0) (tCB (rListS K) (tCons (tVar 1) tNil)) "stones")
def t_Chain_shows (K : PySem.W.Frag) (C : CS) : TS :=
  (tSeq (tIfS (tOr (tTest (tOp (rEqD K) (tFld K (tVar 0) "stones") (tLst tNil))) (tOr (tTest (tOp rNe (tOp (rIxL K) (tFld K (tVar 0) "stones") (tC (.int 0))) (tOp (rIxT K) (tVar 2) (tC (.int 0))))) (tTest (tOp rNe (tOp (rIxL K) (tFld K (tVar 0) "stones") (tUn (rU fun i => .int (-i)) (tC (.int 1)))) (tVar 3))))) (tRet (tC (.bl false))) tNext) (tSeq (tIfS (tNot (tB (tCB (rAll K) (tCons (tLc (iList K (tFld K (tVar 0) "stones")) (gName 7) tYes (tChain rLeI rLtI (tC (.int 0)) (tVar 7) (tCB (rLenS K) (tCons (tVar 1) tNil))) [7]) tNil)))) (tRet (tC (.bl false))) tNext) (tSeq (tFor (iRng2 (tCons (tC (.int 1)) (tCons (tCB (rLenS K) (tCons (tFld K (tVar 0) "stones") tNil)) tNil))) (gName 4) (tSeq (tAsg (tOp (rIxL K) (tVar 1) (tOp (rIxL K) (tFld K (tVar 0) "stones") (tOp rSubI (tVar 4) (tC (.int 1))))) (gTup K 2 (gCons (gName 5) (gCons (gName 6) gNil)))) (tIfS (tNot (tTest (tChain rLtI rLeI (tC (.int 0)) (tOp rMulI (tOp (rIxT K) (tVar 2) (tC (.int 1))) (tOp rSubI (tOp (rIxT K) (tOp (rIxL K) (tVar 1) (tOp (rIxL K) (tFld K (tVar 0) "stones") (tVar 4))) (tC (.int 0))) (tVar 5))) (tVar 6)))) (tRet (tC (.bl false))) tNext))) (tRet (tC (.bl true))))))
def t_Stands_init (K : PySem.W.Frag) (C : CS) : TS :=
  (sFld K (tVar 0) (tVar 1) "place")
def t_Stands_shows (K : PySem.W.Frag) (C : CS) : TS :=
  (tSeq (tAsg (tOp (rIxT K) (tVar 2) (tC (.int 1))) (gName 4)) (tSeq (tAsg (tTup (tCons (tOp rMulI (tVar 4) (tOp (rIxT K) (tOp (rIxL K) (tVar 1) (tOp (rIxT K) (tVar 2) (tC (.int 0)))) (tC (.int 0)))) (tCons (tOp rMulI (tVar 4) (tFld K (tVar 0) "place")) tNil))) (gTup K 2 (gCons (gName 5) (gCons (gName 6) gNil)))) (tSeq (tIfS (tOr (tTest (tOp rGtI (tVar 5) (tVar 6))) (tTest (tChain rLeI rLeI (tVar 5) (tOp rMulI (tVar 4) (tOp (rIxT K) (tOp (rIxL K) (tVar 1) (tVar 3)) (tC (.int 0)))) (tVar 6)))) (tRet (tC (.bl false))) tNext) (tRet (tNotV (tCB (rAny K) (tCons (tLc (iList K (tVar 1)) (gTup K 2 (gCons (gName 7) (gCons (gName 8) gNil))) tYes (tChain3 rLeI rLeI rLtI (tVar 5) (tOp rMulI (tVar 4) (tVar 7)) (tVar 6) (tOp rAddI (tOp rMulI (tVar 4) (tVar 7)) (tVar 8))) [7, 8]) tNil)))))))
def t_chain_to (K : PySem.W.Frag) (C : CS) : TS :=
  (tSeq (tAsg (tOp (rIxT K) (tVar 1) (tC (.int 1))) (gName 3)) (tSeq (tAsg tDNewK (gName 4)) (tSeq (tAsg (tOp (rIxT K) (tVar 1) (tC (.int 0))) (gName 5)) (tSeq (tAsg (tOp (rIxT K) (tVar 1) (tC (.int 0))) (gName 6)) (tSeq (tWhile (tTest (tOp rNe (tVar 6) (tVar 2))) (tSeq (tAug 6 (tVar 3) (ipI fun i j => i + j)) (tSeq (sDPut (tVar 4) (tVar 6) (tVar 5)) (tIfS (tTest (tOp rGtI (tOp rAddI (tOp rMulI (tVar 3) (tOp (rIxT K) (tOp (rIxL K) (tVar 0) (tVar 6)) (tC (.int 0)))) (tOp (rIxT K) (tOp (rIxL K) (tVar 0) (tVar 6)) (tC (.int 1)))) (tOp rAddI (tOp rMulI (tVar 3) (tOp (rIxT K) (tOp (rIxL K) (tVar 0) (tVar 5)) (tC (.int 0)))) (tOp (rIxT K) (tOp (rIxL K) (tVar 0) (tVar 5)) (tC (.int 1)))))) (tAsg (tVar 6) (gName 5)) tNext)))) (tSeq (tAsg (tLst (tCons (tVar 2) tNil)) (gName 7)) (tSeq (tWhile (tTest (tOp rNe (tOp (rIxL K) (tVar 7) (tUn (rU fun i => .int (-i)) (tC (.int 1)))) (tOp (rIxT K) (tVar 1) (tC (.int 0))))) (tDrop (tBM K "list" rAppend (tVar 7) (tCons (tDGet (tVar 4) (tOp (rIxL K) (tVar 7) (tUn (rU fun i => .int (-i)) (tC (.int 1))))) tNil)))) (tRet (tRevL K (tVar 7))))))))))
def t_reached (K : PySem.W.Frag) (C : CS) : TS :=
  (tSeq (tDrop (tCall (sp_check_row K C) [] E0 (tCons (tVar 0) tNil))) (tSeq (tIfS (tOr (tNot (tB (tCB (rIsi K) (tCons (tVar 1) (tCons (tC (.ty "tuple")) tNil))))) (tTest (tOp rNe (tCB (rLenS K) (tCons (tVar 1) tNil)) (tC (.int 2))))) tNever tNext) (tSeq (tDrop (tCall (sp_check_stone K C) [] E0 (tCons (tVar 0) (tCons (tOp (rIxT K) (tVar 1) (tC (.int 0))) tNil)))) (tSeq (tDrop (tCall (sp_check_side K C) [] E0 (tCons (tOp (rIxT K) (tVar 1) (tC (.int 1))) tNil))) (tSeq (tDrop (tCall (sp_check_stone K C) [] E0 (tCons (tVar 0) (tCons (tVar 2) tNil)))) (tSeq (tAsg (tCall (sp_last_felled K C) [] E0 (tCons (tVar 0) (tCons (tOp (rIxT K) (tVar 1) (tC (.int 0))) (tCons (tOp (rIxT K) (tVar 1) (tC (.int 1))) tNil)))) (gTup K 2 (gCons (gName 3) (gCons (gName 4) gNil)))) (tSeq (tIfS (tTest (tChain rLeI rLeI (tCB rMin2 (tCons (tOp (rIxT K) (tVar 1) (tC (.int 0))) (tCons (tVar 3) tNil))) (tVar 2) (tCB rMax2 (tCons (tOp (rIxT K) (tVar 1) (tC (.int 0))) (tCons (tVar 3) tNil))))) (tRet (tMake C.Chain (sp_Chain_init K C) [] E0 (tCons (tCall (sp_chain_to K C) [] E0 (tCons (tVar 0) (tCons (tVar 1) (tCons (tVar 2) tNil)))) tNil))) tNext) (tRet (tMake C.Stands (sp_Stands_init K C) [] E0 (tCons (tOp rMulI (tOp (rIxT K) (tVar 1) (tC (.int 1))) (tVar 4)) tNil))))))))))
def t_law_chain (K : PySem.W.Frag) (C : CS) : TS :=
  (tSeq (tIfS (tOr (tTest (tOp (rEqD K) (tVar 3) (tLst tNil))) (tOr (tTest (tOp rNe (tOp (rIxL K) (tVar 3) (tC (.int 0))) (tOp (rIxT K) (tVar 1) (tC (.int 0))))) (tOr (tTest (tOp rNe (tOp (rIxL K) (tVar 3) (tUn (rU fun i => .int (-i)) (tC (.int 1)))) (tVar 2))) (tOr (tTest (tOp rLtI (tCB (rMin K) (tCons (tVar 3) tNil)) (tC (.int 0)))) (tTest (tOp rGeI (tCB (rMax K) (tCons (tVar 3) tNil)) (tCB (rLenS K) (tCons (tVar 0) tNil)))))))) (tRet (tC (.bl false))) tNext) (tSeq (tFor (iZip K (tCons (tVar 3) (tCons (tSl (rSlL K) (tVar 3) (tPart (tC (.int 1))) tNoPart) tNil))) (gTup K 2 (gCons (gName 4) (gCons (gName 5) gNil))) (tSeq (tAsg (tOp (rIxL K) (tVar 0) (tVar 4)) (gTup K 2 (gCons (gName 6) (gCons (gName 7) gNil)))) (tIfS (tNot (tTest (tChain rLeI rLeI (tC (.int 1)) (tOp rMulI (tOp rSubI (tOp (rIxT K) (tOp (rIxL K) (tVar 0) (tVar 5)) (tC (.int 0))) (tVar 6)) (tOp (rIxT K) (tVar 1) (tC (.int 1)))) (tVar 7)))) (tRet (tC (.bl false))) tNext))) (tRet (tC (.bl true)))))
def t_law_stands (K : PySem.W.Frag) (C : CS) : TS :=
  (tSeq (tAsg (tOp (rIxT K) (tVar 1) (tC (.int 1))) (gName 4)) (tSeq (tPar 5 6 (tCons (tOp (rIxT K) (tOp (rIxL K) (tVar 0) (tOp (rIxT K) (tVar 1) (tC (.int 0)))) (tC (.int 0))) (tCons (tOp (rIxT K) (tOp (rIxL K) (tVar 0) (tVar 2)) (tC (.int 0))) tNil))) (tSeq (tIfS (tOr (tTest (tOp rLtI (tOp rMulI (tOp rSubI (tVar 3) (tVar 5)) (tVar 4)) (tC (.int 0)))) (tAnd (tTest (tOp rGeI (tOp rMulI (tOp rSubI (tVar 6) (tVar 5)) (tVar 4)) (tC (.int 0)))) (tTest (tOp rGeI (tOp rMulI (tOp rSubI (tVar 3) (tVar 6)) (tVar 4)) (tC (.int 0)))))) (tRet (tC (.bl false))) tNext) (tSeq (tFor (iList K (tVar 0)) (gTup K 2 (gCons (gName 7) (gCons (gName 8) gNil))) (tIfS (tAnd (tTest (tOp rGeI (tOp rMulI (tOp rSubI (tVar 7) (tVar 5)) (tVar 4)) (tC (.int 0)))) (tAnd (tTest (tOp rGeI (tOp rMulI (tOp rSubI (tVar 3) (tVar 7)) (tVar 4)) (tC (.int 0)))) (tTest (tOp rLtI (tOp rMulI (tOp rSubI (tVar 3) (tVar 7)) (tVar 4)) (tVar 8))))) (tRet (tC (.bl false))) tNext)) (tRet (tC (.bl true)))))))

section
variable {K : PySem.W.Frag} {C : CS} {env : En} {te ta tb : TE} {row : List (Int × Int)} {zs : List Int}
theorem fxC (A : FxC K C) : NoAttr K C.Chain "stones" := A.no _ List.mem_cons_self
theorem fxS (A : FxS K C) : NoAttr K C.Stands "place" := A.no _ List.mem_cons_self
theorem ev_cs (A : FxC K C) (h : EvE K te env (chainD C zs)) : EvE K (tFld K te "stones") env (intsD zs) := ev_fld0 h A.isi.cls (fxC A)
theorem ev_sp {z : Int} (A : FxS K C) (h : EvE K te env (standD C z)) : EvE K (tFld K te "place") env (.int z) := ev_fld0 h A.isi.cls (fxS A)
theorem pure_Chain_init (A : FxC K C) {vs : List V} {H : Hp} {Q : VK} {E : XK} (h : sp_Chain_init K C vs H Q E) : t_Chain_init K C { nx := fun _ H' => Q .non H', rt := Q } (start ["self", "stones"] vs) H := in_L1 rfl A.isi.cls (fxC A) h
theorem len_Chain_init {vs : List V} {H : Hp} {Q : VK} {E : XK} (h : sp_Chain_init K C vs H Q E) : vs.length = 2 := by
  obtain ⟨x, dx, p, xs, rfl, _⟩ := h
  rfl
theorem pure_Stands_init (A : FxS K C) {vs : List V} {H : Hp} {Q : VK} {E : XK} (h : sp_Stands_init K C vs H Q E) : t_Stands_init K C { nx := fun _ H' => Q .non H', rt := Q } (start ["self", "place"] vs) H := in_I1 rfl A.isi.cls (fxS A) h
theorem len_Stands_init {vs : List V} {H : Hp} {Q : VK} {E : XK} (h : sp_Stands_init K C vs H Q E) : vs.length = 2 := by
  obtain ⟨x, dx, v, rfl, _⟩ := h
  rfl
theorem ints_at0 {a : Int} {r : List Int} : atI (intL (a :: r)) 0 = some (.int a) := atI_nat (j := 0) rfl
theorem ints_at {zs : List Int} {k : Nat} {a : Int} (h : zs[k]? = some a) : atI (intL zs) ((k : Nat) : Int) = some (.int a) := by
  refine atI_nat ?_
  rw [List.getElem?_map, h]
  rfl
theorem ints_last {zs : List Int} (h : zs ≠ []) : atI (intL zs) (-1) = some (.int (zs.getLastD 0)) := by
  have e := List.dropLast_concat_getLast h
  have e2 : zs.getLastD 0 = zs.getLast h := by
    rw [List.getLastD_eq_getLast?, List.getLast?_eq_some_getLast h]
    rfl
  rw [e2]
  conv => lhs; rw [← e]
  rw [intL_snoc]
  exact atI_last _ _
theorem hd_at {zs : List Int} (h : zs ≠ []) : atI (intL zs) 0 = some (.int (zs.headD 0)) := by
  cases zs with
  | nil => exact absurd rfl h
  | cons a r => exact ints_at0
theorem run_Chain_shows (A : FxC K C) {ds : List Da} {d : Da} (h : P_Chain_shows C ds d) : Run K (t_Chain_shows K C) (ent ds 4) (retD d) := by
  obtain ⟨row, p, s, st, zs, rfl, ⟨hn, hz, hs⟩, rfl⟩ := h
  have ep : EvE K (tOp (rIxT K) (tVar 2) (tC (.int 0))) (frz (ent [chainD C zs, rowD row, prD (p, s), .int st] 4)) (.int p) := ev_pr0 (p := (p, s)) (ev_var rfl)
  refine run_seq (run_if (b := decide (zs = []) || (!decide (zs.headD 0 = p) || !decide (zs.getLastD 0 = st))) (eb_or ?_ fun h1 => eb_or ?_ fun _ => ?_) (fun hb => ?_) fun hb => run_next ?_)
  · exact eb_test (ev_eqInts (ms := []) (ev_cs A (ev_var rfl)) (ev_new (en_lst ea_nil)))
  · exact eb_test (ev_neI (ev_ixL (ev_cs A (ev_var rfl)) ev_int (hd_at (of_decide_eq_false h1))) ep)
  · exact eb_test (ev_neI (ev_ixL (ev_cs A (ev_var rfl)) (ev_neg ev_int) (ints_last (of_decide_eq_false h1))) (ev_var rfl))
  · refine run_ret ev_bl ?_
    show Da.bl _ = Da.bl _
    unfold chainB
    by_cases e : zs = []
    · rw [if_pos e]
    · rw [if_neg e, if_pos]
      simpa [e, Classical.or_iff_not_imp_left] using hb
  simp only [Bool.or_eq_false_iff, decide_eq_false_iff_not, Bool.not_eq_false', decide_eq_true_eq] at hb
  obtain ⟨hne, hp, hst⟩ := hb
  have e0 : chainB row p s st zs = if inB row zs = true then linksB row s zs else false := by
    unfold chainB
    rw [if_neg hne, if_neg (by rw [hp, hst]; simp)]
  refine run_seq (run_if (b := !(((zs.filter fun _ => true).map fun o => decide (0 ≤ o) && decide (o < (row.length : Int))).all id)) (eb_not (eb_B (ev_all (ev_new ?_)))) (fun hb => ?_) fun hb => run_next ?_)
  · exact (en_lc (us := [7]) Da.int (fun _ => true) (fun o => Da.bl (decide (0 ≤ o) && decide (o < (row.length : Int)))) zs (wk_list (ev_cs A (ev_var rfl))) (by simp) (by omega) fun o ho => ⟨_, tc_name, eb_yes, fun _ => ev_chainI rfl rfl ev_int (ev_var rfl) fun _ => ev_lenR (ev_var rfl)⟩).is (by simp only [blL, List.map_map]; rfl)
  · refine run_ret ev_bl ?_
    show Da.bl _ = Da.bl _
    rw [e0, if_neg]
    rw [List.filter_eq_self.mpr fun _ _ => rfl, List.all_map] at hb
    intro z
    have z' : (zs.all (id ∘ fun o => decide (0 ≤ o) && decide (o < (row.length : Int)))) = true := z
    rw [z'] at hb
    cases hb
  have hin : inB row zs = true := by
    rw [List.filter_eq_self.mpr fun _ _ => rfl, List.all_map] at hb
    have : (zs.all (id ∘ fun o => decide (0 ≤ o) && decide (o < (row.length : Int)))) = true := by simpa using hb
    exact this
  rw [if_pos hin] at e0
  have hin' : ∀ (k : Nat) (a : Int), zs[k]? = some a → 0 ≤ a ∧ a < row.length := fun k a h => by
    have := List.all_eq_true.mp hin a (List.mem_of_getElem? h)
    simpa using this
  refine run_seq (run_for (wk_rng2 ev_int (ev_lenI (ev_cs A (ev_var rfl))) (by omega)) (fun k e => ∃ y4 y5 y6, e = [.im (chainD C zs), .im (rowD row), .im (prD (p, s)), .im (.int st), y4, y5, y6, .no] ∧ linksB row s (zs.drop k) = linksB row s zs) ⟨.no, .no, .no, rfl, rfl⟩ ?_ ?_)
  · rintro k d e hd ⟨y4, y5, y6, rfl, hl⟩
    have hk : k < ((zs.length : Int) - 1).toNat := by
      have := (List.getElem?_eq_some_iff.mp hd).1
      rw [rngD_len] at this
      exact this
    rw [rngD_get hk] at hd
    obtain rfl : Da.int ((1 : Int) + (k : Nat)) = d := Option.some.inj hd
    obtain ⟨a, ha⟩ : ∃ a, zs[k]? = some a := ⟨_, List.getElem?_eq_getElem (by omega)⟩
    obtain ⟨b, hb⟩ : ∃ b, zs[k + 1]? = some b := ⟨_, List.getElem?_eq_getElem (by omega)⟩
    have hA := hin' k a ha
    have hB := hin' (k + 1) b hb
    have e1 : (1 : Int) + (k : Nat) - 1 = ((k : Nat) : Int) := by omega
    have e2 : (1 : Int) + (k : Nat) = ((k + 1 : Nat) : Int) := by omega
    rw [links_step ha hb] at hl
    refine ⟨_, ts_name, ?_⟩
    refine run_seq (run_asgT (ev_rowI (ev_var rfl) (ev_ixL (ev_cs A (ev_var rfl)) ((ev_sub (ev_var rfl) ev_int).is (congrArg Da.int e1)) (ints_at ha)) hA.1 hA.2) (ts_tup2 ts_name ts_name) ?_)
    refine run_if (b := !(decide (0 < s * (plc row b - plc row a)) && decide (s * (plc row b - plc row a) ≤ hgt row a))) (eb_not (eb_test (ev_chainI rfl rfl ev_int (ev_mul (ev_pr1 (p := (p, s)) (ev_var rfl)) (ev_sub (ev_row0 (ev_var rfl) (ev_ixL (ev_cs A (ev_var rfl)) ((ev_var rfl).is (congrArg Da.int e2)) (ints_at hb)) hB.1 hB.2) (ev_var rfl)) (cmul_s hs)) fun _ => ev_var rfl))) (fun hx => ?_) fun hx => run_next ⟨_, _, _, rfl, ?_⟩
    · refine run_ret ev_bl ?_
      show Da.bl _ = Da.bl _
      rw [e0, ← hl]
      have : linkB row s a b = false := bnot_t hx
      rw [this, Bool.false_and]
    · have : linkB row s a b = true := bnot_f hx
      rw [this, Bool.true_and] at hl
      exact hl
  · rintro e ⟨y4, y5, y6, rfl, hl⟩
    refine run_ret ev_bl ?_
    show Da.bl _ = Da.bl _
    rw [e0, ← hl, links_end]
    rw [rngD_len]
    omega
theorem ev_minL {ns : List Int} {m : Int} (ha : EvE K ta env (intsD ns)) (h1 : m ∈ ns) (h2 : ∀ y ∈ ns, m ≤ y) : EvE K (tCB (rMin K) (tCons ta tNil)) env (.int m) :=
  ev_cb (ea_cons ha ea_nil) fun B H vs e r Q q => by
    obtain ⟨v, rfl, h3⟩ := one_rp r
    simp only [intsD, Rp] at h3
    obtain ⟨a, xs, rfl, h4, h5⟩ := h3
    have z := rp_ints h5
    subst z
    refine ⟨a, ns, rfl, sq_of (e _ _ h4), List.length_pos_iff.mpr (List.ne_nil_of_mem h1), fun m' hm hle => ?_⟩
    have : m' = m := by
      have := h2 m' hm
      have := hle m h1
      omega
    rw [this]
    exact q _ B H (Gr.refl e) (by simp only [Rp])
theorem ev_maxL {ns : List Int} {m : Int} (ha : EvE K ta env (intsD ns)) (h1 : m ∈ ns) (h2 : ∀ y ∈ ns, y ≤ m) : EvE K (tCB (rMax K) (tCons ta tNil)) env (.int m) :=
  ev_cb (ea_cons ha ea_nil) fun B H vs e r Q q => by
    obtain ⟨v, rfl, h3⟩ := one_rp r
    simp only [intsD, Rp] at h3
    obtain ⟨a, xs, rfl, h4, h5⟩ := h3
    have z := rp_ints h5
    subst z
    refine ⟨a, ns, rfl, sq_of (e _ _ h4), List.length_pos_iff.mpr (List.ne_nil_of_mem h1), fun m' hm hle => ?_⟩
    have : m' = m := by
      have := h2 m' hm
      have := hle m h1
      omega
    rw [this]
    exact q _ B H (Gr.refl e) (by simp only [Rp])
theorem has_min : ∀ {zs : List Int}, zs ≠ [] → ∃ m, m ∈ zs ∧ ∀ y ∈ zs, m ≤ y
  | [], h => absurd rfl h
  | [a], _ => ⟨a, List.mem_cons_self, fun y hy => by
    rw [List.mem_singleton] at hy
    omega⟩
  | a :: b :: r, _ => by
    obtain ⟨m, h1, h2⟩ := has_min (zs := b :: r) (by simp)
    by_cases h : a ≤ m
    · refine ⟨a, List.mem_cons_self, fun y hy => ?_⟩
      rcases List.mem_cons.mp hy with z | z
      · omega
      · have := h2 y z
        omega
    · refine ⟨m, List.mem_cons_of_mem _ h1, fun y hy => ?_⟩
      rcases List.mem_cons.mp hy with z | z
      · omega
      · exact h2 y z
theorem has_max : ∀ {zs : List Int}, zs ≠ [] → ∃ m, m ∈ zs ∧ ∀ y ∈ zs, y ≤ m
  | [], h => absurd rfl h
  | [a], _ => ⟨a, List.mem_cons_self, fun y hy => by
    rw [List.mem_singleton] at hy
    omega⟩
  | a :: b :: r, _ => by
    obtain ⟨m, h1, h2⟩ := has_max (zs := b :: r) (by simp)
    by_cases h : m ≤ a
    · refine ⟨a, List.mem_cons_self, fun y hy => ?_⟩
      rcases List.mem_cons.mp hy with z | z
      · omega
      · have := h2 y z
        omega
    · refine ⟨m, List.mem_cons_of_mem _ h1, fun y hy => ?_⟩
      rcases List.mem_cons.mp hy with z | z
      · omega
      · exact h2 y z
theorem cutD_one {α : Type} (f : α → Da) (xs : List α) : cutD (xs.map f) (some 1) none = (xs.drop 1).map f := by
  unfold cutD
  have e : HT.sIx (xs.map f).length 0 (some 1) = min 1 (xs.map f).length := HT.sIx_nat _ 0 1
  rw [HT.sIx_none, e, List.length_map]
  cases xs with
  | nil => rfl
  | cons x xs =>
    have e2 : min 1 (x :: xs).length = 1 := by
      rw [List.length_cons]
      omega
    rw [e2, List.map_drop]
    exact List.take_of_length_le (by simp)
theorem run_law_chain {ds : List Da} {d : Da} (h : P_law_chain ds d) : Run K (t_law_chain K C) (ent ds 4) (retD d) := by
  obtain ⟨row, p, s, st, zs, rfl, ⟨hn, hz, hs⟩, rfl⟩ := h
  by_cases hne : zs = []
  · subst hne
    refine run_seq (run_if (b := decide (([] : List Int) = []) || true) (eb_or ?_ fun h1 => absurd h1 (by simp)) (fun hb => run_ret ev_bl rfl) fun hb => by simp at hb)
    exact eb_test (ev_eqInts (ns := []) (ms := []) (ev_var rfl) (ev_new (en_lst ea_nil)))
  obtain ⟨lo, lo1, lo2⟩ := has_min hne
  obtain ⟨hi, hi1, hi2⟩ := has_max hne
  have hinB : inB row zs = (decide (0 ≤ lo) && decide (hi < row.length)) := by
    unfold inB
    by_cases h : (0 ≤ lo) ∧ (hi < row.length)
    · rw [decide_eq_true h.1, decide_eq_true h.2, Bool.true_and, List.all_eq_true]
      intro o ho
      have := lo2 o ho
      have := hi2 o ho
      simp
      omega
    · have h' : (decide (0 ≤ lo) && decide (hi < row.length)) = false := by
        rw [Bool.and_eq_false_iff, decide_eq_false_iff_not, decide_eq_false_iff_not]
        omega
      rw [h', List.all_eq_false]
      by_cases h0 : 0 ≤ lo
      · exact ⟨hi, hi1, by simp; omega⟩
      · exact ⟨lo, lo1, by simp; omega⟩
  refine run_seq (run_if (b := decide (zs = []) || (!decide (zs.headD 0 = p) || (!decide (zs.getLastD 0 = st) || (decide (lo < 0) || decide ((row.length : Int) ≤ hi))))) (eb_or ?_ fun h1 => eb_or ?_ fun _ => eb_or ?_ fun _ => eb_or ?_ fun _ => ?_) (fun hb => ?_) fun hb => run_next ?_)
  · exact eb_test (ev_eqInts (ms := []) (ev_var rfl) (ev_new (en_lst ea_nil)))
  · exact eb_test (ev_neI (ev_ixL (ev_var rfl) ev_int (hd_at hne)) (ev_pr0 (p := (p, s)) (ev_var rfl)))
  · exact eb_test (ev_neI (ev_ixL (ev_var rfl) (ev_neg ev_int) (ints_last hne)) (ev_var rfl))
  · exact eb_test (ev_lt (ev_minL (ev_var rfl) lo1 lo2) ev_int)
  · exact eb_test (ev_ge (ev_maxL (ev_var rfl) hi1 hi2) (ev_lenR (ev_var rfl)))
  · refine run_ret ev_bl ?_
    show Da.bl _ = Da.bl _
    unfold chainB
    rw [if_neg hne]
    by_cases h2 : zs.headD 0 ≠ p ∨ zs.getLastD 0 ≠ st
    · rw [if_pos h2]
    · rw [if_neg h2, if_neg]
      rw [hinB]
      simp only [not_or, Decidable.not_not] at h2
      rw [decide_eq_false hne, decide_eq_true h2.1, decide_eq_true h2.2] at hb
      simp only [Bool.false_or, Bool.not_true, Bool.or_eq_true, decide_eq_true_eq] at hb
      simp only [Bool.and_eq_true, decide_eq_true_eq]
      omega
  simp only [Bool.or_eq_false_iff, decide_eq_false_iff_not, Bool.not_eq_false', decide_eq_true_eq] at hb
  obtain ⟨_, hp, hst, hlo, hhi⟩ := hb
  have hin : inB row zs = true := by
    rw [hinB]
    simp only [Bool.and_eq_true, decide_eq_true_eq]
    omega
  have e0 : chainB row p s st zs = linksB row s zs := by
    unfold chainB
    rw [if_neg hne, if_neg (by rw [hp, hst]; simp), if_pos hin]
  have hin' : ∀ (k : Nat) (a : Int), zs[k]? = some a → 0 ≤ a ∧ a < row.length := fun k a h => by
    have := List.all_eq_true.mp hin a (List.mem_of_getElem? h)
    simpa using this
  have ez : List.zipWith (fun x y => Da.tup [x, y]) (intL zs) (intL (zs.drop 1)) = (zs.zip (zs.drop 1)).map fun q => prD q := by
    rw [List.zipWith_map, List.zip, List.map_zipWith]
    rfl
  refine run_seq (run_for (wk_zip (ev_var rfl) (ev_new ((en_slL (ev_var rfl) (eo_some ev_int) eo_none).is (cutD_one Da.int zs)))) (fun k e => ∃ y4 y5 y6 y7, e = [.im (rowD row), .im (prD (p, s)), .im (.int st), .im (intsD zs), y4, y5, y6, y7] ∧ linksB row s (zs.drop k) = linksB row s zs) ⟨.no, .no, .no, .no, rfl, rfl⟩ ?_ ?_)
  · rintro k d e hd ⟨y4, y5, y6, y7, rfl, hl⟩
    rw [ez] at hd
    obtain ⟨q, hq, rfl⟩ := map_get hd
    obtain ⟨a, b⟩ := q
    rw [List.getElem?_zip_eq_some] at hq
    obtain ⟨ha, hb⟩ := hq
    rw [List.getElem?_drop, Nat.add_comm 1 k] at hb
    have hA := hin' k a ha
    have hB := hin' (k + 1) b hb
    rw [links_step ha hb] at hl
    refine ⟨_, ts_tup2 ts_name ts_name, ?_⟩
    refine run_seq (run_asgT (ev_rowI (ev_var rfl) (ev_var rfl) hA.1 hA.2) (ts_tup2 ts_name ts_name) ?_)
    refine run_if (b := !(decide (1 ≤ (plc row b - plc row a) * s) && decide ((plc row b - plc row a) * s ≤ hgt row a))) (eb_not (eb_test (ev_chainI rfl rfl ev_int (ev_mul (ev_sub (ev_row0 (ev_var rfl) (ev_var rfl) hB.1 hB.2) (ev_var rfl)) (ev_pr1 (p := (p, s)) (ev_var rfl)) (cmul_r hs)) fun _ => ev_var rfl))) (fun hx => ?_) fun hx => run_next ⟨_, _, _, _, rfl, ?_⟩
    · refine run_ret ev_bl ?_
      show Da.bl _ = Da.bl _
      rw [e0, ← hl]
      have : linkB row s a b = false := by
        unfold linkB
        simp only [Bool.not_eq_true', Bool.and_eq_false_iff, decide_eq_false_iff_not] at hx ⊢
        rcases hs with rfl | rfl <;> omega
      rw [this, Bool.false_and]
    · have : linkB row s a b = true := by
        unfold linkB
        simp only [Bool.not_eq_false', Bool.and_eq_true, decide_eq_true_eq] at hx ⊢
        rcases hs with rfl | rfl <;> omega
      rw [this, Bool.true_and] at hl
      exact hl
  · rintro e ⟨y4, y5, y6, y7, rfl, hl⟩
    refine run_ret ev_bl ?_
    show Da.bl _ = Da.bl _
    rw [e0, ← hl, links_end]
    rw [ez, List.length_map, List.length_zip, List.length_drop]
    omega
theorem run_Stands_shows (A : FxS K C) {ds : List Da} {d : Da} (h : P_Stands_shows C ds d) : Run K (t_Stands_shows K C) (ent ds 5) (retD d) := by
  obtain ⟨row, p, s, st, z, rfl, ⟨hp, hst, hn, hs⟩, rfl⟩ := h
  refine run_seq (run_asg (d := .int s) (ev_pr1 (p := (p, s)) (ev_var rfl)) ?_)
  refine run_seq (run_asgT (d := .tup [.int (s * plc row p), .int (s * z)]) (ev_tup (ea_cons (ev_mul (ev_var rfl) (ev_row0 (ev_var rfl) (ev_pr0 (p := (p, s)) (ev_var rfl)) hp.1 hp.2) (cmul_s hs)) (ea_cons (ev_mul (ev_var rfl) (ev_sp A (ev_var rfl)) (cmul_s hs)) ea_nil))) (ts_tup2 ts_name ts_name) ?_)
  refine run_seq (run_if (b := decide (s * plc row p > s * z) || (decide (s * plc row p ≤ s * plc row st) && decide (s * plc row st ≤ s * z))) (eb_or (eb_test (ev_gt (ev_var rfl) (ev_var rfl))) fun _ => eb_test (ev_chainI rfl rfl (ev_var rfl) (ev_mul (ev_var rfl) (ev_row0 (ev_var rfl) (ev_var rfl) hst.1 hst.2) (cmul_s hs)) fun _ => ev_var rfl)) (fun hb => ?_) fun hb => run_next ?_)
  · refine run_ret ev_bl ?_
    show Da.bl _ = Da.bl _
    unfold standsB
    rw [hb]
    rfl
  · refine run_ret (d := .bl (!(((row.filter fun _ => true).map fun q => decide (s * plc row p ≤ s * q.1) && (decide (s * q.1 ≤ s * z) && decide (s * z < s * q.1 + q.2))).any id))) (ev_notV (ev_any (ev_new ?_))) ?_
    · exact (en_lc (us := [7, 8]) prD (fun _ => true) (fun q => Da.bl (decide (s * plc row p ≤ s * q.1) && (decide (s * q.1 ≤ s * z) && decide (s * z < s * q.1 + q.2)))) row (wk_list (ev_var rfl)) (by simp) (by omega) fun q hq => ⟨_, tc_tup2 tc_name tc_name, eb_yes, fun _ => ev_chain3I rfl rfl rfl (ev_var rfl) (ev_mul (ev_var rfl) (ev_var rfl) (cmul_s hs)) (ev_var rfl) (ev_add (ev_mul (ev_var rfl) (ev_var rfl) (cmul_s hs)) (ev_var rfl))⟩).is (by simp only [blL, List.map_map]; rfl)
    · show Da.bl _ = Da.bl _
      unfold standsB
      rw [hb, List.filter_eq_self.mpr fun _ _ => rfl, List.any_map]
      rfl
theorem run_law_stands {ds : List Da} {d : Da} (h : P_law_stands ds d) : Run K (t_law_stands K C) (ent ds 5) (retD d) := by
  obtain ⟨row, p, s, st, z, rfl, ⟨hp, hst, hn, hs⟩, rfl⟩ := h
  refine run_seq (run_asg (d := .int s) (ev_pr1 (p := (p, s)) (ev_var rfl)) ?_)
  refine run_seq (run_par (ea_cons (ev_row0 (ev_var rfl) (ev_pr0 (p := (p, s)) (ev_var rfl)) hp.1 hp.2) (ea_cons (ev_row0 (ev_var rfl) (ev_var rfl) hst.1 hst.2) ea_nil)) ?_)
  refine run_seq (run_if (b := decide ((z - plc row p) * s < 0) || (decide (0 ≤ (plc row st - plc row p) * s) && decide (0 ≤ (z - plc row st) * s))) (eb_or (eb_test (ev_lt (ev_mul (ev_sub (ev_var rfl) (ev_var rfl)) (ev_var rfl) (cmul_r hs)) ev_int)) fun _ => eb_and (eb_test (ev_ge (ev_mul (ev_sub (ev_var rfl) (ev_var rfl)) (ev_var rfl) (cmul_r hs)) ev_int)) fun _ => eb_test (ev_ge (ev_mul (ev_sub (ev_var rfl) (ev_var rfl)) (ev_var rfl) (cmul_r hs)) ev_int)) (fun hb => ?_) fun hb => run_next ?_)
  · refine run_ret ev_bl ?_
    show Da.bl _ = Da.bl _
    have : (decide (s * plc row p > s * z) || (decide (s * plc row p ≤ s * plc row st) && decide (s * plc row st ≤ s * z))) = true := by
      simp only [Bool.or_eq_true, Bool.and_eq_true, decide_eq_true_eq] at hb ⊢
      rcases hs with rfl | rfl <;> omega
    unfold standsB
    rw [this]
    rfl
  have h1 : (decide (s * plc row p > s * z) || (decide (s * plc row p ≤ s * plc row st) && decide (s * plc row st ≤ s * z))) = false := by
    simp only [Bool.or_eq_false_iff, Bool.and_eq_false_iff, decide_eq_false_iff_not] at hb ⊢
    rcases hs with rfl | rfl <;> omega
  have e0 : standsB row p s st z = !(row.any fun q => decide (s * plc row p ≤ s * q.1) && (decide (s * q.1 ≤ s * z) && decide (s * z < s * q.1 + q.2))) := by
    unfold standsB
    rw [h1]
    rfl
  refine run_seq (run_for (wk_list (ev_var rfl)) (fun k e => ∃ y7 y8, e = [.im (rowD row), .im (prD (p, s)), .im (.int st), .im (.int z), .im (.int s), .im (.int (plc row p)), .im (.int (plc row st)), y7, y8] ∧ ((row.take k).any fun q => decide (s * plc row p ≤ s * q.1) && (decide (s * q.1 ≤ s * z) && decide (s * z < s * q.1 + q.2))) = false) ⟨.no, .no, rfl, by simp⟩ ?_ ?_)
  · rintro k d e hd ⟨y7, y8, rfl, hl⟩
    obtain ⟨q, hq, rfl⟩ := map_get hd
    refine ⟨_, ts_tup2 ts_name ts_name, run_if (b := decide (0 ≤ (q.1 - plc row p) * s) && (decide (0 ≤ (z - q.1) * s) && decide ((z - q.1) * s < q.2))) (eb_and (eb_test (ev_ge (ev_mul (ev_sub (ev_var rfl) (ev_var rfl)) (ev_var rfl) (cmul_r hs)) ev_int)) fun _ => eb_and (eb_test (ev_ge (ev_mul (ev_sub (ev_var rfl) (ev_var rfl)) (ev_var rfl) (cmul_r hs)) ev_int)) fun _ => eb_test (ev_lt (ev_mul (ev_sub (ev_var rfl) (ev_var rfl)) (ev_var rfl) (cmul_r hs)) (ev_var rfl))) (fun hx => ?_) fun hx => run_next ⟨_, _, rfl, ?_⟩⟩
    · refine run_ret ev_bl ?_
      show Da.bl _ = Da.bl _
      rw [e0]
      have : (row.any fun q => decide (s * plc row p ≤ s * q.1) && (decide (s * q.1 ≤ s * z) && decide (s * z < s * q.1 + q.2))) = true := by
        rw [List.any_eq_true]
        refine ⟨q, List.mem_of_getElem? hq, ?_⟩
        simp only [Bool.and_eq_true, decide_eq_true_eq] at hx ⊢
        rcases hs with rfl | rfl <;> omega
      rw [this]
      rfl
    · rw [List.take_add_one, hq, List.any_append, hl, Bool.false_or]
      show (decide (s * plc row p ≤ s * q.1) && (decide (s * q.1 ≤ s * z) && decide (s * z < s * q.1 + q.2)) || false) = false
      rw [Bool.or_false]
      simp only [Bool.and_eq_false_iff, decide_eq_false_iff_not] at hx ⊢
      rcases hs with rfl | rfl <;> omega
  · rintro e ⟨y7, y8, rfl, hl⟩
    rw [List.length_map, List.take_length] at hl
    refine run_ret ev_bl ?_
    show Da.bl _ = Da.bl _
    rw [e0, hl]
    rfl
/-- which one is ahead, by steps -/
def ahL (q : Nat → Int × Int) (i : Nat) (s : Int) (m : Nat) : List (Int × Da) := (List.range m).map fun k => (ix i s (k + 1), Da.int (ix i s (bestI q k)))
theorem ahL_put {q : Nat → Int × Int} {i : Nat} {s : Int} (hs : Sd s) (m : Nat) : putD (ahL q i s m) (ix i s (m + 1)) (.int (ix i s (bestI q m))) = ahL q i s (m + 1) := by
  unfold putD
  rw [if_neg]
  · unfold ahL
    rw [List.range_succ, List.map_append]
    rfl
  · intro z
    obtain ⟨x, hx, e⟩ := List.any_eq_true.mp z
    obtain ⟨k, hk, rfl⟩ := List.mem_map.mp hx
    have e' := ix_inj hs (of_decide_eq_true e)
    have := List.mem_range.mp hk
    omega
theorem valD_app : ∀ {xs ys : List (Int × Da)} {j : Int}, (∀ x ∈ xs, x.1 ≠ j) → valD (xs ++ ys) j = valD ys j
  | [], ys, j, h => rfl
  | (k, d) :: xs, ys, j, h => by
    show (if k = j then some d else valD (xs ++ ys) j) = _
    rw [if_neg (h (k, d) List.mem_cons_self), valD_app fun x hx => h x (List.mem_cons_of_mem _ hx)]
theorem ahL_val {q : Nat → Int × Int} {i : Nat} {s : Int} (hs : Sd s) : ∀ {m k : Nat}, k < m → valD (ahL q i s m) (ix i s (k + 1)) = some (.int (ix i s (bestI q k)))
  | 0, k, h => by omega
  | m + 1, k, h => by
    unfold ahL
    rw [List.range_succ, List.map_append]
    by_cases e : k = m
    · subst e
      rw [valD_app]
      · show (if ix i s (k + 1) = ix i s (k + 1) then _ else _) = _
        rw [if_pos rfl]
      · intro x hx z
        obtain ⟨j, hj, rfl⟩ := List.mem_map.mp hx
        have := ix_inj hs z
        have := List.mem_range.mp hj
        omega
    · have ih := ahL_val (q := q) (i := i) hs (m := m) (k := k) (by omega)
      have ap : ∀ {xs ys : List (Int × Da)} {j : Int} {d : Da}, valD xs j = some d → valD (xs ++ ys) j = some d := by
        intro xs
        induction xs with
        | nil =>
          intro ys j d h
          cases h
        | cons x xs ih =>
          intro ys j d h
          obtain ⟨k, e⟩ := x
          show (if k = j then some e else valD (xs ++ ys) j) = _
          have h' : (if k = j then some e else valD xs j) = some d := h
          by_cases z : k = j
          · rw [if_pos z] at h' ⊢
            exact h'
          · rw [if_neg z] at h' ⊢
            exact ih h'
      exact ap ih
theorem run_chain_to {ds es : List Da} (h : P_chain_to ds es) : Run K (t_chain_to K C) (ent ds 5) (retL es) := by
  obtain ⟨row, i, m, s, rfl, ⟨hi, hn, ok, hs, hm⟩, rfl⟩ := h
  have c := fell_chn row s i
  have i0 : ix i s 0 = i := by
    unfold ix
    simp
  have hin : ∀ k, k ≤ m → 0 ≤ ix i s k ∧ ix i s k < row.length := fun k hk => (ah_in (k := k) hi hs).mp (by have := c.le; omega)
  have hah : ah row s i ≤ 1000 := by
    rcases hs with rfl | rfl
    · rw [ah_one]
      omega
    · rw [ah_neg]
      omega
  have hrch : ∀ k, s * plc row (ix i s k) + hgt row (ix i s k) = rch (qf row s i) k := fun k => rfl
  refine run_seq (run_asg (d := .int s) (ev_pr1 (p := ((i : Int), s)) (ev_var rfl)) ?_)
  refine run_seq (run_asgD ed_new ?_)
  refine run_seq (run_asg (d := .int (ix i s (bestI (qf row s i) 0))) ((ev_pr0 (p := ((i : Int), s)) (ev_var rfl)).is (congrArg Da.int i0.symm)) ?_)
  refine run_seq (run_asg (d := .int (ix i s 0)) ((ev_pr0 (p := ((i : Int), s)) (ev_var rfl)).is (congrArg Da.int i0.symm)) ?_)
  refine run_seq (run_while (fun r e => ∃ k, e = [.im (rowD row), .im (prD ((i : Int), s)), .im (.int (ix i s m)), .im (.int s), .md (ahL (qf row s i) i s k), .im (.int (ix i s (bestI (qf row s i) k))), .im (.int (ix i s k)), .no] ∧ k + r = m) m ⟨0, rfl, by omega⟩ ?_)
  · rintro r e ⟨k, rfl, hr⟩
    refine ⟨!decide (ix i s k = ix i s m), eb_test (ev_neI (ev_var rfl) (ev_var rfl)), fun hb => ?_, fun hb => ?_⟩
    · have hkm : k < m := by
        have h1 : ¬ ix i s k = ix i s m := by simpa using hb
        have : k ≠ m := fun z => h1 (by rw [z])
        omega
      have e1 : ix i s k + s = ix i s (k + 1) := by
        unfold ix
        rcases hs with rfl | rfl <;> omega
      have hk1 := hin (k + 1) (by omega)
      have hbest := hin (bestI (qf row s i) k) (by have := bestI_le (qf row s i) k; omega)
      refine run_seq (run_aug (a := ix i s k) (b := s) rfl (ev_var rfl) ?_)
      show Run K _ _ _
      rw [e1]
      refine run_seq (run_dput (kvs := ahL (qf row s i) i s k) rfl (ev_var rfl) (ev_var rfl) ?_ ?_)
      · unfold ahL
        rw [List.length_map, List.length_range]
        have := c.le
        omega
      · show Run K _ _ _
        rw [ahL_put hs k]
        refine run_if (b := decide (s * plc row (ix i s (bestI (qf row s i) k)) + hgt row (ix i s (bestI (qf row s i) k)) < s * plc row (ix i s (k + 1)) + hgt row (ix i s (k + 1)))) (eb_test (ev_gt (ev_add (ev_mul (ev_var rfl) (ev_row0 (ev_var rfl) (ev_var rfl) hk1.1 hk1.2) (cmul_s hs)) (ev_row1 (ev_var rfl) (ev_var rfl) hk1.1 hk1.2)) (ev_add (ev_mul (ev_var rfl) (ev_row0 (ev_var rfl) (ev_var rfl) hbest.1 hbest.2) (cmul_s hs)) (ev_row1 (ev_var rfl) (ev_var rfl) hbest.1 hbest.2)))) (fun hx => ?_) fun hx => run_next ?_
        · have hx' := of_decide_eq_true hx
          rw [hrch, hrch] at hx'
          have e2 : bestI (qf row s i) (k + 1) = k + 1 := by
            show (if rch (qf row s i) (k + 1) > rch (qf row s i) (bestI (qf row s i) k) then k + 1 else bestI (qf row s i) k) = _
            rw [if_pos hx']
          refine run_asg (ev_var rfl) ⟨r - 1, by omega, k + 1, ?_, by omega⟩
          rw [e2]
          rfl
        · have hx' := of_decide_eq_false hx
          rw [hrch, hrch] at hx'
          have e2 : bestI (qf row s i) (k + 1) = bestI (qf row s i) k := by
            show (if rch (qf row s i) (k + 1) > rch (qf row s i) (bestI (qf row s i) k) then k + 1 else bestI (qf row s i) k) = _
            rw [if_neg hx']
          refine ⟨r - 1, by omega, k + 1, ?_, by omega⟩
          rw [e2]
          rfl
    · have hkm : k = m := ix_inj hs (by simpa using hb)
      subst hkm
      refine run_seq (run_asgN (ds := intL [ix i s k]) (en_lst (ea_cons (ev_var rfl) ea_nil)) ?_)
      have hab : (frz [.im (rowD row), .im (prD ((i : Int), s)), .im (.int (ix i s k)), .im (.int s), .md (ahL (qf row s i) i s k), .im (.int (ix i s (bestI (qf row s i) k))), .im (.int (ix i s k)), .no])[4]? = some (.md (ahL (qf row s i) i s k)) := rfl
      refine run_seq (run_while (fun r e => ∃ pre j f, e = [.im (rowD row), .im (prD ((i : Int), s)), .im (.int (ix i s k)), .im (.int s), .md (ahL (qf row s i) i s k), .im (.int (ix i s (bestI (qf row s i) k))), .im (.int (ix i s k)), .mu (intL (pre ++ [ix i s j]))] ∧ j ≤ f ∧ j ≤ k ∧ r = j ∧ pre.length + j ≤ k ∧ pre ++ (chS (qf row s i) f j).map (ix i s) = (chS (qf row s i) k k).map (ix i s)) k ⟨[], k, k, rfl, Nat.le_refl _, Nat.le_refl _, rfl, by simp, rfl⟩ ?_)
      · rintro r e ⟨pre, j, f, rfl, hjf, hjk, rfl, hpl, hch⟩
        have hlast : atI (intL (pre ++ [ix i s r])) (-1) = some (.int (ix i s r)) := by
          rw [intL_snoc]
          exact atI_last _ _
        refine ⟨!decide (ix i s r = i), eb_test (ev_neI (ev_ixL (ev_var rfl) (ev_neg ev_int) hlast) (ev_pr0 (p := ((i : Int), s)) (ev_var rfl))), fun hb => ?_, fun hb => ?_⟩
        · have hr0 : r ≠ 0 := by
            intro z
            subst z
            rw [i0] at hb
            simp at hb
          obtain ⟨j, rfl⟩ : ∃ j, r = j + 1 := ⟨r - 1, by omega⟩
          obtain ⟨f', rfl⟩ : ∃ f', f = f' + 1 := ⟨f - 1, by omega⟩
          have hbl := bestI_le (qf row s i) j
          refine run_appF (ds := intL (pre ++ [ix i s (j + 1)])) (d := .int (ix i s (bestI (qf row s i) j))) rfl (ev_dget (n := 4) rfl (ev_ixL (ev_var rfl) (ev_neg ev_int) hlast) (ahL_val hs (by omega))) rfl ?_ ⟨bestI (qf row s i) j, by omega, pre ++ [ix i s (j + 1)], bestI (qf row s i) j, f', ?_, by omega, by omega, rfl, ?_, ?_⟩
          · rw [List.length_map, List.length_append, List.length_singleton]
            have := c.le
            omega
          · rw [intL_snoc (pre ++ [ix i s (j + 1)])]
            rfl
          · rw [List.length_append, List.length_singleton]
            omega
          · rw [← hch, List.append_assoc]
            rfl
        · have hr0 : r = 0 := by
            have : ix i s r = ix i s 0 := by
              rw [i0]
              simpa using hb
            exact ix_inj hs this
          subst hr0
          have e3 : chS (qf row s i) f 0 = [0] := by cases f <;> rfl
          rw [e3] at hch
          refine run_retNF (ds := (intL (pre ++ [ix i s 0])).reverse) (en_rev (ev_var rfl)) ?_ ?_
          · rw [← List.map_reverse, List.all_map, List.all_eq_true]
            exact fun _ _ => rfl
          · show _ = intL (chL row s i k)
            unfold chL
            rw [← hch, ← List.map_reverse]
            rfl
theorem felled_ix {row : List (Int × Int)} {i : Nat} {s st : Int} (hs : Sd s) (h : mn i (lastI row s i) ≤ st ∧ st ≤ mx i (lastI row s i)) : ∃ m : Nat, m ≤ (fell row s i).1 ∧ st = ix i s m := by
  unfold mn mx lastI at h
  unfold ix
  rcases hs with rfl | rfl
  · refine ⟨(st - i).toNat, ?_, ?_⟩ <;> (revert h; split <;> split <;> intros <;> omega)
  · refine ⟨(i - st).toNat, ?_, ?_⟩ <;> (revert h; split <;> split <;> intros <;> omega)
theorem ix_felled {row : List (Int × Int)} {i m : Nat} {s : Int} (hs : Sd s) (h : m ≤ (fell row s i).1) : mn i (lastI row s i) ≤ ix i s m ∧ ix i s m ≤ mx i (lastI row s i) := by
  unfold mn mx lastI ix
  rcases hs with rfl | rfl <;> constructor <;> split <;> omega
theorem run_reachedC {ds : List Da} {A : Addr} {ns : List Str} {dss : List (List Da)} (h : P_reachedC C ds A ns dss) : Run K (t_reached K C) (ent ds 2) (retO A ns dss) := by
  obtain ⟨row, i, m, s, rfl, ⟨hi, ok, hs, hm⟩, rfl, rfl, rfl⟩ := h
  have hn := ok.few
  have c := fell_chn row s i
  have hix := (ah_in (k := m) hi hs).mp (by have := c.le; omega)
  have hf := ix_felled hs hm
  refine run_seq (run_drop (d := .non) (ev_call (ds := [rowD row]) (ea_cons (ev_var rfl) ea_nil) ⟨row, rfl, ok, rfl⟩) ?_)
  refine run_seq (run_if (b := !true || !decide ((2 : Int) = 2)) (eb_or (eb_not (eb_B (ev_isiB (n := "tuple") (ev_var rfl) ev_ty rfl (by decide)))) fun _ => eb_test (ev_neI (ev_lenT (ds := [.int i, .int s]) (ev_var rfl)) ev_int)) (fun z => by simp at z) fun _ => run_next ?_)
  refine run_seq (run_drop (d := .non) (ev_call (ds := [rowD row, .int i]) (ea_cons (ev_var rfl) (ea_cons (ev_pr0 (p := ((i : Int), s)) (ev_var rfl)) ea_nil)) ⟨row, i, rfl, by omega, rfl⟩) ?_)
  refine run_seq (run_drop (d := .non) (ev_call (ds := [.int s]) (ea_cons (ev_pr1 (p := ((i : Int), s)) (ev_var rfl)) ea_nil) ⟨s, rfl, hs, rfl⟩) ?_)
  refine run_seq (run_drop (d := .non) (ev_call (ds := [rowD row, .int (ix i s m)]) (ea_cons (ev_var rfl) (ea_cons (ev_var rfl) ea_nil)) ⟨row, ix i s m, rfl, hix, rfl⟩) ?_)
  refine run_seq (run_asgT (d := .tup [.int (lastI row s i), .int (farI row s i)]) (ev_call (ds := [rowD row, .int i, .int s]) (ea_cons (ev_var rfl) (ea_cons (ev_pr0 (p := ((i : Int), s)) (ev_var rfl)) (ea_cons (ev_pr1 (p := ((i : Int), s)) (ev_var rfl)) ea_nil))) ⟨row, i, s, rfl, ⟨hi, hn, hs⟩, rfl⟩) (ts_tup2 ts_name ts_name) ?_)
  refine run_seq (run_if (b := decide (mn i (lastI row s i) ≤ ix i s m) && decide (ix i s m ≤ mx i (lastI row s i))) (eb_test (ev_chainI rfl rfl (ev_min2 (ev_pr0 (p := ((i : Int), s)) (ev_var rfl)) (ev_var rfl)) (ev_var rfl) fun _ => ev_max2 (ev_pr0 (p := ((i : Int), s)) (ev_var rfl)) (ev_var rfl))) (fun _ => ?_) fun hb => ?_)
  · exact run_retO (eo_mak1 (ev_new (en_call (ds := [rowD row, prD ((i : Int), s), .int (ix i s m)]) (ea_cons (ev_var rfl) (ea_cons (ev_var rfl) (ea_cons (ev_var rfl) ea_nil))) ⟨row, i, m, s, rfl, ⟨hi, hn, ok, hs, hm⟩, rfl⟩))) ⟨rfl, rfl, rfl⟩
  · rw [decide_eq_true hf.1, decide_eq_true hf.2] at hb
    cases hb
theorem run_reachedS {ds : List Da} {d : Da} (h : P_reachedS C ds d) : Run K (t_reached K C) (ent ds 2) (retD d) := by
  obtain ⟨row, i, s, st, rfl, ⟨hi, hst, ok, hs, hno⟩, rfl⟩ := h
  have hn := ok.few
  refine run_seq (run_drop (d := .non) (ev_call (ds := [rowD row]) (ea_cons (ev_var rfl) ea_nil) ⟨row, rfl, ok, rfl⟩) ?_)
  refine run_seq (run_if (b := !true || !decide ((2 : Int) = 2)) (eb_or (eb_not (eb_B (ev_isiB (n := "tuple") (ev_var rfl) ev_ty rfl (by decide)))) fun _ => eb_test (ev_neI (ev_lenT (ds := [.int i, .int s]) (ev_var rfl)) ev_int)) (fun z => by simp at z) fun _ => run_next ?_)
  refine run_seq (run_drop (d := .non) (ev_call (ds := [rowD row, .int i]) (ea_cons (ev_var rfl) (ea_cons (ev_pr0 (p := ((i : Int), s)) (ev_var rfl)) ea_nil)) ⟨row, i, rfl, by omega, rfl⟩) ?_)
  refine run_seq (run_drop (d := .non) (ev_call (ds := [.int s]) (ea_cons (ev_pr1 (p := ((i : Int), s)) (ev_var rfl)) ea_nil) ⟨s, rfl, hs, rfl⟩) ?_)
  refine run_seq (run_drop (d := .non) (ev_call (ds := [rowD row, .int st]) (ea_cons (ev_var rfl) (ea_cons (ev_var rfl) ea_nil)) ⟨row, st, rfl, hst, rfl⟩) ?_)
  refine run_seq (run_asgT (d := .tup [.int (lastI row s i), .int (farI row s i)]) (ev_call (ds := [rowD row, .int i, .int s]) (ea_cons (ev_var rfl) (ea_cons (ev_pr0 (p := ((i : Int), s)) (ev_var rfl)) (ea_cons (ev_pr1 (p := ((i : Int), s)) (ev_var rfl)) ea_nil))) ⟨row, i, s, rfl, ⟨hi, hn, hs⟩, rfl⟩) (ts_tup2 ts_name ts_name) ?_)
  refine run_seq (run_if (b := decide (mn i (lastI row s i) ≤ st) && decide (st ≤ mx i (lastI row s i))) (eb_test (ev_chainI rfl rfl (ev_min2 (ev_pr0 (p := ((i : Int), s)) (ev_var rfl)) (ev_var rfl)) (ev_var rfl) fun _ => ev_max2 (ev_pr0 (p := ((i : Int), s)) (ev_var rfl)) (ev_var rfl))) (fun hb => ?_) fun _ => run_next ?_)
  · simp only [Bool.and_eq_true, decide_eq_true_eq] at hb
    exact absurd hb hno
  · exact run_ret (ev_mak1 (ea_cons (ev_mul (ev_pr1 (p := ((i : Int), s)) (ev_var rfl)) (ev_var rfl) (cmul_s hs)) ea_nil) fun x dx v1 H Q E h1 h2 => ⟨x, dx, v1, rfl, h1, h2⟩) rfl
theorem len_reached {vs : List V} {H : Hp} {Q : VK} {E : XK} (h : sp_reached K C vs H Q E) : vs.length = 3 := by
  rcases h with h | h
  · exact len_O (m := 3) (fun ds A ns dss ⟨_, _, _, _, e, _⟩ => by rw [e]; rfl) h
  · exact len_P (m := 3) (fun ds d ⟨_, _, _, _, e, _⟩ => by rw [e]; rfl) h
theorem pure_reached {vs : List V} {H : Hp} {Q : VK} {E : XK} (h : sp_reached K C vs H Q E) : t_reached K C { nx := fun _ H' => Q .non H', rt := Q } (start ["row", "push", "stone", "last", "far"] vs) H := by
  rcases h with h | h
  · exact fnO_of 2 (fun ds A ns dss ⟨_, _, _, _, e, _⟩ => by rw [e]; rfl) (fun ds A ns dss p => run_reachedC p) h
  · exact fnP_of 2 (fun ds d ⟨_, _, _, _, e, _⟩ => by rw [e]; rfl) (fun ds d p => run_reachedS p) h
end
section
variable {K : PySem.W.Frag} {C : CS} {vs : List V} {H : Hp} {Q : VK} {E : XK}
theorem lenP_Chain_shows {ds : List Da} {d : Da} (h : P_Chain_shows C ds d) : ds.length = 4 := by
  unfold P_Chain_shows at h
  repeat (rcases h with ⟨z, h⟩; first | (subst z; rfl) | skip)
theorem len_Chain_shows (h : sp_Chain_shows K C vs H Q E) : vs.length = 4 := len_P (m := 4) (fun _ _ p => lenP_Chain_shows p) h
theorem pure_Chain_shows (A : FxC K C) (h : sp_Chain_shows K C vs H Q E) : t_Chain_shows K C { nx := fun _ H' => Q .non H', rt := Q } (start ["self", "row", "push", "stone", "at", "place", "height", "one"] vs) H := fnP_of 4 (fun _ _ p => by rw [lenP_Chain_shows p] <;> rfl) (fun _ _ p => run_Chain_shows A p) h
theorem lenP_Stands_shows {ds : List Da} {d : Da} (h : P_Stands_shows C ds d) : ds.length = 4 := by
  unfold P_Stands_shows at h
  repeat (rcases h with ⟨z, h⟩; first | (subst z; rfl) | skip)
theorem len_Stands_shows (h : sp_Stands_shows K C vs H Q E) : vs.length = 4 := len_P (m := 4) (fun _ _ p => lenP_Stands_shows p) h
theorem pure_Stands_shows (A : FxS K C) (h : sp_Stands_shows K C vs H Q E) : t_Stands_shows K C { nx := fun _ H' => Q .non H', rt := Q } (start ["self", "row", "push", "stone", "side", "start", "far", "place", "height"] vs) H := fnP_of 5 (fun _ _ p => by rw [lenP_Stands_shows p] <;> rfl) (fun _ _ p => run_Stands_shows A p) h
theorem lenP_chain_to {ds es : List Da} (h : P_chain_to ds es) : ds.length = 3 := by
  unfold P_chain_to at h
  repeat (rcases h with ⟨z, h⟩; first | (subst z; rfl) | skip)
theorem len_chain_to (h : sp_chain_to K C vs H Q E) : vs.length = 3 := len_L (m := 3) (fun _ _ p => lenP_chain_to p) h
theorem pure_chain_to (h : sp_chain_to K C vs H Q E) : t_chain_to K C { nx := fun _ H' => Q .non H', rt := Q } (start ["row", "push", "stone", "side", "ahead", "best", "at", "found"] vs) H := fnL_of 5 (fun _ _ p => by rw [lenP_chain_to p] <;> rfl) (fun _ _ p => run_chain_to p) h
theorem lenP_law_chain {ds : List Da} {d : Da} (h : P_law_chain ds d) : ds.length = 4 := by
  unfold P_law_chain at h
  repeat (rcases h with ⟨z, h⟩; first | (subst z; rfl) | skip)
theorem len_law_chain (h : sp_law_chain K C vs H Q E) : vs.length = 4 := len_P (m := 4) (fun _ _ p => lenP_law_chain p) h
theorem pure_law_chain (h : sp_law_chain K C vs H Q E) : t_law_chain K C { nx := fun _ H' => Q .non H', rt := Q } (start ["_law_row_here", "_law_push", "_law_stone", "_law_stones", "_law_one", "_law_other", "_law_place", "_law_height"] vs) H := fnP_of 4 (fun _ _ p => by rw [lenP_law_chain p] <;> rfl) (fun _ _ p => run_law_chain p) h
theorem lenP_law_stands {ds : List Da} {d : Da} (h : P_law_stands ds d) : ds.length = 4 := by
  unfold P_law_stands at h
  repeat (rcases h with ⟨z, h⟩; first | (subst z; rfl) | skip)
theorem len_law_stands (h : sp_law_stands K C vs H Q E) : vs.length = 4 := len_P (m := 4) (fun _ _ p => lenP_law_stands p) h
theorem pure_law_stands (h : sp_law_stands K C vs H Q E) : t_law_stands K C { nx := fun _ H' => Q .non H', rt := Q } (start ["_law_row_here", "_law_push", "_law_stone", "_law_far", "_law_side", "_law_here", "_law_there", "_law_place", "_law_height"] vs) H := fnP_of 5 (fun _ _ p => by rw [lenP_law_stands p] <;> rfl) (fun _ _ p => run_law_stands p) h
end
end FR

/-! max over tuples; every second of a list; how many in a set; a walk over new lists. -/
namespace FR
open PySem L2 Evl
open PySem.Spec PyProof.Rows

/-! ### max(xs), alike data -/
def rMaxD (K : PySem.W.Frag) : List V → Hp → VK → Prop := fun vs H Q => ∃ (a : Addr) (xs : List V) (d : PyData) (ds : List PyData), vs = [V.ref a] ∧ SqL K H a xs ∧ DpAll K H xs (d :: ds) ∧ PySem.W.AlikeAll (d :: ds) ∧ PyData.depthAll (d :: ds) ≤ 60 ∧
  ∀ (i : Nat) (y : V), xs[i]? = some y → (d :: ds)[i]? = some (PySem.W.maxD d ds) → Q y H
theorem dpAll_get {K : PySem.W.Frag} {H : Hp} : ∀ {xs : List V} {ds : List PyData} {i : Nat} {y : V}, DpAll K H xs ds → xs[i]? = some y → ∃ d, ds[i]? = some d ∧ Dp K H y d
  | _, _, i, y, .nil, h => by simp at h
  | _, _, 0, y, .cons h1 h2, h => ⟨_, rfl, by
    have : _ = y := Option.some.inj h
    rw [← this]
    exact h1⟩
  | _, _, i + 1, y, .cons h1 h2, h => by
    obtain ⟨d, e, r⟩ := dpAll_get (i := i) h2 (by simpa using h)
    exact ⟨d, by simpa using e, r⟩
theorem vals_get {xs : List V} {us : List Value} (h : Vals xs us) : ∀ {i : Nat} {u : Value}, us[i]? = some u → ∃ y, xs[i]? = some y ∧ RelV y u := by
  induction h with
  | nil => intro i u h; simp at h
  | cons r t ih =>
    intro i u h
    cases i with
    | zero => exact ⟨_, rfl, by
        have : _ = u := Option.some.inj h
        rw [← this]
        exact r⟩
    | succ i =>
      obtain ⟨y, e, r'⟩ := ih (i := i) (by simpa using h)
      exact ⟨y, by simpa using e, r'⟩
theorem maxD_mem : ∀ (ds : List PyData) (d : PyData), PySem.W.maxD d ds ∈ d :: ds
  | [], d => List.mem_cons_self
  | e :: ds, d => by
    show PySem.W.maxD (if PySem.W.dataLt d e then e else d) ds ∈ _
    have := maxD_mem ds (if PySem.W.dataLt d e then e else d)
    rcases List.mem_cons.mp this with h | h
    · rw [h]
      split
      · exact List.mem_cons_of_mem _ List.mem_cons_self
      · exact List.mem_cons_self
    · exact List.mem_cons_of_mem _ (List.mem_cons_of_mem _ h)
theorem cr_maxD {X : Cx} (hc : X.calm = true) (hu : X.A.units + 64 < cLine) : CallR X (.builtin "max") (rMaxD X.K) := by
  intro pins s σ H vs us Q I r h
  obtain ⟨a, xs, d, ds, rfl, hs, hd, ha, hp, q⟩ := h
  obtain ⟨its, rv, hl, _⟩ := I.list hs
  rw [Vals.ref1 r]
  obtain ⟨as, hr⟩ := Dp.readsAll I (d :: ds) xs its hd rv
  refine PySem.W.max_list_data (I.ok.hd hc) hl.isList (by simpa using hr) ha (by omega) fun i v h' tk bs hv hrd hk => ?_
  obtain ⟨y, hy, ry⟩ := vals_get rv (i := i) (u := v) (by simpa using hv)
  obtain ⟨e, he, hde⟩ := dpAll_get hd hy
  have I' := I.kept (t' := tk) hk
  obtain ⟨cs, hrd2⟩ := Dp.reads I' e y v hde ry
  have : e = PySem.W.maxD d ds := PySem.W.alike_unique e _ v _ _ (ha.1 e (List.mem_of_getElem? he) _ (maxD_mem ds d)) hrd2 hrd
  exact ⟨y, H, I', ry, q i y hy (by rw [← this]; exact he)⟩
abbrev Tri : Type := Int × (Int × Int)
def triD (t : Tri) : Da := .tup [.int t.1, prD t.2]
theorem py_tri (t : Tri) : py (triD t) = PySem.W.Datum.toD t := by
  obtain ⟨a, b, c⟩ := t
  simp only [triD, prD, py, pyAll]
  rfl
theorem toD_inj {t u : Tri} (h : PySem.W.Datum.toD t = PySem.W.Datum.toD u) : t = u := by
  obtain ⟨a, b, c⟩ := t
  obtain ⟨d, e, f⟩ := u
  have h' : PyData.tuple [.int a, .tuple [.int b, .int c]] = PyData.tuple [.int d, .tuple [.int e, .int f]] := h
  simp only [PyData.tuple.injEq, List.cons.injEq, PyData.int.injEq, and_true] at h'
  obtain ⟨rfl, rfl, rfl⟩ := h'
  rfl
section
variable {K : PySem.W.Frag} {env : En} {te ta tb : TE} {ds es : List Da} {i j : Int}
theorem ev_maxT {t : Tri} {ts : List Tri} (ha : EvE K ta env (.lst ((t :: ts).map triD))) : EvE K (tCB (rMaxD K) (tCons ta tNil)) env (triD (PySem.W.maxOf t ts)) :=
  ev_cb (ea_cons ha ea_nil) fun B H vs e r Q q => by
    obtain ⟨v, rfl, h3⟩ := one_rp r
    simp only [Rp] at h3
    obtain ⟨a, xs, rfl, h4, h5⟩ := h3
    have ep : pyAll ((t :: ts).map triD) = (t :: ts).map PySem.W.Datum.toD := by
      rw [pyAll_map]
      exact List.map_congr_left fun x _ => py_tri x
    have hd := dpAll_of e _ _ (isPyAll_map (f := triD) (xs := t :: ts) fun x _ => by simp [triD, prD, isPy, isPyAll]) h5
    rw [ep] at hd
    refine ⟨a, xs, PySem.W.Datum.toD t, ts.map PySem.W.Datum.toD, rfl, sq_of (e _ _ h4), hd, PySem.W.alikeAll_datum (t :: ts), ?_, fun i y hy hm => ?_⟩
    · have := depAll (f := fun u : Tri => PySem.W.Datum.toD u) (n := 2) (xs := t :: ts) fun u => by
        obtain ⟨a, b, c⟩ := u
        show (PyData.tuple [.int a, .tuple [.int b, .int c]]).depth ≤ 2
        simp [PyData.depth, PyData.depthAll]
      exact Nat.le_trans this (by decide)
    · rw [PySem.W.maxD_map] at hm
      have hm' : ((t :: ts).map PySem.W.Datum.toD)[i]? = some (PySem.W.Datum.toD (PySem.W.maxOf t ts)) := hm
      rw [List.getElem?_map] at hm'
      obtain ⟨d, hd2, rd⟩ := h5.getV hy
      rw [List.getElem?_map] at hd2
      cases hu : (t :: ts)[i]? with
      | none =>
        rw [hu] at hd2
        cases hd2
      | some u =>
        rw [hu] at hd2 hm'
        have e1 : triD u = d := Option.some.inj hd2
        have e2 : u = PySem.W.maxOf t ts := toD_inj (Option.some.inj hm')
        exact q y B H (Gr.refl e) (by rw [← e2, e1]; exact rd)
theorem max_mem : ∀ (ts : List Tri) (t : Tri), PySem.W.maxOf t ts ∈ t :: ts
  | [], t => List.mem_cons_self
  | e :: ds, d => by
    show PySem.W.maxOf (if PySem.W.DatumOrd.lt d e = true then e else d) ds ∈ _
    have := max_mem ds (if PySem.W.DatumOrd.lt d e = true then e else d)
    rcases List.mem_cons.mp this with h | h
    · rw [h]
      split
      · exact List.mem_cons_of_mem _ List.mem_cons_self
      · exact List.mem_cons_self
    · exact List.mem_cons_of_mem _ (List.mem_cons_of_mem _ h)
theorem lt_tri (a b : Tri) : (PySem.W.DatumOrd.lt a b = true → a.1 ≤ b.1) ∧ (PySem.W.DatumOrd.lt a b = false → b.1 ≤ a.1) := by
  have e : PySem.W.DatumOrd.lt a b = if a.1 = b.1 then PySem.W.DatumOrd.lt a.2 b.2 else decide (a.1 < b.1) := rfl
  rw [e]
  by_cases h : a.1 = b.1
  · rw [if_pos h]
    exact ⟨fun _ => by omega, fun _ => by omega⟩
  · rw [if_neg h]
    exact ⟨fun z => by have := of_decide_eq_true z; omega, fun z => by have := of_decide_eq_false z; omega⟩
theorem max_ge : ∀ (ts : List Tri) (t : Tri), ∀ u ∈ t :: ts, u.1 ≤ (PySem.W.maxOf t ts).1
  | [], t, u, h => by
    have : u = t := by simpa using h
    rw [this]
    exact Int.le_refl _
  | e :: ds, d, u, h => by
    show u.1 ≤ (PySem.W.maxOf (if PySem.W.DatumOrd.lt d e = true then e else d) ds).1
    have ih := max_ge ds (if PySem.W.DatumOrd.lt d e = true then e else d)
    have h0 := ih _ List.mem_cons_self
    obtain ⟨l1, l2⟩ := lt_tri d e
    by_cases hl : PySem.W.DatumOrd.lt d e = true
    · rw [if_pos hl] at h0 ih ⊢
      have := l1 hl
      rcases List.mem_cons.mp h with rfl | h
      · omega
      · rcases List.mem_cons.mp h with rfl | h
        · exact h0
        · exact ih u (List.mem_cons_of_mem _ h)
    · rw [if_neg hl] at h0 ih ⊢
      have := l2 (by simpa using hl)
      rcases List.mem_cons.mp h with rfl | h
      · exact h0
      · rcases List.mem_cons.mp h with rfl | h
        · omega
        · exact ih u (List.mem_cons_of_mem _ h)

/-! ### len(set(xs)), no int twice -/
theorem ev_lenSet {ns : List Int} (ha : EvE K ta env (intsD ns)) (h1 : ns.Nodup) (h2 : ns.length ≤ 4000) : EvE K (RZ.tLenSetI K ta) env (.int (ns.length : Int)) := fun σ B s H1 e Q q =>
  ha σ B s H1 e _ fun v B2 H2 g r => by
    simp only [intsD, Rp] at r
    obtain ⟨a, xs, rfl, h3, h4⟩ := r
    have z := rp_ints h4
    subst z
    exact ⟨a, ns, rfl, sq_of (g.h _ _ h3), h1, h2, q _ B2 H2 g (by simp only [Rp])⟩

/-! ### xs[j::2] -/
def ev2 {α : Type} : List α → List α
  | [] => []
  | [a] => [a]
  | a :: _ :: r => a :: ev2 r
def tSl2 (K : PySem.W.Frag) (te : TE) (tl : TO) : TE := fun σ H Q => te σ H fun x H1 => tl σ H1 fun l H2 => ∃ (a : Addr) (xs : List V), ∃ j : Nat, x = .ref a ∧ SqL K H2 a xs ∧ (l = none ∧ j = 0 ∨ l = some (j : Int)) ∧ ∀ p, H2 p = none → Q (.ref p) (upd H2 p (.lst (ev2 (xs.drop j))))
theorem ev2_len {α : Type} : ∀ xs : List α, (ev2 xs).length = (xs.length + 1) / 2
  | [] => by simp [ev2]
  | [a] => by simp [ev2]
  | a :: b :: r => by
    show (ev2 r).length + 1 = _
    rw [ev2_len r]
    simp
    omega
theorem ev2_pick {α : Type} : ∀ xs : List α, (List.range ((xs.length + 1) / 2)).filterMap (fun k => xs[2 * k]?) = ev2 xs
  | [] => by simp [ev2]
  | [a] => by simp [ev2]
  | a :: b :: r => by
    have e : ((a :: b :: r).length + 1) / 2 = (r.length + 1) / 2 + 1 := by simp; omega
    rw [e, List.range_succ_eq_map, List.filterMap_cons]
    show a :: _ = a :: ev2 r
    rw [List.filterMap_map, ← ev2_pick r]
    rfl
theorem vals_ev2 : ∀ {xs : List V} {us : List Value}, Vals xs us → Vals (ev2 xs) (ev2 us)
  | [], _, .nil => .nil
  | [_], _, .cons r .nil => .cons r .nil
  | _ :: _ :: _, _, .cons r (.cons _ t) => .cons r (vals_ev2 t)
theorem slice_two (items : Array Value) (l : Option Int) (j : Nat) (h : l = none ∧ j = 0 ∨ l = some (j : Int)) : slicePick items l none (some 2) = (ev2 (items.toList.drop j)).toArray := by
  have hb : sliceBounds l none (some 2) items.size = (((min j items.size : Nat) : Int), ((items.size : Nat) : Int), 2) := by
    rcases h with ⟨rfl, rfl⟩ | rfl
    · simp [sliceBounds]
    · have : ¬ ((j : Int) < 0) := by omega
      simp only [sliceBounds, Option.getD, this, if_false]
      refine Prod.ext ?_ rfl
      simp
      omega
  unfold slicePick
  rw [hb]
  unfold sliceRange
  rw [← ev2_pick]
  congr 1
  have hc : (if (2 : Int) > 0 then (if ((min j items.size : Nat) : Int) < (items.size : Int) then ((items.size : Int) - ((min j items.size : Nat) : Int) + 2 - 1) / 2 else 0) else (if ((min j items.size : Nat) : Int) > (items.size : Int) then (((min j items.size : Nat) : Int) - (items.size : Int) - 2 - 1) / (-2) else 0)).toNat = ((items.toList.drop j).length + 1) / 2 := by
    rw [if_pos (by decide), List.length_drop, Array.length_toList]
    split <;> omega
  show ((List.range _).map _).filterMap _ = _
  rw [hc, List.filterMap_map]
  by_cases hj : j < items.size
  · congr 1
    funext k
    show items[(((min j items.size : Nat) : Int) + 2 * (k : Int)).toNat]? = (items.toList.drop j)[2 * k]?
    have e : (((min j items.size : Nat) : Int) + 2 * (k : Int)).toNat = j + 2 * k := by omega
    rw [e, List.getElem?_drop, Array.getElem?_toList]
  · have e : ((items.toList.drop j).length + 1) / 2 = 0 := by
      rw [List.length_drop, Array.length_toList]
      omega
    rw [e]
    rfl
theorem pe_slice2 {X : Cx} {e : Expr} {lo : Option Expr} {te : TE} {tl : TO} {k : Nat} {p1 p3 pos : Pos} (he : PE X e te) (hl : PO X lo tl) : PE X (.Subscript e (.Slice lo none (some (.Constant (.int 2) k p1)) p3) pos) (tSl2 X.K te tl) := by
  refine ⟨fun pins s σ H Q I h => ?_⟩
  refine Subscript_ (thn (he.run pins s σ H _ I h) fun v s1 ⟨x, H1, I1, r1, q1⟩ => ?_)
  refine wpAny_Slice (thn (hl.run pins s1 σ H1 _ I1 q1) fun vl s2 ⟨l, H2, I2, pl, q2⟩ => ?_)
  obtain ⟨a, xs, j, ex, hx, hj, q⟩ := q2
  subst ex
  cases r1
  have hst : PO X (some (.Constant (.int 2) k p1)) (tPart (tC (.int 2))) := po_some pe_int
  refine thn (po_none.run pins s2 σ H2 (fun o H3 => o = none ∧ H3 = H2) I2 ⟨rfl, rfl⟩) fun vu s3 ⟨u, H3, I3, pu, eu, e3⟩ => ?_
  subst eu e3
  refine thn (hst.run pins s3 σ H3 (fun o H4 => o = some 2 ∧ H4 = H3) I3 ⟨2, rfl, rfl, rfl⟩) fun vs s4 ⟨o, H4, I4, ps, eo, e4⟩ => ?_
  subst eo e4
  have I5 : Inv X pins σ H4 { s4 with heap := s4.heap.push { cls := .type "slice", data := .fields #[vl, vu, vs] } } := I4.kept (t' := s4.toks) fun b ob q => Heap.get?_push_of_some _ q
  obtain ⟨its, r, ht, hz⟩ := I5.list hx
  have hlen := r.length
  show wpAny (model X.prog X.w) X.A (subscriptTail e (.Slice lo none (some (.Constant (.int 2) k p1)) p3) (.ref a) (.ref s4.heap.objs.size)) (EP X pins σ Q) X.xe { s4 with heap := s4.heap.push { cls := .type "slice", data := .fields #[vl, vu, vs] } }
  refine tail_any (ops := [.ref a, .ref s4.heap.objs.size]) ht.isList.typeIs (PySem.slot_list_getitem.lookup) ?_ (by with_unfolding_all rfl)
  refine wpAny_getItem_list_slice ht.isList (Heap.IsSliceOf.new _ vl vu vs) pl pu ps (by decide) ?_ (by rw [List.size_toArray]; omega)
  rw [slice_two _ _ _ hj]
  refine ⟨.ref _, _, I5.laid (t' := s4.toks) (o := .lst (ev2 (xs.drop j))) (fun b ob q => Heap.get?_push_of_some _ q) (Nat.le_refl _) ?_, rfl, q _ (I5.hok.fresh (Nat.le_refl _))⟩
  exact ⟨by rw [ev2_len, List.length_drop]; omega, _, 0, vals_ev2 (r.drop j), Heap.get?_push_size _ rfl⟩
theorem rp_ev2 {B : Hp} : ∀ {ds : List Da} {xs : List V}, RpAll K B ds xs → RpAll K B (ev2 ds) (ev2 xs)
  | [], xs, h => by
    have : xs = [] := by simpa only [RpAll] using h
    subst this
    exact .nil
  | [d], xs, h => by
    obtain ⟨v, t, rfl, h2, h3⟩ := h.uncons
    have : t = [] := by simpa only [RpAll] using h3
    subst this
    exact .cons h2 .nil
  | d :: d' :: r, xs, h => by
    obtain ⟨v, t, rfl, h2, h3⟩ := h.uncons
    obtain ⟨v', t', rfl, h4, h5⟩ := h3.uncons
    exact .cons h2 (rp_ev2 h5)
theorem ev2_map {α β : Type} (f : α → β) : ∀ xs : List α, ev2 (xs.map f) = (ev2 xs).map f
  | [] => rfl
  | [a] => rfl
  | a :: b :: r => by
    show f a :: ev2 (r.map f) = f a :: (ev2 r).map f
    rw [ev2_map f r]
theorem rp_drop {B : Hp} : ∀ {ds : List Da} {xs : List V} (n : Nat), RpAll K B ds xs → RpAll K B (ds.drop n) (xs.drop n)
  | ds, xs, 0, h => h
  | [], xs, n + 1, h => by
    have : xs = [] := by simpa only [RpAll] using h
    subst this
    exact .nil
  | d :: r, xs, n + 1, h => by
    obtain ⟨v, t, rfl, h2, h3⟩ := h.uncons
    exact rp_drop n h3
theorem en_sl2 {tl : TO} {l : Option Int} {k : Nat} (h : EvE K te env (.lst ds)) (h1 : EvO K tl env l) (hl : l = none ∧ k = 0 ∨ l = some (k : Int)) : EvN K (tSl2 K te tl) env (ev2 (ds.drop k)) := fun σ B s H1 e Q q =>
  h σ B s H1 e _ fun v B2 H2 g r => h1 σ B2 (s.mono g.b) H2 g.h _ fun H3 e3 => by
    have r' := r
    simp only [Rp] at r'
    obtain ⟨a, xs, rfl, h2, h3⟩ := r'
    have g2 := g.trans (Gr.keep g.h e3)
    exact ⟨a, xs, k, rfl, sq_of (e3 _ _ (g.h _ _ h2)), hl, fun p hp => q p _ B2 _ (g2.trans (Gr.put g2.h hp)) (fresh_back g2.k hp) (fresh_back g2.h hp) upd_same (rp_ev2 (rp_drop k h3))⟩
end
end FR

/-! Spans; the fewest pushes; the pushes to the right: the mathematics. -/
namespace FR
open PySem L2 Evl
theorem last_rng {row : List (Int × Int)} {s : Int} {i : Nat} (hi : i < row.length) (hs : Sd s) : 0 ≤ lastI row s i ∧ lastI row s i < row.length := by
  have c := fell_chn row s i
  exact (ah_in (k := (fell row s i).1) hi hs).mp c.le
theorem last_ge {row : List (Int × Int)} {i : Nat} : (i : Int) ≤ lastI row 1 i := by
  unfold lastI
  omega
theorem mn_le (a b : Int) : mn a b ≤ a ∧ mn a b ≤ b := by
  unfold mn
  split <;> omega
theorem mx_ge (a b : Int) : a ≤ mx a b ∧ b ≤ mx a b := by
  unfold mx
  split <;> omega
theorem mn_or (a b : Int) : mn a b = a ∨ mn a b = b := by
  unfold mn
  split <;> simp
theorem mx_or (a b : Int) : mx a b = a ∨ mx a b = b := by
  unfold mx
  split <;> simp
/-- a span: the first, the last, the push -/
abbrev Span : Type := Int × Tri
def spanT (row : List (Int × Int)) (i : Nat) (s : Int) : Span := (mn i (lastI row s i), (mx i (lastI row s i), ((i : Int), s)))
def spD (t : Span) : Da := .tup [.int t.1, .int t.2.1, prD t.2.2]
def spansK (row : List (Int × Int)) (k : Nat) : List Span := (List.range k).flatMap fun i => [spanT row i 1, spanT row i (-1)]
def spansL (row : List (Int × Int)) : List Span := spansK row row.length
theorem spansK_succ (row : List (Int × Int)) (k : Nat) : spansK row (k + 1) = spansK row k ++ [spanT row k 1, spanT row k (-1)] := by
  unfold spansK
  rw [List.range_succ, List.flatMap_append]
  simp
theorem spansK_len (row : List (Int × Int)) : ∀ k, (spansK row k).length = 2 * k
  | 0 => rfl
  | k + 1 => by
    rw [spansK_succ, List.length_append, spansK_len row k]
    simp
    omega
theorem span_in {row : List (Int × Int)} {t : Span} : t ∈ spansL row ↔ ∃ i : Nat, ∃ s, i < row.length ∧ Sd s ∧ t = spanT row i s := by
  unfold spansL spansK
  rw [List.mem_flatMap]
  constructor
  · rintro ⟨i, hi, h⟩
    have hi' := List.mem_range.mp hi
    simp only [List.mem_cons, List.not_mem_nil, or_false] at h
    rcases h with rfl | rfl
    · exact ⟨i, 1, hi', .inl rfl, rfl⟩
    · exact ⟨i, -1, hi', .inr rfl, rfl⟩
  · rintro ⟨i, s, hi, hs, rfl⟩
    refine ⟨i, List.mem_range.mpr hi, ?_⟩
    rcases hs with rfl | rfl <;> simp
def inS (t : Span) (z : Int) : Bool := decide (t.1 ≤ z) && decide (z ≤ t.2.1)
theorem inS_iff {t : Span} {z : Int} : inS t z = true ↔ t.1 ≤ z ∧ z ≤ t.2.1 := by
  unfold inS
  rw [Bool.and_eq_true, decide_eq_true_eq, decide_eq_true_eq]
def candL (row : List (Int × Int)) (z : Int) : List Tri := ((spansL row).filter fun t => inS t z).map fun t => t.2
def bestT (row : List (Int × Int)) (z : Int) : Tri := match candL row z with
  | [] => (z, (0, 1))
  | t :: ts => PySem.W.maxOf t ts
theorem best_ok {row : List (Int × Int)} {z : Int} (h0 : 0 ≤ z) (h1 : z < row.length) : (∃ t ts, candL row z = t :: ts ∧ bestT row z = PySem.W.maxOf t ts) ∧
    (∃ t ∈ spansL row, inS t z = true ∧ t.2 = bestT row z) ∧ ∀ t ∈ spansL row, inS t z = true → t.2.1 ≤ (bestT row z).1 := by
  have hm : (spanT row z.toNat 1) ∈ (spansL row).filter fun t => inS t z := by
    refine List.mem_filter.mpr ⟨span_in.mpr ⟨z.toNat, 1, by omega, .inl rfl, rfl⟩, inS_iff.mpr ⟨?_, ?_⟩⟩
    · have := (mn_le (z.toNat : Int) (lastI row 1 z.toNat)).1
      show mn (z.toNat : Int) _ ≤ z
      omega
    · have := (mx_ge (z.toNat : Int) (lastI row 1 z.toNat)).1
      show z ≤ mx (z.toNat : Int) _
      omega
  have hne : candL row z ≠ [] := by
    unfold candL
    intro e
    rw [List.map_eq_nil_iff] at e
    rw [e] at hm
    cases hm
  have hb : ∃ t ts, candL row z = t :: ts ∧ bestT row z = PySem.W.maxOf t ts := by
    unfold bestT
    cases e : candL row z with
    | nil => exact absurd e hne
    | cons t ts => exact ⟨t, ts, rfl, rfl⟩
  obtain ⟨t, ts, e1, e2⟩ := hb
  refine ⟨⟨t, ts, e1, e2⟩, ?_, fun u hu hz => ?_⟩
  · have := max_mem ts t
    rw [← e2, ← e1] at this
    obtain ⟨u, hu, e⟩ := List.mem_map.mp this
    obtain ⟨hu1, hu2⟩ := List.mem_filter.mp hu
    exact ⟨u, hu1, hu2, e⟩
  · rw [e2]
    refine max_ge ts t u.2 ?_
    rw [← e1]
    exact List.mem_map.mpr ⟨u, List.mem_filter.mpr ⟨hu, hz⟩, rfl⟩
/-- the greedy choice -/
def fewF (row : List (Int × Int)) : Nat → Int → List ((Int × Int) × Int)
  | 0, _ => []
  | f + 1, z => if z < row.length then ((bestT row z).2, z) :: fewF row f ((bestT row z).1 + 1) else []
def fewL (row : List (Int × Int)) : List ((Int × Int) × Int) := fewF row row.length 0
def fewP (row : List (Int × Int)) : List (Int × Int) := (fewL row).map fun q => q.1
def fewZ (row : List (Int × Int)) : List Int := (fewL row).map fun q => q.2
theorem best_end {row : List (Int × Int)} {z : Int} (h0 : 0 ≤ z) (h1 : z < row.length) : z ≤ (bestT row z).1 ∧ (bestT row z).1 < row.length := by
  obtain ⟨_, ⟨t, ht, hz, e⟩, _⟩ := best_ok h0 h1
  rw [← e]
  refine ⟨(inS_iff.mp hz).2, ?_⟩
  obtain ⟨i, s, hi, hs, rfl⟩ := span_in.mp ht
  have := last_rng hi hs
  show mx (i : Int) _ < _
  rcases mx_or (i : Int) (lastI row s i) with e | e <;> rw [e] <;> omega
theorem fewF_len (row : List (Int × Int)) : ∀ f z, (fewF row f z).length ≤ f
  | 0, z => Nat.le_refl _
  | f + 1, z => by
    unfold fewF
    split
    · rw [List.length_cons]
      have := fewF_len row f ((bestT row z).1 + 1)
      omega
    · simp
/-- what the choice gives -/
structure Few (row : List (Int × Int)) (z : Int) (q : List ((Int × Int) × Int)) : Prop where
  rise : (q.map fun x => x.2).Pairwise (· < ·)
  rng : ∀ x ∈ q, z ≤ x.2 ∧ x.2 < row.length
  push : ∀ x ∈ q, ∃ t ∈ spansL row, inS t x.2 = true ∧ t.2.2 = x.1
  cov : ∀ k : Int, z ≤ k → k < row.length → ∃ x ∈ q, ∃ t ∈ spansL row, t.2.2 = x.1 ∧ inS t k = true
  ind : ∀ t ∈ spansL row, ∀ x ∈ q, ∀ y ∈ q, inS t x.2 = true → inS t y.2 = true → x.2 = y.2
theorem fewF_ok (row : List (Int × Int)) : ∀ (f : Nat) (z : Int), 0 ≤ z → (row.length : Int) ≤ z + f → Few row z (fewF row f z)
  | 0, z, h0, hf => ⟨by simp [fewF], fun x hx => by simp [fewF] at hx, fun x hx => by simp [fewF] at hx, fun k h1 h2 => by omega, fun t ht x hx => by simp [fewF] at hx⟩
  | f + 1, z, h0, hf => by
    unfold fewF
    by_cases hz : z < row.length
    · rw [if_pos hz]
      obtain ⟨_, ⟨t, ht, hti, e⟩, hmax⟩ := best_ok h0 hz
      obtain ⟨e1, e2⟩ := best_end h0 hz
      have ih := fewF_ok row f ((bestT row z).1 + 1) (by omega) (by omega)
      have cross : ∀ u ∈ spansL row, ∀ y ∈ fewF row f ((bestT row z).1 + 1), inS u z = true → inS u y.2 = true → False := fun u hu y hy h1 h2 => by
        have := hmax u hu h1
        have := (inS_iff.mp h2).2
        have := (ih.rng y hy).1
        omega
      refine ⟨?_, ?_, ?_, ?_, ?_⟩
      · rw [List.map_cons, List.pairwise_cons]
        refine ⟨fun a ha => ?_, ih.rise⟩
        obtain ⟨y, hy, rfl⟩ := List.mem_map.mp ha
        have := (ih.rng y hy).1
        show z < y.2
        omega
      · intro x hx
        rcases List.mem_cons.mp hx with rfl | hx
        · exact ⟨Int.le_refl _, hz⟩
        · have := ih.rng x hx
          omega
      · intro x hx
        rcases List.mem_cons.mp hx with rfl | hx
        · exact ⟨t, ht, hti, by rw [e]⟩
        · exact ih.push x hx
      · intro k h1 h2
        by_cases hk : k ≤ (bestT row z).1
        · refine ⟨_, List.mem_cons_self, t, ht, by rw [e], inS_iff.mpr ⟨?_, by rw [e]; exact hk⟩⟩
          have := (inS_iff.mp hti).1
          omega
        · obtain ⟨x, hx, r⟩ := ih.cov k (by omega) h2
          exact ⟨x, List.mem_cons_of_mem _ hx, r⟩
      · intro u hu x hx y hy h1 h2
        rcases List.mem_cons.mp hx with rfl | hx
        · rcases List.mem_cons.mp hy with rfl | hy
          · rfl
          · exact (cross u hu y hy h1 h2).elim
        · rcases List.mem_cons.mp hy with rfl | hy
          · exact (cross u hu x hx h2 h1).elim
          · exact ih.ind u hu x hx y hy h1 h2
    · rw [if_neg hz]
      exact ⟨List.Pairwise.nil, fun x hx => (by cases hx), fun x hx => (by cases hx), fun k h1 h2 => (by omega), fun t ht x hx => (by cases hx)⟩
theorem fewL_ok (row : List (Int × Int)) : Few row 0 (fewL row) := fewF_ok row _ 0 (Int.le_refl _) (by omega)
theorem few_lens (row : List (Int × Int)) : (fewP row).length = (fewZ row).length := by
  unfold fewP fewZ
  rw [List.length_map, List.length_map]
theorem fewL_len (row : List (Int × Int)) : (fewL row).length ≤ row.length := fewF_len row _ _
/-- each of these in one of those, no two in the same: no more of these -/
theorem pigeon {α : Type} (In : α → Int → Bool) : ∀ (cs : List α) (zs : List Int), zs.Nodup → (∀ z ∈ zs, ∃ c ∈ cs, In c z = true) → (∀ c ∈ cs, ∀ x ∈ zs, ∀ y ∈ zs, In c x = true → In c y = true → x = y) → zs.length ≤ cs.length
  | [], zs, hn, hc, hi => by
    cases zs with
    | nil => exact Nat.le_refl _
    | cons z r =>
      obtain ⟨c, h, _⟩ := hc z List.mem_cons_self
      cases h
  | c :: cs, zs, hn, hc, hi => by
    have ih := pigeon In cs (zs.filter fun z => !In c z) (hn.filter _) (fun z hz => by
      obtain ⟨h1, h2⟩ := List.mem_filter.mp hz
      obtain ⟨d, hd, hd2⟩ := hc z h1
      rcases List.mem_cons.mp hd with rfl | hd
      · rw [hd2] at h2
        cases h2
      · exact ⟨d, hd, hd2⟩) fun d hd x hx y hy => hi d (List.mem_cons_of_mem _ hd) x (List.mem_filter.mp hx).1 y (List.mem_filter.mp hy).1
    have h1 : (zs.filter fun z => In c z).length ≤ 1 := by
      have hnd := hn.filter fun z => In c z
      cases e : zs.filter fun z => In c z with
      | nil => simp
      | cons a r =>
        cases r with
        | nil => simp
        | cons b r =>
          rw [e] at hnd
          have ha : a ∈ zs.filter fun z => In c z := by rw [e]; exact List.mem_cons_self
          have hb : b ∈ zs.filter fun z => In c z := by rw [e]; exact List.mem_cons_of_mem _ List.mem_cons_self
          obtain ⟨a1, a2⟩ := List.mem_filter.mp ha
          obtain ⟨b1, b2⟩ := List.mem_filter.mp hb
          have := hi c List.mem_cons_self a a1 b b1 a2 b2
          subst this
          exact absurd List.mem_cons_self (List.nodup_cons.mp hnd).1
    have h2 : zs.length = (zs.filter fun z => In c z).length + (zs.filter fun z => !In c z).length := by
      clear ih h1 hn hc hi
      induction zs with
      | nil => rfl
      | cons z r ih =>
        rw [List.filter_cons, List.filter_cons, List.length_cons, ih]
        cases In c z <;> simp <;> omega
    rw [List.length_cons]
    omega
theorem rise_nodup {xs : List Int} (h : xs.Pairwise (· < ·)) : xs.Nodup := h.imp fun h => by omega
/-- no more than any spans that cover all -/
theorem few_least {row : List (Int × Int)} {cs : List Span} (h1 : ∀ c ∈ cs, c ∈ spansL row) (h2 : ∀ k : Int, 0 ≤ k → k < row.length → ∃ c ∈ cs, inS c k = true) : (fewL row).length ≤ cs.length := by
  have F := fewL_ok row
  have := pigeon inS cs ((fewL row).map fun x => x.2) (rise_nodup F.rise) (fun z hz => by
    obtain ⟨x, hx, rfl⟩ := List.mem_map.mp hz
    obtain ⟨r1, r2⟩ := F.rng x hx
    exact h2 _ r1 r2) fun c hc x hx y hy e1 e2 => by
      obtain ⟨x', hx', rfl⟩ := List.mem_map.mp hx
      obtain ⟨y', hy', rfl⟩ := List.mem_map.mp hy
      exact F.ind c (h1 c hc) x' hx' y' hy' e1 e2
  rwa [List.length_map] at this

/-! ### pushes to the right alone -/
def rtsF (row : List (Int × Int)) : Nat → Int → List Int
  | 0, _ => []
  | f + 1, z => if z < row.length then z :: rtsF row f (lastI row 1 z.toNat + 1) else []
def rts (row : List (Int × Int)) : List Int := rtsF row row.length 0
theorem rtsF_len (row : List (Int × Int)) : ∀ f z, (rtsF row f z).length ≤ f
  | 0, z => Nat.le_refl _
  | f + 1, z => by
    unfold rtsF
    split
    · rw [List.length_cons]
      have := rtsF_len row f (lastI row 1 z.toNat + 1)
      omega
    · simp
/-- no stone ahead reaches it -/
def Free (row : List (Int × Int)) (z : Int) : Prop := ∀ j : Nat, (j : Int) < z → plc row j + hgt row j < plc row z
structure RtOK (row : List (Int × Int)) (zs : List Int) : Prop where
  rise : zs.Pairwise (· < ·)
  rng : ∀ z ∈ zs, 0 ≤ z ∧ z < row.length
  free : ∀ z ∈ zs, Free row z
  cov : ∀ k : Int, 0 ≤ k → k < row.length → ∃ z ∈ zs, z ≤ k ∧ k ≤ lastI row 1 z.toNat
theorem rtsF_ok {row : List (Int × Int)} (ok : Okr row) : ∀ (f : Nat) (z : Int), 0 ≤ z → (row.length : Int) ≤ z + f → (z < row.length → Free row z) →
    (rtsF row f z).Pairwise (· < ·) ∧ (∀ x ∈ rtsF row f z, z ≤ x ∧ x < row.length) ∧ (∀ x ∈ rtsF row f z, Free row x) ∧ ∀ k : Int, z ≤ k → k < row.length → ∃ x ∈ rtsF row f z, x ≤ k ∧ k ≤ lastI row 1 x.toNat
  | 0, z, h0, hf, hz => ⟨by simp [rtsF], fun x hx => by simp [rtsF] at hx, fun x hx => by simp [rtsF] at hx, fun k h1 h2 => by omega⟩
  | f + 1, z, h0, hf, hfree => by
    unfold rtsF
    by_cases hz : z < row.length
    · rw [if_pos hz]
      have hl := last_rng (row := row) (i := z.toNat) (by omega) (.inl rfl)
      have hg := last_ge (row := row) (i := z.toNat)
      have ih := rtsF_ok ok f (lastI row 1 z.toNat + 1) (by omega) (by omega) fun hn => by
        intro j hj
        have c := fell_chn row 1 z.toNat
        have hK : lastI row 1 z.toNat = (z.toNat : Int) + 1 * ((fell row 1 z.toNat).1 : Nat) := rfl
        have hlt : (fell row 1 z.toNat).1 < ah row 1 z.toNat := by
          rw [ah_one]
          omega
        have e : plc row (lastI row 1 z.toNat + 1) = (qf row 1 z.toNat ((fell row 1 z.toNat).1 + 1)).1 := by
          show _ = 1 * plc row _
          rw [Int.one_mul, hK]
          congr 1 <;> omega
        by_cases hjz : (j : Int) < z
        · have h1 := hfree hz j hjz
          have h2 : plc row z < plc row (lastI row 1 z.toNat + 1) := by
            have := ok.inc z.toNat (lastI row 1 z.toNat + 1).toNat (by omega) (by omega)
            have e1 : ((z.toNat : Nat) : Int) = z := by omega
            have e2 : (((lastI row 1 z.toNat + 1).toNat : Nat) : Int) = lastI row 1 z.toNat + 1 := by omega
            rw [e1, e2] at this
            exact this
          omega
        · have h1 := c.stop hlt (j - z.toNat) (by omega)
          rw [← e] at h1
          have e3 : (z.toNat : Int) + 1 * ((j - z.toNat : Nat) : Int) = j := by omega
          have e4 : (qf row 1 z.toNat (j - z.toNat)).1 + (qf row 1 z.toNat (j - z.toNat)).2 = plc row j + hgt row j := by
            show 1 * plc row _ + hgt row _ = _
            rw [e3]
            omega
          omega
      obtain ⟨i1, i2, i3, i4⟩ := ih
      refine ⟨?_, ?_, ?_, ?_⟩
      · rw [List.pairwise_cons]
        exact ⟨fun a ha => by have := (i2 a ha).1; omega, i1⟩
      · intro x hx
        rcases List.mem_cons.mp hx with rfl | hx
        · exact ⟨Int.le_refl _, hz⟩
        · have := i2 x hx
          omega
      · intro x hx
        rcases List.mem_cons.mp hx with rfl | hx
        · exact hfree hz
        · exact i3 x hx
      · intro k h1 h2
        by_cases hk : k ≤ lastI row 1 z.toNat
        · exact ⟨z, List.mem_cons_self, h1, hk⟩
        · obtain ⟨x, hx, r⟩ := i4 k (by omega) h2
          exact ⟨x, List.mem_cons_of_mem _ hx, r⟩
    · rw [if_neg hz]
      exact ⟨List.Pairwise.nil, fun x hx => (by cases hx), fun x hx => (by cases hx), fun k h1 h2 => (by omega)⟩
theorem rts_ok {row : List (Int × Int)} (ok : Okr row) : RtOK row (rts row) := by
  obtain ⟨h1, h2, h3, h4⟩ := rtsF_ok ok row.length 0 (Int.le_refl _) (by omega) fun _ j hj => by omega
  exact ⟨h1, h2, h3, h4⟩
theorem few_rts {row : List (Int × Int)} (ok : Okr row) : (fewP row).length ≤ (rts row).length := by
  have R := rts_ok ok
  unfold fewP
  rw [List.length_map]
  have := few_least (row := row) (cs := (rts row).map fun z => spanT row z.toNat 1) (fun c hc => by
    obtain ⟨z, hz, rfl⟩ := List.mem_map.mp hc
    have := R.rng z hz
    exact span_in.mpr ⟨z.toNat, 1, by omega, .inl rfl, rfl⟩) fun k h1 h2 => by
      obtain ⟨z, hz, h3, h4⟩ := R.cov k h1 h2
      have := R.rng z hz
      refine ⟨_, List.mem_map.mpr ⟨z, hz, rfl⟩, inS_iff.mpr ⟨?_, ?_⟩⟩
      · have := (mn_le (z.toNat : Int) (lastI row 1 z.toNat)).1
        show mn (z.toNat : Int) _ ≤ k
        omega
      · have := (mx_ge (z.toNat : Int) (lastI row 1 z.toNat)).2
        show k ≤ mx (z.toNat : Int) _
        omega
  rwa [List.length_map] at this
noncomputable def rightsB (row : List (Int × Int)) (zs : List Int) : Bool := @decide (RtOK row zs) (Classical.propDecidable _)
theorem rB_t {row : List (Int × Int)} {zs : List Int} (h : RtOK row zs) : rightsB row zs = true := by
  unfold rightsB
  exact @decide_eq_true _ (Classical.propDecidable _) h
theorem rB_f {row : List (Int × Int)} {zs : List Int} (h : ¬ RtOK row zs) : rightsB row zs = false := by
  unfold rightsB
  exact @decide_eq_false _ (Classical.propDecidable _) h
theorem rts_more {row : List (Int × Int)} {zs : List Int} (h : RtOK row zs) : rightsB row (zs ++ [(0 : Int)]) = false := by
  apply rB_f
  intro R
  cases zs with
  | nil =>
    have h1 := R.rng 0 (by simp)
    obtain ⟨z, hz, _⟩ := h.cov 0 (by omega) h1.2
    cases hz
  | cons a r =>
    have h1 := R.rise
    rw [List.cons_append, List.pairwise_cons] at h1
    have := h1.1 0 (by simp)
    have := (R.rng a (by simp)).1
    omega
end FR

/-! spans_of, fewest: what they compute. -/
namespace FR
open PySem L2 Evl
abbrev FxF (K : PySem.W.Frag) (C : CS) : Prop := Fx1 K C.Fewest ["pushes", "stones"]
def P_spans_of (ds es : List Da) : Prop := ∃ row, ds = [rowD row] ∧ row.length ≤ 1000 ∧ es = (spansL row).map spD
def P_fewest (C : CS) (ds : List Da) (A : Addr) (ns : List Str) (dss : List (List Da)) : Prop := ∃ row, ds = [rowD row] ∧ Okr row ∧ A = C.Fewest ∧ ns = (["pushes", "stones"] : List Str) ∧ dss = [rowL (fewP row), intL (fewZ row)]
abbrev sp_Fewest_init (K : PySem.W.Frag) (C : CS) : Sp := InL2 K C.Fewest "pushes" "stones"
abbrev sp_spans_of (K : PySem.W.Frag) (C : CS) : Sp := FnL K P_spans_of
abbrev sp_fewest (K : PySem.W.Frag) (C : CS) : Sp := FnO K (P_fewest C)
def t_Fewest_init (K : PySem.W.Frag) (C : CS) : TS :=
  (tSeq (sFld K (tVar 0) (tCB (rListS K) (tCons (tVar 1) tNil)) "pushes") (sFld K (tVar 0) (tCB (rListS K) (tCons (tVar 2) tNil)) "stones"))
def t_spans_of (K : PySem.W.Frag) (C : CS) : TS :=
  (tSeq (tAsg (tLst tNil) (gName 1)) (tSeq (tFor (iRng1 (tCons (tCB (rLenS K) (tCons (tVar 0) tNil)) tNil)) (gName 2) (tFor (iTup K (tTup (tCons (tC (.int 1)) (tCons (tUn (rU fun i => .int (-i)) (tC (.int 1))) tNil)))) (gName 3) (tSeq (tAsg (tOp (rIxT K) (tCall (sp_last_felled K C) [] E0 (tCons (tVar 0) (tCons (tVar 2) (tCons (tVar 3) tNil)))) (tC (.int 0))) (gName 4)) (tDrop (tBM K "list" rAppend (tVar 1) (tCons (tTup (tCons (tCB rMin2 (tCons (tVar 2) (tCons (tVar 4) tNil))) (tCons (tCB rMax2 (tCons (tVar 2) (tCons (tVar 4) tNil))) (tCons (tTup (tCons (tVar 2) (tCons (tVar 3) tNil))) tNil)))) tNil)))))) (tRet (tVar 1))))
def t_fewest (K : PySem.W.Frag) (C : CS) : TS :=
  (tSeq (tDrop (tCall (sp_check_row K C) [] E0 (tCons (tVar 0) tNil))) (tSeq (tAsg (tCall (sp_spans_of K C) [] E0 (tCons (tVar 0) tNil)) (gName 1)) (tSeq (tAsg (tLst tNil) (gName 2)) (tSeq (tAsg (tLst tNil) (gName 3)) (tSeq (tAsg (tC (.int 0)) (gName 4)) (tSeq (tWhile (tTest (tOp rLtI (tVar 4) (tCB (rLenS K) (tCons (tVar 0) tNil)))) (tSeq (tAsg (tCB (rMaxD K) (tCons (tLc (iList K (tVar 1)) (gTup K 3 (gCons (gName 7) (gCons (gName 8) (gCons (gName 6) gNil)))) (tTest (tChain rLeI rLeI (tVar 7) (tVar 4) (tVar 8))) (tTup (tCons (tVar 8) (tCons (tVar 6) tNil))) [7, 8, 6]) tNil)) (gTup K 2 (gCons (gName 5) (gCons (gName 6) gNil)))) (tSeq (tDrop (tBM K "list" rAppend (tVar 2) (tCons (tVar 6) tNil))) (tSeq (tDrop (tBM K "list" rAppend (tVar 3) (tCons (tVar 4) tNil))) (tAsg (tOp rAddI (tVar 5) (tC (.int 1))) (gName 4)))))) (tRet (tMake C.Fewest (sp_Fewest_init K C) [] E0 (tCons (tVar 2) (tCons (tVar 3) tNil))))))))))
section
variable {K : PySem.W.Frag} {C : CS}
theorem pure_Fewest_init (A : FxF K C) {vs : List V} {H : Hp} {Q : VK} {E : XK} (h : sp_Fewest_init K C vs H Q E) : t_Fewest_init K C { nx := fun _ H' => Q .non H', rt := Q } (start ["self", "pushes", "stones"] vs) H :=
  in_L2 rfl A.isi.cls (A.no _ List.mem_cons_self) (A.no _ (List.mem_cons_of_mem _ List.mem_cons_self)) (by decide) h
theorem len_Fewest_init {vs : List V} {H : Hp} {Q : VK} {E : XK} (h : sp_Fewest_init K C vs H Q E) : vs.length = 3 := by
  obtain ⟨x, dx, p, p', xs, ys, rfl, _⟩ := h
  rfl
theorem run_spans_of {ds es : List Da} (h : P_spans_of ds es) : Run K (t_spans_of K C) (ent ds 4) (retL es) := by
  obtain ⟨row, rfl, hn, rfl⟩ := h
  refine run_seq (run_asgN (ds := []) (en_lst ea_nil) ?_)
  refine run_seq (run_for (wk_rng1 (ev_lenR (ev_var rfl)) (by omega)) (fun k e => ∃ y2 y3 y4, e = [.im (rowD row), .mu ((spansK row k).map spD), y2, y3, y4]) ⟨.no, .no, .no, rfl⟩ ?_ ?_)
  · rintro k d e hd ⟨y2, y3, y4, rfl⟩
    have hk : k < ((row.length : Int) - 0).toNat := by
      have := (List.getElem?_eq_some_iff.mp hd).1
      rw [rngD_len] at this
      exact this
    rw [rngD_get hk] at hd
    obtain rfl : Da.int ((0 : Int) + (k : Nat)) = d := Option.some.inj hd
    rw [Int.zero_add]
    have hk' : k < row.length := by omega
    refine ⟨_, ts_name, ?_⟩
    refine run_for (ds := intL [1, -1]) (wk_tup (ev_tup (ea_cons ev_int (ea_cons (ev_neg ev_int) ea_nil)))) (fun m e => ∃ y3 y4, e = [.im (rowD row), .mu ((spansK row k ++ ([1, -1].take m).map (spanT row k)).map spD), .im (.int (k : Nat)), y3, y4]) ⟨y3, y4, by simp⟩ ?_ ?_
    · rintro m d e hd2 ⟨y3, y4, rfl⟩
      obtain ⟨s, hs, rfl⟩ := intL_get hd2
      have hsd : Sd s := by
        have := List.mem_of_getElem? hs
        simpa [Sd] using this
      have hm : m < 2 := (List.getElem?_eq_some_iff.mp hs).1
      refine ⟨_, ts_name, ?_⟩
      refine run_seq (run_asg (d := .int (lastI row s k)) (ev_pr0 (p := (lastI row s k, farI row s k)) (ev_call (ds := [rowD row, .int (k : Nat), .int s]) (ea_cons (ev_var rfl) (ea_cons (ev_var rfl) (ea_cons (ev_var rfl) ea_nil))) ⟨row, k, s, rfl, ⟨hk', hn, hsd⟩, rfl⟩)) ?_)
      refine run_app (d := spD (spanT row k s)) (ds := (spansK row k ++ ([1, -1].take m).map (spanT row k)).map spD) rfl (ev_tup (ea_cons (ev_min2 (ev_var rfl) (ev_var rfl)) (ea_cons (ev_max2 (ev_var rfl) (ev_var rfl)) (ea_cons (ev_tup (ea_cons (ev_var rfl) (ea_cons (ev_var rfl) ea_nil))) ea_nil)))) ?_ ⟨.im (.int s), .im (.int (lastI row s k)), ?_⟩
      · rw [List.length_map, List.length_append, spansK_len, List.length_map, List.length_take]
        have : min m ([1, -1] : List Int).length ≤ 2 := Nat.min_le_right _ _
        omega
      · rw [get_row hs, List.map_append, List.map_append, List.map_append]
        show _ = _
        simp
    · rintro e ⟨y3, y4, rfl⟩
      refine ⟨.im (.int (k : Nat)), y3, y4, ?_⟩
      rw [spansK_succ]
      rfl
  · rintro e ⟨y2, y3, y4, rfl⟩
    rw [rngD_len]
    exact run_retV (i := 1) rfl (by
      show _ = _
      unfold spansL
      congr 2)
theorem run_fewest {ds : List Da} {A : Addr} {ns : List Str} {dss : List (List Da)} (h : P_fewest C ds A ns dss) : Run K (t_fewest K C) (ent ds 8) (retO A ns dss) := by
  obtain ⟨row, rfl, ok, rfl, rfl, rfl⟩ := h
  have hn := ok.few
  have hsl : (spansL row).length ≤ 2000 := by
    unfold spansL
    rw [spansK_len]
    omega
  refine run_seq (run_drop (d := .non) (ev_call (ds := [rowD row]) (ea_cons (ev_var rfl) ea_nil) ⟨row, rfl, ok, rfl⟩) ?_)
  refine run_seq (run_asgN (ds := (spansL row).map spD) (en_call (ds := [rowD row]) (ea_cons (ev_var rfl) ea_nil) ⟨row, rfl, hn, rfl⟩) (run_fix (i := 1) rfl ?_))
  refine run_seq (run_asgN (ds := []) (en_lst ea_nil) ?_)
  refine run_seq (run_asgN (ds := []) (en_lst ea_nil) ?_)
  refine run_seq (run_asg (d := .int 0) ev_int ?_)
  refine run_seq (run_while (fun r e => ∃ z pre y5 y6, e = [.im (rowD row), .im (.lst ((spansL row).map spD)), .mu (rowL (pre.map fun q => q.1)), .mu (intL (pre.map fun q => q.2)), .im (.int z), y5, y6, .no, .no] ∧ 0 ≤ z ∧ (row.length : Int) ≤ z + r ∧ pre.length + r ≤ row.length ∧ pre ++ fewF row r z = fewL row) row.length ⟨0, [], .no, .no, rfl, Int.le_refl _, by omega, by simp, rfl⟩ ?_)
  rintro r e ⟨z, pre, y5, y6, rfl, h0, h1, h2, h3⟩
  refine ⟨decide (z < (row.length : Int)), eb_test (ev_lt (ev_var rfl) (ev_lenR (ev_var rfl))), fun hb => ?_, fun hb => ?_⟩
  · have hz := of_decide_eq_true hb
    obtain ⟨f, rfl⟩ : ∃ f, r = f + 1 := ⟨r - 1, by omega⟩
    obtain ⟨⟨t, ts, e1, e2⟩, _, _⟩ := best_ok h0 hz
    obtain ⟨e3, e4⟩ := best_end h0 hz
    have h4 : fewF row (f + 1) z = ((bestT row z).2, z) :: fewF row f ((bestT row z).1 + 1) := by
      show (if z < row.length then _ else _) = _
      rw [if_pos hz]
    refine run_seq (run_asgT (d := triD (bestT row z)) ?_ (ts_tup2 ts_name ts_name) ?_)
    · refine (ev_maxT (t := t) (ts := ts) (ev_new ((en_lc (us := [7, 8, 6]) spD (fun u => inS u z) (fun u => triD u.2) (spansL row) (wk_list (ev_var rfl)) (by simp) (by omega) fun u hu => ⟨_, tc_tup3 tc_name tc_name tc_name, eb_test (ev_chainI rfl rfl (ev_var rfl) (ev_var rfl) fun _ => ev_var rfl), fun _ => ev_tup (ea_cons (ev_var rfl) (ea_cons (ev_var rfl) ea_nil))⟩).is ?_))).is (by rw [e2])
      rw [← e1]
      unfold candL
      rw [List.map_map]
      rfl
    refine run_seq (run_app (i := 2) (d := prD (bestT row z).2) (ds := rowL (pre.map fun q => q.1)) rfl (ev_var rfl) (by rw [List.length_map, List.length_map]; omega) ?_)
    refine run_seq (run_app (i := 3) (d := .int z) (ds := intL (pre.map fun q => q.2)) rfl (ev_var rfl) (by rw [List.length_map, List.length_map]; omega) ?_)
    refine run_asg (d := .int ((bestT row z).1 + 1)) (ev_add (ev_var rfl) ev_int) ⟨f, by omega, (bestT row z).1 + 1, pre ++ [((bestT row z).2, z)], .im (.int (bestT row z).1), .im (prD (bestT row z).2), ?_, by omega, by omega, ?_, ?_⟩
    · have ea : rowL ((pre ++ [((bestT row z).2, z)]).map fun q => q.1) = rowL (pre.map fun q => q.1) ++ [prD (bestT row z).2] := by
        rw [List.map_append]
        exact rowL_snoc _ _
      have eb : intL ((pre ++ [((bestT row z).2, z)]).map fun q => q.2) = intL (pre.map fun q => q.2) ++ [Da.int z] := by
        rw [List.map_append]
        exact intL_snoc _ _
      rw [ea, eb]
      rfl
    · rw [List.length_append, List.length_singleton]
      omega
    · rw [← h3, h4, List.append_assoc]
      rfl
  · have hz := of_decide_eq_false hb
    have h4 : fewF row r z = [] := by
      cases r with
      | zero => rfl
      | succ f =>
        show (if z < row.length then _ else _) = _
        rw [if_neg hz]
    rw [h4, List.append_nil] at h3
    subst h3
    refine run_fix (i := 2) rfl (run_fix (i := 3) rfl ?_)
    exact run_retO (eo_mak2 (ev_var rfl) (ev_var rfl)) ⟨rfl, rfl, rfl⟩
theorem len_fewest {vs : List V} {H : Hp} {Q : VK} {E : XK} (h : sp_fewest K C vs H Q E) : vs.length = 1 := len_O (m := 1) (fun ds A ns dss ⟨_, e, _⟩ => by rw [e]; rfl) h
theorem pure_fewest {vs : List V} {H : Hp} {Q : VK} {E : XK} (h : sp_fewest K C vs H Q E) : t_fewest K C { nx := fun _ H' => Q .non H', rt := Q } (start ["row", "spans", "pushes", "stones", "stone", "end", "push", "first", "last"] vs) H :=
  fnO_of 8 (fun ds A ns dss ⟨_, e, _⟩ => by rw [e]; rfl) (fun ds A ns dss p => run_fewest p) h
end
section
variable {K : PySem.W.Frag} {C : CS} {vs : List V} {H : Hp} {Q : VK} {E : XK}
theorem lenP_spans_of {ds es : List Da} (h : P_spans_of ds es) : ds.length = 1 := by
  unfold P_spans_of at h
  repeat (rcases h with ⟨z, h⟩; first | (subst z; rfl) | skip)
theorem len_spans_of (h : sp_spans_of K C vs H Q E) : vs.length = 1 := len_L (m := 1) (fun _ _ p => lenP_spans_of p) h
theorem pure_spans_of (h : sp_spans_of K C vs H Q E) : t_spans_of K C { nx := fun _ H' => Q .non H', rt := Q } (start ["row", "found", "stone", "side", "last"] vs) H := fnL_of 4 (fun _ _ p => by rw [lenP_spans_of p] <;> rfl) (fun _ _ p => run_spans_of p) h
end
end FR

/-! The fourth law's own defs. -/
namespace FR
open PySem L2 Evl

/-! ### cuts -/
theorem cutD_to {α : Type} (f : α → Da) (xs : List α) {z : Int} (h : 0 ≤ z) : cutD (xs.map f) none (some z) = (xs.take z.toNat).map f := by
  obtain ⟨j, rfl⟩ : ∃ j : Nat, z = j := ⟨z.toNat, by omega⟩
  unfold cutD
  rw [HT.sIx_none, HT.sIx_nat, List.drop_zero, Nat.sub_zero, List.length_map, ← List.map_take, Int.toNat_natCast]
  congr 1
  by_cases hj : j ≤ xs.length
  · rw [Nat.min_eq_left hj]
  · rw [Nat.min_eq_right (by omega), List.take_of_length_le (Nat.le_refl _), List.take_of_length_le (by omega)]
theorem cutD_fr {α : Type} (f : α → Da) (xs : List α) {z : Int} (h : 0 ≤ z) : cutD (xs.map f) (some z) none = (xs.drop z.toNat).map f := by
  obtain ⟨j, rfl⟩ : ∃ j : Nat, z = j := ⟨z.toNat, by omega⟩
  unfold cutD
  rw [HT.sIx_none, HT.sIx_nat, List.length_map, ← List.map_drop, ← List.map_take, Int.toNat_natCast]
  congr 1
  by_cases hj : j ≤ xs.length
  · rw [Nat.min_eq_left hj, List.take_of_length_le (by rw [List.length_drop]; omega)]
  · have e1 : xs.drop j = [] := List.drop_of_length_le (by omega)
    have e2 : xs.drop xs.length = [] := List.drop_of_length_le (Nat.le_refl _)
    rw [Nat.min_eq_right (by omega), e1, e2]
    simp
theorem cutD_mid {α : Type} (f : α → Da) (xs : List α) {z : Int} (h : 0 ≤ z) : ∃ ys : List α, ys.length ≤ xs.length ∧ cutD (xs.map f) (some z) (some (z + 1)) = ys.map f := by
  refine ⟨(xs.drop (HT.sIx xs.length 0 (some z))).take (HT.sIx xs.length xs.length (some (z + 1)) - HT.sIx xs.length 0 (some z)), ?_, ?_⟩
  · rw [List.length_take, List.length_drop]
    omega
  · unfold cutD
    rw [List.length_map, List.map_take, List.map_drop]
theorem cutD_last {α : Type} (f : α → Da) (xs : List α) : cutD (xs.map f) none (some (-1)) = xs.dropLast.map f := by
  unfold cutD
  have e : HT.sIx (xs.map f).length (xs.map f).length (some (-1)) = xs.length - 1 := by
    rw [List.length_map]
    show (if (-1 : Int) < 0 then ((-1 : Int) + (xs.length : Int)).toNat else min (-1 : Int).toNat xs.length) = _
    rw [if_pos (by decide)]
    omega
  rw [HT.sIx_none, e, List.drop_zero, Nat.sub_zero, ← List.map_take, List.dropLast_eq_take]

/-! ### a walk over new lists of ints, made from what is one's own -/
def NwL (H1 H2 : Hp) : List (List Int) → List Addr → Prop
  | [], ls => ls = []
  | zs :: r, ls => ∃ l u, ls = l :: u ∧ H1 l = none ∧ H2 l = some (.lst (zs.map V.int)) ∧ NwL H1 H2 r u
theorem NwL.new {H1 H2 : Hp} : ∀ {zss : List (List Int)} {ls : List Addr}, NwL H1 H2 zss ls → ∀ l ∈ ls, H1 l = none
  | [], ls, h, l, hl => by
    have : ls = [] := h
    subst this
    cases hl
  | zs :: r, ls, h, l, hl => by
    obtain ⟨a, u, rfl, h1, _, h3⟩ := h
    rcases List.mem_cons.mp hl with rfl | hl
    · exact h1
    · exact h3.new l hl
theorem NwL.back {H0 H1 H2 : Hp} (e : Ex H0 H1) : ∀ {zss : List (List Int)} {ls : List Addr}, NwL H1 H2 zss ls → NwL H0 H2 zss ls
  | [], ls, h => h
  | zs :: r, ls, h => by
    obtain ⟨a, u, rfl, h1, h2, h3⟩ := h
    exact ⟨a, u, rfl, fresh_back e h1, h2, h3.back e⟩
theorem NwL.len {H1 H2 : Hp} : ∀ {zss : List (List Int)} {ls : List Addr}, NwL H1 H2 zss ls → ls.length = zss.length
  | [], ls, h => by
    have : ls = [] := h
    subst this
    rfl
  | zs :: r, ls, h => by
    obtain ⟨a, u, rfl, h1, h2, h3⟩ := h
    rw [List.length_cons, List.length_cons, h3.len]
theorem NwL.get {H1 H2 : Hp} : ∀ {zss : List (List Int)} {ls : List Addr} {i : Nat} {l : Addr}, NwL H1 H2 zss ls → ls[i]? = some l → ∃ zs, zss[i]? = some zs ∧ H2 l = some (.lst (zs.map V.int))
  | [], ls, i, l, h, hl => by
    have : ls = [] := h
    subst this
    simp at hl
  | zs :: r, ls, 0, l, h, hl => by
    obtain ⟨a, u, rfl, h1, h2, h3⟩ := h
    have : a = l := by simpa using hl
    subst this
    exact ⟨zs, rfl, h2⟩
  | zs :: r, ls, i + 1, l, h, hl => by
    obtain ⟨a, u, rfl, h1, h2, h3⟩ := h
    obtain ⟨y, e1, e2⟩ := h3.get (i := i) (by simpa using hl)
    exact ⟨y, by simpa using e1, e2⟩
def EaN (K : PySem.W.Frag) (t : TA) (env : En) (zss : List (List Int)) : Prop := ∀ σ B, SD K B σ env → ∀ H1, Ex B H1 → ∀ Q : List V → Hp → Prop, (∀ ls B' H2, Gr B H1 B' H2 → NwL H1 H2 zss ls → Q (ls.map V.ref) H2) → t σ H1 Q
section
variable {K : PySem.W.Frag} {env : En} {E : Ed} {te ta tb tc : TE} {t : TA} {ds es : List Da} {zs : List Int} {zss : List (List Int)}
theorem ean_nil : EaN K tNil env [] := fun σ B s H1 e Q q => q [] B H1 (Gr.refl e) rfl
theorem ean_cons (h : EvN K te env (intL zs)) (h' : EaN K t env zss) : EaN K (tCons te t) env (zs :: zss) := fun σ B s H1 e Q q =>
  h σ B s H1 e _ fun p xs B2 H2 g h1 h2 h3 r => h' σ B2 (s.mono g.b) H2 g.h _ fun ls B3 H3 g3 nw => by
    have z := rp_ints r
    subst z
    exact q (p :: ls) B3 H3 (g.trans g3) ⟨p, ls, rfl, h1, g3.k _ _ h3, nw.back g.k⟩
theorem run_forS {wi : TI} {g : TG} {tb : TS} (hw : ∀ B0 H0 B H σ, Sta K B0 H0 B H σ env → ∀ R : It → Hp → Prop, (∀ J B' H2 G Y, Gr B H B' H2 → Walk J ds.length G Y → (∀ H, Ex B' H → G H) → (∀ i H x H' Bi, Ex B' Bi → Ex Bi H → Y i H x H' → ∃ d B2, ds[i]? = some d ∧ Gr Bi H B2 H' ∧ Rp K B2 d x) → R J H2) → wi σ H R) (I : Nat → En → Prop) (h0 : I 0 env)
    (hs : ∀ n d e, ds[n]? = some d → I n e → ∃ e', TgS K g d e e' ∧ Run K tb e' { E with nx := I (n + 1), ct := I (n + 1), bk := E.nx }) (hd : ∀ e, I ds.length e → E.nx e) : Run K (tFor wi g tb) env E := fun B0 H0 B H σ D Bs eb s k =>
  hw B0 H0 B H σ s _ fun J B' H2 G Y g0 w hG hY => by
    refine for_it w (fun n σ' H' => ∃ e Bi, I n e ∧ Sta K B0 H0 Bi H' σ' e ∧ Ex B' Bi) ⟨env, B', h0, s.up g0, Ex.refl _⟩ (fun n σ' H' _ ⟨e, Bi, _, s', eb'⟩ => hG H' (eb'.trans s'.eH)) ?_ ?_
    · rintro n x σ' H' H3 hn ⟨e, Bi, hi, s', eb'⟩ y
      obtain ⟨d, B3, hd', gy, rd⟩ := hY n H' x H3 Bi eb' s'.eH y
      obtain ⟨e', tg, rb⟩ := hs n d e hd' hi
      refine tg B0 H0 B3 H3 σ' x (s'.up gy) rd _ fun σ2 s2 => ?_
      exact rb B0 H0 B3 H3 σ2 _ B' (eb'.trans gy.b) s2 ⟨fun σ4 B4 H4 e4 s4 eb4 q => ⟨e4, B4, q, s4, eb4⟩, fun σ4 B4 H4 e4 s4 eb4 q => k.nx σ4 B4 H4 e4 s4 ((eb.trans g0.b).trans eb4) q, fun σ4 B4 H4 e4 s4 eb4 q => ⟨e4, B4, q, s4, eb4⟩, k.rd, k.rl, k.ro⟩
    · rintro σ' H' ⟨e, Bi, hi, s', eb'⟩
      exact k.nx σ' Bi H' e s' ((eb.trans g0.b).trans eb') (hd e hi)
theorem run_forL {g : TG} {tb : TS} (h : EaN K t (frz env) zss) (hl : zss.length ≤ 1000) (I : Nat → En → Prop) (h0 : I 0 env)
    (hs : ∀ n d e, (zss.map intsD)[n]? = some d → I n e → ∃ e', TgS K g d e e' ∧ Run K tb e' { E with nx := I (n + 1), ct := I (n + 1), bk := E.nx }) (hd : ∀ e, I (zss.map intsD).length e → E.nx e) : Run K (tFor (iList K (tLst t)) g tb) env E := by
  refine run_forS (ds := zss.map intsD) (fun B0 H0 B H σ s R q => ?_) I h0 hs hd
  refine h σ H s.frz H (Ex.refl _) _ fun ls B' H' g nw => ?_
  refine ⟨sz_of (by rw [List.length_map, nw.len]; omega), fun p hp => ?_⟩
  have hB : ∀ x ∈ p :: ls, H x = none := fun x hx => by
    rcases List.mem_cons.mp hx with rfl | hx
    · exact fresh_back g.k hp
    · exact nw.new x hx
  have hk : Ex H (upd H' p (.lst (ls.map V.ref))) := g.k.trans (Ex.new hp)
  have hnp : ∀ l ∈ ls, l ≠ p := fun l hl z => by
    obtain ⟨i, hi⟩ := List.getElem?_of_mem hl
    obtain ⟨zs, _, e⟩ := nw.get hi
    rw [z, hp] at e
    cases e
  have gr : Gr B H (vis B (upd H' p (.lst (ls.map V.ref))) (p :: ls)) (upd H' p (.lst (ls.map V.ref))) :=
    ⟨vis_ex fun x hx => fresh_back s.eH (hB x hx), vis_le (s.eH.trans hk), hk, fun a ha => vis_out fun z => ha (hB a z)⟩
  have w : Walk (Itl K p) (ls.map V.ref).length (fun H => SqL K H p (ls.map V.ref)) (YAt (ls.map V.ref)) := walk_list
  have hlen : (ls.map V.ref).length = (zss.map intsD).length := by rw [List.length_map, List.length_map, nw.len]
  rw [hlen] at w
  have hvp : vis B (upd H' p (.lst (ls.map V.ref))) (p :: ls) p = some (.lst (ls.map V.ref)) := by rw [vis_in List.mem_cons_self, upd_same]
  refine ⟨p, rfl, ⟨_, sq_of upd_same⟩, q _ _ _ _ _ gr w (fun H2 e2 => sq_of (e2 _ _ hvp)) fun i H2 x H3 Bi eb eh y => ?_⟩
  obtain ⟨rfl, hx⟩ := y
  rw [List.getElem?_map] at hx
  cases hi : ls[i]? with
  | none =>
    rw [hi] at hx
    cases hx
  | some l =>
    rw [hi] at hx
    obtain rfl : V.ref l = x := Option.some.inj hx
    obtain ⟨zs, e1, e2⟩ := nw.get hi
    have hm : l ∈ ls := List.mem_of_getElem? hi
    refine ⟨intsD zs, Bi, by rw [List.getElem?_map, e1]; rfl, Gr.refl eh, ?_⟩
    simp only [intsD, Rp]
    exact ⟨l, zs.map V.int, rfl, eb _ _ (by rw [vis_in (List.mem_cons_of_mem _ hm), upd_ne (hnp l hm)]; exact e2), ints_rp zs⟩
end

/-! ### the mathematics of the two looks -/
structure ShI (row : List (Int × Int)) (ps : List Int) (la fl : Int) : Prop where
  rise : ps.Pairwise (· < ·)
  rng : ∀ z ∈ ps, 0 ≤ z ∧ z < row.length
  free : ∀ z ∈ ps, Free row z
  la0 : -1 ≤ la
  top : ∀ z ∈ ps, z ≤ la
  lam : la = -1 ∨ la ∈ ps
  fl0 : la ≤ fl
  fl1 : fl ≤ (row.length : Int) - 1
  le : ∀ z ∈ ps, lastI row 1 z.toNat ≤ fl
  cov : ∀ k : Int, 0 ≤ k → k ≤ fl → ∃ z ∈ ps, z ≤ k ∧ k ≤ lastI row 1 z.toNat
theorem ShI.nil (row : List (Int × Int)) : ShI row [] (-1) (-1) :=
  ⟨List.Pairwise.nil, fun z h => (by cases h), fun z h => (by cases h), by omega, fun z h => (by cases h), .inl rfl, by omega, by omega, fun z h => (by cases h), fun k h1 h2 => (by omega)⟩
theorem ShI.bad {row : List (Int × Int)} {ps r : List Int} {la fl z : Int} (h : ShI row ps la fl) (hb : ¬ la < z ∨ ¬ z < row.length ∨ z > fl + 1) : ¬ RtOK row (ps ++ z :: r) := by
  intro R
  have hz := R.rng z (by simp)
  obtain ⟨h1, h2, h3⟩ := List.pairwise_append.mp R.rise
  rcases hb with hb | hb | hb
  · rcases h.lam with e | e
    · omega
    · exact hb (h3 la e z (by simp))
  · exact hb hz.2
  · have := h.la0
    have := h.fl0
    obtain ⟨y, hy, e1, e2⟩ := R.cov (fl + 1) (by omega) (by omega)
    rcases List.mem_append.mp hy with hy | hy
    · have := h.le y hy
      omega
    · rcases List.mem_cons.mp hy with rfl | hy
      · omega
      · have := (List.pairwise_cons.mp h2).1 y hy
        omega
theorem ShI.step {row : List (Int × Int)} {ps : List Int} {la fl z : Int} (h : ShI row ps la fl) (h1 : la < z) (h2 : z < row.length) (h3 : ¬ z > fl + 1) (hf : Free row z) : ShI row (ps ++ [z]) z (mx fl (lastI row 1 z.toNat)) := by
  have a0 := h.la0
  have hl := last_rng (row := row) (i := z.toNat) (by omega) (.inl rfl)
  have hg := last_ge (row := row) (i := z.toNat)
  have hm := mx_ge fl (lastI row 1 z.toNat)
  have f1 := h.fl1
  refine ⟨?_, ?_, ?_, by omega, ?_, .inr (by simp), by omega, ?_, ?_, ?_⟩
  · rw [List.pairwise_append]
    refine ⟨h.rise, List.pairwise_singleton _ _, fun a ha b hb => ?_⟩
    have := h.top a ha
    rw [List.mem_singleton.mp hb]
    omega
  · intro y hy
    rcases List.mem_append.mp hy with hy | hy
    · exact h.rng y hy
    · rw [List.mem_singleton.mp hy]
      omega
  · intro y hy
    rcases List.mem_append.mp hy with hy | hy
    · exact h.free y hy
    · rw [List.mem_singleton.mp hy]
      exact hf
  · intro y hy
    rcases List.mem_append.mp hy with hy | hy
    · have := h.top y hy
      omega
    · rw [List.mem_singleton.mp hy]
      omega
  · rcases mx_or fl (lastI row 1 z.toNat) with e | e <;> rw [e] <;> omega
  · intro y hy
    rcases List.mem_append.mp hy with hy | hy
    · have := h.le y hy
      omega
    · rw [List.mem_singleton.mp hy]
      omega
  · intro k k0 k1
    by_cases hk : k ≤ fl
    · obtain ⟨y, hy, r⟩ := h.cov k k0 hk
      exact ⟨y, List.mem_append_left _ hy, r⟩
    · refine ⟨z, by simp, by omega, ?_⟩
      rcases mx_or fl (lastI row 1 z.toNat) with e | e <;> rw [e] at k1 <;> omega
theorem ShI.fin {row : List (Int × Int)} {zs : List Int} {la fl : Int} (h : ShI row zs la fl) : rightsB row zs = decide (fl = (row.length : Int) - 1) := by
  have := h.fl1
  have := h.la0
  have := h.fl0
  by_cases e : fl = (row.length : Int) - 1
  · rw [decide_eq_true e]
    exact rB_t ⟨h.rise, h.rng, h.free, fun k k0 k1 => h.cov k k0 (by omega)⟩
  · rw [decide_eq_false e]
    apply rB_f
    intro R
    obtain ⟨y, hy, e1, e2⟩ := R.cov (fl + 1) (by omega) (by omega)
    have := h.le y hy
    omega
theorem free_iff {row : List (Int × Int)} {z : Int} (h0 : 0 ≤ z) (h1 : z < row.length) : Free row z ↔ ∀ q ∈ row.take z.toNat, q.1 + q.2 < plc row z := by
  constructor
  · intro h q hq
    obtain ⟨j, hj, e⟩ := List.mem_iff_getElem.mp hq
    rw [List.length_take] at hj
    have e2 : row[j]? = some q := by
      rw [← e, List.getElem_take]
      exact List.getElem?_eq_getElem _
    rw [plc_get e2]
    exact h j (by omega)
  · intro h j hj
    have hj' : j < row.length := by omega
    have e2 : row[j]? = some row[j] := List.getElem?_eq_getElem hj'
    have := h row[j] (List.mem_iff_getElem.mpr ⟨j, by rw [List.length_take]; omega, List.getElem_take⟩)
    rw [plc_get e2] at this
    exact this
def sortI (zs : List Int) : List Int := zs.mergeSort (fun a b => decide (a ≤ b))
theorem sortI_perm (zs : List Int) : (sortI zs).Perm zs := List.mergeSort_perm _ _
theorem sortI_sorted (zs : List Int) : (sortI zs).Pairwise (· ≤ ·) := by
  have := List.pairwise_mergeSort (le := fun a b : Int => decide (a ≤ b)) (fun a b c h1 h2 => by simp at *; omega) (fun a b => by simp; omega) zs
  exact this.imp fun h => by simpa using h
theorem sortI_uniq {zs ns : List Int} (hn : zs.Nodup) (hp : ns.Perm zs) (hs : ns.Pairwise (· ≤ ·)) : ns = sortI zs :=
  rise_uniq (rise_of hs (hp.nodup_iff.mpr hn)) (rise_of (sortI_sorted zs) ((sortI_perm zs).nodup_iff.mpr hn)) fun a => by rw [hp.mem_iff, (sortI_perm zs).mem_iff]
theorem sortI_rise {zs : List Int} (hn : zs.Nodup) (h : zs = sortI zs) : zs.Pairwise (· < ·) := by
  refine rise_of ?_ hn
  rw [h]
  exact sortI_sorted zs
theorem rise_sortI {zs : List Int} (h : zs.Pairwise (· < ·)) : zs = sortI zs := sortI_uniq (rise_nodup h) (List.Perm.refl _) (h.imp fun h => by omega)
def covB (row : List (Int × Int)) (ps : List Int) (j : Nat) : Bool := ps.any fun z => decide (z ≤ j) && decide ((j : Int) ≤ lastI row 1 z.toNat)
def metK (row : List (Int × Int)) (ps : List Int) (z m : Int) : List Bool := (List.range row.length).map fun j => covB row ps j || (decide (z ≤ j) && decide ((j : Int) < z + m))
def metL (row : List (Int × Int)) (ps : List Int) : List Bool := (List.range row.length).map fun j => covB row ps j
theorem metK_zero (row : List (Int × Int)) (ps : List Int) (z : Int) : metK row ps z ((0 : Nat) : Int) = metL row ps := by
  unfold metK metL
  apply List.map_congr_left
  intro j _
  have : (decide (z ≤ (j : Int)) && decide ((j : Int) < z + ((0 : Nat) : Int))) = false := by
    rw [Bool.and_eq_false_iff, decide_eq_false_iff_not, decide_eq_false_iff_not]
    omega
  rw [this, Bool.or_false]
theorem metK_end {row : List (Int × Int)} {ps : List Int} {z : Int} (h0 : 0 ≤ z) : metK row ps z ((lastI row 1 z.toNat + 1 - z).toNat : Nat) = metL row (ps ++ [z]) := by
  have hg := last_ge (row := row) (i := z.toNat)
  unfold metK metL
  apply List.map_congr_left
  intro j _
  unfold covB
  rw [List.any_append]
  congr 1
  show _ = (decide (z ≤ (j : Int)) && decide ((j : Int) ≤ lastI row 1 z.toNat) || false)
  rw [Bool.or_false]
  congr 1
  apply decide_eq_decide.mpr
  omega
theorem metK_set {row : List (Int × Int)} {ps : List Int} {z : Int} {m : Nat} (h0 : 0 ≤ z) (h : z + m < row.length) : (metK row ps z (m : Nat)).set (z + m).toNat true = metK row ps z ((m + 1 : Nat) : Int) := by
  unfold metK
  apply List.ext_getElem?
  intro j
  rw [List.getElem?_set]
  by_cases hj : j < row.length
  · rw [List.getElem?_map, List.getElem?_map, List.getElem?_range hj]
    show (if _ then _ else some _) = some _
    by_cases e : (z + (m : Nat)).toNat = j
    · have e1 : (decide (z ≤ (j : Int)) && decide ((j : Int) < z + ((m + 1 : Nat) : Int))) = true := by
        rw [Bool.and_eq_true, decide_eq_true_eq, decide_eq_true_eq]
        omega
      rw [if_pos e, if_pos (by rw [List.length_map, List.length_range]; omega)]
      show some true = some (covB row ps j || (decide (z ≤ (j : Int)) && decide ((j : Int) < z + ((m + 1 : Nat) : Int))))
      rw [e1, Bool.or_true]
    · rw [if_neg e]
      show some (covB row ps j || (decide (z ≤ (j : Int)) && decide ((j : Int) < z + (m : Int)))) = some (covB row ps j || (decide (z ≤ (j : Int)) && decide ((j : Int) < z + ((m + 1 : Nat) : Int))))
      have e1 : decide ((j : Int) < z + (m : Int)) = decide ((j : Int) < z + ((m + 1 : Nat) : Int)) ∨ decide (z ≤ (j : Int)) = false := by
        by_cases hz : z ≤ (j : Int)
        · left
          apply decide_eq_decide.mpr
          omega
        · right
          exact decide_eq_false hz
      rcases e1 with e1 | e1 <;> rw [e1]
      rfl
  · have e1 : ((List.range row.length).map fun j => covB row ps j || (decide (z ≤ (j : Int)) && decide ((j : Int) < z + ((m + 1 : Nat) : Int))))[j]? = none := List.getElem?_eq_none (by rw [List.length_map, List.length_range]; omega)
    rw [e1, if_neg (by omega)]
    exact List.getElem?_eq_none (by rw [List.length_map, List.length_range]; omega)
theorem met_all {row : List (Int × Int)} {zs : List Int} (h1 : zs.Pairwise (· < ·)) (h2 : ∀ z ∈ zs, 0 ≤ z ∧ z < row.length) (h3 : ∀ z ∈ zs, Free row z) : (metL row zs).all id = rightsB row zs := by
  unfold metL
  rw [List.all_map]
  by_cases h : (List.range row.length).all (id ∘ fun j => covB row zs j) = true
  · rw [h]
    symm
    refine rB_t ⟨h1, h2, h3, fun k k0 k1 => ?_⟩
    have := List.all_eq_true.mp h k.toNat (List.mem_range.mpr (by omega))
    obtain ⟨z, hz, e⟩ := List.any_eq_true.mp (show covB row zs k.toNat = true from this)
    simp only [Bool.and_eq_true, decide_eq_true_eq] at e
    exact ⟨z, hz, by omega, by omega⟩
  · have h' : (List.range row.length).all (id ∘ fun j => covB row zs j) = false := by simpa using h
    rw [h']
    symm
    apply rB_f
    intro R
    apply h
    rw [List.all_eq_true]
    intro j hj
    have hj' := List.mem_range.mp hj
    obtain ⟨z, hz, e1, e2⟩ := R.cov j (by omega) (by omega)
    show covB row zs j = true
    exact List.any_eq_true.mpr ⟨z, hz, by simp only [Bool.and_eq_true, decide_eq_true_eq]; exact ⟨e1, e2⟩⟩
end FR

/-! The fewest pushes: what is looked at, and that it is so. -/
namespace FR
open PySem L2 Evl
theorem ev2_get {α : Type} : ∀ (xs : List α) (j : Nat), (ev2 xs)[j]? = xs[2 * j]?
  | [], j => by simp [ev2]
  | [a], 0 => by simp [ev2]
  | [a], j + 1 => by
    have e : 2 * (j + 1) = 2 * j + 1 + 1 := by omega
    rw [e]
    simp [ev2]
  | a :: b :: r, 0 => by simp [ev2]
  | a :: b :: r, j + 1 => by
    have e : 2 * (j + 1) = 2 * j + 1 + 1 := by omega
    rw [e]
    simp only [ev2, List.getElem?_cons_succ]
    exact ev2_get r j
theorem ev2_plc (row : List (Int × Int)) (j : Nat) : plc (ev2 row) j = plc row ((2 * j : Nat) : Int) ∧ hgt (ev2 row) j = hgt row ((2 * j : Nat) : Int) := by
  unfold plc hgt
  rw [List.getD_eq_getElem?_getD, List.getD_eq_getElem?_getD, Int.toNat_natCast, Int.toNat_natCast, ev2_get]
  exact ⟨rfl, rfl⟩
theorem ev2_ok {row : List (Int × Int)} (h : Okr row) : Okr (ev2 row) := by
  have hl := ev2_len row
  have := h.few
  refine ⟨fun i hi => ?_, fun i j hij hj => ?_, by omega⟩
  · rw [(ev2_plc row i).2]
    exact h.pos _ (by omega)
  · rw [(ev2_plc row i).1, (ev2_plc row j).1]
    exact h.inc _ _ (by omega) (by omega)
theorem sub_plc (row : List (Int × Int)) (a b j : Nat) (h : j < b) : plc ((row.drop a).take b) j = plc row ((a + j : Nat) : Int) ∧ hgt ((row.drop a).take b) j = hgt row ((a + j : Nat) : Int) := by
  unfold plc hgt
  rw [List.getD_eq_getElem?_getD, List.getD_eq_getElem?_getD, Int.toNat_natCast, Int.toNat_natCast, List.getElem?_take_of_lt h, List.getElem?_drop]
  exact ⟨rfl, rfl⟩
theorem sub_ok {row : List (Int × Int)} (ok : Okr row) (a b : Nat) : Okr ((row.drop a).take b) := by
  have := ok.few
  have hl : ((row.drop a).take b).length = min b (row.length - a) := by rw [List.length_take, List.length_drop]
  refine ⟨fun i hi => ?_, fun i j hij hj => ?_, by omega⟩
  · rw [(sub_plc row a b i (by omega)).2]
    exact ok.pos _ (by omega)
  · rw [(sub_plc row a b i (by omega)).1, (sub_plc row a b j (by omega)).1]
    exact ok.inc _ _ (by omega) (by omega)
theorem drop_ok {row : List (Int × Int)} (ok : Okr row) (a : Nat) : Okr (row.drop a) := by
  have := sub_ok ok a row.length
  rwa [List.take_of_length_le (by rw [List.length_drop]; omega)] at this
theorem take_ok {row : List (Int × Int)} (ok : Okr row) (b : Nat) : Okr (row.take b) := by
  have := sub_ok ok 0 b
  rwa [List.drop_zero] at this

/-! ### what is looked at -/
def inP (row : List (Int × Int)) (p : Int × Int) (k : Int) : Bool := inS (spanT row p.1.toNat p.2) k
def Pok (row : List (Int × Int)) (p : Int × Int) : Prop := (0 ≤ p.1 ∧ p.1 < row.length) ∧ Sd p.2
structure FwOK (row : List (Int × Int)) (ps : List (Int × Int)) (zs : List Int) : Prop where
  len : ps.length = zs.length
  rng : ∀ z ∈ zs, 0 ≤ z ∧ z < row.length
  pok : ∀ p ∈ ps, Pok row p
  cov : ∀ k : Int, 0 ≤ k → k < row.length → ∃ p ∈ ps, inP row p k = true
  ind : ∀ i : Nat, i < row.length → ∀ s, Sd s → (zs.filter fun z => inS (spanT row i s) z).length ≤ 1
noncomputable def fewB (row : List (Int × Int)) (ps : List (Int × Int)) (zs : List Int) : Bool := @decide (FwOK row ps zs) (Classical.propDecidable _)
theorem fB_t {row ps : List (Int × Int)} {zs : List Int} (h : FwOK row ps zs) : fewB row ps zs = true := by
  unfold fewB
  exact @decide_eq_true _ (Classical.propDecidable _) h
theorem fB_f {row ps : List (Int × Int)} {zs : List Int} (h : ¬ FwOK row ps zs) : fewB row ps zs = false := by
  unfold fewB
  exact @decide_eq_false _ (Classical.propDecidable _) h
theorem le_one {In : Int → Bool} {zs : List Int} (hn : zs.Nodup) (hi : ∀ x ∈ zs, ∀ y ∈ zs, In x = true → In y = true → x = y) : (zs.filter In).length ≤ 1 := by
  have hnd := hn.filter In
  cases e : zs.filter In with
  | nil => simp
  | cons a r =>
    cases r with
    | nil => simp
    | cons b r =>
      rw [e] at hnd
      have ha : a ∈ zs.filter In := by rw [e]; exact List.mem_cons_self
      have hb : b ∈ zs.filter In := by rw [e]; exact List.mem_cons_of_mem _ List.mem_cons_self
      obtain ⟨a1, a2⟩ := List.mem_filter.mp ha
      obtain ⟨b1, b2⟩ := List.mem_filter.mp hb
      have := hi a a1 b b1 a2 b2
      subst this
      exact absurd List.mem_cons_self (List.nodup_cons.mp hnd).1
theorem push_of {row : List (Int × Int)} {t : Span} {p : Int × Int} (h : t ∈ spansL row) (e : t.2.2 = p) : Pok row p ∧ t = spanT row p.1.toNat p.2 := by
  obtain ⟨i, s, hi, hs, rfl⟩ := span_in.mp h
  have e' : ((i : Int), s) = p := e
  subst e'
  refine ⟨⟨by show 0 ≤ (i : Int) ∧ (i : Int) < _; omega, hs⟩, ?_⟩
  show spanT row i s = spanT row ((i : Int)).toNat s
  rw [Int.toNat_natCast]
theorem few_FwOK (row : List (Int × Int)) : FwOK row (fewP row) (fewZ row) := by
  have F := fewL_ok row
  refine ⟨few_lens row, fun z hz => ?_, fun p hp => ?_, fun k k0 k1 => ?_, fun i hi s hs => ?_⟩
  · obtain ⟨x, hx, rfl⟩ := List.mem_map.mp hz
    exact F.rng x hx
  · obtain ⟨x, hx, rfl⟩ := List.mem_map.mp hp
    obtain ⟨t, ht, _, e⟩ := F.push x hx
    exact (push_of ht e).1
  · obtain ⟨x, hx, t, ht, e, hk⟩ := F.cov k k0 k1
    refine ⟨x.1, List.mem_map.mpr ⟨x, hx, rfl⟩, ?_⟩
    unfold inP
    rw [← (push_of ht e).2]
    exact hk
  · refine le_one (rise_nodup F.rise) fun x hx y hy e1 e2 => ?_
    obtain ⟨x', hx', rfl⟩ := List.mem_map.mp hx
    obtain ⟨y', hy', rfl⟩ := List.mem_map.mp hy
    exact F.ind _ (span_in.mpr ⟨i, s, hi, hs, rfl⟩) x' hx' y' hy' e1 e2
theorem mn_mx_in {a b k : Int} : (mn a b ≤ k ∧ k ≤ mx a b) ↔ (a ≤ k ∧ k ≤ b) ∨ (b ≤ k ∧ k ≤ a) := by
  unfold mn mx
  by_cases h : b < a
  · rw [if_pos h, if_neg (by omega)]
    omega
  · rw [if_neg h]
    by_cases h2 : b > a
    · rw [if_pos h2]
      omega
    · rw [if_neg h2]
      omega
theorem few_mir (row : List (Int × Int)) : (fewL (mir row)).length ≤ (fewL row).length := by
  have F := fewL_ok row
  have G := fewL_ok (mir row)
  have hml := mir_len row
  have := pigeon (fun (t : Span) (z : Int) => inS t ((row.length : Int) - 1 - z)) ((fewL row).map fun x => spanT row x.1.1.toNat x.1.2) ((fewL (mir row)).map fun x => x.2) (rise_nodup G.rise) (fun z hz => by
    obtain ⟨x, hx, rfl⟩ := List.mem_map.mp hz
    have h1 := G.rng x hx
    obtain ⟨y, hy, t, ht, e, hk⟩ := F.cov ((row.length : Int) - 1 - x.2) (by omega) (by omega)
    refine ⟨_, List.mem_map.mpr ⟨y, hy, rfl⟩, ?_⟩
    show inS (spanT row y.1.1.toNat y.1.2) _ = true
    rw [← (push_of ht e).2]
    exact hk) fun c hc x hx y hy e1 e2 => by
      obtain ⟨q, hq, rfl⟩ := List.mem_map.mp hc
      obtain ⟨x', hx', rfl⟩ := List.mem_map.mp hx
      obtain ⟨y', hy', rfl⟩ := List.mem_map.mp hy
      obtain ⟨t, ht, _, e⟩ := F.push q hq
      obtain ⟨⟨p1, p2⟩, hs⟩ := (push_of ht e).1
      have hi : q.1.1.toNat < row.length := by omega
      have hlast := mir_last (row := row) (s := q.1.2) (i := q.1.1.toNat) hi hs
      have cross : ∀ z : Int, inS (spanT row q.1.1.toNat q.1.2) ((row.length : Int) - 1 - z) = true → inS (spanT (mir row) (row.length - 1 - q.1.1.toNat) (-q.1.2)) z = true := fun z hz => by
        have h1 := mn_mx_in.mp (inS_iff.mp hz)
        refine inS_iff.mpr (mn_mx_in.mpr ?_)
        rw [hlast]
        omega
      exact G.ind _ (span_in.mpr ⟨row.length - 1 - q.1.1.toNat, -q.1.2, by omega, by rcases hs with e | e <;> rw [e] <;> simp [Sd], rfl⟩) x' hx' y' hy' (cross _ e1) (cross _ e2)
  rwa [List.length_map, List.length_map] at this
theorem few_same (row : List (Int × Int)) : (fewZ row).length = (fewZ (mir row)).length := by
  have h1 := few_mir row
  have h2 := few_mir (mir row)
  rw [mir_mir] at h2
  unfold fewZ
  rw [List.length_map, List.length_map]
  omega

/-! ### keys of a dict, marks of a list -/
def keysD (ks : List Int) : List (Int × Da) := ks.map fun j => (j, Da.bl true)
def insI (ks : List Int) (j : Int) : List Int := if j ∈ ks then ks else ks ++ [j]
theorem put_keys (ks : List Int) (j : Int) : putD (keysD ks) j (.bl true) = keysD (insI ks j) := by
  have e : ((keysD ks).any fun kv => decide (kv.1 = j)) = decide (j ∈ ks) := by
    unfold keysD
    rw [List.any_map]
    by_cases h : j ∈ ks
    · rw [decide_eq_true h, List.any_eq_true]
      exact ⟨j, h, by simp⟩
    · rw [decide_eq_false h, List.any_eq_false]
      intro x hx
      show ¬ decide (x = j) = true
      rw [decide_eq_true_eq]
      rintro rfl
      exact h hx
  unfold putD insI
  rw [e]
  by_cases h : j ∈ ks
  · rw [if_pos (decide_eq_true h), if_pos h]
    unfold keysD
    rw [List.map_map]
    apply List.map_congr_left
    intro x _
    show (if x = j then (x, Da.bl true) else (x, Da.bl true)) = _
    split <;> rfl
  · rw [if_neg (by simpa using h), if_neg h]
    unfold keysD
    rw [List.map_append]
    rfl
theorem ins_nodup {ks : List Int} {j : Int} (h : ks.Nodup) : (insI ks j).Nodup := by
  unfold insI
  split
  · exact h
  · rename_i hj
    rw [List.nodup_append]
    refine ⟨h, by simp, fun a ha c hc => ?_⟩
    rw [List.mem_singleton.mp hc]
    rintro rfl
    exact hj ha
theorem ins_mem {ks : List Int} {j k : Int} : k ∈ insI ks j ↔ k ∈ ks ∨ k = j := by
  unfold insI
  split
  · rename_i hj
    constructor
    · exact .inl
    · rintro (h | rfl)
      · exact h
      · exact hj
  · simp
theorem keys_le {ks : List Int} {n : Nat} (hn : ks.Nodup) (hr : ∀ j ∈ ks, 0 ≤ j ∧ j < n) : ks.length ≤ n := by
  have := pigeon (fun (c : Nat) (z : Int) => decide ((c : Int) = z)) (List.range n) ks hn (fun z hz => by
    have := hr z hz
    exact ⟨z.toNat, List.mem_range.mpr (by omega), by rw [decide_eq_true_eq]; omega⟩) fun c _ x _ y _ e1 e2 => by
      have := of_decide_eq_true e1
      have := of_decide_eq_true e2
      omega
  rwa [List.length_range] at this
theorem keys_lt {ks : List Int} {n : Nat} (hn : ks.Nodup) (hr : ∀ j ∈ ks, 0 ≤ j ∧ j < n) : ks.length < n ↔ ∃ k : Int, 0 ≤ k ∧ k < n ∧ k ∉ ks := by
  constructor
  · intro h
    apply Classical.byContradiction
    intro hc
    have all : ∀ k : Int, 0 ≤ k → k < n → k ∈ ks := fun k k0 k1 => Classical.byContradiction fun z => hc ⟨k, k0, k1, z⟩
    have := pigeon (fun (c : Int) (z : Int) => decide (c = z)) ks ((List.range n).map fun j : Nat => (j : Int)) (nodup_map_inj List.nodup_range fun a b e => by omega) (fun z hz => by
      obtain ⟨j, hj, rfl⟩ := List.mem_map.mp hz
      have := List.mem_range.mp hj
      exact ⟨(j : Int), all _ (by omega) (by omega), by simp⟩) fun c _ x _ y _ e1 e2 => by
        have := of_decide_eq_true e1
        have := of_decide_eq_true e2
        omega
    rw [List.length_map, List.length_range] at this
    omega
  · rintro ⟨k, k0, k1, hk⟩
    have h1 : (k :: ks).Nodup := List.nodup_cons.mpr ⟨hk, hn⟩
    have := keys_le (n := n) h1 fun j hj => by
      rcases List.mem_cons.mp hj with rfl | hj
      · exact ⟨k0, k1⟩
      · exact hr j hj
    rw [List.length_cons] at this
    omega
def metG (n : Nat) (f : Nat → Bool) (z m : Int) : List Bool := (List.range n).map fun j => f j || (decide (z ≤ j) && decide ((j : Int) < z + m))
theorem metG_zero (n : Nat) (f : Nat → Bool) (z : Int) : metG n f z ((0 : Nat) : Int) = (List.range n).map f := by
  unfold metG
  apply List.map_congr_left
  intro j _
  have : (decide (z ≤ (j : Int)) && decide ((j : Int) < z + ((0 : Nat) : Int))) = false := by
    rw [Bool.and_eq_false_iff, decide_eq_false_iff_not, decide_eq_false_iff_not]
    omega
  rw [this, Bool.or_false]
theorem metG_end {n : Nat} {f f' : Nat → Bool} {z m : Int} (h : ∀ j : Nat, f' j = (f j || (decide (z ≤ (j : Int)) && decide ((j : Int) < z + m)))) : metG n f z m = (List.range n).map f' := by
  unfold metG
  apply List.map_congr_left
  intro j _
  exact (h j).symm
theorem metG_set {n : Nat} {f : Nat → Bool} {z : Int} {m : Nat} (h0 : 0 ≤ z) (h : z + m < n) : (metG n f z (m : Nat)).set (z + m).toNat true = metG n f z ((m + 1 : Nat) : Int) := by
  unfold metG
  apply List.ext_getElem?
  intro j
  rw [List.getElem?_set]
  by_cases hj : j < n
  · rw [List.getElem?_map, List.getElem?_map, List.getElem?_range hj]
    show (if _ then _ else some _) = some _
    by_cases e : (z + (m : Nat)).toNat = j
    · have e1 : (decide (z ≤ (j : Int)) && decide ((j : Int) < z + ((m + 1 : Nat) : Int))) = true := by
        rw [Bool.and_eq_true, decide_eq_true_eq, decide_eq_true_eq]
        omega
      rw [if_pos e, if_pos (by rw [List.length_map, List.length_range]; omega)]
      show some true = some (f j || (decide (z ≤ (j : Int)) && decide ((j : Int) < z + ((m + 1 : Nat) : Int))))
      rw [e1, Bool.or_true]
    · rw [if_neg e]
      show some (f j || (decide (z ≤ (j : Int)) && decide ((j : Int) < z + (m : Int)))) = some (f j || (decide (z ≤ (j : Int)) && decide ((j : Int) < z + ((m + 1 : Nat) : Int))))
      have e1 : decide ((j : Int) < z + (m : Int)) = decide ((j : Int) < z + ((m + 1 : Nat) : Int)) ∨ decide (z ≤ (j : Int)) = false := by
        by_cases hz : z ≤ (j : Int)
        · left
          apply decide_eq_decide.mpr
          omega
        · right
          exact decide_eq_false hz
      rcases e1 with e1 | e1 <;> rw [e1]
      rfl
  · have e1 : ((List.range n).map fun j => f j || (decide (z ≤ (j : Int)) && decide ((j : Int) < z + ((m + 1 : Nat) : Int))))[j]? = none := List.getElem?_eq_none (by rw [List.length_map, List.length_range]; omega)
    rw [e1, if_neg (by omega)]
    exact List.getElem?_eq_none (by rw [List.length_map, List.length_range]; omega)
theorem few_longer_z {row ps : List (Int × Int)} {zs : List Int} {z : Int} (h : ps.length = zs.length) : fewB row ps (zs ++ [z]) = false := by
  apply fB_f
  intro R
  have := R.len
  rw [List.length_append, List.length_singleton] at this
  omega
theorem few_longer_p {row ps : List (Int × Int)} {zs : List Int} {p : Int × Int} (h : ps.length = zs.length) : fewB row (ps ++ [p]) zs = false := by
  apply fB_f
  intro R
  have := R.len
  rw [List.length_append, List.length_singleton] at this
  omega
end FR

/-! len(set(xs)), ints that may stand twice. -/
namespace FR
open PySem L2 Evl
open PySem.Spec PyProof.Rows
def dcount (ns : List Int) : Nat := (PyProof.Rows.firstMet (fun i => ns.getD i 0) ns.length).length
def tLenSetG (K : PySem.W.Frag) (ta : TE) : TE := fun σ H Q => ta σ H fun x H1 => ∃ (l : Addr) (ns : List Int), x = .ref l ∧ SqL K H1 l (ns.map V.int) ∧ ns.length ≤ 4000 ∧ Q (.int (dcount ns : Nat)) H1
theorem pe_lenSetG {X : Cx} {a : Expr} {ta : TE} {p p2 q pos : Pos} (hg : Gl X "len") (hm : X.mg "len" = none) (hg2 : Gl X "set") (hm2 : X.mg "set" = none) (ha : PE X a ta) (hc : X.calm = true := by rfl)
    (na : starEach [a] X.env = (false, eval a X.env) :: starEach [] X.env := by rfl) : PE X (.Call (.Name "len" p) [.Call (.Name "set" p2) [a] [] q] [] pos) (tLenSetG X.K ta) := by
  refine ⟨fun pins s σ H Q I h => ?_⟩
  refine Call_ (ld_blt I hg hm boot_len ?_)
  refine PyProof.Rows.callWith_builtin1 (PyProof.Rows.args_cons ?_ rfl) rfl rfl
  refine Call_ (ld_blt I hg2 hm2 boot_set ?_)
  refine PyProof.Rows.callWith_type1 (PyProof.Rows.args_cons (thn (ha.run pins s σ H _ I h) fun v s1 ⟨x, H1, I1, r1, q1⟩ => PyProof.Rows.args_nil ?_) na) na rfl
  obtain ⟨l, ns, rfl, hq, hl, q1⟩ := q1
  cases r1
  obtain ⟨its, r, pl, hz⟩ := I1.list hq
  have hlen : its.toArray.size = ns.length := by rw [List.size_toArray, ← r.length, List.length_map]
  refine call_set_list (I1.ok.hd hc) pl.isList (by simpa using RZ.intsAre_vals r) (by rw [hlen]; unfold scanBound; omega) fun h' tk hS hk => ?_
  refine PyProof.Rows.args_nil ?_
  rw [hlen] at hS
  obtain ⟨o, es, ep, t, ho, hex, hd, _, _, _, hf, hn⟩ := hS
  have I2 : Inv X pins σ H1 { s1 with heap := h', toks := tk } := I1.kept fun b o e => hk b o (Heap.lt_size e) e
  have hle : (PyProof.Rows.firstMet (fun i => ns.getD i 0) ns.length).length ≤ ns.length := PyProof.Rows.firstMet_length_le _ _
  exact call_len_set ho hex hd hf (by rw [hn] <;> omega) ⟨.int (dcount ns : Nat), H1, I2.tok _, ⟨_, by rw [hn]; rfl⟩, q1⟩
section
variable {K : PySem.W.Frag} {env : En} {te ta tb : TE} {ds es : List Da} {i j : Int}
theorem ev_lenSetG {ns : List Int} (ha : EvE K ta env (intsD ns)) (h2 : ns.length ≤ 4000) : EvE K (tLenSetG K ta) env (.int (dcount ns : Nat)) := fun σ B s H1 e Q q =>
  ha σ B s H1 e _ fun v B2 H2 g r => by
    simp only [intsD, Rp] at r
    obtain ⟨a, xs, rfl, h3, h4⟩ := r
    have z := rp_ints h4
    subst z
    exact ⟨a, ns, rfl, sq_of (g.h _ _ h3), h2, q _ B2 H2 g (by simp only [Rp])⟩
theorem met_nodup (val : Nat → Int) : ∀ i, (PyProof.Rows.firstMet val i).length = i → ((List.range i).map val).Nodup
  | 0, _ => by simp
  | i + 1, h => by
    rw [PyProof.Rows.firstMet_succ] at h
    unfold PyProof.Rows.step_dedup at h
    have hle := PyProof.Rows.firstMet_length_le val i
    by_cases e : (PyProof.Rows.firstMet val i).any (· == val i) = true
    · rw [if_pos e] at h
      omega
    · rw [if_neg e, List.length_append, List.length_singleton] at h
      have ih := met_nodup val i (by omega)
      rw [PyProof.Rows.firstMet_any] at e
      rw [List.range_succ, List.map_append, List.nodup_append]
      refine ⟨ih, by simp, fun a ha c hc => ?_⟩
      have hc' : c = val i := by simpa using hc
      rw [hc']
      rintro rfl
      exact e (List.any_eq_true.mpr ⟨_, ha, by simp⟩)
theorem range_getD (ns : List Int) : (List.range ns.length).map (fun i => ns.getD i 0) = ns := by
  apply List.ext_getElem?
  intro j
  rw [List.getElem?_map]
  by_cases hj : j < ns.length
  · rw [List.getElem?_range hj]
    show some (ns.getD j 0) = _
    rw [List.getD_eq_getElem?_getD, List.getElem?_eq_getElem hj]
    rfl
  · rw [List.getElem?_eq_none (by rw [List.length_range]; omega), List.getElem?_eq_none (by omega)]
    rfl
theorem dcount_nodup {ns : List Int} (h : ¬ dcount ns < ns.length) : ns.Nodup := by
  have hle : (PyProof.Rows.firstMet (fun i => ns.getD i 0) ns.length).length ≤ ns.length := PyProof.Rows.firstMet_length_le _ _
  unfold dcount at h
  have := met_nodup _ _ (by omega : (PyProof.Rows.firstMet (fun i => ns.getD i 0) ns.length).length = ns.length)
  rwa [range_getD] at this
theorem nodup_dcount {ns : List Int} (h : ns.Nodup) : dcount ns = ns.length := by
  unfold dcount
  rw [RZ.firstMet_nodup h ns.length (Nat.le_refl _), List.take_length]
theorem sort_uniq : ∀ {xs ys : List Int}, xs.Perm ys → xs.Pairwise (· ≤ ·) → ys.Pairwise (· ≤ ·) → xs = ys
  | [], ys, p, _, _ => by
    have := p.length_eq
    cases ys with
    | nil => rfl
    | cons y ys => simp at this
  | x :: xs, [], p, _, _ => by
    have := p.length_eq
    simp at this
  | x :: xs, y :: ys, p, h1, h2 => by
    obtain ⟨a1, a2⟩ := List.pairwise_cons.mp h1
    obtain ⟨b1, b2⟩ := List.pairwise_cons.mp h2
    have e : x = y := by
      have m1 : x ∈ y :: ys := p.mem_iff.mp List.mem_cons_self
      have m2 : y ∈ x :: xs := p.mem_iff.mpr List.mem_cons_self
      rcases List.mem_cons.mp m1 with rfl | m1
      · rfl
      · rcases List.mem_cons.mp m2 with rfl | m2
        · rfl
        · have := b1 x m1
          have := a1 y m2
          omega
    subst e
    rw [sort_uniq (List.perm_cons _ |>.mp p) a2 b2]
end
end FR

/-! Fewest.shows and the laws' own look (as in K03Run). -/
namespace FR
open PySem L2 Evl
def fewD (C : CS) (ps : List (Int × Int)) (zs : List Int) : Da := .obj C.Fewest ["pushes", "stones"] [rowD ps, intsD zs]
def P_Fewest_shows (C : CS) (ds : List Da) (d : Da) : Prop := ∃ row ps zs, ds = [fewD C ps zs, rowD row] ∧ (row.length ≤ 1000 ∧ ps.length ≤ 3000 ∧ zs.length ≤ 3000) ∧ d = .bl (fewB row ps zs)
def P_law_few (ds : List Da) (d : Da) : Prop := ∃ row ps zs, ds = [rowD row, rowD ps, intsD zs] ∧ (row.length ≤ 1000 ∧ ps.length ≤ 3000 ∧ zs.length ≤ 3000) ∧ d = .bl (fewB row ps zs)
abbrev sp_Fewest_shows (K : PySem.W.Frag) (C : CS) : Sp := FnP K (P_Fewest_shows C)
abbrev sp_law_few (K : PySem.W.Frag) (C : CS) : Sp := FnP K P_law_few
def t_Fewest_shows (K : PySem.W.Frag) (C : CS) : TS :=
  (tSeq (tAsg (tCB (rLenS K) (tCons (tVar 1) tNil)) (gName 2)) (tSeq (tIfS (tOr (tTest (tOp rNe (tCB (rLenS K) (tCons (tFld K (tVar 0) "pushes") tNil)) (tCB (rLenS K) (tCons (tFld K (tVar 0) "stones") tNil)))) (tNot (tB (tCB (rAll K) (tCons (tLc (iList K (tFld K (tVar 0) "stones")) (gName 4) tYes (tChain rLeI rLtI (tC (.int 0)) (tVar 4) (tVar 2)) [4]) tNil))))) (tRet (tC (.bl false))) tNext) (tSeq (tAsg tDNewK (gName 3)) (tSeq (tFor (iList K (tFld K (tVar 0) "pushes")) (gTup K 2 (gCons (gName 4) (gCons (gName 5) gNil))) (tSeq (tIfS (tOr (tNot (tTest (tChain rLeI rLtI (tC (.int 0)) (tVar 4) (tVar 2)))) (tTest (tOp (rIn K true) (tVar 5) (tTup (tCons (tC (.int 1)) (tCons (tUn (rU fun i => .int (-i)) (tC (.int 1))) tNil)))))) (tRet (tC (.bl false))) tNext) (tFor (iList K (tCall (sp_felled_by K C) [] E0 (tCons (tVar 1) (tCons (tVar 4) (tCons (tVar 5) tNil))))) (gName 6) (sDPut (tVar 3) (tVar 6) (tC (.bl true)))))) (tSeq (tIfS (tTest (tOp rLtI (tCB rLenD (tCons (tVar 3) tNil)) (tVar 2))) (tRet (tC (.bl false))) tNext) (tSeq (tFor (iRng1 (tCons (tVar 2) tNil)) (gName 4) (tFor (iTup K (tTup (tCons (tC (.int 1)) (tCons (tUn (rU fun i => .int (-i)) (tC (.int 1))) tNil)))) (gName 5) (tSeq (tAsg (tOp (rIxT K) (tCall (sp_last_felled K C) [] E0 (tCons (tVar 1) (tCons (tVar 4) (tCons (tVar 5) tNil)))) (tC (.int 0))) (gName 7)) (tSeq (tAsg (tTup (tCons (tCB rMin2 (tCons (tVar 4) (tCons (tVar 7) tNil))) (tCons (tCB rMax2 (tCons (tVar 4) (tCons (tVar 7) tNil))) tNil))) (gTup K 2 (gCons (gName 8) (gCons (gName 9) gNil)))) (tIfS (tTest (tOp rGtI (tCB (rLenS K) (tCons (tLc (iList K (tFld K (tVar 0) "stones")) (gName 6) (tTest (tChain rLeI rLeI (tVar 8) (tVar 6) (tVar 9))) (tVar 6) [6]) tNil)) (tC (.int 1)))) (tRet (tC (.bl false))) tNext))))) (tRet (tC (.bl true)))))))))
def t_law_few (K : PySem.W.Frag) (C : CS) : TS :=
  (tSeq (tAsg (tCB (rLenS K) (tCons (tVar 0) tNil)) (gName 3)) (tSeq (tIfS (tOr (tTest (tOp rNe (tCB (rLenS K) (tCons (tVar 1) tNil)) (tCB (rLenS K) (tCons (tVar 2) tNil)))) (tB (tCB (rAny K) (tCons (tLc (iList K (tVar 2)) (gName 5) tYes (tNotV (tChain rLeI rLtI (tC (.int 0)) (tVar 5) (tVar 3))) [5]) tNil)))) (tRet (tC (.bl false))) tNext) (tSeq (tAsg (tLc (iList K (tVar 0)) (gName 5) tYes (tC (.bl false)) [5]) (gName 4)) (tSeq (tFor (iList K (tVar 1)) (gTup K 2 (gCons (gName 5) (gCons (gName 6) gNil))) (tSeq (tIfS (tOr (tNot (tTest (tChain rLeI rLtI (tC (.int 0)) (tVar 5) (tVar 3)))) (tAnd (tTest (tOp rNe (tVar 6) (tC (.int 1)))) (tTest (tOp rNe (tVar 6) (tUn (rU fun i => .int (-i)) (tC (.int 1))))))) (tRet (tC (.bl false))) tNext) (tSeq (tAsg (tCall (sp_law_felled K C) [] E0 (tCons (tVar 0) (tCons (tVar 5) (tCons (tVar 6) tNil)))) (gName 7)) (tFor (iRng2 (tCons (tCB rMin2 (tCons (tVar 5) (tCons (tVar 7) tNil))) (tCons (tOp rAddI (tCB rMax2 (tCons (tVar 5) (tCons (tVar 7) tNil))) (tC (.int 1))) tNil))) (gName 8) (tAsg (tC (.bl true)) (gSub (tVar 4) (tVar 8) rSetL)))))) (tSeq (tIfS (tNot (tB (tCB (rAll K) (tCons (tVar 4) tNil)))) (tRet (tC (.bl false))) tNext) (tSeq (tFor (iRng1 (tCons (tVar 3) tNil)) (gName 5) (tFor (iList K (tLst (tCons (tC (.int 1)) (tCons (tUn (rU fun i => .int (-i)) (tC (.int 1))) tNil)))) (gName 6) (tSeq (tAsg (tCall (sp_law_felled K C) [] E0 (tCons (tVar 0) (tCons (tVar 5) (tCons (tVar 6) tNil)))) (gName 7)) (tIfS (tTest (tOp rGtI (tCB (rSum K) (tCons (tLc (iList K (tVar 2)) (gName 8) (tTest (tChain rLeI rLeI (tCB rMin2 (tCons (tVar 5) (tCons (tVar 7) tNil))) (tVar 8) (tCB rMax2 (tCons (tVar 5) (tCons (tVar 7) tNil))))) (tC (.int 1)) [8]) tNil)) (tC (.int 1)))) (tRet (tC (.bl false))) tNext)))) (tRet (tC (.bl true)))))))))
section
variable {K : PySem.W.Frag} {C : CS} {env : En} {te ta tb tc : TE} {row ps : List (Int × Int)} {zs : List Int} {D : Addr} {b : Bool}
theorem ev_fp (A : FxF K C) (h : EvE K te env (fewD C ps zs)) : EvE K (tFld K te "pushes") env (rowD ps) := ev_fld0 h A.isi.cls (A.no _ List.mem_cons_self)
theorem ev_fz (A : FxF K C) (h : EvE K te env (fewD C ps zs)) : EvE K (tFld K te "stones") env (intsD zs) := ev_fld1 h A.isi.cls (A.no _ (List.mem_cons_of_mem _ List.mem_cons_self)) (by decide)
theorem inP_iff {row : List (Int × Int)} {p : Int × Int} {k : Int} (h0 : 0 ≤ p.1) : inP row p k = true ↔ mn p.1 (lastI row p.2 p.1.toNat) ≤ k ∧ k ≤ mx p.1 (lastI row p.2 p.1.toNat) := by
  have e : ((p.1.toNat : Nat) : Int) = p.1 := by omega
  unfold inP
  rw [inS_iff]
  unfold spanT
  rw [e]
theorem mn_mx_rng {row : List (Int × Int)} {p : Int × Int} (h : Pok row p) : 0 ≤ mn p.1 (lastI row p.2 p.1.toNat) ∧ mx p.1 (lastI row p.2 p.1.toNat) < row.length ∧ mn p.1 (lastI row p.2 p.1.toNat) ≤ mx p.1 (lastI row p.2 p.1.toNat) := by
  obtain ⟨⟨h0, h1⟩, hs⟩ := h
  have hl := last_rng (row := row) (i := p.1.toNat) (s := p.2) (by omega) hs
  refine ⟨?_, ?_, ?_⟩
  · rcases mn_or p.1 (lastI row p.2 p.1.toNat) with e | e <;> rw [e] <;> omega
  · rcases mx_or p.1 (lastI row p.2 p.1.toNat) with e | e <;> rw [e] <;> omega
  · have := (mn_le p.1 (lastI row p.2 p.1.toNat)).1
    have := (mx_ge p.1 (lastI row p.2 p.1.toNat)).1
    omega
theorem run_Fewest_shows (A : FxF K C) {ds : List Da} {d : Da} (h : P_Fewest_shows C ds d) : Run K (t_Fewest_shows K C) (ent ds 8) (retD d) := by
  obtain ⟨row, ps, zs, rfl, ⟨hn, hp, hz⟩, rfl⟩ := h
  refine run_seq (run_asg (d := .int (row.length : Int)) (ev_lenR (ev_var rfl)) ?_)
  refine run_seq (run_if (b := !decide ((ps.length : Int) = (zs.length : Int)) || !(((zs.filter fun _ => true).map fun o => decide (0 ≤ o) && decide (o < (row.length : Int))).all id)) (eb_or ?_ fun _ => ?_) (fun hb => ?_) fun hb => run_next ?_)
  · exact eb_test (ev_neI (ev_lenR (ev_fp (zs := zs) A (ev_var rfl))) (ev_lenI (ev_fz (ps := ps) A (ev_var rfl))))
  · exact eb_not (eb_B (ev_all (ev_new ((en_lc (us := [4]) Da.int (fun _ => true) (fun o => Da.bl (decide (0 ≤ o) && decide (o < (row.length : Int)))) zs (wk_list (ev_fz (ps := ps) A (ev_var rfl))) (by simp) (by omega) fun o ho => ⟨_, tc_name, eb_yes, fun _ => ev_chainI rfl rfl ev_int (ev_var rfl) fun _ => ev_var rfl⟩).is (by simp only [blL, List.map_map]; rfl)))))
  · refine run_ret ev_bl ?_
    show Da.bl _ = Da.bl _
    rw [fB_f]
    intro R
    have h1 := R.len
    rw [decide_eq_true (by omega), List.filter_eq_self.mpr fun _ _ => rfl] at hb
    simp only [Bool.not_true, Bool.false_or, Bool.not_eq_true', List.all_map, List.all_eq_false] at hb
    obtain ⟨z, hz2, e⟩ := hb
    have := R.rng z hz2
    apply e
    show (decide (0 ≤ z) && decide (z < (row.length : Int))) = true
    rw [decide_eq_true this.1, decide_eq_true this.2]
    rfl
  simp only [Bool.or_eq_false_iff, Bool.not_eq_false', decide_eq_true_eq] at hb
  obtain ⟨hlen, hr⟩ := hb
  have hlen' : ps.length = zs.length := by omega
  have hrng : ∀ z ∈ zs, 0 ≤ z ∧ z < row.length := fun z hz2 => by
    rw [List.filter_eq_self.mpr fun _ _ => rfl, List.all_map, List.all_eq_true] at hr
    have e' : (decide (0 ≤ z) && decide (z < (row.length : Int))) = true := hr z hz2
    simpa using e'
  refine run_seq (run_asgD ed_new ?_)
  refine run_seq (run_for (ds := rowL ps) (wk_list (ev_fp (zs := zs) A (ev_var rfl))) (fun k e => ∃ ks y4 y5 y6, e = [.im (fewD C ps zs), .im (rowD row), .im (.int (row.length : Int)), .md (keysD ks), y4, y5, y6, .no, .no, .no] ∧ (∀ p ∈ ps.take k, Pok row p) ∧ ks.Nodup ∧ (∀ j ∈ ks, 0 ≤ j ∧ j < row.length) ∧ ∀ j, j ∈ ks ↔ ∃ p ∈ ps.take k, inP row p j = true) ⟨[], .no, .no, .no, rfl, by simp, List.nodup_nil, by simp, by simp⟩ ?_ ?_)
  · rintro k d e hd ⟨ks, y4, y5, y6, rfl, i1, i2, i3, i4⟩
    obtain ⟨p, hx, rfl⟩ := map_get hd
    have etk : ps.take (k + 1) = ps.take k ++ [p] := by
      rw [List.take_add_one, hx]
      rfl
    refine ⟨_, ts_tup2 ts_name ts_name, ?_⟩
    refine run_seq (run_if (b := !(decide (0 ≤ p.1) && decide (p.1 < (row.length : Int))) || (if true = true then !decide (p.2 ∈ [1, -1]) else decide (p.2 ∈ [1, -1]))) (eb_or (eb_not (eb_test (ev_chainI rfl rfl ev_int (ev_var rfl) fun _ => ev_var rfl))) fun _ => eb_test (ev_inI (ns := [1, -1]) (ev_var rfl) (ev_tup (ea_cons ev_int (ea_cons (ev_neg ev_int) ea_nil))))) (fun hb => ?_) fun hb => run_next ?_)
    · refine run_ret ev_bl ?_
      show Da.bl _ = Da.bl _
      rw [fB_f]
      intro R
      obtain ⟨⟨h0, h1⟩, hs⟩ := R.pok p (List.mem_of_getElem? hx)
      rw [decide_eq_true h0, decide_eq_true h1] at hb
      rcases hs with e | e <;> rw [e] at hb <;> simp at hb
    have hpok : Pok row p := by
      simp only [Bool.or_eq_false_iff, Bool.not_eq_false', Bool.and_eq_true, decide_eq_true_eq, if_true] at hb
      refine ⟨hb.1, ?_⟩
      have := hb.2
      simpa [Sd] using this
    obtain ⟨l0, l1, l2⟩ := mn_mx_rng hpok
    obtain ⟨⟨h0, h1⟩, hs⟩ := hpok
    have ei : p.1 = ((p.1.toNat : Nat) : Int) := by omega
    refine run_for (ds := intL (fellL row p.1.toNat p.2)) (wk_list (ev_new (en_call (ds := [rowD row, .int ((p.1.toNat : Nat) : Int), .int p.2]) (ea_cons (ev_var rfl) (ea_cons ((ev_var rfl).is (congrArg Da.int ei)) (ea_cons (ev_var rfl) ea_nil))) ⟨row, p.1.toNat, p.2, rfl, ⟨by omega, hn, hs⟩, rfl⟩))) (fun m e => ∃ ks y6, e = [.im (fewD C ps zs), .im (rowD row), .im (.int (row.length : Int)), .md (keysD ks), .im (.int p.1), .im (.int p.2), y6, .no, .no, .no] ∧ ks.Nodup ∧ (∀ j ∈ ks, 0 ≤ j ∧ j < row.length) ∧ ∀ j, j ∈ ks ↔ (∃ p ∈ ps.take k, inP row p j = true) ∨ j ∈ (fellL row p.1.toNat p.2).take m) ⟨ks, y6, rfl, i2, i3, fun j => by rw [i4]; simp⟩ ?_ ?_
    · rintro m d e hd2 ⟨ks, y6, rfl, j2, j3, j4⟩
      obtain ⟨o, ho, rfl⟩ := intL_get hd2
      have hom := List.mem_of_getElem? ho
      have hor : mn p.1 (lastI row p.2 p.1.toNat) ≤ o ∧ o ≤ mx p.1 (lastI row p.2 p.1.toNat) := by
        have := span_mem.mp hom
        rw [← ei] at this
        exact this
      refine ⟨_, ts_name, run_dput (kvs := keysD ks) rfl ev_bl (ev_var rfl) ?_ ⟨insI ks o, .im (.int o), ?_, ins_nodup j2, fun j hj => ?_, fun j => ?_⟩⟩
      · unfold keysD
        rw [List.length_map]
        have := keys_le j2 j3
        omega
      · rw [put_keys]
        rfl
      · rcases ins_mem.mp hj with hj | rfl
        · exact j3 j hj
        · omega
      · rw [ins_mem, j4, get_row ho]
        simp [or_assoc]
    · rintro e ⟨ks, y6, rfl, j2, j3, j4⟩
      refine ⟨ks, .im (.int p.1), .im (.int p.2), y6, rfl, fun q hq => ?_, j2, j3, fun j => ?_⟩
      · rw [etk] at hq
        rcases List.mem_append.mp hq with hq | hq
        · exact i1 q hq
        · rw [List.mem_singleton.mp hq]
          exact ⟨⟨h0, h1⟩, hs⟩
      · rw [j4, List.length_map, List.take_length, etk]
        have e1 : j ∈ fellL row p.1.toNat p.2 ↔ inP row p j = true := by
          rw [inP_iff h0]
          refine span_mem.trans ?_
          rw [← ei]
        rw [e1]
        constructor
        · rintro (⟨q, hq, e⟩ | e)
          · exact ⟨q, List.mem_append_left _ hq, e⟩
          · exact ⟨p, by simp, e⟩
        · rintro ⟨q, hq, e⟩
          rcases List.mem_append.mp hq with hq | hq
          · exact .inl ⟨q, hq, e⟩
          · rw [List.mem_singleton.mp hq] at e
            exact .inr e
  rintro e ⟨ks, y4, y5, y6, rfl, i1, i2, i3, i4⟩
  rw [List.length_map, List.take_length] at i1 i4
  have hkl := keys_lt i2 i3
  refine run_seq (run_if (b := decide (((keysD ks).length : Int) < (row.length : Int))) (eb_test (ev_lt (ev_lenD rfl) (ev_var rfl))) (fun hb => ?_) fun hb => run_next ?_)
  · refine run_ret ev_bl ?_
    show Da.bl _ = Da.bl _
    rw [fB_f]
    intro R
    have hb' := of_decide_eq_true hb
    unfold keysD at hb'
    rw [List.length_map] at hb'
    obtain ⟨k, k0, k1, hk⟩ := hkl.mp (by omega)
    exact hk ((i4 k).mpr (R.cov k k0 k1))
  have hcov : ∀ k : Int, 0 ≤ k → k < row.length → ∃ p ∈ ps, inP row p k = true := fun k k0 k1 => by
    apply (i4 k).mp
    apply Classical.byContradiction
    intro hk
    have := hkl.mpr ⟨k, k0, k1, hk⟩
    have hb' := of_decide_eq_false hb
    unfold keysD at hb'
    rw [List.length_map] at hb'
    omega
  refine run_seq (run_for (wk_rng1 (ev_var rfl) (by omega)) (fun k e => ∃ y4 y5 y6 y7 y8 y9, e = [.im (fewD C ps zs), .im (rowD row), .im (.int (row.length : Int)), .md (keysD ks), y4, y5, y6, y7, y8, y9] ∧ ∀ i : Nat, i < k → ∀ s, Sd s → (zs.filter fun z => inS (spanT row i s) z).length ≤ 1) ⟨y4, y5, y6, .no, .no, .no, rfl, fun i hi => absurd hi (by omega)⟩ ?_ ?_)
  · rintro k d e hd ⟨y4, y5, y6, y7, y8, y9, rfl, hI⟩
    have hk : k < ((row.length : Int) - 0).toNat := by
      have := (List.getElem?_eq_some_iff.mp hd).1
      rw [rngD_len] at this
      exact this
    rw [rngD_get hk] at hd
    obtain rfl : Da.int ((0 : Int) + (k : Nat)) = d := Option.some.inj hd
    rw [Int.zero_add]
    have hk' : k < row.length := by omega
    refine ⟨_, ts_name, ?_⟩
    refine run_for (ds := intL [1, -1]) (wk_tup (ev_tup (ea_cons ev_int (ea_cons (ev_neg ev_int) ea_nil)))) (fun m e => ∃ y5 y6 y7 y8 y9, e = [.im (fewD C ps zs), .im (rowD row), .im (.int (row.length : Int)), .md (keysD ks), .im (.int (k : Nat)), y5, y6, y7, y8, y9] ∧ ∀ s ∈ ([1, -1] : List Int).take m, (zs.filter fun z => inS (spanT row k s) z).length ≤ 1) ⟨y5, y6, y7, y8, y9, rfl, fun s hs => by simp at hs⟩ ?_ ?_
    · rintro m d e hd2 ⟨y5, y6, y7, y8, y9, rfl, hJ⟩
      obtain ⟨s, hs, rfl⟩ := intL_get hd2
      have hsd : Sd s := by
        have := List.mem_of_getElem? hs
        simpa [Sd] using this
      refine ⟨_, ts_name, ?_⟩
      refine run_seq (run_asg (d := .int (lastI row s k)) (ev_pr0 (p := (lastI row s k, farI row s k)) (ev_call (ds := [rowD row, .int (k : Nat), .int s]) (ea_cons (ev_var rfl) (ea_cons (ev_var rfl) (ea_cons (ev_var rfl) ea_nil))) ⟨row, k, s, rfl, ⟨hk', hn, hsd⟩, rfl⟩)) ?_)
      refine run_seq (run_asgT (d := .tup [.int (mn k (lastI row s k)), .int (mx k (lastI row s k))]) (ev_tup (ea_cons (ev_min2 (ev_var rfl) (ev_var rfl)) (ea_cons (ev_max2 (ev_var rfl) (ev_var rfl)) ea_nil))) (ts_tup2 ts_name ts_name) ?_)
      refine run_if (b := decide ((1 : Int) < ((zs.filter fun z => inS (spanT row k s) z).length : Int))) (eb_test (ev_gt (ev_lenI (ev_new ?_)) ev_int)) (fun hb => ?_) fun hb => run_next ⟨.im (.int s), y6, .im (.int (lastI row s k)), .im (.int (mn k (lastI row s k))), .im (.int (mx k (lastI row s k))), rfl, ?_⟩
      · exact en_lc (us := [6]) Da.int (fun z => inS (spanT row k s) z) Da.int zs (wk_list (ev_fz (ps := ps) A (ev_var rfl))) (by simp) (by omega) fun o ho => ⟨_, tc_name, eb_test (ev_chainI rfl rfl (ev_var rfl) (ev_var rfl) fun _ => ev_var rfl), fun _ => ev_var rfl⟩
      · refine run_ret ev_bl ?_
        show Da.bl _ = Da.bl _
        rw [fB_f]
        intro R
        have := R.ind k hk' s hsd
        have := of_decide_eq_true hb
        omega
      · intro s' hs'
        rw [get_row hs] at hs'
        rcases List.mem_append.mp hs' with hs' | hs'
        · exact hJ s' hs'
        · rw [List.mem_singleton.mp hs']
          have := of_decide_eq_false hb
          omega
    · rintro e ⟨y5, y6, y7, y8, y9, rfl, hJ⟩
      refine ⟨.im (.int (k : Nat)), y5, y6, y7, y8, y9, rfl, fun i hi s hs => ?_⟩
      by_cases e : i = k
      · subst e
        refine hJ s ?_
        rcases hs with rfl | rfl <;> simp
      · exact hI i (by omega) s hs
  · rintro e ⟨y4, y5, y6, y7, y8, y9, rfl, hI⟩
    rw [rngD_len] at hI
    refine run_ret ev_bl ?_
    show Da.bl _ = Da.bl _
    rw [fB_t ⟨hlen', hrng, i1, hcov, fun i hi s hs => hI i (by omega) s hs⟩]
theorem run_law_few {ds : List Da} {d : Da} (h : P_law_few ds d) : Run K (t_law_few K C) (ent ds 6) (retD d) := by
  obtain ⟨row, ps, zs, rfl, ⟨hn, hp, hz⟩, rfl⟩ := h
  refine run_seq (run_asg (d := .int (row.length : Int)) (ev_lenR (ev_var rfl)) ?_)
  refine run_seq (run_if (b := !decide ((ps.length : Int) = (zs.length : Int)) || ((zs.filter fun _ => true).map fun o => !(decide (0 ≤ o) && decide (o < (row.length : Int)))).any id) (eb_or ?_ fun _ => ?_) (fun hb => ?_) fun hb => run_next ?_)
  · exact eb_test (ev_neI (ev_lenR (ev_var rfl)) (ev_lenI (ev_var rfl)))
  · exact eb_B (ev_any (ev_new ((en_lc (us := [5]) Da.int (fun _ => true) (fun o => Da.bl (!(decide (0 ≤ o) && decide (o < (row.length : Int))))) zs (wk_list (ev_var rfl)) (by simp) (by omega) fun o ho => ⟨_, tc_name, eb_yes, fun _ => ev_notV (ev_chainI rfl rfl ev_int (ev_var rfl) fun _ => ev_var rfl)⟩).is (by simp only [blL, List.map_map]; rfl))))
  · refine run_ret ev_bl ?_
    show Da.bl _ = Da.bl _
    rw [fB_f]
    intro R
    have h1 := R.len
    rw [decide_eq_true (by omega), List.filter_eq_self.mpr fun _ _ => rfl] at hb
    simp only [Bool.not_true, Bool.false_or, List.any_map, List.any_eq_true] at hb
    obtain ⟨z, hz2, e⟩ := hb
    have := R.rng z hz2
    have e' : (!(decide (0 ≤ z) && decide (z < (row.length : Int)))) = true := e
    rw [decide_eq_true this.1, decide_eq_true this.2] at e'
    cases e'
  simp only [Bool.or_eq_false_iff, Bool.not_eq_false', decide_eq_true_eq] at hb
  obtain ⟨hlen, hr⟩ := hb
  have hlen' : ps.length = zs.length := by omega
  have hrng : ∀ z ∈ zs, 0 ≤ z ∧ z < row.length := fun z hz2 => by
    rw [List.filter_eq_self.mpr fun _ _ => rfl, List.any_map, List.any_eq_false] at hr
    have e' : ¬ (!(decide (0 ≤ z) && decide (z < (row.length : Int)))) = true := hr z hz2
    simpa using e'
  refine run_seq (run_asgN (ds := blL ((List.range row.length).map fun j : Nat => ([] : List (Int × Int)).any fun p => inP row p j)) ((en_lc (us := [5]) prD (fun _ => true) (fun _ => Da.bl false) row (wk_list (ev_var rfl)) (by simp) (by omega) fun q hq => ⟨_, tc_name, eb_yes, fun _ => ev_bl⟩).is ?_) ?_)
  · rw [List.filter_eq_self.mpr fun _ _ => rfl]
    unfold blL
    rw [List.map_map]
    apply List.ext_getElem?
    intro j
    rw [List.getElem?_map, List.getElem?_map]
    by_cases hj : j < row.length
    · rw [List.getElem?_range hj, List.getElem?_eq_getElem hj]
      rfl
    · rw [List.getElem?_eq_none (by omega), List.getElem?_eq_none (by rw [List.length_range]; omega)]
      rfl
  refine run_seq (run_for (ds := rowL ps) (wk_list (ev_var rfl)) (fun k e => ∃ y5 y6 y7 y8, e = [.im (rowD row), .im (rowD ps), .im (intsD zs), .im (.int (row.length : Int)), .mu (blL ((List.range row.length).map fun j : Nat => (ps.take k).any fun p => inP row p j)), y5, y6, y7, y8] ∧ ∀ p ∈ ps.take k, Pok row p) ⟨.no, .no, .no, .no, rfl, by simp⟩ ?_ ?_)
  · rintro k d e hd ⟨y5, y6, y7, y8, rfl, i1⟩
    obtain ⟨p, hx, rfl⟩ := map_get hd
    have etk : ps.take (k + 1) = ps.take k ++ [p] := by
      rw [List.take_add_one, hx]
      rfl
    refine ⟨_, ts_tup2 ts_name ts_name, ?_⟩
    refine run_seq (run_if (b := !(decide (0 ≤ p.1) && decide (p.1 < (row.length : Int))) || (!decide (p.2 = 1) && !decide (p.2 = -1))) (eb_or (eb_not (eb_test (ev_chainI rfl rfl ev_int (ev_var rfl) fun _ => ev_var rfl))) fun _ => eb_and (eb_test (ev_neI (ev_var rfl) ev_int)) fun _ => eb_test (ev_neI (ev_var rfl) (ev_neg ev_int))) (fun hb => ?_) fun hb => run_next ?_)
    · refine run_ret ev_bl ?_
      show Da.bl _ = Da.bl _
      rw [fB_f]
      intro R
      obtain ⟨⟨h0, h1⟩, hs⟩ := R.pok p (List.mem_of_getElem? hx)
      rw [decide_eq_true h0, decide_eq_true h1] at hb
      rcases hs with e | e <;> rw [e] at hb <;> simp at hb
    have hpok : Pok row p := by
      simp only [Bool.or_eq_false_iff, Bool.not_eq_false', Bool.and_eq_true, decide_eq_true_eq, Bool.and_eq_false_iff] at hb
      exact ⟨hb.1, hb.2⟩
    obtain ⟨l0, l1, l2⟩ := mn_mx_rng hpok
    obtain ⟨⟨h0, h1⟩, hs⟩ := hpok
    have ei : p.1 = ((p.1.toNat : Nat) : Int) := by omega
    refine run_seq (run_asg (d := .int (lastI row p.2 p.1.toNat)) (ev_call (ds := [rowD row, .int ((p.1.toNat : Nat) : Int), .int p.2]) (ea_cons (ev_var rfl) (ea_cons ((ev_var rfl).is (congrArg Da.int ei)) (ea_cons (ev_var rfl) ea_nil))) ⟨row, p.1.toNat, p.2, rfl, ⟨by omega, hn, hs⟩, rfl⟩) ?_)
    refine run_for (ds := rngD (mn p.1 (lastI row p.2 p.1.toNat)) (mx p.1 (lastI row p.2 p.1.toNat) + 1)) (wk_rng2 (ev_min2 (ev_var rfl) (ev_var rfl)) (ev_add (ev_max2 (ev_var rfl) (ev_var rfl)) ev_int) (by
      show -(2 ^ 62) ≤ mn p.1 (lastI row p.2 p.1.toNat) ∧ mn p.1 (lastI row p.2 p.1.toNat) < 2 ^ 62 ∧ -(2 ^ 62) ≤ mx p.1 (lastI row p.2 p.1.toNat) + 1 ∧ mx p.1 (lastI row p.2 p.1.toNat) + 1 < 2 ^ 62
      omega)) (fun m e => ∃ y8, e = [.im (rowD row), .im (rowD ps), .im (intsD zs), .im (.int (row.length : Int)), .mu (blL (metG row.length (fun j => (ps.take k).any fun p => inP row p j) (mn p.1 (lastI row p.2 p.1.toNat)) (m : Nat))), .im (.int p.1), .im (.int p.2), .im (.int (lastI row p.2 p.1.toNat)), y8]) ⟨y8, by rw [metG_zero]; rfl⟩ ?_ ?_
    · rintro m d e hd2 ⟨y8, rfl⟩
      have hm : m < (mx p.1 (lastI row p.2 p.1.toNat) + 1 - mn p.1 (lastI row p.2 p.1.toNat)).toNat := by
        have := (List.getElem?_eq_some_iff.mp hd2).1
        rw [rngD_len] at this
        exact this
      rw [rngD_get hm] at hd2
      generalize mn p.1 (lastI row p.2 p.1.toNat) = lo at *
      generalize mx p.1 (lastI row p.2 p.1.toNat) = hi at *
      obtain rfl : Da.int (lo + (m : Nat)) = d := Option.some.inj hd2
      have e2 : lo + (m : Nat) = (((lo + (m : Nat)).toNat : Nat) : Int) := by omega
      refine ⟨_, ts_name, run_setL (d := .bl true) (j := (lo + (m : Nat)).toNat) (ds := blL (metG row.length (fun j => (ps.take k).any fun p => inP row p j) lo (m : Nat))) rfl ev_bl rfl ((ev_var rfl).is (congrArg Da.int e2)) ?_ ⟨.im (.int (lo + (m : Nat))), ?_⟩⟩
      · unfold metG
        rw [List.length_map, List.length_map, List.length_range]
        omega
      · have e3 : (blL (metG row.length (fun j => (ps.take k).any fun p => inP row p j) lo (m : Nat))).set (lo + (m : Nat)).toNat (Da.bl true) = blL (metG row.length (fun j => (ps.take k).any fun p => inP row p j) lo ((m + 1 : Nat) : Int)) := by
          rw [← metG_set l0 (by omega)]
          exact List.map_set.symm
        rw [e3]
        rfl
    · rintro e ⟨y8, rfl⟩
      refine ⟨.im (.int p.1), .im (.int p.2), .im (.int (lastI row p.2 p.1.toNat)), y8, ?_, fun q hq => ?_⟩
      · rw [rngD_len, metG_end (f' := fun j : Nat => (ps.take (k + 1)).any fun p => inP row p j)]
        intro j
        rw [etk, List.any_append]
        congr 1
        show (inP row p j || false) = _
        rw [Bool.or_false, Bool.eq_iff_iff, inP_iff h0, Bool.and_eq_true, decide_eq_true_eq, decide_eq_true_eq]
        omega
      · rw [etk] at hq
        rcases List.mem_append.mp hq with hq | hq
        · exact i1 q hq
        · rw [List.mem_singleton.mp hq]
          exact ⟨⟨h0, h1⟩, hs⟩
  rintro e ⟨y5, y6, y7, y8, rfl, i1⟩
  rw [List.length_map, List.take_length] at i1 ⊢
  refine run_seq (run_if (b := !(((List.range row.length).map fun j : Nat => ps.any fun p => inP row p j).all id)) (eb_not (eb_B (ev_all (ev_var rfl)))) (fun hb => ?_) fun hb => run_next ?_)
  · refine run_ret ev_bl ?_
    show Da.bl _ = Da.bl _
    rw [fB_f]
    intro R
    rw [Bool.not_eq_true', List.all_map, List.all_eq_false] at hb
    obtain ⟨j, hj, e⟩ := hb
    have hj' := List.mem_range.mp hj
    apply e
    show (ps.any fun p => inP row p j) = true
    exact List.any_eq_true.mpr (R.cov j (by omega) (by omega))
  have hcov : ∀ k : Int, 0 ≤ k → k < row.length → ∃ p ∈ ps, inP row p k = true := fun k k0 k1 => by
    rw [Bool.not_eq_false', List.all_map, List.all_eq_true] at hb
    have := hb k.toNat (List.mem_range.mpr (by omega))
    have e : (ps.any fun p => inP row p ((k.toNat : Nat) : Int)) = true := this
    have e2 : ((k.toNat : Nat) : Int) = k := by omega
    rw [e2] at e
    exact List.any_eq_true.mp e
  generalize (blL ((List.range row.length).map fun j : Nat => ps.any fun p => inP row p j)) = met
  refine run_seq (run_for (wk_rng1 (ev_var rfl) (by omega)) (fun k e => ∃ y5 y6 y7 y8, e = [.im (rowD row), .im (rowD ps), .im (intsD zs), .im (.int (row.length : Int)), .mu met, y5, y6, y7, y8] ∧ ∀ i : Nat, i < k → ∀ s, Sd s → (zs.filter fun z => inS (spanT row i s) z).length ≤ 1) ⟨y5, y6, y7, y8, rfl, fun i hi => absurd hi (by omega)⟩ ?_ ?_)
  · rintro k d e hd ⟨y5, y6, y7, y8, rfl, hI⟩
    have hk : k < ((row.length : Int) - 0).toNat := by
      have := (List.getElem?_eq_some_iff.mp hd).1
      rw [rngD_len] at this
      exact this
    rw [rngD_get hk] at hd
    obtain rfl : Da.int ((0 : Int) + (k : Nat)) = d := Option.some.inj hd
    rw [Int.zero_add]
    have hk' : k < row.length := by omega
    refine ⟨_, ts_name, ?_⟩
    refine run_for (ds := intL [1, -1]) (wk_list (ev_new (en_lst (ea_cons ev_int (ea_cons (ev_neg ev_int) ea_nil))))) (fun m e => ∃ y6 y7 y8, e = [.im (rowD row), .im (rowD ps), .im (intsD zs), .im (.int (row.length : Int)), .mu met, .im (.int (k : Nat)), y6, y7, y8] ∧ ∀ s ∈ ([1, -1] : List Int).take m, (zs.filter fun z => inS (spanT row k s) z).length ≤ 1) ⟨y6, y7, y8, rfl, fun s hs => by simp at hs⟩ ?_ ?_
    · rintro m d e hd2 ⟨y6, y7, y8, rfl, hJ⟩
      obtain ⟨s, hs, rfl⟩ := intL_get hd2
      have hsd : Sd s := by
        have := List.mem_of_getElem? hs
        simpa [Sd] using this
      refine ⟨_, ts_name, ?_⟩
      refine run_seq (run_asg (d := .int (lastI row s k)) (ev_call (ds := [rowD row, .int (k : Nat), .int s]) (ea_cons (ev_var rfl) (ea_cons (ev_var rfl) (ea_cons (ev_var rfl) ea_nil))) ⟨row, k, s, rfl, ⟨hk', hn, hsd⟩, rfl⟩) ?_)
      have esum : ∀ xs : List Int, (xs.map fun _ => (1 : Int)).sum = (xs.length : Int) := fun xs => by
        induction xs with
        | nil => rfl
        | cons a r ih =>
          rw [List.map_cons, List.sum_cons, ih, List.length_cons]
          omega
      refine run_if (b := decide ((1 : Int) < ((zs.filter fun z => inS (spanT row k s) z).map fun _ => (1 : Int)).sum)) (eb_test (ev_gt (ev_sumL (ev_new ?_)) ev_int)) (fun hb => ?_) fun hb => run_next ⟨.im (.int s), .im (.int (lastI row s k)), y8, rfl, ?_⟩
      · exact (en_lc (us := [8]) Da.int (fun z => inS (spanT row k s) z) (fun _ => Da.int 1) zs (wk_list (ev_var rfl)) (by simp) (by omega) fun o ho => ⟨_, tc_name, eb_test (ev_chainI rfl rfl (ev_min2 (ev_var rfl) (ev_var rfl)) (ev_var rfl) fun _ => ev_max2 (ev_var rfl) (ev_var rfl)), fun _ => ev_int⟩).is (by rw [List.map_map]; rfl)
      · refine run_ret ev_bl ?_
        show Da.bl _ = Da.bl _
        rw [fB_f]
        intro R
        have := R.ind k hk' s hsd
        have hb' := of_decide_eq_true hb
        rw [esum] at hb'
        omega
      · intro s' hs'
        rw [get_row hs] at hs'
        rcases List.mem_append.mp hs' with hs' | hs'
        · exact hJ s' hs'
        · rw [List.mem_singleton.mp hs']
          have hb' := of_decide_eq_false hb
          rw [esum] at hb'
          omega
    · rintro e ⟨y6, y7, y8, rfl, hJ⟩
      refine ⟨.im (.int (k : Nat)), y6, y7, y8, rfl, fun i hi s hs => ?_⟩
      by_cases e : i = k
      · subst e
        refine hJ s ?_
        rcases hs with rfl | rfl <;> simp
      · exact hI i (by omega) s hs
  · rintro e ⟨y5, y6, y7, y8, rfl, hI⟩
    rw [rngD_len] at hI
    refine run_ret ev_bl ?_
    show Da.bl _ = Da.bl _
    rw [fB_t ⟨hlen', hrng, i1, hcov, fun i hi s hs => hI i (by omega) s hs⟩]
end
section
variable {K : PySem.W.Frag} {C : CS} {vs : List V} {H : Hp} {Q : VK} {E : XK}
theorem lenP_Fewest_shows {ds : List Da} {d : Da} (h : P_Fewest_shows C ds d) : ds.length = 2 := by
  unfold P_Fewest_shows at h
  repeat (rcases h with ⟨z, h⟩; first | (subst z; rfl) | skip)
theorem len_Fewest_shows (h : sp_Fewest_shows K C vs H Q E) : vs.length = 2 := len_P (m := 2) (fun _ _ p => lenP_Fewest_shows p) h
theorem pure_Fewest_shows (A : FxF K C) (h : sp_Fewest_shows K C vs H Q E) : t_Fewest_shows K C { nx := fun _ H' => Q .non H', rt := Q } (start ["self", "row", "many", "felled", "stone", "side", "one", "last", "low", "high"] vs) H := fnP_of 8 (fun _ _ p => by rw [lenP_Fewest_shows p] <;> rfl) (fun _ _ p => run_Fewest_shows A p) h
theorem lenP_law_few {ds : List Da} {d : Da} (h : P_law_few ds d) : ds.length = 3 := by
  unfold P_law_few at h
  repeat (rcases h with ⟨z, h⟩; first | (subst z; rfl) | skip)
theorem len_law_few (h : sp_law_few K C vs H Q E) : vs.length = 3 := len_P (m := 3) (fun _ _ p => lenP_law_few p) h
theorem pure_law_few (h : sp_law_few K C vs H Q E) : t_law_few K C { nx := fun _ H' => Q .non H', rt := Q } (start ["_law_row_here", "_law_pushes", "_law_stones", "_law_many", "_law_met", "_law_stone", "_law_side", "_law_end", "_law_one"] vs) H := fnP_of 6 (fun _ _ p => by rw [lenP_law_few p] <;> rfl) (fun _ _ p => run_law_few p) h
end
end FR

/-! Rights.shows and the laws' own look (as in K04Run, stones that stand twice as well). -/
namespace FR
open PySem L2 Evl
abbrev FxR (K : PySem.W.Frag) (C : CS) : Prop := Fx1 K C.Rights ["stones"]
def rightD (C : CS) (zs : List Int) : Da := .obj C.Rights ["stones"] [intsD zs]
def P_Rights_shows (C : CS) (ds : List Da) (d : Da) : Prop := ∃ row zs, ds = [rightD C zs, rowD row] ∧ (row.length ≤ 1000 ∧ zs.length ≤ 3000) ∧ d = .bl (rightsB row zs)
def P_law_rights (ds : List Da) (d : Da) : Prop := ∃ row zs, ds = [rowD row, intsD zs] ∧ (row.length ≤ 1000 ∧ zs.length ≤ 3000) ∧ d = .bl (rightsB row zs)
def P_rights (C : CS) (ds : List Da) (A : Addr) (ns : List Str) (dss : List (List Da)) : Prop := ∃ row, ds = [rowD row] ∧ Okr row ∧ A = C.Rights ∧ ns = (["stones"] : List Str) ∧ dss = [intL (rts row)]
abbrev sp_Rights_init (K : PySem.W.Frag) (C : CS) : Sp := InL1 K C.Rights "stones"
abbrev sp_Rights_shows (K : PySem.W.Frag) (C : CS) : Sp := FnP K (P_Rights_shows C)
abbrev sp_rights (K : PySem.W.Frag) (C : CS) : Sp := FnO K (P_rights C)
abbrev sp_law_rights (K : PySem.W.Frag) (C : CS) : Sp := FnP K P_law_rights
def t_Rights_init (K : PySem.W.Frag) (C : CS) : TS :=
  (sFld K (tVar 0) (tCB (rListS K) (tCons (tVar 1) tNil)) "stones")
def t_Rights_shows (K : PySem.W.Frag) (C : CS) : TS :=
  (tSeq (tAsg (tUn (rU fun i => .int (-i)) (tC (.int 1))) (gName 2)) (tSeq (tAsg (tUn (rU fun i => .int (-i)) (tC (.int 1))) (gName 3)) (tSeq (tFor (iList K (tFld K (tVar 0) "stones")) (gName 4) (tSeq (tIfS (tOr (tNot (tTest (tChain rLtI rLtI (tVar 2) (tVar 4) (tCB (rLenS K) (tCons (tVar 1) tNil))))) (tTest (tOp rGtI (tVar 4) (tOp rAddI (tVar 3) (tC (.int 1)))))) (tRet (tC (.bl false))) tNext) (tSeq (tIfS (tB (tCB (rAny K) (tCons (tLc (iList K (tSl (rSlL K) (tVar 1) tNoPart (tPart (tVar 4)))) (gTup K 2 (gCons (gName 5) (gCons (gName 6) gNil))) tYes (tOp rGeI (tOp rAddI (tVar 5) (tVar 6)) (tOp (rIxT K) (tOp (rIxL K) (tVar 1) (tVar 4)) (tC (.int 0)))) [5, 6]) tNil))) (tRet (tC (.bl false))) tNext) (tSeq (tAsg (tVar 4) (gName 2)) (tAsg (tCB rMax2 (tCons (tVar 3) (tCons (tOp (rIxT K) (tCall (sp_last_felled K C) [] E0 (tCons (tVar 1) (tCons (tVar 4) (tCons (tC (.int 1)) tNil)))) (tC (.int 0))) tNil))) (gName 3)))))) (tRet (tOp rEq (tVar 3) (tOp rSubI (tCB (rLenS K) (tCons (tVar 1) tNil)) (tC (.int 1))))))))
def t_rights (K : PySem.W.Frag) (C : CS) : TS :=
  (tSeq (tDrop (tCall (sp_check_row K C) [] E0 (tCons (tVar 0) tNil))) (tSeq (tAsg (tLst tNil) (gName 1)) (tSeq (tAsg (tC (.int 0)) (gName 2)) (tSeq (tWhile (tTest (tOp rLtI (tVar 2) (tCB (rLenS K) (tCons (tVar 0) tNil)))) (tSeq (tDrop (tBM K "list" rAppend (tVar 1) (tCons (tVar 2) tNil))) (tAsg (tOp rAddI (tOp (rIxT K) (tCall (sp_last_felled K C) [] E0 (tCons (tVar 0) (tCons (tVar 2) (tCons (tC (.int 1)) tNil)))) (tC (.int 0))) (tC (.int 1))) (gName 2)))) (tRet (tMake C.Rights (sp_Rights_init K C) [] E0 (tCons (tVar 1) tNil)))))))
def t_law_rights (K : PySem.W.Frag) (C : CS) : TS :=
  (tSeq (tIfS (tOr (tTest (tOp (rNeD K) (tVar 1) (tCB (rSortedI K) (tCons (tVar 1) tNil)))) (tOr (tTest (tOp rLtI (tLenSetG K (tVar 1)) (tCB (rLenS K) (tCons (tVar 1) tNil)))) (tB (tCB (rAny K) (tCons (tLc (iList K (tVar 1)) (gName 5) tYes (tNotV (tChain rLeI rLtI (tC (.int 0)) (tVar 5) (tCB (rLenS K) (tCons (tVar 0) tNil)))) [5]) tNil))))) (tRet (tC (.bl false))) tNext) (tSeq (tAsg (tLc (iList K (tVar 0)) (gName 3) tYes (tC (.bl false)) [3]) (gName 2)) (tSeq (tFor (iList K (tVar 1)) (gName 3) (tSeq (tFor (iRng2 (tCons (tVar 3) (tCons (tOp rAddI (tCall (sp_law_felled K C) [] E0 (tCons (tVar 0) (tCons (tVar 3) (tCons (tC (.int 1)) tNil)))) (tC (.int 1))) tNil))) (gName 4) (tAsg (tC (.bl true)) (gSub (tVar 2) (tVar 4) rSetL))) (tIfS (tB (tCB (rAny K) (tCons (tLc (iList K (tSl (rSlL K) (tVar 0) tNoPart (tPart (tVar 3)))) (gTup K 2 (gCons (gName 6) (gCons (gName 7) gNil))) tYes (tOp rLeI (tOp rSubI (tOp (rIxT K) (tOp (rIxL K) (tVar 0) (tVar 3)) (tC (.int 0))) (tVar 6)) (tVar 7)) [6, 7]) tNil))) (tRet (tC (.bl false))) tNext))) (tRet (tCB (rAll K) (tCons (tVar 2) tNil))))))
section
variable {K : PySem.W.Frag} {C : CS} {env : En} {te ta tb : TE} {row : List (Int × Int)} {zs : List Int} {D : Addr} {b : Bool}
theorem fxR (A : FxR K C) : NoAttr K C.Rights "stones" := A.no _ List.mem_cons_self
theorem ev_rs (A : FxR K C) (h : EvE K te env (rightD C zs)) : EvE K (tFld K te "stones") env (intsD zs) := ev_fld0 h A.isi.cls (fxR A)
theorem pure_Rights_init (A : FxR K C) {vs : List V} {H : Hp} {Q : VK} {E : XK} (h : sp_Rights_init K C vs H Q E) : t_Rights_init K C { nx := fun _ H' => Q .non H', rt := Q } (start ["self", "stones"] vs) H := in_L1 rfl A.isi.cls (fxR A) h
theorem len_Rights_init {vs : List V} {H : Hp} {Q : VK} {E : XK} (h : sp_Rights_init K C vs H Q E) : vs.length = 2 := by
  obtain ⟨x, dx, p, xs, rfl, _⟩ := h
  rfl
theorem zget {zs : List Int} {k : Nat} {z : Int} (h : zs[k]? = some z) : zs = zs.take k ++ z :: zs.drop (k + 1) := by
  obtain ⟨hl, e⟩ := List.getElem?_eq_some_iff.mp h
  have e2 := List.drop_eq_getElem_cons hl
  rw [e] at e2
  rw [← e2, List.take_append_drop]
theorem run_Rights_shows (A : FxR K C) {ds : List Da} {d : Da} (h : P_Rights_shows C ds d) : Run K (t_Rights_shows K C) (ent ds 5) (retD d) := by
  obtain ⟨row, zs, rfl, ⟨hn, hz⟩, rfl⟩ := h
  refine run_seq (run_asg (d := .int (-1)) (ev_neg ev_int) ?_)
  refine run_seq (run_asg (d := .int (-1)) (ev_neg ev_int) ?_)
  refine run_seq (run_for (ds := intL zs) (wk_list (ev_rs (zs := zs) A (ev_var rfl))) (fun k e => ∃ la fl y4, e = [.im (rightD C zs), .im (rowD row), .im (.int la), .im (.int fl), y4, .no, .no] ∧ ShI row (zs.take k) la fl) ⟨-1, -1, .no, rfl, ShI.nil row⟩ ?_ ?_)
  · rintro k d e hd ⟨la, fl, y4, rfl, hI⟩
    obtain ⟨z, hx, rfl⟩ := intL_get hd
    have ez := zget hx
    refine ⟨_, ts_name, ?_⟩
    refine run_seq (run_if (b := !(decide (la < z) && decide (z < (row.length : Int))) || decide (fl + 1 < z)) (eb_or (eb_not (eb_test (ev_chainI rfl rfl (ev_var rfl) (ev_var rfl) fun _ => ev_lenR (ev_var rfl)))) fun _ => eb_test (ev_gt (ev_var rfl) (ev_add (ev_var rfl) ev_int))) (fun hb => ?_) fun hb => run_next ?_)
    · refine run_ret ev_bl ?_
      show Da.bl _ = Da.bl _
      rw [rB_f]
      rw [ez]
      refine hI.bad ?_
      by_cases h1 : la < z
      · by_cases h2 : z < row.length
        · right
          right
          rw [decide_eq_true h1, decide_eq_true h2] at hb
          simpa using hb
        · exact .inr (.inl h2)
      · exact .inl h1
    simp only [Bool.or_eq_false_iff, Bool.not_eq_false', Bool.and_eq_true, decide_eq_true_eq, decide_eq_false_iff_not] at hb
    obtain ⟨⟨h1, h2⟩, h3⟩ := hb
    have h0 : 0 ≤ z := by
      have := hI.la0
      omega
    refine run_seq (run_if (b := (((row.take z.toNat).filter fun _ => true).map fun q => decide (plc row z ≤ q.1 + q.2)).any id) (eb_B (ev_any (ev_new ?_))) (fun hb => ?_) fun hb => run_next ?_)
    · refine (en_lc (us := [5, 6]) prD (fun _ => true) (fun q => Da.bl (decide (plc row z ≤ q.1 + q.2))) (row.take z.toNat) (wk_list (ev_new ((en_slL (ev_var rfl) eo_none (eo_some (ev_var rfl))).is (cutD_to prD row h0)))) (by simp) (by rw [List.length_take]; omega) fun q hq => ⟨_, tc_tup2 tc_name tc_name, eb_yes, fun _ => ev_ge (ev_add (ev_var rfl) (ev_var rfl)) (ev_row0 (ev_var rfl) (ev_var rfl) h0 h2)⟩).is (by simp only [blL, List.map_map]; rfl)
    · refine run_ret ev_bl ?_
      show Da.bl _ = Da.bl _
      rw [rB_f]
      intro R
      have hf := (free_iff h0 h2).mp (R.free z (List.mem_of_getElem? hx))
      rw [List.filter_eq_self.mpr fun _ _ => rfl, List.any_map, List.any_eq_true] at hb
      obtain ⟨q, hq, e⟩ := hb
      have := hf q hq
      have : plc row z ≤ q.1 + q.2 := by simpa using e
      omega
    have hfree : Free row z := by
      refine (free_iff h0 h2).mpr fun q hq => ?_
      rw [List.filter_eq_self.mpr fun _ _ => rfl, List.any_map, List.any_eq_false] at hb
      have := hb q hq
      have : ¬ plc row z ≤ q.1 + q.2 := by simpa using this
      omega
    have etk : zs.take (k + 1) = zs.take k ++ [z] := get_row hx
    have ei : z = ((z.toNat : Nat) : Int) := by omega
    refine run_seq (run_asg (d := .int z) (ev_var rfl) ?_)
    refine run_asg (d := .int (mx fl (lastI row 1 z.toNat))) (ev_max2 (ev_var rfl) (ev_pr0 (p := (lastI row 1 z.toNat, farI row 1 z.toNat)) (ev_call (ds := [rowD row, .int ((z.toNat : Nat) : Int), .int 1]) (ea_cons (ev_var rfl) (ea_cons ((ev_var rfl).is (congrArg Da.int ei)) (ea_cons ev_int ea_nil))) ⟨row, z.toNat, 1, rfl, ⟨by omega, hn, .inl rfl⟩, rfl⟩))) ⟨z, mx fl (lastI row 1 z.toNat), .im (.int z), rfl, ?_⟩
    rw [etk]
    exact hI.step h1 h2 (by omega) hfree
  · rintro e ⟨la, fl, y4, rfl, hI⟩
    rw [List.length_map, List.take_length] at hI
    refine run_ret (ev_eqI (ev_var rfl) (ev_sub (ev_lenR (ev_var rfl)) ev_int)) ?_
    show Da.bl _ = Da.bl _
    rw [hI.fin]
theorem run_law_rights {ds : List Da} {d : Da} (h : P_law_rights ds d) : Run K (t_law_rights K C) (ent ds 6) (retD d) := by
  obtain ⟨row, zs, rfl, ⟨hn, hz⟩, rfl⟩ := h
  refine run_seq (run_if (b := !decide (zs = sortI zs) || (decide ((dcount zs : Int) < (zs.length : Int)) || ((zs.filter fun _ => true).map fun o => !(decide (0 ≤ o) && decide (o < (row.length : Int)))).any id)) (eb_or ?_ fun _ => eb_or ?_ fun _ => ?_) (fun hb => ?_) fun hb => run_next ?_)
  · exact eb_test (ev_neInts (ev_var rfl) (ev_new (en_sortedI (ev_var rfl) fun ns' hp hs => sort_uniq (hp.trans (sortI_perm zs).symm) hs (sortI_sorted zs))))
  · exact eb_test (ev_lt (ev_lenSetG (ev_var rfl) (by omega)) (ev_lenI (ev_var rfl)))
  · exact eb_B (ev_any (ev_new ((en_lc (us := [5]) Da.int (fun _ => true) (fun o => Da.bl (!(decide (0 ≤ o) && decide (o < (row.length : Int))))) zs (wk_list (ev_var rfl)) (by simp) (by omega) fun o ho => ⟨_, tc_name, eb_yes, fun _ => ev_notV (ev_chainI rfl rfl ev_int (ev_var rfl) fun _ => ev_lenR (ev_var rfl))⟩).is (by simp only [blL, List.map_map]; rfl))))
  · refine run_ret ev_bl ?_
    show Da.bl _ = Da.bl _
    rw [rB_f]
    intro R
    rw [decide_eq_true (rise_sortI R.rise), List.filter_eq_self.mpr fun _ _ => rfl] at hb
    simp only [Bool.not_true, Bool.false_or, Bool.or_eq_true, decide_eq_true_eq, List.any_map, List.any_eq_true] at hb
    rcases hb with hb | ⟨z, hz2, e⟩
    · rw [nodup_dcount (rise_nodup R.rise)] at hb
      omega
    · have := R.rng z hz2
      have e' : (!(decide (0 ≤ z) && decide (z < (row.length : Int)))) = true := e
      rw [decide_eq_true this.1, decide_eq_true this.2] at e'
      cases e'
  simp only [Bool.or_eq_false_iff, Bool.not_eq_false', decide_eq_true_eq] at hb
  obtain ⟨hs, hdc, hr⟩ := hb
  have hnd : zs.Nodup := dcount_nodup (by simpa using hdc)
  have hrise := sortI_rise hnd hs
  have hrng : ∀ z ∈ zs, 0 ≤ z ∧ z < row.length := fun z hz2 => by
    rw [List.filter_eq_self.mpr fun _ _ => rfl, List.any_map, List.any_eq_false] at hr
    have := hr z hz2
    have e' : ¬ (!(decide (0 ≤ z) && decide (z < (row.length : Int)))) = true := this
    simpa using e'
  refine run_seq (run_asgN (ds := blL (metL row [])) ((en_lc (us := [3]) prD (fun _ => true) (fun _ => Da.bl false) row (wk_list (ev_var rfl)) (by simp) (by omega) fun q hq => ⟨_, tc_name, eb_yes, fun _ => ev_bl⟩).is ?_) ?_)
  · rw [List.filter_eq_self.mpr fun _ _ => rfl]
    unfold metL blL
    rw [List.map_map]
    apply List.ext_getElem?
    intro j
    rw [List.getElem?_map, List.getElem?_map]
    by_cases hj : j < row.length
    · rw [List.getElem?_range hj, List.getElem?_eq_getElem hj]
      rfl
    · rw [List.getElem?_eq_none (by omega), List.getElem?_eq_none (by rw [List.length_range]; omega)]
      rfl
  refine run_seq (run_for (wk_list (ev_var rfl)) (fun k e => ∃ y3 y4, e = [.im (rowD row), .im (intsD zs), .mu (blL (metL row (zs.take k))), y3, y4, .no, .no, .no] ∧ ∀ z ∈ zs.take k, Free row z) ⟨.no, .no, rfl, fun z hz2 => (by simp at hz2)⟩ ?_ ?_)
  · rintro k d e hd ⟨y3, y4, rfl, hI⟩
    obtain ⟨z, hx, rfl⟩ := intL_get hd
    have hzm := List.mem_of_getElem? hx
    obtain ⟨h0, h2⟩ := hrng z hzm
    have hl := last_rng (row := row) (i := z.toNat) (by omega) (.inl rfl)
    have etk : zs.take (k + 1) = zs.take k ++ [z] := get_row hx
    have ei : z = ((z.toNat : Nat) : Int) := by omega
    refine ⟨_, ts_name, ?_⟩
    refine run_seq (run_for (wk_rng2 (ev_var rfl) (ev_add (i := lastI row 1 z.toNat) (ev_call (ds := [rowD row, .int ((z.toNat : Nat) : Int), .int 1]) (ea_cons (ev_var rfl) (ea_cons ((ev_var rfl).is (congrArg Da.int ei)) (ea_cons ev_int ea_nil))) ⟨row, z.toNat, 1, rfl, ⟨by omega, hn, .inl rfl⟩, rfl⟩) ev_int) (by omega)) (fun m e => ∃ y4, e = [.im (rowD row), .im (intsD zs), .mu (blL (metK row (zs.take k) z (m : Nat))), .im (.int z), y4, .no, .no, .no]) ⟨y4, by rw [metK_zero]; rfl⟩ ?_ ?_)
    · rintro m d e hd2 ⟨y4, rfl⟩
      have hm : m < (lastI row 1 z.toNat + 1 - z).toNat := by
        have := (List.getElem?_eq_some_iff.mp hd2).1
        rw [rngD_len] at this
        exact this
      rw [rngD_get hm] at hd2
      obtain rfl : Da.int (z + (m : Nat)) = d := Option.some.inj hd2
      have e2 : z + (m : Nat) = (((z + (m : Nat)).toNat : Nat) : Int) := by omega
      refine ⟨_, ts_name, run_setL (d := .bl true) (j := (z + (m : Nat)).toNat) (ds := blL (metK row (zs.take k) z (m : Nat))) rfl ev_bl rfl ((ev_var rfl).is (congrArg Da.int e2)) ?_ ⟨.im (.int (z + (m : Nat))), ?_⟩⟩
      · unfold metK
        rw [List.length_map, List.length_map, List.length_range]
        omega
      · have e3 : (blL (metK row (zs.take k) z (m : Nat))).set (z + (m : Nat)).toNat (Da.bl true) = blL (metK row (zs.take k) z ((m + 1 : Nat) : Int)) := by
          rw [← metK_set h0 (by omega)]
          exact List.map_set.symm
        rw [e3]
        rfl
    · rintro e ⟨y4, rfl⟩
      rw [rngD_len, metK_end h0, ← etk]
      refine run_if (b := (((row.take z.toNat).filter fun _ => true).map fun q => decide (plc row z - q.1 ≤ q.2)).any id) (eb_B (ev_any (ev_new ?_))) (fun hb => ?_) fun hb => run_next ⟨.im (.int z), y4, rfl, ?_⟩
      · refine (en_lc (us := [6, 7]) prD (fun _ => true) (fun q => Da.bl (decide (plc row z - q.1 ≤ q.2))) (row.take z.toNat) (wk_list (ev_new ((en_slL (ev_var rfl) eo_none (eo_some (ev_var rfl))).is (cutD_to prD row h0)))) (by simp) (by rw [List.length_take]; omega) fun q hq => ⟨_, tc_tup2 tc_name tc_name, eb_yes, fun _ => ev_le (ev_sub (ev_row0 (ev_var rfl) (ev_var rfl) h0 h2) (ev_var rfl)) (ev_var rfl)⟩).is (by simp only [blL, List.map_map]; rfl)
      · refine run_ret ev_bl ?_
        show Da.bl _ = Da.bl _
        rw [rB_f]
        intro R
        have hf := (free_iff h0 h2).mp (R.free z hzm)
        rw [List.filter_eq_self.mpr fun _ _ => rfl, List.any_map, List.any_eq_true] at hb
        obtain ⟨q, hq, e⟩ := hb
        have := hf q hq
        have : plc row z - q.1 ≤ q.2 := by simpa using e
        omega
      · intro y hy
        rw [etk] at hy
        rcases List.mem_append.mp hy with hy | hy
        · exact hI y hy
        · rw [List.mem_singleton.mp hy]
          refine (free_iff h0 h2).mpr fun q hq => ?_
          rw [List.filter_eq_self.mpr fun _ _ => rfl, List.any_map, List.any_eq_false] at hb
          have := hb q hq
          have : ¬ plc row z - q.1 ≤ q.2 := by simpa using this
          omega
  · rintro e ⟨y3, y4, rfl, hI⟩
    rw [List.length_map, List.take_length] at hI ⊢
    refine run_retF (ev_all (ev_var rfl)) rfl ?_
    show Da.bl _ = Da.bl _
    rw [met_all hrise hrng hI]
theorem run_rights {ds : List Da} {A : Addr} {ns : List Str} {dss : List (List Da)} (h : P_rights C ds A ns dss) : Run K (t_rights K C) (ent ds 2) (retO A ns dss) := by
  obtain ⟨row, rfl, ok, rfl, rfl, rfl⟩ := h
  have hn := ok.few
  refine run_seq (run_drop (d := .non) (ev_call (ds := [rowD row]) (ea_cons (ev_var rfl) ea_nil) ⟨row, rfl, ok, rfl⟩) ?_)
  refine run_seq (run_asgN (ds := []) (en_lst ea_nil) ?_)
  refine run_seq (run_asg (d := .int 0) ev_int ?_)
  refine run_seq (run_while (fun r e => ∃ z pre, e = [.im (rowD row), .mu (intL pre), .im (.int z)] ∧ 0 ≤ z ∧ pre.length + r ≤ row.length ∧ (row.length : Int) ≤ z + r ∧ pre ++ rtsF row r z = rts row) row.length ⟨0, [], rfl, Int.le_refl _, by simp, by omega, rfl⟩ ?_)
  rintro r e ⟨z, pre, rfl, h0, h2, h1, h3⟩
  refine ⟨decide (z < (row.length : Int)), eb_test (ev_lt (ev_var rfl) (ev_lenR (ev_var rfl))), fun hb => ?_, fun hb => ?_⟩
  · have hz := of_decide_eq_true hb
    obtain ⟨f, rfl⟩ : ∃ f, r = f + 1 := ⟨r - 1, by omega⟩
    have ei : z = ((z.toNat : Nat) : Int) := by omega
    have hg := last_ge (row := row) (i := z.toNat)
    have h4 : rtsF row (f + 1) z = z :: rtsF row f (lastI row 1 z.toNat + 1) := by
      show (if z < row.length then _ else _) = _
      rw [if_pos hz]
    refine run_seq (run_app (i := 1) (d := .int z) (ds := intL pre) rfl (ev_var rfl) (by rw [List.length_map]; omega) ?_)
    refine run_asg (d := .int (lastI row 1 z.toNat + 1)) (ev_add (ev_pr0 (p := (lastI row 1 z.toNat, farI row 1 z.toNat)) (ev_call (ds := [rowD row, .int ((z.toNat : Nat) : Int), .int 1]) (ea_cons (ev_var rfl) (ea_cons ((ev_var rfl).is (congrArg Da.int ei)) (ea_cons ev_int ea_nil))) ⟨row, z.toNat, 1, rfl, ⟨by omega, hn, .inl rfl⟩, rfl⟩)) ev_int) ⟨f, by omega, lastI row 1 z.toNat + 1, pre ++ [z], ?_, by omega, ?_, by omega, ?_⟩
    · rw [intL_snoc]
      rfl
    · rw [List.length_append, List.length_singleton]
      omega
    · rw [← h3, h4, List.append_assoc]
      rfl
  · have hz := of_decide_eq_false hb
    have h4 : rtsF row r z = [] := by
      cases r with
      | zero => rfl
      | succ f =>
        show (if z < row.length then _ else _) = _
        rw [if_neg hz]
    rw [h4, List.append_nil] at h3
    subst h3
    refine run_fix (i := 1) rfl ?_
    exact run_retO (eo_mak1 (ev_var rfl)) ⟨rfl, rfl, rfl⟩
theorem len_rights {vs : List V} {H : Hp} {Q : VK} {E : XK} (h : sp_rights K C vs H Q E) : vs.length = 1 := len_O (m := 1) (fun ds A ns dss ⟨_, e, _⟩ => by rw [e]; rfl) h
theorem pure_rights {vs : List V} {H : Hp} {Q : VK} {E : XK} (h : sp_rights K C vs H Q E) : t_rights K C { nx := fun _ H' => Q .non H', rt := Q } (start ["row", "found", "stone"] vs) H :=
  fnO_of 2 (fun ds A ns dss ⟨_, e, _⟩ => by rw [e]; rfl) (fun ds A ns dss p => run_rights p) h
end
section
variable {K : PySem.W.Frag} {C : CS} {vs : List V} {H : Hp} {Q : VK} {E : XK}
theorem lenP_Rights_shows {ds : List Da} {d : Da} (h : P_Rights_shows C ds d) : ds.length = 2 := by
  unfold P_Rights_shows at h
  repeat (rcases h with ⟨z, h⟩; first | (subst z; rfl) | skip)
theorem len_Rights_shows (h : sp_Rights_shows K C vs H Q E) : vs.length = 2 := len_P (m := 2) (fun _ _ p => lenP_Rights_shows p) h
theorem pure_Rights_shows (A : FxR K C) (h : sp_Rights_shows K C vs H Q E) : t_Rights_shows K C { nx := fun _ H' => Q .non H', rt := Q } (start ["self", "row", "last", "felled", "stone", "place", "height"] vs) H := fnP_of 5 (fun _ _ p => by rw [lenP_Rights_shows p] <;> rfl) (fun _ _ p => run_Rights_shows A p) h
theorem lenP_law_rights {ds : List Da} {d : Da} (h : P_law_rights ds d) : ds.length = 2 := by
  unfold P_law_rights at h
  repeat (rcases h with ⟨z, h⟩; first | (subst z; rfl) | skip)
theorem len_law_rights (h : sp_law_rights K C vs H Q E) : vs.length = 2 := len_P (m := 2) (fun _ _ p => lenP_law_rights p) h
theorem pure_law_rights (h : sp_law_rights K C vs H Q E) : t_law_rights K C { nx := fun _ H' => Q .non H', rt := Q } (start ["_law_row_here", "_law_stones", "_law_met", "_law_stone", "_law_other", "_law_one", "_law_place", "_law_height"] vs) H := fnP_of 6 (fun _ _ p => by rw [lenP_law_rights p] <;> rfl) (fun _ _ p => run_law_rights p) h
end
end FR

/-! _law_says, _law_bent. -/
namespace FR
open PySem L2 Evl
def P_law_says (ds : List Da) (d : Da) : Prop := ∃ a b : Bool, ds = [.bl a, .bl b] ∧ d = .bl (decide (a = b))
def atB (f : List Int) (c : Int) : Nat := (c / 11 % mx 1 (f.length : Int)).toNat
def bent1 (f : List Int) (c : Int) : List Int :=
  if c % 11 = 0 then f.take (atB f c) ++ f.drop (atB f c + 1)
  else if c % 11 = 1 then f.take (atB f c) ++ [c / 121 % 9 - 1] ++ f.drop (atB f c)
  else if c % 11 = 2 ∧ f ≠ [] then f.set (atB f c) (f.getD (atB f c) 0 + c / 121 % 3 - 1)
  else if c % 11 = 3 ∧ f ≠ [] then (f.set (atB f c) (f.getD 0 0)).set 0 (f.getD (atB f c) 0)
  else f
def bentL (f : List Int) (ns : List Int) : List Int := ns.foldl bent1 f
def P_law_bent (ds es : List Da) : Prop := ∃ zs ns, ds = [intsD zs, .sq (intL ns)] ∧ (zs.length ≤ 1000 ∧ ns.length ≤ 63) ∧ es = intL (bentL zs ns)
abbrev sp_law_says (K : PySem.W.Frag) (C : CS) : Sp := FnP K P_law_says
abbrev sp_law_bent (K : PySem.W.Frag) (C : CS) : Sp := FnL K P_law_bent
def t_law_says (K : PySem.W.Frag) (C : CS) : TS :=
  (tRet (tAndV (tCB (rIsi K) (tCons (tVar 0) (tCons (tC (.ty "bool")) tNil))) (tOp rEq (tVar 0) (tVar 1))))
def t_law_bent (K : PySem.W.Frag) (C : CS) : TS :=
  (tSeq (tAsg (tCB (rListS K) (tCons (tVar 0) tNil)) (gName 2)) (tSeq (tFor (iList K (tVar 1)) (gName 3) (tSeq (tAsg (tOp rModI (tOp rDivI (tVar 3) (tC (.int 11))) (tCB rMax2 (tCons (tC (.int 1)) (tCons (tCB (rLenS K) (tCons (tVar 2) tNil)) tNil)))) (gName 4)) (tSeq (tIfS (tTest (tOp rEq (tOp rModI (tVar 3) (tC (.int 11))) (tC (.int 0)))) (tAsg (tOp rCat (tSl (rSlL K) (tVar 2) tNoPart (tPart (tVar 4))) (tSl (rSlL K) (tVar 2) (tPart (tOp rAddI (tVar 4) (tC (.int 1)))) tNoPart)) (gName 2)) tNext) (tSeq (tIfS (tTest (tOp rEq (tOp rModI (tVar 3) (tC (.int 11))) (tC (.int 1)))) (tAsg (tOp rCat (tOp rCat (tSl (rSlL K) (tVar 2) tNoPart (tPart (tVar 4))) (tLst (tCons (tOp rSubI (tOp rModI (tOp rDivI (tVar 3) (tC (.int 121))) (tC (.int 9))) (tC (.int 1))) tNil))) (tSl (rSlL K) (tVar 2) (tPart (tVar 4)) tNoPart)) (gName 2)) tNext) (tSeq (tIfS (tAnd (tTest (tOp rEq (tOp rModI (tVar 3) (tC (.int 11))) (tC (.int 2)))) (tTest (tOp (rNeD K) (tVar 2) (tLst tNil)))) (tAsg (tOp rSubI (tOp rAddI (tOp (rIxL K) (tVar 2) (tVar 4)) (tOp rModI (tOp rDivI (tVar 3) (tC (.int 121))) (tC (.int 3)))) (tC (.int 1))) (gSub (tVar 2) (tVar 4) rSetL)) tNext) (tIfS (tAnd (tTest (tOp rEq (tOp rModI (tVar 3) (tC (.int 11))) (tC (.int 3)))) (tTest (tOp (rNeD K) (tVar 2) (tLst tNil)))) (tAsg (tTup (tCons (tOp (rIxL K) (tVar 2) (tC (.int 0))) (tCons (tOp (rIxL K) (tVar 2) (tVar 4)) tNil))) (gTup K 2 (gCons (gSub (tVar 2) (tVar 4) rSetL) (gCons (gSub (tVar 2) (tC (.int 0)) rSetL) gNil)))) tNext)))))) (tRet (tVar 2))))
section
variable {K : PySem.W.Frag} {C : CS} {env : En} {E : Ed} {te ti ti2 ta tb : TE} {d x y : Da} {ds : List Da} {i j j2 : Nat}
theorem gsub_step {B0 H0 B H : Hp} {σ : L2.St} {v : V} {Q : L2.St → Hp → Prop} (s : Sta K B0 H0 B H σ env) (hx : env[i]? = some (.mu ds)) (hi : EvE K ti (frz env) (.int (j : Nat))) (hj : j < ds.length) (r : Rp K B d v) (q : ∀ H', Ex H H' ∨ True → Sta K B0 H0 B H' σ (env.set i (.mu (ds.set j d))) → Q σ H') : gSub (tVar i) ti rSetL v σ H Q := by
  obtain ⟨ad, a1, a2, a3⟩ := s.own
  obtain ⟨l, xs, h1, h2, h3, h4⟩ := a3 i _ hx
  refine ⟨_, h1, hi σ H s.frz H (Ex.refl _) _ fun w B3 H3 g3 r3 => ?_⟩
  simp only [Rp] at r3
  subst r3
  have s3 := s.grow g3.k
  refine ⟨l, xs, ((j : Nat) : Int), j, rfl, rfl, g3.k _ _ h3, Evl.ixN_nat (by rw [h4.len]; exact hj), q _ (.inr trivial) (s3.wr (i := i) (sl := .mu (ds.set j d)) (H' := upd H3 l (.lst (xs.set j v))) a1 (fun p x hx => ?_) (fun p t ht => (a3 p t ht).up (Ex.refl _) g3.k) (fun a ha => upd_ne fun e => ha (by rw [h2, e]; exact List.mem_cons_self)) (fun a ha => ?_) ⟨l, _, h1, h2, upd_same, h4.set j r⟩)⟩
  · obtain ⟨z1, z2, z3⟩ := a2 p x hx
    exact ⟨z1, z2, ex_nn g3.k z3⟩
  · rw [h2, List.mem_singleton] at ha
    subst ha
    rw [upd_same]
    exact fun z => by cases z
theorem run_setLF (hx : env[i]? = some (.mu ds)) (h : EvE K te (frz env) d) (hs : isSc d = true) (hi : EvE K ti (frz env) (.int (j : Nat))) (hj : j < ds.length) (q : E.nx (env.set i (.mu (ds.set j d)))) : Run K (tAsg te (gSub (tVar i) ti rSetL)) env E := fun B0 H0 B H σ D Bs eb s k =>
  h σ H s.frz H (Ex.refl _) _ fun v B' H' g r => gsub_step (s.grow g.k) hx hi hj (r.sc hs) fun H2 _ s2 => k.nx σ B _ _ s2 eb q
theorem run_swap (hx : env[i]? = some (.mu ds)) (h : EvE K te (frz env) (.tup [x, y])) (h1 : isSc x = true) (h2 : isSc y = true) (hi : EvE K ti (frz env) (.int (j : Nat))) (hj : j < ds.length) (hi2 : EvE K ti2 (frz (env.set i (.mu (ds.set j x)))) (.int (j2 : Nat))) (hj2 : j2 < ds.length) (q : E.nx ((env.set i (.mu (ds.set j x))).set i (.mu ((ds.set j x).set j2 y)))) :
    Run K (tAsg te (gTup K 2 (gCons (gSub (tVar i) ti rSetL) (gCons (gSub (tVar i) ti2 rSetL) gNil)))) env E := fun B0 H0 B H σ D Bs eb s k =>
  h σ H s.frz H (Ex.refl _) _ fun v B' H' g' r => by
    simp only [Rp] at r
    obtain ⟨a, xs, rfl, hh, hr⟩ := r
    obtain ⟨v, w, rfl, r1, r2⟩ := two_rp hr
    refine ⟨a, [v, w], rfl, st_of (g'.h _ _ hh), rfl, v, [w], rfl, ?_⟩
    have hil : i < env.length := (List.getElem?_eq_some_iff.mp hx).1
    refine gsub_step (s.grow g'.k) hx hi hj (r1.sc h1) fun H2 _ s2 => ⟨w, [], rfl, ?_⟩
    refine gsub_step (ds := ds.set j x) s2 (by rw [List.getElem?_set]; simp [hil]) hi2 (by rw [List.length_set]; exact hj2) (r2.sc h2) fun H3 _ s3 => ⟨rfl, k.nx σ B _ _ s3 eb q⟩
theorem all_sc (ns : List Int) : (intL ns).all isSc = true := by
  rw [List.all_map, List.all_eq_true]
  intro x _
  rfl
theorem run_law_says {ds : List Da} {d : Da} (h : P_law_says ds d) : Run K (t_law_says K C) (ent ds 0) (retD d) := by
  obtain ⟨a, b, rfl, rfl⟩ := h
  refine run_ret (d := .bl (true && decide (a = b))) (ev_andV (ev_isiB (n := "bool") (ev_var rfl) ev_ty rfl (by decide)) fun _ => ev_eqB (ev_var rfl) (ev_var rfl)) ?_
  show Da.bl _ = Da.bl _
  rw [Bool.true_and]
theorem bent1_len (f : List Int) (c : Int) : (bent1 f c).length ≤ f.length + 1 := by
  unfold bent1
  repeat' split
  · rw [List.length_append, List.length_take, List.length_drop]
    omega
  · rw [List.length_append, List.length_append, List.length_take, List.length_drop, List.length_singleton]
    omega
  · rw [List.length_set]
    omega
  · rw [List.length_set, List.length_set]
    omega
  · omega
theorem bentL_len : ∀ (ns f : List Int), (bentL f ns).length ≤ f.length + ns.length
  | [], f => by simp [bentL]
  | c :: ns, f => by
    have := bentL_len ns (bent1 f c)
    have := bent1_len f c
    show (bentL (bent1 f c) ns).length ≤ _
    rw [List.length_cons]
    omega
theorem bentL_snoc (f ns : List Int) (c : Int) : bentL f (ns ++ [c]) = bent1 (bentL f ns) c := by
  unfold bentL
  rw [List.foldl_append]
  rfl
theorem int_get {f : List Int} {j : Nat} (h : j < f.length) : atI (intL f) ((j : Nat) : Int) = some (.int (f.getD j 0)) := by
  refine atI_nat ?_
  rw [List.getElem?_map, List.getD_eq_getElem?_getD, List.getElem?_eq_getElem h]
  rfl
theorem run_law_bent {ds es : List Da} (h : P_law_bent ds es) : Run K (t_law_bent K C) (ent ds 3) (retL es) := by
  obtain ⟨zs, ns, rfl, ⟨hz, hn⟩, rfl⟩ := h
  refine run_seq (run_asgN (ds := intL zs) (en_listL (ev_var rfl)) ?_)
  refine run_seq (run_for (ds := intL ns) (wk_sq (ev_var rfl)) (fun k e => ∃ y3 y4, e = [.im (intsD zs), .im (.sq (intL ns)), .mu (intL (bentL zs (ns.take k))), y3, y4]) ⟨.no, .no, rfl⟩ ?_ ?_)
  · rintro k d e hd ⟨y3, y4, rfl⟩
    obtain ⟨c, hc, rfl⟩ := intL_get hd
    have hfl : (bentL zs (ns.take k)).length ≤ 1100 := by
      have := bentL_len (ns.take k) zs
      rw [List.length_take] at this
      omega
    rw [get_row hc, bentL_snoc]
    generalize bentL zs (ns.take k) = f at hfl
    have hmx : 0 < mx 1 (f.length : Int) := by
      unfold mx
      split <;> omega
    have ea : c / 11 % mx 1 (f.length : Int) = ((atB f c : Nat) : Int) := by
      unfold atB
      have := Int.emod_nonneg (c / 11) (by omega : mx 1 (f.length : Int) ≠ 0)
      omega
    have hat : f ≠ [] → atB f c < f.length := fun hne => by
      have h0 : 0 < f.length := List.length_pos_iff.mpr hne
      have e : mx 1 (f.length : Int) = f.length := by
        unfold mx
        split <;> omega
      have := Int.emod_lt_of_pos (c / 11) (by omega : 0 < mx 1 (f.length : Int))
      omega
    refine ⟨_, ts_name, ?_⟩
    refine run_seq (run_asgF (d := .int ((atB f c : Nat) : Int)) ((ev_mod (ev_div (ev_var rfl) ev_int ⟨by decide, by decide⟩) (ev_max2 ev_int (ev_lenI (ns := f) (ev_var rfl))) hmx).is (congrArg Da.int ea)) rfl ?_)
    have hm : 0 ≤ ((atB f c : Nat) : Int) := by omega
    have e1 : (((atB f c : Nat) : Int) + 1).toNat = atB f c + 1 := by omega
    have e2 : (((atB f c : Nat) : Int)).toNat = atB f c := by omega
    refine run_seq (run_if (b := decide (c % 11 = 0)) (eb_test (ev_eqI (ev_mod (ev_var rfl) ev_int (by decide)) ev_int)) (fun hb => ?_) fun hb => run_next ?_)
    · have h0 := of_decide_eq_true hb
      have eb : bent1 f c = f.take (atB f c) ++ f.drop (atB f c + 1) := by
        unfold bent1
        rw [if_pos h0]
      refine run_asgNF (ds := intL (bent1 f c)) ((en_cat (ds := intL (f.take (atB f c))) (es := intL (f.drop (atB f c + 1))) (ev_new ((en_slL (ev_var rfl) eo_none (eo_some (ev_var rfl))).is ?_)) (ev_new ((en_slL (ev_var rfl) (eo_some (ev_add (ev_var rfl) ev_int)) eo_none).is ?_)) ?_).is ?_) (all_sc _) ?_
      · rw [cutD_to Da.int f hm, e2]
      · rw [cutD_fr Da.int f (by omega), e1]
      · rw [List.length_map, List.length_map, List.length_take, List.length_drop]
        omega
      · rw [eb]
        unfold intL
        rw [List.map_append]
      · generalize bent1 f c = f' at *
        refine run_seq (run_if (b := decide (c % 11 = 1)) (eb_test (ev_eqI (ev_mod (ev_var rfl) ev_int (by decide)) ev_int)) (fun z => absurd (of_decide_eq_true z) (by omega)) fun _ => run_next ?_)
        refine run_seq (run_if (b := decide (c % 11 = 2) && !decide (f' = [])) (eb_and (eb_test (ev_eqI (ev_mod (ev_var rfl) ev_int (by decide)) ev_int)) fun _ => eb_test (ev_neInts (ns := f') (ms := []) (ev_var rfl) (ev_new (en_lst ea_nil)))) (fun z => ?_) fun _ => run_next ?_)
        · simp only [Bool.and_eq_true, decide_eq_true_eq] at z
          omega
        · refine run_if (b := decide (c % 11 = 3) && !decide (f' = [])) (eb_and (eb_test (ev_eqI (ev_mod (ev_var rfl) ev_int (by decide)) ev_int)) fun _ => eb_test (ev_neInts (ns := f') (ms := []) (ev_var rfl) (ev_new (en_lst ea_nil)))) (fun z => ?_) fun _ => run_next ⟨_, _, rfl⟩
          simp only [Bool.and_eq_true, decide_eq_true_eq] at z
          omega
    have n0 := of_decide_eq_false hb
    refine run_seq (run_if (b := decide (c % 11 = 1)) (eb_test (ev_eqI (ev_mod (ev_var rfl) ev_int (by decide)) ev_int)) (fun hb => ?_) fun hb => run_next ?_)
    · have h0 := of_decide_eq_true hb
      have eb : bent1 f c = f.take (atB f c) ++ [c / 121 % 9 - 1] ++ f.drop (atB f c) := by
        unfold bent1
        rw [if_neg n0, if_pos h0]
      refine run_asgNF (ds := intL (bent1 f c)) ((en_cat (ds := intL (f.take (atB f c) ++ [c / 121 % 9 - 1])) (es := intL (f.drop (atB f c))) (ev_new ((en_cat (ds := intL (f.take (atB f c))) (es := intL [c / 121 % 9 - 1]) (ev_new ((en_slL (ev_var rfl) eo_none (eo_some (ev_var rfl))).is ?_)) (ev_new (en_lst (ea_cons (ev_sub (ev_mod (ev_div (ev_var rfl) ev_int ⟨by decide, by decide⟩) ev_int (by decide)) ev_int) ea_nil))) ?_).is ?_)) (ev_new ((en_slL (ev_var rfl) (eo_some (ev_var rfl)) eo_none).is ?_)) ?_).is ?_) (all_sc _) ?_
      · rw [cutD_to Da.int f hm, e2]
      · rw [List.length_map, List.length_map, List.length_take, List.length_singleton]
        omega
      · unfold intL
        rw [List.map_append]
      · rw [cutD_fr Da.int f hm, e2]
      · rw [List.length_map, List.length_map, List.length_append, List.length_take, List.length_drop, List.length_singleton]
        omega
      · rw [eb]
        simp only [intL, List.map_append]
      · generalize bent1 f c = f' at *
        refine run_seq (run_if (b := decide (c % 11 = 2) && !decide (f' = [])) (eb_and (eb_test (ev_eqI (ev_mod (ev_var rfl) ev_int (by decide)) ev_int)) fun _ => eb_test (ev_neInts (ns := f') (ms := []) (ev_var rfl) (ev_new (en_lst ea_nil)))) (fun z => ?_) fun _ => run_next ?_)
        · simp only [Bool.and_eq_true, decide_eq_true_eq] at z
          omega
        · refine run_if (b := decide (c % 11 = 3) && !decide (f' = [])) (eb_and (eb_test (ev_eqI (ev_mod (ev_var rfl) ev_int (by decide)) ev_int)) fun _ => eb_test (ev_neInts (ns := f') (ms := []) (ev_var rfl) (ev_new (en_lst ea_nil)))) (fun z => ?_) fun _ => run_next ⟨_, _, rfl⟩
          simp only [Bool.and_eq_true, decide_eq_true_eq] at z
          omega
    have n1 := of_decide_eq_false hb
    refine run_seq (run_if (b := decide (c % 11 = 2) && !decide (f = [])) (eb_and (eb_test (ev_eqI (ev_mod (ev_var rfl) ev_int (by decide)) ev_int)) fun _ => eb_test (ev_neInts (ns := f) (ms := []) (ev_var rfl) (ev_new (en_lst ea_nil)))) (fun hb => ?_) fun hb => run_next ?_)
    · simp only [Bool.and_eq_true, decide_eq_true_eq, Bool.not_eq_true', decide_eq_false_iff_not] at hb
      have ha := hat hb.2
      have eb : bent1 f c = f.set (atB f c) (f.getD (atB f c) 0 + c / 121 % 3 - 1) := by
        unfold bent1
        rw [if_neg n0, if_neg n1, if_pos hb]
      refine run_setLF (i := 2) (j := atB f c) (ds := intL f) (d := .int (f.getD (atB f c) 0 + c / 121 % 3 - 1)) rfl (ev_sub (ev_add (ev_ixL (ev_var rfl) (ev_var rfl) (int_get ha)) (ev_mod (ev_div (ev_var rfl) ev_int ⟨by decide, by decide⟩) ev_int (by decide))) ev_int) rfl (ev_var rfl) (by rw [List.length_map]; exact ha) ?_
      have e3 : (intL f).set (atB f c) (Da.int (f.getD (atB f c) 0 + c / 121 % 3 - 1)) = intL (bent1 f c) := by
        rw [eb]
        exact List.map_set.symm
      show Run K _ _ _
      rw [e3]
      generalize bent1 f c = f' at *
      refine run_if (b := decide (c % 11 = 3) && !decide (f' = [])) (eb_and (eb_test (ev_eqI (ev_mod (ev_var rfl) ev_int (by decide)) ev_int)) fun _ => eb_test (ev_neInts (ns := f') (ms := []) (ev_var rfl) (ev_new (en_lst ea_nil)))) (fun z => ?_) fun _ => run_next ⟨_, _, rfl⟩
      simp only [Bool.and_eq_true, decide_eq_true_eq] at z
      omega
    have n2 : ¬ (c % 11 = 2 ∧ f ≠ []) := fun z => by
      rw [decide_eq_true z.1, decide_eq_false z.2] at hb
      cases hb
    refine run_if (b := decide (c % 11 = 3) && !decide (f = [])) (eb_and (eb_test (ev_eqI (ev_mod (ev_var rfl) ev_int (by decide)) ev_int)) fun _ => eb_test (ev_neInts (ns := f) (ms := []) (ev_var rfl) (ev_new (en_lst ea_nil)))) (fun hb => ?_) fun hb => run_next ?_
    · simp only [Bool.and_eq_true, decide_eq_true_eq, Bool.not_eq_true', decide_eq_false_iff_not] at hb
      have ha := hat hb.2
      have hl : 0 < f.length := List.length_pos_iff.mpr hb.2
      have eb : bent1 f c = (f.set (atB f c) (f.getD 0 0)).set 0 (f.getD (atB f c) 0) := by
        unfold bent1
        rw [if_neg n0, if_neg n1, if_neg n2, if_pos hb]
      refine run_swap (i := 2) (j := atB f c) (j2 := 0) (ds := intL f) (x := .int (f.getD 0 0)) (y := .int (f.getD (atB f c) 0)) rfl (ev_tup (ea_cons (ev_ixL (ev_var rfl) ev_int (int_get (j := 0) hl)) (ea_cons (ev_ixL (ev_var rfl) (ev_var rfl) (int_get ha)) ea_nil))) rfl rfl (ev_var rfl) (by rw [List.length_map]; exact ha) ev_int (by rw [List.length_map]; exact hl) ⟨.im (.int c), .im (.int ((atB f c : Nat) : Int)), ?_⟩
      have e3 : ((intL f).set (atB f c) (Da.int (f.getD 0 0))).set 0 (Da.int (f.getD (atB f c) 0)) = intL (bent1 f c) := by
        rw [eb]
        unfold intL
        rw [List.map_set, List.map_set]
      rw [e3]
      rfl
    · have eb : bent1 f c = f := by
        unfold bent1
        rw [if_neg n0, if_neg n1, if_neg n2, if_neg]
        intro z
        rw [decide_eq_true z.1, decide_eq_false z.2] at hb
        cases hb
      rw [eb]
      exact ⟨_, _, rfl⟩
  · rintro e ⟨y3, y4, rfl⟩
    rw [List.length_map, List.take_length]
    exact run_retV (i := 2) rfl rfl
end
section
variable {K : PySem.W.Frag} {C : CS} {vs : List V} {H : Hp} {Q : VK} {E : XK}
theorem lenP_law_says {ds : List Da} {d : Da} (h : P_law_says ds d) : ds.length = 2 := by
  unfold P_law_says at h
  repeat (rcases h with ⟨z, h⟩; first | (subst z; rfl) | skip)
theorem len_law_says (h : sp_law_says K C vs H Q E) : vs.length = 2 := len_P (m := 2) (fun _ _ p => lenP_law_says p) h
theorem pure_law_says (h : sp_law_says K C vs H Q E) : t_law_says K C { nx := fun _ H' => Q .non H', rt := Q } (start ["_law_said", "_law_due"] vs) H := fnP_of 0 (fun _ _ p => by rw [lenP_law_says p] <;> rfl) (fun _ _ p => run_law_says p) h
theorem lenP_law_bent {ds es : List Da} (h : P_law_bent ds es) : ds.length = 2 := by
  unfold P_law_bent at h
  repeat (rcases h with ⟨z, h⟩; first | (subst z; rfl) | skip)
theorem len_law_bent (h : sp_law_bent K C vs H Q E) : vs.length = 2 := len_L (m := 2) (fun _ _ p => lenP_law_bent p) h
theorem pure_law_bent (h : sp_law_bent K C vs H Q E) : t_law_bent K C { nx := fun _ H' => Q .non H', rt := Q } (start ["_law_some", "_law_script", "_law_found", "_law_cell", "_law_at"] vs) H := fnL_of 3 (fun _ _ p => by rw [lenP_law_bent p] <;> rfl) (fun _ _ p => run_law_bent p) h
end
end FR

/-! _law_chains_right. -/
namespace FR
open PySem L2 Evl
structure Fx6 (K : PySem.W.Frag) (C : CS) : Prop where
  c : FxC K C
  s : FxS K C
  f : FxF K C
  r : FxR K C
  h : FxH K C
def P_law_chains_right (ds : List Da) (d : Da) : Prop := ∃ row, ∃ i : Nat, ∃ s st : Int, ∃ ns, ds = [rowD row, prD ((i : Int), s), .int st, .sq (intL ns)] ∧ (i < row.length ∧ (0 ≤ st ∧ st < row.length) ∧ Okr row ∧ Sd s ∧ ns.length ≤ 63) ∧ d = .bl true
abbrev sp_law_chains_right (K : PySem.W.Frag) (C : CS) : Sp := FnP K P_law_chains_right
def t_law_chains_right (K : PySem.W.Frag) (C : CS) : TS :=
  (tSeq (tAsg (tCall (sp_law_felled K C) [] E0 (tCons (tVar 0) (tCons (tOp (rIxT K) (tVar 1) (tC (.int 0))) (tCons (tOp (rIxT K) (tVar 1) (tC (.int 1))) tNil)))) (gName 4)) (tSeq (tAsg (tFld K (tCall (sp_reached K C) [] E0 (tCons (tVar 0) (tCons (tVar 1) (tCons (tVar 4) tNil)))) "stones") (gName 5)) (tSeq (tAsg (tIf (tTest (tOp rGeI (tOp rMulI (tOp rSubI (tVar 2) (tOp (rIxT K) (tVar 1) (tC (.int 0)))) (tOp (rIxT K) (tVar 1) (tC (.int 1)))) (tC (.int 0)))) (tLstRg3 (tOp (rIxT K) (tVar 1) (tC (.int 0))) (tOp rAddI (tVar 2) (tOp (rIxT K) (tVar 1) (tC (.int 1)))) (tOp (rIxT K) (tVar 1) (tC (.int 1)))) (tLst tNil)) (gName 6)) (tSeq (tFor (iList K (tLst (tCons (tVar 5) (tCons (tSl (rSlL K) (tVar 5) (tPart (tC (.int 1))) tNoPart) (tCons (tCall (sp_law_bent K C) [] E0 (tCons (tVar 5) (tCons (tVar 3) tNil))) (tCons (tVar 6) (tCons (tLst (tCons (tOp (rIxT K) (tVar 1) (tC (.int 0))) (tCons (tVar 2) tNil))) (tCons (tLst (tCons (tVar 2) tNil)) (tCons (tLst tNil) tNil))))))))) (gName 7) (tSeq (tAsg (tCB (rListS K) (tCons (tVar 7) tNil)) (gName 8)) (tSeq (tAsg (tMake C.Chain (sp_Chain_init K C) [] E0 (tCons (tVar 8) tNil)) (gName 9)) (tSeq (tDrop (tBM K "list" rAppend (tVar 8) (tCons (tC (.int 0)) tNil))) (tSeq (tAsg (tCall (sp_law_chain K C) [] E0 (tCons (tVar 0) (tCons (tVar 1) (tCons (tVar 2) (tCons (tVar 7) tNil))))) (gName 10)) (tSeq (tIfS (tOr (tTest (tOp (rNeD K) (tFld K (tVar 9) "stones") (tVar 7))) (tNot (tB (tCall (sp_law_says K C) [] E0 (tCons (tMeth C.Chain "shows" (sp_Chain_shows K C) [] E0 (tVar 9) (tCons (tVar 0) (tCons (tVar 1) (tCons (tVar 2) tNil)))) (tCons (tVar 10) tNil)))))) (tRet (tC (.bl false))) tNext) (tIfS (tNot (tB (tCall (sp_law_says K C) [] E0 (tCons (tMeth C.Chain "shows" (sp_Chain_shows K C) [] E0 (tVar 9) (tCons (tVar 0) (tCons (tVar 1) (tCons (tVar 4) tNil)))) (tCons (tCall (sp_law_chain K C) [] E0 (tCons (tVar 0) (tCons (tVar 1) (tCons (tVar 4) (tCons (tVar 7) tNil))))) tNil))))) (tRet (tC (.bl false))) tNext))))))) (tSeq (tAsg (tOp rAddI (tOp (rIxT K) (tOp (rIxL K) (tVar 0) (tVar 4)) (tC (.int 0))) (tOp rMulI (tOp (rIxT K) (tVar 1) (tC (.int 1))) (tOp (rIxT K) (tOp (rIxL K) (tVar 0) (tVar 4)) (tC (.int 1))))) (gName 11)) (tSeq (tFor (iList K (tLst (tCons (tVar 11) (tCons (tOp rAddI (tVar 11) (tC (.int 1))) (tCons (tOp rSubI (tVar 11) (tC (.int 1))) (tCons (tOp (rIxT K) (tOp (rIxL K) (tVar 0) (tOp (rIxT K) (tVar 1) (tC (.int 0)))) (tC (.int 0))) (tCons (tOp (rIxT K) (tOp (rIxL K) (tVar 0) (tVar 2)) (tC (.int 0))) (tCons (tOp rSubI (tOp (rIxT K) (tOp (rIxL K) (tVar 0) (tVar 2)) (tC (.int 0))) (tC (.int 1))) (tCons (tOp rSubI (tOp (rIxT K) (tOp (rIxL K) (tVar 0) (tC (.int 0))) (tC (.int 0))) (tC (.int 9))) tNil))))))))) (gName 12) (tSeq (tIfS (tTest (tOp rNe (tFld K (tMake C.Stands (sp_Stands_init K C) [] E0 (tCons (tVar 12) tNil)) "place") (tVar 12))) (tRet (tC (.bl false))) tNext) (tSeq (tAsg (tCall (sp_law_stands K C) [] E0 (tCons (tVar 0) (tCons (tVar 1) (tCons (tVar 2) (tCons (tVar 12) tNil))))) (gName 10)) (tIfS (tNot (tB (tCall (sp_law_says K C) [] E0 (tCons (tMeth C.Stands "shows" (sp_Stands_shows K C) [] E0 (tMake C.Stands (sp_Stands_init K C) [] E0 (tCons (tVar 12) tNil)) (tCons (tVar 0) (tCons (tVar 1) (tCons (tVar 2) tNil)))) (tCons (tVar 10) tNil))))) (tRet (tC (.bl false))) tNext)))) (tRet (tC (.bl true)))))))))
section
variable {K : PySem.W.Frag} {C : CS} {env : En} {t : TA} {te ta tb tc td : TE} {row : List (Int × Int)} {p s st z : Int} {zs : List Int} {ds es : List Da} {D : Addr} {b : Bool} {A : Addr} {ns : List Str} {dss : List (List Da)} {E : Ed} {i : Nat}
theorem OwL.sc {B B' H : Hp} : ∀ {dss : List (List Da)} {ls : List Addr}, (∀ ds ∈ dss, ds.all isSc = true) → OwL K B' H dss ls → OwL K B H dss ls
  | [], ls, _, h => h
  | ds :: r, ls, hs, h => by
    obtain ⟨l, u, xs, rfl, h2, h3, h4⟩ := h
    exact ⟨l, u, xs, rfl, h2, RpAll.sc (hs ds List.mem_cons_self) h3, OwL.sc (fun d hd => hs d (List.mem_cons_of_mem _ hd)) h4⟩
theorem OwL.nn {B H : Hp} : ∀ {dss : List (List Da)} {ls : List Addr}, OwL K B H dss ls → ∀ x ∈ ls, H x ≠ none
  | [], ls, h, x, hx => by
    have e : ls = [] := h
    subst e
    cases hx
  | ds :: r, ls, h, x, hx => by
    obtain ⟨l, u, xs, rfl, h2, h3, h4⟩ := h
    rcases List.mem_cons.mp hx with e | e
    · rw [e, h2]
      exact fun z => by cases z
    · exact OwL.nn h4 x e
theorem run_asgOF (h : EvOb K te (frz env) A ns dss) (hs : ∀ ds ∈ dss, ds.all isSc = true) (q : E.nx (env.set i (.ob A ns dss))) : Run K (tAsg te (gName i)) env E := fun B0 H0 B H σ D Bs eb s k =>
  h σ H s.frz H (Ex.refl _) _ fun a dx ls B' H' g nd new ha hl ow => k.nx _ B H' _ (s.new (sl := .ob A ns dss) (Gr.keep s.eH g.k) (a :: ls) (fun x hx => ⟨(new x hx).1, fresh_back s.eH (new x hx).1, fun z => by
    rcases List.mem_cons.mp hx with e | e
    · rw [e, ha] at z
      cases z
    · exact OwL.nn ow x e z⟩) ⟨a, dx, ls, rfl, rfl, nd, ha, hl, OwL.sc hs ow⟩) eb q
theorem eo_callU {P : List Da → Addr → List Str → List (List Da) → Prop} {S : Sp} {X : XK} (h : EvA K t env es) (hp : P es A ns dss) : EvOb K (tCall (FnU (FnO K P) S) [] X t) env A ns dss := fun σ B s H1 e Q q =>
  h σ B s H1 e _ fun vs B2 H2 g r => .inl ⟨B2, es, A, ns, dss, g.h, by rw [List.append_nil]; exact r, hp, fun a dx ls B' H' g' nd new ha hl ow => q a dx ls B' H' (g.trans g') nd (fun x hx => ⟨fresh_back g.k (new x hx).1, (new x hx).2⟩) ha hl ow⟩
theorem chS_len (q : Nat → Int × Int) : ∀ f m, (chS q f m).length ≤ f + 1
  | f, 0 => by
    have : chS q f 0 = [0] := by cases f <;> rfl
    rw [this]
    simp
  | 0, m + 1 => by
    show [m + 1].length ≤ 0 + 1
    simp
  | f + 1, m + 1 => by
    have := chS_len q f (bestI q m)
    show ((m + 1) :: chS q f (bestI q m)).length ≤ _
    rw [List.length_cons]
    omega
theorem ev_lawC (ha : EvE K ta env (rowD row)) (hb : EvE K tb env (prD (p, s))) (hc : EvE K tc env (.int st)) (hd : EvE K td env (intsD zs)) (hn : row.length ≤ 1000) (hs : Sd s) (hz : zs.length ≤ 5000) : EvE K (tCall (sp_law_chain K C) [] E0 (tCons ta (tCons tb (tCons tc (tCons td tNil))))) env (.bl (chainB row p s st zs)) :=
  ev_call (ds := [rowD row, prD (p, s), .int st, intsD zs]) (ea_cons ha (ea_cons hb (ea_cons hc (ea_cons hd ea_nil)))) ⟨row, p, s, st, zs, rfl, ⟨hn, hz, hs⟩, rfl⟩
theorem ev_lawS (ha : EvE K ta env (rowD row)) (hb : EvE K tb env (prD (p, s))) (hc : EvE K tc env (.int st)) (hd : EvE K td env (.int z)) (hp : 0 ≤ p ∧ p < row.length) (hst : 0 ≤ st ∧ st < row.length) (hn : row.length ≤ 1000) (hs : Sd s) : EvE K (tCall (sp_law_stands K C) [] E0 (tCons ta (tCons tb (tCons tc (tCons td tNil))))) env (.bl (standsB row p s st z)) :=
  ev_call (ds := [rowD row, prD (p, s), .int st, .int z]) (ea_cons ha (ea_cons hb (ea_cons hc (ea_cons hd ea_nil)))) ⟨row, p, s, st, z, rfl, ⟨hp, hst, hn, hs⟩, rfl⟩
theorem ev_shC (hd : EvE K td env (chainD C zs)) (ha : EvE K ta env (rowD row)) (hb : EvE K tb env (prD (p, s))) (hc : EvE K tc env (.int st)) (hn : row.length ≤ 1000) (hs : Sd s) (hz : zs.length ≤ 5000) :
    EvE K (tMeth C.Chain "shows" (sp_Chain_shows K C) [] E0 td (tCons ta (tCons tb (tCons tc tNil)))) env (.bl (chainB row p s st zs)) :=
  ev_meth (es := [rowD row, prD (p, s), .int st]) hd (by decide) (ea_cons ha (ea_cons hb (ea_cons hc ea_nil))) ⟨row, p, s, st, zs, rfl, ⟨hn, hz, hs⟩, rfl⟩
theorem ev_shS (hd : EvE K td env (standD C z)) (ha : EvE K ta env (rowD row)) (hb : EvE K tb env (prD (p, s))) (hc : EvE K tc env (.int st)) (hp : 0 ≤ p ∧ p < row.length) (hst : 0 ≤ st ∧ st < row.length) (hn : row.length ≤ 1000) (hs : Sd s) :
    EvE K (tMeth C.Stands "shows" (sp_Stands_shows K C) [] E0 td (tCons ta (tCons tb (tCons tc tNil)))) env (.bl (standsB row p s st z)) :=
  ev_meth (es := [rowD row, prD (p, s), .int st]) hd (by decide) (ea_cons ha (ea_cons hb (ea_cons hc ea_nil))) ⟨row, p, s, st, z, rfl, ⟨hp, hst, hn, hs⟩, rfl⟩
theorem ev_mkS (ha : EvE K ta env (.int z)) : EvE K (tMake C.Stands (sp_Stands_init K C) [] E0 (tCons ta tNil)) env (standD C z) := ev_mak1 (ea_cons ha ea_nil) fun x dx v1 H Q E h1 h2 => ⟨x, dx, v1, rfl, h1, h2⟩
theorem ev_mkC (ha : EvE K ta env (intsD zs)) : EvE K (tMake C.Chain (sp_Chain_init K C) [] E0 (tCons ta tNil)) env (chainD C zs) := ev_ob (dss := [intL zs]) (eo_mak1 ha)
theorem ev_says {a b : Bool} (ha : EvE K ta env (.bl a)) (hb : EvE K tb env (.bl b)) : EvE K (tCall (sp_law_says K C) [] E0 (tCons ta (tCons tb tNil))) env (.bl (decide (a = b))) :=
  ev_call (ds := [.bl a, .bl b]) (ea_cons ha (ea_cons hb ea_nil)) ⟨a, b, rfl, rfl⟩
def plainL (i s st : Int) : List Int := if 0 ≤ (st - i) * s then (List.range ((st - i) * s + 1).toNat).map fun k => i + (k : Nat) * s else []
theorem rgS_one {i j : Int} (h1 : 0 ≤ i) (h2 : i ≤ 2000) (h3 : 0 ≤ j) (h4 : j ≤ 2000) : RgS i j 1 (j - i).toNat := by
  have e : (Builtin.Range.rangeSize i j 1).toNat = (j - i).toNat := by
    unfold Builtin.Range.rangeSize
    rw [if_pos (by decide)]
    split <;> omega
  have := rgS_pos (a := i) (b := j) (c := 1) (by decide) (by decide) h1 (by omega) h3 (by omega)
  rwa [e] at this
theorem plain_len {i s st : Int} (hs : Sd s) (h1 : 0 ≤ i) (h2 : i ≤ 1000) (h3 : 0 ≤ st) (h4 : st ≤ 1000) : (plainL i s st).length ≤ 2000 := by
  unfold plainL
  split
  · rw [List.length_map, List.length_range]
    rcases hs with rfl | rfl <;> omega
  · simp
theorem run_law_chains_right (A : Fx6 K C) {ds : List Da} {d : Da} (h : P_law_chains_right ds d) : Run K (t_law_chains_right K C) (ent ds 9) (retD d) := by
  obtain ⟨row, i, s, st, ns, rfl, ⟨hi, hst, ok, hs, hns⟩, rfl⟩ := h
  have hn := ok.few
  have hpi : 0 ≤ (i : Int) ∧ (i : Int) < row.length := by omega
  have hend := last_rng (row := row) (i := i) hi hs
  refine run_seq (run_asg (d := .int (lastI row s i)) (ev_call (ds := [rowD row, .int i, .int s]) (ea_cons (ev_var rfl) (ea_cons (ev_pr0 (p := ((i : Int), s)) (ev_var rfl)) (ea_cons (ev_pr1 (p := ((i : Int), s)) (ev_var rfl)) ea_nil))) ⟨row, i, s, rfl, ⟨hi, hn, hs⟩, rfl⟩) ?_)
  have hz0 : (chL row s i (fell row s i).1).length ≤ 1000 := by
    have := chS_len (qf row s i) (fell row s i).1 (fell row s i).1
    have := (ah_in (k := (fell row s i).1) hi hs).mp (fell_chn row s i).le
    have hm2 : (fell row s i).1 < row.length := by
      rcases hs with rfl | rfl <;> omega
    unfold chL
    rw [List.length_reverse, List.length_map]
    omega
  refine run_seq (run_asg (d := intsD (chL row s i (fell row s i).1)) (ev_cs A.c (ev_ob (C := C.Chain) (ns := ["stones"]) (dss := [intL (chL row s i (fell row s i).1)]) (eo_callU (es := [rowD row, prD ((i : Int), s), .int (ix i s (fell row s i).1)]) (ea_cons (ev_var rfl) (ea_cons (ev_var rfl) (ea_cons (ev_var rfl) ea_nil))) ⟨row, i, (fell row s i).1, s, rfl, ⟨hi, ok, hs, Nat.le_refl _⟩, rfl, rfl, rfl⟩))) ?_)
  generalize chL row s i (fell row s i).1 = zs0 at hz0
  have hplain : EvE K (tIf (tTest (tOp rGeI (tOp rMulI (tOp rSubI (tVar 2) (tOp (rIxT K) (tVar 1) (tC (.int 0)))) (tOp (rIxT K) (tVar 1) (tC (.int 1)))) (tC (.int 0)))) (tLstRg3 (tOp (rIxT K) (tVar 1) (tC (.int 0))) (tOp rAddI (tVar 2) (tOp (rIxT K) (tVar 1) (tC (.int 1)))) (tOp (rIxT K) (tVar 1) (tC (.int 1)))) (tLst tNil))
      (imm [.im (rowD row), .im (prD ((i : Int), s)), .im (.int st), .im (.sq (intL ns)), .im (.int (lastI row s i)), .im (intsD zs0), .no, .no, .no, .no, .no, .no, .no]) (intsD (plainL i s st)) := by
    refine ev_ifE (b := decide (0 ≤ (st - i) * s)) (eb_test (ev_ge (ev_mul (ev_sub (ev_var rfl) (ev_pr0 (p := ((i : Int), s)) (ev_var rfl))) (ev_pr1 (p := ((i : Int), s)) (ev_var rfl)) (cmul_r hs)) ev_int)) (fun hb => ?_) fun hb => ?_
    · have h1 := of_decide_eq_true hb
      unfold plainL
      rw [if_pos h1]
      have hr : RgS i (st + s) s ((st - i) * s + 1).toNat := by
        rcases hs with rfl | rfl
        · have e : ((st - i) * 1 + 1).toNat = (st + 1 - i).toNat := by omega
          rw [e]
          exact rgS_one (by omega) (by omega) (by omega) (by omega)
        · have e : ((st - i) * -1 + 1).toNat = ((i : Int) - (st + -1)).toNat := by omega
          rw [e]
          exact rgS_neg (by omega) (by omega) (by omega) (by omega)
      exact ev_new (en_listRg3 (ev_pr0 (p := ((i : Int), s)) (ev_var rfl)) (ev_add (ev_var rfl) (ev_pr1 (p := ((i : Int), s)) (ev_var rfl))) (ev_pr1 (p := ((i : Int), s)) (ev_var rfl)) hr)
    · have h1 := of_decide_eq_false hb
      unfold plainL
      rw [if_neg h1]
      exact ev_new (en_lst ea_nil)
  have hpl := plain_len (i := i) (st := st) hs (by omega) (by omega) (by omega) (by omega)
  refine run_seq (run_asg (d := intsD (plainL i s st)) hplain ?_)
  clear hplain
  generalize plainL i s st = pl at hpl
  refine run_seq (run_for (ds := [zs0, zs0.drop 1, bentL zs0 ns, pl, [(i : Int), st], [st], []].map intsD) (wk_list (ev_new (en_lst (ea_cons (ev_var rfl) (ea_cons (ev_new ((en_slL (ev_var rfl) (eo_some ev_int) eo_none).is (cutD_fr Da.int zs0 (z := 1) (by decide)))) (ea_cons (ev_new (en_call (ds := [intsD zs0, .sq (intL ns)]) (ea_cons (ev_var rfl) (ea_cons (ev_var rfl) ea_nil)) ⟨zs0, ns, rfl, ⟨by omega, hns⟩, rfl⟩)) (ea_cons (ev_var rfl) (ea_cons (ev_new (en_lst (ea_cons (ev_pr0 (p := ((i : Int), s)) (ev_var rfl)) (ea_cons (ev_var rfl) ea_nil)))) (ea_cons (ev_new (en_lst (ea_cons (ev_var rfl) ea_nil))) (ea_cons (ev_new (en_lst ea_nil)) ea_nil))))))) (by simp))))
    (fun k e => ∃ y7 y8 y9 y10, e = [.im (rowD row), .im (prD ((i : Int), s)), .im (.int st), .im (.sq (intL ns)), .im (.int (lastI row s i)), .im (intsD zs0), .im (intsD pl), y7, y8, y9, y10, .no, .no]) ⟨.no, .no, .no, .no, rfl⟩ ?_ ?_)
  · rintro k d e hd ⟨y7, y8, y9, y10, rfl⟩
    obtain ⟨zs, hzs, rfl⟩ := map_get hd
    have hzl : zs.length ≤ 3000 := by
      have hm := List.mem_of_getElem? hzs
      simp only [List.mem_cons, List.not_mem_nil, or_false] at hm
      rcases hm with rfl | rfl | rfl | rfl | rfl | rfl | rfl
      · omega
      · rw [List.length_drop]
        omega
      · have := bentL_len ns zs0
        omega
      · omega
      · simp
      · simp
      · simp
    refine ⟨_, ts_name, ?_⟩
    refine run_seq (run_asgN (ds := intL zs) (en_listL (ev_var rfl)) ?_)
    refine run_seq (run_asgOF (A := C.Chain) (ns := ["stones"]) (dss := [intL zs]) (eo_mak1 (ev_var rfl)) (fun ds hds => by rw [List.mem_singleton.mp hds]; exact all_sc zs) ?_)
    refine run_seq (run_app (i := 8) (d := .int 0) (ds := intL zs) rfl ev_int (by rw [List.length_map]; omega) ?_)
    refine run_seq (run_asg (d := .bl (chainB row i s st zs)) (ev_lawC (ev_var rfl) (ev_var rfl) (ev_var rfl) (ev_var rfl) hn hs (by omega)) ?_)
    refine run_seq (run_if (b := !decide (zs = zs) || !decide (chainB row i s st zs = chainB row i s st zs)) (eb_or (eb_test (ev_neInts (ev_cs (zs := zs) A.c (ev_var rfl)) (ev_var rfl))) fun _ => eb_not (eb_B (ev_says (ev_shC (zs := zs) (ev_var rfl) (ev_var rfl) (ev_var rfl) (ev_var rfl) hn hs (by omega)) (ev_var rfl)))) (fun z => by simp at z) fun _ => run_next ?_)
    refine run_if (b := !decide (chainB row i s (lastI row s i) zs = chainB row i s (lastI row s i) zs)) (eb_not (eb_B (ev_says (ev_shC (zs := zs) (ev_var rfl) (ev_var rfl) (ev_var rfl) (ev_var rfl) hn hs (by omega)) (ev_lawC (ev_var rfl) (ev_var rfl) (ev_var rfl) (ev_var rfl) hn hs (by omega))))) (fun z => by simp at z) fun _ => run_next ⟨_, _, _, _, rfl⟩
  rintro e ⟨y7, y8, y9, y10, rfl⟩
  refine run_seq (run_asg (d := .int (plc row (lastI row s i) + s * hgt row (lastI row s i))) (ev_add (ev_row0 (ev_var rfl) (ev_var rfl) hend.1 hend.2) (ev_mul (ev_pr1 (p := ((i : Int), s)) (ev_var rfl)) (ev_row1 (ev_var rfl) (ev_var rfl) hend.1 hend.2) (cmul_s hs))) ?_)
  generalize plc row (lastI row s i) + s * hgt row (lastI row s i) = re
  refine run_seq (run_for (ds := intL [re, re + 1, re - 1, plc row i, plc row st, plc row st - 1, plc row 0 - 9]) (wk_list (ev_new (en_lst (ea_cons (ev_var rfl) (ea_cons (ev_add (ev_var rfl) ev_int) (ea_cons (ev_sub (ev_var rfl) ev_int) (ea_cons (ev_row0 (ev_var rfl) (ev_pr0 (p := ((i : Int), s)) (ev_var rfl)) hpi.1 hpi.2) (ea_cons (ev_row0 (ev_var rfl) (ev_var rfl) hst.1 hst.2) (ea_cons (ev_sub (ev_row0 (ev_var rfl) (ev_var rfl) hst.1 hst.2) ev_int) (ea_cons (ev_sub (ev_row0 (ev_var rfl) ev_int (by omega) (by omega)) ev_int) ea_nil))))))))))
    (fun k e => ∃ y10 y12, e = [.im (rowD row), .im (prD ((i : Int), s)), .im (.int st), .im (.sq (intL ns)), .im (.int (lastI row s i)), .im (intsD zs0), .im (intsD pl), y7, y8, y9, y10, .im (.int re), y12]) ⟨y10, .no, rfl⟩ ?_ ?_)
  · rintro k d e hd ⟨y10, y12, rfl⟩
    obtain ⟨z, hz, rfl⟩ := intL_get hd
    refine ⟨_, ts_name, ?_⟩
    refine run_seq (run_if (b := !decide (z = z)) (eb_test (ev_neI (ev_sp A.s (ev_mkS (ev_var rfl))) (ev_var rfl))) (fun w => by simp at w) fun _ => run_next ?_)
    refine run_seq (run_asg (d := .bl (standsB row i s st z)) (ev_lawS (ev_var rfl) (ev_var rfl) (ev_var rfl) (ev_var rfl) hpi hst hn hs) ?_)
    refine run_if (b := !decide (standsB row i s st z = standsB row i s st z)) (eb_not (eb_B (ev_says (ev_shS (ev_mkS (ev_var rfl)) (ev_var rfl) (ev_var rfl) (ev_var rfl) hpi hst hn hs) (ev_var rfl)))) (fun w => by simp at w) fun _ => run_next ⟨_, _, rfl⟩
  · rintro e ⟨y10, y12, rfl⟩
    exact run_ret ev_bl rfl
end
section
variable {K : PySem.W.Frag} {C : CS} {vs : List V} {H : Hp} {Q : VK} {E : XK}
theorem lenP_law_chains_right {ds : List Da} {d : Da} (h : P_law_chains_right ds d) : ds.length = 4 := by
  unfold P_law_chains_right at h
  repeat (rcases h with ⟨z, h⟩; first | (subst z; rfl) | skip)
theorem len_law_chains_right (h : sp_law_chains_right K C vs H Q E) : vs.length = 4 := len_P (m := 4) (fun _ _ p => lenP_law_chains_right p) h
theorem pure_law_chains_right (A : Fx6 K C) (h : sp_law_chains_right K C vs H Q E) : t_law_chains_right K C { nx := fun _ H' => Q .non H', rt := Q } (start ["_law_row_here", "_law_push", "_law_stone", "_law_script", "_law_end", "_law_chain_here", "_law_plain", "_law_some", "_law_handed", "_law_answer", "_law_due", "_law_reach", "_law_place"] vs) H := fnP_of 9 (fun _ _ p => by rw [lenP_law_chains_right p] <;> rfl) (fun _ _ p => run_law_chains_right A p) h
end
end FR

/-! Lists in a list, handed to an answer and changed behind it. -/
namespace FR
open PySem L2 Evl
section
variable {K : PySem.W.Frag} {C : CS} {env : En} {E : Ed} {ps : List (Int × Int)} {zs : List Int} {rest : TS}
theorem rp_pairs {B B' : Hp} (h : ∀ a xs, B a = some (.tup xs) → B' a = some (.tup xs)) : ∀ {ps : List (Int × Int)} {xs : List V}, RpAll K B (rowL ps) xs → RpAll K B' (rowL ps) xs
  | [], xs, r => by
    have e : xs = [] := by simpa only [rowL, List.map_nil, RpAll] using r
    subst e
    exact .nil
  | p :: ps, xs, r => by
    have r' : RpAll K B (prD p :: rowL ps) xs := r
    obtain ⟨v, u, rfl, h1, h2⟩ := r'.uncons
    refine RpAll.cons ?_ (rp_pairs h h2)
    simp only [prD, Rp] at h1 ⊢
    obtain ⟨a, ys, rfl, e, e2⟩ := h1
    exact ⟨a, ys, rfl, h a ys e, RpAll.sc (by rfl) e2⟩
theorem run_handed (hx7 : env[7]? = some (.im (rowD ps))) (hx8 : env[8]? = some (.im (intsD zs))) (hl10 : 10 < env.length) (hp : ps.length ≤ 3000) (hz : zs.length ≤ 3000)
    (q : Run K rest ((env.set 9 .no).set 10 (.ob C.Fewest ["pushes", "stones"] [rowL ps, intL zs])) E) :
    Run K (tSeq (tAsg (tLst (tCons (tCB (rListS K) (tCons (tVar 7) tNil)) (tCons (tCB (rListS K) (tCons (tVar 8) tNil)) tNil))) (gName 9)) (tSeq (tAsg (tMake C.Fewest (sp_Fewest_init K C) [] E0 (tCons (tOp (rIxL K) (tVar 9) (tC (.int 0))) (tCons (tOp (rIxL K) (tVar 9) (tC (.int 1))) tNil))) (gName 10))
      (tSeq (tDrop (tBM K "list" rAppend (tOp (rIxL K) (tVar 9) (tC (.int 0))) (tCons (tTup (tCons (tC (.int 0)) (tCons (tC (.int 1)) tNil))) tNil))) (tSeq (tDrop (tBM K "list" rAppend (tOp (rIxL K) (tVar 9) (tC (.int 1))) (tCons (tC (.int 0)) tNil))) rest)))) env E := fun B0 H0 B H σ D Bs eb s k => by
  have h1 : EvN K (tCB (rListS K) (tCons (tVar 7) tNil)) (imm env) (rowL ps) := en_listL (ev_var (by rw [List.getElem?_map, hx7]; rfl))
  have h2 : EvN K (tCB (rListS K) (tCons (tVar 8) tNil)) (imm env) (intL zs) := en_listL (ev_var (by rw [List.getElem?_map, hx8]; rfl))
  refine h1 σ B s.imm H s.eH _ fun l1 xs1 B1 H1 g1 n1 b1 e1 r1 => h2 σ B1 (s.imm.mono g1.b) H1 g1.h _ fun l2 xs2 B2 H2 g2 n2 b2 e2 r2 => ⟨sz_of (by simp), fun p hp' => ?_⟩
  have g12 := g1.trans g2
  have e1' : H2 l1 = some (.lst xs1) := g2.k _ _ e1
  have d12 : l1 ≠ l2 := fun z => by
    rw [z, n2] at e1
    cases e1
  have d1p : l1 ≠ p := fun z => by
    rw [z, hp'] at e1'
    cases e1'
  have d2p : l2 ≠ p := fun z => by
    rw [z, hp'] at e2
    cases e2
  have hH : ∀ x ∈ [p, l1, l2], H x = none := fun x hx => by
    have : x = p ∨ x = l1 ∨ x = l2 := by simpa using hx
    rcases this with rfl | rfl | rfl
    · exact fresh_back g12.k hp'
    · exact n1
    · exact fresh_back g1.k n2
  have hB : ∀ x ∈ [p, l1, l2], B2 x = none := fun x hx => by
    have : x = p ∨ x = l1 ∨ x = l2 := by simpa using hx
    rcases this with rfl | rfl | rfl
    · exact fresh_back g2.h hp'
    · rw [g2.n _ (by rw [e1]; exact fun z => by cases z), b1]
    · exact b2
  generalize hH3 : upd H2 p (.lst [V.ref l1, V.ref l2]) = H3
  have k3 : Ex H2 H3 := by
    rw [← hH3]
    exact Ex.new hp'
  have p3 : H3 p = some (.lst [V.ref l1, V.ref l2]) := by rw [← hH3, upd_same]
  have q1 : H3 l1 = some (.lst xs1) := k3 _ _ e1'
  have q2 : H3 l2 = some (.lst xs2) := k3 _ _ e2
  have g3 : Gr B H (vis B2 H3 [p, l1, l2]) H3 := ⟨g12.b.trans (vis_ex hB), vis_le (g2.h.trans k3), g12.k.trans k3, fun a ha => by
    rw [vis_out fun z => ha (hH a z)]
    exact g12.n a ha⟩
  have rp3 : Rp K (vis B2 H3 [p, l1, l2]) (.lst [rowD ps, intsD zs]) (.ref p) := by
    simp only [Rp]
    refine ⟨p, [V.ref l1, V.ref l2], rfl, by rw [vis_in (by simp)]; exact p3, .cons ?_ (.cons ?_ .nil)⟩
    · simp only [rowD, Rp]
      exact ⟨l1, xs1, rfl, by rw [vis_in (by simp)]; exact q1, RpAll.mono (g2.b.trans (vis_ex hB)) _ _ r1⟩
    · simp only [intsD, Rp]
      exact ⟨l2, xs2, rfl, by rw [vis_in (by simp)]; exact q2, RpAll.mono (vis_ex hB) _ _ r2⟩
  have s3 := s.im (i := 9) g3 rp3
  have v9 : (imm (env.set 9 (.im (.lst [rowD ps, intsD zs]))))[9]? = some (.im (.lst [rowD ps, intsD zs])) := by
    rw [List.getElem?_map, List.getElem?_set]
    simp [show 9 < env.length by omega, imm1]
  have hb : EvOb K (tMake C.Fewest (sp_Fewest_init K C) [] E0 (tCons (tOp (rIxL K) (tVar 9) (tC (.int 0))) (tCons (tOp (rIxL K) (tVar 9) (tC (.int 1))) tNil))) (imm (env.set 9 (.im (.lst [rowD ps, intsD zs])))) C.Fewest ["pushes", "stones"] [rowL ps, intL zs] :=
    eo_mak2 (ev_ixL (ds := [rowD ps, intsD zs]) (ev_var v9) ev_int rfl) (ev_ixL (ds := [rowD ps, intsD zs]) (ev_var v9) ev_int rfl)
  dsimp only [gName, tSeq, tAsg]
  refine hb _ _ s3.imm H3 s3.eH _ fun a dx ls B4 H4 g4 nd new ha hl ow => ?_
  have hls : 9 < σ.length ∧ 10 < σ.length := by
    have := s.len
    omega
  have hv : ((σ.set 9 (some (V.ref p))).set 10 (some (V.ref a)))[9]? = some (some (.ref p)) := by
    rw [List.getElem?_set_ne (by decide), List.getElem?_set]
    simp [hls.1]
  have p4 := g4.k _ _ p3
  have w1 := g4.k _ _ q1
  have w2 := g4.k _ _ q2
  refine ⟨_, hv, p, [V.ref l1, V.ref l2], 0, .ref l1, rfl, rfl, sq_of p4, rfl, .inl ⟨rfl, xs1, sq_of w1⟩, sz_of (by simp), fun t ht => ?_⟩
  have k5 : Ex H4 (upd H4 t (.tup [V.int 0, V.int 1])) := Ex.new ht
  refine ⟨l1, xs1, .ref t, rfl, rfl, k5 _ _ w1, sz_lt (by rw [r1.len, List.length_map]; omega), ?_⟩
  have dpl : ∀ b, b ≠ l1 → upd (upd H4 t (.tup [V.int 0, V.int 1])) l1 (.lst (xs1 ++ [V.ref t])) b = upd H4 t (.tup [V.int 0, V.int 1]) b := fun b hb => upd_ne hb
  refine ⟨_, hv, p, [V.ref l1, V.ref l2], 1, .ref l2, rfl, rfl, sq_of (by rw [dpl p (Ne.symm d1p)]; exact k5 _ _ p4), rfl, .inl ⟨rfl, xs2, sq_of (by rw [dpl l2 (Ne.symm d12)]; exact k5 _ _ w2)⟩, l2, xs2, .int 0, rfl, rfl, by rw [dpl l2 (Ne.symm d12)]; exact k5 _ _ w2, sz_lt (by rw [r2.len, List.length_map]; omega), ?_⟩
  generalize hHf : upd (upd (upd H4 t (.tup [V.int 0, V.int 1])) l1 (.lst (xs1 ++ [V.ref t]))) l2 (.lst (xs2 ++ [V.int 0])) = Hf
  have hf : ∀ b o, b ≠ l1 → b ≠ l2 → H4 b = some o → Hf b = some o := fun b o z1 z2 z => by
    rw [← hHf, upd_ne z2, upd_ne z1]
    exact k5 _ _ z
  have hold : ∀ x, H x ≠ none → x ∉ [p, l1, l2] := fun x hx z => hx (hH x z)
  have hno : ∀ {x}, x ∉ [p, l1, l2] → x ≠ p ∧ x ≠ l1 ∧ x ≠ l2 := fun {x} hx => by simpa using hx
  have gf : Gr B H (fun b => if b ∈ [p, l1, l2] then none else B4 b) Hf := by
    refine ⟨fun b o z => ?_, fun b o z => ?_, fun b o z => ?_, fun b hb => ?_⟩
    · have hb : H b ≠ none := by
        rw [s.eH _ _ z]
        exact fun w => by cases w
      show (if b ∈ [p, l1, l2] then none else B4 b) = some o
      rw [if_neg (hold b hb)]
      exact g4.b _ _ (g3.b _ _ z)
    · have z' : (if b ∈ [p, l1, l2] then none else B4 b) = some o := z
      by_cases hm : b ∈ [p, l1, l2]
      · rw [if_pos hm] at z'
        cases z'
      · rw [if_neg hm] at z'
        obtain ⟨_, z1, z2⟩ := hno hm
        exact hf b o z1 z2 (g4.h _ _ z')
    · have hb : H b ≠ none := by
        rw [z]
        exact fun w => by cases w
      obtain ⟨_, z1, z2⟩ := hno (hold b hb)
      exact hf b o z1 z2 (g4.k _ _ (g3.k _ _ z))
    · show (if b ∈ [p, l1, l2] then none else B4 b) = B b
      rw [if_neg (hold b hb), g4.n b (ex_nn g3.k hb)]
      exact g3.n b hb
  have hnew : ∀ x ∈ a :: ls, x ∉ [p, l1, l2] := fun x hx z => by
    have := (new x hx).1
    have z' : x = p ∨ x = l1 ∨ x = l2 := by simpa using z
    rcases z' with rfl | rfl | rfl
    · rw [p3] at this
      cases this
    · rw [q1] at this
      cases this
    · rw [q2] at this
      cases this
  have tups : ∀ b ys, B4 b = some (.tup ys) → (fun b => if b ∈ [p, l1, l2] then none else B4 b) b = some (.tup ys) := fun b ys z => by
    have : b ∉ [p, l1, l2] := fun w => by
      have w' : b = p ∨ b = l1 ∨ b = l2 := by simpa using w
      have z4 := g4.h _ _ z
      rcases w' with rfl | rfl | rfl
      · rw [p4] at z4
        cases z4
      · rw [w1] at z4
        cases z4
      · rw [w2] at z4
        cases z4
    show (if b ∈ [p, l1, l2] then none else B4 b) = _
    rw [if_neg this]
    exact z
  obtain ⟨m1, u1, ys1, rfl, f1, f2, m2, u2, ys2, rfl, f3, f4, f5⟩ := ow
  have f5' : u2 = [] := f5
  subst f5'
  have hm1 := hno (hnew m1 (by simp))
  have hm2 := hno (hnew m2 (by simp))
  have haa := hno (hnew a (by simp))
  have sf := (s.new (i := 9) (v := .ref p) (sl := .no) (Gr.refl s.eH) [] (fun x hx => by cases hx) trivial).new (i := 10) (v := .ref a) (sl := .ob C.Fewest ["pushes", "stones"] [rowL ps, intL zs]) gf [a, m1, m2] (fun x hx => by
    have hn := new x hx
    have hnn : H3 x = none := hn.1
    refine ⟨fresh_back g3.k hnn, ?_, ?_⟩
    · show (if x ∈ [p, l1, l2] then none else B4 x) = none
      rw [if_neg (hnew x hx)]
      exact hn.2
    · obtain ⟨_, z1, z2⟩ := hno (hnew x hx)
      have : x = a ∨ x = m1 ∨ x = m2 := by simpa using hx
      rcases this with rfl | rfl | rfl
      · rw [hf _ _ z1 z2 ha]
        exact fun z => by cases z
      · rw [hf _ _ z1 z2 f1]
        exact fun z => by cases z
      · rw [hf _ _ z1 z2 f3]
        exact fun z => by cases z) ⟨a, dx, [m1, m2], rfl, rfl, nd, hf _ _ haa.2.1 haa.2.2 ha, hl, m1, [m2], ys1, rfl, hf _ _ hm1.2.1 hm1.2.2 f1, rp_pairs tups f2, m2, [], ys2, rfl, hf _ _ hm2.2.1 hm2.2.2 f3, RpAll.sc (all_sc zs) f4, rfl⟩
  exact q B0 H0 _ Hf _ D Bs (eb.trans gf.b) sf k
end
end FR

/-! _law_few_right. -/
namespace FR
open PySem L2 Evl
def P_law_few_right (ds : List Da) (d : Da) : Prop := ∃ row ns, ds = [rowD row, .sq (intL ns)] ∧ (Okr row ∧ ns.length ≤ 63) ∧ d = .bl true
abbrev sp_law_few_right (K : PySem.W.Frag) (C : CS) : Sp := FnP K P_law_few_right
def t_law_few_right (K : PySem.W.Frag) (C : CS) : TS :=
  (tSeq (tAsg (tTup (tCons (tCall (sp_fewest K C) [] E0 (tCons (tVar 0) tNil)) (tCons (tCB (rLenS K) (tCons (tVar 0) tNil)) tNil))) (gTup K 2 (gCons (gName 2) (gCons (gName 3) gNil)))) (tSeq (tAsg (tLc (iList K (tSl (rSlL K) (tVar 1) tNoPart (tPart (tC (.int 4))))) (gName 11) tYes (tTup (tCons (tOp rModI (tVar 11) (tOp rAddI (tVar 3) (tC (.int 1)))) (tCons (tOp (rIxT K) (tTup (tCons (tC (.int 1)) (tCons (tUn (rU fun i => .int (-i)) (tC (.int 1))) (tCons (tC (.int 0)) tNil)))) (tOp rDivI (tOp rModI (tOp rDivI (tVar 11) (tC (.int 5))) (tC (.int 9))) (tC (.int 4)))) tNil))) [11]) (gName 4)) (tSeq (tAsg (tFld K (tCall (sp_rights K C) [] E0 (tCons (tVar 0) tNil)) "stones") (gName 5)) (tSeq (tAsg (tLst (tCons (tTup (tCons (tFld K (tVar 2) "pushes") (tCons (tFld K (tVar 2) "stones") tNil))) (tCons (tTup (tCons (tSl (rSlL K) (tFld K (tVar 2) "pushes") (tPart (tC (.int 1))) tNoPart) (tCons (tSl (rSlL K) (tFld K (tVar 2) "stones") (tPart (tC (.int 1))) tNoPart) tNil))) tNil))) (gName 6)) (tSeq (tAsg (tOp rCat (tVar 6) (tLst (tCons (tTup (tCons (tFld K (tVar 2) "pushes") (tCons (tCall (sp_law_bent K C) [] E0 (tCons (tFld K (tVar 2) "stones") (tCons (tVar 1) tNil))) tNil))) (tCons (tTup (tCons (tRevL K (tFld K (tVar 2) "pushes")) (tCons (tFld K (tVar 2) "stones") tNil))) tNil)))) (gName 6)) (tSeq (tAsg (tOp rCat (tVar 6) (tLst (tCons (tTup (tCons (tLc (iList K (tVar 5)) (gName 12) tYes (tTup (tCons (tVar 12) (tCons (tC (.int 1)) tNil))) [12]) (tCons (tVar 5) tNil))) (tCons (tTup (tCons (tVar 4) (tCons (tFld K (tVar 2) "stones") tNil))) tNil)))) (gName 6)) (tSeq (tAsg (tOp rCat (tVar 6) (tLst (tCons (tTup (tCons (tOp rRep (tLst (tCons (tTup (tCons (tC (.int 0)) (tCons (tC (.int 2)) tNil))) tNil)) (tVar 3)) (tCons (tOp rRep (tLst (tCons (tC (.int 0)) tNil)) (tVar 3)) tNil))) (tCons (tTup (tCons (tLst (tCons (tTup (tCons (tOp rSubI (tVar 3) (tC (.int 1))) (tCons (tUn (rU fun i => .int (-i)) (tC (.int 1))) tNil))) tNil)) (tCons (tLst (tCons (tC (.int 0)) tNil)) tNil))) (tCons (tTup (tCons (tLst tNil) (tCons (tLst tNil) tNil))) (tCons (tTup (tCons (tVar 4) (tCons (tSl (rSlL K) (tVar 4) tNoPart (tPart (tC (.int 0)))) tNil))) tNil)))))) (gName 6)) (tSeq (tFor (iList K (tVar 6)) (gTup K 2 (gCons (gName 7) (gCons (gName 8) gNil))) (tSeq (tAsg (tLst (tCons (tCB (rListS K) (tCons (tVar 7) tNil)) (tCons (tCB (rListS K) (tCons (tVar 8) tNil)) tNil))) (gName 9)) (tSeq (tAsg (tMake C.Fewest (sp_Fewest_init K C) [] E0 (tCons (tOp (rIxL K) (tVar 9) (tC (.int 0))) (tCons (tOp (rIxL K) (tVar 9) (tC (.int 1))) tNil))) (gName 10)) (tSeq (tDrop (tBM K "list" rAppend (tOp (rIxL K) (tVar 9) (tC (.int 0))) (tCons (tTup (tCons (tC (.int 0)) (tCons (tC (.int 1)) tNil))) tNil))) (tSeq (tDrop (tBM K "list" rAppend (tOp (rIxL K) (tVar 9) (tC (.int 1))) (tCons (tC (.int 0)) tNil))) (tSeq (tIfS (tOr (tTest (tOp (rNeD K) (tFld K (tVar 10) "pushes") (tVar 7))) (tTest (tOp (rNeD K) (tFld K (tVar 10) "stones") (tVar 8)))) (tRet (tC (.bl false))) tNext) (tIfS (tNot (tB (tCall (sp_law_says K C) [] E0 (tCons (tMeth C.Fewest "shows" (sp_Fewest_shows K C) [] E0 (tVar 10) (tCons (tVar 0) tNil)) (tCons (tCall (sp_law_few K C) [] E0 (tCons (tVar 0) (tCons (tVar 7) (tCons (tVar 8) tNil)))) tNil))))) (tRet (tC (.bl false))) tNext))))))) (tSeq (tFor (iList K (tLst (tCons (tVar 5) (tCons (tCall (sp_law_bent K C) [] E0 (tCons (tVar 5) (tCons (tVar 1) tNil))) (tCons (tLstRg (tRg1 (tVar 3))) (tCons (tLc (iList K (tSl (rSlL K) (tVar 1) tNoPart (tPart (tC (.int 3))))) (gName 11) tYes (tOp rModI (tVar 11) (tOp rAddI (tVar 3) (tC (.int 1)))) [11]) tNil)))))) (gName 8) (tSeq (tAsg (tCB (rListS K) (tCons (tVar 8) tNil)) (gName 9)) (tSeq (tAsg (tMake C.Rights (sp_Rights_init K C) [] E0 (tCons (tVar 9) tNil)) (gName 10)) (tSeq (tDrop (tBM K "list" rAppend (tVar 9) (tCons (tC (.int 0)) tNil))) (tIfS (tOr (tTest (tOp (rNeD K) (tFld K (tVar 10) "stones") (tVar 8))) (tNot (tB (tCall (sp_law_says K C) [] E0 (tCons (tMeth C.Rights "shows" (sp_Rights_shows K C) [] E0 (tVar 10) (tCons (tVar 0) tNil)) (tCons (tCall (sp_law_rights K C) [] E0 (tCons (tVar 0) (tCons (tVar 8) tNil))) tNil)))))) (tRet (tC (.bl false))) tNext))))) (tRet (tC (.bl true))))))))))))
def pzD (q : List (Int × Int) × List Int) : Da := .tup [rowD q.1, intsD q.2]
def t3 (k : Int) : Int := if k = 0 then 1 else if k = 1 then -1 else 0
section
variable {K : PySem.W.Frag} {C : CS} {env : En} {te ta tb tc : TE} {row ps : List (Int × Int)} {zs : List Int} {ds es : List Da} {k : Int}
theorem rp_rep {B : Hp} {ds : List Da} {xs : List V} (h : RpAll K B ds xs) : ∀ n : Nat, RpAll K B (List.replicate n ds).flatten (List.replicate n xs).flatten
  | 0 => .nil
  | n + 1 => by
    rw [List.replicate_succ, List.replicate_succ, List.flatten_cons, List.flatten_cons]
    exact h.app (rp_rep h n)
theorem en_rep (ha : EvE K ta env (.lst ds)) (hb : EvE K tb env (.int k)) (h0 : 0 ≤ k) (h1 : k ≤ 1000) (hl : ds.length ≤ 10) : EvN K (tOp rRep ta tb) env (List.replicate k.toNat ds).flatten :=
  ev_opN ha hb fun B H v w e r1 r2 Q q => by
    simp only [Rp] at r1 r2
    obtain ⟨a, xs, rfl, h2, h3⟩ := r1
    subst r2
    have hx : xs.length ≤ 10 := by rw [h3.len]; exact hl
    have hm : xs.length * k.toNat ≤ 10 * 1000 := Nat.mul_le_mul hx (by omega)
    exact ⟨a, k, xs, rfl, rfl, e _ _ h2, by omega, by omega, sz_of (by omega), fun p hp => q p _ B _ (Gr.put e hp) hp (fresh_back e hp) upd_same (rp_rep h3 _)⟩
theorem rep_one {α : Type} (x : α) : ∀ n : Nat, (List.replicate n [x]).flatten = List.replicate n x
  | 0 => rfl
  | n + 1 => by
    rw [List.replicate_succ, List.flatten_cons, rep_one x n]
    rfl
theorem ev_fewest (ha : EvE K ta env (rowD row)) (ok : Okr row) : EvE K (tCall (sp_fewest K C) [] E0 (tCons ta tNil)) env (fewD C (fewP row) (fewZ row)) :=
  ev_ob (C := C.Fewest) (ns := ["pushes", "stones"]) (dss := [rowL (fewP row), intL (fewZ row)]) (eo_call (es := [rowD row]) (ea_cons ha ea_nil) ⟨row, rfl, ok, rfl, rfl, rfl⟩)
theorem ev_rightsS (A : FxR K C) (ha : EvE K ta env (rowD row)) (ok : Okr row) : EvE K (tFld K (tCall (sp_rights K C) [] E0 (tCons ta tNil)) "stones") env (intsD (rts row)) :=
  ev_rs A (ev_ob (C := C.Rights) (ns := ["stones"]) (dss := [intL (rts row)]) (eo_call (es := [rowD row]) (ea_cons ha ea_nil) ⟨row, rfl, ok, rfl, rfl, rfl⟩))
theorem ev_bent {ns : List Int} (ha : EvE K ta env (intsD zs)) (hb : EvE K tb env (.sq (intL ns))) (h1 : zs.length ≤ 1000) (h2 : ns.length ≤ 63) : EvE K (tCall (sp_law_bent K C) [] E0 (tCons ta (tCons tb tNil))) env (intsD (bentL zs ns)) :=
  ev_new (en_call (ds := [intsD zs, .sq (intL ns)]) (ea_cons ha (ea_cons hb ea_nil)) ⟨zs, ns, rfl, ⟨h1, h2⟩, rfl⟩)
theorem ev_pz {q : List (Int × Int) × List Int} (ha : EvE K ta env (rowD q.1)) (hb : EvE K tb env (intsD q.2)) : EvE K (tTup (tCons ta (tCons tb tNil))) env (pzD q) := ev_tup (ea_cons ha (ea_cons hb ea_nil))
theorem ev_t3 (ha : EvE K ta env (.int k)) (h0 : 0 ≤ k) (h1 : k ≤ 2) : EvE K (tOp (rIxT K) (tTup (tCons (tC (.int 1)) (tCons (tUn (rU fun i => .int (-i)) (tC (.int 1))) (tCons (tC (.int 0)) tNil)))) ta) env (.int (t3 k)) := by
  refine ev_ixT (ds := [.int 1, .int (-1), .int 0]) (i := k) (ev_tup (ea_cons ev_int (ea_cons (ev_neg ev_int) (ea_cons ev_int ea_nil)))) ha ?_
  have : k = 0 ∨ k = 1 ∨ k = 2 := by omega
  rcases this with rfl | rfl | rfl <;> rfl
theorem ev_lawFw (ha : EvE K ta env (rowD row)) (hb : EvE K tb env (rowD ps)) (hc : EvE K tc env (intsD zs)) (hn : row.length ≤ 1000) (hp : ps.length ≤ 3000) (hz : zs.length ≤ 3000) : EvE K (tCall (sp_law_few K C) [] E0 (tCons ta (tCons tb (tCons tc tNil)))) env (.bl (fewB row ps zs)) :=
  ev_call (ds := [rowD row, rowD ps, intsD zs]) (ea_cons ha (ea_cons hb (ea_cons hc ea_nil))) ⟨row, ps, zs, rfl, ⟨hn, hp, hz⟩, rfl⟩
theorem ev_shF (he : EvE K te env (fewD C ps zs)) (ha : EvE K ta env (rowD row)) (hn : row.length ≤ 1000) (hp : ps.length ≤ 3000) (hz : zs.length ≤ 3000) : EvE K (tMeth C.Fewest "shows" (sp_Fewest_shows K C) [] E0 te (tCons ta tNil)) env (.bl (fewB row ps zs)) :=
  ev_meth (es := [rowD row]) he (by decide) (ea_cons ha ea_nil) ⟨row, ps, zs, rfl, ⟨hn, hp, hz⟩, rfl⟩
theorem ev_lawRt (ha : EvE K ta env (rowD row)) (hb : EvE K tb env (intsD zs)) (hn : row.length ≤ 1000) (hz : zs.length ≤ 3000) : EvE K (tCall (sp_law_rights K C) [] E0 (tCons ta (tCons tb tNil))) env (.bl (rightsB row zs)) :=
  ev_call (ds := [rowD row, intsD zs]) (ea_cons ha (ea_cons hb ea_nil)) ⟨row, zs, rfl, ⟨hn, hz⟩, rfl⟩
theorem ev_shR (he : EvE K te env (rightD C zs)) (ha : EvE K ta env (rowD row)) (hn : row.length ≤ 1000) (hz : zs.length ≤ 3000) : EvE K (tMeth C.Rights "shows" (sp_Rights_shows K C) [] E0 te (tCons ta tNil)) env (.bl (rightsB row zs)) :=
  ev_meth (es := [rowD row]) he (by decide) (ea_cons ha ea_nil) ⟨row, zs, rfl, ⟨hn, hz⟩, rfl⟩
theorem run_law_few_right (A : Fx6 K C) {ds : List Da} {d : Da} (h : P_law_few_right ds d) : Run K (t_law_few_right K C) (ent ds 11) (retD d) := by
  obtain ⟨row, ns, rfl, ⟨ok, hns⟩, rfl⟩ := h
  have hn := ok.few
  refine run_seq (run_asgT (d := .tup [fewD C (fewP row) (fewZ row), .int (row.length : Int)]) (ev_tup (ea_cons (ev_fewest (ev_var rfl) ok) (ea_cons (ev_lenR (ev_var rfl)) ea_nil))) (ts_tup2 ts_name ts_name) ?_)
  have hp : (fewP row).length ≤ 1000 := by
    have := fewL_len row
    unfold fewP
    rw [List.length_map]
    omega
  have hz : (fewZ row).length ≤ 1000 := by
    have := few_lens row
    omega
  have hr : (rts row).length ≤ 1000 := by
    have := rtsF_len row row.length 0
    unfold rts
    omega
  refine run_seq (run_asgN (ds := rowL ((ns.take 4).map fun c => (c % ((row.length : Int) + 1), t3 (c / 5 % 9 / 4)))) ((en_lc (us := [11]) Da.int (fun _ => true) (fun c => prD (c % ((row.length : Int) + 1), t3 (c / 5 % 9 / 4))) (ns.take 4) (wk_list (ev_new ((en_slQ (ev_var rfl) eo_none (eo_some ev_int)).is (cutD_to Da.int ns (z := 4) (by decide))))) (by simp) (by rw [List.length_take]; omega) fun c hc => ⟨_, tc_name, eb_yes, fun _ => ev_tup (ea_cons (ev_mod (ev_var rfl) (ev_add (ev_var rfl) ev_int) (by omega)) (ea_cons (ev_t3 (ev_div (ev_mod (ev_div (ev_var rfl) ev_int ⟨by decide, by decide⟩) ev_int (by decide)) ev_int ⟨by decide, by decide⟩) (by omega) (by omega)) ea_nil))⟩).is (by
    rw [List.filter_eq_self.mpr fun _ _ => rfl]
    unfold rowL
    rw [List.map_map]
    rfl)) (run_fix (i := 4) rfl ?_))
  have hdr : ((ns.take 4).map fun c => (c % ((row.length : Int) + 1), t3 (c / 5 % 9 / 4))).length ≤ 4 := by
    rw [List.length_map, List.length_take]
    omega
  generalize ((ns.take 4).map fun c => (c % ((row.length : Int) + 1), t3 (c / 5 % 9 / 4))) = drawn at hdr
  refine run_seq (run_asg (d := intsD (rts row)) (ev_rightsS A.r (ev_var rfl) ok) ?_)
  generalize fewP row = ps at hp
  generalize fewZ row = zs at hz
  generalize rts row = rs at hr
  refine run_seq (run_asgN (ds := [(ps, zs), (ps.drop 1, zs.drop 1)].map pzD) (en_lst (ea_cons (ev_pz (q := (ps, zs)) (ev_fp (zs := zs) A.f (ev_var rfl)) (ev_fz (ps := ps) A.f (ev_var rfl))) (ea_cons (ev_pz (q := (ps.drop 1, zs.drop 1)) (ev_new ((en_slL (ev_fp (zs := zs) A.f (ev_var rfl)) (eo_some ev_int) eo_none).is (cutD_fr prD ps (z := 1) (by decide)))) (ev_new ((en_slL (ev_fz (ps := ps) A.f (ev_var rfl)) (eo_some ev_int) eo_none).is (cutD_fr Da.int zs (z := 1) (by decide))))) ea_nil))) (run_fix (i := 6) rfl ?_))
  refine run_seq (run_asgN (ds := ([(ps, zs), (ps.drop 1, zs.drop 1)] ++ [(ps, bentL zs ns), (ps.reverse, zs)]).map pzD) ((en_cat (ds := [(ps, zs), (ps.drop 1, zs.drop 1)].map pzD) (es := [(ps, bentL zs ns), (ps.reverse, zs)].map pzD) (ev_var rfl) (ev_new (en_lst (ea_cons (ev_pz (q := (ps, bentL zs ns)) (ev_fp (zs := zs) A.f (ev_var rfl)) (ev_bent (ev_fz (ps := ps) A.f (ev_var rfl)) (ev_var rfl) hz hns)) (ea_cons (ev_pz (q := (ps.reverse, zs)) (ev_new ((en_rev (ev_fp (zs := zs) A.f (ev_var rfl))).is (by unfold rowL; rw [List.map_reverse]))) (ev_fz (ps := ps) A.f (ev_var rfl))) ea_nil)))) (by simp)).is (by rw [List.map_append])) (run_fix (i := 6) rfl ?_))
  generalize hq1 : [(ps, zs), (ps.drop 1, zs.drop 1)] ++ [(ps, bentL zs ns), (ps.reverse, zs)] = q1
  have b1 : q1.length = 4 ∧ ∀ q ∈ q1, q.1.length ≤ 3000 ∧ q.2.length ≤ 3000 := by
    rw [← hq1]
    refine ⟨rfl, fun q hq => ?_⟩
    have hb := bentL_len ns zs
    simp only [List.cons_append, List.nil_append, List.mem_cons, List.not_mem_nil, or_false] at hq
    rcases hq with rfl | rfl | rfl | rfl
    · exact ⟨by show ps.length ≤ _; omega, by show zs.length ≤ _; omega⟩
    · exact ⟨by show (ps.drop 1).length ≤ _; rw [List.length_drop]; omega, by show (zs.drop 1).length ≤ _; rw [List.length_drop]; omega⟩
    · exact ⟨by show ps.length ≤ _; omega, by show (bentL zs ns).length ≤ _; omega⟩
    · exact ⟨by show ps.reverse.length ≤ _; rw [List.length_reverse]; omega, by show zs.length ≤ _; omega⟩
  clear hq1
  refine run_seq (run_asgN (ds := (q1 ++ [(rs.map (fun z => (z, (1 : Int))), rs), (drawn, zs)]).map pzD) ((en_cat (ds := q1.map pzD) (es := [(rs.map (fun z => (z, (1 : Int))), rs), (drawn, zs)].map pzD) (ev_var rfl) (ev_new (en_lst (ea_cons (ev_pz (q := (rs.map (fun z => (z, (1 : Int))), rs)) (ev_new ((en_lc (us := [12]) Da.int (fun _ => true) (fun z => prD (z, 1)) rs (wk_list (ev_var rfl)) (by simp) (by omega) fun z hz => ⟨_, tc_name, eb_yes, fun _ => ev_tup (ea_cons (ev_var rfl) (ea_cons ev_int ea_nil))⟩).is (by
    rw [List.filter_eq_self.mpr fun _ _ => rfl]
    unfold rowL
    rw [List.map_map]
    rfl))) (ev_var rfl)) (ea_cons (ev_pz (q := (drawn, zs)) (ev_var rfl) (ev_fz (ps := ps) A.f (ev_var rfl))) ea_nil)))) (by rw [List.length_map, b1.1]; simp)).is (by rw [List.map_append])) (run_fix (i := 6) rfl ?_))
  generalize hq2 : q1 ++ [(rs.map (fun z => (z, (1 : Int))), rs), (drawn, zs)] = q2
  have b2 : q2.length = 6 ∧ ∀ q ∈ q2, q.1.length ≤ 3000 ∧ q.2.length ≤ 3000 := by
    rw [← hq2]
    refine ⟨by rw [List.length_append, b1.1]; rfl, fun q hq => ?_⟩
    rcases List.mem_append.mp hq with hq | hq
    · exact b1.2 q hq
    · simp only [List.mem_cons, List.not_mem_nil, or_false] at hq
      rcases hq with rfl | rfl
      · exact ⟨by show (rs.map _).length ≤ _; rw [List.length_map]; omega, by show rs.length ≤ _; omega⟩
      · exact ⟨by show drawn.length ≤ _; omega, by show zs.length ≤ _; omega⟩
  clear hq2
  refine run_seq (run_asgN (ds := (q2 ++ [(List.replicate row.length ((0 : Int), (2 : Int)), List.replicate row.length (0 : Int)), ([((row.length : Int) - 1, (-1 : Int))], [0]), ([], []), (drawn, [])]).map pzD) ((en_cat (ds := q2.map pzD) (es := [(List.replicate row.length ((0 : Int), (2 : Int)), List.replicate row.length (0 : Int)), ([((row.length : Int) - 1, (-1 : Int))], [0]), ([], []), (drawn, [])].map pzD) (ev_var rfl) (ev_new (en_lst (ea_cons (ev_pz (q := (List.replicate row.length ((0 : Int), (2 : Int)), List.replicate row.length (0 : Int))) (ev_new ((en_rep (ds := rowL [((0 : Int), (2 : Int))]) (ev_new (en_lst (ea_cons (ev_tup (ea_cons ev_int (ea_cons ev_int ea_nil))) ea_nil))) (ev_var rfl) (by omega) (by omega) (by simp)).is ?_)) (ev_new ((en_rep (ds := intL [(0 : Int)]) (ev_new (en_lst (ea_cons ev_int ea_nil))) (ev_var rfl) (by omega) (by omega) (by simp)).is ?_)))
    (ea_cons (ev_pz (q := ([((row.length : Int) - 1, (-1 : Int))], [0])) (ev_new (en_lst (ea_cons (ev_tup (ea_cons (ev_sub (ev_var rfl) ev_int) (ea_cons (ev_neg ev_int) ea_nil))) ea_nil))) (ev_new (en_lst (ea_cons ev_int ea_nil)))) (ea_cons (ev_pz (q := ([], [])) (ev_new (en_lst ea_nil)) (ev_new (en_lst ea_nil))) (ea_cons (ev_pz (q := (drawn, [])) (ev_var rfl) (ev_new ((en_slL (ev_var rfl) eo_none (eo_some ev_int)).is (cutD_to prD drawn (z := 0) (by decide))))) ea_nil)))))) (by rw [List.length_map, b2.1]; simp)).is (by rw [List.map_append])) (run_fix (i := 6) rfl ?_))
  · rw [Int.toNat_natCast]
    show (List.replicate row.length [prD (0, 2)]).flatten = rowL _
    rw [rep_one]
    unfold rowL
    rw [List.map_replicate]
  · rw [Int.toNat_natCast]
    show (List.replicate row.length [Da.int 0]).flatten = intL _
    rw [rep_one]
    unfold intL
    rw [List.map_replicate]
  generalize hq3 : q2 ++ [(List.replicate row.length ((0 : Int), (2 : Int)), List.replicate row.length (0 : Int)), ([((row.length : Int) - 1, (-1 : Int))], [0]), ([], []), (drawn, [])] = q3
  have b3 : ∀ q ∈ q3, q.1.length ≤ 3000 ∧ q.2.length ≤ 3000 := by
    rw [← hq3]
    intro q hq
    rcases List.mem_append.mp hq with hq | hq
    · exact b2.2 q hq
    · simp only [List.mem_cons, List.not_mem_nil, or_false] at hq
      rcases hq with rfl | rfl | rfl | rfl
      · exact ⟨by show (List.replicate _ _).length ≤ _; rw [List.length_replicate]; omega, by show (List.replicate _ _).length ≤ _; rw [List.length_replicate]; omega⟩
      · exact ⟨by show 1 ≤ 3000; omega, by show 1 ≤ 3000; omega⟩
      · exact ⟨by show 0 ≤ 3000; omega, by show 0 ≤ 3000; omega⟩
      · exact ⟨by show drawn.length ≤ _; omega, by show 0 ≤ 3000; omega⟩
  clear hq3
  refine run_seq (run_for (ds := q3.map pzD) (wk_list (ev_var rfl)) (fun k e => ∃ y7 y8 y9 y10, e = [.im (rowD row), .im (.sq (intL ns)), .im (fewD C ps zs), .im (.int (row.length : Int)), .im (rowD drawn), .im (intsD rs), .im (.lst (q3.map pzD)), y7, y8, y9, y10, .no, .no]) ⟨.no, .no, .no, .no, rfl⟩ ?_ ?_)
  · rintro k d e hd ⟨y7, y8, y9, y10, rfl⟩
    obtain ⟨q, hq, rfl⟩ := map_get hd
    obtain ⟨l1, l2⟩ := b3 q (List.mem_of_getElem? hq)
    refine ⟨_, ts_tup2 ts_name ts_name, run_handed (ps := q.1) (zs := q.2) rfl rfl (by simp) l1 l2 ?_⟩
    refine run_seq (run_if (b := !decide (q.1 = q.1) || !decide (q.2 = q.2)) (eb_or (eb_test (ev_neRow (ev_fp (ps := q.1) (zs := q.2) A.f (ev_var rfl)) (ev_var rfl))) fun _ => eb_test (ev_neInts (ev_fz (ps := q.1) (zs := q.2) A.f (ev_var rfl)) (ev_var rfl))) (fun z => by simp at z) fun _ => run_next ?_)
    refine run_if (b := !decide (fewB row q.1 q.2 = fewB row q.1 q.2)) (eb_not (eb_B (ev_says (ev_shF (row := row) (ps := q.1) (zs := q.2) (ev_var rfl) (ev_var rfl) hn l1 l2) (ev_lawFw (row := row) (ps := q.1) (zs := q.2) (ev_var rfl) (ev_var rfl) (ev_var rfl) hn l1 l2)))) (fun z => by simp at z) fun _ => run_next ⟨_, _, _, _, rfl⟩
  rintro e ⟨y7, y8, y9, y10, rfl⟩
  refine run_seq (run_for (ds := [rs, bentL rs ns, (List.range row.length).map (fun k : Nat => (k : Int)), (ns.take 3).map fun c => c % ((row.length : Int) + 1)].map intsD) (wk_list (ev_new (en_lst (ea_cons (ev_var rfl) (ea_cons (ev_bent (ev_var rfl) (ev_var rfl) hr hns) (ea_cons (ev_new ((en_listRg1 (ev_var rfl) (RgOk.of_le (by omega) (by omega) (by omega) (by omega))).is ?_)) (ea_cons (ev_new ((en_lc (us := [11]) Da.int (fun _ => true) (fun c => Da.int (c % ((row.length : Int) + 1))) (ns.take 3) (wk_list (ev_new ((en_slQ (ev_var rfl) eo_none (eo_some ev_int)).is (cutD_to Da.int ns (z := 3) (by decide))))) (by simp) (by rw [List.length_take]; omega) fun c hc => ⟨_, tc_name, eb_yes, fun _ => ev_mod (ev_var rfl) (ev_add (ev_var rfl) ev_int) (by omega)⟩).is ?_)) ea_nil)))))))
    (fun k e => ∃ y8 y9 y10, e = [.im (rowD row), .im (.sq (intL ns)), .im (fewD C ps zs), .im (.int (row.length : Int)), .im (rowD drawn), .im (intsD rs), .im (.lst (q3.map pzD)), y7, y8, y9, y10, .no, .no]) ⟨y8, y9, y10, rfl⟩ ?_ ?_)
  · rw [Int.toNat_natCast]
    unfold intL
    rw [List.map_map]
    rfl
  · rw [List.filter_eq_self.mpr fun _ _ => rfl]
    unfold intL
    rw [List.map_map]
    rfl
  · rintro k d e hd ⟨y8, y9, y10, rfl⟩
    obtain ⟨us, hus, rfl⟩ := map_get hd
    have hl : us.length ≤ 3000 := by
      have hm := List.mem_of_getElem? hus
      have hb := bentL_len ns rs
      simp only [List.mem_cons, List.not_mem_nil, or_false] at hm
      rcases hm with rfl | rfl | rfl | rfl
      · omega
      · omega
      · rw [List.length_map, List.length_range]
        omega
      · rw [List.length_map, List.length_take]
        omega
    refine ⟨_, ts_name, ?_⟩
    refine run_seq (run_asgN (ds := intL us) (en_listL (ev_var rfl)) ?_)
    refine run_seq (run_asgOF (A := C.Rights) (ns := ["stones"]) (dss := [intL us]) (eo_mak1 (ev_var rfl)) (fun ds hds => by rw [List.mem_singleton.mp hds]; exact all_sc us) ?_)
    refine run_seq (run_app (i := 9) (d := .int 0) (ds := intL us) rfl ev_int (by rw [List.length_map]; omega) ?_)
    refine run_if (b := !decide (us = us) || !decide (rightsB row us = rightsB row us)) (eb_or (eb_test (ev_neInts (ev_rs (zs := us) A.r (ev_var rfl)) (ev_var rfl))) fun _ => eb_not (eb_B (ev_says (ev_shR (row := row) (zs := us) (ev_var rfl) (ev_var rfl) hn hl) (ev_lawRt (row := row) (zs := us) (ev_var rfl) (ev_var rfl) hn hl)))) (fun z => by simp at z) fun _ => run_next ⟨_, _, _, rfl⟩
  · rintro e ⟨y8, y9, y10, rfl⟩
    exact run_ret ev_bl rfl
end
section
variable {K : PySem.W.Frag} {C : CS} {vs : List V} {H : Hp} {Q : VK} {E : XK}
theorem lenP_law_few_right {ds : List Da} {d : Da} (h : P_law_few_right ds d) : ds.length = 2 := by
  unfold P_law_few_right at h
  repeat (rcases h with ⟨z, h⟩; first | (subst z; rfl) | skip)
theorem len_law_few_right (h : sp_law_few_right K C vs H Q E) : vs.length = 2 := len_P (m := 2) (fun _ _ p => lenP_law_few_right p) h
theorem pure_law_few_right (A : Fx6 K C) (h : sp_law_few_right K C vs H Q E) : t_law_few_right K C { nx := fun _ H' => Q .non H', rt := Q } (start ["_law_row_here", "_law_script", "_law_told", "_law_many", "_law_drawn", "_law_starts", "_law_some", "_law_pushes", "_law_stones", "_law_handed", "_law_answer", "_law_cell", "_law_stone"] vs) H := fnP_of 11 (fun _ _ p => by rw [lenP_law_few_right p] <;> rfl) (fun _ _ p => run_law_few_right A p) h
end
end FR

/-! _law_outright. -/
namespace FR
open PySem L2 Evl
def P_law_outright (ds : List Da) (d : Da) : Prop := ds = [] ∧ d = .bl true
abbrev sp_law_outright (K : PySem.W.Frag) (C : CS) : Sp := FnP K P_law_outright
def t_law_outright (K : PySem.W.Frag) (C : CS) : TS :=
  (tSeq (tAsg (tLst (tCons (tTup (tCons (tC (.int 0)) (tCons (tC (.int 2)) tNil))) (tCons (tTup (tCons (tC (.int 2)) (tCons (tC (.int 1)) tNil))) (tCons (tTup (tCons (tC (.int 4)) (tCons (tC (.int 5)) tNil))) (tCons (tTup (tCons (tC (.int 6)) (tCons (tC (.int 1)) tNil))) tNil))))) (gName 0)) (tSeq (tAsg (tLst (tCons (tMeth C.Chain "shows" (sp_Chain_shows K C) [] E0 (tMake C.Chain (sp_Chain_init K C) [] E0 (tCons (tLst (tCons (tC (.int 0)) (tCons (tC (.int 2)) tNil))) tNil)) (tCons (tVar 0) (tCons (tTup (tCons (tC (.int 0)) (tCons (tC (.int 1)) tNil))) (tCons (tC (.int 2)) tNil)))) (tCons (tMeth C.Chain "shows" (sp_Chain_shows K C) [] E0 (tMake C.Chain (sp_Chain_init K C) [] E0 (tCons (tLst (tCons (tC (.int 2)) (tCons (tC (.int 1)) (tCons (tC (.int 0)) tNil)))) tNil)) (tCons (tVar 0) (tCons (tTup (tCons (tC (.int 2)) (tCons (tC (.int 1)) tNil))) (tCons (tC (.int 0)) tNil)))) (tCons (tMeth C.Chain "shows" (sp_Chain_shows K C) [] E0 (tMake C.Chain (sp_Chain_init K C) [] E0 (tCons (tLst tNil) tNil)) (tCons (tVar 0) (tCons (tTup (tCons (tC (.int 0)) (tCons (tC (.int 1)) tNil))) (tCons (tC (.int 0)) tNil)))) tNil)))) (gName 1)) (tSeq (tAsg (tOp rCat (tVar 1) (tLst (tCons (tMeth C.Stands "shows" (sp_Stands_shows K C) [] E0 (tMake C.Stands (sp_Stands_init K C) [] E0 (tCons (tC (.int 2)) tNil)) (tCons (tVar 0) (tCons (tTup (tCons (tC (.int 0)) (tCons (tC (.int 1)) tNil))) (tCons (tC (.int 2)) tNil)))) (tCons (tMeth C.Stands "shows" (sp_Stands_shows K C) [] E0 (tMake C.Stands (sp_Stands_init K C) [] E0 (tCons (tC (.int 3)) tNil)) (tCons (tVar 0) (tCons (tTup (tCons (tC (.int 0)) (tCons (tC (.int 1)) tNil))) (tCons (tC (.int 1)) tNil)))) (tCons (tMeth C.Fewest "shows" (sp_Fewest_shows K C) [] E0 (tMake C.Fewest (sp_Fewest_init K C) [] E0 (tCons (tLst (tCons (tTup (tCons (tC (.int 2)) (tCons (tC (.int 0)) tNil))) tNil)) (tCons (tLst (tCons (tC (.int 2)) tNil)) tNil))) (tCons (tVar 0) tNil)) tNil))))) (gName 1)) (tSeq (tAsg (tOp rCat (tVar 1) (tLst (tCons (tMeth C.Rights "shows" (sp_Rights_shows K C) [] E0 (tMake C.Rights (sp_Rights_init K C) [] E0 (tCons (tLst (tCons (tC (.int 0)) tNil)) tNil)) (tCons (tVar 0) tNil)) (tCons (tMeth C.Higher "shows" (sp_Higher_shows K C) [] E0 (tMake C.Higher (sp_Higher_init K C) [] E0 (tCons (tC (.int 1)) (tCons (tC .non) tNil))) (tCons (tVar 0) (tCons (tC (.int 0)) tNil))) (tCons (tMeth C.Higher "shows" (sp_Higher_shows K C) [] E0 (tMake C.Higher (sp_Higher_init K C) [] E0 (tCons (tC (.int 2)) (tCons (tC (.int 3)) tNil))) (tCons (tVar 0) (tCons (tC (.int 0)) tNil))) tNil))))) (gName 1)) (tSeq (tAsg (tOp rCat (tVar 1) (tLst (tCons (tMeth C.Fewest "shows" (sp_Fewest_shows K C) [] E0 (tMake C.Fewest (sp_Fewest_init K C) [] E0 (tCons (tLst (tCons (tTup (tCons (tC (.int 2)) (tCons (tUn (rU fun i => .int (-i)) (tC (.int 1))) tNil))) (tCons (tTup (tCons (tC (.int 2)) (tCons (tC (.int 1)) tNil))) tNil))) (tCons (tLst (tCons (tC (.int 0)) (tCons (tC (.int 1)) tNil))) tNil))) (tCons (tVar 0) tNil)) (tCons (tMeth C.Chain "shows" (sp_Chain_shows K C) [] E0 (tMake C.Chain (sp_Chain_init K C) [] E0 (tCons (tLst (tCons (tC (.int 2)) (tCons (tC (.int 1)) tNil))) tNil)) (tCons (tVar 0) (tCons (tTup (tCons (tC (.int 2)) (tCons (tC (.int 1)) tNil))) (tCons (tC (.int 1)) tNil)))) tNil)))) (gName 1)) (tSeq (tAsg (tOp rCat (tVar 1) (tLst (tCons (tMeth C.Chain "shows" (sp_Chain_shows K C) [] E0 (tMake C.Chain (sp_Chain_init K C) [] E0 (tCons (tLst (tCons (tC (.int 0)) (tCons (tUn (rU fun i => .int (-i)) (tC (.int 2))) (tCons (tC (.int 2)) tNil)))) tNil)) (tCons (tLst (tCons (tTup (tCons (tC (.int 0)) (tCons (tC (.int 2)) tNil))) (tCons (tTup (tCons (tC (.int 2)) (tCons (tC (.int 2)) tNil))) (tCons (tTup (tCons (tC (.int 4)) (tCons (tC (.int 5)) tNil))) tNil)))) (tCons (tTup (tCons (tC (.int 0)) (tCons (tC (.int 1)) tNil))) (tCons (tC (.int 2)) tNil)))) (tCons (tMeth C.Higher "shows" (sp_Higher_shows K C) [] E0 (tMake C.Higher (sp_Higher_init K C) [] E0 (tCons (tC (.int 0)) (tCons (tC (.int 3)) tNil))) (tCons (tVar 0) (tCons (tC (.int 2)) tNil))) tNil)))) (gName 1)) (tSeq (tAsg (tLst (tCons (tMeth C.Chain "shows" (sp_Chain_shows K C) [] E0 (tMake C.Chain (sp_Chain_init K C) [] E0 (tCons (tLst (tCons (tC (.int 2)) (tCons (tC (.int 1)) (tCons (tC (.int 0)) tNil)))) tNil)) (tCons (tLst (tCons (tTup (tCons (tC (.int 0)) (tCons (tC (.int 2)) tNil))) (tCons (tTup (tCons (tC (.int 2)) (tCons (tC (.int 2)) tNil))) (tCons (tTup (tCons (tC (.int 4)) (tCons (tC (.int 5)) tNil))) tNil)))) (tCons (tTup (tCons (tC (.int 2)) (tCons (tUn (rU fun i => .int (-i)) (tC (.int 1))) tNil))) (tCons (tC (.int 0)) tNil)))) (tCons (tMeth C.Stands "shows" (sp_Stands_shows K C) [] E0 (tMake C.Stands (sp_Stands_init K C) [] E0 (tCons (tC (.int 3)) tNil)) (tCons (tVar 0) (tCons (tTup (tCons (tC (.int 0)) (tCons (tC (.int 1)) tNil))) (tCons (tC (.int 2)) tNil)))) tNil))) (gName 2)) (tSeq (tAsg (tOp rCat (tVar 2) (tLst (tCons (tMeth C.Fewest "shows" (sp_Fewest_shows K C) [] E0 (tMake C.Fewest (sp_Fewest_init K C) [] E0 (tCons (tLst (tCons (tTup (tCons (tC (.int 2)) (tCons (tUn (rU fun i => .int (-i)) (tC (.int 1))) tNil))) (tCons (tTup (tCons (tC (.int 2)) (tCons (tC (.int 1)) tNil))) tNil))) (tCons (tLst (tCons (tC (.int 0)) (tCons (tC (.int 3)) tNil))) tNil))) (tCons (tVar 0) tNil)) (tCons (tMeth C.Rights "shows" (sp_Rights_shows K C) [] E0 (tMake C.Rights (sp_Rights_init K C) [] E0 (tCons (tLst (tCons (tC (.int 0)) (tCons (tC (.int 2)) tNil))) tNil)) (tCons (tVar 0) tNil)) (tCons (tMeth C.Higher "shows" (sp_Higher_shows K C) [] E0 (tMake C.Higher (sp_Higher_init K C) [] E0 (tCons (tC (.int 1)) (tCons (tC (.int 2)) tNil))) (tCons (tVar 0) (tCons (tC (.int 0)) tNil))) tNil))))) (gName 2)) (tSeq (tAsg (tOp rCat (tVar 2) (tLst (tCons (tMeth C.Higher "shows" (sp_Higher_shows K C) [] E0 (tMake C.Higher (sp_Higher_init K C) [] E0 (tCons (tC (.int 0)) (tCons (tC .non) tNil))) (tCons (tVar 0) (tCons (tC (.int 2)) tNil))) (tCons (tMeth C.Fewest "shows" (sp_Fewest_shows K C) [] E0 (tMake C.Fewest (sp_Fewest_init K C) [] E0 (tCons (tLst tNil) (tCons (tLst tNil) tNil))) (tCons (tLst tNil) tNil)) (tCons (tMeth C.Rights "shows" (sp_Rights_shows K C) [] E0 (tMake C.Rights (sp_Rights_init K C) [] E0 (tCons (tLst tNil) tNil)) (tCons (tLst tNil) tNil)) tNil))))) (gName 2)) (tRet (tAndV (tCB (rAll K) (tCons (tLc (iList K (tVar 1)) (gName 3) tYes (tCall (sp_law_says K C) [] E0 (tCons (tVar 3) (tCons (tC (.bl false)) tNil))) [3]) tNil)) (tCB (rAll K) (tCons (tLc (iList K (tVar 2)) (gName 3) tYes (tCall (sp_law_says K C) [] E0 (tCons (tVar 3) (tCons (tC (.bl true)) tNil))) [3]) tNil)))))))))))))
def R0 : List (Int × Int) := [(0, 2), (2, 1), (4, 5), (6, 1)]
def R1 : List (Int × Int) := [(0, 2), (2, 2), (4, 5)]
theorem out_f1 : fewB R0 [(2, 0)] [2] = false := fB_f fun R => by
  have := (R.pok (2, 0) (by simp)).2
  rcases this with h | h <;> exact absurd h (by decide)
theorem out_f2 : fewB R0 [(2, -1), (2, 1)] [0, 1] = false := fB_f fun R => absurd (R.ind 0 (by decide) 1 (.inl rfl)) (by decide +kernel)
theorem out_f3 : fewB R0 [(2, -1), (2, 1)] [0, 3] = true := by
  refine fB_t ⟨rfl, by decide +kernel, fun p hp => ?_, fun k k0 k1 => ?_, fun i hi s hs => ?_⟩
  · simp only [List.mem_cons, List.not_mem_nil, or_false] at hp
    rcases hp with rfl | rfl
    · exact ⟨by decide +kernel, .inr rfl⟩
    · exact ⟨by decide +kernel, .inl rfl⟩
  · have k1' : k < 4 := k1
    have : k = 0 ∨ k = 1 ∨ k = 2 ∨ k = 3 := by omega
    rcases this with rfl | rfl | rfl | rfl
    · exact ⟨(2, -1), by simp, by decide +kernel⟩
    · exact ⟨(2, -1), by simp, by decide +kernel⟩
    · exact ⟨(2, -1), by simp, by decide +kernel⟩
    · exact ⟨(2, 1), by simp, by decide +kernel⟩
  · have hi' : i < 4 := hi
    have : i = 0 ∨ i = 1 ∨ i = 2 ∨ i = 3 := by omega
    rcases this with rfl | rfl | rfl | rfl <;> rcases hs with rfl | rfl <;> decide +kernel
theorem out_f4 : fewB [] [] [] = true := fB_t ⟨rfl, by simp, by simp, fun k k0 k1 => (by simp at k1; omega), fun i hi => (by simp at hi)⟩
theorem out_r1 : rightsB R0 [0] = false := rB_f fun R => by
  obtain ⟨z, hz, h1, h2⟩ := R.cov 3 (by decide) (by decide)
  rw [List.mem_singleton.mp hz] at h2
  exact absurd h2 (by decide +kernel)
theorem out_r2 : rightsB R0 [0, 2] = true := by
  refine rB_t ⟨by decide +kernel, by decide +kernel, fun z hz => ?_, fun k k0 k1 => ?_⟩
  · simp only [List.mem_cons, List.not_mem_nil, or_false] at hz
    rcases hz with rfl | rfl
    · intro j hj
      omega
    · intro j hj
      have : j = 0 ∨ j = 1 := by omega
      rcases this with rfl | rfl <;> decide +kernel
  · have k1' : k < 4 := k1
    have : k = 0 ∨ k = 1 ∨ k = 2 ∨ k = 3 := by omega
    rcases this with rfl | rfl | rfl | rfl
    · exact ⟨0, by simp, by decide +kernel⟩
    · exact ⟨0, by simp, by decide +kernel⟩
    · exact ⟨2, by simp, by decide +kernel⟩
    · exact ⟨2, by simp, by decide +kernel⟩
theorem out_r3 : rightsB [] [] = true := rB_t ⟨List.Pairwise.nil, by simp, by simp, fun k k0 k1 => (by simp at k1; omega)⟩
section
variable {K : PySem.W.Frag} {C : CS} {env : En} {te ta tb tc td : TE} {row ps : List (Int × Int)} {zs : List Int} {p s st z n : Int} {o : Option Int} {b : Bool} {i : Nat}
theorem ev_mkF (ha : EvE K ta env (rowD ps)) (hb : EvE K tb env (intsD zs)) : EvE K (tMake C.Fewest (sp_Fewest_init K C) [] E0 (tCons ta (tCons tb tNil))) env (fewD C ps zs) := ev_ob (dss := [rowL ps, intL zs]) (eo_mak2 ha hb)
theorem ev_mkR (ha : EvE K ta env (intsD zs)) : EvE K (tMake C.Rights (sp_Rights_init K C) [] E0 (tCons ta tNil)) env (rightD C zs) := ev_ob (dss := [intL zs]) (eo_mak1 ha)
theorem oC (he : EvE K te env (intsD zs)) (ha : EvE K ta env (rowD row)) (hb : EvE K tb env (prD (p, s))) (hc : EvE K tc env (.int st)) (hn : row.length ≤ 1000) (hs : Sd s) (hz : zs.length ≤ 5000) (e : chainB row p s st zs = b) :
    EvE K (tMeth C.Chain "shows" (sp_Chain_shows K C) [] E0 (tMake C.Chain (sp_Chain_init K C) [] E0 (tCons te tNil)) (tCons ta (tCons tb (tCons tc tNil)))) env (.bl b) := (ev_shC (ev_mkC he) ha hb hc hn hs hz).is (by rw [e])
theorem oS (he : EvE K te env (.int z)) (ha : EvE K ta env (rowD row)) (hb : EvE K tb env (prD (p, s))) (hc : EvE K tc env (.int st)) (hp : 0 ≤ p ∧ p < row.length) (hst : 0 ≤ st ∧ st < row.length) (hn : row.length ≤ 1000) (hs : Sd s) (e : standsB row p s st z = b) :
    EvE K (tMeth C.Stands "shows" (sp_Stands_shows K C) [] E0 (tMake C.Stands (sp_Stands_init K C) [] E0 (tCons te tNil)) (tCons ta (tCons tb (tCons tc tNil)))) env (.bl b) := (ev_shS (ev_mkS he) ha hb hc hp hst hn hs).is (by rw [e])
theorem oF (hb : EvE K tb env (rowD ps)) (hc : EvE K tc env (intsD zs)) (ha : EvE K ta env (rowD row)) (hn : row.length ≤ 1000) (hp : ps.length ≤ 3000) (hz : zs.length ≤ 3000) (e : fewB row ps zs = b) :
    EvE K (tMeth C.Fewest "shows" (sp_Fewest_shows K C) [] E0 (tMake C.Fewest (sp_Fewest_init K C) [] E0 (tCons tb (tCons tc tNil))) (tCons ta tNil)) env (.bl b) := (ev_shF (ev_mkF hb hc) ha hn hp hz).is (by rw [e])
theorem oR (hc : EvE K tc env (intsD zs)) (ha : EvE K ta env (rowD row)) (hn : row.length ≤ 1000) (hz : zs.length ≤ 3000) (e : rightsB row zs = b) :
    EvE K (tMeth C.Rights "shows" (sp_Rights_shows K C) [] E0 (tMake C.Rights (sp_Rights_init K C) [] E0 (tCons tc tNil)) (tCons ta tNil)) env (.bl b) := (ev_shR (ev_mkR hc) ha hn hz).is (by rw [e])
theorem oH (hb : EvE K tb env (.int n)) (hc : EvE K tc env (optD o)) (ha : EvE K ta env (rowD row)) (hd : EvE K td env (.int (i : Nat))) (hi : i < row.length) (hn : row.length ≤ 1000) (e : highB row i n o = b) :
    EvE K (tMeth C.Higher "shows" (sp_Higher_shows K C) [] E0 (tMake C.Higher (sp_Higher_init K C) [] E0 (tCons tb (tCons tc tNil))) (tCons ta (tCons td tNil))) env (.bl b) := (ev_showH (row := row) (i := i) (n := n) (o := o) (ev_makH (n := n) (o := o) (ea_cons hb (ea_cons hc ea_nil))) (ea_cons ha (ea_cons hd ea_nil)) hi hn).is (by rw [e])
theorem eI1 {a : Int} : EvE K (tLst (tCons (tC (.int a)) tNil)) env (intsD [a]) := ev_new (en_lst (ea_cons ev_int ea_nil))
theorem eI2 {a b : Int} : EvE K (tLst (tCons (tC (.int a)) (tCons (tC (.int b)) tNil))) env (intsD [a, b]) := ev_new (en_lst (ea_cons ev_int (ea_cons ev_int ea_nil)))
theorem eI3 {a b c : Int} : EvE K (tLst (tCons (tC (.int a)) (tCons (tC (.int b)) (tCons (tC (.int c)) tNil)))) env (intsD [a, b, c]) := ev_new (en_lst (ea_cons ev_int (ea_cons ev_int (ea_cons ev_int ea_nil))))
theorem eP {a b : Int} : EvE K (tTup (tCons (tC (.int a)) (tCons (tC (.int b)) tNil))) env (prD (a, b)) := ev_tup (ea_cons ev_int (ea_cons ev_int ea_nil))
theorem ePn {a b : Int} : EvE K (tTup (tCons (tC (.int a)) (tCons (tUn (rU fun i => .int (-i)) (tC (.int b))) tNil))) env (prD (a, -b)) := ev_tup (ea_cons ev_int (ea_cons (ev_neg ev_int) ea_nil))
theorem eR1 : EvE K (tLst (tCons (tTup (tCons (tC (.int 0)) (tCons (tC (.int 2)) tNil))) (tCons (tTup (tCons (tC (.int 2)) (tCons (tC (.int 2)) tNil))) (tCons (tTup (tCons (tC (.int 4)) (tCons (tC (.int 5)) tNil))) tNil)))) env (rowD R1) := ev_new (en_lst (ea_cons eP (ea_cons eP (ea_cons eP ea_nil))))
theorem eNil : EvE K (tLst tNil) env (.lst []) := ev_new (en_lst ea_nil)
theorem run_law_outright {ds : List Da} {d : Da} (h : P_law_outright ds d) : Run K (t_law_outright K C) (ent ds 4) (retD d) := by
  obtain ⟨rfl, rfl⟩ := h
  have s1 : Sd 1 := .inl rfl
  have s2 : Sd (-1) := .inr rfl
  have n0 : R0.length ≤ 1000 := by decide
  have n1 : R1.length ≤ 1000 := by decide
  refine run_seq (run_asgN (ds := rowL R0) (en_lst (ea_cons eP (ea_cons eP (ea_cons eP (ea_cons eP ea_nil))))) (run_fix (i := 0) rfl ?_))
  refine run_seq (run_asgN (ds := blL [false, false, false]) (en_lst (ea_cons (oC (row := R0) eI2 (ev_var rfl) eP ev_int n0 s1 (by decide) (by decide +kernel)) (ea_cons (oC (row := R0) eI3 (ev_var rfl) eP ev_int n0 s1 (by decide) (by decide +kernel)) (ea_cons (oC (row := R0) (zs := []) eNil (ev_var rfl) eP ev_int n0 s1 (by decide) (by decide +kernel)) ea_nil)))) (run_fix (i := 1) rfl ?_))
  refine run_seq (run_asgN (ds := blL [false, false, false, false, false, false]) (en_cat (ds := blL [false, false, false]) (es := blL [false, false, false]) (ev_var rfl) (ev_new (en_lst (ea_cons (oS (row := R0) ev_int (ev_var rfl) eP ev_int (by decide) (by decide) n0 s1 (by decide +kernel)) (ea_cons (oS (row := R0) ev_int (ev_var rfl) eP ev_int (by decide) (by decide) n0 s1 (by decide +kernel)) (ea_cons (oF (row := R0) (ps := [(2, 0)]) (ev_new (en_lst (ea_cons eP ea_nil))) eI1 (ev_var rfl) n0 (by decide) (by decide) out_f1) ea_nil))))) (by decide)) (run_fix (i := 1) rfl ?_))
  refine run_seq (run_asgN (ds := blL [false, false, false, false, false, false, false, false, false]) (en_cat (ds := blL [false, false, false, false, false, false]) (es := blL [false, false, false]) (ev_var rfl) (ev_new (en_lst (ea_cons (oR (row := R0) eI1 (ev_var rfl) n0 (by decide) out_r1) (ea_cons (oH (row := R0) (i := 0) (o := none) ev_int ev_non (ev_var rfl) ev_int (by decide) n0 (by decide +kernel)) (ea_cons (oH (row := R0) (i := 0) (o := some 3) ev_int ev_int (ev_var rfl) ev_int (by decide) n0 (by decide +kernel)) ea_nil))))) (by decide)) (run_fix (i := 1) rfl ?_))
  refine run_seq (run_asgN (ds := blL [false, false, false, false, false, false, false, false, false, false, false]) (en_cat (ds := blL [false, false, false, false, false, false, false, false, false]) (es := blL [false, false]) (ev_var rfl) (ev_new (en_lst (ea_cons (oF (row := R0) (ps := [(2, -1), (2, 1)]) (ev_new (en_lst (ea_cons ePn (ea_cons eP ea_nil)))) eI2 (ev_var rfl) n0 (by decide) (by decide) out_f2) (ea_cons (oC (row := R0) eI2 (ev_var rfl) eP ev_int n0 s1 (by decide) (by decide +kernel)) ea_nil)))) (by decide)) (run_fix (i := 1) rfl ?_))
  refine run_seq (run_asgN (ds := blL [false, false, false, false, false, false, false, false, false, false, false, false, false]) (en_cat (ds := blL [false, false, false, false, false, false, false, false, false, false, false]) (es := blL [false, false]) (ev_var rfl) (ev_new (en_lst (ea_cons (oC (row := R1) (zs := [0, -2, 2]) (ev_new (en_lst (ea_cons ev_int (ea_cons (ev_neg ev_int) (ea_cons ev_int ea_nil))))) eR1 eP ev_int n1 s1 (by decide) (by decide +kernel)) (ea_cons (oH (row := R0) (i := 2) (o := some 3) ev_int ev_int (ev_var rfl) ev_int (by decide) n0 (by decide +kernel)) ea_nil)))) (by decide)) (run_fix (i := 1) rfl ?_))
  refine run_seq (run_asgN (ds := blL [true, true]) (en_lst (ea_cons (oC (row := R1) eI3 eR1 ePn ev_int n1 s2 (by decide) (by decide +kernel)) (ea_cons (oS (row := R0) ev_int (ev_var rfl) eP ev_int (by decide) (by decide) n0 s1 (by decide +kernel)) ea_nil))) (run_fix (i := 2) rfl ?_))
  refine run_seq (run_asgN (ds := blL [true, true, true, true, true]) (en_cat (ds := blL [true, true]) (es := blL [true, true, true]) (ev_var rfl) (ev_new (en_lst (ea_cons (oF (row := R0) (ps := [(2, -1), (2, 1)]) (ev_new (en_lst (ea_cons ePn (ea_cons eP ea_nil)))) eI2 (ev_var rfl) n0 (by decide) (by decide) out_f3) (ea_cons (oR (row := R0) eI2 (ev_var rfl) n0 (by decide) out_r2) (ea_cons (oH (row := R0) (i := 0) (o := some 2) ev_int ev_int (ev_var rfl) ev_int (by decide) n0 (by decide +kernel)) ea_nil))))) (by decide)) (run_fix (i := 2) rfl ?_))
  refine run_seq (run_asgN (ds := blL [true, true, true, true, true, true, true, true]) (en_cat (ds := blL [true, true, true, true, true]) (es := blL [true, true, true]) (ev_var rfl) (ev_new (en_lst (ea_cons (oH (row := R0) (i := 2) (o := none) ev_int ev_non (ev_var rfl) ev_int (by decide) n0 (by decide +kernel)) (ea_cons (oF (row := []) (ps := []) (zs := []) eNil eNil eNil (by decide) (by decide) (by decide) out_f4) (ea_cons (oR (row := []) (zs := []) eNil eNil (by decide) (by decide) out_r3) ea_nil))))) (by decide)) (run_fix (i := 2) rfl ?_))
  refine run_ret (d := .bl (true && true)) (ev_andV (a := true) (b := true) ?_ fun _ => ?_) rfl
  · refine (ev_all (bs := ([false, false, false, false, false, false, false, false, false, false, false, false, false].filter fun _ => true).map fun b => decide (b = false)) (ev_new ?_)).is rfl
    exact (en_lc (us := [3]) Da.bl (fun _ => true) (fun b => Da.bl (decide (b = false))) [false, false, false, false, false, false, false, false, false, false, false, false, false] (wk_list (ev_var rfl)) (by simp) (by decide) fun b hb => ⟨_, tc_name, eb_yes, fun _ => ev_says (ev_var rfl) ev_bl⟩).is (by rw [List.map_map]; rfl)
  · refine (ev_all (bs := ([true, true, true, true, true, true, true, true].filter fun _ => true).map fun b => decide (b = true)) (ev_new ?_)).is rfl
    exact (en_lc (us := [3]) Da.bl (fun _ => true) (fun b => Da.bl (decide (b = true))) [true, true, true, true, true, true, true, true] (wk_list (ev_var rfl)) (by simp) (by decide) fun b hb => ⟨_, tc_name, eb_yes, fun _ => ev_says (ev_var rfl) ev_bl⟩).is (by rw [List.map_map]; rfl)
theorem len_law_outright {vs : List V} {H : Hp} {Q : VK} {E : XK} (h : sp_law_outright K C vs H Q E) : vs.length = 0 := len_P (m := 0) (fun ds d ⟨e, _⟩ => by rw [e]; rfl) h
theorem pure_law_outright {vs : List V} {H : Hp} {Q : VK} {E : XK} (h : sp_law_outright K C vs H Q E) : t_law_outright K C { nx := fun _ H' => Q .non H', rt := Q } (start ["_law_row_here", "_law_bad", "_law_good", "_law_said"] vs) H :=
  fnP_of 4 (fun ds d ⟨e, _⟩ => by rw [e]; rfl) (fun ds d p => run_law_outright p) h
end
end FR

/-! The sixth law. -/
namespace FR
open PySem L2 Evl
open PySem.Spec PyProof.Rows

/-! ### xs[j::c] -/
def pickA {α : Type} (xs : List α) (j c : Nat) : List α := (sliceRange (sliceBounds (some (j : Int)) none (some (c : Int)) xs.length).1 (sliceBounds (some (j : Int)) none (some (c : Int)) xs.length).2.1 (sliceBounds (some (j : Int)) none (some (c : Int)) xs.length).2.2).filterMap (xs[·]?)
def tSlStep (K : PySem.W.Frag) (te : TE) (tl tc : TO) : TE := fun σ H Q => te σ H fun x H1 => tl σ H1 fun l H2 => tc σ H2 fun o H3 => ∃ (a : Addr) (xs : List V), ∃ j c : Nat, x = .ref a ∧ SqL K H3 a xs ∧ l = some (j : Int) ∧ o = some (c : Int) ∧ 0 < c ∧ ∀ p, H3 p = none → Q (.ref p) (upd H3 p (.lst (pickA xs j c)))
theorem vals_none {xs : List V} {us : List Value} (h : Vals xs us) (i : Nat) : (xs[i]? = none ∧ us[i]? = none) ∨ ∃ x u, xs[i]? = some x ∧ us[i]? = some u ∧ RelV x u := by
  have hl := h.length
  by_cases hi : i < us.length
  · obtain ⟨y, e, r⟩ := vals_get h (i := i) (u := us[i]) (List.getElem?_eq_getElem hi)
    exact .inr ⟨y, us[i], e, List.getElem?_eq_getElem hi, r⟩
  · exact .inl ⟨List.getElem?_eq_none (by omega), List.getElem?_eq_none (by omega)⟩
theorem vals_pick {xs : List V} {us : List Value} (h : Vals xs us) : ∀ ix : List Nat, Vals (ix.filterMap (xs[·]?)) (ix.filterMap (us[·]?))
  | [] => .nil
  | i :: ix => by
    rcases vals_none h i with ⟨e1, e2⟩ | ⟨x, u, e1, e2, r⟩
    · rw [List.filterMap_cons_none e1, List.filterMap_cons_none e2]
      exact vals_pick h ix
    · rw [List.filterMap_cons_some e1, List.filterMap_cons_some e2]
      exact .cons r (vals_pick h ix)
theorem pe_sliceStep {X : Cx} {e st : Expr} {lo : Option Expr} {te : TE} {tl tc : TO} {p3 pos : Pos} (he : PE X e te) (hl : PO X lo tl) (hc : PO X (some st) tc) : PE X (.Subscript e (.Slice lo none (some st) p3) pos) (tSlStep X.K te tl tc) := by
  refine ⟨fun pins s σ H Q I h => ?_⟩
  refine Subscript_ (thn (he.run pins s σ H _ I h) fun v s1 ⟨x, H1, I1, r1, q1⟩ => ?_)
  refine wpAny_Slice (thn (hl.run pins s1 σ H1 _ I1 q1) fun vl s2 ⟨l, H2, I2, pl, q2⟩ => ?_)
  rw [evalPart_none]
  refine wpAny_pure ?_
  refine thn (hc.run pins s2 σ H2 _ I2 q2) fun vs s4 ⟨o, H4, I4, ps, q3⟩ => ?_
  obtain ⟨a, xs, j, c, ex, hx, ej, eo, hc0, q⟩ := q3
  subst ex ej eo
  cases r1
  have I5 : Inv X pins σ H4 { s4 with heap := s4.heap.push { cls := .type "slice", data := .fields #[vl, .none, vs] } } := I4.kept (t' := s4.toks) fun b ob q => Heap.get?_push_of_some _ q
  obtain ⟨its, r, ht, hz⟩ := I5.list hx
  have hlen := r.length
  show wpAny (model X.prog X.w) X.A (subscriptTail e (.Slice lo none (some st) p3) (.ref a) (.ref s4.heap.objs.size)) (EP X pins σ Q) X.xe { s4 with heap := s4.heap.push { cls := .type "slice", data := .fields #[vl, .none, vs] } }
  refine tail_any (ops := [.ref a, .ref s4.heap.objs.size]) ht.isList.typeIs (PySem.slot_list_getitem.lookup) ?_ (by with_unfolding_all rfl)
  refine wpAny_getItem_list_slice ht.isList (Heap.IsSliceOf.new _ vl .none vs) pl .none ps (fun z => by have := Option.some.inj z; omega) ?_ (by rw [List.size_toArray]; omega)
  have epk : slicePick its.toArray (some (j : Int)) none (some (c : Int)) = (pickA its j c).toArray := by
    unfold slicePick pickA
    simp
  have hsz := PySem.slicePick_size_le its.toArray (some (j : Int)) none (some (c : Int))
  rw [epk] at hsz ⊢
  have hv : Vals (pickA xs j c) (pickA its j c) := by
    unfold pickA
    rw [hlen]
    exact vals_pick r _
  refine ⟨.ref _, _, I5.laid (t' := s4.toks) (o := .lst (pickA xs j c)) (fun b ob q => Heap.get?_push_of_some _ q) (Nat.le_refl _) ?_, rfl, q _ (I5.hok.fresh (Nat.le_refl _))⟩
  refine ⟨?_, _, 0, hv, Heap.get?_push_size _ rfl⟩
  rw [hv.length]
  rw [List.size_toArray, List.size_toArray] at hsz
  omega
section
variable {K : PySem.W.Frag} {env : En} {te : TE} {ds : List Da}
theorem rp_pick {B : Hp} {ds : List Da} {xs : List V} (h : RpAll K B ds xs) : ∀ ix : List Nat, RpAll K B (ix.filterMap (ds[·]?)) (ix.filterMap (xs[·]?))
  | [] => .nil
  | i :: ix => by
    cases hx : xs[i]? with
    | none =>
      have hd : ds[i]? = none := by
        rw [List.getElem?_eq_none_iff] at hx ⊢
        rw [← h.len]
        exact hx
      rw [List.filterMap_cons_none hx, List.filterMap_cons_none hd]
      exact rp_pick h ix
    | some v =>
      obtain ⟨d, hd, rd⟩ := h.getV hx
      rw [List.filterMap_cons_some hx, List.filterMap_cons_some hd]
      exact .cons rd (rp_pick h ix)
theorem en_step {tl tc : TO} {j c : Nat} (h : EvE K te env (.sq ds)) (h1 : EvO K tl env (some (j : Int))) (h2 : EvO K tc env (some (c : Int))) (hc : 0 < c) : EvN K (tSlStep K te tl tc) env (pickA ds j c) := fun σ B s H1 e Q q =>
  h σ B s H1 e _ fun v B2 H2 g2 r2 => h1 σ B2 (s.mono g2.b) H2 g2.h _ fun H3 e3 => h2 σ B2 (s.mono g2.b) H3 (g2.h.trans e3) _ fun H4 e4 => by
    simp only [Rp] at r2
    obtain ⟨a, xs, rfl, h5, h6⟩ := r2
    have hp : RpAll K B2 (pickA ds j c) (pickA xs j c) := by
      unfold pickA
      rw [h6.len]
      exact rp_pick h6 _
    exact ⟨a, xs, j, c, rfl, ex_l e4 (ex_l e3 (ex_l g2.h h5)), rfl, rfl, hc, fun p hp' => q p _ B2 _ ((g2.trans (Gr.keep g2.h (e3.trans e4))).trans (Gr.put (g2.h.trans (e3.trans e4)) hp')) (fresh_back (g2.k.trans (e3.trans e4)) hp') (fresh_back (g2.h.trans (e3.trans e4)) hp') upd_same hp⟩
theorem pick_ints (ns : List Int) (j c : Nat) : pickA (intL ns) j c = intL (pickA ns j c) := by
  unfold pickA intL
  rw [List.length_map, List.map_filterMap]
  congr 1
  funext i
  rw [List.getElem?_map]
end
def P_law (ds : List Da) (d : Da) : Prop := ∃ ns, ds = [.sq (intL ns)] ∧ ns.length ≤ 63 ∧ d = .bl true
abbrev sp_law (K : PySem.W.Frag) (C : CS) : Sp := FnP K P_law
def t_law (K : PySem.W.Frag) (C : CS) : TS :=
  (tSeq (tAsg (tCall (sp_law_row K C) [] E0 (tCons (tVar 0) tNil)) (gName 1)) (tSeq (tIfS (tOr (tNot (tB (tCall (sp_law_outright K C) [] E0 tNil))) (tTest (tOp (rEqD K) (tVar 1) (tLst tNil)))) (tRet (tCall (sp_law_outright K C) [] E0 tNil)) tNext) (tSeq (tFor (iRng1 (tCons (tC (.int 3)) tNil)) (gName 2) (tSeq (tAsg (tCB (rSum K) (tCons (tSlStep K (tVar 0) (tPart (tVar 2)) (tPart (tC (.int 3)))) tNil)) (gName 3)) (tSeq (tPar 4 5 (tCons (tTup (tCons (tOp rModI (tVar 3) (tCB (rLenS K) (tCons (tVar 1) tNil))) (tCons (tOp (rIxT K) (tTup (tCons (tC (.int 1)) (tCons (tUn (rU fun i => .int (-i)) (tC (.int 1))) tNil))) (tOp rModI (tOp rDivI (tVar 3) (tC (.int 3))) (tC (.int 2)))) tNil))) (tCons (tOp rModI (tOp rDivI (tVar 3) (tC (.int 5))) (tCB (rLenS K) (tCons (tVar 1) tNil))) tNil))) (tSeq (tIfS (tNot (tB (tCall (sp_law_chains_right K C) [] E0 (tCons (tVar 1) (tCons (tVar 4) (tCons (tVar 5) (tCons (tVar 0) tNil))))))) (tRet (tC (.bl false))) tNext) (tFor (iList K (tLst (tCons (tOp rModI (tVar 3) (tC (.int 5))) (tCons (tOp rSubI (tOp rModI (tVar 3) (tC (.int 5))) (tC (.int 1))) (tCons (tOp rPowI (tC (.int 10)) (tC (.int 20))) tNil))))) (gName 6) (tSeq (tAsg (tCall (sp_law_higher K C) [] E0 (tCons (tVar 1) (tCons (tOp (rIxT K) (tVar 4) (tC (.int 0))) (tCons (tVar 6) (tCons (tVar 5) tNil))))) (gName 7)) (tIfS (tNot (tB (tCall (sp_law_says K C) [] E0 (tCons (tMeth C.Higher "shows" (sp_Higher_shows K C) [] E0 (tMake C.Higher (sp_Higher_init K C) [] E0 (tCons (tVar 6) (tCons (tVar 5) tNil))) (tCons (tVar 1) (tCons (tOp (rIxT K) (tVar 4) (tC (.int 0))) tNil))) (tCons (tVar 7) tNil))))) (tRet (tC (.bl false))) tNext))))))) (tRet (tCall (sp_law_few_right K C) [] E0 (tCons (tSl (rSlL K) (tVar 1) tNoPart (tPart (tC (.int 24)))) (tCons (tVar 0) tNil)))))))
theorem take_ok6 {row : List (Int × Int)} (ok : Okr row) (b : Nat) : Okr (row.take b) := take_ok ok b
section
variable {K : PySem.W.Frag} {C : CS}
theorem run_law (A : Fx6 K C) {ds : List Da} {d : Da} (h : P_law ds d) : Run K (t_law K C) (ent ds 7) (retD d) := by
  obtain ⟨ns, rfl, hn, rfl⟩ := h
  have ok := lrow_ok hn
  have hl : (lrow ns).length ≤ 63 := by
    rw [lrow_len]
    exact hn
  refine run_seq (run_asgN (ds := rowL (lrow ns)) (en_call (ds := [.sq (intL ns)]) (ea_cons (ev_var rfl) ea_nil) ⟨ns, rfl, hn, rfl⟩) (run_fix (i := 1) rfl ?_))
  generalize lrow ns = row at ok hl
  refine run_seq (run_if (b := !true || decide (row = [])) (eb_or (eb_not (eb_B (ev_call (ds := []) ea_nil ⟨rfl, rfl⟩))) fun _ => eb_test (ev_eqRow (ms := []) (ev_var rfl) (ev_new (en_lst ea_nil)))) (fun _ => run_ret (ev_call (ds := []) ea_nil ⟨rfl, rfl⟩) rfl) fun hb => run_next ?_)
  have hne : row ≠ [] := by simpa using hb
  have hpos : 0 < row.length := List.length_pos_iff.mpr hne
  have hmod : ∀ a : Int, 0 ≤ a % (row.length : Int) ∧ a % (row.length : Int) < row.length := fun a => ⟨Int.emod_nonneg _ (by omega), Int.emod_lt_of_pos _ (by omega)⟩
  refine run_seq (run_for (wk_rng1 ev_int (by omega)) (fun k e => ∃ y2 y3 y4 y5 y6 y7, e = [.im (.sq (intL ns)), .im (rowD row), y2, y3, y4, y5, y6, y7]) ⟨.no, .no, .no, .no, .no, .no, rfl⟩ ?_ ?_)
  · rintro k d e hd ⟨y2, y3, y4, y5, y6, y7, rfl⟩
    have hk : k < ((3 : Int) - 0).toNat := by
      have := (List.getElem?_eq_some_iff.mp hd).1
      rw [rngD_len] at this
      exact this
    rw [rngD_get hk] at hd
    obtain rfl : Da.int ((0 : Int) + (k : Nat)) = d := Option.some.inj hd
    rw [Int.zero_add]
    refine ⟨_, ts_name, ?_⟩
    refine run_seq (run_asg (d := .int (pickA ns k 3).sum) (ev_sumL (ev_new ((en_step (c := 3) (ev_var rfl) (eo_some (ev_var rfl)) (eo_some ev_int) (by decide)).is (pick_ints ns k 3)))) ?_)
    generalize (pickA ns k 3).sum = c
    obtain ⟨m0, m1⟩ := hmod c
    obtain ⟨m2, m3⟩ := hmod (c / 5)
    have ei : c % (row.length : Int) = (((c % (row.length : Int)).toNat : Nat) : Int) := by omega
    have hi : (c % (row.length : Int)).toNat < row.length := by omega
    generalize (c % (row.length : Int)).toNat = i at ei hi
    obtain ⟨s, hs, es⟩ : ∃ s, Sd s ∧ atI [Da.int 1, .int (-1)] (c / 3 % 2) = some (.int s) := by
      have : c / 3 % 2 = 0 ∨ c / 3 % 2 = 1 := by omega
      rcases this with e | e <;> rw [e]
      · exact ⟨1, .inl rfl, rfl⟩
      · exact ⟨-1, .inr rfl, rfl⟩
    refine run_seq (run_par (d := prD ((i : Int), s)) (d' := .int (c / 5 % (row.length : Int))) (ea_cons (ev_tup (ea_cons ((ev_mod (ev_var rfl) (ev_lenR (ev_var rfl)) (by omega)).is (congrArg Da.int ei)) (ea_cons (ev_ixT (ds := [.int 1, .int (-1)]) (i := c / 3 % 2) (ev_tup (ea_cons ev_int (ea_cons (ev_neg ev_int) ea_nil))) (ev_mod (ev_div (ev_var rfl) ev_int ⟨by decide, by decide⟩) ev_int (by decide)) es) ea_nil))) (ea_cons (ev_mod (ev_div (ev_var rfl) ev_int ⟨by decide, by decide⟩) (ev_lenR (ev_var rfl)) (by omega)) ea_nil)) ?_)
    generalize c / 5 % (row.length : Int) = st at m2 m3
    refine run_seq (run_if (b := !true) (eb_not (eb_B (ev_call (ds := [rowD row, prD ((i : Int), s), .int st, .sq (intL ns)]) (ea_cons (ev_var rfl) (ea_cons (ev_var rfl) (ea_cons (ev_var rfl) (ea_cons (ev_var rfl) ea_nil)))) ⟨row, i, s, st, ns, rfl, ⟨hi, ⟨m2, m3⟩, ok, hs, hn⟩, rfl⟩))) (fun z => by cases z) fun _ => run_next ?_)
    refine run_for (ds := intL [c % 5, c % 5 - 1, 10 ^ 20]) (wk_list (ev_new (en_lst (ea_cons (ev_mod (ev_var rfl) ev_int (by decide)) (ea_cons (ev_sub (ev_mod (ev_var rfl) ev_int (by decide)) ev_int) (ea_cons ((ev_pow ev_int ev_int ⟨by decide, by decide, by decide⟩).is rfl) ea_nil)))))) (fun m e => ∃ y6 y7, e = [.im (.sq (intL ns)), .im (rowD row), .im (.int (k : Nat)), .im (.int c), .im (prD ((i : Int), s)), .im (.int st), y6, y7]) ⟨y6, y7, rfl⟩ ?_ ?_
    · rintro m d e hd2 ⟨y6, y7, rfl⟩
      obtain ⟨n, hn2, rfl⟩ := intL_get hd2
      refine ⟨_, ts_name, ?_⟩
      refine run_seq (run_asg (d := .bl (highB row i n (some st))) (ev_lawH (row := row) (i := i) (n := n) (o := some st) (ea_cons (ev_var rfl) (ea_cons (ev_pr0 (p := ((i : Int), s)) (ev_var rfl)) (ea_cons (ev_var rfl) (ea_cons (ev_var rfl) ea_nil)))) hi (by omega)) ?_)
      refine run_if (b := !decide (highB row i n (some st) = highB row i n (some st))) (eb_not (eb_B (ev_says (ev_showH (row := row) (i := i) (n := n) (o := some st) (ev_makH (n := n) (o := some st) (ea_cons (ev_var rfl) (ea_cons (ev_var rfl) ea_nil))) (ea_cons (ev_var rfl) (ea_cons (ev_pr0 (p := ((i : Int), s)) (ev_var rfl)) ea_nil)) hi (by omega)) (ev_var rfl)))) (fun z => by simp at z) fun _ => run_next ⟨_, _, rfl⟩
    · rintro e ⟨y6, y7, rfl⟩
      exact ⟨_, _, _, _, _, _, rfl⟩
  · rintro e ⟨y2, y3, y4, y5, y6, y7, rfl⟩
    refine run_ret (ev_call (ds := [rowD (row.take 24), .sq (intL ns)]) (ea_cons (ev_new ((en_slL (ev_var rfl) eo_none (eo_some ev_int)).is (cutD_to prD row (z := 24) (by decide)))) (ea_cons (ev_var rfl) ea_nil)) ⟨row.take 24, ns, rfl, ⟨take_ok ok 24, hn⟩, rfl⟩) rfl
end
section
variable {K : PySem.W.Frag} {C : CS} {vs : List V} {H : Hp} {Q : VK} {E : XK}
theorem lenP_law {ds : List Da} {d : Da} (h : P_law ds d) : ds.length = 1 := by
  unfold P_law at h
  repeat (rcases h with ⟨z, h⟩; first | (subst z; rfl) | skip)
theorem len_law (h : sp_law K C vs H Q E) : vs.length = 1 := len_P (m := 1) (fun _ _ p => lenP_law p) h
theorem pure_law (A : Fx6 K C) (h : sp_law K C vs H Q E) : t_law K C { nx := fun _ H' => Q .non H', rt := Q } (start ["_law_script", "_law_row_here", "_law_at", "_law_cell", "_law_push", "_law_stone", "_law_number", "_law_due"] vs) H := fnP_of 7 (fun _ _ p => by rw [lenP_law p] <;> rfl) (fun _ _ p => run_law A p) h
end
end FR

namespace FR
open PySem L2 Evl
open PySem.Spec PyProof.Rows
def topS (i : Nat) : Stmt := PySem.Challenge.pw_fallrow_k06_answers_by_hand.main.body.getD i (.Pass ⟨0, 0, 0, 0⟩)
abbrev s_is_number : Stmt := topS 6
abbrev s_is_pair : Stmt := topS 7
abbrev s_check_row : Stmt := topS 8
abbrev s_check_stone : Stmt := topS 9
abbrev s_check_side : Stmt := topS 10
abbrev s_last_felled : Stmt := topS 11
abbrev s_felled_by : Stmt := topS 12
abbrev s_Chain_init : Stmt := inClass (topS 15) 0
abbrev s_Chain_shows : Stmt := inClass (topS 15) 1
abbrev s_Stands_init : Stmt := inClass (topS 16) 0
abbrev s_Stands_shows : Stmt := inClass (topS 16) 1
abbrev s_Fewest_init : Stmt := inClass (topS 17) 0
abbrev s_Fewest_shows : Stmt := inClass (topS 17) 1
abbrev s_Rights_init : Stmt := inClass (topS 18) 0
abbrev s_Rights_shows : Stmt := inClass (topS 18) 1
abbrev s_raised : Stmt := topS 19
abbrev s_Higher_init : Stmt := inClass (topS 20) 0
abbrev s_Higher_shows : Stmt := inClass (topS 20) 1
abbrev s_chain_to : Stmt := topS 22
abbrev s_reached : Stmt := topS 23
abbrev s_spans_of : Stmt := topS 24
abbrev s_fewest : Stmt := topS 25
abbrev s_rights : Stmt := topS 26
abbrev s_law_row : Stmt := topS 28
abbrev s_law_felled : Stmt := topS 29
abbrev s_law_chain : Stmt := topS 30
abbrev s_law_stands : Stmt := topS 31
abbrev s_law_few : Stmt := topS 32
abbrev s_law_rights : Stmt := topS 33
abbrev s_law_higher : Stmt := topS 34
abbrev s_law_says : Stmt := topS 35
abbrev s_law_bent : Stmt := topS 36
abbrev s_law_chains_right : Stmt := topS 37
abbrev s_law_few_right : Stmt := topS 38
abbrev s_law_outright : Stmt := topS 39
abbrev s_law : Stmt := topS 40
theorem sc_is_number : FnScope ["thing"] ["thing"] (defScope s_is_number) := ⟨rfl, rfl, rfl, by decide +kernel, rfl, by decide +kernel, by decide +kernel⟩
theorem sc_is_pair : FnScope ["thing"] ["thing"] (defScope s_is_pair) := ⟨rfl, rfl, rfl, by decide +kernel, rfl, by decide +kernel, by decide +kernel⟩
theorem sc_check_row : FnScope ["row", "stone", "at"] ["row"] (defScope s_check_row) := ⟨rfl, rfl, rfl, by decide +kernel, rfl, by decide +kernel, by decide +kernel⟩
theorem sc_check_stone : FnScope ["row", "stone"] ["row", "stone"] (defScope s_check_stone) := ⟨rfl, rfl, rfl, by decide +kernel, rfl, by decide +kernel, by decide +kernel⟩
theorem sc_check_side : FnScope ["side"] ["side"] (defScope s_check_side) := ⟨rfl, rfl, rfl, by decide +kernel, rfl, by decide +kernel, by decide +kernel⟩
theorem sc_last_felled : FnScope ["row", "stone", "side", "far", "last"] ["row", "stone", "side"] (defScope s_last_felled) := ⟨rfl, rfl, rfl, by decide +kernel, rfl, by decide +kernel, by decide +kernel⟩
theorem sc_felled_by : FnScope ["row", "stone", "side", "last"] ["row", "stone", "side"] (defScope s_felled_by) := ⟨rfl, rfl, rfl, by decide +kernel, rfl, by decide +kernel, by decide +kernel⟩
theorem sc_Chain_init : FnScope ["self", "stones"] ["self", "stones"] (defScope s_Chain_init) := ⟨rfl, rfl, rfl, by decide +kernel, rfl, by decide +kernel, by decide +kernel⟩
theorem sc_Chain_shows : FnScope ["self", "row", "push", "stone", "at", "place", "height", "one"] ["self", "row", "push", "stone"] (defScope s_Chain_shows) := ⟨rfl, rfl, rfl, by decide +kernel, rfl, by decide +kernel, by decide +kernel⟩
theorem sc_Stands_init : FnScope ["self", "place"] ["self", "place"] (defScope s_Stands_init) := ⟨rfl, rfl, rfl, by decide +kernel, rfl, by decide +kernel, by decide +kernel⟩
theorem sc_Stands_shows : FnScope ["self", "row", "push", "stone", "side", "start", "far", "place", "height"] ["self", "row", "push", "stone"] (defScope s_Stands_shows) := ⟨rfl, rfl, rfl, by decide +kernel, rfl, by decide +kernel, by decide +kernel⟩
theorem sc_Fewest_init : FnScope ["self", "pushes", "stones"] ["self", "pushes", "stones"] (defScope s_Fewest_init) := ⟨rfl, rfl, rfl, by decide +kernel, rfl, by decide +kernel, by decide +kernel⟩
theorem sc_Fewest_shows : FnScope ["self", "row", "many", "felled", "stone", "side", "one", "last", "low", "high"] ["self", "row"] (defScope s_Fewest_shows) := ⟨rfl, rfl, rfl, by decide +kernel, rfl, by decide +kernel, by decide +kernel⟩
theorem sc_Rights_init : FnScope ["self", "stones"] ["self", "stones"] (defScope s_Rights_init) := ⟨rfl, rfl, rfl, by decide +kernel, rfl, by decide +kernel, by decide +kernel⟩
theorem sc_Rights_shows : FnScope ["self", "row", "last", "felled", "stone", "place", "height"] ["self", "row"] (defScope s_Rights_shows) := ⟨rfl, rfl, rfl, by decide +kernel, rfl, by decide +kernel, by decide +kernel⟩
theorem sc_raised : FnScope ["row", "number", "place", "height"] ["row", "number"] (defScope s_raised) := ⟨rfl, rfl, rfl, by decide +kernel, rfl, by decide +kernel, by decide +kernel⟩
theorem sc_Higher_init : FnScope ["self", "number", "stone"] ["self", "number", "stone"] (defScope s_Higher_init) := ⟨rfl, rfl, rfl, by decide +kernel, rfl, by decide +kernel, by decide +kernel⟩
theorem sc_Higher_shows : FnScope ["self", "row", "stone"] ["self", "row", "stone"] (defScope s_Higher_shows) := ⟨rfl, rfl, rfl, by decide +kernel, rfl, by decide +kernel, by decide +kernel⟩
theorem sc_chain_to : FnScope ["row", "push", "stone", "side", "ahead", "best", "at", "found"] ["row", "push", "stone"] (defScope s_chain_to) := ⟨rfl, rfl, rfl, by decide +kernel, rfl, by decide +kernel, by decide +kernel⟩
theorem sc_reached : FnScope ["row", "push", "stone", "last", "far"] ["row", "push", "stone"] (defScope s_reached) := ⟨rfl, rfl, rfl, by decide +kernel, rfl, by decide +kernel, by decide +kernel⟩
theorem sc_spans_of : FnScope ["row", "found", "stone", "side", "last"] ["row"] (defScope s_spans_of) := ⟨rfl, rfl, rfl, by decide +kernel, rfl, by decide +kernel, by decide +kernel⟩
theorem sc_fewest : FnScope ["row", "spans", "pushes", "stones", "stone", "end", "push", "first", "last"] ["row"] (defScope s_fewest) := ⟨rfl, rfl, rfl, by decide +kernel, rfl, by decide +kernel, by decide +kernel⟩
theorem sc_rights : FnScope ["row", "found", "stone"] ["row"] (defScope s_rights) := ⟨rfl, rfl, rfl, by decide +kernel, rfl, by decide +kernel, by decide +kernel⟩
theorem sc_law_row : FnScope ["_law_script", "_law_code", "_law_apart", "_law_high", "_law_place", "_law_found", "_law_cell"] ["_law_script"] (defScope s_law_row) := ⟨rfl, rfl, rfl, by decide +kernel, rfl, by decide +kernel, by decide +kernel⟩
theorem sc_law_felled : FnScope ["_law_row_here", "_law_stone", "_law_side", "_law_reach", "_law_at", "_law_other", "_law_place", "_law_height"] ["_law_row_here", "_law_stone", "_law_side"] (defScope s_law_felled) := ⟨rfl, rfl, rfl, by decide +kernel, rfl, by decide +kernel, by decide +kernel⟩
theorem sc_law_chain : FnScope ["_law_row_here", "_law_push", "_law_stone", "_law_stones", "_law_one", "_law_other", "_law_place", "_law_height"] ["_law_row_here", "_law_push", "_law_stone", "_law_stones"] (defScope s_law_chain) := ⟨rfl, rfl, rfl, by decide +kernel, rfl, by decide +kernel, by decide +kernel⟩
theorem sc_law_stands : FnScope ["_law_row_here", "_law_push", "_law_stone", "_law_far", "_law_side", "_law_here", "_law_there", "_law_place", "_law_height"] ["_law_row_here", "_law_push", "_law_stone", "_law_far"] (defScope s_law_stands) := ⟨rfl, rfl, rfl, by decide +kernel, rfl, by decide +kernel, by decide +kernel⟩
theorem sc_law_few : FnScope ["_law_row_here", "_law_pushes", "_law_stones", "_law_many", "_law_met", "_law_stone", "_law_side", "_law_end", "_law_one"] ["_law_row_here", "_law_pushes", "_law_stones"] (defScope s_law_few) := ⟨rfl, rfl, rfl, by decide +kernel, rfl, by decide +kernel, by decide +kernel⟩
theorem sc_law_rights : FnScope ["_law_row_here", "_law_stones", "_law_met", "_law_stone", "_law_other", "_law_one", "_law_place", "_law_height"] ["_law_row_here", "_law_stones"] (defScope s_law_rights) := ⟨rfl, rfl, rfl, by decide +kernel, rfl, by decide +kernel, by decide +kernel⟩
theorem sc_law_higher : FnScope ["_law_row_here", "_law_stone", "_law_number", "_law_other", "_law_more", "_law_less", "_law_place", "_law_height"] ["_law_row_here", "_law_stone", "_law_number", "_law_other"] (defScope s_law_higher) := ⟨rfl, rfl, rfl, by decide +kernel, rfl, by decide +kernel, by decide +kernel⟩
theorem sc_law_says : FnScope ["_law_said", "_law_due"] ["_law_said", "_law_due"] (defScope s_law_says) := ⟨rfl, rfl, rfl, by decide +kernel, rfl, by decide +kernel, by decide +kernel⟩
theorem sc_law_bent : FnScope ["_law_some", "_law_script", "_law_found", "_law_cell", "_law_at"] ["_law_some", "_law_script"] (defScope s_law_bent) := ⟨rfl, rfl, rfl, by decide +kernel, rfl, by decide +kernel, by decide +kernel⟩
theorem sc_law_chains_right : FnScope ["_law_row_here", "_law_push", "_law_stone", "_law_script", "_law_end", "_law_chain_here", "_law_plain", "_law_some", "_law_handed", "_law_answer", "_law_due", "_law_reach", "_law_place"] ["_law_row_here", "_law_push", "_law_stone", "_law_script"] (defScope s_law_chains_right) := ⟨rfl, rfl, rfl, by decide +kernel, rfl, by decide +kernel, by decide +kernel⟩
theorem sc_law_few_right : FnScope ["_law_row_here", "_law_script", "_law_told", "_law_many", "_law_drawn", "_law_starts", "_law_some", "_law_pushes", "_law_stones", "_law_handed", "_law_answer", "_law_cell", "_law_stone"] ["_law_row_here", "_law_script"] (defScope s_law_few_right) := ⟨rfl, rfl, rfl, by decide +kernel, rfl, by decide +kernel, by decide +kernel⟩
theorem sc_law_outright : FnScope ["_law_row_here", "_law_bad", "_law_good", "_law_said"] [] (defScope s_law_outright) := ⟨rfl, rfl, rfl, by decide +kernel, rfl, by decide +kernel, by decide +kernel⟩
theorem sc_law : FnScope ["_law_script", "_law_row_here", "_law_at", "_law_cell", "_law_push", "_law_stone", "_law_number", "_law_due"] ["_law_script"] (defScope s_law) := ⟨rfl, rfl, rfl, by decide +kernel, rfl, by decide +kernel, by decide +kernel⟩
structure Txt (w : World) (K : PySem.W.Frag) (mg : Str → Option Value) (C : CS) : Prop where
  hw : w = C.w
  b_all : mg "all" = none
  b_any : mg "any" = none
  b_bool : mg "bool" = none
  b_int : mg "int" = none
  b_isinstance : mg "isinstance" = none
  b_len : mg "len" = none
  b_list : mg "list" = none
  b_max : mg "max" = none
  b_min : mg "min" = none
  b_range : mg "range" = none
  b_set : mg "set" = none
  b_sorted : mg "sorted" = none
  b_sum : mg "sum" = none
  b_tuple : mg "tuple" = none
  b_zip : mg "zip" = none
  g_Chain : mg "Chain" = some (.ref C.Chain)
  g_Fewest : mg "Fewest" = some (.ref C.Fewest)
  g_Higher : mg "Higher" = some (.ref C.Higher)
  g_Rights : mg "Rights" = some (.ref C.Rights)
  g_Stands : mg "Stands" = some (.ref C.Stands)
  f_Chain : Fx1 K C.Chain ["stones"]
  f_Stands : Fx1 K C.Stands ["place"]
  f_Fewest : Fx1 K C.Fewest ["pushes", "stones"]
  f_Rights : Fx1 K C.Rights ["stones"]
  f_Higher : Fx1 K C.Higher ["number", "stone"]
section
variable {P : Program} {w : World} {K : PySem.W.Frag} {mg : Str → Option Value} {base : Heap} {C : CS}
theorem ok_is_number {f : Addr} {fd : FuncData} (F : Fun K "is_number" "is_number" s_is_number f fd) (T : Txt w K mg C) : FnOk P w K mg base CX0 1 f fd ["thing"] (sp_is_number K C) := by
  obtain rfl := T.hw
  refine F.ok sc_is_number (fun vs H Q E h => len_is_number h) (fun cdv A outer s H vs Q E hr h => ⟨t_is_number K C, ?_, pure_is_number h⟩)
  exact (pss_one (ps_ret (pe_and (pe_callB call_isi (by rfl) T.b_isinstance (by decide +kernel) (pa_cons (pv 0) (pa_cons (pe_bltn (v := .ty "int") (by rfl) T.b_int (by decide +kernel) rfl) pa_nil))) (pe_one (pe_not (pe_callB call_isi (by rfl) T.b_isinstance (by decide +kernel) (pa_cons (pv 0) (pa_cons (pe_bltn (v := .ty "bool") (by rfl) T.b_bool (by decide +kernel) rfl) pa_nil))))))))
theorem ok_is_pair {f : Addr} {fd : FuncData} (F : Fun K "is_pair" "is_pair" s_is_pair f fd) (T : Txt w K mg C) (g_is_number : Cal P w K mg base CX0 1 "is_number" ["thing"] (sp_is_number K C)) : FnOk P w K mg base CX0 2 f fd ["thing"] (sp_is_pair K C) := by
  obtain rfl := T.hw
  refine F.ok sc_is_pair (fun vs H Q E h => len_is_pair h) (fun cdv A outer s H vs Q E hr h => ⟨t_is_pair K C, ?_, pure_is_pair h⟩)
  exact (pss_one (ps_ret (pe_and (pe_callB call_isi (by rfl) T.b_isinstance (by decide +kernel) (pa_cons (pv 0) (pa_cons (pe_bltn (v := .ty "tuple") (by rfl) T.b_tuple (by decide +kernel) rfl) pa_nil))) (pe_and (pe_cmpR op_eq (pe_callB call_len_seq (by rfl) T.b_len (by decide +kernel) (pa_cons (pv 0) pa_nil)) pe_int (nomark _)) (pe_and (pe_cal g_is_number (hr.mono (by decide)) (by rfl) pass0 (pa_cons (pe_ix ix_tup (pv 0) pe_int (fun _ _ => rfl)) pa_nil)) (pe_one (pe_cal g_is_number (hr.mono (by decide)) (by rfl) pass0 (pa_cons (pe_ix ix_tup (pv 0) pe_int (fun _ _ => rfl)) pa_nil))))))))
theorem ok_check_row {f : Addr} {fd : FuncData} (F : Fun K "check_row" "check_row" s_check_row f fd) (T : Txt w K mg C) (g_is_pair : Cal P w K mg base CX0 2 "is_pair" ["thing"] (sp_is_pair K C)) : FnOk P w K mg base CX0 3 f fd ["row"] (sp_check_row K C) := by
  obtain rfl := T.hw
  refine F.ok sc_check_row (fun vs H Q E h => len_check_row h) (fun cdv A outer s H vs Q E hr h => ⟨t_check_row K C, ?_, pure_check_row h⟩)
  exact (pss_cons (ps_if (PW.pt (pw_or (pt_not (pt_val (pe_callB call_isi (by rfl) T.b_isinstance (by decide +kernel) (pa_cons (pv 0) (pa_cons (pe_bltn (v := .ty "list") (by rfl) T.b_list (by decide +kernel) rfl) pa_nil))))) (pw_or1 (pt_not (pt_val (pe_callB (cr_all rfl) (by rfl) T.b_all (by decide +kernel) (pa_cons (pe_lc (own := [("stone", 1)]) (g := (gName 1)) (tt := tYes) (by rfl) sc_check_row.nd (pi_list (pv 0)) (blkOk_by (own := [("stone", 1)]) (N := ["row", "stone", "at"]) (sc := defScope s_check_row) (by decide +kernel)) (fun _ _ _ _ _ => (pg_name (i := 1) sc_check_row.nd rfl (.inl rfl))) (fun _ _ _ _ _ => pts_nil) (fun _ _ _ _ _ => (pe_and (pe_cal g_is_pair (hr.mono (by decide)) (by rfl) pass0 (pa_cons (pv 1) pa_nil)) (pe_one (pe_cmpR op_gt (pe_ix ix_tup (pv 1) pe_int (fun _ _ => rfl)) pe_int (nomark _)))))) pa_nil))))))) (pss_one ps_never) pss_nil) (pss_one (ps_if (pt_not (pt_val (pe_callB (cr_all rfl) (by rfl) T.b_all (by decide +kernel) (pa_cons (pe_lc (own := [("at", 2)]) (g := (gName 2)) (tt := tYes) (by rfl) sc_check_row.nd (pi_range2 rfl T.b_range (pa_cons pe_int (pa_cons (pe_callB call_len_seq (by rfl) T.b_len (by decide +kernel) (pa_cons (pv 0) pa_nil)) pa_nil))) (blkOk_by (own := [("at", 2)]) (N := ["row", "stone", "at"]) (sc := defScope s_check_row) (by decide +kernel)) (fun _ _ _ _ _ => (pg_name (i := 2) sc_check_row.nd rfl (.inl rfl))) (fun _ _ _ _ _ => pts_nil) (fun _ _ _ _ _ => (pe_cmpR op_lt (pe_ix ix_tup (pe_ix ix_list (pv 0) (pe_op op_sub (pv 2) pe_int) (fun _ _ => rfl)) pe_int (fun _ _ => rfl)) (pe_ix ix_tup (pe_ix ix_list (pv 0) (pv 2) (fun _ _ => rfl)) pe_int (fun _ _ => rfl)) (nomark _)))) pa_nil)))) (pss_one ps_never) pss_nil)))
theorem ok_check_stone {f : Addr} {fd : FuncData} (F : Fun K "check_stone" "check_stone" s_check_stone f fd) (T : Txt w K mg C) (g_is_number : Cal P w K mg base CX0 1 "is_number" ["thing"] (sp_is_number K C)) : FnOk P w K mg base CX0 2 f fd ["row", "stone"] (sp_check_stone K C) := by
  obtain rfl := T.hw
  refine F.ok sc_check_stone (fun vs H Q E h => len_check_stone h) (fun cdv A outer s H vs Q E hr h => ⟨t_check_stone K C, ?_, pure_check_stone h⟩)
  exact (pss_one (ps_if (PW.pt (pw_or (pt_not (pt_val (pe_cal g_is_number (hr.mono (by decide)) (by rfl) pass0 (pa_cons (pv 1) pa_nil)))) (pw_or1 (pt_not (pt_chain op_le op_lt pe_int (pv 1) (pe_callB call_len_seq (by rfl) T.b_len (by decide +kernel) (pa_cons (pv 0) pa_nil))))))) (pss_one ps_never) pss_nil))
theorem ok_check_side {f : Addr} {fd : FuncData} (F : Fun K "check_side" "check_side" s_check_side f fd) (T : Txt w K mg C) (g_is_number : Cal P w K mg base CX0 1 "is_number" ["thing"] (sp_is_number K C)) : FnOk P w K mg base CX0 2 f fd ["side"] (sp_check_side K C) := by
  obtain rfl := T.hw
  refine F.ok sc_check_side (fun vs H Q E h => len_check_side h) (fun cdv A outer s H vs Q E hr h => ⟨t_check_side K C, ?_, pure_check_side h⟩)
  exact (pss_one (ps_if (PW.pt (pw_or (pt_not (pt_val (pe_cal g_is_number (hr.mono (by decide)) (by rfl) pass0 (pa_cons (pv 0) pa_nil)))) (pw_or1 (pt_cmpR op_notIn_seq (pv 0) (pe_tup (pa_cons pe_int (pa_cons (pe_un un_neg pe_int) pa_nil))) (by rfl))))) (pss_one ps_never) pss_nil))
theorem ok_last_felled {f : Addr} {fd : FuncData} (F : Fun K "last_felled" "last_felled" s_last_felled f fd) (T : Txt w K mg C) : FnOk P w K mg base CX0 1 f fd ["row", "stone", "side"] (sp_last_felled K C) := by
  obtain rfl := T.hw
  refine F.ok sc_last_felled (fun vs H Q E h => len_last_felled h) (fun cdv A outer s H vs Q E hr h => ⟨t_last_felled K C, ?_, pure_last_felled h⟩)
  exact (pss_cons (ps_set (i := 3) sc_last_felled.nd rfl (.inl rfl) (pe_op op_add (pe_op op_mul (pv 2) (pe_ix ix_tup (pe_ix ix_list (pv 0) (pv 1) (fun _ _ => rfl)) pe_int (fun _ _ => rfl))) (pe_ix ix_tup (pe_ix ix_list (pv 0) (pv 1) (fun _ _ => rfl)) pe_int (fun _ _ => rfl)))) (pss_cons (ps_set (i := 4) sc_last_felled.nd rfl (.inl rfl) (pv 1)) (pss_cons (ps_while PassesOwn.never (PW.pt (pw_and (pt_chain op_le op_lt pe_int (pe_op op_add (pv 4) (pv 2)) (pe_callB call_len_seq (by rfl) T.b_len (by decide +kernel) (pa_cons (pv 0) pa_nil))) (pw_and1 (pt_cmpR op_le (pe_op op_mul (pv 2) (pe_ix ix_tup (pe_ix ix_list (pv 0) (pe_op op_add (pv 4) (pv 2)) (fun _ _ => rfl)) pe_int (fun _ _ => rfl))) (pv 3) (nomark _))))) (pss_cons (ps_aug (i := 4) sc_last_felled.nd rfl (.inl rfl) (pv 2) ip_add) (pss_one (ps_set (i := 3) sc_last_felled.nd rfl (.inl rfl) (pe_callB (call_max2 rfl) (by rfl) T.b_max (by decide +kernel) (pa_cons (pv 3) (pa_cons (pe_op op_add (pe_op op_mul (pv 2) (pe_ix ix_tup (pe_ix ix_list (pv 0) (pv 4) (fun _ _ => rfl)) pe_int (fun _ _ => rfl))) (pe_ix ix_tup (pe_ix ix_list (pv 0) (pv 4) (fun _ _ => rfl)) pe_int (fun _ _ => rfl))) pa_nil))))))) (pss_one (ps_ret (pe_tup (pa_cons (pv 4) (pa_cons (pv 3) pa_nil))))))))
theorem ok_felled_by {f : Addr} {fd : FuncData} (F : Fun K "felled_by" "felled_by" s_felled_by f fd) (T : Txt w K mg C) (g_last_felled : Cal P w K mg base CX0 1 "last_felled" ["row", "stone", "side"] (sp_last_felled K C)) : FnOk P w K mg base CX0 2 f fd ["row", "stone", "side"] (sp_felled_by K C) := by
  obtain rfl := T.hw
  refine F.ok sc_felled_by (fun vs H Q E h => len_felled_by h) (fun cdv A outer s H vs Q E hr h => ⟨t_felled_by K C, ?_, pure_felled_by h⟩)
  exact (pss_cons (ps_set (i := 3) sc_felled_by.nd rfl (.inl rfl) (pe_ix ix_tup (pe_cal g_last_felled (hr.mono (by decide)) (by rfl) pass0 (pa_cons (pv 0) (pa_cons (pv 1) (pa_cons (pv 2) pa_nil)))) pe_int (fun _ _ => rfl))) (pss_one (ps_ret (pe_listRg (by rfl) (by rfl) T.b_list (prg_2 (by rfl) T.b_range (pe_callB (call_min2 rfl) (by rfl) T.b_min (by decide +kernel) (pa_cons (pv 1) (pa_cons (pv 3) pa_nil))) (pe_op op_add (pe_callB (call_max2 rfl) (by rfl) T.b_max (by decide +kernel) (pa_cons (pv 1) (pa_cons (pv 3) pa_nil))) pe_int))))))
theorem ok_Chain_init {f : Addr} {fd : FuncData} (F : Fun K "__init__" "Chain.__init__" s_Chain_init f fd) (T : Txt w K mg C) : FnOk P w K mg base CX0 1 f fd ["self", "stones"] (sp_Chain_init K C) := by
  obtain rfl := T.hw
  refine F.ok sc_Chain_init (fun vs H Q E h => len_Chain_init h) (fun cdv A outer s H vs Q E hr h => ⟨t_Chain_init K C, ?_, pure_Chain_init T.f_Chain h⟩)
  exact (pss_one (ps_fld (pv 0) (pe_callTy call_list_of (by rfl) T.b_list (by decide +kernel) (pa_cons (pv 1) pa_nil)) rfl))
theorem ok_Chain_shows {f : Addr} {fd : FuncData} (F : Fun K "shows" "Chain.shows" s_Chain_shows f fd) (T : Txt w K mg C) : FnOk P w K mg base CX0 1 f fd ["self", "row", "push", "stone"] (sp_Chain_shows K C) := by
  obtain rfl := T.hw
  refine F.ok sc_Chain_shows (fun vs H Q E h => len_Chain_shows h) (fun cdv A outer s H vs Q E hr h => ⟨t_Chain_shows K C, ?_, pure_Chain_shows T.f_Chain h⟩)
  exact (pss_cons (ps_if (PW.pt (pw_or (pt_cmpR (op_eqD hr.units) (pe_fld (pv 0) rfl) (pe_lst pa_nil) (nomark _)) (pw_or (pt_cmpR op_ne (pe_ix ix_list (pe_fld (pv 0) rfl) pe_int (fun _ _ => rfl)) (pe_ix ix_tup (pv 2) pe_int (fun _ _ => rfl)) (nomark _)) (pw_or1 (pt_cmpR op_ne (pe_ix ix_list (pe_fld (pv 0) rfl) (pe_un un_neg pe_int) (fun _ _ => rfl)) (pv 3) (nomark _)))))) (pss_one (ps_ret pe_bl)) pss_nil) (pss_cons (ps_if (pt_not (pt_val (pe_callB (cr_all rfl) (by rfl) T.b_all (by decide +kernel) (pa_cons (pe_lc (own := [("one", 7)]) (g := (gName 7)) (tt := tYes) (by rfl) sc_Chain_shows.nd (pi_list (pe_fld (pv 0) rfl)) (blkOk_by (own := [("one", 7)]) (N := ["self", "row", "push", "stone", "at", "place", "height", "one"]) (sc := defScope s_Chain_shows) (by decide +kernel)) (fun _ _ _ _ _ => (pg_name (i := 7) sc_Chain_shows.nd rfl (.inl rfl))) (fun _ _ _ _ _ => pts_nil) (fun _ _ _ _ _ => (pe_chain op_le op_lt pe_int (pv 7) (pe_callB call_len_seq (by rfl) T.b_len (by decide +kernel) (pa_cons (pv 1) pa_nil))))) pa_nil)))) (pss_one (ps_ret pe_bl)) pss_nil) (pss_cons (ps_for PassesOwn.never rfl (pi_range2 rfl T.b_range (pa_cons pe_int (pa_cons (pe_callB call_len_seq (by rfl) T.b_len (by decide +kernel) (pa_cons (pe_fld (pv 0) rfl) pa_nil)) pa_nil))) (pg_name (i := 4) sc_Chain_shows.nd rfl (.inl rfl)) (pss_cons (ps_asg (pe_ix ix_list (pv 1) (pe_ix ix_list (pe_fld (pv 0) rfl) (pe_op op_sub (pv 4) pe_int) (fun _ _ => rfl)) (fun _ _ => rfl)) (pg_tup rfl (pgs_cons (pg_name (i := 5) sc_Chain_shows.nd rfl (.inl rfl)) (pgs_cons (pg_name (i := 6) sc_Chain_shows.nd rfl (.inl rfl)) pgs_nil)))) (pss_one (ps_if (pt_not (pt_chain op_lt op_le pe_int (pe_op op_mul (pe_ix ix_tup (pv 2) pe_int (fun _ _ => rfl)) (pe_op op_sub (pe_ix ix_tup (pe_ix ix_list (pv 1) (pe_ix ix_list (pe_fld (pv 0) rfl) (pv 4) (fun _ _ => rfl)) (fun _ _ => rfl)) pe_int (fun _ _ => rfl)) (pv 5))) (pv 6))) (pss_one (ps_ret pe_bl)) pss_nil)))) (pss_one (ps_ret pe_bl)))))
theorem ok_Stands_init {f : Addr} {fd : FuncData} (F : Fun K "__init__" "Stands.__init__" s_Stands_init f fd) (T : Txt w K mg C) : FnOk P w K mg base CX0 1 f fd ["self", "place"] (sp_Stands_init K C) := by
  obtain rfl := T.hw
  refine F.ok sc_Stands_init (fun vs H Q E h => len_Stands_init h) (fun cdv A outer s H vs Q E hr h => ⟨t_Stands_init K C, ?_, pure_Stands_init T.f_Stands h⟩)
  exact (pss_one (ps_fld (pv 0) (pv 1) rfl))
theorem ok_Stands_shows {f : Addr} {fd : FuncData} (F : Fun K "shows" "Stands.shows" s_Stands_shows f fd) (T : Txt w K mg C) : FnOk P w K mg base CX0 1 f fd ["self", "row", "push", "stone"] (sp_Stands_shows K C) := by
  obtain rfl := T.hw
  refine F.ok sc_Stands_shows (fun vs H Q E h => len_Stands_shows h) (fun cdv A outer s H vs Q E hr h => ⟨t_Stands_shows K C, ?_, pure_Stands_shows T.f_Stands h⟩)
  exact (pss_cons (ps_set (i := 4) sc_Stands_shows.nd rfl (.inr rfl) (pe_ix ix_tup (pv 2) pe_int (fun _ _ => rfl))) (pss_cons (ps_asg (pe_tup (pa_cons (pe_op op_mul (pv 4) (pe_ix ix_tup (pe_ix ix_list (pv 1) (pe_ix ix_tup (pv 2) pe_int (fun _ _ => rfl)) (fun _ _ => rfl)) pe_int (fun _ _ => rfl))) (pa_cons (pe_op op_mul (pv 4) (pe_fld (pv 0) rfl)) pa_nil))) (pg_tup rfl (pgs_cons (pg_name (i := 5) sc_Stands_shows.nd rfl (.inr rfl)) (pgs_cons (pg_name (i := 6) sc_Stands_shows.nd rfl (.inr rfl)) pgs_nil)))) (pss_cons (ps_if (PW.pt (pw_or (pt_cmpR op_gt (pv 5) (pv 6) (nomark _)) (pw_or1 (pt_chain op_le op_le (pv 5) (pe_op op_mul (pv 4) (pe_ix ix_tup (pe_ix ix_list (pv 1) (pv 3) (fun _ _ => rfl)) pe_int (fun _ _ => rfl))) (pv 6))))) (pss_one (ps_ret pe_bl)) pss_nil) (pss_one (ps_ret (pe_not (pe_callB (cr_any rfl) (by rfl) T.b_any (by decide +kernel) (pa_cons (pe_lc (own := [("place", 7), ("height", 8)]) (g := (gTup K 2 (gCons (gName 7) (gCons (gName 8) gNil)))) (tt := tYes) (by rfl) sc_Stands_shows.nd (pi_list (pv 1)) (blkOk_by (own := [("place", 7), ("height", 8)]) (N := ["self", "row", "push", "stone", "side", "start", "far", "place", "height"]) (sc := defScope s_Stands_shows) (by decide +kernel)) (fun _ _ _ _ _ => (pg_tup rfl (pgs_cons (pg_name (i := 7) sc_Stands_shows.nd rfl (.inl rfl)) (pgs_cons (pg_name (i := 8) sc_Stands_shows.nd rfl (.inl rfl)) pgs_nil)))) (fun _ _ _ _ _ => pts_nil) (fun _ _ _ _ _ => (pe_chain3 op_le op_le op_lt (pv 5) (pe_op op_mul (pv 4) (pv 7)) (pv 6) (pe_op op_add (pe_op op_mul (pv 4) (pv 7)) (pv 8))))) pa_nil))))))))
theorem ok_Fewest_init {f : Addr} {fd : FuncData} (F : Fun K "__init__" "Fewest.__init__" s_Fewest_init f fd) (T : Txt w K mg C) : FnOk P w K mg base CX0 1 f fd ["self", "pushes", "stones"] (sp_Fewest_init K C) := by
  obtain rfl := T.hw
  refine F.ok sc_Fewest_init (fun vs H Q E h => len_Fewest_init h) (fun cdv A outer s H vs Q E hr h => ⟨t_Fewest_init K C, ?_, pure_Fewest_init T.f_Fewest h⟩)
  exact (pss_cons (ps_fld (pv 0) (pe_callTy call_list_of (by rfl) T.b_list (by decide +kernel) (pa_cons (pv 1) pa_nil)) rfl) (pss_one (ps_fld (pv 0) (pe_callTy call_list_of (by rfl) T.b_list (by decide +kernel) (pa_cons (pv 2) pa_nil)) rfl)))
theorem ok_Fewest_shows {f : Addr} {fd : FuncData} (F : Fun K "shows" "Fewest.shows" s_Fewest_shows f fd) (T : Txt w K mg C) (g_felled_by : Cal P w K mg base CX0 2 "felled_by" ["row", "stone", "side"] (sp_felled_by K C)) (g_last_felled : Cal P w K mg base CX0 1 "last_felled" ["row", "stone", "side"] (sp_last_felled K C)) : FnOk P w K mg base CX0 3 f fd ["self", "row"] (sp_Fewest_shows K C) := by
  obtain rfl := T.hw
  refine F.ok sc_Fewest_shows (fun vs H Q E h => len_Fewest_shows h) (fun cdv A outer s H vs Q E hr h => ⟨t_Fewest_shows K C, ?_, pure_Fewest_shows T.f_Fewest h⟩)
  exact (pss_cons (ps_set (i := 2) sc_Fewest_shows.nd rfl (.inr rfl) (pe_callB call_len_seq (by rfl) T.b_len (by decide +kernel) (pa_cons (pv 1) pa_nil))) (pss_cons (ps_if (PW.pt (pw_or (pt_cmpR op_ne (pe_callB call_len_seq (by rfl) T.b_len (by decide +kernel) (pa_cons (pe_fld (pv 0) rfl) pa_nil)) (pe_callB call_len_seq (by rfl) T.b_len (by decide +kernel) (pa_cons (pe_fld (pv 0) rfl) pa_nil)) (nomark _)) (pw_or1 (pt_not (pt_val (pe_callB (cr_all rfl) (by rfl) T.b_all (by decide +kernel) (pa_cons (pe_lc (own := [("stone", 4)]) (g := (gName 4)) (tt := tYes) (by rfl) sc_Fewest_shows.nd (pi_list (pe_fld (pv 0) rfl)) (blkOk_by (own := [("stone", 4)]) (N := ["self", "row", "many", "felled", "stone", "side", "one", "last", "low", "high"]) (sc := defScope s_Fewest_shows) (by decide +kernel)) (fun _ _ _ _ _ => (pg_name (i := 4) sc_Fewest_shows.nd rfl (.inl rfl))) (fun _ _ _ _ _ => pts_nil) (fun _ _ _ _ _ => (pe_chain op_le op_lt pe_int (pv 4) (pv 2)))) pa_nil))))))) (pss_one (ps_ret pe_bl)) pss_nil) (pss_cons (ps_set (i := 3) sc_Fewest_shows.nd rfl (.inl rfl) pe_dnewK) (pss_cons (ps_for PassesOwn.never rfl (pi_list (pe_fld (pv 0) rfl)) (pg_tup rfl (pgs_cons (pg_name (i := 4) sc_Fewest_shows.nd rfl (.inl rfl)) (pgs_cons (pg_name (i := 5) sc_Fewest_shows.nd rfl (.inl rfl)) pgs_nil))) (pss_cons (ps_if (PW.pt (pw_or (pt_not (pt_chain op_le op_lt pe_int (pv 4) (pv 2))) (pw_or1 (pt_cmpR op_notIn_seq (pv 5) (pe_tup (pa_cons pe_int (pa_cons (pe_un un_neg pe_int) pa_nil))) (by rfl))))) (pss_one (ps_ret pe_bl)) pss_nil) (pss_one (ps_for PassesOwn.never rfl (pi_list (pe_cal g_felled_by (hr.mono (by decide)) (by rfl) pass0 (pa_cons (pv 1) (pa_cons (pv 4) (pa_cons (pv 5) pa_nil))))) (pg_name (i := 6) sc_Fewest_shows.nd rfl (.inl rfl)) (pss_one (ps_dput (hu_of hr) (pv 3) (pv 6) pe_bl rfl)))))) (pss_cons (ps_if (pt_cmpR op_lt (pe_callB call_lenD (by rfl) T.b_len (by decide +kernel) (pa_cons (pv 3) pa_nil)) (pv 2) (nomark _)) (pss_one (ps_ret pe_bl)) pss_nil) (pss_cons (ps_for PassesOwn.never rfl (pi_range1 rfl T.b_range (pa_cons (pv 2) pa_nil)) (pg_name (i := 4) sc_Fewest_shows.nd rfl (.inl rfl)) (pss_one (ps_for PassesOwn.never rfl (pi_tup (pe_tup (pa_cons pe_int (pa_cons (pe_un un_neg pe_int) pa_nil)))) (pg_name (i := 5) sc_Fewest_shows.nd rfl (.inl rfl)) (pss_cons (ps_set (i := 7) sc_Fewest_shows.nd rfl (.inl rfl) (pe_ix ix_tup (pe_cal g_last_felled (hr.mono (by decide)) (by rfl) pass0 (pa_cons (pv 1) (pa_cons (pv 4) (pa_cons (pv 5) pa_nil)))) pe_int (fun _ _ => rfl))) (pss_cons (ps_asg (pe_tup (pa_cons (pe_callB (call_min2 rfl) (by rfl) T.b_min (by decide +kernel) (pa_cons (pv 4) (pa_cons (pv 7) pa_nil))) (pa_cons (pe_callB (call_max2 rfl) (by rfl) T.b_max (by decide +kernel) (pa_cons (pv 4) (pa_cons (pv 7) pa_nil))) pa_nil))) (pg_tup rfl (pgs_cons (pg_name (i := 8) sc_Fewest_shows.nd rfl (.inr rfl)) (pgs_cons (pg_name (i := 9) sc_Fewest_shows.nd rfl (.inr rfl)) pgs_nil)))) (pss_one (ps_if (pt_cmpR op_gt (pe_callB call_len_seq (by rfl) T.b_len (by decide +kernel) (pa_cons (pe_lc (own := [("one", 6)]) (g := (gName 6)) (tt := (tTest (tChain rLeI rLeI (tVar 8) (tVar 6) (tVar 9)))) (by rfl) sc_Fewest_shows.nd (pi_list (pe_fld (pv 0) rfl)) (blkOk_by (own := [("one", 6)]) (N := ["self", "row", "many", "felled", "stone", "side", "one", "last", "low", "high"]) (sc := defScope s_Fewest_shows) (by decide +kernel)) (fun _ _ _ _ _ => (pg_name (i := 6) sc_Fewest_shows.nd rfl (.inl rfl))) (fun _ _ _ _ _ => (pts_one (pt_chain op_le op_le (pv 8) (pv 6) (pv 9)))) (fun _ _ _ _ _ => (pv 6))) pa_nil)) pe_int (nomark _)) (pss_one (ps_ret pe_bl)) pss_nil))))))) (pss_one (ps_ret pe_bl))))))))
theorem ok_Rights_init {f : Addr} {fd : FuncData} (F : Fun K "__init__" "Rights.__init__" s_Rights_init f fd) (T : Txt w K mg C) : FnOk P w K mg base CX0 1 f fd ["self", "stones"] (sp_Rights_init K C) := by
  obtain rfl := T.hw
  refine F.ok sc_Rights_init (fun vs H Q E h => len_Rights_init h) (fun cdv A outer s H vs Q E hr h => ⟨t_Rights_init K C, ?_, pure_Rights_init T.f_Rights h⟩)
  exact (pss_one (ps_fld (pv 0) (pe_callTy call_list_of (by rfl) T.b_list (by decide +kernel) (pa_cons (pv 1) pa_nil)) rfl))
theorem ok_Rights_shows {f : Addr} {fd : FuncData} (F : Fun K "shows" "Rights.shows" s_Rights_shows f fd) (T : Txt w K mg C) (g_last_felled : Cal P w K mg base CX0 1 "last_felled" ["row", "stone", "side"] (sp_last_felled K C)) : FnOk P w K mg base CX0 2 f fd ["self", "row"] (sp_Rights_shows K C) := by
  obtain rfl := T.hw
  refine F.ok sc_Rights_shows (fun vs H Q E h => len_Rights_shows h) (fun cdv A outer s H vs Q E hr h => ⟨t_Rights_shows K C, ?_, pure_Rights_shows T.f_Rights h⟩)
  exact (pss_cons (ps_set (i := 2) sc_Rights_shows.nd rfl (.inl rfl) (pe_un un_neg pe_int)) (pss_cons (ps_set (i := 3) sc_Rights_shows.nd rfl (.inl rfl) (pe_un un_neg pe_int)) (pss_cons (ps_for PassesOwn.never rfl (pi_list (pe_fld (pv 0) rfl)) (pg_name (i := 4) sc_Rights_shows.nd rfl (.inr rfl)) (pss_cons (ps_if (PW.pt (pw_or (pt_not (pt_chain op_lt op_lt (pv 2) (pv 4) (pe_callB call_len_seq (by rfl) T.b_len (by decide +kernel) (pa_cons (pv 1) pa_nil)))) (pw_or1 (pt_cmpR op_gt (pv 4) (pe_op op_add (pv 3) pe_int) (nomark _))))) (pss_one (ps_ret pe_bl)) pss_nil) (pss_cons (ps_if (pt_val (pe_callB (cr_any rfl) (by rfl) T.b_any (by decide +kernel) (pa_cons (pe_lc (own := [("place", 5), ("height", 6)]) (g := (gTup K 2 (gCons (gName 5) (gCons (gName 6) gNil)))) (tt := tYes) (by rfl) sc_Rights_shows.nd (pi_list (pe_slice sl_list (pv 1) po_none (po_some (pv 4)))) (blkOk_by (own := [("place", 5), ("height", 6)]) (N := ["self", "row", "last", "felled", "stone", "place", "height"]) (sc := defScope s_Rights_shows) (by decide +kernel)) (fun _ _ _ _ _ => (pg_tup rfl (pgs_cons (pg_name (i := 5) sc_Rights_shows.nd rfl (.inl rfl)) (pgs_cons (pg_name (i := 6) sc_Rights_shows.nd rfl (.inl rfl)) pgs_nil)))) (fun _ _ _ _ _ => pts_nil) (fun _ _ _ _ _ => (pe_cmpR op_ge (pe_op op_add (pv 5) (pv 6)) (pe_ix ix_tup (pe_ix ix_list (pv 1) (pv 4) (fun _ _ => rfl)) pe_int (fun _ _ => rfl)) (nomark _)))) pa_nil))) (pss_one (ps_ret pe_bl)) pss_nil) (pss_cons (ps_set (i := 2) sc_Rights_shows.nd rfl (.inl rfl) (pv 4)) (pss_one (ps_set (i := 3) sc_Rights_shows.nd rfl (.inl rfl) (pe_callB (call_max2 rfl) (by rfl) T.b_max (by decide +kernel) (pa_cons (pv 3) (pa_cons (pe_ix ix_tup (pe_cal g_last_felled (hr.mono (by decide)) (by rfl) pass0 (pa_cons (pv 1) (pa_cons (pv 4) (pa_cons pe_int pa_nil)))) pe_int (fun _ _ => rfl)) pa_nil))))))))) (pss_one (ps_ret (pe_cmpR op_eq (pv 3) (pe_op op_sub (pe_callB call_len_seq (by rfl) T.b_len (by decide +kernel) (pa_cons (pv 1) pa_nil)) pe_int) (nomark _)))))))
theorem ok_raised {f : Addr} {fd : FuncData} (F : Fun K "raised" "raised" s_raised f fd) (T : Txt w K mg C) : FnOk P w K mg base CX0 1 f fd ["row", "number"] (sp_raised K C) := by
  obtain rfl := T.hw
  refine F.ok sc_raised (fun vs H Q E h => len_raised h) (fun cdv A outer s H vs Q E hr h => ⟨t_raised K C, ?_, pure_raised h⟩)
  exact (pss_one (ps_ret (pe_lc (own := [("place", 2), ("height", 3)]) (g := (gTup K 2 (gCons (gName 2) (gCons (gName 3) gNil)))) (tt := tYes) (by rfl) sc_raised.nd (pi_list (pv 0)) (blkOk_by (own := [("place", 2), ("height", 3)]) (N := ["row", "number", "place", "height"]) (sc := defScope s_raised) (by decide +kernel)) (fun _ _ _ _ _ => (pg_tup rfl (pgs_cons (pg_name (i := 2) sc_raised.nd rfl (.inl rfl)) (pgs_cons (pg_name (i := 3) sc_raised.nd rfl (.inl rfl)) pgs_nil)))) (fun _ _ _ _ _ => pts_nil) (fun _ _ _ _ _ => (pe_tup (pa_cons (pv 2) (pa_cons (pe_op op_add (pv 3) (pv 1)) pa_nil)))))))
theorem ok_Higher_init {f : Addr} {fd : FuncData} (F : Fun K "__init__" "Higher.__init__" s_Higher_init f fd) (T : Txt w K mg C) : FnOk P w K mg base CX0 1 f fd ["self", "number", "stone"] (sp_Higher_init K C) := by
  obtain rfl := T.hw
  refine F.ok sc_Higher_init (fun vs H Q E h => len_Higher_init h) (fun cdv A outer s H vs Q E hr h => ⟨t_Higher_init K C, ?_, pure_Higher_init T.f_Higher h⟩)
  exact (pss_cons (ps_fld (pv 0) (pv 1) rfl) (pss_one (ps_fld (pv 0) (pv 2) rfl)))
theorem ok_Higher_shows {f : Addr} {fd : FuncData} (F : Fun K "shows" "Higher.shows" s_Higher_shows f fd) (T : Txt w K mg C) (g_last_felled : Cal P w K mg base CX0 1 "last_felled" ["row", "stone", "side"] (sp_last_felled K C)) (g_raised : Cal P w K mg base CX0 1 "raised" ["row", "number"] (sp_raised K C)) : FnOk P w K mg base CX0 2 f fd ["self", "row", "stone"] (sp_Higher_shows K C) := by
  obtain rfl := T.hw
  refine F.ok sc_Higher_shows (fun vs H Q E h => len_Higher_shows h) (fun cdv A outer s H vs Q E hr h => ⟨t_Higher_shows K C, ?_, pure_Higher_shows T.f_Higher h⟩)
  exact (pss_cons (ps_if (PW.pt (pw_or (pt_cmpR op_lt (pe_fld (pv 0) rfl) pe_int (nomark _)) (pw_or1 (pt_cmpR op_lt (pe_ix ix_tup (pe_cal g_last_felled (hr.mono (by decide)) (by rfl) pass0 (pa_cons (pe_cal g_raised (hr.mono (by decide)) (by rfl) pass0 (pa_cons (pv 1) (pa_cons (pe_fld (pv 0) rfl) pa_nil))) (pa_cons (pv 2) (pa_cons pe_int pa_nil)))) pe_int (fun _ _ => rfl)) (pe_op op_sub (pe_callB call_len_seq (by rfl) T.b_len (by decide +kernel) (pa_cons (pv 1) pa_nil)) pe_int) (nomark _))))) (pss_one (ps_ret pe_bl)) pss_nil) (pss_cons (ps_if (PW.pt (pw_or (pt_cmpR op_eq (pe_fld (pv 0) rfl) pe_int (nomark _)) (pw_or1 (pt_cmpR op_isN1 (pe_fld (pv 0) rfl) pe_non (nomark _))))) (pss_one (ps_ret (pe_and (pe_cmpR op_eq (pe_fld (pv 0) rfl) pe_int (nomark _)) (pe_one (pe_cmpR op_isN1 (pe_fld (pv 0) rfl) pe_non (nomark _)))))) pss_nil) (pss_cons (ps_if (pt_not (pt_chain op_lt op_lt (pv 2) (pe_fld (pv 0) rfl) (pe_callB call_len_seq (by rfl) T.b_len (by decide +kernel) (pa_cons (pv 1) pa_nil)))) (pss_one (ps_ret pe_bl)) pss_nil) (pss_one (ps_ret (pe_cmpR op_lt (pe_ix ix_tup (pe_cal g_last_felled (hr.mono (by decide)) (by rfl) pass0 (pa_cons (pe_cal g_raised (hr.mono (by decide)) (by rfl) pass0 (pa_cons (pv 1) (pa_cons (pe_op op_sub (pe_fld (pv 0) rfl) pe_int) pa_nil))) (pa_cons (pv 2) (pa_cons pe_int pa_nil)))) pe_int (fun _ _ => rfl)) (pe_fld (pv 0) rfl) (nomark _)))))))
theorem ok_chain_to {f : Addr} {fd : FuncData} (F : Fun K "chain_to" "chain_to" s_chain_to f fd) (T : Txt w K mg C) : FnOk P w K mg base CX0 1 f fd ["row", "push", "stone"] (sp_chain_to K C) := by
  obtain rfl := T.hw
  refine F.ok sc_chain_to (fun vs H Q E h => len_chain_to h) (fun cdv A outer s H vs Q E hr h => ⟨t_chain_to K C, ?_, pure_chain_to h⟩)
  exact (pss_cons (ps_set (i := 3) sc_chain_to.nd rfl (.inl rfl) (pe_ix ix_tup (pv 1) pe_int (fun _ _ => rfl))) (pss_cons (ps_set (i := 4) sc_chain_to.nd rfl (.inl rfl) pe_dnewK) (pss_cons (ps_set (i := 5) sc_chain_to.nd rfl (.inl rfl) (pe_ix ix_tup (pv 1) pe_int (fun _ _ => rfl))) (pss_cons (ps_set (i := 6) sc_chain_to.nd rfl (.inl rfl) (pe_ix ix_tup (pv 1) pe_int (fun _ _ => rfl))) (pss_cons (ps_while PassesOwn.never (pt_cmpR op_ne (pv 6) (pv 2) (nomark _)) (pss_cons (ps_aug (i := 6) sc_chain_to.nd rfl (.inl rfl) (pv 3) ip_add) (pss_cons (ps_dput (hu_of hr) (pv 4) (pv 6) (pv 5) rfl) (pss_one (ps_if (pt_cmpR op_gt (pe_op op_add (pe_op op_mul (pv 3) (pe_ix ix_tup (pe_ix ix_list (pv 0) (pv 6) (fun _ _ => rfl)) pe_int (fun _ _ => rfl))) (pe_ix ix_tup (pe_ix ix_list (pv 0) (pv 6) (fun _ _ => rfl)) pe_int (fun _ _ => rfl))) (pe_op op_add (pe_op op_mul (pv 3) (pe_ix ix_tup (pe_ix ix_list (pv 0) (pv 5) (fun _ _ => rfl)) pe_int (fun _ _ => rfl))) (pe_ix ix_tup (pe_ix ix_list (pv 0) (pv 5) (fun _ _ => rfl)) pe_int (fun _ _ => rfl))) (nomark _)) (pss_one (ps_set (i := 5) sc_chain_to.nd rfl (.inl rfl) (pv 6))) pss_nil))))) (pss_cons (ps_set (i := 7) sc_chain_to.nd rfl (.inl rfl) (pe_lst (pa_cons (pv 2) pa_nil))) (pss_cons (ps_while PassesOwn.never (pt_cmpR op_ne (pe_ix ix_list (pv 7) (pe_un un_neg pe_int) (fun _ _ => rfl)) (pe_ix ix_tup (pv 1) pe_int (fun _ _ => rfl)) (nomark _)) (pss_one (ps_expr (pe_bm PySem.F.plainAttrs_list PySem.F.slot_list_append PySem.F.type_list_append mt_append (pv 7) (pa_cons (pe_dget (hu_of hr) (pv 4) (pe_ix ix_list (pv 7) (pe_un un_neg pe_int) (fun _ _ => rfl)) (fun _ _ => rfl)) pa_nil))))) (pss_one (ps_ret (pe_revL (pv 7)))))))))))
theorem ok_reached {f : Addr} {fd : FuncData} (F : Fun K "reached" "reached" s_reached f fd) (T : Txt w K mg C) (g_check_row : Cal P w K mg base CX0 3 "check_row" ["row"] (sp_check_row K C)) (g_check_stone : Cal P w K mg base CX0 2 "check_stone" ["row", "stone"] (sp_check_stone K C)) (g_check_side : Cal P w K mg base CX0 2 "check_side" ["side"] (sp_check_side K C)) (g_last_felled : Cal P w K mg base CX0 1 "last_felled" ["row", "stone", "side"] (sp_last_felled K C)) (g_Chain_init : CalI P w K mg base CX0 1 C.Chain ["self", "stones"] (sp_Chain_init K C)) (g_chain_to : Cal P w K mg base CX0 1 "chain_to" ["row", "push", "stone"] (sp_chain_to K C)) (g_Stands_init : CalI P w K mg base CX0 1 C.Stands ["self", "place"] (sp_Stands_init K C)) : FnOk P w K mg base CX0 4 f fd ["row", "push", "stone"] (sp_reached K C) := by
  obtain rfl := T.hw
  refine F.ok sc_reached (fun vs H Q E h => len_reached h) (fun cdv A outer s H vs Q E hr h => ⟨t_reached K C, ?_, pure_reached h⟩)
  exact (pss_cons (ps_expr (pe_cal g_check_row (hr.mono (by decide)) (by rfl) pass0 (pa_cons (pv 0) pa_nil))) (pss_cons (ps_if (PW.pt (pw_or (pt_not (pt_val (pe_callB call_isi (by rfl) T.b_isinstance (by decide +kernel) (pa_cons (pv 1) (pa_cons (pe_bltn (v := .ty "tuple") (by rfl) T.b_tuple (by decide +kernel) rfl) pa_nil))))) (pw_or1 (pt_cmpR op_ne (pe_callB call_len_seq (by rfl) T.b_len (by decide +kernel) (pa_cons (pv 1) pa_nil)) pe_int (nomark _))))) (pss_one ps_never) pss_nil) (pss_cons (ps_expr (pe_cal g_check_stone (hr.mono (by decide)) (by rfl) pass0 (pa_cons (pv 0) (pa_cons (pe_ix ix_tup (pv 1) pe_int (fun _ _ => rfl)) pa_nil)))) (pss_cons (ps_expr (pe_cal g_check_side (hr.mono (by decide)) (by rfl) pass0 (pa_cons (pe_ix ix_tup (pv 1) pe_int (fun _ _ => rfl)) pa_nil))) (pss_cons (ps_expr (pe_cal g_check_stone (hr.mono (by decide)) (by rfl) pass0 (pa_cons (pv 0) (pa_cons (pv 2) pa_nil)))) (pss_cons (ps_asg (pe_cal g_last_felled (hr.mono (by decide)) (by rfl) pass0 (pa_cons (pv 0) (pa_cons (pe_ix ix_tup (pv 1) pe_int (fun _ _ => rfl)) (pa_cons (pe_ix ix_tup (pv 1) pe_int (fun _ _ => rfl)) pa_nil)))) (pg_tup rfl (pgs_cons (pg_name (i := 3) sc_reached.nd rfl (.inl rfl)) (pgs_cons (pg_name (i := 4) sc_reached.nd rfl (.inl rfl)) pgs_nil)))) (pss_cons (ps_if (pt_chain op_le op_le (pe_callB (call_min2 rfl) (by rfl) T.b_min (by decide +kernel) (pa_cons (pe_ix ix_tup (pv 1) pe_int (fun _ _ => rfl)) (pa_cons (pv 3) pa_nil))) (pv 2) (pe_callB (call_max2 rfl) (by rfl) T.b_max (by decide +kernel) (pa_cons (pe_ix ix_tup (pv 1) pe_int (fun _ _ => rfl)) (pa_cons (pv 3) pa_nil)))) (pss_one (ps_ret (pe_mak g_Chain_init T.g_Chain (hr.mono (by decide)) (by rfl) pass0 (pa_cons (pe_cal g_chain_to (hr.mono (by decide)) (by rfl) pass0 (pa_cons (pv 0) (pa_cons (pv 1) (pa_cons (pv 2) pa_nil)))) pa_nil)))) pss_nil) (pss_one (ps_ret (pe_mak g_Stands_init T.g_Stands (hr.mono (by decide)) (by rfl) pass0 (pa_cons (pe_op op_mul (pe_ix ix_tup (pv 1) pe_int (fun _ _ => rfl)) (pv 4)) pa_nil)))))))))))
theorem ok_spans_of {f : Addr} {fd : FuncData} (F : Fun K "spans_of" "spans_of" s_spans_of f fd) (T : Txt w K mg C) (g_last_felled : Cal P w K mg base CX0 1 "last_felled" ["row", "stone", "side"] (sp_last_felled K C)) : FnOk P w K mg base CX0 2 f fd ["row"] (sp_spans_of K C) := by
  obtain rfl := T.hw
  refine F.ok sc_spans_of (fun vs H Q E h => len_spans_of h) (fun cdv A outer s H vs Q E hr h => ⟨t_spans_of K C, ?_, pure_spans_of h⟩)
  exact (pss_cons (ps_set (i := 1) sc_spans_of.nd rfl (.inl rfl) (pe_lst pa_nil)) (pss_cons (ps_for PassesOwn.never rfl (pi_range1 rfl T.b_range (pa_cons (pe_callB call_len_seq (by rfl) T.b_len (by decide +kernel) (pa_cons (pv 0) pa_nil)) pa_nil)) (pg_name (i := 2) sc_spans_of.nd rfl (.inl rfl)) (pss_one (ps_for PassesOwn.never rfl (pi_tup (pe_tup (pa_cons pe_int (pa_cons (pe_un un_neg pe_int) pa_nil)))) (pg_name (i := 3) sc_spans_of.nd rfl (.inl rfl)) (pss_cons (ps_set (i := 4) sc_spans_of.nd rfl (.inl rfl) (pe_ix ix_tup (pe_cal g_last_felled (hr.mono (by decide)) (by rfl) pass0 (pa_cons (pv 0) (pa_cons (pv 2) (pa_cons (pv 3) pa_nil)))) pe_int (fun _ _ => rfl))) (pss_one (ps_expr (pe_bm PySem.F.plainAttrs_list PySem.F.slot_list_append PySem.F.type_list_append mt_append (pv 1) (pa_cons (pe_tup (pa_cons (pe_callB (call_min2 rfl) (by rfl) T.b_min (by decide +kernel) (pa_cons (pv 2) (pa_cons (pv 4) pa_nil))) (pa_cons (pe_callB (call_max2 rfl) (by rfl) T.b_max (by decide +kernel) (pa_cons (pv 2) (pa_cons (pv 4) pa_nil))) (pa_cons (pe_tup (pa_cons (pv 2) (pa_cons (pv 3) pa_nil))) pa_nil)))) pa_nil)))))))) (pss_one (ps_ret (pv 1)))))
theorem ok_fewest {f : Addr} {fd : FuncData} (F : Fun K "fewest" "fewest" s_fewest f fd) (T : Txt w K mg C) (g_check_row : Cal P w K mg base CX0 3 "check_row" ["row"] (sp_check_row K C)) (g_spans_of : Cal P w K mg base CX0 2 "spans_of" ["row"] (sp_spans_of K C)) (g_Fewest_init : CalI P w K mg base CX0 1 C.Fewest ["self", "pushes", "stones"] (sp_Fewest_init K C)) : FnOk P w K mg base CX0 4 f fd ["row"] (sp_fewest K C) := by
  obtain rfl := T.hw
  refine F.ok sc_fewest (fun vs H Q E h => len_fewest h) (fun cdv A outer s H vs Q E hr h => ⟨t_fewest K C, ?_, pure_fewest h⟩)
  exact (pss_cons (ps_expr (pe_cal g_check_row (hr.mono (by decide)) (by rfl) pass0 (pa_cons (pv 0) pa_nil))) (pss_cons (ps_set (i := 1) sc_fewest.nd rfl (.inl rfl) (pe_cal g_spans_of (hr.mono (by decide)) (by rfl) pass0 (pa_cons (pv 0) pa_nil))) (pss_cons (ps_set (i := 2) sc_fewest.nd rfl (.inl rfl) (pe_lst pa_nil)) (pss_cons (ps_set (i := 3) sc_fewest.nd rfl (.inl rfl) (pe_lst pa_nil)) (pss_cons (ps_set (i := 4) sc_fewest.nd rfl (.inr rfl) pe_int) (pss_cons (ps_while PassesOwn.never (pt_cmpR op_lt (pv 4) (pe_callB call_len_seq (by rfl) T.b_len (by decide +kernel) (pa_cons (pv 0) pa_nil)) (nomark _)) (pss_cons (ps_asg (pe_callB (cr_maxD rfl hr.units) (by rfl) T.b_max (by decide +kernel) (pa_cons (pe_lc (own := [("first", 7), ("last", 8), ("push", 6)]) (g := (gTup K 3 (gCons (gName 7) (gCons (gName 8) (gCons (gName 6) gNil))))) (tt := (tTest (tChain rLeI rLeI (tVar 7) (tVar 4) (tVar 8)))) (by rfl) sc_fewest.nd (pi_list (pv 1)) (blkOk_by (own := [("first", 7), ("last", 8), ("push", 6)]) (N := ["row", "spans", "pushes", "stones", "stone", "end", "push", "first", "last"]) (sc := defScope s_fewest) (by decide +kernel)) (fun _ _ _ _ _ => (pg_tup rfl (pgs_cons (pg_name (i := 7) sc_fewest.nd rfl (.inl rfl)) (pgs_cons (pg_name (i := 8) sc_fewest.nd rfl (.inl rfl)) (pgs_cons (pg_name (i := 6) sc_fewest.nd rfl (.inl rfl)) pgs_nil))))) (fun _ _ _ _ _ => (pts_one (pt_chain op_le op_le (pv 7) (pv 4) (pv 8)))) (fun _ _ _ _ _ => (pe_tup (pa_cons (pv 8) (pa_cons (pv 6) pa_nil))))) pa_nil)) (pg_tup rfl (pgs_cons (pg_name (i := 5) sc_fewest.nd rfl (.inl rfl)) (pgs_cons (pg_name (i := 6) sc_fewest.nd rfl (.inl rfl)) pgs_nil)))) (pss_cons (ps_expr (pe_bm PySem.F.plainAttrs_list PySem.F.slot_list_append PySem.F.type_list_append mt_append (pv 2) (pa_cons (pv 6) pa_nil))) (pss_cons (ps_expr (pe_bm PySem.F.plainAttrs_list PySem.F.slot_list_append PySem.F.type_list_append mt_append (pv 3) (pa_cons (pv 4) pa_nil))) (pss_one (ps_set (i := 4) sc_fewest.nd rfl (.inr rfl) (pe_op op_add (pv 5) pe_int))))))) (pss_one (ps_ret (pe_mak g_Fewest_init T.g_Fewest (hr.mono (by decide)) (by rfl) pass0 (pa_cons (pv 2) (pa_cons (pv 3) pa_nil)))))))))))
theorem ok_rights {f : Addr} {fd : FuncData} (F : Fun K "rights" "rights" s_rights f fd) (T : Txt w K mg C) (g_check_row : Cal P w K mg base CX0 3 "check_row" ["row"] (sp_check_row K C)) (g_last_felled : Cal P w K mg base CX0 1 "last_felled" ["row", "stone", "side"] (sp_last_felled K C)) (g_Rights_init : CalI P w K mg base CX0 1 C.Rights ["self", "stones"] (sp_Rights_init K C)) : FnOk P w K mg base CX0 4 f fd ["row"] (sp_rights K C) := by
  obtain rfl := T.hw
  refine F.ok sc_rights (fun vs H Q E h => len_rights h) (fun cdv A outer s H vs Q E hr h => ⟨t_rights K C, ?_, pure_rights h⟩)
  exact (pss_cons (ps_expr (pe_cal g_check_row (hr.mono (by decide)) (by rfl) pass0 (pa_cons (pv 0) pa_nil))) (pss_cons (ps_set (i := 1) sc_rights.nd rfl (.inl rfl) (pe_lst pa_nil)) (pss_cons (ps_set (i := 2) sc_rights.nd rfl (.inl rfl) pe_int) (pss_cons (ps_while PassesOwn.never (pt_cmpR op_lt (pv 2) (pe_callB call_len_seq (by rfl) T.b_len (by decide +kernel) (pa_cons (pv 0) pa_nil)) (nomark _)) (pss_cons (ps_expr (pe_bm PySem.F.plainAttrs_list PySem.F.slot_list_append PySem.F.type_list_append mt_append (pv 1) (pa_cons (pv 2) pa_nil))) (pss_one (ps_set (i := 2) sc_rights.nd rfl (.inl rfl) (pe_op op_add (pe_ix ix_tup (pe_cal g_last_felled (hr.mono (by decide)) (by rfl) pass0 (pa_cons (pv 0) (pa_cons (pv 2) (pa_cons pe_int pa_nil)))) pe_int (fun _ _ => rfl)) pe_int))))) (pss_one (ps_ret (pe_mak g_Rights_init T.g_Rights (hr.mono (by decide)) (by rfl) pass0 (pa_cons (pv 1) pa_nil))))))))
theorem ok_law_row {f : Addr} {fd : FuncData} (F : Fun K "_law_row" "_law_row" s_law_row f fd) (T : Txt w K mg C) : FnOk P w K mg base CX0 1 f fd ["_law_script"] (sp_law_row K C) := by
  obtain rfl := T.hw
  refine F.ok sc_law_row (fun vs H Q E h => len_law_row h) (fun cdv A outer s H vs Q E hr h => ⟨t_law_row K C, ?_, pure_law_row h⟩)
  exact (pss_cons (ps_set (i := 1) sc_law_row.nd rfl (.inl rfl) (pe_callB (cr_sum rfl) (by rfl) T.b_sum (by decide +kernel) (pa_cons (pv 0) pa_nil))) (pss_cons (ps_asg (pe_ix ix_tup (pe_tup (pa_cons (pe_tup (pa_cons pe_int (pa_cons pe_int pa_nil))) (pa_cons (pe_tup (pa_cons pe_int (pa_cons pe_int pa_nil))) (pa_cons (pe_tup (pa_cons (pe_op op_pow pe_int pe_int) (pa_cons (pe_op op_pow pe_int pe_int) pa_nil))) (pa_cons (pe_tup (pa_cons pe_int (pa_cons pe_int pa_nil))) pa_nil))))) (pe_op op_mod (pv 1) pe_int) (fun _ _ => rfl)) (pg_tup rfl (pgs_cons (pg_name (i := 2) sc_law_row.nd rfl (.inl rfl)) (pgs_cons (pg_name (i := 3) sc_law_row.nd rfl (.inl rfl)) pgs_nil)))) (pss_cons (ps_set (i := 4) sc_law_row.nd rfl (.inl rfl) (pe_un un_neg (pe_op op_mod (pe_op op_fdiv (pv 1) pe_int) pe_int))) (pss_cons (ps_set (i := 5) sc_law_row.nd rfl (.inl rfl) (pe_lst pa_nil)) (pss_cons (ps_for PassesOwn.never rfl (pi_list (pv 0)) (pg_name (i := 6) sc_law_row.nd rfl (.inl rfl)) (pss_cons (ps_set (i := 4) sc_law_row.nd rfl (.inl rfl) (pe_op op_add (pe_op op_add (pv 4) pe_int) (pe_op op_mod (pv 6) (pv 2)))) (pss_one (ps_expr (pe_bm PySem.F.plainAttrs_list PySem.F.slot_list_append PySem.F.type_list_append mt_append (pv 5) (pa_cons (pe_tup (pa_cons (pv 4) (pa_cons (pe_op op_add pe_int (pe_op op_mod (pe_op op_add (pe_op op_fdivW (pv 6) (pv 2)) (pe_op op_fdiv (pv 6) pe_int)) (pv 3))) pa_nil))) pa_nil)))))) (pss_one (ps_ret (pv 5))))))))
theorem ok_law_felled {f : Addr} {fd : FuncData} (F : Fun K "_law_felled" "_law_felled" s_law_felled f fd) (T : Txt w K mg C) : FnOk P w K mg base CX0 1 f fd ["_law_row_here", "_law_stone", "_law_side"] (sp_law_felled K C) := by
  obtain rfl := T.hw
  refine F.ok sc_law_felled (fun vs H Q E h => len_law_felled h) (fun cdv A outer s H vs Q E hr h => ⟨t_law_felled K C, ?_, pure_law_felled h⟩)
  exact (pss_cons (ps_par (i := 3) (j := 4) (by rfl) sc_law_felled.nd rfl rfl (by decide) rfl rfl (pa_cons (pe_op op_add (pe_ix ix_tup (pe_ix ix_list (pv 0) (pv 1) (fun _ _ => rfl)) pe_int (fun _ _ => rfl)) (pe_op op_mul (pv 2) (pe_ix ix_tup (pe_ix ix_list (pv 0) (pv 1) (fun _ _ => rfl)) pe_int (fun _ _ => rfl)))) (pa_cons (pv 1) pa_nil)) (by rfl)) (pss_cons (ps_for PassesOwn.never rfl (pi_list (pe_ifExp (pt_cmpR op_eq (pv 2) pe_int (nomark _)) (pe_listRg (by rfl) (by rfl) T.b_list (prg_2 (by rfl) T.b_range (pe_op op_add (pv 1) pe_int) (pe_callB call_len_seq (by rfl) T.b_len (by decide +kernel) (pa_cons (pv 0) pa_nil)))) (pe_listRg3 (by rfl) (by rfl) T.b_list (by rfl) T.b_range (pe_op op_sub (pv 1) pe_int) (pe_un un_neg pe_int) (pe_un un_neg pe_int)))) (pg_name (i := 5) sc_law_felled.nd rfl (.inl rfl)) (pss_cons (ps_asg (pe_ix ix_list (pv 0) (pv 5) (fun _ _ => rfl)) (pg_tup rfl (pgs_cons (pg_name (i := 6) sc_law_felled.nd rfl (.inl rfl)) (pgs_cons (pg_name (i := 7) sc_law_felled.nd rfl (.inl rfl)) pgs_nil)))) (pss_cons (ps_if (pt_cmpR op_lt (pe_op op_mul (pe_op op_sub (pv 3) (pv 6)) (pv 2)) pe_int (nomark _)) (pss_one (ps_ret (pv 4))) pss_nil) (pss_cons (ps_set (i := 4) sc_law_felled.nd rfl (.inl rfl) (pv 5)) (pss_one (ps_if (pt_cmpR op_gt (pe_op op_mul (pe_op op_sub (pe_op op_add (pv 6) (pe_op op_mul (pv 2) (pv 7))) (pv 3)) (pv 2)) pe_int (nomark _)) (pss_one (ps_set (i := 3) sc_law_felled.nd rfl (.inl rfl) (pe_op op_add (pv 6) (pe_op op_mul (pv 2) (pv 7))))) pss_nil)))))) (pss_one (ps_ret (pv 4)))))
theorem ok_law_chain {f : Addr} {fd : FuncData} (F : Fun K "_law_chain" "_law_chain" s_law_chain f fd) (T : Txt w K mg C) : FnOk P w K mg base CX0 1 f fd ["_law_row_here", "_law_push", "_law_stone", "_law_stones"] (sp_law_chain K C) := by
  obtain rfl := T.hw
  refine F.ok sc_law_chain (fun vs H Q E h => len_law_chain h) (fun cdv A outer s H vs Q E hr h => ⟨t_law_chain K C, ?_, pure_law_chain h⟩)
  exact (pss_cons (ps_if (PW.pt (pw_or (pt_cmpR (op_eqD hr.units) (pv 3) (pe_lst pa_nil) (nomark _)) (pw_or (pt_cmpR op_ne (pe_ix ix_list (pv 3) pe_int (fun _ _ => rfl)) (pe_ix ix_tup (pv 1) pe_int (fun _ _ => rfl)) (nomark _)) (pw_or (pt_cmpR op_ne (pe_ix ix_list (pv 3) (pe_un un_neg pe_int) (fun _ _ => rfl)) (pv 2) (nomark _)) (pw_or (pt_cmpR op_lt (pe_callB (cr_min rfl) (by rfl) T.b_min (by decide +kernel) (pa_cons (pv 3) pa_nil)) pe_int (nomark _)) (pw_or1 (pt_cmpR op_ge (pe_callB (cr_max rfl) (by rfl) T.b_max (by decide +kernel) (pa_cons (pv 3) pa_nil)) (pe_callB call_len_seq (by rfl) T.b_len (by decide +kernel) (pa_cons (pv 0) pa_nil)) (nomark _)))))))) (pss_one (ps_ret pe_bl)) pss_nil) (pss_cons (ps_for PassesOwn.never rfl (pi_zip (by rfl) T.b_zip (pa_cons (pv 3) (pa_cons (pe_slice sl_list (pv 3) (po_some pe_int) po_none) pa_nil))) (pg_tup rfl (pgs_cons (pg_name (i := 4) sc_law_chain.nd rfl (.inl rfl)) (pgs_cons (pg_name (i := 5) sc_law_chain.nd rfl (.inl rfl)) pgs_nil))) (pss_cons (ps_asg (pe_ix ix_list (pv 0) (pv 4) (fun _ _ => rfl)) (pg_tup rfl (pgs_cons (pg_name (i := 6) sc_law_chain.nd rfl (.inl rfl)) (pgs_cons (pg_name (i := 7) sc_law_chain.nd rfl (.inl rfl)) pgs_nil)))) (pss_one (ps_if (pt_not (pt_chain op_le op_le pe_int (pe_op op_mul (pe_op op_sub (pe_ix ix_tup (pe_ix ix_list (pv 0) (pv 5) (fun _ _ => rfl)) pe_int (fun _ _ => rfl)) (pv 6)) (pe_ix ix_tup (pv 1) pe_int (fun _ _ => rfl))) (pv 7))) (pss_one (ps_ret pe_bl)) pss_nil)))) (pss_one (ps_ret pe_bl))))
theorem ok_law_stands {f : Addr} {fd : FuncData} (F : Fun K "_law_stands" "_law_stands" s_law_stands f fd) (T : Txt w K mg C) : FnOk P w K mg base CX0 1 f fd ["_law_row_here", "_law_push", "_law_stone", "_law_far"] (sp_law_stands K C) := by
  obtain rfl := T.hw
  refine F.ok sc_law_stands (fun vs H Q E h => len_law_stands h) (fun cdv A outer s H vs Q E hr h => ⟨t_law_stands K C, ?_, pure_law_stands h⟩)
  exact (pss_cons (ps_set (i := 4) sc_law_stands.nd rfl (.inl rfl) (pe_ix ix_tup (pv 1) pe_int (fun _ _ => rfl))) (pss_cons (ps_par (i := 5) (j := 6) (by rfl) sc_law_stands.nd rfl rfl (by decide) rfl rfl (pa_cons (pe_ix ix_tup (pe_ix ix_list (pv 0) (pe_ix ix_tup (pv 1) pe_int (fun _ _ => rfl)) (fun _ _ => rfl)) pe_int (fun _ _ => rfl)) (pa_cons (pe_ix ix_tup (pe_ix ix_list (pv 0) (pv 2) (fun _ _ => rfl)) pe_int (fun _ _ => rfl)) pa_nil)) (by rfl)) (pss_cons (ps_if (PW.pt (pw_or (pt_cmpR op_lt (pe_op op_mul (pe_op op_sub (pv 3) (pv 5)) (pv 4)) pe_int (nomark _)) (pw_or1 (PW.pt (pw_and (pt_cmpR op_ge (pe_op op_mul (pe_op op_sub (pv 6) (pv 5)) (pv 4)) pe_int (nomark _)) (pw_and1 (pt_cmpR op_ge (pe_op op_mul (pe_op op_sub (pv 3) (pv 6)) (pv 4)) pe_int (nomark _)))))))) (pss_one (ps_ret pe_bl)) pss_nil) (pss_cons (ps_for PassesOwn.never rfl (pi_list (pv 0)) (pg_tup rfl (pgs_cons (pg_name (i := 7) sc_law_stands.nd rfl (.inl rfl)) (pgs_cons (pg_name (i := 8) sc_law_stands.nd rfl (.inl rfl)) pgs_nil))) (pss_one (ps_if (PW.pt (pw_and (pt_cmpR op_ge (pe_op op_mul (pe_op op_sub (pv 7) (pv 5)) (pv 4)) pe_int (nomark _)) (pw_and (pt_cmpR op_ge (pe_op op_mul (pe_op op_sub (pv 3) (pv 7)) (pv 4)) pe_int (nomark _)) (pw_and1 (pt_cmpR op_lt (pe_op op_mul (pe_op op_sub (pv 3) (pv 7)) (pv 4)) (pv 8) (nomark _)))))) (pss_one (ps_ret pe_bl)) pss_nil))) (pss_one (ps_ret pe_bl))))))
theorem ok_law_few {f : Addr} {fd : FuncData} (F : Fun K "_law_few" "_law_few" s_law_few f fd) (T : Txt w K mg C) (g_law_felled : Cal P w K mg base CX0 1 "_law_felled" ["_law_row_here", "_law_stone", "_law_side"] (sp_law_felled K C)) : FnOk P w K mg base CX0 2 f fd ["_law_row_here", "_law_pushes", "_law_stones"] (sp_law_few K C) := by
  obtain rfl := T.hw
  refine F.ok sc_law_few (fun vs H Q E h => len_law_few h) (fun cdv A outer s H vs Q E hr h => ⟨t_law_few K C, ?_, pure_law_few h⟩)
  exact (pss_cons (ps_set (i := 3) sc_law_few.nd rfl (.inr rfl) (pe_callB call_len_seq (by rfl) T.b_len (by decide +kernel) (pa_cons (pv 0) pa_nil))) (pss_cons (ps_if (PW.pt (pw_or (pt_cmpR op_ne (pe_callB call_len_seq (by rfl) T.b_len (by decide +kernel) (pa_cons (pv 1) pa_nil)) (pe_callB call_len_seq (by rfl) T.b_len (by decide +kernel) (pa_cons (pv 2) pa_nil)) (nomark _)) (pw_or1 (pt_val (pe_callB (cr_any rfl) (by rfl) T.b_any (by decide +kernel) (pa_cons (pe_lc (own := [("_law_stone", 5)]) (g := (gName 5)) (tt := tYes) (by rfl) sc_law_few.nd (pi_list (pv 2)) (blkOk_by (own := [("_law_stone", 5)]) (N := ["_law_row_here", "_law_pushes", "_law_stones", "_law_many", "_law_met", "_law_stone", "_law_side", "_law_end", "_law_one"]) (sc := defScope s_law_few) (by decide +kernel)) (fun _ _ _ _ _ => (pg_name (i := 5) sc_law_few.nd rfl (.inl rfl))) (fun _ _ _ _ _ => pts_nil) (fun _ _ _ _ _ => (pe_not (pe_chain op_le op_lt pe_int (pv 5) (pv 3))))) pa_nil)))))) (pss_one (ps_ret pe_bl)) pss_nil) (pss_cons (ps_setLc (i := 4) (own := [("_law_stone", 5)]) (g := (gName 5)) (tt := tYes) (by rfl) sc_law_few.nd rfl rfl (sw_true rfl rfl rfl (by decide +kernel)) (pi_list (pv 0)) (blkOk_by (own := [("_law_stone", 5)]) (N := ["_law_row_here", "_law_pushes", "_law_stones", "_law_many", "_law_met", "_law_stone", "_law_side", "_law_end", "_law_one"]) (sc := defScope s_law_few) (by decide +kernel)) (fun _ _ _ _ _ => (pg_name (i := 5) sc_law_few.nd rfl (.inl rfl))) (fun _ _ _ _ _ => pts_nil) (fun _ _ _ _ _ => pe_bl)) (pss_cons (ps_for PassesOwn.never rfl (pi_list (pv 1)) (pg_tup rfl (pgs_cons (pg_name (i := 5) sc_law_few.nd rfl (.inr rfl)) (pgs_cons (pg_name (i := 6) sc_law_few.nd rfl (.inl rfl)) pgs_nil))) (pss_cons (ps_if (PW.pt (pw_or (pt_not (pt_chain op_le op_lt pe_int (pv 5) (pv 3))) (pw_or1 (PW.pt (pw_and (pt_cmpR op_ne (pv 6) pe_int (nomark _)) (pw_and1 (pt_cmpR op_ne (pv 6) (pe_un un_neg pe_int) (nomark _)))))))) (pss_one (ps_ret pe_bl)) pss_nil) (pss_cons (ps_set (i := 7) sc_law_few.nd rfl (.inr rfl) (pe_cal g_law_felled (hr.mono (by decide)) (by rfl) pass0 (pa_cons (pv 0) (pa_cons (pv 5) (pa_cons (pv 6) pa_nil))))) (pss_one (ps_for PassesOwn.never rfl (pi_range2 rfl T.b_range (pa_cons (pe_callB (call_min2 rfl) (by rfl) T.b_min (by decide +kernel) (pa_cons (pv 5) (pa_cons (pv 7) pa_nil))) (pa_cons (pe_op op_add (pe_callB (call_max2 rfl) (by rfl) T.b_max (by decide +kernel) (pa_cons (pv 5) (pa_cons (pv 7) pa_nil))) pe_int) pa_nil))) (pg_name (i := 8) sc_law_few.nd rfl (.inl rfl)) (pss_one (ps_asg pe_bl (pg_sub (pv 4) (pv 8) set_list)))))))) (pss_cons (ps_if (pt_not (pt_val (pe_callB (cr_all rfl) (by rfl) T.b_all (by decide +kernel) (pa_cons (pv 4) pa_nil)))) (pss_one (ps_ret pe_bl)) pss_nil) (pss_cons (ps_for PassesOwn.never rfl (pi_range1 rfl T.b_range (pa_cons (pv 3) pa_nil)) (pg_name (i := 5) sc_law_few.nd rfl (.inr rfl)) (pss_one (ps_for PassesOwn.never rfl (pi_list (pe_lst (pa_cons pe_int (pa_cons (pe_un un_neg pe_int) pa_nil)))) (pg_name (i := 6) sc_law_few.nd rfl (.inl rfl)) (pss_cons (ps_set (i := 7) sc_law_few.nd rfl (.inr rfl) (pe_cal g_law_felled (hr.mono (by decide)) (by rfl) pass0 (pa_cons (pv 0) (pa_cons (pv 5) (pa_cons (pv 6) pa_nil))))) (pss_one (ps_if (pt_cmpR op_gt (pe_callB (cr_sum rfl) (by rfl) T.b_sum (by decide +kernel) (pa_cons (pe_lc (own := [("_law_one", 8)]) (g := (gName 8)) (tt := (tTest (tChain rLeI rLeI (tCB rMin2 (tCons (tVar 5) (tCons (tVar 7) tNil))) (tVar 8) (tCB rMax2 (tCons (tVar 5) (tCons (tVar 7) tNil)))))) (by rfl) sc_law_few.nd (pi_list (pv 2)) (blkOk_by (own := [("_law_one", 8)]) (N := ["_law_row_here", "_law_pushes", "_law_stones", "_law_many", "_law_met", "_law_stone", "_law_side", "_law_end", "_law_one"]) (sc := defScope s_law_few) (by decide +kernel)) (fun _ _ _ _ _ => (pg_name (i := 8) sc_law_few.nd rfl (.inl rfl))) (fun _ _ _ _ _ => (pts_one (pt_chain op_le op_le (pe_callB (call_min2 rfl) (by rfl) T.b_min (by decide +kernel) (pa_cons (pv 5) (pa_cons (pv 7) pa_nil))) (pv 8) (pe_callB (call_max2 rfl) (by rfl) T.b_max (by decide +kernel) (pa_cons (pv 5) (pa_cons (pv 7) pa_nil)))))) (fun _ _ _ _ _ => pe_int)) pa_nil)) pe_int (nomark _)) (pss_one (ps_ret pe_bl)) pss_nil)))))) (pss_one (ps_ret pe_bl))))))))
theorem ok_law_rights {f : Addr} {fd : FuncData} (F : Fun K "_law_rights" "_law_rights" s_law_rights f fd) (T : Txt w K mg C) (g_law_felled : Cal P w K mg base CX0 1 "_law_felled" ["_law_row_here", "_law_stone", "_law_side"] (sp_law_felled K C)) : FnOk P w K mg base CX0 2 f fd ["_law_row_here", "_law_stones"] (sp_law_rights K C) := by
  obtain rfl := T.hw
  refine F.ok sc_law_rights (fun vs H Q E h => len_law_rights h) (fun cdv A outer s H vs Q E hr h => ⟨t_law_rights K C, ?_, pure_law_rights h⟩)
  exact (pss_cons (ps_if (PW.pt (pw_or (pt_cmpR (op_neD hr.units) (pv 1) (pe_callB cr_sortedI (by rfl) T.b_sorted (by decide +kernel) (pa_cons (pv 1) pa_nil)) (nomark _)) (pw_or (pt_cmpR op_lt (pe_lenSetG (by rfl) T.b_len (by rfl) T.b_set (pv 1)) (pe_callB call_len_seq (by rfl) T.b_len (by decide +kernel) (pa_cons (pv 1) pa_nil)) (nomark _)) (pw_or1 (pt_val (pe_callB (cr_any rfl) (by rfl) T.b_any (by decide +kernel) (pa_cons (pe_lc (own := [("_law_one", 5)]) (g := (gName 5)) (tt := tYes) (by rfl) sc_law_rights.nd (pi_list (pv 1)) (blkOk_by (own := [("_law_one", 5)]) (N := ["_law_row_here", "_law_stones", "_law_met", "_law_stone", "_law_other", "_law_one", "_law_place", "_law_height"]) (sc := defScope s_law_rights) (by decide +kernel)) (fun _ _ _ _ _ => (pg_name (i := 5) sc_law_rights.nd rfl (.inl rfl))) (fun _ _ _ _ _ => pts_nil) (fun _ _ _ _ _ => (pe_not (pe_chain op_le op_lt pe_int (pv 5) (pe_callB call_len_seq (by rfl) T.b_len (by decide +kernel) (pa_cons (pv 0) pa_nil)))))) pa_nil))))))) (pss_one (ps_ret pe_bl)) pss_nil) (pss_cons (ps_setLc (i := 2) (own := [("_law_stone", 3)]) (g := (gName 3)) (tt := tYes) (by rfl) sc_law_rights.nd rfl rfl (sw_true rfl rfl rfl (by decide +kernel)) (pi_list (pv 0)) (blkOk_by (own := [("_law_stone", 3)]) (N := ["_law_row_here", "_law_stones", "_law_met", "_law_stone", "_law_other", "_law_one", "_law_place", "_law_height"]) (sc := defScope s_law_rights) (by decide +kernel)) (fun _ _ _ _ _ => (pg_name (i := 3) sc_law_rights.nd rfl (.inl rfl))) (fun _ _ _ _ _ => pts_nil) (fun _ _ _ _ _ => pe_bl)) (pss_cons (ps_for PassesOwn.never rfl (pi_list (pv 1)) (pg_name (i := 3) sc_law_rights.nd rfl (.inr rfl)) (pss_cons (ps_for PassesOwn.never rfl (pi_range2 rfl T.b_range (pa_cons (pv 3) (pa_cons (pe_op op_add (pe_cal g_law_felled (hr.mono (by decide)) (by rfl) pass0 (pa_cons (pv 0) (pa_cons (pv 3) (pa_cons pe_int pa_nil)))) pe_int) pa_nil))) (pg_name (i := 4) sc_law_rights.nd rfl (.inl rfl)) (pss_one (ps_asg pe_bl (pg_sub (pv 2) (pv 4) set_list)))) (pss_one (ps_if (pt_val (pe_callB (cr_any rfl) (by rfl) T.b_any (by decide +kernel) (pa_cons (pe_lc (own := [("_law_place", 6), ("_law_height", 7)]) (g := (gTup K 2 (gCons (gName 6) (gCons (gName 7) gNil)))) (tt := tYes) (by rfl) sc_law_rights.nd (pi_list (pe_slice sl_list (pv 0) po_none (po_some (pv 3)))) (blkOk_by (own := [("_law_place", 6), ("_law_height", 7)]) (N := ["_law_row_here", "_law_stones", "_law_met", "_law_stone", "_law_other", "_law_one", "_law_place", "_law_height"]) (sc := defScope s_law_rights) (by decide +kernel)) (fun _ _ _ _ _ => (pg_tup rfl (pgs_cons (pg_name (i := 6) sc_law_rights.nd rfl (.inl rfl)) (pgs_cons (pg_name (i := 7) sc_law_rights.nd rfl (.inl rfl)) pgs_nil)))) (fun _ _ _ _ _ => pts_nil) (fun _ _ _ _ _ => (pe_cmpR op_le (pe_op op_sub (pe_ix ix_tup (pe_ix ix_list (pv 0) (pv 3) (fun _ _ => rfl)) pe_int (fun _ _ => rfl)) (pv 6)) (pv 7) (nomark _)))) pa_nil))) (pss_one (ps_ret pe_bl)) pss_nil)))) (pss_one (ps_ret (pe_callB (cr_all rfl) (by rfl) T.b_all (by decide +kernel) (pa_cons (pv 2) pa_nil)))))))
theorem ok_law_higher {f : Addr} {fd : FuncData} (F : Fun K "_law_higher" "_law_higher" s_law_higher f fd) (T : Txt w K mg C) (g_law_felled : Cal P w K mg base CX0 1 "_law_felled" ["_law_row_here", "_law_stone", "_law_side"] (sp_law_felled K C)) : FnOk P w K mg base CX0 2 f fd ["_law_row_here", "_law_stone", "_law_number", "_law_other"] (sp_law_higher K C) := by
  obtain rfl := T.hw
  refine F.ok sc_law_higher (fun vs H Q E h => len_law_higher h) (fun cdv A outer s H vs Q E hr h => ⟨t_law_higher K C, ?_, pure_law_higher h⟩)
  exact (pss_cons (ps_setLc (i := 4) (own := [("_law_place", 6), ("_law_height", 7)]) (g := (gTup K 2 (gCons (gName 6) (gCons (gName 7) gNil)))) (tt := tYes) (by rfl) sc_law_higher.nd rfl rfl (sw_true rfl rfl rfl (by decide +kernel)) (pi_list (pv 0)) (blkOk_by (own := [("_law_place", 6), ("_law_height", 7)]) (N := ["_law_row_here", "_law_stone", "_law_number", "_law_other", "_law_more", "_law_less", "_law_place", "_law_height"]) (sc := defScope s_law_higher) (by decide +kernel)) (fun _ _ _ _ _ => (pg_tup rfl (pgs_cons (pg_name (i := 6) sc_law_higher.nd rfl (.inl rfl)) (pgs_cons (pg_name (i := 7) sc_law_higher.nd rfl (.inl rfl)) pgs_nil)))) (fun _ _ _ _ _ => pts_nil) (fun _ _ _ _ _ => (pe_tup (pa_cons (pv 6) (pa_cons (pe_op op_add (pv 7) (pv 2)) pa_nil))))) (pss_cons (ps_if (PW.pt (pw_or (pt_cmpR op_lt (pv 2) pe_int (nomark _)) (pw_or1 (pt_cmpR op_ne (pe_cal g_law_felled (hr.mono (by decide)) (by rfl) pass0 (pa_cons (pv 4) (pa_cons (pv 1) (pa_cons pe_int pa_nil)))) (pe_op op_sub (pe_callB call_len_seq (by rfl) T.b_len (by decide +kernel) (pa_cons (pv 0) pa_nil)) pe_int) (nomark _))))) (pss_one (ps_ret pe_bl)) pss_nil) (pss_cons (ps_if (PW.pt (pw_or (pt_cmpR op_eq (pv 2) pe_int (nomark _)) (pw_or1 (pt_cmpR op_isN1 (pv 3) pe_non (nomark _))))) (pss_one (ps_ret (pe_and (pe_cmpR op_eq (pv 2) pe_int (nomark _)) (pe_one (pe_cmpR op_isN1 (pv 3) pe_non (nomark _)))))) pss_nil) (pss_cons (ps_if (pt_not (pt_chain op_lt op_lt (pv 1) (pv 3) (pe_callB call_len_seq (by rfl) T.b_len (by decide +kernel) (pa_cons (pv 0) pa_nil)))) (pss_one (ps_ret pe_bl)) pss_nil) (pss_cons (ps_setLc (i := 5) (own := [("_law_place", 6), ("_law_height", 7)]) (g := (gTup K 2 (gCons (gName 6) (gCons (gName 7) gNil)))) (tt := tYes) (by rfl) sc_law_higher.nd rfl rfl (sw_true rfl rfl rfl (by decide +kernel)) (pi_list (pv 4)) (blkOk_by (own := [("_law_place", 6), ("_law_height", 7)]) (N := ["_law_row_here", "_law_stone", "_law_number", "_law_other", "_law_more", "_law_less", "_law_place", "_law_height"]) (sc := defScope s_law_higher) (by decide +kernel)) (fun _ _ _ _ _ => (pg_tup rfl (pgs_cons (pg_name (i := 6) sc_law_higher.nd rfl (.inl rfl)) (pgs_cons (pg_name (i := 7) sc_law_higher.nd rfl (.inl rfl)) pgs_nil)))) (fun _ _ _ _ _ => pts_nil) (fun _ _ _ _ _ => (pe_tup (pa_cons (pv 6) (pa_cons (pe_op op_sub (pv 7) pe_int) pa_nil))))) (pss_one (ps_ret (pe_cmpR op_lt (pe_cal g_law_felled (hr.mono (by decide)) (by rfl) pass0 (pa_cons (pv 5) (pa_cons (pv 1) (pa_cons pe_int pa_nil)))) (pv 3) (nomark _)))))))))
theorem ok_law_says {f : Addr} {fd : FuncData} (F : Fun K "_law_says" "_law_says" s_law_says f fd) (T : Txt w K mg C) : FnOk P w K mg base CX0 1 f fd ["_law_said", "_law_due"] (sp_law_says K C) := by
  obtain rfl := T.hw
  refine F.ok sc_law_says (fun vs H Q E h => len_law_says h) (fun cdv A outer s H vs Q E hr h => ⟨t_law_says K C, ?_, pure_law_says h⟩)
  exact (pss_one (ps_ret (pe_and (pe_callB call_isi (by rfl) T.b_isinstance (by decide +kernel) (pa_cons (pv 0) (pa_cons (pe_bltn (v := .ty "bool") (by rfl) T.b_bool (by decide +kernel) rfl) pa_nil))) (pe_one (pe_cmpR op_eq (pv 0) (pv 1) (nomark _))))))
theorem ok_law_bent {f : Addr} {fd : FuncData} (F : Fun K "_law_bent" "_law_bent" s_law_bent f fd) (T : Txt w K mg C) : FnOk P w K mg base CX0 1 f fd ["_law_some", "_law_script"] (sp_law_bent K C) := by
  obtain rfl := T.hw
  refine F.ok sc_law_bent (fun vs H Q E h => len_law_bent h) (fun cdv A outer s H vs Q E hr h => ⟨t_law_bent K C, ?_, pure_law_bent h⟩)
  exact (pss_cons (ps_set (i := 2) sc_law_bent.nd rfl (.inl rfl) (pe_callTy call_list_of (by rfl) T.b_list (by decide +kernel) (pa_cons (pv 0) pa_nil))) (pss_cons (ps_for PassesOwn.never rfl (pi_list (pv 1)) (pg_name (i := 3) sc_law_bent.nd rfl (.inl rfl)) (pss_cons (ps_set (i := 4) sc_law_bent.nd rfl (.inl rfl) (pe_op op_mod (pe_op op_fdiv (pv 3) pe_int) (pe_callB (call_max2 rfl) (by rfl) T.b_max (by decide +kernel) (pa_cons pe_int (pa_cons (pe_callB call_len_seq (by rfl) T.b_len (by decide +kernel) (pa_cons (pv 2) pa_nil)) pa_nil))))) (pss_cons (ps_if (pt_cmpR op_eq (pe_op op_mod (pv 3) pe_int) pe_int (nomark _)) (pss_one (ps_set (i := 2) sc_law_bent.nd rfl (.inl rfl) (pe_op op_cat (pe_slice sl_list (pv 2) po_none (po_some (pv 4))) (pe_slice sl_list (pv 2) (po_some (pe_op op_add (pv 4) pe_int)) po_none)))) pss_nil) (pss_cons (ps_if (pt_cmpR op_eq (pe_op op_mod (pv 3) pe_int) pe_int (nomark _)) (pss_one (ps_set (i := 2) sc_law_bent.nd rfl (.inl rfl) (pe_op op_cat (pe_op op_cat (pe_slice sl_list (pv 2) po_none (po_some (pv 4))) (pe_lst (pa_cons (pe_op op_sub (pe_op op_mod (pe_op op_fdiv (pv 3) pe_int) pe_int) pe_int) pa_nil))) (pe_slice sl_list (pv 2) (po_some (pv 4)) po_none)))) pss_nil) (pss_cons (ps_if (PW.pt (pw_and (pt_cmpR op_eq (pe_op op_mod (pv 3) pe_int) pe_int (nomark _)) (pw_and1 (pt_cmpR (op_neD hr.units) (pv 2) (pe_lst pa_nil) (nomark _))))) (pss_one (ps_asg (pe_op op_sub (pe_op op_add (pe_ix ix_list (pv 2) (pv 4) (fun _ _ => rfl)) (pe_op op_mod (pe_op op_fdiv (pv 3) pe_int) pe_int)) pe_int) (pg_sub (pv 2) (pv 4) set_list))) pss_nil) (pss_one (ps_if (PW.pt (pw_and (pt_cmpR op_eq (pe_op op_mod (pv 3) pe_int) pe_int (nomark _)) (pw_and1 (pt_cmpR (op_neD hr.units) (pv 2) (pe_lst pa_nil) (nomark _))))) (pss_one (ps_asg (pe_tup (pa_cons (pe_ix ix_list (pv 2) pe_int (fun _ _ => rfl)) (pa_cons (pe_ix ix_list (pv 2) (pv 4) (fun _ _ => rfl)) pa_nil))) (pg_tup rfl (pgs_cons (pg_sub (pv 2) (pv 4) set_list) (pgs_cons (pg_sub (pv 2) pe_int set_list) pgs_nil))))) pss_nil))))))) (pss_one (ps_ret (pv 2)))))
theorem ok_law_chains_right {f : Addr} {fd : FuncData} (F : Fun K "_law_chains_right" "_law_chains_right" s_law_chains_right f fd) (T : Txt w K mg C) (g_law_felled : Cal P w K mg base CX0 1 "_law_felled" ["_law_row_here", "_law_stone", "_law_side"] (sp_law_felled K C)) (g_reached : Cal P w K mg base CX0 4 "reached" ["row", "push", "stone"] (sp_reached K C)) (g_law_bent : Cal P w K mg base CX0 1 "_law_bent" ["_law_some", "_law_script"] (sp_law_bent K C)) (g_Chain_init : CalI P w K mg base CX0 1 C.Chain ["self", "stones"] (sp_Chain_init K C)) (g_law_chain : Cal P w K mg base CX0 1 "_law_chain" ["_law_row_here", "_law_push", "_law_stone", "_law_stones"] (sp_law_chain K C)) (g_law_says : Cal P w K mg base CX0 1 "_law_says" ["_law_said", "_law_due"] (sp_law_says K C)) (g_Chain_shows : CalM P w K mg base CX0 1 C.Chain "shows" ["self", "row", "push", "stone"] (sp_Chain_shows K C)) (g_Stands_init : CalI P w K mg base CX0 1 C.Stands ["self", "place"] (sp_Stands_init K C)) (g_law_stands : Cal P w K mg base CX0 1 "_law_stands" ["_law_row_here", "_law_push", "_law_stone", "_law_far"] (sp_law_stands K C)) (g_Stands_shows : CalM P w K mg base CX0 1 C.Stands "shows" ["self", "row", "push", "stone"] (sp_Stands_shows K C)) : FnOk P w K mg base CX0 5 f fd ["_law_row_here", "_law_push", "_law_stone", "_law_script"] (sp_law_chains_right K C) := by
  obtain rfl := T.hw
  refine F.ok sc_law_chains_right (fun vs H Q E h => len_law_chains_right h) (fun cdv A outer s H vs Q E hr h => ⟨t_law_chains_right K C, ?_, pure_law_chains_right ⟨T.f_Chain, T.f_Stands, T.f_Fewest, T.f_Rights, T.f_Higher⟩ h⟩)
  exact (pss_cons (ps_set (i := 4) sc_law_chains_right.nd rfl (.inl rfl) (pe_cal g_law_felled (hr.mono (by decide)) (by rfl) pass0 (pa_cons (pv 0) (pa_cons (pe_ix ix_tup (pv 1) pe_int (fun _ _ => rfl)) (pa_cons (pe_ix ix_tup (pv 1) pe_int (fun _ _ => rfl)) pa_nil))))) (pss_cons (ps_set (i := 5) sc_law_chains_right.nd rfl (.inl rfl) (pe_fld (pe_cal g_reached (hr.mono (by decide)) (by rfl) pass0 (pa_cons (pv 0) (pa_cons (pv 1) (pa_cons (pv 4) pa_nil)))) rfl)) (pss_cons (ps_set (i := 6) sc_law_chains_right.nd rfl (.inl rfl) (pe_ifExp (pt_cmpR op_ge (pe_op op_mul (pe_op op_sub (pv 2) (pe_ix ix_tup (pv 1) pe_int (fun _ _ => rfl))) (pe_ix ix_tup (pv 1) pe_int (fun _ _ => rfl))) pe_int (nomark _)) (pe_listRg3 (by rfl) (by rfl) T.b_list (by rfl) T.b_range (pe_ix ix_tup (pv 1) pe_int (fun _ _ => rfl)) (pe_op op_add (pv 2) (pe_ix ix_tup (pv 1) pe_int (fun _ _ => rfl))) (pe_ix ix_tup (pv 1) pe_int (fun _ _ => rfl))) (pe_lst pa_nil))) (pss_cons (ps_for PassesOwn.never rfl (pi_list (pe_lst (pa_cons (pv 5) (pa_cons (pe_slice sl_list (pv 5) (po_some pe_int) po_none) (pa_cons (pe_cal g_law_bent (hr.mono (by decide)) (by rfl) pass0 (pa_cons (pv 5) (pa_cons (pv 3) pa_nil))) (pa_cons (pv 6) (pa_cons (pe_lst (pa_cons (pe_ix ix_tup (pv 1) pe_int (fun _ _ => rfl)) (pa_cons (pv 2) pa_nil))) (pa_cons (pe_lst (pa_cons (pv 2) pa_nil)) (pa_cons (pe_lst pa_nil) pa_nil))))))))) (pg_name (i := 7) sc_law_chains_right.nd rfl (.inl rfl)) (pss_cons (ps_set (i := 8) sc_law_chains_right.nd rfl (.inl rfl) (pe_callTy call_list_of (by rfl) T.b_list (by decide +kernel) (pa_cons (pv 7) pa_nil))) (pss_cons (ps_set (i := 9) sc_law_chains_right.nd rfl (.inl rfl) (pe_mak g_Chain_init T.g_Chain (hr.mono (by decide)) (by rfl) pass0 (pa_cons (pv 8) pa_nil))) (pss_cons (ps_expr (pe_bm PySem.F.plainAttrs_list PySem.F.slot_list_append PySem.F.type_list_append mt_append (pv 8) (pa_cons pe_int pa_nil))) (pss_cons (ps_set (i := 10) sc_law_chains_right.nd rfl (.inl rfl) (pe_cal g_law_chain (hr.mono (by decide)) (by rfl) pass0 (pa_cons (pv 0) (pa_cons (pv 1) (pa_cons (pv 2) (pa_cons (pv 7) pa_nil)))))) (pss_cons (ps_if (PW.pt (pw_or (pt_cmpR (op_neD hr.units) (pe_fld (pv 9) rfl) (pv 7) (nomark _)) (pw_or1 (pt_not (pt_val (pe_cal g_law_says (hr.mono (by decide)) (by rfl) pass0 (pa_cons (pe_met (pv 9) T.f_Chain.isi.cls g_Chain_shows (hr.mono (by decide)) pass0 (pa_cons (pv 0) (pa_cons (pv 1) (pa_cons (pv 2) pa_nil)))) (pa_cons (pv 10) pa_nil)))))))) (pss_one (ps_ret pe_bl)) pss_nil) (pss_one (ps_if (pt_not (pt_val (pe_cal g_law_says (hr.mono (by decide)) (by rfl) pass0 (pa_cons (pe_met (pv 9) T.f_Chain.isi.cls g_Chain_shows (hr.mono (by decide)) pass0 (pa_cons (pv 0) (pa_cons (pv 1) (pa_cons (pv 4) pa_nil)))) (pa_cons (pe_cal g_law_chain (hr.mono (by decide)) (by rfl) pass0 (pa_cons (pv 0) (pa_cons (pv 1) (pa_cons (pv 4) (pa_cons (pv 7) pa_nil))))) pa_nil))))) (pss_one (ps_ret pe_bl)) pss_nil)))))))) (pss_cons (ps_set (i := 11) sc_law_chains_right.nd rfl (.inl rfl) (pe_op op_add (pe_ix ix_tup (pe_ix ix_list (pv 0) (pv 4) (fun _ _ => rfl)) pe_int (fun _ _ => rfl)) (pe_op op_mul (pe_ix ix_tup (pv 1) pe_int (fun _ _ => rfl)) (pe_ix ix_tup (pe_ix ix_list (pv 0) (pv 4) (fun _ _ => rfl)) pe_int (fun _ _ => rfl))))) (pss_cons (ps_for PassesOwn.never rfl (pi_list (pe_lst (pa_cons (pv 11) (pa_cons (pe_op op_add (pv 11) pe_int) (pa_cons (pe_op op_sub (pv 11) pe_int) (pa_cons (pe_ix ix_tup (pe_ix ix_list (pv 0) (pe_ix ix_tup (pv 1) pe_int (fun _ _ => rfl)) (fun _ _ => rfl)) pe_int (fun _ _ => rfl)) (pa_cons (pe_ix ix_tup (pe_ix ix_list (pv 0) (pv 2) (fun _ _ => rfl)) pe_int (fun _ _ => rfl)) (pa_cons (pe_op op_sub (pe_ix ix_tup (pe_ix ix_list (pv 0) (pv 2) (fun _ _ => rfl)) pe_int (fun _ _ => rfl)) pe_int) (pa_cons (pe_op op_sub (pe_ix ix_tup (pe_ix ix_list (pv 0) pe_int (fun _ _ => rfl)) pe_int (fun _ _ => rfl)) pe_int) pa_nil))))))))) (pg_name (i := 12) sc_law_chains_right.nd rfl (.inl rfl)) (pss_cons (ps_if (pt_cmpR op_ne (pe_fld (pe_mak g_Stands_init T.g_Stands (hr.mono (by decide)) (by rfl) pass0 (pa_cons (pv 12) pa_nil)) rfl) (pv 12) (nomark _)) (pss_one (ps_ret pe_bl)) pss_nil) (pss_cons (ps_set (i := 10) sc_law_chains_right.nd rfl (.inl rfl) (pe_cal g_law_stands (hr.mono (by decide)) (by rfl) pass0 (pa_cons (pv 0) (pa_cons (pv 1) (pa_cons (pv 2) (pa_cons (pv 12) pa_nil)))))) (pss_one (ps_if (pt_not (pt_val (pe_cal g_law_says (hr.mono (by decide)) (by rfl) pass0 (pa_cons (pe_met (pe_mak g_Stands_init T.g_Stands (hr.mono (by decide)) (by rfl) pass0 (pa_cons (pv 12) pa_nil)) T.f_Stands.isi.cls g_Stands_shows (hr.mono (by decide)) pass0 (pa_cons (pv 0) (pa_cons (pv 1) (pa_cons (pv 2) pa_nil)))) (pa_cons (pv 10) pa_nil))))) (pss_one (ps_ret pe_bl)) pss_nil))))) (pss_one (ps_ret pe_bl))))))))
theorem ok_law_few_right {f : Addr} {fd : FuncData} (F : Fun K "_law_few_right" "_law_few_right" s_law_few_right f fd) (T : Txt w K mg C) (g_fewest : Cal P w K mg base CX0 4 "fewest" ["row"] (sp_fewest K C)) (g_rights : Cal P w K mg base CX0 4 "rights" ["row"] (sp_rights K C)) (g_law_bent : Cal P w K mg base CX0 1 "_law_bent" ["_law_some", "_law_script"] (sp_law_bent K C)) (g_Fewest_init : CalI P w K mg base CX0 1 C.Fewest ["self", "pushes", "stones"] (sp_Fewest_init K C)) (g_law_says : Cal P w K mg base CX0 1 "_law_says" ["_law_said", "_law_due"] (sp_law_says K C)) (g_law_few : Cal P w K mg base CX0 2 "_law_few" ["_law_row_here", "_law_pushes", "_law_stones"] (sp_law_few K C)) (g_Fewest_shows : CalM P w K mg base CX0 3 C.Fewest "shows" ["self", "row"] (sp_Fewest_shows K C)) (g_Rights_init : CalI P w K mg base CX0 1 C.Rights ["self", "stones"] (sp_Rights_init K C)) (g_law_rights : Cal P w K mg base CX0 2 "_law_rights" ["_law_row_here", "_law_stones"] (sp_law_rights K C)) (g_Rights_shows : CalM P w K mg base CX0 2 C.Rights "shows" ["self", "row"] (sp_Rights_shows K C)) : FnOk P w K mg base CX0 5 f fd ["_law_row_here", "_law_script"] (sp_law_few_right K C) := by
  obtain rfl := T.hw
  refine F.ok sc_law_few_right (fun vs H Q E h => len_law_few_right h) (fun cdv A outer s H vs Q E hr h => ⟨t_law_few_right K C, ?_, pure_law_few_right ⟨T.f_Chain, T.f_Stands, T.f_Fewest, T.f_Rights, T.f_Higher⟩ h⟩)
  exact (pss_cons (ps_asg (pe_tup (pa_cons (pe_cal g_fewest (hr.mono (by decide)) (by rfl) pass0 (pa_cons (pv 0) pa_nil)) (pa_cons (pe_callB call_len_seq (by rfl) T.b_len (by decide +kernel) (pa_cons (pv 0) pa_nil)) pa_nil))) (pg_tup rfl (pgs_cons (pg_name (i := 2) sc_law_few_right.nd rfl (.inl rfl)) (pgs_cons (pg_name (i := 3) sc_law_few_right.nd rfl (.inr rfl)) pgs_nil)))) (pss_cons (ps_setLc (i := 4) (own := [("_law_cell", 11)]) (g := (gName 11)) (tt := tYes) (by rfl) sc_law_few_right.nd rfl rfl (sw_true rfl rfl rfl (by decide +kernel)) (pi_list (pe_slice sl_list (pv 1) po_none (po_some pe_int))) (blkOk_by (own := [("_law_cell", 11)]) (N := ["_law_row_here", "_law_script", "_law_told", "_law_many", "_law_drawn", "_law_starts", "_law_some", "_law_pushes", "_law_stones", "_law_handed", "_law_answer", "_law_cell", "_law_stone"]) (sc := defScope s_law_few_right) (by decide +kernel)) (fun _ _ _ _ _ => (pg_name (i := 11) sc_law_few_right.nd rfl (.inl rfl))) (fun _ _ _ _ _ => pts_nil) (fun _ _ _ _ _ => (pe_tup (pa_cons (pe_op op_mod (pv 11) (pe_op op_add (pv 3) pe_int)) (pa_cons (pe_ix ix_tup (pe_tup (pa_cons pe_int (pa_cons (pe_un un_neg pe_int) (pa_cons pe_int pa_nil)))) (pe_op op_fdiv (pe_op op_mod (pe_op op_fdiv (pv 11) pe_int) pe_int) pe_int) (fun _ _ => rfl)) pa_nil))))) (pss_cons (ps_set (i := 5) sc_law_few_right.nd rfl (.inl rfl) (pe_fld (pe_cal g_rights (hr.mono (by decide)) (by rfl) pass0 (pa_cons (pv 0) pa_nil)) rfl)) (pss_cons (ps_set (i := 6) sc_law_few_right.nd rfl (.inl rfl) (pe_lst (pa_cons (pe_tup (pa_cons (pe_fld (pv 2) rfl) (pa_cons (pe_fld (pv 2) rfl) pa_nil))) (pa_cons (pe_tup (pa_cons (pe_slice sl_list (pe_fld (pv 2) rfl) (po_some pe_int) po_none) (pa_cons (pe_slice sl_list (pe_fld (pv 2) rfl) (po_some pe_int) po_none) pa_nil))) pa_nil)))) (pss_cons (ps_set (i := 6) sc_law_few_right.nd rfl (.inl rfl) (pe_op op_cat (pv 6) (pe_lst (pa_cons (pe_tup (pa_cons (pe_fld (pv 2) rfl) (pa_cons (pe_cal g_law_bent (hr.mono (by decide)) (by rfl) pass0 (pa_cons (pe_fld (pv 2) rfl) (pa_cons (pv 1) pa_nil))) pa_nil))) (pa_cons (pe_tup (pa_cons (pe_revL (pe_fld (pv 2) rfl)) (pa_cons (pe_fld (pv 2) rfl) pa_nil))) pa_nil))))) (pss_cons (ps_set (i := 6) sc_law_few_right.nd rfl (.inl rfl) (pe_op op_cat (pv 6) (pe_lst (pa_cons (pe_tup (pa_cons (pe_lc (own := [("_law_stone", 12)]) (g := (gName 12)) (tt := tYes) (by rfl) sc_law_few_right.nd (pi_list (pv 5)) (blkOk_by (own := [("_law_stone", 12)]) (N := ["_law_row_here", "_law_script", "_law_told", "_law_many", "_law_drawn", "_law_starts", "_law_some", "_law_pushes", "_law_stones", "_law_handed", "_law_answer", "_law_cell", "_law_stone"]) (sc := defScope s_law_few_right) (by decide +kernel)) (fun _ _ _ _ _ => (pg_name (i := 12) sc_law_few_right.nd rfl (.inl rfl))) (fun _ _ _ _ _ => pts_nil) (fun _ _ _ _ _ => (pe_tup (pa_cons (pv 12) (pa_cons pe_int pa_nil))))) (pa_cons (pv 5) pa_nil))) (pa_cons (pe_tup (pa_cons (pv 4) (pa_cons (pe_fld (pv 2) rfl) pa_nil))) pa_nil))))) (pss_cons (ps_set (i := 6) sc_law_few_right.nd rfl (.inl rfl) (pe_op op_cat (pv 6) (pe_lst (pa_cons (pe_tup (pa_cons (pe_op op_rep (pe_lst (pa_cons (pe_tup (pa_cons pe_int (pa_cons pe_int pa_nil))) pa_nil)) (pv 3)) (pa_cons (pe_op op_rep (pe_lst (pa_cons pe_int pa_nil)) (pv 3)) pa_nil))) (pa_cons (pe_tup (pa_cons (pe_lst (pa_cons (pe_tup (pa_cons (pe_op op_sub (pv 3) pe_int) (pa_cons (pe_un un_neg pe_int) pa_nil))) pa_nil)) (pa_cons (pe_lst (pa_cons pe_int pa_nil)) pa_nil))) (pa_cons (pe_tup (pa_cons (pe_lst pa_nil) (pa_cons (pe_lst pa_nil) pa_nil))) (pa_cons (pe_tup (pa_cons (pv 4) (pa_cons (pe_slice sl_list (pv 4) po_none (po_some pe_int)) pa_nil))) pa_nil))))))) (pss_cons (ps_for PassesOwn.never rfl (pi_list (pv 6)) (pg_tup rfl (pgs_cons (pg_name (i := 7) sc_law_few_right.nd rfl (.inl rfl)) (pgs_cons (pg_name (i := 8) sc_law_few_right.nd rfl (.inl rfl)) pgs_nil))) (pss_cons (ps_set (i := 9) sc_law_few_right.nd rfl (.inl rfl) (pe_lst (pa_cons (pe_callTy call_list_of (by rfl) T.b_list (by decide +kernel) (pa_cons (pv 7) pa_nil)) (pa_cons (pe_callTy call_list_of (by rfl) T.b_list (by decide +kernel) (pa_cons (pv 8) pa_nil)) pa_nil)))) (pss_cons (ps_set (i := 10) sc_law_few_right.nd rfl (.inl rfl) (pe_mak g_Fewest_init T.g_Fewest (hr.mono (by decide)) (by rfl) pass0 (pa_cons (pe_ix ix_list (pv 9) pe_int (fun _ _ => rfl)) (pa_cons (pe_ix ix_list (pv 9) pe_int (fun _ _ => rfl)) pa_nil)))) (pss_cons (ps_expr (pe_bm PySem.F.plainAttrs_list PySem.F.slot_list_append PySem.F.type_list_append mt_append (pe_ix ix_list (pv 9) pe_int (fun _ _ => rfl)) (pa_cons (pe_tup (pa_cons pe_int (pa_cons pe_int pa_nil))) pa_nil))) (pss_cons (ps_expr (pe_bm PySem.F.plainAttrs_list PySem.F.slot_list_append PySem.F.type_list_append mt_append (pe_ix ix_list (pv 9) pe_int (fun _ _ => rfl)) (pa_cons pe_int pa_nil))) (pss_cons (ps_if (PW.pt (pw_or (pt_cmpR (op_neD hr.units) (pe_fld (pv 10) rfl) (pv 7) (nomark _)) (pw_or1 (pt_cmpR (op_neD hr.units) (pe_fld (pv 10) rfl) (pv 8) (nomark _))))) (pss_one (ps_ret pe_bl)) pss_nil) (pss_one (ps_if (pt_not (pt_val (pe_cal g_law_says (hr.mono (by decide)) (by rfl) pass0 (pa_cons (pe_met (pv 10) T.f_Fewest.isi.cls g_Fewest_shows (hr.mono (by decide)) pass0 (pa_cons (pv 0) pa_nil)) (pa_cons (pe_cal g_law_few (hr.mono (by decide)) (by rfl) pass0 (pa_cons (pv 0) (pa_cons (pv 7) (pa_cons (pv 8) pa_nil)))) pa_nil))))) (pss_one (ps_ret pe_bl)) pss_nil)))))))) (pss_cons (ps_for PassesOwn.never rfl (pi_list (pe_lst (pa_cons (pv 5) (pa_cons (pe_cal g_law_bent (hr.mono (by decide)) (by rfl) pass0 (pa_cons (pv 5) (pa_cons (pv 1) pa_nil))) (pa_cons (pe_listRg (by rfl) (by rfl) T.b_list (prg_1 (by rfl) T.b_range (pv 3))) (pa_cons (pe_lc (own := [("_law_cell", 11)]) (g := (gName 11)) (tt := tYes) (by rfl) sc_law_few_right.nd (pi_list (pe_slice sl_list (pv 1) po_none (po_some pe_int))) (blkOk_by (own := [("_law_cell", 11)]) (N := ["_law_row_here", "_law_script", "_law_told", "_law_many", "_law_drawn", "_law_starts", "_law_some", "_law_pushes", "_law_stones", "_law_handed", "_law_answer", "_law_cell", "_law_stone"]) (sc := defScope s_law_few_right) (by decide +kernel)) (fun _ _ _ _ _ => (pg_name (i := 11) sc_law_few_right.nd rfl (.inl rfl))) (fun _ _ _ _ _ => pts_nil) (fun _ _ _ _ _ => (pe_op op_mod (pv 11) (pe_op op_add (pv 3) pe_int)))) pa_nil)))))) (pg_name (i := 8) sc_law_few_right.nd rfl (.inl rfl)) (pss_cons (ps_set (i := 9) sc_law_few_right.nd rfl (.inl rfl) (pe_callTy call_list_of (by rfl) T.b_list (by decide +kernel) (pa_cons (pv 8) pa_nil))) (pss_cons (ps_set (i := 10) sc_law_few_right.nd rfl (.inl rfl) (pe_mak g_Rights_init T.g_Rights (hr.mono (by decide)) (by rfl) pass0 (pa_cons (pv 9) pa_nil))) (pss_cons (ps_expr (pe_bm PySem.F.plainAttrs_list PySem.F.slot_list_append PySem.F.type_list_append mt_append (pv 9) (pa_cons pe_int pa_nil))) (pss_one (ps_if (PW.pt (pw_or (pt_cmpR (op_neD hr.units) (pe_fld (pv 10) rfl) (pv 8) (nomark _)) (pw_or1 (pt_not (pt_val (pe_cal g_law_says (hr.mono (by decide)) (by rfl) pass0 (pa_cons (pe_met (pv 10) T.f_Rights.isi.cls g_Rights_shows (hr.mono (by decide)) pass0 (pa_cons (pv 0) pa_nil)) (pa_cons (pe_cal g_law_rights (hr.mono (by decide)) (by rfl) pass0 (pa_cons (pv 0) (pa_cons (pv 8) pa_nil))) pa_nil)))))))) (pss_one (ps_ret pe_bl)) pss_nil)))))) (pss_one (ps_ret pe_bl)))))))))))
theorem ok_law_outright {f : Addr} {fd : FuncData} (F : Fun K "_law_outright" "_law_outright" s_law_outright f fd) (T : Txt w K mg C) (g_Chain_init : CalI P w K mg base CX0 1 C.Chain ["self", "stones"] (sp_Chain_init K C)) (g_Chain_shows : CalM P w K mg base CX0 1 C.Chain "shows" ["self", "row", "push", "stone"] (sp_Chain_shows K C)) (g_Fewest_init : CalI P w K mg base CX0 1 C.Fewest ["self", "pushes", "stones"] (sp_Fewest_init K C)) (g_Fewest_shows : CalM P w K mg base CX0 3 C.Fewest "shows" ["self", "row"] (sp_Fewest_shows K C)) (g_Stands_init : CalI P w K mg base CX0 1 C.Stands ["self", "place"] (sp_Stands_init K C)) (g_Stands_shows : CalM P w K mg base CX0 1 C.Stands "shows" ["self", "row", "push", "stone"] (sp_Stands_shows K C)) (g_Higher_init : CalI P w K mg base CX0 1 C.Higher ["self", "number", "stone"] (sp_Higher_init K C)) (g_Higher_shows : CalM P w K mg base CX0 2 C.Higher "shows" ["self", "row", "stone"] (sp_Higher_shows K C)) (g_Rights_init : CalI P w K mg base CX0 1 C.Rights ["self", "stones"] (sp_Rights_init K C)) (g_Rights_shows : CalM P w K mg base CX0 2 C.Rights "shows" ["self", "row"] (sp_Rights_shows K C)) (g_law_says : Cal P w K mg base CX0 1 "_law_says" ["_law_said", "_law_due"] (sp_law_says K C)) : FnOk P w K mg base CX0 4 f fd [] (sp_law_outright K C) := by
  obtain rfl := T.hw
  refine F.ok sc_law_outright (fun vs H Q E h => len_law_outright h) (fun cdv A outer s H vs Q E hr h => ⟨t_law_outright K C, ?_, pure_law_outright h⟩)
  exact (pss_cons (ps_set (i := 0) sc_law_outright.nd rfl (.inl rfl) (pe_lst (pa_cons (pe_tup (pa_cons pe_int (pa_cons pe_int pa_nil))) (pa_cons (pe_tup (pa_cons pe_int (pa_cons pe_int pa_nil))) (pa_cons (pe_tup (pa_cons pe_int (pa_cons pe_int pa_nil))) (pa_cons (pe_tup (pa_cons pe_int (pa_cons pe_int pa_nil))) pa_nil)))))) (pss_cons (ps_set (i := 1) sc_law_outright.nd rfl (.inl rfl) (pe_lst (pa_cons (pe_met (pe_mak g_Chain_init T.g_Chain (hr.mono (by decide)) (by rfl) pass0 (pa_cons (pe_lst (pa_cons pe_int (pa_cons pe_int pa_nil))) pa_nil)) T.f_Chain.isi.cls g_Chain_shows (hr.mono (by decide)) pass0 (pa_cons (pv 0) (pa_cons (pe_tup (pa_cons pe_int (pa_cons pe_int pa_nil))) (pa_cons pe_int pa_nil)))) (pa_cons (pe_met (pe_mak g_Chain_init T.g_Chain (hr.mono (by decide)) (by rfl) pass0 (pa_cons (pe_lst (pa_cons pe_int (pa_cons pe_int (pa_cons pe_int pa_nil)))) pa_nil)) T.f_Chain.isi.cls g_Chain_shows (hr.mono (by decide)) pass0 (pa_cons (pv 0) (pa_cons (pe_tup (pa_cons pe_int (pa_cons pe_int pa_nil))) (pa_cons pe_int pa_nil)))) (pa_cons (pe_met (pe_mak g_Chain_init T.g_Chain (hr.mono (by decide)) (by rfl) pass0 (pa_cons (pe_lst pa_nil) pa_nil)) T.f_Chain.isi.cls g_Chain_shows (hr.mono (by decide)) pass0 (pa_cons (pv 0) (pa_cons (pe_tup (pa_cons pe_int (pa_cons pe_int pa_nil))) (pa_cons pe_int pa_nil)))) pa_nil))))) (pss_cons (ps_set (i := 1) sc_law_outright.nd rfl (.inl rfl) (pe_op op_cat (pv 1) (pe_lst (pa_cons (pe_met (pe_mak g_Stands_init T.g_Stands (hr.mono (by decide)) (by rfl) pass0 (pa_cons pe_int pa_nil)) T.f_Stands.isi.cls g_Stands_shows (hr.mono (by decide)) pass0 (pa_cons (pv 0) (pa_cons (pe_tup (pa_cons pe_int (pa_cons pe_int pa_nil))) (pa_cons pe_int pa_nil)))) (pa_cons (pe_met (pe_mak g_Stands_init T.g_Stands (hr.mono (by decide)) (by rfl) pass0 (pa_cons pe_int pa_nil)) T.f_Stands.isi.cls g_Stands_shows (hr.mono (by decide)) pass0 (pa_cons (pv 0) (pa_cons (pe_tup (pa_cons pe_int (pa_cons pe_int pa_nil))) (pa_cons pe_int pa_nil)))) (pa_cons (pe_met (pe_mak g_Fewest_init T.g_Fewest (hr.mono (by decide)) (by rfl) pass0 (pa_cons (pe_lst (pa_cons (pe_tup (pa_cons pe_int (pa_cons pe_int pa_nil))) pa_nil)) (pa_cons (pe_lst (pa_cons pe_int pa_nil)) pa_nil))) T.f_Fewest.isi.cls g_Fewest_shows (hr.mono (by decide)) pass0 (pa_cons (pv 0) pa_nil)) pa_nil)))))) (pss_cons (ps_set (i := 1) sc_law_outright.nd rfl (.inl rfl) (pe_op op_cat (pv 1) (pe_lst (pa_cons (pe_met (pe_mak g_Rights_init T.g_Rights (hr.mono (by decide)) (by rfl) pass0 (pa_cons (pe_lst (pa_cons pe_int pa_nil)) pa_nil)) T.f_Rights.isi.cls g_Rights_shows (hr.mono (by decide)) pass0 (pa_cons (pv 0) pa_nil)) (pa_cons (pe_met (pe_mak g_Higher_init T.g_Higher (hr.mono (by decide)) (by rfl) pass0 (pa_cons pe_int (pa_cons pe_non pa_nil))) T.f_Higher.isi.cls g_Higher_shows (hr.mono (by decide)) pass0 (pa_cons (pv 0) (pa_cons pe_int pa_nil))) (pa_cons (pe_met (pe_mak g_Higher_init T.g_Higher (hr.mono (by decide)) (by rfl) pass0 (pa_cons pe_int (pa_cons pe_int pa_nil))) T.f_Higher.isi.cls g_Higher_shows (hr.mono (by decide)) pass0 (pa_cons (pv 0) (pa_cons pe_int pa_nil))) pa_nil)))))) (pss_cons (ps_set (i := 1) sc_law_outright.nd rfl (.inl rfl) (pe_op op_cat (pv 1) (pe_lst (pa_cons (pe_met (pe_mak g_Fewest_init T.g_Fewest (hr.mono (by decide)) (by rfl) pass0 (pa_cons (pe_lst (pa_cons (pe_tup (pa_cons pe_int (pa_cons (pe_un un_neg pe_int) pa_nil))) (pa_cons (pe_tup (pa_cons pe_int (pa_cons pe_int pa_nil))) pa_nil))) (pa_cons (pe_lst (pa_cons pe_int (pa_cons pe_int pa_nil))) pa_nil))) T.f_Fewest.isi.cls g_Fewest_shows (hr.mono (by decide)) pass0 (pa_cons (pv 0) pa_nil)) (pa_cons (pe_met (pe_mak g_Chain_init T.g_Chain (hr.mono (by decide)) (by rfl) pass0 (pa_cons (pe_lst (pa_cons pe_int (pa_cons pe_int pa_nil))) pa_nil)) T.f_Chain.isi.cls g_Chain_shows (hr.mono (by decide)) pass0 (pa_cons (pv 0) (pa_cons (pe_tup (pa_cons pe_int (pa_cons pe_int pa_nil))) (pa_cons pe_int pa_nil)))) pa_nil))))) (pss_cons (ps_set (i := 1) sc_law_outright.nd rfl (.inl rfl) (pe_op op_cat (pv 1) (pe_lst (pa_cons (pe_met (pe_mak g_Chain_init T.g_Chain (hr.mono (by decide)) (by rfl) pass0 (pa_cons (pe_lst (pa_cons pe_int (pa_cons (pe_un un_neg pe_int) (pa_cons pe_int pa_nil)))) pa_nil)) T.f_Chain.isi.cls g_Chain_shows (hr.mono (by decide)) pass0 (pa_cons (pe_lst (pa_cons (pe_tup (pa_cons pe_int (pa_cons pe_int pa_nil))) (pa_cons (pe_tup (pa_cons pe_int (pa_cons pe_int pa_nil))) (pa_cons (pe_tup (pa_cons pe_int (pa_cons pe_int pa_nil))) pa_nil)))) (pa_cons (pe_tup (pa_cons pe_int (pa_cons pe_int pa_nil))) (pa_cons pe_int pa_nil)))) (pa_cons (pe_met (pe_mak g_Higher_init T.g_Higher (hr.mono (by decide)) (by rfl) pass0 (pa_cons pe_int (pa_cons pe_int pa_nil))) T.f_Higher.isi.cls g_Higher_shows (hr.mono (by decide)) pass0 (pa_cons (pv 0) (pa_cons pe_int pa_nil))) pa_nil))))) (pss_cons (ps_set (i := 2) sc_law_outright.nd rfl (.inl rfl) (pe_lst (pa_cons (pe_met (pe_mak g_Chain_init T.g_Chain (hr.mono (by decide)) (by rfl) pass0 (pa_cons (pe_lst (pa_cons pe_int (pa_cons pe_int (pa_cons pe_int pa_nil)))) pa_nil)) T.f_Chain.isi.cls g_Chain_shows (hr.mono (by decide)) pass0 (pa_cons (pe_lst (pa_cons (pe_tup (pa_cons pe_int (pa_cons pe_int pa_nil))) (pa_cons (pe_tup (pa_cons pe_int (pa_cons pe_int pa_nil))) (pa_cons (pe_tup (pa_cons pe_int (pa_cons pe_int pa_nil))) pa_nil)))) (pa_cons (pe_tup (pa_cons pe_int (pa_cons (pe_un un_neg pe_int) pa_nil))) (pa_cons pe_int pa_nil)))) (pa_cons (pe_met (pe_mak g_Stands_init T.g_Stands (hr.mono (by decide)) (by rfl) pass0 (pa_cons pe_int pa_nil)) T.f_Stands.isi.cls g_Stands_shows (hr.mono (by decide)) pass0 (pa_cons (pv 0) (pa_cons (pe_tup (pa_cons pe_int (pa_cons pe_int pa_nil))) (pa_cons pe_int pa_nil)))) pa_nil)))) (pss_cons (ps_set (i := 2) sc_law_outright.nd rfl (.inl rfl) (pe_op op_cat (pv 2) (pe_lst (pa_cons (pe_met (pe_mak g_Fewest_init T.g_Fewest (hr.mono (by decide)) (by rfl) pass0 (pa_cons (pe_lst (pa_cons (pe_tup (pa_cons pe_int (pa_cons (pe_un un_neg pe_int) pa_nil))) (pa_cons (pe_tup (pa_cons pe_int (pa_cons pe_int pa_nil))) pa_nil))) (pa_cons (pe_lst (pa_cons pe_int (pa_cons pe_int pa_nil))) pa_nil))) T.f_Fewest.isi.cls g_Fewest_shows (hr.mono (by decide)) pass0 (pa_cons (pv 0) pa_nil)) (pa_cons (pe_met (pe_mak g_Rights_init T.g_Rights (hr.mono (by decide)) (by rfl) pass0 (pa_cons (pe_lst (pa_cons pe_int (pa_cons pe_int pa_nil))) pa_nil)) T.f_Rights.isi.cls g_Rights_shows (hr.mono (by decide)) pass0 (pa_cons (pv 0) pa_nil)) (pa_cons (pe_met (pe_mak g_Higher_init T.g_Higher (hr.mono (by decide)) (by rfl) pass0 (pa_cons pe_int (pa_cons pe_int pa_nil))) T.f_Higher.isi.cls g_Higher_shows (hr.mono (by decide)) pass0 (pa_cons (pv 0) (pa_cons pe_int pa_nil))) pa_nil)))))) (pss_cons (ps_set (i := 2) sc_law_outright.nd rfl (.inl rfl) (pe_op op_cat (pv 2) (pe_lst (pa_cons (pe_met (pe_mak g_Higher_init T.g_Higher (hr.mono (by decide)) (by rfl) pass0 (pa_cons pe_int (pa_cons pe_non pa_nil))) T.f_Higher.isi.cls g_Higher_shows (hr.mono (by decide)) pass0 (pa_cons (pv 0) (pa_cons pe_int pa_nil))) (pa_cons (pe_met (pe_mak g_Fewest_init T.g_Fewest (hr.mono (by decide)) (by rfl) pass0 (pa_cons (pe_lst pa_nil) (pa_cons (pe_lst pa_nil) pa_nil))) T.f_Fewest.isi.cls g_Fewest_shows (hr.mono (by decide)) pass0 (pa_cons (pe_lst pa_nil) pa_nil)) (pa_cons (pe_met (pe_mak g_Rights_init T.g_Rights (hr.mono (by decide)) (by rfl) pass0 (pa_cons (pe_lst pa_nil) pa_nil)) T.f_Rights.isi.cls g_Rights_shows (hr.mono (by decide)) pass0 (pa_cons (pe_lst pa_nil) pa_nil)) pa_nil)))))) (pss_one (ps_ret (pe_and (pe_callB (cr_all rfl) (by rfl) T.b_all (by decide +kernel) (pa_cons (pe_lc (own := [("_law_said", 3)]) (g := (gName 3)) (tt := tYes) (by rfl) sc_law_outright.nd (pi_list (pv 1)) (blkOk_by (own := [("_law_said", 3)]) (N := ["_law_row_here", "_law_bad", "_law_good", "_law_said"]) (sc := defScope s_law_outright) (by decide +kernel)) (fun _ _ _ _ _ => (pg_name (i := 3) sc_law_outright.nd rfl (.inl rfl))) (fun _ _ _ _ _ => pts_nil) (fun _ _ _ _ _ => (pe_cal g_law_says (hr.mono (by decide)) (by rfl) pass0 (pa_cons (pv 3) (pa_cons pe_bl pa_nil))))) pa_nil)) (pe_one (pe_callB (cr_all rfl) (by rfl) T.b_all (by decide +kernel) (pa_cons (pe_lc (own := [("_law_said", 3)]) (g := (gName 3)) (tt := tYes) (by rfl) sc_law_outright.nd (pi_list (pv 2)) (blkOk_by (own := [("_law_said", 3)]) (N := ["_law_row_here", "_law_bad", "_law_good", "_law_said"]) (sc := defScope s_law_outright) (by decide +kernel)) (fun _ _ _ _ _ => (pg_name (i := 3) sc_law_outright.nd rfl (.inl rfl))) (fun _ _ _ _ _ => pts_nil) (fun _ _ _ _ _ => (pe_cal g_law_says (hr.mono (by decide)) (by rfl) pass0 (pa_cons (pv 3) (pa_cons pe_bl pa_nil))))) pa_nil)))))))))))))))
theorem ok_law {f : Addr} {fd : FuncData} (F : Fun K "law" "law" s_law f fd) (T : Txt w K mg C) (g_law_row : Cal P w K mg base CX0 1 "_law_row" ["_law_script"] (sp_law_row K C)) (g_law_outright : Cal P w K mg base CX0 4 "_law_outright" [] (sp_law_outright K C)) (g_law_chains_right : Cal P w K mg base CX0 5 "_law_chains_right" ["_law_row_here", "_law_push", "_law_stone", "_law_script"] (sp_law_chains_right K C)) (g_law_higher : Cal P w K mg base CX0 2 "_law_higher" ["_law_row_here", "_law_stone", "_law_number", "_law_other"] (sp_law_higher K C)) (g_law_says : Cal P w K mg base CX0 1 "_law_says" ["_law_said", "_law_due"] (sp_law_says K C)) (g_Higher_init : CalI P w K mg base CX0 1 C.Higher ["self", "number", "stone"] (sp_Higher_init K C)) (g_Higher_shows : CalM P w K mg base CX0 2 C.Higher "shows" ["self", "row", "stone"] (sp_Higher_shows K C)) (g_law_few_right : Cal P w K mg base CX0 5 "_law_few_right" ["_law_row_here", "_law_script"] (sp_law_few_right K C)) : FnOk P w K mg base CX0 6 f fd ["_law_script"] (sp_law K C) := by
  obtain rfl := T.hw
  refine F.ok sc_law (fun vs H Q E h => len_law h) (fun cdv A outer s H vs Q E hr h => ⟨t_law K C, ?_, pure_law ⟨T.f_Chain, T.f_Stands, T.f_Fewest, T.f_Rights, T.f_Higher⟩ h⟩)
  exact (pss_cons (ps_set (i := 1) sc_law.nd rfl (.inl rfl) (pe_cal g_law_row (hr.mono (by decide)) (by rfl) pass0 (pa_cons (pv 0) pa_nil))) (pss_cons (ps_if (PW.pt (pw_or (pt_not (pt_val (pe_cal0 g_law_outright (hr.mono (by decide)) (by rfl) pass0))) (pw_or1 (pt_cmpR (op_eqD hr.units) (pv 1) (pe_lst pa_nil) (nomark _))))) (pss_one (ps_ret (pe_cal0 g_law_outright (hr.mono (by decide)) (by rfl) pass0))) pss_nil) (pss_cons (ps_for PassesOwn.never rfl (pi_range1 rfl T.b_range (pa_cons pe_int pa_nil)) (pg_name (i := 2) sc_law.nd rfl (.inl rfl)) (pss_cons (ps_set (i := 3) sc_law.nd rfl (.inl rfl) (pe_callB (cr_sum rfl) (by rfl) T.b_sum (by decide +kernel) (pa_cons (pe_sliceStep (pv 0) (po_some (pv 2)) (po_some pe_int)) pa_nil))) (pss_cons (ps_par (i := 4) (j := 5) (by rfl) sc_law.nd rfl rfl (by decide) rfl rfl (pa_cons (pe_tup (pa_cons (pe_op op_mod (pv 3) (pe_callB call_len_seq (by rfl) T.b_len (by decide +kernel) (pa_cons (pv 1) pa_nil))) (pa_cons (pe_ix ix_tup (pe_tup (pa_cons pe_int (pa_cons (pe_un un_neg pe_int) pa_nil))) (pe_op op_mod (pe_op op_fdiv (pv 3) pe_int) pe_int) (fun _ _ => rfl)) pa_nil))) (pa_cons (pe_op op_mod (pe_op op_fdiv (pv 3) pe_int) (pe_callB call_len_seq (by rfl) T.b_len (by decide +kernel) (pa_cons (pv 1) pa_nil))) pa_nil)) (by rfl)) (pss_cons (ps_if (pt_not (pt_val (pe_cal g_law_chains_right (hr.mono (by decide)) (by rfl) pass0 (pa_cons (pv 1) (pa_cons (pv 4) (pa_cons (pv 5) (pa_cons (pv 0) pa_nil))))))) (pss_one (ps_ret pe_bl)) pss_nil) (pss_one (ps_for PassesOwn.never rfl (pi_list (pe_lst (pa_cons (pe_op op_mod (pv 3) pe_int) (pa_cons (pe_op op_sub (pe_op op_mod (pv 3) pe_int) pe_int) (pa_cons (pe_op op_pow pe_int pe_int) pa_nil))))) (pg_name (i := 6) sc_law.nd rfl (.inl rfl)) (pss_cons (ps_set (i := 7) sc_law.nd rfl (.inl rfl) (pe_cal g_law_higher (hr.mono (by decide)) (by rfl) pass0 (pa_cons (pv 1) (pa_cons (pe_ix ix_tup (pv 4) pe_int (fun _ _ => rfl)) (pa_cons (pv 6) (pa_cons (pv 5) pa_nil)))))) (pss_one (ps_if (pt_not (pt_val (pe_cal g_law_says (hr.mono (by decide)) (by rfl) pass0 (pa_cons (pe_met (pe_mak g_Higher_init T.g_Higher (hr.mono (by decide)) (by rfl) pass0 (pa_cons (pv 6) (pa_cons (pv 5) pa_nil))) T.f_Higher.isi.cls g_Higher_shows (hr.mono (by decide)) pass0 (pa_cons (pv 1) (pa_cons (pe_ix ix_tup (pv 4) pe_int (fun _ _ => rfl)) pa_nil))) (pa_cons (pv 7) pa_nil))))) (pss_one (ps_ret pe_bl)) pss_nil))))))))) (pss_one (ps_ret (pe_cal g_law_few_right (hr.mono (by decide)) (by rfl) pass0 (pa_cons (pe_slice sl_list (pv 1) po_none (po_some pe_int)) (pa_cons (pv 0) pa_nil))))))))
end
end FR

namespace FR
open PySem L2 Evl
open PySem.Spec PyProof.Rows
theorem law_sp {K : PySem.W.Frag} {H : Hp} {a : Addr} {ns : List Int} {E : XK} (hl : ns.length ≤ 63) (hS : SqL K H a (ns.map V.int)) : FnP K P_law [.ref a] H (fun v _ => v = .bl true) E :=
  ⟨H, [.sq (intL ns)], .bl true, Ex.refl _, .cons (by simp only [Rp]; exact ⟨a, _, rfl, hS, ints_rp ns⟩) .nil, ⟨ns, rfl, hl, rfl⟩, fun v B' H' g r => by simpa only [Rp] using r⟩
theorem all_mk {l : PySem.W.OpenLaw} {w : World} {K : PySem.W.Frag} {h : Heap} {mg : Str → Option Value} {fa : Addr} {CAnswer CChain CStands CFewest CRights CHigher : Addr} (X : K.In h) (G : h.Ns mainGlobals mg) (hfa : mg "law" = some (.ref fa))
    (qAnswer : PySem.W.nsIn K mainGlobals "Answer" = some (some (.ref CAnswer)))
    (qChain : PySem.W.nsIn K mainGlobals "Chain" = some (some (.ref CChain)))
    (qStands : PySem.W.nsIn K mainGlobals "Stands" = some (some (.ref CStands)))
    (qFewest : PySem.W.nsIn K mainGlobals "Fewest" = some (some (.ref CFewest)))
    (qRights : PySem.W.nsIn K mainGlobals "Rights" = some (some (.ref CRights)))
    (qHigher : PySem.W.nsIn K mainGlobals "Higher" = some (some (.ref CHigher)))
    {od0 an0 : Option Addr} {sl0 : Array (Option Value)} {oc0 kV0 dc0 pm0 cd0 ct0 : Value} {f0 : Addr}
    (a0 : PySem.W.nsIn K mainGlobals "is_number" = some (some (.ref f0)))
    (l0 : K.lookup f0 = some ⟨oc0, od0, .func (PySem.W.fnOf "is_number" "is_number" (defArgs s_is_number) (defBody s_is_number) (defScope s_is_number) .none kV0 dc0 pm0 an0 cd0 ct0), sl0⟩) (c0 : PySem.W.codeIn K cd0 "is_number" = true) (k0 : PySem.W.keepIn K (.ref f0) = true)
    {od1 an1 : Option Addr} {sl1 : Array (Option Value)} {oc1 kV1 dc1 pm1 cd1 ct1 : Value} {f1 : Addr}
    (a1 : PySem.W.nsIn K mainGlobals "is_pair" = some (some (.ref f1)))
    (l1 : K.lookup f1 = some ⟨oc1, od1, .func (PySem.W.fnOf "is_pair" "is_pair" (defArgs s_is_pair) (defBody s_is_pair) (defScope s_is_pair) .none kV1 dc1 pm1 an1 cd1 ct1), sl1⟩) (c1 : PySem.W.codeIn K cd1 "is_pair" = true) (k1 : PySem.W.keepIn K (.ref f1) = true)
    {od2 an2 : Option Addr} {sl2 : Array (Option Value)} {oc2 kV2 dc2 pm2 cd2 ct2 : Value} {f2 : Addr}
    (a2 : PySem.W.nsIn K mainGlobals "check_row" = some (some (.ref f2)))
    (l2 : K.lookup f2 = some ⟨oc2, od2, .func (PySem.W.fnOf "check_row" "check_row" (defArgs s_check_row) (defBody s_check_row) (defScope s_check_row) .none kV2 dc2 pm2 an2 cd2 ct2), sl2⟩) (c2 : PySem.W.codeIn K cd2 "check_row" = true) (k2 : PySem.W.keepIn K (.ref f2) = true)
    {od3 an3 : Option Addr} {sl3 : Array (Option Value)} {oc3 kV3 dc3 pm3 cd3 ct3 : Value} {f3 : Addr}
    (a3 : PySem.W.nsIn K mainGlobals "check_stone" = some (some (.ref f3)))
    (l3 : K.lookup f3 = some ⟨oc3, od3, .func (PySem.W.fnOf "check_stone" "check_stone" (defArgs s_check_stone) (defBody s_check_stone) (defScope s_check_stone) .none kV3 dc3 pm3 an3 cd3 ct3), sl3⟩) (c3 : PySem.W.codeIn K cd3 "check_stone" = true) (k3 : PySem.W.keepIn K (.ref f3) = true)
    {od4 an4 : Option Addr} {sl4 : Array (Option Value)} {oc4 kV4 dc4 pm4 cd4 ct4 : Value} {f4 : Addr}
    (a4 : PySem.W.nsIn K mainGlobals "check_side" = some (some (.ref f4)))
    (l4 : K.lookup f4 = some ⟨oc4, od4, .func (PySem.W.fnOf "check_side" "check_side" (defArgs s_check_side) (defBody s_check_side) (defScope s_check_side) .none kV4 dc4 pm4 an4 cd4 ct4), sl4⟩) (c4 : PySem.W.codeIn K cd4 "check_side" = true) (k4 : PySem.W.keepIn K (.ref f4) = true)
    {od5 an5 : Option Addr} {sl5 : Array (Option Value)} {oc5 kV5 dc5 pm5 cd5 ct5 : Value} {f5 : Addr}
    (a5 : PySem.W.nsIn K mainGlobals "last_felled" = some (some (.ref f5)))
    (l5 : K.lookup f5 = some ⟨oc5, od5, .func (PySem.W.fnOf "last_felled" "last_felled" (defArgs s_last_felled) (defBody s_last_felled) (defScope s_last_felled) .none kV5 dc5 pm5 an5 cd5 ct5), sl5⟩) (c5 : PySem.W.codeIn K cd5 "last_felled" = true) (k5 : PySem.W.keepIn K (.ref f5) = true)
    {od6 an6 : Option Addr} {sl6 : Array (Option Value)} {oc6 kV6 dc6 pm6 cd6 ct6 : Value} {f6 : Addr}
    (a6 : PySem.W.nsIn K mainGlobals "felled_by" = some (some (.ref f6)))
    (l6 : K.lookup f6 = some ⟨oc6, od6, .func (PySem.W.fnOf "felled_by" "felled_by" (defArgs s_felled_by) (defBody s_felled_by) (defScope s_felled_by) .none kV6 dc6 pm6 an6 cd6 ct6), sl6⟩) (c6 : PySem.W.codeIn K cd6 "felled_by" = true) (k6 : PySem.W.keepIn K (.ref f6) = true)
    {od7 an7 : Option Addr} {sl7 : Array (Option Value)} {oc7 kV7 dc7 pm7 cd7 ct7 : Value} {f7 : Addr}
    (a7 : PySem.W.findIn K (.ref CChain) "__init__" = some (some (.ref f7))) (i7 : PySem.W.isFn K (.ref f7) = true)
    (l7 : K.lookup f7 = some ⟨oc7, od7, .func (PySem.W.fnOf "__init__" "Chain.__init__" (defArgs s_Chain_init) (defBody s_Chain_init) (defScope s_Chain_init) .none kV7 dc7 pm7 an7 cd7 ct7), sl7⟩) (c7 : PySem.W.codeIn K cd7 "Chain.__init__" = true) (k7 : PySem.W.keepIn K (.ref f7) = true)
    {od8 an8 : Option Addr} {sl8 : Array (Option Value)} {oc8 kV8 dc8 pm8 cd8 ct8 : Value} {f8 : Addr}
    (a8 : PySem.W.findIn K (.ref CChain) "shows" = some (some (.ref f8))) (i8 : PySem.W.isFn K (.ref f8) = true)
    (l8 : K.lookup f8 = some ⟨oc8, od8, .func (PySem.W.fnOf "shows" "Chain.shows" (defArgs s_Chain_shows) (defBody s_Chain_shows) (defScope s_Chain_shows) .none kV8 dc8 pm8 an8 cd8 ct8), sl8⟩) (c8 : PySem.W.codeIn K cd8 "Chain.shows" = true) (k8 : PySem.W.keepIn K (.ref f8) = true)
    {od9 an9 : Option Addr} {sl9 : Array (Option Value)} {oc9 kV9 dc9 pm9 cd9 ct9 : Value} {f9 : Addr}
    (a9 : PySem.W.findIn K (.ref CStands) "__init__" = some (some (.ref f9))) (i9 : PySem.W.isFn K (.ref f9) = true)
    (l9 : K.lookup f9 = some ⟨oc9, od9, .func (PySem.W.fnOf "__init__" "Stands.__init__" (defArgs s_Stands_init) (defBody s_Stands_init) (defScope s_Stands_init) .none kV9 dc9 pm9 an9 cd9 ct9), sl9⟩) (c9 : PySem.W.codeIn K cd9 "Stands.__init__" = true) (k9 : PySem.W.keepIn K (.ref f9) = true)
    {od10 an10 : Option Addr} {sl10 : Array (Option Value)} {oc10 kV10 dc10 pm10 cd10 ct10 : Value} {f10 : Addr}
    (a10 : PySem.W.findIn K (.ref CStands) "shows" = some (some (.ref f10))) (i10 : PySem.W.isFn K (.ref f10) = true)
    (l10 : K.lookup f10 = some ⟨oc10, od10, .func (PySem.W.fnOf "shows" "Stands.shows" (defArgs s_Stands_shows) (defBody s_Stands_shows) (defScope s_Stands_shows) .none kV10 dc10 pm10 an10 cd10 ct10), sl10⟩) (c10 : PySem.W.codeIn K cd10 "Stands.shows" = true) (k10 : PySem.W.keepIn K (.ref f10) = true)
    {od11 an11 : Option Addr} {sl11 : Array (Option Value)} {oc11 kV11 dc11 pm11 cd11 ct11 : Value} {f11 : Addr}
    (a11 : PySem.W.findIn K (.ref CFewest) "__init__" = some (some (.ref f11))) (i11 : PySem.W.isFn K (.ref f11) = true)
    (l11 : K.lookup f11 = some ⟨oc11, od11, .func (PySem.W.fnOf "__init__" "Fewest.__init__" (defArgs s_Fewest_init) (defBody s_Fewest_init) (defScope s_Fewest_init) .none kV11 dc11 pm11 an11 cd11 ct11), sl11⟩) (c11 : PySem.W.codeIn K cd11 "Fewest.__init__" = true) (k11 : PySem.W.keepIn K (.ref f11) = true)
    {od12 an12 : Option Addr} {sl12 : Array (Option Value)} {oc12 kV12 dc12 pm12 cd12 ct12 : Value} {f12 : Addr}
    (a12 : PySem.W.findIn K (.ref CFewest) "shows" = some (some (.ref f12))) (i12 : PySem.W.isFn K (.ref f12) = true)
    (l12 : K.lookup f12 = some ⟨oc12, od12, .func (PySem.W.fnOf "shows" "Fewest.shows" (defArgs s_Fewest_shows) (defBody s_Fewest_shows) (defScope s_Fewest_shows) .none kV12 dc12 pm12 an12 cd12 ct12), sl12⟩) (c12 : PySem.W.codeIn K cd12 "Fewest.shows" = true) (k12 : PySem.W.keepIn K (.ref f12) = true)
    {od13 an13 : Option Addr} {sl13 : Array (Option Value)} {oc13 kV13 dc13 pm13 cd13 ct13 : Value} {f13 : Addr}
    (a13 : PySem.W.findIn K (.ref CRights) "__init__" = some (some (.ref f13))) (i13 : PySem.W.isFn K (.ref f13) = true)
    (l13 : K.lookup f13 = some ⟨oc13, od13, .func (PySem.W.fnOf "__init__" "Rights.__init__" (defArgs s_Rights_init) (defBody s_Rights_init) (defScope s_Rights_init) .none kV13 dc13 pm13 an13 cd13 ct13), sl13⟩) (c13 : PySem.W.codeIn K cd13 "Rights.__init__" = true) (k13 : PySem.W.keepIn K (.ref f13) = true)
    {od14 an14 : Option Addr} {sl14 : Array (Option Value)} {oc14 kV14 dc14 pm14 cd14 ct14 : Value} {f14 : Addr}
    (a14 : PySem.W.findIn K (.ref CRights) "shows" = some (some (.ref f14))) (i14 : PySem.W.isFn K (.ref f14) = true)
    (l14 : K.lookup f14 = some ⟨oc14, od14, .func (PySem.W.fnOf "shows" "Rights.shows" (defArgs s_Rights_shows) (defBody s_Rights_shows) (defScope s_Rights_shows) .none kV14 dc14 pm14 an14 cd14 ct14), sl14⟩) (c14 : PySem.W.codeIn K cd14 "Rights.shows" = true) (k14 : PySem.W.keepIn K (.ref f14) = true)
    {od15 an15 : Option Addr} {sl15 : Array (Option Value)} {oc15 kV15 dc15 pm15 cd15 ct15 : Value} {f15 : Addr}
    (a15 : PySem.W.nsIn K mainGlobals "raised" = some (some (.ref f15)))
    (l15 : K.lookup f15 = some ⟨oc15, od15, .func (PySem.W.fnOf "raised" "raised" (defArgs s_raised) (defBody s_raised) (defScope s_raised) .none kV15 dc15 pm15 an15 cd15 ct15), sl15⟩) (c15 : PySem.W.codeIn K cd15 "raised" = true) (k15 : PySem.W.keepIn K (.ref f15) = true)
    {od16 an16 : Option Addr} {sl16 : Array (Option Value)} {oc16 kV16 dc16 pm16 cd16 ct16 : Value} {f16 : Addr}
    (a16 : PySem.W.findIn K (.ref CHigher) "__init__" = some (some (.ref f16))) (i16 : PySem.W.isFn K (.ref f16) = true)
    (l16 : K.lookup f16 = some ⟨oc16, od16, .func (PySem.W.fnOf "__init__" "Higher.__init__" (defArgs s_Higher_init) (defBody s_Higher_init) (defScope s_Higher_init) .none kV16 dc16 pm16 an16 cd16 ct16), sl16⟩) (c16 : PySem.W.codeIn K cd16 "Higher.__init__" = true) (k16 : PySem.W.keepIn K (.ref f16) = true)
    {od17 an17 : Option Addr} {sl17 : Array (Option Value)} {oc17 kV17 dc17 pm17 cd17 ct17 : Value} {f17 : Addr}
    (a17 : PySem.W.findIn K (.ref CHigher) "shows" = some (some (.ref f17))) (i17 : PySem.W.isFn K (.ref f17) = true)
    (l17 : K.lookup f17 = some ⟨oc17, od17, .func (PySem.W.fnOf "shows" "Higher.shows" (defArgs s_Higher_shows) (defBody s_Higher_shows) (defScope s_Higher_shows) .none kV17 dc17 pm17 an17 cd17 ct17), sl17⟩) (c17 : PySem.W.codeIn K cd17 "Higher.shows" = true) (k17 : PySem.W.keepIn K (.ref f17) = true)
    {od18 an18 : Option Addr} {sl18 : Array (Option Value)} {oc18 kV18 dc18 pm18 cd18 ct18 : Value} {f18 : Addr}
    (a18 : PySem.W.nsIn K mainGlobals "chain_to" = some (some (.ref f18)))
    (l18 : K.lookup f18 = some ⟨oc18, od18, .func (PySem.W.fnOf "chain_to" "chain_to" (defArgs s_chain_to) (defBody s_chain_to) (defScope s_chain_to) .none kV18 dc18 pm18 an18 cd18 ct18), sl18⟩) (c18 : PySem.W.codeIn K cd18 "chain_to" = true) (k18 : PySem.W.keepIn K (.ref f18) = true)
    {od19 an19 : Option Addr} {sl19 : Array (Option Value)} {oc19 kV19 dc19 pm19 cd19 ct19 : Value} {f19 : Addr}
    (a19 : PySem.W.nsIn K mainGlobals "reached" = some (some (.ref f19)))
    (l19 : K.lookup f19 = some ⟨oc19, od19, .func (PySem.W.fnOf "reached" "reached" (defArgs s_reached) (defBody s_reached) (defScope s_reached) .none kV19 dc19 pm19 an19 cd19 ct19), sl19⟩) (c19 : PySem.W.codeIn K cd19 "reached" = true) (k19 : PySem.W.keepIn K (.ref f19) = true)
    {od20 an20 : Option Addr} {sl20 : Array (Option Value)} {oc20 kV20 dc20 pm20 cd20 ct20 : Value} {f20 : Addr}
    (a20 : PySem.W.nsIn K mainGlobals "spans_of" = some (some (.ref f20)))
    (l20 : K.lookup f20 = some ⟨oc20, od20, .func (PySem.W.fnOf "spans_of" "spans_of" (defArgs s_spans_of) (defBody s_spans_of) (defScope s_spans_of) .none kV20 dc20 pm20 an20 cd20 ct20), sl20⟩) (c20 : PySem.W.codeIn K cd20 "spans_of" = true) (k20 : PySem.W.keepIn K (.ref f20) = true)
    {od21 an21 : Option Addr} {sl21 : Array (Option Value)} {oc21 kV21 dc21 pm21 cd21 ct21 : Value} {f21 : Addr}
    (a21 : PySem.W.nsIn K mainGlobals "fewest" = some (some (.ref f21)))
    (l21 : K.lookup f21 = some ⟨oc21, od21, .func (PySem.W.fnOf "fewest" "fewest" (defArgs s_fewest) (defBody s_fewest) (defScope s_fewest) .none kV21 dc21 pm21 an21 cd21 ct21), sl21⟩) (c21 : PySem.W.codeIn K cd21 "fewest" = true) (k21 : PySem.W.keepIn K (.ref f21) = true)
    {od22 an22 : Option Addr} {sl22 : Array (Option Value)} {oc22 kV22 dc22 pm22 cd22 ct22 : Value} {f22 : Addr}
    (a22 : PySem.W.nsIn K mainGlobals "rights" = some (some (.ref f22)))
    (l22 : K.lookup f22 = some ⟨oc22, od22, .func (PySem.W.fnOf "rights" "rights" (defArgs s_rights) (defBody s_rights) (defScope s_rights) .none kV22 dc22 pm22 an22 cd22 ct22), sl22⟩) (c22 : PySem.W.codeIn K cd22 "rights" = true) (k22 : PySem.W.keepIn K (.ref f22) = true)
    {od23 an23 : Option Addr} {sl23 : Array (Option Value)} {oc23 kV23 dc23 pm23 cd23 ct23 : Value} {f23 : Addr}
    (a23 : PySem.W.nsIn K mainGlobals "_law_row" = some (some (.ref f23)))
    (l23 : K.lookup f23 = some ⟨oc23, od23, .func (PySem.W.fnOf "_law_row" "_law_row" (defArgs s_law_row) (defBody s_law_row) (defScope s_law_row) .none kV23 dc23 pm23 an23 cd23 ct23), sl23⟩) (c23 : PySem.W.codeIn K cd23 "_law_row" = true) (k23 : PySem.W.keepIn K (.ref f23) = true)
    {od24 an24 : Option Addr} {sl24 : Array (Option Value)} {oc24 kV24 dc24 pm24 cd24 ct24 : Value} {f24 : Addr}
    (a24 : PySem.W.nsIn K mainGlobals "_law_felled" = some (some (.ref f24)))
    (l24 : K.lookup f24 = some ⟨oc24, od24, .func (PySem.W.fnOf "_law_felled" "_law_felled" (defArgs s_law_felled) (defBody s_law_felled) (defScope s_law_felled) .none kV24 dc24 pm24 an24 cd24 ct24), sl24⟩) (c24 : PySem.W.codeIn K cd24 "_law_felled" = true) (k24 : PySem.W.keepIn K (.ref f24) = true)
    {od25 an25 : Option Addr} {sl25 : Array (Option Value)} {oc25 kV25 dc25 pm25 cd25 ct25 : Value} {f25 : Addr}
    (a25 : PySem.W.nsIn K mainGlobals "_law_chain" = some (some (.ref f25)))
    (l25 : K.lookup f25 = some ⟨oc25, od25, .func (PySem.W.fnOf "_law_chain" "_law_chain" (defArgs s_law_chain) (defBody s_law_chain) (defScope s_law_chain) .none kV25 dc25 pm25 an25 cd25 ct25), sl25⟩) (c25 : PySem.W.codeIn K cd25 "_law_chain" = true) (k25 : PySem.W.keepIn K (.ref f25) = true)
    {od26 an26 : Option Addr} {sl26 : Array (Option Value)} {oc26 kV26 dc26 pm26 cd26 ct26 : Value} {f26 : Addr}
    (a26 : PySem.W.nsIn K mainGlobals "_law_stands" = some (some (.ref f26)))
    (l26 : K.lookup f26 = some ⟨oc26, od26, .func (PySem.W.fnOf "_law_stands" "_law_stands" (defArgs s_law_stands) (defBody s_law_stands) (defScope s_law_stands) .none kV26 dc26 pm26 an26 cd26 ct26), sl26⟩) (c26 : PySem.W.codeIn K cd26 "_law_stands" = true) (k26 : PySem.W.keepIn K (.ref f26) = true)
    {od27 an27 : Option Addr} {sl27 : Array (Option Value)} {oc27 kV27 dc27 pm27 cd27 ct27 : Value} {f27 : Addr}
    (a27 : PySem.W.nsIn K mainGlobals "_law_few" = some (some (.ref f27)))
    (l27 : K.lookup f27 = some ⟨oc27, od27, .func (PySem.W.fnOf "_law_few" "_law_few" (defArgs s_law_few) (defBody s_law_few) (defScope s_law_few) .none kV27 dc27 pm27 an27 cd27 ct27), sl27⟩) (c27 : PySem.W.codeIn K cd27 "_law_few" = true) (k27 : PySem.W.keepIn K (.ref f27) = true)
    {od28 an28 : Option Addr} {sl28 : Array (Option Value)} {oc28 kV28 dc28 pm28 cd28 ct28 : Value} {f28 : Addr}
    (a28 : PySem.W.nsIn K mainGlobals "_law_rights" = some (some (.ref f28)))
    (l28 : K.lookup f28 = some ⟨oc28, od28, .func (PySem.W.fnOf "_law_rights" "_law_rights" (defArgs s_law_rights) (defBody s_law_rights) (defScope s_law_rights) .none kV28 dc28 pm28 an28 cd28 ct28), sl28⟩) (c28 : PySem.W.codeIn K cd28 "_law_rights" = true) (k28 : PySem.W.keepIn K (.ref f28) = true)
    {od29 an29 : Option Addr} {sl29 : Array (Option Value)} {oc29 kV29 dc29 pm29 cd29 ct29 : Value} {f29 : Addr}
    (a29 : PySem.W.nsIn K mainGlobals "_law_higher" = some (some (.ref f29)))
    (l29 : K.lookup f29 = some ⟨oc29, od29, .func (PySem.W.fnOf "_law_higher" "_law_higher" (defArgs s_law_higher) (defBody s_law_higher) (defScope s_law_higher) .none kV29 dc29 pm29 an29 cd29 ct29), sl29⟩) (c29 : PySem.W.codeIn K cd29 "_law_higher" = true) (k29 : PySem.W.keepIn K (.ref f29) = true)
    {od30 an30 : Option Addr} {sl30 : Array (Option Value)} {oc30 kV30 dc30 pm30 cd30 ct30 : Value} {f30 : Addr}
    (a30 : PySem.W.nsIn K mainGlobals "_law_says" = some (some (.ref f30)))
    (l30 : K.lookup f30 = some ⟨oc30, od30, .func (PySem.W.fnOf "_law_says" "_law_says" (defArgs s_law_says) (defBody s_law_says) (defScope s_law_says) .none kV30 dc30 pm30 an30 cd30 ct30), sl30⟩) (c30 : PySem.W.codeIn K cd30 "_law_says" = true) (k30 : PySem.W.keepIn K (.ref f30) = true)
    {od31 an31 : Option Addr} {sl31 : Array (Option Value)} {oc31 kV31 dc31 pm31 cd31 ct31 : Value} {f31 : Addr}
    (a31 : PySem.W.nsIn K mainGlobals "_law_bent" = some (some (.ref f31)))
    (l31 : K.lookup f31 = some ⟨oc31, od31, .func (PySem.W.fnOf "_law_bent" "_law_bent" (defArgs s_law_bent) (defBody s_law_bent) (defScope s_law_bent) .none kV31 dc31 pm31 an31 cd31 ct31), sl31⟩) (c31 : PySem.W.codeIn K cd31 "_law_bent" = true) (k31 : PySem.W.keepIn K (.ref f31) = true)
    {od32 an32 : Option Addr} {sl32 : Array (Option Value)} {oc32 kV32 dc32 pm32 cd32 ct32 : Value} {f32 : Addr}
    (a32 : PySem.W.nsIn K mainGlobals "_law_chains_right" = some (some (.ref f32)))
    (l32 : K.lookup f32 = some ⟨oc32, od32, .func (PySem.W.fnOf "_law_chains_right" "_law_chains_right" (defArgs s_law_chains_right) (defBody s_law_chains_right) (defScope s_law_chains_right) .none kV32 dc32 pm32 an32 cd32 ct32), sl32⟩) (c32 : PySem.W.codeIn K cd32 "_law_chains_right" = true) (k32 : PySem.W.keepIn K (.ref f32) = true)
    {od33 an33 : Option Addr} {sl33 : Array (Option Value)} {oc33 kV33 dc33 pm33 cd33 ct33 : Value} {f33 : Addr}
    (a33 : PySem.W.nsIn K mainGlobals "_law_few_right" = some (some (.ref f33)))
    (l33 : K.lookup f33 = some ⟨oc33, od33, .func (PySem.W.fnOf "_law_few_right" "_law_few_right" (defArgs s_law_few_right) (defBody s_law_few_right) (defScope s_law_few_right) .none kV33 dc33 pm33 an33 cd33 ct33), sl33⟩) (c33 : PySem.W.codeIn K cd33 "_law_few_right" = true) (k33 : PySem.W.keepIn K (.ref f33) = true)
    {od34 an34 : Option Addr} {sl34 : Array (Option Value)} {oc34 kV34 dc34 pm34 cd34 ct34 : Value} {f34 : Addr}
    (a34 : PySem.W.nsIn K mainGlobals "_law_outright" = some (some (.ref f34)))
    (l34 : K.lookup f34 = some ⟨oc34, od34, .func (PySem.W.fnOf "_law_outright" "_law_outright" (defArgs s_law_outright) (defBody s_law_outright) (defScope s_law_outright) .none kV34 dc34 pm34 an34 cd34 ct34), sl34⟩) (c34 : PySem.W.codeIn K cd34 "_law_outright" = true) (k34 : PySem.W.keepIn K (.ref f34) = true)
    {od35 an35 : Option Addr} {sl35 : Array (Option Value)} {oc35 kV35 dc35 pm35 cd35 ct35 : Value} {f35 : Addr}
    (a35 : PySem.W.nsIn K mainGlobals "law" = some (some (.ref f35)))
    (l35 : K.lookup f35 = some ⟨oc35, od35, .func (PySem.W.fnOf "law" "law" (defArgs s_law) (defBody s_law) (defScope s_law) .none kV35 dc35 pm35 an35 cd35 ct35), sl35⟩) (c35 : PySem.W.codeIn K cd35 "law" = true) (k35 : PySem.W.keepIn K (.ref f35) = true)
    (pg_Chain : PySem.W.plainGet K CChain Str.empty = true)
    (hd_Chain : PySem.W.hasDictIn K CChain = true)
    (po_Chain : PySem.W.plainOver K CChain = true)
    (sa_Chain : PySem.W.findIn K (.ref CChain) "__setattr__" = some (some (.builtin "object.__setattr__")))
    (ha_Chain : PySem.W.findIn K (.ref CChain) "__class__" = some (some (.builtin "object.__class__")))
    (hn_Chain : PySem.W.specialIn K (.builtin "object.__class__") "__get__" = some (some (.builtin "getset_descriptor.__get__")))
    (ht_Chain : PySem.W.takesIn K (.builtin "object.__class__") = some true)
    (hm_Chain : PySem.W.mroIn K CChain (.type "object") = some true)
    (mk_Chain : PySem.W.makesIn K CChain = true)
    (kc_Chain : PySem.W.keepIn K (.ref CChain) = true)
    (no_Chain_stones : PySem.W.findIn K (.ref CChain) "stones" = some none)
    (pg_Stands : PySem.W.plainGet K CStands Str.empty = true)
    (hd_Stands : PySem.W.hasDictIn K CStands = true)
    (po_Stands : PySem.W.plainOver K CStands = true)
    (sa_Stands : PySem.W.findIn K (.ref CStands) "__setattr__" = some (some (.builtin "object.__setattr__")))
    (ha_Stands : PySem.W.findIn K (.ref CStands) "__class__" = some (some (.builtin "object.__class__")))
    (hn_Stands : PySem.W.specialIn K (.builtin "object.__class__") "__get__" = some (some (.builtin "getset_descriptor.__get__")))
    (ht_Stands : PySem.W.takesIn K (.builtin "object.__class__") = some true)
    (hm_Stands : PySem.W.mroIn K CStands (.type "object") = some true)
    (mk_Stands : PySem.W.makesIn K CStands = true)
    (kc_Stands : PySem.W.keepIn K (.ref CStands) = true)
    (no_Stands_place : PySem.W.findIn K (.ref CStands) "place" = some none)
    (pg_Fewest : PySem.W.plainGet K CFewest Str.empty = true)
    (hd_Fewest : PySem.W.hasDictIn K CFewest = true)
    (po_Fewest : PySem.W.plainOver K CFewest = true)
    (sa_Fewest : PySem.W.findIn K (.ref CFewest) "__setattr__" = some (some (.builtin "object.__setattr__")))
    (ha_Fewest : PySem.W.findIn K (.ref CFewest) "__class__" = some (some (.builtin "object.__class__")))
    (hn_Fewest : PySem.W.specialIn K (.builtin "object.__class__") "__get__" = some (some (.builtin "getset_descriptor.__get__")))
    (ht_Fewest : PySem.W.takesIn K (.builtin "object.__class__") = some true)
    (hm_Fewest : PySem.W.mroIn K CFewest (.type "object") = some true)
    (mk_Fewest : PySem.W.makesIn K CFewest = true)
    (kc_Fewest : PySem.W.keepIn K (.ref CFewest) = true)
    (no_Fewest_pushes : PySem.W.findIn K (.ref CFewest) "pushes" = some none)
    (no_Fewest_stones : PySem.W.findIn K (.ref CFewest) "stones" = some none)
    (pg_Rights : PySem.W.plainGet K CRights Str.empty = true)
    (hd_Rights : PySem.W.hasDictIn K CRights = true)
    (po_Rights : PySem.W.plainOver K CRights = true)
    (sa_Rights : PySem.W.findIn K (.ref CRights) "__setattr__" = some (some (.builtin "object.__setattr__")))
    (ha_Rights : PySem.W.findIn K (.ref CRights) "__class__" = some (some (.builtin "object.__class__")))
    (hn_Rights : PySem.W.specialIn K (.builtin "object.__class__") "__get__" = some (some (.builtin "getset_descriptor.__get__")))
    (ht_Rights : PySem.W.takesIn K (.builtin "object.__class__") = some true)
    (hm_Rights : PySem.W.mroIn K CRights (.type "object") = some true)
    (mk_Rights : PySem.W.makesIn K CRights = true)
    (kc_Rights : PySem.W.keepIn K (.ref CRights) = true)
    (no_Rights_stones : PySem.W.findIn K (.ref CRights) "stones" = some none)
    (pg_Higher : PySem.W.plainGet K CHigher Str.empty = true)
    (hd_Higher : PySem.W.hasDictIn K CHigher = true)
    (po_Higher : PySem.W.plainOver K CHigher = true)
    (sa_Higher : PySem.W.findIn K (.ref CHigher) "__setattr__" = some (some (.builtin "object.__setattr__")))
    (ha_Higher : PySem.W.findIn K (.ref CHigher) "__class__" = some (some (.builtin "object.__class__")))
    (hn_Higher : PySem.W.specialIn K (.builtin "object.__class__") "__get__" = some (some (.builtin "getset_descriptor.__get__")))
    (ht_Higher : PySem.W.takesIn K (.builtin "object.__class__") = some true)
    (hm_Higher : PySem.W.mroIn K CHigher (.type "object") = some true)
    (mk_Higher : PySem.W.makesIn K CHigher = true)
    (kc_Higher : PySem.W.keepIn K (.ref CHigher) = true)
    (no_Higher_number : PySem.W.findIn K (.ref CHigher) "number" = some none)
    (no_Higher_stone : PySem.W.findIn K (.ref CHigher) "stone" = some none)
    (z_all : PySem.W.nsIn K mainGlobals "all" = some none)
    (z_any : PySem.W.nsIn K mainGlobals "any" = some none)
    (z_bool : PySem.W.nsIn K mainGlobals "bool" = some none)
    (z_int : PySem.W.nsIn K mainGlobals "int" = some none)
    (z_isinstance : PySem.W.nsIn K mainGlobals "isinstance" = some none)
    (z_len : PySem.W.nsIn K mainGlobals "len" = some none)
    (z_list : PySem.W.nsIn K mainGlobals "list" = some none)
    (z_max : PySem.W.nsIn K mainGlobals "max" = some none)
    (z_min : PySem.W.nsIn K mainGlobals "min" = some none)
    (z_range : PySem.W.nsIn K mainGlobals "range" = some none)
    (z_set : PySem.W.nsIn K mainGlobals "set" = some none)
    (z_sorted : PySem.W.nsIn K mainGlobals "sorted" = some none)
    (z_sum : PySem.W.nsIn K mainGlobals "sum" = some none)
    (z_tuple : PySem.W.nsIn K mainGlobals "tuple" = some none)
    (z_zip : PySem.W.nsIn K mainGlobals "zip" = some none) :
    ∃ fd : FuncData, (∀ (s : Shared) (v : Value), BindsTo s fd ⟨[v], []⟩ [("_law_script", v)]) ∧ ∀ base : Heap, K.In base → base.Ns mainGlobals mg → FnOk l.prog w K mg base CX0 6 fa fd ["_law_script"] (FnP K P_law) := by
  have e := hfa.symm.trans (PySem.W.mg_of X G a35)
  cases e
  let C : CS := { w := w, Answer := CAnswer, Chain := CChain, Stands := CStands, Fewest := CFewest, Rights := CRights, Higher := CHigher }
  have T : Txt w K mg C := ⟨rfl, PySem.W.mg_none_of X G z_all, PySem.W.mg_none_of X G z_any, PySem.W.mg_none_of X G z_bool, PySem.W.mg_none_of X G z_int, PySem.W.mg_none_of X G z_isinstance, PySem.W.mg_none_of X G z_len, PySem.W.mg_none_of X G z_list, PySem.W.mg_none_of X G z_max, PySem.W.mg_none_of X G z_min, PySem.W.mg_none_of X G z_range, PySem.W.mg_none_of X G z_set, PySem.W.mg_none_of X G z_sorted, PySem.W.mg_none_of X G z_sum, PySem.W.mg_none_of X G z_tuple, PySem.W.mg_none_of X G z_zip, PySem.W.mg_of X G qChain, PySem.W.mg_of X G qFewest, PySem.W.mg_of X G qHigher, PySem.W.mg_of X G qRights, PySem.W.mg_of X G qStands, ⟨⟨⟨pg_Chain, hd_Chain, po_Chain, sa_Chain⟩, ha_Chain, hn_Chain, ht_Chain, hm_Chain⟩, fun f hf => by
    rw [List.mem_singleton] at hf
    subst hf
    exact no_Chain_stones⟩, ⟨⟨⟨pg_Stands, hd_Stands, po_Stands, sa_Stands⟩, ha_Stands, hn_Stands, ht_Stands, hm_Stands⟩, fun f hf => by
    rw [List.mem_singleton] at hf
    subst hf
    exact no_Stands_place⟩, ⟨⟨⟨pg_Fewest, hd_Fewest, po_Fewest, sa_Fewest⟩, ha_Fewest, hn_Fewest, ht_Fewest, hm_Fewest⟩, fun f hf => by
    rcases List.mem_cons.mp hf with z | z
    · subst z
      exact no_Fewest_pushes
    · rw [List.mem_singleton] at z
      subst z
      exact no_Fewest_stones⟩, ⟨⟨⟨pg_Rights, hd_Rights, po_Rights, sa_Rights⟩, ha_Rights, hn_Rights, ht_Rights, hm_Rights⟩, fun f hf => by
    rw [List.mem_singleton] at hf
    subst hf
    exact no_Rights_stones⟩, ⟨⟨⟨pg_Higher, hd_Higher, po_Higher, sa_Higher⟩, ha_Higher, hn_Higher, ht_Higher, hm_Higher⟩, fun f hf => by
    rcases List.mem_cons.mp hf with z | z
    · subst z
      exact no_Higher_number
    · rw [List.mem_singleton] at z
      subst z
      exact no_Higher_stone⟩⟩
  have F0 := fun_mk (st := s_is_number) l0 c0 k0
  have b0 := F0.binds (ps := ["thing"]) fun _ _ _ _ _ _ us hl => match us, hl with | [_], _ => rfl
  have F1 := fun_mk (st := s_is_pair) l1 c1 k1
  have b1 := F1.binds (ps := ["thing"]) fun _ _ _ _ _ _ us hl => match us, hl with | [_], _ => rfl
  have F2 := fun_mk (st := s_check_row) l2 c2 k2
  have b2 := F2.binds (ps := ["row"]) fun _ _ _ _ _ _ us hl => match us, hl with | [_], _ => rfl
  have F3 := fun_mk (st := s_check_stone) l3 c3 k3
  have b3 := F3.binds (ps := ["row", "stone"]) fun _ _ _ _ _ _ us hl => match us, hl with | [_, _], _ => rfl
  have F4 := fun_mk (st := s_check_side) l4 c4 k4
  have b4 := F4.binds (ps := ["side"]) fun _ _ _ _ _ _ us hl => match us, hl with | [_], _ => rfl
  have F5 := fun_mk (st := s_last_felled) l5 c5 k5
  have b5 := F5.binds (ps := ["row", "stone", "side"]) fun _ _ _ _ _ _ us hl => match us, hl with | [_, _, _], _ => rfl
  have F6 := fun_mk (st := s_felled_by) l6 c6 k6
  have b6 := F6.binds (ps := ["row", "stone", "side"]) fun _ _ _ _ _ _ us hl => match us, hl with | [_, _, _], _ => rfl
  have F7 := fun_mk (st := s_Chain_init) l7 c7 k7
  have b7 := F7.binds (ps := ["self", "stones"]) fun _ _ _ _ _ _ us hl => match us, hl with | [_, _], _ => rfl
  have F8 := fun_mk (st := s_Chain_shows) l8 c8 k8
  have b8 := F8.binds (ps := ["self", "row", "push", "stone"]) fun _ _ _ _ _ _ us hl => match us, hl with | [_, _, _, _], _ => rfl
  have F9 := fun_mk (st := s_Stands_init) l9 c9 k9
  have b9 := F9.binds (ps := ["self", "place"]) fun _ _ _ _ _ _ us hl => match us, hl with | [_, _], _ => rfl
  have F10 := fun_mk (st := s_Stands_shows) l10 c10 k10
  have b10 := F10.binds (ps := ["self", "row", "push", "stone"]) fun _ _ _ _ _ _ us hl => match us, hl with | [_, _, _, _], _ => rfl
  have F11 := fun_mk (st := s_Fewest_init) l11 c11 k11
  have b11 := F11.binds (ps := ["self", "pushes", "stones"]) fun _ _ _ _ _ _ us hl => match us, hl with | [_, _, _], _ => rfl
  have F12 := fun_mk (st := s_Fewest_shows) l12 c12 k12
  have b12 := F12.binds (ps := ["self", "row"]) fun _ _ _ _ _ _ us hl => match us, hl with | [_, _], _ => rfl
  have F13 := fun_mk (st := s_Rights_init) l13 c13 k13
  have b13 := F13.binds (ps := ["self", "stones"]) fun _ _ _ _ _ _ us hl => match us, hl with | [_, _], _ => rfl
  have F14 := fun_mk (st := s_Rights_shows) l14 c14 k14
  have b14 := F14.binds (ps := ["self", "row"]) fun _ _ _ _ _ _ us hl => match us, hl with | [_, _], _ => rfl
  have F15 := fun_mk (st := s_raised) l15 c15 k15
  have b15 := F15.binds (ps := ["row", "number"]) fun _ _ _ _ _ _ us hl => match us, hl with | [_, _], _ => rfl
  have F16 := fun_mk (st := s_Higher_init) l16 c16 k16
  have b16 := F16.binds (ps := ["self", "number", "stone"]) fun _ _ _ _ _ _ us hl => match us, hl with | [_, _, _], _ => rfl
  have F17 := fun_mk (st := s_Higher_shows) l17 c17 k17
  have b17 := F17.binds (ps := ["self", "row", "stone"]) fun _ _ _ _ _ _ us hl => match us, hl with | [_, _, _], _ => rfl
  have F18 := fun_mk (st := s_chain_to) l18 c18 k18
  have b18 := F18.binds (ps := ["row", "push", "stone"]) fun _ _ _ _ _ _ us hl => match us, hl with | [_, _, _], _ => rfl
  have F19 := fun_mk (st := s_reached) l19 c19 k19
  have b19 := F19.binds (ps := ["row", "push", "stone"]) fun _ _ _ _ _ _ us hl => match us, hl with | [_, _, _], _ => rfl
  have F20 := fun_mk (st := s_spans_of) l20 c20 k20
  have b20 := F20.binds (ps := ["row"]) fun _ _ _ _ _ _ us hl => match us, hl with | [_], _ => rfl
  have F21 := fun_mk (st := s_fewest) l21 c21 k21
  have b21 := F21.binds (ps := ["row"]) fun _ _ _ _ _ _ us hl => match us, hl with | [_], _ => rfl
  have F22 := fun_mk (st := s_rights) l22 c22 k22
  have b22 := F22.binds (ps := ["row"]) fun _ _ _ _ _ _ us hl => match us, hl with | [_], _ => rfl
  have F23 := fun_mk (st := s_law_row) l23 c23 k23
  have b23 := F23.binds (ps := ["_law_script"]) fun _ _ _ _ _ _ us hl => match us, hl with | [_], _ => rfl
  have F24 := fun_mk (st := s_law_felled) l24 c24 k24
  have b24 := F24.binds (ps := ["_law_row_here", "_law_stone", "_law_side"]) fun _ _ _ _ _ _ us hl => match us, hl with | [_, _, _], _ => rfl
  have F25 := fun_mk (st := s_law_chain) l25 c25 k25
  have b25 := F25.binds (ps := ["_law_row_here", "_law_push", "_law_stone", "_law_stones"]) fun _ _ _ _ _ _ us hl => match us, hl with | [_, _, _, _], _ => rfl
  have F26 := fun_mk (st := s_law_stands) l26 c26 k26
  have b26 := F26.binds (ps := ["_law_row_here", "_law_push", "_law_stone", "_law_far"]) fun _ _ _ _ _ _ us hl => match us, hl with | [_, _, _, _], _ => rfl
  have F27 := fun_mk (st := s_law_few) l27 c27 k27
  have b27 := F27.binds (ps := ["_law_row_here", "_law_pushes", "_law_stones"]) fun _ _ _ _ _ _ us hl => match us, hl with | [_, _, _], _ => rfl
  have F28 := fun_mk (st := s_law_rights) l28 c28 k28
  have b28 := F28.binds (ps := ["_law_row_here", "_law_stones"]) fun _ _ _ _ _ _ us hl => match us, hl with | [_, _], _ => rfl
  have F29 := fun_mk (st := s_law_higher) l29 c29 k29
  have b29 := F29.binds (ps := ["_law_row_here", "_law_stone", "_law_number", "_law_other"]) fun _ _ _ _ _ _ us hl => match us, hl with | [_, _, _, _], _ => rfl
  have F30 := fun_mk (st := s_law_says) l30 c30 k30
  have b30 := F30.binds (ps := ["_law_said", "_law_due"]) fun _ _ _ _ _ _ us hl => match us, hl with | [_, _], _ => rfl
  have F31 := fun_mk (st := s_law_bent) l31 c31 k31
  have b31 := F31.binds (ps := ["_law_some", "_law_script"]) fun _ _ _ _ _ _ us hl => match us, hl with | [_, _], _ => rfl
  have F32 := fun_mk (st := s_law_chains_right) l32 c32 k32
  have b32 := F32.binds (ps := ["_law_row_here", "_law_push", "_law_stone", "_law_script"]) fun _ _ _ _ _ _ us hl => match us, hl with | [_, _, _, _], _ => rfl
  have F33 := fun_mk (st := s_law_few_right) l33 c33 k33
  have b33 := F33.binds (ps := ["_law_row_here", "_law_script"]) fun _ _ _ _ _ _ us hl => match us, hl with | [_, _], _ => rfl
  have F34 := fun_mk (st := s_law_outright) l34 c34 k34
  have b34 := F34.binds (ps := []) fun _ _ _ _ _ _ us hl => match us, hl with | [], _ => rfl
  have F35 := fun_mk (st := s_law) l35 c35 k35
  have b35 := F35.binds (ps := ["_law_script"]) fun _ _ _ _ _ _ us hl => match us, hl with | [_], _ => rfl
  refine ⟨PySem.W.fnOf "law" "law" (defArgs s_law) (defBody s_law) (defScope s_law) .none kV35 dc35 pm35 an35 cd35 ct35, fun s v => .of_eq rfl, fun base _ _ => ?_⟩
  have g_is_number : Cal l.prog w K mg base CX0 1 "is_number" ["thing"] (sp_is_number K C) := ⟨_, _, ok_is_number F0 T, PySem.W.mg_of X G a0, k0, b0⟩
  have g_is_pair : Cal l.prog w K mg base CX0 2 "is_pair" ["thing"] (sp_is_pair K C) := ⟨_, _, ok_is_pair F1 T g_is_number, PySem.W.mg_of X G a1, k1, b1⟩
  have g_check_row : Cal l.prog w K mg base CX0 3 "check_row" ["row"] (sp_check_row K C) := ⟨_, _, ok_check_row F2 T g_is_pair, PySem.W.mg_of X G a2, k2, b2⟩
  have g_check_stone : Cal l.prog w K mg base CX0 2 "check_stone" ["row", "stone"] (sp_check_stone K C) := ⟨_, _, ok_check_stone F3 T g_is_number, PySem.W.mg_of X G a3, k3, b3⟩
  have g_check_side : Cal l.prog w K mg base CX0 2 "check_side" ["side"] (sp_check_side K C) := ⟨_, _, ok_check_side F4 T g_is_number, PySem.W.mg_of X G a4, k4, b4⟩
  have g_last_felled : Cal l.prog w K mg base CX0 1 "last_felled" ["row", "stone", "side"] (sp_last_felled K C) := ⟨_, _, ok_last_felled F5 T, PySem.W.mg_of X G a5, k5, b5⟩
  have g_felled_by : Cal l.prog w K mg base CX0 2 "felled_by" ["row", "stone", "side"] (sp_felled_by K C) := ⟨_, _, ok_felled_by F6 T g_last_felled, PySem.W.mg_of X G a6, k6, b6⟩
  have g_Chain_init : CalI l.prog w K mg base CX0 1 C.Chain ["self", "stones"] (sp_Chain_init K C) := ⟨_, _, ok_Chain_init F7 T, ⟨mk_Chain, a7, i7, kc_Chain⟩, b7⟩
  have g_Chain_shows : CalM l.prog w K mg base CX0 1 C.Chain "shows" ["self", "row", "push", "stone"] (sp_Chain_shows K C) := ⟨_, _, ok_Chain_shows F8 T, ⟨a8, i8, k8⟩, b8⟩
  have g_Stands_init : CalI l.prog w K mg base CX0 1 C.Stands ["self", "place"] (sp_Stands_init K C) := ⟨_, _, ok_Stands_init F9 T, ⟨mk_Stands, a9, i9, kc_Stands⟩, b9⟩
  have g_Stands_shows : CalM l.prog w K mg base CX0 1 C.Stands "shows" ["self", "row", "push", "stone"] (sp_Stands_shows K C) := ⟨_, _, ok_Stands_shows F10 T, ⟨a10, i10, k10⟩, b10⟩
  have g_Fewest_init : CalI l.prog w K mg base CX0 1 C.Fewest ["self", "pushes", "stones"] (sp_Fewest_init K C) := ⟨_, _, ok_Fewest_init F11 T, ⟨mk_Fewest, a11, i11, kc_Fewest⟩, b11⟩
  have g_Fewest_shows : CalM l.prog w K mg base CX0 3 C.Fewest "shows" ["self", "row"] (sp_Fewest_shows K C) := ⟨_, _, ok_Fewest_shows F12 T g_felled_by g_last_felled, ⟨a12, i12, k12⟩, b12⟩
  have g_Rights_init : CalI l.prog w K mg base CX0 1 C.Rights ["self", "stones"] (sp_Rights_init K C) := ⟨_, _, ok_Rights_init F13 T, ⟨mk_Rights, a13, i13, kc_Rights⟩, b13⟩
  have g_Rights_shows : CalM l.prog w K mg base CX0 2 C.Rights "shows" ["self", "row"] (sp_Rights_shows K C) := ⟨_, _, ok_Rights_shows F14 T g_last_felled, ⟨a14, i14, k14⟩, b14⟩
  have g_raised : Cal l.prog w K mg base CX0 1 "raised" ["row", "number"] (sp_raised K C) := ⟨_, _, ok_raised F15 T, PySem.W.mg_of X G a15, k15, b15⟩
  have g_Higher_init : CalI l.prog w K mg base CX0 1 C.Higher ["self", "number", "stone"] (sp_Higher_init K C) := ⟨_, _, ok_Higher_init F16 T, ⟨mk_Higher, a16, i16, kc_Higher⟩, b16⟩
  have g_Higher_shows : CalM l.prog w K mg base CX0 2 C.Higher "shows" ["self", "row", "stone"] (sp_Higher_shows K C) := ⟨_, _, ok_Higher_shows F17 T g_last_felled g_raised, ⟨a17, i17, k17⟩, b17⟩
  have g_chain_to : Cal l.prog w K mg base CX0 1 "chain_to" ["row", "push", "stone"] (sp_chain_to K C) := ⟨_, _, ok_chain_to F18 T, PySem.W.mg_of X G a18, k18, b18⟩
  have g_reached : Cal l.prog w K mg base CX0 4 "reached" ["row", "push", "stone"] (sp_reached K C) := ⟨_, _, ok_reached F19 T g_check_row g_check_stone g_check_side g_last_felled g_Chain_init g_chain_to g_Stands_init, PySem.W.mg_of X G a19, k19, b19⟩
  have g_spans_of : Cal l.prog w K mg base CX0 2 "spans_of" ["row"] (sp_spans_of K C) := ⟨_, _, ok_spans_of F20 T g_last_felled, PySem.W.mg_of X G a20, k20, b20⟩
  have g_fewest : Cal l.prog w K mg base CX0 4 "fewest" ["row"] (sp_fewest K C) := ⟨_, _, ok_fewest F21 T g_check_row g_spans_of g_Fewest_init, PySem.W.mg_of X G a21, k21, b21⟩
  have g_rights : Cal l.prog w K mg base CX0 4 "rights" ["row"] (sp_rights K C) := ⟨_, _, ok_rights F22 T g_check_row g_last_felled g_Rights_init, PySem.W.mg_of X G a22, k22, b22⟩
  have g_law_row : Cal l.prog w K mg base CX0 1 "_law_row" ["_law_script"] (sp_law_row K C) := ⟨_, _, ok_law_row F23 T, PySem.W.mg_of X G a23, k23, b23⟩
  have g_law_felled : Cal l.prog w K mg base CX0 1 "_law_felled" ["_law_row_here", "_law_stone", "_law_side"] (sp_law_felled K C) := ⟨_, _, ok_law_felled F24 T, PySem.W.mg_of X G a24, k24, b24⟩
  have g_law_chain : Cal l.prog w K mg base CX0 1 "_law_chain" ["_law_row_here", "_law_push", "_law_stone", "_law_stones"] (sp_law_chain K C) := ⟨_, _, ok_law_chain F25 T, PySem.W.mg_of X G a25, k25, b25⟩
  have g_law_stands : Cal l.prog w K mg base CX0 1 "_law_stands" ["_law_row_here", "_law_push", "_law_stone", "_law_far"] (sp_law_stands K C) := ⟨_, _, ok_law_stands F26 T, PySem.W.mg_of X G a26, k26, b26⟩
  have g_law_few : Cal l.prog w K mg base CX0 2 "_law_few" ["_law_row_here", "_law_pushes", "_law_stones"] (sp_law_few K C) := ⟨_, _, ok_law_few F27 T g_law_felled, PySem.W.mg_of X G a27, k27, b27⟩
  have g_law_rights : Cal l.prog w K mg base CX0 2 "_law_rights" ["_law_row_here", "_law_stones"] (sp_law_rights K C) := ⟨_, _, ok_law_rights F28 T g_law_felled, PySem.W.mg_of X G a28, k28, b28⟩
  have g_law_higher : Cal l.prog w K mg base CX0 2 "_law_higher" ["_law_row_here", "_law_stone", "_law_number", "_law_other"] (sp_law_higher K C) := ⟨_, _, ok_law_higher F29 T g_law_felled, PySem.W.mg_of X G a29, k29, b29⟩
  have g_law_says : Cal l.prog w K mg base CX0 1 "_law_says" ["_law_said", "_law_due"] (sp_law_says K C) := ⟨_, _, ok_law_says F30 T, PySem.W.mg_of X G a30, k30, b30⟩
  have g_law_bent : Cal l.prog w K mg base CX0 1 "_law_bent" ["_law_some", "_law_script"] (sp_law_bent K C) := ⟨_, _, ok_law_bent F31 T, PySem.W.mg_of X G a31, k31, b31⟩
  have g_law_chains_right : Cal l.prog w K mg base CX0 5 "_law_chains_right" ["_law_row_here", "_law_push", "_law_stone", "_law_script"] (sp_law_chains_right K C) := ⟨_, _, ok_law_chains_right F32 T g_law_felled g_reached g_law_bent g_Chain_init g_law_chain g_law_says g_Chain_shows g_Stands_init g_law_stands g_Stands_shows, PySem.W.mg_of X G a32, k32, b32⟩
  have g_law_few_right : Cal l.prog w K mg base CX0 5 "_law_few_right" ["_law_row_here", "_law_script"] (sp_law_few_right K C) := ⟨_, _, ok_law_few_right F33 T g_fewest g_rights g_law_bent g_Fewest_init g_law_says g_law_few g_Fewest_shows g_Rights_init g_law_rights g_Rights_shows, PySem.W.mg_of X G a33, k33, b33⟩
  have g_law_outright : Cal l.prog w K mg base CX0 4 "_law_outright" [] (sp_law_outright K C) := ⟨_, _, ok_law_outright F34 T g_Chain_init g_Chain_shows g_Fewest_init g_Fewest_shows g_Stands_init g_Stands_shows g_Higher_init g_Higher_shows g_Rights_init g_Rights_shows g_law_says, PySem.W.mg_of X G a34, k34, b34⟩
  exact ok_law F35 T g_law_row g_law_outright g_law_chains_right g_law_higher g_law_says g_Higher_init g_Higher_shows g_law_few_right
end FR
open PySem PySem.W PyProof.Rows
set_option maxHeartbeats 0 in
theorem PySem.Challenge.cw_fallrow_k06_answers_by_hand_holds : PySem.Challenge.rw_fallrow_k06_answers_by_hand.Holds := by
  w_on; o_law; k_head; (case hw => w_witness2)
  k_fill
  refine L2.walk_of (l := PySem.Challenge.rw_fallrow_k06_answers_by_hand) (n := 63) (k := 6) (x := "_law_script") (CX := fun _ => L2.CX0) (sp := fun w => FR.FnP _ FR.P_law) rfl (by decide) rfl ⟨rfl, by decide, by decide⟩ (fun w h Y => PySem.W.kIn_of Y) ?F (fun _ _ a ns hl _ hS => FR.law_sp hl hS) (fun _ _ _ _ _ h => h)
  case F =>
    intro w mg fa h KX G hmg
    refine' FR.all_mk KX G hmg ?qAnswer ?qChain ?qStands ?qFewest ?qRights ?qHigher ?a0 ?l0 ?c0 ?k0 ?a1 ?l1 ?c1 ?k1 ?a2 ?l2 ?c2 ?k2 ?a3 ?l3 ?c3 ?k3 ?a4 ?l4 ?c4 ?k4 ?a5 ?l5 ?c5 ?k5 ?a6 ?l6 ?c6 ?k6 ?a7 ?i7 ?l7 ?c7 ?k7 ?a8 ?i8 ?l8 ?c8 ?k8 ?a9 ?i9 ?l9 ?c9 ?k9 ?a10 ?i10 ?l10 ?c10 ?k10 ?a11 ?i11 ?l11 ?c11 ?k11 ?a12 ?i12 ?l12 ?c12 ?k12 ?a13 ?i13 ?l13 ?c13 ?k13 ?a14 ?i14 ?l14 ?c14 ?k14 ?a15 ?l15 ?c15 ?k15 ?a16 ?i16 ?l16 ?c16 ?k16 ?a17 ?i17 ?l17 ?c17 ?k17 ?a18 ?l18 ?c18 ?k18 ?a19 ?l19 ?c19 ?k19 ?a20 ?l20 ?c20 ?k20 ?a21 ?l21 ?c21 ?k21 ?a22 ?l22 ?c22 ?k22 ?a23 ?l23 ?c23 ?k23 ?a24 ?l24 ?c24 ?k24 ?a25 ?l25 ?c25 ?k25 ?a26 ?l26 ?c26 ?k26 ?a27 ?l27 ?c27 ?k27 ?a28 ?l28 ?c28 ?k28 ?a29 ?l29 ?c29 ?k29 ?a30 ?l30 ?c30 ?k30 ?a31 ?l31 ?c31 ?k31 ?a32 ?l32 ?c32 ?k32 ?a33 ?l33 ?c33 ?k33 ?a34 ?l34 ?c34 ?k34 ?a35 ?l35 ?c35 ?k35 ?pg_Chain ?hd_Chain ?po_Chain ?sa_Chain ?ha_Chain ?hn_Chain ?ht_Chain ?hm_Chain ?mk_Chain ?kc_Chain ?no_Chain_stones ?pg_Stands ?hd_Stands ?po_Stands ?sa_Stands ?ha_Stands ?hn_Stands ?ht_Stands ?hm_Stands ?mk_Stands ?kc_Stands ?no_Stands_place ?pg_Fewest ?hd_Fewest ?po_Fewest ?sa_Fewest ?ha_Fewest ?hn_Fewest ?ht_Fewest ?hm_Fewest ?mk_Fewest ?kc_Fewest ?no_Fewest_pushes ?no_Fewest_stones ?pg_Rights ?hd_Rights ?po_Rights ?sa_Rights ?ha_Rights ?hn_Rights ?ht_Rights ?hm_Rights ?mk_Rights ?kc_Rights ?no_Rights_stones ?pg_Higher ?hd_Higher ?po_Higher ?sa_Higher ?ha_Higher ?hn_Higher ?ht_Higher ?hm_Higher ?mk_Higher ?kc_Higher ?no_Higher_number ?no_Higher_stone ?z_all ?z_any ?z_bool ?z_int ?z_isinstance ?z_len ?z_list ?z_max ?z_min ?z_range ?z_set ?z_sorted ?z_sum ?z_tuple ?z_zip
    (case qAnswer => k_is)
    (case qChain => k_is)
    (case qStands => k_is)
    (case qFewest => k_is)
    (case qRights => k_is)
    (case qHigher => k_is)
    (case a0 => k_is)
    (case l0 => k_is)
    (case c0 => k_is)
    (case k0 => k_is)
    (case a1 => k_is)
    (case l1 => k_is)
    (case c1 => k_is)
    (case k1 => k_is)
    (case a2 => k_is)
    (case l2 => k_is)
    (case c2 => k_is)
    (case k2 => k_is)
    (case a3 => k_is)
    (case l3 => k_is)
    (case c3 => k_is)
    (case k3 => k_is)
    (case a4 => k_is)
    (case l4 => k_is)
    (case c4 => k_is)
    (case k4 => k_is)
    (case a5 => k_is)
    (case l5 => k_is)
    (case c5 => k_is)
    (case k5 => k_is)
    (case a6 => k_is)
    (case l6 => k_is)
    (case c6 => k_is)
    (case k6 => k_is)
    (case a7 => k_is)
    (case i7 => k_is)
    (case l7 => k_is)
    (case c7 => k_is)
    (case k7 => k_is)
    (case a8 => k_is)
    (case i8 => k_is)
    (case l8 => k_is)
    (case c8 => k_is)
    (case k8 => k_is)
    (case a9 => k_is)
    (case i9 => k_is)
    (case l9 => k_is)
    (case c9 => k_is)
    (case k9 => k_is)
    (case a10 => k_is)
    (case i10 => k_is)
    (case l10 => k_is)
    (case c10 => k_is)
    (case k10 => k_is)
    (case a11 => k_is)
    (case i11 => k_is)
    (case l11 => k_is)
    (case c11 => k_is)
    (case k11 => k_is)
    (case a12 => k_is)
    (case i12 => k_is)
    (case l12 => k_is)
    (case c12 => k_is)
    (case k12 => k_is)
    (case a13 => k_is)
    (case i13 => k_is)
    (case l13 => k_is)
    (case c13 => k_is)
    (case k13 => k_is)
    (case a14 => k_is)
    (case i14 => k_is)
    (case l14 => k_is)
    (case c14 => k_is)
    (case k14 => k_is)
    (case a15 => k_is)
    (case l15 => k_is)
    (case c15 => k_is)
    (case k15 => k_is)
    (case a16 => k_is)
    (case i16 => k_is)
    (case l16 => k_is)
    (case c16 => k_is)
    (case k16 => k_is)
    (case a17 => k_is)
    (case i17 => k_is)
    (case l17 => k_is)
    (case c17 => k_is)
    (case k17 => k_is)
    (case a18 => k_is)
    (case l18 => k_is)
    (case c18 => k_is)
    (case k18 => k_is)
    (case a19 => k_is)
    (case l19 => k_is)
    (case c19 => k_is)
    (case k19 => k_is)
    (case a20 => k_is)
    (case l20 => k_is)
    (case c20 => k_is)
    (case k20 => k_is)
    (case a21 => k_is)
    (case l21 => k_is)
    (case c21 => k_is)
    (case k21 => k_is)
    (case a22 => k_is)
    (case l22 => k_is)
    (case c22 => k_is)
    (case k22 => k_is)
    (case a23 => k_is)
    (case l23 => k_is)
    (case c23 => k_is)
    (case k23 => k_is)
    (case a24 => k_is)
    (case l24 => k_is)
    (case c24 => k_is)
    (case k24 => k_is)
    (case a25 => k_is)
    (case l25 => k_is)
    (case c25 => k_is)
    (case k25 => k_is)
    (case a26 => k_is)
    (case l26 => k_is)
    (case c26 => k_is)
    (case k26 => k_is)
    (case a27 => k_is)
    (case l27 => k_is)
    (case c27 => k_is)
    (case k27 => k_is)
    (case a28 => k_is)
    (case l28 => k_is)
    (case c28 => k_is)
    (case k28 => k_is)
    (case a29 => k_is)
    (case l29 => k_is)
    (case c29 => k_is)
    (case k29 => k_is)
    (case a30 => k_is)
    (case l30 => k_is)
    (case c30 => k_is)
    (case k30 => k_is)
    (case a31 => k_is)
    (case l31 => k_is)
    (case c31 => k_is)
    (case k31 => k_is)
    (case a32 => k_is)
    (case l32 => k_is)
    (case c32 => k_is)
    (case k32 => k_is)
    (case a33 => k_is)
    (case l33 => k_is)
    (case c33 => k_is)
    (case k33 => k_is)
    (case a34 => k_is)
    (case l34 => k_is)
    (case c34 => k_is)
    (case k34 => k_is)
    (case a35 => k_is)
    (case l35 => k_is)
    (case c35 => k_is)
    (case k35 => k_is)
    (case pg_Chain => k_is)
    (case hd_Chain => k_is)
    (case po_Chain => k_is)
    (case sa_Chain => k_is)
    (case ha_Chain => k_is)
    (case hn_Chain => k_is)
    (case ht_Chain => k_is)
    (case hm_Chain => k_is)
    (case mk_Chain => k_is)
    (case kc_Chain => k_is)
    (case no_Chain_stones => k_is)
    (case pg_Stands => k_is)
    (case hd_Stands => k_is)
    (case po_Stands => k_is)
    (case sa_Stands => k_is)
    (case ha_Stands => k_is)
    (case hn_Stands => k_is)
    (case ht_Stands => k_is)
    (case hm_Stands => k_is)
    (case mk_Stands => k_is)
    (case kc_Stands => k_is)
    (case no_Stands_place => k_is)
    (case pg_Fewest => k_is)
    (case hd_Fewest => k_is)
    (case po_Fewest => k_is)
    (case sa_Fewest => k_is)
    (case ha_Fewest => k_is)
    (case hn_Fewest => k_is)
    (case ht_Fewest => k_is)
    (case hm_Fewest => k_is)
    (case mk_Fewest => k_is)
    (case kc_Fewest => k_is)
    (case no_Fewest_pushes => k_is)
    (case no_Fewest_stones => k_is)
    (case pg_Rights => k_is)
    (case hd_Rights => k_is)
    (case po_Rights => k_is)
    (case sa_Rights => k_is)
    (case ha_Rights => k_is)
    (case hn_Rights => k_is)
    (case ht_Rights => k_is)
    (case hm_Rights => k_is)
    (case mk_Rights => k_is)
    (case kc_Rights => k_is)
    (case no_Rights_stones => k_is)
    (case pg_Higher => k_is)
    (case hd_Higher => k_is)
    (case po_Higher => k_is)
    (case sa_Higher => k_is)
    (case ha_Higher => k_is)
    (case hn_Higher => k_is)
    (case ht_Higher => k_is)
    (case hm_Higher => k_is)
    (case mk_Higher => k_is)
    (case kc_Higher => k_is)
    (case no_Higher_number => k_is)
    (case no_Higher_stone => k_is)
    (case z_all => k_is)
    (case z_any => k_is)
    (case z_bool => k_is)
    (case z_int => k_is)
    (case z_isinstance => k_is)
    (case z_len => k_is)
    (case z_list => k_is)
    (case z_max => k_is)
    (case z_min => k_is)
    (case z_range => k_is)
    (case z_set => k_is)
    (case z_sorted => k_is)
    (case z_sum => k_is)
    (case z_tuple => k_is)
    (case z_zip => k_is)

