import PyProof.Rows.All
import Wide.All
import OpenK.AllK
import Wide.FinOn
import HandS.ForMost
import HandS.Evl
import HandS.Steps
import HandS.Style
import HandS.IsInst
import HandS.Strs
import HandS.SortInts
import HandS.Conv
import HandS.Wide
import HandS.Walk
import HandS.Exc
import HandS.ExcCtx
import HandS.ExcOwn
import HandS.ExcIs
import HandS.WordsExc
import HandS.SuiteRaise
import HandS.HotCalls
import PySem.Challenge.RW_fallrow_k08_refused
set_option Elab.async false
set_option linter.all false
set_option maxRecDepth 100000
set_option maxHeartbeats 8000000
/-! Values as data: what a slot holds is told as a tree of data, the heap stays behind. -/
namespace FR
open PySem L2 Evl

/-! ### data -/
inductive Da where
  | non | bl (b : Bool) | int (i : Int) | str (s : Str) | ty (n : String) | cls (C : Addr)
  | lst (ds : List Da) | sq (ds : List Da) | tup (ds : List Da) | obj (C : Addr) (ns : List Str) (ds : List Da) | emp

mutual
def Rp (K : PySem.W.Frag) (B : Hp) : Da → V → Prop
  | .non, v => v = .non
  | .bl b, v => v = .bl b
  | .int i, v => v = .int i
  | .str s, v => v = .str s
  | .ty n, v => v = .ty n
  | .cls C, v => v = .ref C
  | .lst ds, v => ∃ a xs, v = .ref a ∧ B a = some (.lst xs) ∧ RpAll K B ds xs
  | .sq ds, v => ∃ a xs, v = .ref a ∧ SqL K B a xs ∧ RpAll K B ds xs
  | .tup ds, v => ∃ a xs, v = .ref a ∧ B a = some (.tup xs) ∧ RpAll K B ds xs
  | .obj C ns ds, v => ∃ a dx xs, v = .ref a ∧ B a = some (.ins C dx (ns.zip xs)) ∧ xs.length = ns.length ∧ RpAll K B ds xs
  | .emp, v => ∃ a, v = .ref a ∧ B a = some (.dK [])
def RpAll (K : PySem.W.Frag) (B : Hp) : List Da → List V → Prop
  | [], vs => vs = []
  | d :: ds, vs => ∃ v r, vs = v :: r ∧ Rp K B d v ∧ RpAll K B ds r
end
section
variable {K : PySem.W.Frag} {B B' H H' H1 H2 : Hp}
mutual
theorem Rp.mono (e : Ex B B') : ∀ (d : Da) (v : V), Rp K B d v → Rp K B' d v
  | .non, v, h => by simpa only [Rp] using h
  | .bl b, v, h => by simpa only [Rp] using h
  | .int i, v, h => by simpa only [Rp] using h
  | .str s, v, h => by simpa only [Rp] using h
  | .ty n, v, h => by simpa only [Rp] using h
  | .cls C, v, h => by simpa only [Rp] using h
  | .lst ds, v, h => by
    simp only [Rp] at h ⊢
    obtain ⟨a, xs, h1, h2, h3⟩ := h
    exact ⟨a, xs, h1, e _ _ h2, RpAll.mono e ds xs h3⟩
  | .sq ds, v, h => by
    simp only [Rp] at h ⊢
    obtain ⟨a, xs, h1, h2, h3⟩ := h
    exact ⟨a, xs, h1, ex_l e h2, RpAll.mono e ds xs h3⟩
  | .tup ds, v, h => by
    simp only [Rp] at h ⊢
    obtain ⟨a, xs, h1, h2, h3⟩ := h
    exact ⟨a, xs, h1, e _ _ h2, RpAll.mono e ds xs h3⟩
  | .obj C ns ds, v, h => by
    simp only [Rp] at h ⊢
    obtain ⟨a, dx, xs, h1, h2, h3, h4⟩ := h
    exact ⟨a, dx, xs, h1, e _ _ h2, h3, RpAll.mono e ds xs h4⟩
  | .emp, v, h => by
    simp only [Rp] at h ⊢
    obtain ⟨a, h1, h2⟩ := h
    exact ⟨a, h1, e _ _ h2⟩
theorem RpAll.mono (e : Ex B B') : ∀ (ds : List Da) (vs : List V), RpAll K B ds vs → RpAll K B' ds vs
  | [], vs, h => by simpa only [RpAll] using h
  | d :: ds, vs, h => by
    simp only [RpAll] at h ⊢
    obtain ⟨v, r, h1, h2, h3⟩ := h
    exact ⟨v, r, h1, Rp.mono e d v h2, RpAll.mono e ds r h3⟩
end
theorem RpAll.nil : RpAll K B [] [] := by simp only [RpAll]
theorem RpAll.cons {d : Da} {v : V} {ds : List Da} {vs : List V} (h : Rp K B d v) (t : RpAll K B ds vs) : RpAll K B (d :: ds) (v :: vs) := by
  simp only [RpAll]
  exact ⟨v, vs, rfl, h, t⟩
theorem RpAll.uncons {d : Da} {ds : List Da} {vs : List V} (h : RpAll K B (d :: ds) vs) : ∃ v r, vs = v :: r ∧ Rp K B d v ∧ RpAll K B ds r := by
  simpa only [RpAll] using h
theorem RpAll.len : ∀ {ds : List Da} {vs : List V}, RpAll K B ds vs → vs.length = ds.length
  | [], vs, h => by
    have e : vs = [] := by simpa only [RpAll] using h
    rw [e]
    rfl
  | d :: ds, vs, h => by
    obtain ⟨v, r, rfl, _, h3⟩ := h.uncons
    rw [List.length_cons, List.length_cons, h3.len]
theorem RpAll.get : ∀ {ds : List Da} {vs : List V} {i : Nat} {d : Da}, RpAll K B ds vs → ds[i]? = some d → ∃ v, vs[i]? = some v ∧ Rp K B d v
  | [], vs, i, d, h, e => by simp at e
  | x :: ds, vs, 0, d, h, e => by
    obtain ⟨v, r, rfl, h2, h3⟩ := h.uncons
    simp only [List.getElem?_cons_zero, Option.some.injEq] at e
    subst e
    exact ⟨v, rfl, h2⟩
  | x :: ds, vs, i + 1, d, h, e => by
    obtain ⟨v, r, rfl, h2, h3⟩ := h.uncons
    simp only [List.getElem?_cons_succ] at e ⊢
    exact h3.get e
theorem RpAll.getV : ∀ {ds : List Da} {vs : List V} {i : Nat} {v : V}, RpAll K B ds vs → vs[i]? = some v → ∃ d, ds[i]? = some d ∧ Rp K B d v
  | [], vs, i, v, h, e => by
    have q : vs = [] := by simpa only [RpAll] using h
    subst q
    simp at e
  | x :: ds, vs, 0, v, h, e => by
    obtain ⟨w, r, rfl, h2, h3⟩ := h.uncons
    simp only [List.getElem?_cons_zero, Option.some.injEq] at e
    subst e
    exact ⟨x, rfl, h2⟩
  | x :: ds, vs, i + 1, v, h, e => by
    obtain ⟨w, r, rfl, h2, h3⟩ := h.uncons
    simp only [List.getElem?_cons_succ] at e ⊢
    exact h3.getV e
theorem RpAll.app : ∀ {ds es : List Da} {vs us : List V}, RpAll K B ds vs → RpAll K B es us → RpAll K B (ds ++ es) (vs ++ us)
  | [], es, vs, us, h, t => by
    have q : vs = [] := by simpa only [RpAll] using h
    subst q
    exact t
  | x :: ds, es, vs, us, h, t => by
    obtain ⟨w, r, rfl, h2, h3⟩ := h.uncons
    exact RpAll.cons h2 (h3.app t)
theorem RpAll.drop : ∀ {ds : List Da} {vs : List V} (n : Nat), RpAll K B ds vs → RpAll K B (ds.drop n) (vs.drop n)
  | ds, vs, 0, h => h
  | [], vs, n + 1, h => by
    have q : vs = [] := by simpa only [RpAll] using h
    subst q
    exact h
  | x :: ds, vs, n + 1, h => by
    obtain ⟨w, r, rfl, h2, h3⟩ := h.uncons
    exact h3.drop n
theorem RpAll.take : ∀ {ds : List Da} {vs : List V} (n : Nat), RpAll K B ds vs → RpAll K B (ds.take n) (vs.take n)
  | ds, vs, 0, h => by
    rw [List.take_zero, List.take_zero]
    exact .nil
  | [], vs, n + 1, h => by
    have q : vs = [] := by simpa only [RpAll] using h
    subst q
    exact h
  | x :: ds, vs, n + 1, h => by
    obtain ⟨w, r, rfl, h2, h3⟩ := h.uncons
    exact .cons h2 (h3.take n)
theorem RpAll.rev : ∀ {ds : List Da} {vs : List V}, RpAll K B ds vs → RpAll K B ds.reverse vs.reverse
  | [], vs, h => by
    have q : vs = [] := by simpa only [RpAll] using h
    subst q
    exact h
  | x :: ds, vs, h => by
    obtain ⟨w, r, rfl, h2, h3⟩ := h.uncons
    rw [List.reverse_cons, List.reverse_cons]
    exact h3.rev.app (.cons h2 .nil)
theorem RpAll.set : ∀ {ds : List Da} {vs : List V} {d : Da} {v : V} (i : Nat), RpAll K B ds vs → Rp K B d v → RpAll K B (ds.set i d) (vs.set i v)
  | [], vs, d, v, i, h, g => by
    have q : vs = [] := by simpa only [RpAll] using h
    subst q
    exact h
  | x :: ds, vs, d, v, 0, h, g => by
    obtain ⟨w, r, rfl, h2, h3⟩ := h.uncons
    exact .cons g h3
  | x :: ds, vs, d, v, i + 1, h, g => by
    obtain ⟨w, r, rfl, h2, h3⟩ := h.uncons
    exact .cons h2 (h3.set i g)
theorem RpAll.dropLast {ds : List Da} {vs : List V} (h : RpAll K B ds vs) : RpAll K B ds.dropLast vs.dropLast := by
  rw [List.dropLast_eq_take, List.dropLast_eq_take, h.len]
  exact h.take _
/-- scalars: the heap does not matter -/
def isSc : Da → Bool
  | .non | .bl _ | .int _ | .str _ | .ty _ | .cls _ => true
  | _ => false
theorem Rp.sc {d : Da} {v : V} (hs : isSc d = true) (h : Rp K B d v) : Rp K B' d v := by
  cases d <;> first | (simpa only [Rp] using h) | (cases hs)
theorem RpAll.sc : ∀ {ds : List Da} {vs : List V}, ds.all isSc = true → RpAll K B ds vs → RpAll K B' ds vs
  | [], vs, _, h => by simpa only [RpAll] using h
  | d :: ds, vs, hs, h => by
    obtain ⟨v, r, rfl, h2, h3⟩ := h.uncons
    rw [List.all_cons, Bool.and_eq_true] at hs
    exact .cons (h2.sc hs.1) (h3.sc hs.2)
theorem rp_ints : ∀ {ns : List Int} {vs : List V}, RpAll K B (ns.map Da.int) vs → vs = ns.map V.int
  | [], vs, h => by simpa only [RpAll, List.map_nil] using h
  | n :: ns, vs, h => by
    rw [List.map_cons] at h ⊢
    obtain ⟨v, r, rfl, h2, h3⟩ := h.uncons
    have e : v = V.int n := by simpa only [Rp] using h2
    rw [e, rp_ints h3]
theorem ints_rp : ∀ (ns : List Int), RpAll K B (ns.map Da.int) (ns.map V.int)
  | [] => .nil
  | n :: ns => .cons (by simp only [Rp]) (ints_rp ns)
theorem rp_bls : ∀ {ns : List Bool} {vs : List V}, RpAll K B (ns.map Da.bl) vs → vs = ns.map V.bl
  | [], vs, h => by simpa only [RpAll, List.map_nil] using h
  | n :: ns, vs, h => by
    rw [List.map_cons] at h ⊢
    obtain ⟨v, r, rfl, h2, h3⟩ := h.uncons
    have e : v = V.bl n := by simpa only [Rp] using h2
    rw [e, rp_bls h3]
theorem rp_atI {ds : List Da} {vs : List V} {i : Int} {d : Da} (h : RpAll K B ds vs) (e : atI ds i = some d) : ∃ v, atI vs i = some v ∧ Rp K B d v := by
  unfold atI at e ⊢
  rw [h.len]
  cases hx : ixN ds.length i with
  | none =>
    rw [hx] at e
    cases e
  | some j =>
    rw [hx] at e
    exact h.get e
def cutD (ds : List Da) (lo hi : Option Int) : List Da := (ds.drop (HT.sIx ds.length 0 lo)).take (HT.sIx ds.length ds.length hi - HT.sIx ds.length 0 lo)
theorem rp_cut {ds : List Da} {vs : List V} {lo hi : Option Int} (h : RpAll K B ds vs) : RpAll K B (cutD ds lo hi) (cutV vs lo hi) := by
  unfold cutD cutV
  rw [h.len]
  exact (h.drop _).take _
/-- a dict's pairs -/
def KvR (K : PySem.W.Frag) (B : Hp) : List (Int × Da) → List (Key × V) → Prop
  | [], ws => ws = []
  | (k, d) :: r, ws => ∃ v t, ws = (Sum.inl k, v) :: t ∧ Rp K B d v ∧ KvR K B r t
theorem KvR.mono (e : Ex B B') : ∀ {kvs : List (Int × Da)} {ws : List (Key × V)}, KvR K B kvs ws → KvR K B' kvs ws
  | [], ws, h => h
  | (k, d) :: r, ws, h => by
    obtain ⟨v, t, h1, h2, h3⟩ := h
    exact ⟨v, t, h1, h2.mono e, h3.mono e⟩
theorem KvR.len : ∀ {kvs : List (Int × Da)} {ws : List (Key × V)}, KvR K B kvs ws → ws.length = kvs.length
  | [], ws, h => by
    have e : ws = [] := h
    rw [e]
    rfl
  | (k, d) :: r, ws, h => by
    obtain ⟨v, t, rfl, h2, h3⟩ := h
    rw [List.length_cons, List.length_cons, h3.len]
def valD : List (Int × Da) → Int → Option Da
  | [], _ => none
  | (k, d) :: r, j => if k = j then some d else valD r j
def putD (kvs : List (Int × Da)) (k : Int) (d : Da) : List (Int × Da) :=
  if (kvs.any fun kv => decide (kv.1 = k)) = true then kvs.map (fun kv => if kv.1 = k then (kv.1, d) else kv) else kvs ++ [(k, d)]
end

/-! ### slots -/
inductive Sl where
  | no
  | im (d : Da)
  | mu (ds : List Da)
  | md (kvs : List (Int × Da))
  | ob (C : Addr) (ns : List Str) (dss : List (List Da))
abbrev En := List Sl
def imm1 : Sl → Sl
  | .im d => .im d
  | _ => .no
def frz1 : Sl → Sl
  | .im d => .im d
  | .mu ds => .im (.lst ds)
  | .md kvs => .md kvs
  | .ob C ns dss => .im (.obj C ns (dss.map Da.lst))
  | .no => .no
abbrev imm (env : En) : En := env.map imm1
abbrev frz (env : En) : En := env.map frz1
/-- a view: no slot of one's own but dicts that are read -/
def SlV (K : PySem.W.Frag) (B : Hp) (o : Option (Option V)) : Sl → Prop
  | .im d => ∃ v, o = some (some v) ∧ Rp K B d v
  | .md kvs => ∃ a ws, o = some (some (.ref a)) ∧ B a = some (.dK ws) ∧ KvR K B kvs ws
  | _ => True
structure SD (K : PySem.W.Frag) (B : Hp) (σ : L2.St) (env : En) : Prop where
  len : env.length = σ.length
  sl : ∀ (i : Nat) s, env[i]? = some s → SlV K B (σ[i]?) s
structure Gr (B H1 B' H2 : Hp) : Prop where
  b : Ex B B'
  h : Ex B' H2
  k : Ex H1 H2
  n : ∀ a, H1 a ≠ none → B' a = B a
section
variable {K : PySem.W.Frag} {B B' B1 B2 H H' H1 H2 H3 : Hp}
theorem Gr.refl (e : Ex B H) : Gr B H B H := ⟨Ex.refl _, e, Ex.refl _, fun _ _ => rfl⟩
theorem Gr.keep (e : Ex B H1) (k : Ex H1 H2) : Gr B H1 B H2 := ⟨Ex.refl _, e.trans k, k, fun _ _ => rfl⟩
theorem Gr.trans (g : Gr B H1 B1 H2) (g' : Gr B1 H2 B2 H3) : Gr B H1 B2 H3 := ⟨g.b.trans g'.b, g'.h, g.k.trans g'.k, fun a h => by
  have h2 : H2 a ≠ none := fun z => by
    cases e : H1 a with
    | none => exact h e
    | some o =>
      rw [g.k a o e] at z
      cases z
  rw [g'.n a h2, g.n a h]⟩
theorem Gr.lay (e : Ex B H1) {p : Addr} {o : HO} (hp : H1 p = none) : Gr B H1 (upd B p o) (upd H1 p o) := by
  have hb : B p = none := fresh_back e hp
  refine ⟨Ex.new hb, fun a u h => ?_, Ex.new hp, fun a h => ?_⟩
  · by_cases q : a = p
    · subst q
      rw [upd_same] at h ⊢
      exact h
    · rw [upd_ne q] at h ⊢
      exact e a u h
  · exact upd_ne fun q => h (q ▸ hp)
/-- a new place, not (yet) told as data -/
theorem Gr.put (e : Ex B H1) {p : Addr} {o : HO} (hp : H1 p = none) : Gr B H1 B (upd H1 p o) := Gr.keep e (Ex.new hp)
theorem SlV.mono {o : Option (Option V)} {s : Sl} (e : Ex B B') (h : SlV K B o s) : SlV K B' o s := by
  cases s with
  | im d =>
    obtain ⟨v, h1, h2⟩ := h
    exact ⟨v, h1, h2.mono e⟩
  | md kvs =>
    obtain ⟨a, ws, h1, h2, h3⟩ := h
    exact ⟨a, ws, h1, e _ _ h2, h3.mono e⟩
  | _ => trivial
theorem SD.mono {σ : L2.St} {env : En} (e : Ex B B') (h : SD K B σ env) : SD K B' σ env := ⟨h.len, fun i s q => (h.sl i s q).mono e⟩
theorem SD.set {σ : L2.St} {env : En} {i : Nat} {v : V} {d : Da} (h : SD K B σ env) (hd : Rp K B d v) : SD K B (σ.set i (some v)) (env.set i (.im d)) := by
  refine ⟨by rw [List.length_set, List.length_set, h.len], fun j s q => ?_⟩
  by_cases e : i = j
  · subst e
    rw [List.getElem?_set_self'] at q
    cases hi : env[i]? with
    | none =>
      rw [hi] at q
      cases q
    | some t =>
      rw [hi] at q
      cases q
      have hl : i < σ.length := by
        rw [← h.len]
        exact (List.getElem?_eq_some_iff.mp hi).1
      exact ⟨v, by rw [List.getElem?_set_self hl], hd⟩
  · rw [List.getElem?_set_ne e] at q ⊢
    exact h.sl j s q
theorem SD.unset {σ : L2.St} {env : En} {i : Nat} {o : Option V} (h : SD K B σ env) : SD K B (σ.set i o) (env.set i .no) := by
  refine ⟨by rw [List.length_set, List.length_set, h.len], fun j s q => ?_⟩
  by_cases e : i = j
  · subst e
    rw [List.getElem?_set_self'] at q
    cases hi : env[i]? with
    | none =>
      rw [hi] at q
      cases q
    | some t =>
      rw [hi] at q
      cases q
      trivial
  · rw [List.getElem?_set_ne e] at q ⊢
    exact h.sl j s q
def wipeE (env : En) : List Nat → En
  | [] => env
  | v :: vs => (wipeE env vs).set v .no
theorem SD.wipe {σ : L2.St} {env : En} (h : SD K B σ env) : ∀ vs : List Nat, SD K B (L2.wipe σ vs) (wipeE env vs)
  | [] => h
  | v :: vs => (h.wipe vs).unset
end

/-! ### expressions -/
section
variable (K : PySem.W.Frag)
def EvE (te : TE) (env : En) (d : Da) : Prop := ∀ σ B, SD K B σ env → ∀ H1, Ex B H1 → ∀ Q : VK, (∀ v B' H2, Gr B H1 B' H2 → Rp K B' d v → Q v H2) → te σ H1 Q
def EvN (te : TE) (env : En) (ds : List Da) : Prop := ∀ σ B, SD K B σ env → ∀ H1, Ex B H1 → ∀ Q : VK, (∀ p xs B' H2, Gr B H1 B' H2 → H1 p = none → B' p = none → H2 p = some (.lst xs) → RpAll K B' ds xs → Q (.ref p) H2) → te σ H1 Q
def EvD (te : TE) (env : En) (kvs : List (Int × Da)) : Prop := ∀ σ B, SD K B σ env → ∀ H1, Ex B H1 → ∀ Q : VK, (∀ p ws B' H2, Gr B H1 B' H2 → H1 p = none → B' p = none → H2 p = some (.dK ws) → KvR K B' kvs ws → Q (.ref p) H2) → te σ H1 Q
def EvB (tt : TT) (env : En) (b : Bool) : Prop := ∀ σ B, SD K B σ env → ∀ H1, Ex B H1 → ∀ Q : Bool → Hp → Prop, (∀ H2, Ex H1 H2 → Q b H2) → tt σ H1 Q
def EvA (ta : TA) (env : En) (ds : List Da) : Prop := ∀ σ B, SD K B σ env → ∀ H1, Ex B H1 → ∀ Q : List V → Hp → Prop, (∀ vs B' H2, Gr B H1 B' H2 → RpAll K B' ds vs → Q vs H2) → ta σ H1 Q
end
section
variable {K : PySem.W.Frag} {env : En} {te ta tb tc : TE} {tt tu : TT} {d : Da} {ds es : List Da} {i j : Int}
theorem EvE.is {d' : Da} (h : EvE K te env d) (e : d = d') : EvE K te env d' := e ▸ h
theorem EvN.is {ds' : List Da} (h : EvN K te env ds) (e : ds = ds') : EvN K te env ds' := e ▸ h
theorem EvB.is {b b' : Bool} (h : EvB K tt env b) (e : b = b') : EvB K tt env b' := e ▸ h
theorem ev_new (h : EvN K te env ds) : EvE K te env (.lst ds) := fun σ B s H1 e Q q => h σ B s H1 e Q fun p xs B' H2 g h1 hb h2 r => by
  have eb : Ex B' (upd B' p (.lst xs)) := Ex.new hb
  refine q _ (upd B' p (.lst xs)) H2 ⟨g.b.trans eb, fun a u h => ?_, g.k, fun a h => ?_⟩ ?_
  · by_cases z : a = p
    · subst z
      rw [upd_same] at h
      rw [h2]
      exact h
    · rw [upd_ne z] at h
      exact g.h a u h
  · rw [upd_ne (show a ≠ p from fun z => h (by rw [z]; exact h1))]
    exact g.n a h
  · simp only [Rp]
    exact ⟨p, xs, rfl, upd_same, r.mono eb⟩
theorem ev_var {i : Nat} (h : env[i]? = some (.im d)) : EvE K (tVar i) env d := fun σ B s H1 e Q q => by
  obtain ⟨v, h1, h2⟩ := s.sl i _ h
  exact ⟨v, h1, q v B H1 (Gr.refl e) h2⟩
theorem ev_c {v : V} (h : ∀ B, Rp K B d v) : EvE K (tC v) env d := fun σ B s H1 e Q q => q v B H1 (Gr.refl e) (h B)
theorem ev_int : EvE K (tC (.int i)) env (.int i) := ev_c fun _ => by simp only [Rp]
theorem ev_bl {b : Bool} : EvE K (tC (.bl b)) env (.bl b) := ev_c fun _ => by simp only [Rp]
theorem ev_non : EvE K (tC .non) env .non := ev_c fun _ => by simp only [Rp]
theorem ev_str {s : Str} : EvE K (tC (.str s)) env (.str s) := ev_c fun _ => by simp only [Rp]
theorem ev_ty {n : String} : EvE K (tC (.ty n)) env (.ty n) := ev_c fun _ => by simp only [Rp]
theorem ev_cls {C : Addr} : EvE K (tC (.ref C)) env (.cls C) := ev_c fun _ => by simp only [Rp]
/-- two operands, the answer by values and heap -/
theorem ev_op {r : R2} {x y z : Da} (ha : EvE K ta env x) (hb : EvE K tb env y)
    (hr : ∀ B H v w, Ex B H → Rp K B x v → Rp K B y w → ∀ Q : VK, (∀ u B' H2, Gr B H B' H2 → Rp K B' z u → Q u H2) → r v w H Q) : EvE K (tOp r ta tb) env z := fun σ B s H1 e Q q =>
  ha σ B s H1 e _ fun v B2 H2 g2 r2 => hb σ B2 (s.mono g2.b) H2 g2.h _ fun w B3 H3 g3 r3 =>
    hr B3 H3 v w g3.h (r2.mono g3.b) r3 Q fun u B4 H4 g4 r4 => q u B4 H4 ((g2.trans g3).trans g4) r4
theorem ev_opN {r : R2} {x y : Da} {zs : List Da} (ha : EvE K ta env x) (hb : EvE K tb env y)
    (hr : ∀ B H v w, Ex B H → Rp K B x v → Rp K B y w → ∀ Q : VK, (∀ p xs B' H2, Gr B H B' H2 → H p = none → B' p = none → H2 p = some (.lst xs) → RpAll K B' zs xs → Q (.ref p) H2) → r v w H Q) : EvN K (tOp r ta tb) env zs := fun σ B s H1 e Q q =>
  ha σ B s H1 e _ fun v B2 H2 g2 r2 => hb σ B2 (s.mono g2.b) H2 g2.h _ fun w B3 H3 g3 r3 =>
    hr B3 H3 v w g3.h (r2.mono g3.b) r3 Q fun p xs B4 H4 g4 h1 h2 h3 h4 => q p xs B4 H4 ((g2.trans g3).trans g4) (fresh_back (g2.k.trans g3.k) h1) h2 h3 h4
theorem ev_I0 {g : Int → Int → V} {z : Da} (hz : ∀ B, Rp K B z (g i j)) (ha : EvE K ta env (.int i)) (hb : EvE K tb env (.int j)) : EvE K (tOp (rI0 g) ta tb) env z :=
  ev_op ha hb fun B H v w e r1 r2 Q q => by
    simp only [Rp] at r1 r2
    subst r1 r2
    exact ⟨i, j, rfl, rfl, q _ B H (Gr.refl e) (hz B)⟩
theorem ev_IC {C : Int → Int → Prop} {g : Int → Int → V} {z : Da} (hz : ∀ B, Rp K B z (g i j)) (ha : EvE K ta env (.int i)) (hb : EvE K tb env (.int j)) (hc : C i j) : EvE K (tOp (rI C g) ta tb) env z :=
  ev_op ha hb fun B H v w e r1 r2 Q q => by
    simp only [Rp] at r1 r2
    subst r1 r2
    exact ⟨i, j, rfl, rfl, hc, q _ B H (Gr.refl e) (hz B)⟩
end
/-! ### the readings' names -/
abbrev rAddI : R2 := rI0 fun i j => .int (i + j)
abbrev rSubI : R2 := rI0 fun i j => .int (i - j)
abbrev rMulI : R2 := rI CMul fun i j => .int (i * j)
abbrev rModI : R2 := rI (fun _ j => 0 < j) fun i j => .int (i % j)
abbrev rDivI : R2 := rI CDiv fun i j => .int (i / j)
abbrev rDivW : R2 := rI CDivW fun i j => .int (i / j)
abbrev rPowI : R2 := rI CPow fun i j => .int (i ^ j.toNat)
abbrev rLtI : R2 := rI0 fun i j => .bl (decide (i < j))
abbrev rLeI : R2 := rI0 fun i j => .bl (decide (i ≤ j))
abbrev rGtI : R2 := rI0 fun i j => .bl (decide (j < i))
abbrev rGeI : R2 := rI0 fun i j => .bl (decide (j ≤ i))
abbrev rCatS : R2 := fun x y H Q => ∃ i j, x = .str i ∧ y = .str j ∧ i.length + j.length ≤ sizeLine ∧ Q (.str (i ++ j)) H
section
variable {K : PySem.W.Frag} {env : En} {te ta tb tc : TE} {tt tu : TT} {d : Da} {ds es : List Da} {i j : Int}
theorem ev_add (ha : EvE K ta env (.int i)) (hb : EvE K tb env (.int j)) : EvE K (tOp rAddI ta tb) env (.int (i + j)) := ev_I0 (fun _ => by simp only [Rp]) ha hb
theorem ev_sub (ha : EvE K ta env (.int i)) (hb : EvE K tb env (.int j)) : EvE K (tOp rSubI ta tb) env (.int (i - j)) := ev_I0 (fun _ => by simp only [Rp]) ha hb
theorem ev_mul (ha : EvE K ta env (.int i)) (hb : EvE K tb env (.int j)) (hc : CMul i j) : EvE K (tOp rMulI ta tb) env (.int (i * j)) := ev_IC (fun _ => by simp only [Rp]) ha hb hc
theorem ev_mod (ha : EvE K ta env (.int i)) (hb : EvE K tb env (.int j)) (hc : 0 < j) : EvE K (tOp rModI ta tb) env (.int (i % j)) := ev_IC (fun _ => by simp only [Rp]) ha hb hc
theorem ev_div (ha : EvE K ta env (.int i)) (hb : EvE K tb env (.int j)) (hc : 0 < j ∧ j < 1073741824) : EvE K (tOp rDivI ta tb) env (.int (i / j)) := ev_IC (fun _ => by simp only [Rp]) ha hb hc
theorem ev_divW (ha : EvE K ta env (.int i)) (hb : EvE K tb env (.int j)) (hc : CDivW i j) : EvE K (tOp rDivW ta tb) env (.int (i / j)) := ev_IC (fun _ => by simp only [Rp]) ha hb hc
theorem ev_pow (ha : EvE K ta env (.int i)) (hb : EvE K tb env (.int j)) (hc : CPow i j) : EvE K (tOp rPowI ta tb) env (.int (i ^ j.toNat)) := ev_IC (fun _ => by simp only [Rp]) ha hb hc
theorem ev_lt (ha : EvE K ta env (.int i)) (hb : EvE K tb env (.int j)) : EvE K (tOp rLtI ta tb) env (.bl (decide (i < j))) := ev_I0 (fun _ => by simp only [Rp]) ha hb
theorem ev_le (ha : EvE K ta env (.int i)) (hb : EvE K tb env (.int j)) : EvE K (tOp rLeI ta tb) env (.bl (decide (i ≤ j))) := ev_I0 (fun _ => by simp only [Rp]) ha hb
theorem ev_gt (ha : EvE K ta env (.int i)) (hb : EvE K tb env (.int j)) : EvE K (tOp rGtI ta tb) env (.bl (decide (j < i))) := ev_I0 (fun _ => by simp only [Rp]) ha hb
theorem ev_ge (ha : EvE K ta env (.int i)) (hb : EvE K tb env (.int j)) : EvE K (tOp rGeI ta tb) env (.bl (decide (j ≤ i))) := ev_I0 (fun _ => by simp only [Rp]) ha hb
theorem ev_neg (ha : EvE K ta env (.int i)) : EvE K (tUn (rU fun i => .int (-i)) ta) env (.int (-i)) := fun σ B s H1 e Q q =>
  ha σ B s H1 e _ fun v B2 H2 g2 r2 => by
    simp only [Rp] at r2
    subst r2
    exact ⟨i, rfl, q _ B2 H2 g2 (by simp only [Rp])⟩
/-- == of scalars -/
theorem ev_eqI (ha : EvE K ta env (.int i)) (hb : EvE K tb env (.int j)) : EvE K (tOp rEq ta tb) env (.bl (decide (i = j))) :=
  ev_op ha hb fun B H v w e r1 r2 Q q => by
    simp only [Rp] at r1 r2
    subst r1 r2
    refine ⟨rfl, q _ B H (Gr.refl e) ?_⟩
    simp only [Rp, V.int.injEq]
theorem ev_neI (ha : EvE K ta env (.int i)) (hb : EvE K tb env (.int j)) : EvE K (tOp rNe ta tb) env (.bl (!decide (i = j))) :=
  ev_op ha hb fun B H v w e r1 r2 Q q => by
    simp only [Rp] at r1 r2
    subst r1 r2
    refine ⟨rfl, q _ B H (Gr.refl e) ?_⟩
    simp only [Rp, V.int.injEq]
theorem ev_eqB {a b : Bool} (ha : EvE K ta env (.bl a)) (hb : EvE K tb env (.bl b)) : EvE K (tOp rEq ta tb) env (.bl (decide (a = b))) :=
  ev_op ha hb fun B H v w e r1 r2 Q q => by
    simp only [Rp] at r1 r2
    subst r1 r2
    refine ⟨rfl, q _ B H (Gr.refl e) ?_⟩
    simp only [Rp, V.bl.injEq]
theorem ev_neB {a b : Bool} (ha : EvE K ta env (.bl a)) (hb : EvE K tb env (.bl b)) : EvE K (tOp rNe ta tb) env (.bl (!decide (a = b))) :=
  ev_op ha hb fun B H v w e r1 r2 Q q => by
    simp only [Rp] at r1 r2
    subst r1 r2
    refine ⟨rfl, q _ B H (Gr.refl e) ?_⟩
    simp only [Rp, V.bl.injEq]
/-- xs[i], t[i] -/
theorem ev_ixL (ha : EvE K ta env (.lst ds)) (hb : EvE K tb env (.int i)) (h : atI ds i = some d) : EvE K (tOp (rIxL K) ta tb) env d :=
  ev_op ha hb fun B H v w e r1 r2 Q q => by
    simp only [Rp] at r1 r2
    obtain ⟨a, xs, rfl, h2, h3⟩ := r1
    subst r2
    obtain ⟨u, hu, ru⟩ := rp_atI h3 h
    exact ⟨a, xs, i, u, rfl, rfl, sq_of (e _ _ h2), hu, q u B H (Gr.refl e) ru⟩
theorem ev_ixT (ha : EvE K ta env (.tup ds)) (hb : EvE K tb env (.int i)) (h : atI ds i = some d) : EvE K (tOp (rIxT K) ta tb) env d :=
  ev_op ha hb fun B H v w e r1 r2 Q q => by
    simp only [Rp] at r1 r2
    obtain ⟨a, xs, rfl, h2, h3⟩ := r1
    subst r2
    obtain ⟨u, hu, ru⟩ := rp_atI h3 h
    exact ⟨a, xs, i, u, rfl, rfl, st_of (e _ _ h2), hu, q u B H (Gr.refl e) ru⟩
/-- arguments, displays -/
theorem ea_nil : EvA K tNil env [] := fun σ B s H1 e Q q => q [] B H1 (Gr.refl e) .nil
theorem ea_cons {tr : TA} (h : EvE K te env d) (hr : EvA K tr env ds) : EvA K (tCons te tr) env (d :: ds) := fun σ B s H1 e Q q =>
  h σ B s H1 e _ fun v B2 H2 g2 r2 => hr σ B2 (s.mono g2.b) H2 g2.h _ fun vs B3 H3 g3 r3 => q (v :: vs) B3 H3 (g2.trans g3) (.cons (r2.mono g3.b) r3)
theorem ev_tup {t : TA} (h : EvA K t env ds) (hl : ds.length ≤ 100000 := by first | decide | simp) : EvE K (tTup t) env (.tup ds) := fun σ B s H1 e Q q =>
  h σ B s H1 e _ fun vs B2 H2 g2 r2 => ⟨sz_of (by rw [r2.len]; exact hl), fun p hp => q _ (upd B2 p (.tup vs)) _ (g2.trans (Gr.lay g2.h hp)) (by
    simp only [Rp]
    exact ⟨p, vs, rfl, upd_same, r2.mono (Ex.new (fresh_back g2.h hp))⟩)⟩
theorem en_lst {t : TA} (h : EvA K t env ds) (hl : ds.length ≤ 100000 := by first | decide | simp) : EvN K (tLst t) env ds := fun σ B s H1 e Q q =>
  h σ B s H1 e _ fun vs B2 H2 g2 r2 => ⟨sz_of (by rw [r2.len]; exact hl), fun p hp => q p vs B2 _ (g2.trans (Gr.put g2.h hp)) (fresh_back g2.k hp) (fresh_back g2.h hp) upd_same r2⟩
/-- built-ins by values -/
theorem ev_cb {r : List V → Hp → VK → Prop} {t : TA} (h : EvA K t env ds) (hr : ∀ B H vs, Ex B H → RpAll K B ds vs → ∀ Q : VK, (∀ u B' H2, Gr B H B' H2 → Rp K B' d u → Q u H2) → r vs H Q) : EvE K (tCB r t) env d := fun σ B s H1 e Q q =>
  h σ B s H1 e _ fun vs B2 H2 g2 r2 => hr B2 H2 vs g2.h r2 Q fun u B3 H3 g3 r3 => q u B3 H3 (g2.trans g3) r3
theorem en_cb {r : List V → Hp → VK → Prop} {t : TA} (h : EvA K t env ds) (hr : ∀ B H vs, Ex B H → RpAll K B ds vs → ∀ Q : VK, (∀ p xs B' H2, Gr B H B' H2 → H p = none → B' p = none → H2 p = some (.lst xs) → RpAll K B' es xs → Q (.ref p) H2) → r vs H Q) : EvN K (tCB r t) env es := fun σ B s H1 e Q q =>
  h σ B s H1 e _ fun vs B2 H2 g2 r2 => hr B2 H2 vs g2.h r2 Q fun p xs B3 H3 g3 h1 h2 h3 r3 => q p xs B3 H3 (g2.trans g3) (fresh_back g2.k h1) h2 h3 r3
theorem one_rp {B : Hp} {vs : List V} (h : RpAll K B [d] vs) : ∃ v, vs = [v] ∧ Rp K B d v := by
  obtain ⟨v, r, rfl, h2, h3⟩ := h.uncons
  have e : r = [] := by simpa only [RpAll] using h3
  subst e
  exact ⟨v, rfl, h2⟩
theorem two_rp {B : Hp} {vs : List V} {d' : Da} (h : RpAll K B [d, d'] vs) : ∃ v w, vs = [v, w] ∧ Rp K B d v ∧ Rp K B d' w := by
  obtain ⟨v, r, rfl, h2, h3⟩ := h.uncons
  obtain ⟨w, rfl, h4⟩ := one_rp h3
  exact ⟨v, w, rfl, h2, h4⟩
theorem ev_max2 (ha : EvE K ta env (.int i)) (hb : EvE K tb env (.int j)) : EvE K (tCB rMax2 (tCons ta (tCons tb tNil))) env (.int (if j > i then j else i)) :=
  ev_cb (ea_cons ha (ea_cons hb ea_nil)) fun B H vs e r Q q => by
    obtain ⟨v, w, rfl, h1, h2⟩ := two_rp r
    simp only [Rp] at h1 h2
    subst h1 h2
    exact ⟨i, j, rfl, q _ B H (Gr.refl e) (by simp only [Rp])⟩
def rMin2 : List V → Hp → VK → Prop := fun xs H Q => ∃ i j, xs = [.int i, .int j] ∧ Q (.int (if j < i then j else i)) H
theorem ev_min2 (ha : EvE K ta env (.int i)) (hb : EvE K tb env (.int j)) : EvE K (tCB rMin2 (tCons ta (tCons tb tNil))) env (.int (if j < i then j else i)) :=
  ev_cb (ea_cons ha (ea_cons hb ea_nil)) fun B H vs e r Q q => by
    obtain ⟨v, w, rfl, h1, h2⟩ := two_rp r
    simp only [Rp] at h1 h2
    subst h1 h2
    exact ⟨i, j, rfl, q _ B H (Gr.refl e) (by simp only [Rp])⟩
def rAbs : List V → Hp → VK → Prop := fun xs H Q => ∃ i, xs = [.int i] ∧ Q (.int (if i < 0 then -i else i)) H
theorem ev_abs (ha : EvE K ta env (.int i)) : EvE K (tCB rAbs (tCons ta tNil)) env (.int (if i < 0 then -i else i)) :=
  ev_cb (ea_cons ha ea_nil) fun B H vs e r Q q => by
    obtain ⟨v, rfl, h1⟩ := one_rp r
    simp only [Rp] at h1
    subst h1
    exact ⟨i, rfl, q _ B H (Gr.refl e) (by simp only [Rp])⟩
theorem ev_lenL (ha : EvE K ta env (.lst ds)) : EvE K (tCB (rLenS K) (tCons ta tNil)) env (.int (ds.length : Int)) :=
  ev_cb (ea_cons ha ea_nil) fun B H vs e r Q q => by
    obtain ⟨v, rfl, h1⟩ := one_rp r
    simp only [Rp] at h1
    obtain ⟨a, xs, rfl, h2, h3⟩ := h1
    exact ⟨a, xs, rfl, .inl (sq_of (e _ _ h2)), q _ B H (Gr.refl e) (by simp only [Rp]; rw [h3.len])⟩
theorem ev_lenQ (ha : EvE K ta env (.sq ds)) : EvE K (tCB (rLenS K) (tCons ta tNil)) env (.int (ds.length : Int)) :=
  ev_cb (ea_cons ha ea_nil) fun B H vs e r Q q => by
    obtain ⟨v, rfl, h1⟩ := one_rp r
    simp only [Rp] at h1
    obtain ⟨a, xs, rfl, h2, h3⟩ := h1
    exact ⟨a, xs, rfl, .inl (ex_l e h2), q _ B H (Gr.refl e) (by simp only [Rp]; rw [h3.len])⟩
theorem ev_lenT (ha : EvE K ta env (.tup ds)) : EvE K (tCB (rLenS K) (tCons ta tNil)) env (.int (ds.length : Int)) :=
  ev_cb (ea_cons ha ea_nil) fun B H vs e r Q q => by
    obtain ⟨v, rfl, h1⟩ := one_rp r
    simp only [Rp] at h1
    obtain ⟨a, xs, rfl, h2, h3⟩ := h1
    exact ⟨a, xs, rfl, .inr (st_of (e _ _ h2)), q _ B H (Gr.refl e) (by simp only [Rp]; rw [h3.len])⟩
theorem en_listL (ha : EvE K ta env (.lst ds)) : EvN K (tCB (rListS K) (tCons ta tNil)) env ds :=
  en_cb (ea_cons ha ea_nil) fun B H vs e r Q q => by
    obtain ⟨v, rfl, h1⟩ := one_rp r
    simp only [Rp] at h1
    obtain ⟨a, xs, rfl, h2, h3⟩ := h1
    exact ⟨a, xs, rfl, .inl (sq_of (e _ _ h2)), fun l hl => q l xs B _ (Gr.put e hl) hl (fresh_back e hl) upd_same h3⟩
theorem en_listT (ha : EvE K ta env (.tup ds)) : EvN K (tCB (rListS K) (tCons ta tNil)) env ds :=
  en_cb (ea_cons ha ea_nil) fun B H vs e r Q q => by
    obtain ⟨v, rfl, h1⟩ := one_rp r
    simp only [Rp] at h1
    obtain ⟨a, xs, rfl, h2, h3⟩ := h1
    exact ⟨a, xs, rfl, .inr (st_of (e _ _ h2)), fun l hl => q l xs B _ (Gr.put e hl) hl (fresh_back e hl) upd_same h3⟩
theorem ev_sumQ {ns : List Int} (ha : EvE K ta env (.sq (ns.map Da.int))) : EvE K (tCB (rSum K) (tCons ta tNil)) env (.int ns.sum) :=
  ev_cb (ea_cons ha ea_nil) fun B H vs e r Q q => by
    obtain ⟨v, rfl, h1⟩ := one_rp r
    simp only [Rp] at h1
    obtain ⟨a, xs, rfl, h2, h3⟩ := h1
    have z := rp_ints h3
    subst z
    exact ⟨a, ns, rfl, ex_l e h2, q _ B H (Gr.refl e) (by simp only [Rp])⟩
theorem ev_sumL {ns : List Int} (ha : EvE K ta env (.lst (ns.map Da.int))) : EvE K (tCB (rSum K) (tCons ta tNil)) env (.int ns.sum) :=
  ev_cb (ea_cons ha ea_nil) fun B H vs e r Q q => by
    obtain ⟨v, rfl, h1⟩ := one_rp r
    simp only [Rp] at h1
    obtain ⟨a, xs, rfl, h2, h3⟩ := h1
    have z := rp_ints h3
    subst z
    exact ⟨a, ns, rfl, sq_of (e _ _ h2), q _ B H (Gr.refl e) (by simp only [Rp])⟩
theorem ev_all {bs : List Bool} (ha : EvE K ta env (.lst (bs.map Da.bl))) : EvE K (tCB (L2.rAll K) (tCons ta tNil)) env (.bl (bs.all id)) :=
  ev_cb (ea_cons ha ea_nil) fun B H vs e r Q q => by
    obtain ⟨v, rfl, h1⟩ := one_rp r
    simp only [Rp] at h1
    obtain ⟨a, xs, rfl, h2, h3⟩ := h1
    have z := rp_bls h3
    subst z
    exact ⟨a, bs, rfl, sq_of (e _ _ h2), q _ B H (Gr.refl e) (by simp only [Rp])⟩
theorem ev_any {bs : List Bool} (ha : EvE K ta env (.lst (bs.map Da.bl))) : EvE K (tCB (L2.rAny K) (tCons ta tNil)) env (.bl (bs.any id)) :=
  ev_cb (ea_cons ha ea_nil) fun B H vs e r Q q => by
    obtain ⟨v, rfl, h1⟩ := one_rp r
    simp only [Rp] at h1
    obtain ⟨a, xs, rfl, h2, h3⟩ := h1
    have z := rp_bls h3
    subst z
    exact ⟨a, bs, rfl, sq_of (e _ _ h2), q _ B H (Gr.refl e) (by simp only [Rp])⟩
/-- isinstance -/
def tyD : Da → Option String
  | .non => some "NoneType"
  | .bl _ => some "bool"
  | .int _ => some "int"
  | .str _ => some "str"
  | .lst _ => some "list"
  | .sq _ => some "list"
  | .tup _ => some "tuple"
  | .emp => some "dict"
  | _ => none
theorem tyx_of {B H : Hp} {v : V} {n : String} (e : Ex B H) (h : Rp K B d v) (hn : tyD d = some n) : TyX K H v (.type n) := by
  cases d with
  | non => simp only [Rp] at h; subst h; cases hn; exact .base .non
  | bl b => simp only [Rp] at h; subst h; cases hn; exact .base (.bl b)
  | int i => simp only [Rp] at h; subst h; cases hn; exact .base (.int i)
  | str s => simp only [Rp] at h; subst h; cases hn; exact .base (.str s)
  | ty n => cases hn
  | cls C => cases hn
  | lst ds =>
    simp only [Rp] at h
    obtain ⟨a, xs, rfl, h2, h3⟩ := h
    cases hn
    exact .base (.lst (e _ _ h2))
  | sq ds =>
    simp only [Rp] at h
    obtain ⟨a, xs, rfl, h2, h3⟩ := h
    cases hn
    rcases ex_l e h2 with (h2 | ⟨o, h2⟩) | ⟨o, its, n, h2, h4, _⟩
    · exact .base (.lst h2)
    · exact .base (.frz h2)
    · exact .kList h2 h4
  | tup ds =>
    simp only [Rp] at h
    obtain ⟨a, xs, rfl, h2, h3⟩ := h
    cases hn
    exact .base (.tup (e _ _ h2))
  | obj C ns ds => cases hn
  | emp =>
    simp only [Rp] at h
    obtain ⟨a, rfl, h2⟩ := h
    cases hn
    exact .base (.dK (e _ _ h2))
theorem ev_isiB {n m : String} {b : Bool} (ha : EvE K ta env d) (hb : EvE K tb env (.ty m)) (hn : tyD d = some n) (hk : kitB n m = some b) : EvE K (tCB (rIsi K) (tCons ta (tCons tb tNil))) env (.bl b) :=
  ev_cb (ea_cons ha (ea_cons hb ea_nil)) fun B H vs e r Q q => by
    obtain ⟨v, w, rfl, h1, h2⟩ := two_rp r
    simp only [Rp] at h2
    subst h2
    exact ⟨v, .ty m, .type n, .type m, b, rfl, .ty m, tyx_of e h1 hn, kit_ty hk, q _ B H (Gr.refl e) (by simp only [Rp])⟩
/-- and, or, not, if by values -/
theorem ev_andV {a b : Bool} (h1 : EvE K ta env (.bl a)) (h2 : a = true → EvE K tb env (.bl b)) : EvE K (tAndV ta tb) env (.bl (a && b)) := fun σ B s H1 e Q q =>
  h1 σ B s H1 e _ fun v B2 H2 g2 r2 => by
    simp only [Rp] at r2
    subst r2
    refine ⟨a, rfl, ?_⟩
    cases a with
    | true =>
      show tb σ H2 Q
      exact h2 rfl σ B2 (s.mono g2.b) H2 g2.h Q fun w B3 H3 g3 r3 => q w B3 H3 (g2.trans g3) r3
    | false =>
      show Q (.bl false) H2
      exact q _ B2 H2 g2 (by simp only [Rp, Bool.false_and])
theorem ev_orV {a b : Bool} (h1 : EvE K ta env (.bl a)) (h2 : a = false → EvE K tb env (.bl b)) : EvE K (tOrV ta tb) env (.bl (a || b)) := fun σ B s H1 e Q q =>
  h1 σ B s H1 e _ fun v B2 H2 g2 r2 => by
    simp only [Rp] at r2
    subst r2
    refine ⟨a, rfl, ?_⟩
    cases a with
    | false =>
      show tb σ H2 Q
      exact h2 rfl σ B2 (s.mono g2.b) H2 g2.h Q fun w B3 H3 g3 r3 => q w B3 H3 (g2.trans g3) r3
    | true =>
      show Q (.bl true) H2
      exact q _ B2 H2 g2 (by simp only [Rp, Bool.true_or])
theorem ev_notV {a : Bool} (h1 : EvE K ta env (.bl a)) : EvE K (tNotV ta) env (.bl (!a)) := fun σ B s H1 e Q q =>
  h1 σ B s H1 e _ fun v B2 H2 g2 r2 => by
    simp only [Rp] at r2
    subst r2
    exact ⟨a, rfl, q _ B2 H2 g2 (by simp only [Rp])⟩
theorem ev_ifE {b : Bool} (h : EvB K tt env b) (h1 : b = true → EvE K ta env d) (h2 : b = false → EvE K tb env d) : EvE K (tIf tt ta tb) env d := fun σ B s H1 e Q q =>
  h σ B s H1 e _ fun H2 e2 => by
    have gt : ∀ v B' H3, Gr B H2 B' H3 → Rp K B' d v → Q v H3 := fun v B' H3 g r => q v B' H3 ((Gr.keep e e2).trans g) r
    cases b with
    | true =>
      show ta σ H2 Q
      exact h1 rfl σ B s H2 (e.trans e2) Q gt
    | false =>
      show tb σ H2 Q
      exact h2 rfl σ B s H2 (e.trans e2) Q gt
/-- a chain of two -/
theorem ev_chain {r r' : R2} {x y z : Da} {k b : Bool} (ha : EvE K ta env x) (hb : EvE K tb env y) (hc : k = true → EvE K tc env z)
    (h1 : ∀ B H v w, Ex B H → Rp K B x v → Rp K B y w → ∀ Q : VK, (∀ u B' H2, Gr B H B' H2 → Rp K B' (.bl k) u → Q u H2) → r v w H Q)
    (h2 : k = true → ∀ B H v w, Ex B H → Rp K B y v → Rp K B z w → ∀ Q : VK, (∀ u B' H2, Gr B H B' H2 → Rp K B' (.bl b) u → Q u H2) → r' v w H Q) : EvE K (tChain r r' ta tb tc) env (.bl (k && b)) := fun σ B s H1 e Q q =>
  ha σ B s H1 e _ fun v B2 H2 g2 r2 => hb σ B2 (s.mono g2.b) H2 g2.h _ fun w B3 H3 g3 r3 =>
    h1 B3 H3 v w g3.h (r2.mono g3.b) r3 _ fun u B4 H4 g4 r4 => by
      simp only [Rp] at r4
      subst r4
      have g := (g2.trans g3).trans g4
      refine ⟨k, rfl, ?_⟩
      cases k with
      | true =>
        show tc σ H4 fun w' H4 => r' w w' H4 Q
        exact hc rfl σ B4 (s.mono g.b) H4 g.h _ fun w' B5 H5 g5 r5 => h2 rfl B5 H5 w w' g5.h ((r3.mono g4.b).mono g5.b) r5 Q fun u B6 H6 g6 r6 => q u B6 H6 ((g.trans g5).trans g6) (by simpa only [Bool.true_and] using r6)
      | false =>
        show Q (.bl false) H4
        exact q _ B4 H4 g (by simp only [Rp, Bool.false_and])
theorem ru_I {g : Int → Int → V} {b : Bool} (hg : g i j = .bl b) (B H : Hp) (v w : V) (e : Ex B H) (r1 : Rp K B (.int i) v) (r2 : Rp K B (.int j) w) (Q : VK) (q : ∀ u B' H2, Gr B H B' H2 → Rp K B' (.bl b) u → Q u H2) : rI0 g v w H Q := by
  simp only [Rp] at r1 r2
  subst r1 r2
  refine ⟨i, j, rfl, rfl, q _ B H (Gr.refl e) ?_⟩
  simp only [Rp]
  exact hg
theorem ev_chainI {g g' : Int → Int → V} {l : Int} {k b : Bool} (hg : g i j = .bl k) (hg' : g' j l = .bl b) (ha : EvE K ta env (.int i)) (hb : EvE K tb env (.int j)) (hc : k = true → EvE K tc env (.int l)) : EvE K (tChain (rI0 g) (rI0 g') ta tb tc) env (.bl (k && b)) :=
  ev_chain ha hb hc (ru_I hg) (fun _ => ru_I hg')

/-! ### tests -/
theorem eb_test {b : Bool} (h : EvE K te env (.bl b)) : EvB K (tTest te) env b := fun σ B s H1 e Q q =>
  h σ B s H1 e _ fun v B2 H2 g2 r2 => by
    simp only [Rp] at r2
    exact ⟨b, r2, q H2 g2.k⟩
theorem eb_B {b : Bool} (h : EvE K te env (.bl b)) : EvB K (tB te) env b := fun σ B s H1 e Q q =>
  h σ B s H1 e _ fun v B2 H2 g2 r2 => by
    simp only [Rp] at r2
    exact ⟨b, r2, q H2 g2.k⟩
theorem eb_not {a : Bool} (h : EvB K tt env a) : EvB K (tNot tt) env (!a) := fun σ B s H1 e Q q => h σ B s H1 e _ fun H2 e2 => q H2 e2
theorem eb_and {a b : Bool} (h1 : EvB K tt env a) (h2 : a = true → EvB K tu env b) : EvB K (tAnd tt tu) env (a && b) := fun σ B s H1 e Q q => h1 σ B s H1 e _ fun H2 e2 => by
  cases a with
  | true =>
    show tu σ H2 Q
    exact h2 rfl σ B s H2 (e.trans e2) Q fun H3 e3 => q H3 (e2.trans e3)
  | false =>
    show Q false H2
    exact q H2 e2
theorem eb_or {a b : Bool} (h1 : EvB K tt env a) (h2 : a = false → EvB K tu env b) : EvB K (tOr tt tu) env (a || b) := fun σ B s H1 e Q q => h1 σ B s H1 e _ fun H2 e2 => by
  cases a with
  | true =>
    show Q true H2
    exact q H2 e2
  | false =>
    show tu σ H2 Q
    exact h2 rfl σ B s H2 (e.trans e2) Q fun H3 e3 => q H3 (e2.trans e3)
theorem eb_yes : EvB K tYes env true := fun σ B s H1 e Q q => q H1 (Ex.refl _)

/-! ### slices -/
def EvO (K : PySem.W.Frag) (to : TO) (env : En) (o : Option Int) : Prop := ∀ σ B, SD K B σ env → ∀ H1, Ex B H1 → ∀ Q : Option Int → Hp → Prop, (∀ H2, Ex H1 H2 → Q o H2) → to σ H1 Q
theorem eo_none : EvO K tNoPart env none := fun σ B s H1 e Q q => q H1 (Ex.refl _)
theorem eo_some (h : EvE K te env (.int i)) : EvO K (tPart te) env (some i) := fun σ B s H1 e Q q => h σ B s H1 e _ fun v B2 H2 g2 r2 => by
  simp only [Rp] at r2
  exact ⟨i, r2, q H2 g2.k⟩
theorem en_slL {tl th : TO} {lo hi : Option Int} (h : EvE K te env (.lst ds)) (h1 : EvO K tl env lo) (h2 : EvO K th env hi) : EvN K (tSl (rSlL K) te tl th) env (cutD ds lo hi) := fun σ B s H1 e Q q =>
  h σ B s H1 e _ fun v B2 H2 g2 r2 => h1 σ B2 (s.mono g2.b) H2 g2.h _ fun H3 e3 => h2 σ B2 (s.mono g2.b) H3 (g2.h.trans e3) _ fun H4 e4 => by
    simp only [Rp] at r2
    obtain ⟨a, xs, rfl, h5, h6⟩ := r2
    exact ⟨a, xs, rfl, sq_of (e4 _ _ (e3 _ _ (g2.h _ _ h5))), fun p hp => q p _ B2 _ ((g2.trans (Gr.keep g2.h (e3.trans e4))).trans (Gr.put (g2.h.trans (e3.trans e4)) hp)) (fresh_back (g2.k.trans (e3.trans e4)) hp) (fresh_back (g2.h.trans (e3.trans e4)) hp) upd_same (rp_cut h6)⟩
theorem en_slQ {tl th : TO} {lo hi : Option Int} (h : EvE K te env (.sq ds)) (h1 : EvO K tl env lo) (h2 : EvO K th env hi) : EvN K (tSl (rSlL K) te tl th) env (cutD ds lo hi) := fun σ B s H1 e Q q =>
  h σ B s H1 e _ fun v B2 H2 g2 r2 => h1 σ B2 (s.mono g2.b) H2 g2.h _ fun H3 e3 => h2 σ B2 (s.mono g2.b) H3 (g2.h.trans e3) _ fun H4 e4 => by
    simp only [Rp] at r2
    obtain ⟨a, xs, rfl, h5, h6⟩ := r2
    exact ⟨a, xs, rfl, ex_l e4 (ex_l e3 (ex_l g2.h h5)), fun p hp => q p _ B2 _ ((g2.trans (Gr.keep g2.h (e3.trans e4))).trans (Gr.put (g2.h.trans (e3.trans e4)) hp)) (fresh_back (g2.k.trans (e3.trans e4)) hp) (fresh_back (g2.h.trans (e3.trans e4)) hp) upd_same (rp_cut h6)⟩
theorem en_rev (h : EvE K te env (.lst ds)) : EvN K (tRevL K te) env ds.reverse := fun σ B s H1 e Q q =>
  h σ B s H1 e _ fun v B2 H2 g2 r2 => by
    simp only [Rp] at r2
    obtain ⟨a, xs, rfl, h5, h6⟩ := r2
    exact ⟨a, xs, rfl, sq_of (g2.h _ _ h5), fun p hp => q p _ B2 _ (g2.trans (Gr.put g2.h hp)) (fresh_back g2.k hp) (fresh_back g2.h hp) upd_same h6.rev⟩
theorem en_cat (ha : EvE K ta env (.lst ds)) (hb : EvE K tb env (.lst es)) (hl : ds.length + es.length ≤ 100000) : EvN K (tOp rCat ta tb) env (ds ++ es) :=
  ev_opN ha hb fun B H v w e r1 r2 Q q => by
    simp only [Rp] at r1 r2
    obtain ⟨a, xs, rfl, h2, h3⟩ := r1
    obtain ⟨b, ys, rfl, h4, h5⟩ := r2
    exact ⟨a, b, xs, ys, rfl, rfl, e _ _ h2, e _ _ h4, sz_of (by rw [h3.len, h5.len]; exact hl), fun p hp => q p _ B _ (Gr.put e hp) hp (fresh_back e hp) upd_same (h3.app h5)⟩
theorem en_listRg (ha : EvE K ta env (.int i)) (hb : EvE K tb env (.int j)) (h : RgOk i j) : EvN K (tLstRg (tRg2 ta tb)) env ((List.range (j - i).toNat).map fun k => Da.int (i + (k : Nat))) := fun σ B s H1 e Q q =>
  ha σ B s H1 e _ fun v B2 H2 g2 r2 => hb σ B2 (s.mono g2.b) H2 g2.h _ fun w B3 H3 g3 r3 => by
    simp only [Rp] at r2 r3
    subst r2 r3
    refine ⟨i, j, rfl, rfl, h, fun p hp => q p _ B3 _ ((g2.trans g3).trans (Gr.put g3.h hp)) (fresh_back (g2.trans g3).k hp) (fresh_back g3.h hp) upd_same ?_⟩
    have z := ints_rp (K := K) (B := B3) ((List.range (j - i).toNat).map fun k => i + ((k : Nat) : Int))
    rw [List.map_map, List.map_map] at z
    exact z
theorem en_listRg1 (hb : EvE K tb env (.int j)) (h : RgOk 0 j) : EvN K (tLstRg (tRg1 tb)) env ((List.range j.toNat).map fun k => Da.int ((k : Nat) : Int)) := fun σ B s H1 e Q q =>
  hb σ B s H1 e _ fun w B3 H3 g3 r3 => by
    simp only [Rp] at r3
    subst r3
    refine ⟨j, rfl, h, fun p hp => q p _ B3 _ (g3.trans (Gr.put g3.h hp)) (fresh_back g3.k hp) (fresh_back g3.h hp) upd_same ?_⟩
    have z := ints_rp (K := K) (B := B3) ((List.range (j - 0).toNat).map fun k => (0 : Int) + ((k : Nat) : Int))
    rw [List.map_map, List.map_map] at z
    have e0 : (j - 0).toNat = j.toNat := by rw [Int.sub_zero]
    rw [e0] at z
    have e1 : rgV 0 j = List.map (V.int ∘ fun k : Nat => 0 + (k : Int)) (List.range j.toNat) := by
      unfold rgV
      rw [e0]
      rfl
    rw [e1]
    have e2 : (List.map (fun k : Nat => Da.int (k : Int)) (List.range j.toNat)) = List.map (Da.int ∘ fun k : Nat => (0 : Int) + (k : Int)) (List.range j.toNat) := by
      apply List.map_congr_left
      intro a _
      simp
    rw [e2]
    exact z
end

/-! ### targets, walks, comprehensions -/
def TgE (K : PySem.W.Frag) (g : TG) (d : Da) (env env' : En) : Prop := ∀ σ B v, SD K B σ env → Rp K B d v → ∀ H, Ex B H → ∀ Q : L2.St → Hp → Prop, (∀ σ', SD K B σ' env' → Q σ' H) → g v σ H Q
section
variable {K : PySem.W.Frag} {env env' env2 : En} {d : Da}
theorem tg_name {i : Nat} : TgE K (gName i) d env (env.set i (.im d)) := fun σ B v s r H e Q q => q _ (s.set r)
theorem tg_tup2 {g1 g2 : TG} {x y : Da} (h1 : TgE K g1 x env env') (h2 : TgE K g2 y env' env2) : TgE K (gTup K 2 (gCons g1 (gCons g2 gNil))) (.tup [x, y]) env env2 := fun σ B v s r H e Q q => by
  simp only [Rp] at r
  obtain ⟨a, xs, rfl, h, hr⟩ := r
  obtain ⟨v, w, rfl, r1, r2⟩ := two_rp hr
  refine ⟨a, [v, w], rfl, st_of (e _ _ h), rfl, v, [w], rfl, h1 σ B v s r1 H e _ fun σ' s' => ⟨w, [], rfl, h2 σ' B w s' r2 H e _ fun σ2 s2 => ⟨rfl, q σ2 s2⟩⟩⟩
theorem tg_tup3 {g1 g2 g3 : TG} {x y z : Da} {env3 : En} (h1 : TgE K g1 x env env') (h2 : TgE K g2 y env' env2) (h3 : TgE K g3 z env2 env3) : TgE K (gTup K 3 (gCons g1 (gCons g2 (gCons g3 gNil)))) (.tup [x, y, z]) env env3 := fun σ B v s r H e Q q => by
  simp only [Rp] at r
  obtain ⟨a, xs, rfl, h, hr⟩ := r
  obtain ⟨v, r', rfl, r1, hr2⟩ := hr.uncons
  obtain ⟨w, u, rfl, r2, r3⟩ := two_rp hr2
  refine ⟨a, [v, w, u], rfl, st_of (e _ _ h), rfl, v, [w, u], rfl, h1 σ B v s r1 H e _ fun σ' s' => ⟨w, [u], rfl, h2 σ' B w s' r2 H e _ fun σ2 s2 => ⟨u, [], rfl, h3 σ2 B u s2 r3 H e _ fun σ3 s3 => ⟨rfl, q σ3 s3⟩⟩⟩⟩
end
end FR

/-! Walks, comprehensions, statements over data. -/
namespace FR
open PySem L2 Evl

/-! ### what is walked -/
def WkE (K : PySem.W.Frag) (wi : TI) (env : En) (ds : List Da) : Prop := ∀ σ B, SD K B σ env → ∀ H1, Ex B H1 → ∀ R : It → Hp → Prop,
  (∀ J B' H2 G Y, Gr B H1 B' H2 → Walk J ds.length G Y → (∀ H, Ex B' H → G H) → (∀ i H x H' Bi, Ex B' Bi → Ex Bi H → Y i H x H' → ∃ d B2, ds[i]? = some d ∧ Gr Bi H B2 H' ∧ Rp K B2 d x) → R J H2) → wi σ H1 R
section
variable {K : PySem.W.Frag} {env : En} {te ta tb : TE} {ds es : List Da} {i j : Int}
theorem wk_list (h : EvE K te env (.lst ds)) : WkE K (iList K te) env ds := fun σ B s H1 e R q =>
  h σ B s H1 e _ fun v B2 H2 g r => by
    simp only [Rp] at r
    obtain ⟨a, xs, rfl, h2, h3⟩ := r
    refine ⟨a, rfl, ⟨xs, sq_of (g.h _ _ h2)⟩, ?_⟩
    have w : Walk (Itl K a) xs.length (fun H => SqL K H a xs) (YAt xs) := walk_list
    rw [h3.len] at w
    refine q _ B2 H2 _ _ g w (fun H e2 => sq_of (e2 _ _ h2)) fun i H x H' Bi eb eh y => ?_
    obtain ⟨rfl, hx⟩ := y
    obtain ⟨d, hd, rd⟩ := h3.getV hx
    exact ⟨d, Bi, hd, Gr.refl eh, rd.mono eb⟩
theorem wk_sq (h : EvE K te env (.sq ds)) : WkE K (iList K te) env ds := fun σ B s H1 e R q =>
  h σ B s H1 e _ fun v B2 H2 g r => by
    simp only [Rp] at r
    obtain ⟨a, xs, rfl, h2, h3⟩ := r
    refine ⟨a, rfl, ⟨xs, ex_l g.h h2⟩, ?_⟩
    have w : Walk (Itl K a) xs.length (fun H => SqL K H a xs) (YAt xs) := walk_list
    rw [h3.len] at w
    refine q _ B2 H2 _ _ g w (fun H e2 => ex_l e2 h2) fun i H x H' Bi eb eh y => ?_
    obtain ⟨rfl, hx⟩ := y
    obtain ⟨d, hd, rd⟩ := h3.getV hx
    exact ⟨d, Bi, hd, Gr.refl eh, rd.mono eb⟩
theorem wk_tup (h : EvE K te env (.tup ds)) : WkE K (iTup K te) env ds := fun σ B s H1 e R q =>
  h σ B s H1 e _ fun v B2 H2 g r => by
    simp only [Rp] at r
    obtain ⟨a, xs, rfl, h2, h3⟩ := r
    refine ⟨a, rfl, ⟨xs, st_of (g.h _ _ h2)⟩, ?_⟩
    have w : Walk (Itt K a) xs.length (fun H => SqT K H a xs) (YAt xs) := walk_tup
    rw [h3.len] at w
    refine q _ B2 H2 _ _ g w (fun H e2 => st_of (e2 _ _ h2)) fun i H x H' Bi eb eh y => ?_
    obtain ⟨rfl, hx⟩ := y
    obtain ⟨d, hd, rd⟩ := h3.getV hx
    exact ⟨d, Bi, hd, Gr.refl eh, rd.mono eb⟩
theorem wk_rev {ta : TE} (h : EvE K te env (.lst ds)) : WkE K (iRev K (tCons te tNil)) env ds.reverse := fun σ B s H1 e R q =>
  h σ B s H1 e _ fun v B2 H2 g r => by
    simp only [Rp] at r
    obtain ⟨a, xs, rfl, h2, h3⟩ := r
    refine ⟨a, xs, rfl, sq_of (g.h _ _ h2), ?_⟩
    have w := walk_rev (K := K) (a := a) (xs := xs)
    have hl : xs.length = ds.reverse.length := by rw [h3.len, List.length_reverse]
    have w' : Walk (Itv K a xs.length) ds.reverse.length (fun H => SqL K H a xs) (fun i H x H' => H' = H ∧ xs[xs.length - 1 - i]? = some x ∧ i < xs.length) := by
      rw [← hl]
      exact w.mono (fun _ h => h) fun i H x H' hi _ y => ⟨y.1, y.2, hi⟩
    refine q _ B2 H2 _ _ g w' (fun H e2 => sq_of (e2 _ _ h2)) fun i H x H' Bi eb eh y => ?_
    obtain ⟨rfl, hx, hi⟩ := y
    have hrev := h3.rev
    have hx' : xs.reverse[i]? = some x := by
      rw [List.getElem?_reverse hi]
      exact hx
    obtain ⟨d, hd, rd⟩ := hrev.getV hx'
    exact ⟨d, Bi, hd, Gr.refl eh, rd.mono eb⟩
def rngD (i j : Int) : List Da := (List.range (j - i).toNat).map fun k => Da.int (i + (k : Nat))
theorem rngD_len (i j : Int) : (rngD i j).length = (j - i).toNat := by
  unfold rngD
  rw [List.length_map, List.length_range]
theorem rngD_get {i j : Int} {k : Nat} (h : k < (j - i).toNat) : (rngD i j)[k]? = some (.int (i + (k : Nat))) := by
  unfold rngD
  rw [List.getElem?_map, List.getElem?_range h]
  rfl
theorem wk_rng2 (ha : EvE K ta env (.int i)) (hb : EvE K tb env (.int j)) (hi : -(2 ^ 62) ≤ i ∧ i < 2 ^ 62 ∧ -(2 ^ 62) ≤ j ∧ j < 2 ^ 62) : WkE K (iRng2 (tCons ta (tCons tb tNil))) env (rngD i j) := fun σ B s H1 e R q =>
  ha σ B s H1 e _ fun v B2 H2 g2 r2 => hb σ B2 (s.mono g2.b) H2 g2.h _ fun w B3 H3 g3 r3 => by
    simp only [Rp] at r2 r3
    subst r2 r3
    refine ⟨i, j, rfl, hi, ?_⟩
    have w : Walk (Itr i (j - i).toNat) (rngD i j).length (fun _ => True) (fun k H x H' => (H' = H ∧ x = .int (i + k)) ∧ k < (j - i).toNat) := by
      rw [rngD_len]
      exact walk_range.mono (fun _ h => h) fun k H x H' hk _ y => ⟨y, hk⟩
    refine q _ B3 H3 _ _ (g2.trans g3) w (fun _ _ => trivial) fun k H x H' Bi eb eh y => ?_
    obtain ⟨⟨rfl, rfl⟩, hk⟩ := y
    exact ⟨_, Bi, rngD_get hk, Gr.refl eh, by simp only [Rp]⟩
theorem wk_rng1 (hb : EvE K tb env (.int j)) (hi : -(2 ^ 62) ≤ j ∧ j < 2 ^ 62) : WkE K (iRng1 (tCons tb tNil)) env (rngD 0 j) := fun σ B s H1 e R q =>
  hb σ B s H1 e _ fun w B3 H3 g3 r3 => by
    simp only [Rp] at r3
    subst r3
    refine ⟨j, rfl, hi.1, hi.2, ?_⟩
    have w : Walk (Itr 0 j.toNat) (rngD 0 j).length (fun _ => True) (fun k H x H' => (H' = H ∧ x = .int (0 + k)) ∧ k < (j - 0).toNat) := by
      rw [rngD_len, Int.sub_zero]
      exact walk_range.mono (fun _ h => h) fun k H x H' hk _ y => ⟨y, hk⟩
    refine q _ B3 H3 _ _ g3 w (fun _ _ => trivial) fun k H x H' Bi eb eh y => ?_
    obtain ⟨⟨rfl, rfl⟩, hk⟩ := y
    exact ⟨_, Bi, rngD_get hk, Gr.refl eh, by simp only [Rp]⟩
theorem wk_zip (ha : EvE K ta env (.lst ds)) (hb : EvE K tb env (.lst es)) : WkE K (iZip K (tCons ta (tCons tb tNil))) env (List.zipWith (fun x y => Da.tup [x, y]) ds es) := fun σ B s H1 e R q =>
  ha σ B s H1 e _ fun v B2 H2 g2 r2 => hb σ B2 (s.mono g2.b) H2 g2.h _ fun w B3 H3 g3 r3 => by
    simp only [Rp] at r2 r3
    obtain ⟨a, xs, rfl, h2, h3⟩ := r2
    obtain ⟨b, ys, rfl, h4, h5⟩ := r3
    refine ⟨a, b, xs, ys, rfl, sq_of (g3.h _ _ (g3.b _ _ h2)), sq_of (g3.h _ _ h4), ?_⟩
    have hl : (List.zipWith (fun x y => Da.tup [x, y]) ds es).length = min xs.length ys.length := by rw [List.length_zipWith, h3.len, h5.len]
    have w := walk_zip (K := K) (a := a) (b := b) hl
    refine q _ B3 H3 _ _ (g2.trans g3) w (fun H e2 => ⟨sq_of (e2 _ _ (g3.b _ _ h2)), sq_of (e2 _ _ h4)⟩) fun k H x H' Bi eb eh y => ?_
    obtain ⟨T, x1, x2, rfl, hT, rfl, e1, e2⟩ := y
    obtain ⟨d1, hd1, r1⟩ := h3.getV e1
    obtain ⟨d2, hd2, r2⟩ := h5.getV e2
    have nb : Ex Bi (upd Bi T (.tup [x1, x2])) := Ex.new (fresh_back eh hT)
    refine ⟨.tup [d1, d2], upd Bi T (.tup [x1, x2]), ?_, Gr.lay eh hT, ?_⟩
    · rw [List.getElem?_zipWith, hd1, hd2]
    · simp only [Rp]
      exact ⟨T, [x1, x2], rfl, upd_same, .cons (((r1.mono g3.b).mono eb).mono nb) (.cons ((r2.mono eb).mono nb) .nil)⟩
end

/-! ### comprehensions -/
def TgC (K : PySem.W.Frag) (g : TG) (d : Da) (env env' : En) (us : List Nat) : Prop := ∀ σ B v, SD K B σ env → Rp K B d v → ∀ H, Ex B H → ∀ Q : L2.St → Hp → Prop,
  (∀ σ', SD K B σ' env' → σ'.length = σ.length → (∀ j, j ∉ us → σ'[j]? = σ[j]?) → Q σ' H) → g v σ H Q
section
variable {K : PySem.W.Frag} {env env' env2 : En}
theorem tc_name {i : Nat} {d : Da} : TgC K (gName i) d env (env.set i (.im d)) [i] := fun σ B v s r H e Q q =>
  q _ (s.set r) (by rw [List.length_set]) fun j hj => by
    rw [List.getElem?_set_ne]
    intro z
    exact hj (by simp [z])
theorem tc_tup2 {g1 g2 : TG} {x y : Da} {u1 u2 : List Nat} (h1 : TgC K g1 x env env' u1) (h2 : TgC K g2 y env' env2 u2) : TgC K (gTup K 2 (gCons g1 (gCons g2 gNil))) (.tup [x, y]) env env2 (u1 ++ u2) := fun σ B v s r H e Q q => by
  simp only [Rp] at r
  obtain ⟨a, xs, rfl, h, hr⟩ := r
  obtain ⟨v, w, rfl, r1, r2⟩ := two_rp hr
  refine ⟨a, [v, w], rfl, st_of (e _ _ h), rfl, v, [w], rfl, h1 σ B v s r1 H e _ fun σ' s' l1 n1 => ⟨w, [], rfl, h2 σ' B w s' r2 H e _ fun σ2 s2 l2 n2 => ⟨rfl, q σ2 s2 (l2.trans l1) fun j hj => ?_⟩⟩⟩
  rw [n2 j fun z => hj (List.mem_append_right _ z), n1 j fun z => hj (List.mem_append_left _ z)]
theorem tc_tup3 {g1 g2 g3 : TG} {x y z : Da} {env3 : En} {u1 u2 u3 : List Nat} (h1 : TgC K g1 x env env' u1) (h2 : TgC K g2 y env' env2 u2) (h3 : TgC K g3 z env2 env3 u3) : TgC K (gTup K 3 (gCons g1 (gCons g2 (gCons g3 gNil)))) (.tup [x, y, z]) env env3 (u1 ++ u2 ++ u3) := fun σ B v s r H e Q q => by
  simp only [Rp] at r
  obtain ⟨a, xs, rfl, h, hr⟩ := r
  obtain ⟨v, r', rfl, r1, hr2⟩ := hr.uncons
  obtain ⟨w, u, rfl, r2, r3⟩ := two_rp hr2
  refine ⟨a, [v, w, u], rfl, st_of (e _ _ h), rfl, v, [w, u], rfl, h1 σ B v s r1 H e _ fun σ' s' l1 n1 => ⟨w, [u], rfl, h2 σ' B w s' r2 H e _ fun σ2 s2 l2 n2 => ⟨u, [], rfl, h3 σ2 B u s2 r3 H e _ fun σ3 s3 l3 n3 => ⟨rfl, q σ3 s3 (l3.trans (l2.trans l1)) fun j hj => ?_⟩⟩⟩⟩
  rw [n3 j fun z => hj (List.mem_append_right _ z), n2 j fun z => hj (List.mem_append_left _ (List.mem_append_right _ z)), n1 j fun z => hj (List.mem_append_left _ (List.mem_append_left _ z))]
theorem wipe_get (σ : L2.St) : ∀ (vs : List Nat) (j : Nat), (L2.wipe σ vs)[j]? = if j ∈ vs then (if j < σ.length then some none else none) else σ[j]?
  | [], j => by simp [L2.wipe]
  | v :: vs, j => by
    show ((L2.wipe σ vs).set v none)[j]? = _
    by_cases e : v = j
    · subst e
      rw [List.getElem?_set_self']
      simp only [List.mem_cons, true_or, if_true]
      by_cases hl : v < σ.length
      · have h2 : v < (L2.wipe σ vs).length := by rw [L2.wipe_length]; exact hl
        rw [List.getElem?_eq_getElem h2, if_pos hl]
        rfl
      · have h2 : ¬ v < (L2.wipe σ vs).length := by rw [L2.wipe_length]; exact hl
        rw [List.getElem?_eq_none (by omega), if_neg hl]
        rfl
    · rw [List.getElem?_set_ne e, wipe_get σ vs j]
      have e2 : (j ∈ v :: vs) = (j ∈ vs) := by
        simp only [List.mem_cons, eq_iff_iff, or_iff_right_iff_imp]
        intro z
        exact absurd z.symm e
      simp only [e2]
theorem wipe_eq {σ σ' : L2.St} {vs us : List Nat} (hl : σ'.length = (L2.wipe σ vs).length) (h : ∀ j, j ∉ us → σ'[j]? = (L2.wipe σ vs)[j]?) (hu : ∀ j ∈ us, j ∈ vs) : L2.wipe σ' vs = L2.wipe σ vs := by
  apply List.ext_getElem?
  intro j
  rw [wipe_get, wipe_get]
  rw [L2.wipe_length] at hl
  by_cases hj : j ∈ vs
  · rw [if_pos hj, if_pos hj, hl]
  · rw [if_neg hj, if_neg hj, h j fun z => hj (hu j z), wipe_get, if_neg hj]
variable {wi : TI} {g : TG} {tt : TT} {te : TE} {vs us : List Nat}
theorem en_lc {α : Type} (δ : α → Da) (p : α → Bool) (f : α → Da) (xs : List α) (hw : WkE K wi env (xs.map δ)) (hu : ∀ j ∈ us, j ∈ vs) (hz : xs.length ≤ 50000)
    (h : ∀ x ∈ xs, ∃ env', TgC K g (δ x) (wipeE env vs) env' us ∧ EvB K tt env' (p x) ∧ (p x = true → EvE K te env' (f x))) : EvN K (tLc wi g tt te vs) env ((xs.filter p).map f) := fun σ B s H1 e Q q =>
  hw σ B s H1 e _ fun J B' H2 G Y g0 w hG hY D hD => by
    rw [List.length_map] at w
    refine lc_it w (fun i H => ∃ Bi acc, Ex B' Bi ∧ Ex Bi H ∧ (∀ a, H2 a ≠ none → Bi a = B' a ∧ H a = H2 a) ∧ Bi D = none ∧ H D = some (.lst acc) ∧ RpAll K Bi (((xs.take i).filter p).map f) acc)
      ⟨B', [], Ex.refl _, g0.h.trans (Ex.new hD), fun a ha => ⟨rfl, upd_ne fun z => ha (by rw [z]; exact hD)⟩, fresh_back g0.h hD, upd_same, .nil⟩
      (fun i H _ hp => by
        obtain ⟨Bi, acc, e1, e2, _⟩ := hp
        exact hG H (e1.trans e2)) ?_ ?_
    · rintro i x H H' hi ⟨Bi, acc, e1, e2, old, bD, hDD, racc⟩ y
      obtain ⟨d, B2, hd, gy, rd⟩ := hY i H x H' Bi e1 e2 y
      rw [List.getElem?_map] at hd
      obtain ⟨x0, hx0, rfl⟩ : ∃ x0, xs[i]? = some x0 ∧ δ x0 = d := by
        cases hq : xs[i]? with
        | none =>
          rw [hq] at hd
          cases hd
        | some x0 =>
          rw [hq] at hd
          exact ⟨x0, rfl, Option.some.inj hd⟩
      obtain ⟨env', tg, tb, tv⟩ := h x0 (List.mem_of_getElem? hx0)
      have sw : SD K B2 (L2.wipe σ vs) (wipeE env vs) := (s.wipe vs).mono (((g0.b).trans e1).trans gy.b)
      refine tg _ B2 x sw rd H' gy.h _ fun σ2 s2 hl hn => ⟨wipe_eq hl hn hu, ?_⟩
      refine tb σ2 B2 s2 H' gy.h _ fun H3 e3 => ?_
      have hDn : H D ≠ none := by rw [hDD]; exact fun z => by cases z
      have b2D : B2 D = none := by rw [gy.n D hDn, bD]
      have h3D : H3 D = some (.lst acc) := e3 _ _ (gy.k _ _ hDD)
      have neD : ∀ a, H2 a ≠ none → a ≠ D := fun a ha z => ha (by rw [z]; exact hD)
      have hHn : ∀ a, H2 a ≠ none → H a ≠ none := fun a ha => by rw [(old a ha).2]; exact ha
      have exn : ∀ {Ha Hb : Hp} {a : Addr}, Ex Ha Hb → Ha a ≠ none → Hb a = Ha a := fun {Ha Hb a} ee ha => by
        cases hq : Ha a with
        | none => exact absurd hq ha
        | some o => exact ee a o hq
      have takeS : xs.take (i + 1) = xs.take i ++ [x0] := by
        rw [List.take_add_one, hx0]
        rfl
      cases hp : p x0 with
      | true =>
        show te σ2 H3 _
        refine tv hp σ2 B2 s2 H3 (gy.h.trans e3) _ fun v B3 H4 g4 r4 => ?_
        have h3n : ∀ a, H a ≠ none → H3 a ≠ none := fun a ha => by rw [exn (gy.k.trans e3) ha]; exact ha
        have b3D : B3 D = none := by rw [g4.n D (by rw [h3D]; exact fun z => by cases z), b2D]
        refine ⟨acc, g4.k _ _ h3D, sz_lt ?_, B3, acc ++ [v], (e1.trans gy.b).trans g4.b, Ex.mut g4.h b3D, fun a ha => ⟨?_, ?_⟩, b3D, upd_same, ?_⟩
        · have l1 := racc.len
          have l2 := List.length_filter_le p (xs.take i)
          rw [List.length_map] at l1
          rw [List.length_take] at l2
          omega
        · rw [g4.n a (h3n a (hHn a ha)), gy.n a (hHn a ha), (old a ha).1]
        · rw [upd_ne (neD a ha), exn g4.k (h3n a (hHn a ha)), exn (gy.k.trans e3) (hHn a ha), (old a ha).2]
        · rw [takeS, List.filter_append, List.map_append, show List.filter p [x0] = [x0] by simp [hp]]
          exact (RpAll.mono (gy.b.trans g4.b) _ _ racc).app (.cons r4 .nil)
      | false =>
        show ∃ Bi acc, _
        refine ⟨B2, acc, e1.trans gy.b, gy.h.trans e3, fun a ha => ⟨?_, ?_⟩, b2D, h3D, ?_⟩
        · rw [gy.n a (hHn a ha), (old a ha).1]
        · rw [exn (gy.k.trans e3) (hHn a ha), (old a ha).2]
        · rw [takeS, List.filter_append, show List.filter p [x0] = [] by simp [hp], List.append_nil]
          exact RpAll.mono gy.b _ _ racc
    · rintro H ⟨Bi, acc, e1, e2, old, bD, hDD, racc⟩
      rw [List.take_length] at racc
      refine q D acc Bi H (g0.trans ⟨e1, e2, fun a o ha => ?_, fun a ha => (old a ha).1⟩) (fresh_back g0.k hD) bD hDD racc
      rw [(old a (by rw [ha]; exact fun z => by cases z)).2]
      exact ha
end

/-! ### states -/
def OwL (K : PySem.W.Frag) (B H : Hp) : List (List Da) → List Addr → Prop
  | [], ls => ls = []
  | ds :: r, ls => ∃ l t xs, ls = l :: t ∧ H l = some (.lst xs) ∧ RpAll K B ds xs ∧ OwL K B H r t
def SlO (K : PySem.W.Frag) (B H : Hp) (o : Option (Option V)) (A : List Addr) : Sl → Prop
  | .no => True
  | .im d => ∃ v, o = some (some v) ∧ Rp K B d v
  | .mu ds => ∃ l xs, o = some (some (.ref l)) ∧ A = [l] ∧ H l = some (.lst xs) ∧ RpAll K B ds xs
  | .md kvs => ∃ l ws, o = some (some (.ref l)) ∧ A = [l] ∧ H l = some (.dK ws) ∧ KvR K B kvs ws
  | .ob C ns dss => ∃ a dx ls, o = some (some (.ref a)) ∧ A = a :: ls ∧ A.Nodup ∧ H a = some (.ins C dx (ns.zip (ls.map V.ref))) ∧ ls.length = ns.length ∧ OwL K B H dss ls
structure Sta (K : PySem.W.Frag) (B0 H0 B H : Hp) (σ : L2.St) (env : En) : Prop where
  eB : Ex B0 B
  eH : Ex B H
  old : ∀ a, H0 a ≠ none → B a = B0 a ∧ H a = H0 a
  len : env.length = σ.length
  own : ∃ ad : Nat → List Addr, (∀ i j x, x ∈ ad i → x ∈ ad j → i = j) ∧ (∀ i x, x ∈ ad i → H0 x = none ∧ B x = none ∧ H x ≠ none) ∧ ∀ i s, env[i]? = some s → SlO K B H (σ[i]?) (ad i) s
structure Ed where
  nx : En → Prop
  rd : Da → Prop
  rl : List Da → Prop
  ro : Addr → List Str → List (List Da) → Prop := fun _ _ _ => False
  bk : En → Prop := fun _ => False
  ct : En → Prop := fun _ => False
  xk : WX := fun _ _ _ _ => True
  rx : En → Addr → Prop := fun _ _ => False
structure EndsOk (K : PySem.W.Frag) (B0 H0 Bs : Hp) (D : Ends) (E : Ed) : Prop where
  nx : ∀ σ B H env, Sta K B0 H0 B H σ env → Ex Bs B → E.nx env → D.nx σ H
  bk : ∀ σ B H env, Sta K B0 H0 B H σ env → Ex Bs B → E.bk env → D.bk σ H
  ct : ∀ σ B H env, Sta K B0 H0 B H σ env → Ex Bs B → E.ct env → D.ct σ H
  rd : ∀ v B H d, Gr B0 H0 B H → Rp K B d v → E.rd d → D.rt v H
  rl : ∀ l xs B H ds, Gr B0 H0 B H → H0 l = none → B l = none → H l = some (.lst xs) → RpAll K B ds xs → E.rl ds → D.rt (.ref l) H
  ro : ∀ a dx ls B H C ns dss, Gr B0 H0 B H → (a :: ls).Nodup → (∀ x ∈ a :: ls, H0 x = none ∧ B x = none) → H a = some (.ins C dx (ns.zip (ls.map V.ref))) → ls.length = ns.length → OwL K B H dss ls → E.ro C ns dss → D.rt (.ref a) H
  rx : ∀ σ B H env C, Sta K B0 H0 B H σ env → Ex Bs B → E.rx env C → E.xk (.ref C) none σ H
def Run (K : PySem.W.Frag) (t : TS) (env : En) (E : Ed) : Prop := ∀ B0 H0 B H σ D Bs, Ex Bs B → Sta K B0 H0 B H σ env → EndsOk K B0 H0 Bs D E → t D σ H
section
variable {K : PySem.W.Frag} {B0 H0 B B' H H' H1 H2 : Hp} {σ : L2.St} {env env' : En}
theorem ex_ne {Ha Hb : Hp} {a : Addr} (ee : Ex Ha Hb) (ha : Ha a ≠ none) : Hb a = Ha a := by
  cases hq : Ha a with
  | none => exact absurd hq ha
  | some o => exact ee a o hq
theorem ex_nn {Ha Hb : Hp} {a : Addr} (ee : Ex Ha Hb) (ha : Ha a ≠ none) : Hb a ≠ none := by
  rw [ex_ne ee ha]
  exact ha
theorem OwL.up (eB : Ex B B') (eH : Ex H H') : ∀ {dss : List (List Da)} {ls : List Addr}, OwL K B H dss ls → OwL K B' H' dss ls
  | [], ls, h => h
  | ds :: r, ls, h => by
    obtain ⟨l, t, xs, h1, h2, h3, h4⟩ := h
    exact ⟨l, t, xs, h1, eH _ _ h2, RpAll.mono eB _ _ h3, h4.up eB eH⟩
theorem SlO.up (eB : Ex B B') (eH : Ex H H') {o : Option (Option V)} {A : List Addr} {s : Sl} (h : SlO K B H o A s) : SlO K B' H' o A s := by
  cases s with
  | no => trivial
  | im d =>
    obtain ⟨v, h1, h2⟩ := h
    exact ⟨v, h1, h2.mono eB⟩
  | mu ds =>
    obtain ⟨l, xs, h1, h2, h3, h4⟩ := h
    exact ⟨l, xs, h1, h2, eH _ _ h3, RpAll.mono eB _ _ h4⟩
  | md kvs =>
    obtain ⟨l, ws, h1, h2, h3, h4⟩ := h
    exact ⟨l, ws, h1, h2, eH _ _ h3, h4.mono eB⟩
  | ob C ns dss =>
    obtain ⟨a, dx, ls, h1, h2, h3, h4, h5, h6⟩ := h
    exact ⟨a, dx, ls, h1, h2, h3, eH _ _ h4, h5, h6.up eB eH⟩
theorem Sta.gr (s : Sta K B0 H0 B H σ env) : Gr B0 H0 B H := ⟨s.eB, s.eH, fun a o h => by rw [(s.old a (by rw [h]; exact fun z => by cases z)).2]; exact h, fun a h => (s.old a h).1⟩
/-- the heap and the base grow -/
theorem Sta.up (s : Sta K B0 H0 B H σ env) (g : Gr B H B' H') : Sta K B0 H0 B' H' σ env := by
  obtain ⟨ad, a1, a2, a3⟩ := s.own
  refine ⟨s.eB.trans g.b, g.h, fun a h => ?_, s.len, ad, a1, fun i x hx => ?_, fun i sl hs => (a3 i sl hs).up g.b g.k⟩
  · have hH : H a ≠ none := by rw [(s.old a h).2]; exact h
    exact ⟨by rw [g.n a hH, (s.old a h).1], by rw [ex_ne g.k hH, (s.old a h).2]⟩
  · obtain ⟨z1, z2, z3⟩ := a2 i x hx
    exact ⟨z1, by rw [g.n x z3, z2], ex_nn g.k z3⟩
theorem Sta.grow (s : Sta K B0 H0 B H σ env) (e : Ex H H') : Sta K B0 H0 B H' σ env := s.up (Gr.keep s.eH e)
/-- a slot bound anew: to data, or to what is new since H -/
theorem Sta.new (s : Sta K B0 H0 B H σ env) (g : Gr B H B' H') {i : Nat} {v : V} {sl : Sl} (A : List Addr) (hA : ∀ x ∈ A, H x = none ∧ B' x = none ∧ H' x ≠ none) (hs : SlO K B' H' (some (some v)) A sl) : Sta K B0 H0 B' H' (σ.set i (some v)) (env.set i sl) := by
  obtain ⟨ad, a1, a2, a3⟩ := s.own
  have h0 : ∀ x, H x = none → H0 x = none := fun x hx => by
    cases hq : H0 x with
    | none => rfl
    | some o =>
      have := (s.old x (by rw [hq]; exact fun z => by cases z)).2
      rw [hx, hq] at this
      cases this
  have s' := s.up g
  have hdis : ∀ k x, x ∈ A → x ∈ ad k → False := fun k x h1 h2 => (a2 k x h2).2.2 (hA x h1).1
  refine ⟨s'.eB, s'.eH, s'.old, by rw [List.length_set, List.length_set, s.len], fun k => if k = i then A else ad k, fun k j x hk hj => ?_, fun k x hk => ?_, fun k t ht => ?_⟩
  · by_cases e1 : k = i
    · by_cases e2 : j = i
      · rw [e1, e2]
      · simp only [if_pos e1] at hk
        simp only [if_neg e2] at hj
        exact (hdis j x hk hj).elim
    · simp only [if_neg e1] at hk
      by_cases e2 : j = i
      · simp only [if_pos e2] at hj
        exact (hdis k x hj hk).elim
      · simp only [if_neg e2] at hj
        exact a1 k j x hk hj
  · by_cases e1 : k = i
    · simp only [if_pos e1] at hk
      obtain ⟨z1, z2, z3⟩ := hA x hk
      exact ⟨h0 x z1, z2, z3⟩
    · simp only [if_neg e1] at hk
      obtain ⟨z1, z2, z3⟩ := a2 k x hk
      exact ⟨z1, by rw [g.n x z3, z2], ex_nn g.k z3⟩
  · by_cases e1 : i = k
    · subst e1
      rw [List.getElem?_set_self'] at ht
      cases hi : env[i]? with
      | none =>
        rw [hi] at ht
        cases ht
      | some t' =>
        rw [hi] at ht
        cases ht
        have hl : i < σ.length := by
          rw [← s.len]
          exact (List.getElem?_eq_some_iff.mp hi).1
        rw [List.getElem?_set_self hl]
        simp only [if_true]
        exact hs
    · rw [List.getElem?_set_ne e1] at ht ⊢
      have e2 : ¬ k = i := fun z => e1 z.symm
      simp only [if_neg e2]
      exact (a3 k t ht).up g.b g.k
theorem Sta.im (s : Sta K B0 H0 B H σ env) (g : Gr B H B' H') {i : Nat} {v : V} {d : Da} (r : Rp K B' d v) : Sta K B0 H0 B' H' (σ.set i (some v)) (env.set i (.im d)) :=
  s.new g [] (fun x h => by cases h) ⟨v, rfl, r⟩
theorem Sta.no (s : Sta K B0 H0 B H σ env) {i : Nat} {v : V} : Sta K B0 H0 B H (σ.set i (some v)) (env.set i .no) :=
  s.new (Gr.refl s.eH) [] (fun x h => by cases h) trivial
theorem Sta.mu (s : Sta K B0 H0 B H σ env) (g : Gr B H B' H') {i : Nat} {p : Addr} {xs : List V} {ds : List Da} (h1 : H p = none) (h2 : B' p = none) (h3 : H' p = some (.lst xs)) (r : RpAll K B' ds xs) : Sta K B0 H0 B' H' (σ.set i (some (.ref p))) (env.set i (.mu ds)) :=
  s.new g [p] (fun x h => by
    rw [List.mem_singleton] at h
    subst h
    exact ⟨h1, h2, by rw [h3]; exact fun z => by cases z⟩) ⟨p, xs, rfl, rfl, h3, r⟩
theorem Sta.md (s : Sta K B0 H0 B H σ env) (g : Gr B H B' H') {i : Nat} {p : Addr} {ws : List (Key × V)} {kvs : List (Int × Da)} (h1 : H p = none) (h2 : B' p = none) (h3 : H' p = some (.dK ws)) (r : KvR K B' kvs ws) : Sta K B0 H0 B' H' (σ.set i (some (.ref p))) (env.set i (.md kvs)) :=
  s.new g [p] (fun x h => by
    rw [List.mem_singleton] at h
    subst h
    exact ⟨h1, h2, by rw [h3]; exact fun z => by cases z⟩) ⟨p, ws, rfl, rfl, h3, r⟩
theorem OwL.same : ∀ {dss : List (List Da)} {ls : List Addr}, (∀ a ∈ ls, H' a = H a) → OwL K B H dss ls → OwL K B H' dss ls
  | [], ls, _, h => h
  | ds :: r, ls, e, h => by
    obtain ⟨l, t, xs, rfl, h2, h3, h4⟩ := h
    exact ⟨l, t, xs, rfl, by rw [e l List.mem_cons_self]; exact h2, h3, h4.same fun a ha => e a (List.mem_cons_of_mem _ ha)⟩
theorem SlO.same {o : Option (Option V)} {A : List Addr} {s : Sl} (e : ∀ a ∈ A, H' a = H a) (h : SlO K B H o A s) : SlO K B H' o A s := by
  cases s with
  | no => trivial
  | im d => exact h
  | mu ds =>
    obtain ⟨l, xs, h1, rfl, h3, h4⟩ := h
    exact ⟨l, xs, h1, rfl, by rw [e l List.mem_cons_self]; exact h3, h4⟩
  | md kvs =>
    obtain ⟨l, ws, h1, rfl, h3, h4⟩ := h
    exact ⟨l, ws, h1, rfl, by rw [e l List.mem_cons_self]; exact h3, h4⟩
  | ob C ns dss =>
    obtain ⟨a, dx, ls, h1, rfl, h3, h4, h5, h6⟩ := h
    exact ⟨a, dx, ls, h1, rfl, h3, by rw [e a List.mem_cons_self]; exact h4, h5, h6.same fun a ha => e a (List.mem_cons_of_mem _ ha)⟩
/-- an own thing written -/
theorem Sta.wr (s : Sta K B0 H0 B H σ env) {ad : Nat → List Addr} (a1 : ∀ i j x, x ∈ ad i → x ∈ ad j → i = j) (a2 : ∀ i x, x ∈ ad i → H0 x = none ∧ B x = none ∧ H x ≠ none) (a3 : ∀ i s, env[i]? = some s → SlO K B H (σ[i]?) (ad i) s)
    {i : Nat} {sl : Sl} (same : ∀ a, a ∉ ad i → H' a = H a) (nn : ∀ a ∈ ad i, H' a ≠ none) (hs : SlO K B H' (σ[i]?) (ad i) sl) : Sta K B0 H0 B H' σ (env.set i sl) := by
  refine ⟨s.eB, fun a o h => ?_, fun a h => ?_, by rw [List.length_set, s.len], ad, a1, fun k x hk => ?_, fun k t ht => ?_⟩
  · rw [same a fun z => by rw [(a2 i a z).2.1] at h; cases h]
    exact s.eH a o h
  · rw [same a fun z => h (a2 i a z).1]
    exact s.old a h
  · obtain ⟨z1, z2, z3⟩ := a2 k x hk
    refine ⟨z1, z2, ?_⟩
    by_cases q : x ∈ ad i
    · exact nn x q
    · rw [same x q]
      exact z3
  · by_cases e1 : i = k
    · subst e1
      rw [List.getElem?_set_self'] at ht
      cases hi : env[i]? with
      | none =>
        rw [hi] at ht
        cases ht
      | some t' =>
        rw [hi] at ht
        cases ht
        exact hs
    · rw [List.getElem?_set_ne e1] at ht
      exact (a3 k t ht).same fun a ha => same a fun z => e1 (a1 i k a z ha)
/-- the views -/
theorem OwL.rp : ∀ {dss : List (List Da)} {ls : List Addr}, Ex B H → OwL K B H dss ls → RpAll K H (dss.map Da.lst) (ls.map V.ref)
  | [], ls, _, h => by
    have e : ls = [] := h
    subst e
    exact .nil
  | ds :: r, ls, e, h => by
    obtain ⟨l, t, xs, rfl, h2, h3, h4⟩ := h
    rw [List.map_cons, List.map_cons]
    refine .cons ?_ (h4.rp e)
    simp only [Rp]
    exact ⟨l, xs, rfl, h2, RpAll.mono e _ _ h3⟩
theorem Sta.frz (s : Sta K B0 H0 B H σ env) : SD K H σ (frz env) := by
  obtain ⟨ad, a1, a2, a3⟩ := s.own
  refine ⟨by rw [List.length_map, s.len], fun i t ht => ?_⟩
  rw [List.getElem?_map] at ht
  cases hi : env[i]? with
  | none =>
    rw [hi] at ht
    cases ht
  | some t' =>
    rw [hi] at ht
    cases ht
    have h := a3 i t' hi
    cases t' with
    | no => trivial
    | im d =>
      obtain ⟨v, h1, h2⟩ := h
      exact ⟨v, h1, h2.mono s.eH⟩
    | mu ds =>
      obtain ⟨l, xs, h1, h2, h3, h4⟩ := h
      exact ⟨_, h1, by simp only [Rp]; exact ⟨l, xs, rfl, h3, RpAll.mono s.eH _ _ h4⟩⟩
    | md kvs =>
      obtain ⟨l, ws, h1, h2, h3, h4⟩ := h
      exact ⟨l, ws, h1, h3, h4.mono s.eH⟩
    | ob C ns dss =>
      obtain ⟨a, dx, ls, h1, h2, h3, h4, h5, h6⟩ := h
      exact ⟨_, h1, by simp only [Rp]; exact ⟨a, dx, ls.map V.ref, rfl, h4, by rw [List.length_map]; exact h5, h6.rp s.eH⟩⟩
theorem Sta.imm (s : Sta K B0 H0 B H σ env) : SD K B σ (imm env) := by
  obtain ⟨ad, a1, a2, a3⟩ := s.own
  refine ⟨by rw [List.length_map, s.len], fun i t ht => ?_⟩
  rw [List.getElem?_map] at ht
  cases hi : env[i]? with
  | none =>
    rw [hi] at ht
    cases ht
  | some t' =>
    rw [hi] at ht
    cases ht
    have h := a3 i t' hi
    cases t' with
    | im d => exact h
    | _ => trivial
end

/-! ### statements -/
section
variable {K : PySem.W.Frag} {env env' : En} {E : Ed} {t u tb : TS} {te ta : TE} {tt : TT} {d : Da} {ds : List Da} {i : Nat}
theorem run_seq (h : Run K t env { E with nx := fun e => Run K u e E }) : Run K (tSeq t u) env E := fun B0 H0 B H σ D Bs eb s k =>
  h B0 H0 B H σ { D with nx := u D } Bs eb s ⟨fun σ' B' H' e' s' eb' r => r B0 H0 B' H' σ' D Bs eb' s' k, k.bk, k.ct, k.rd, k.rl, k.ro, k.rx⟩
theorem run_next (h : E.nx env) : Run K tNext env E := fun B0 H0 B H σ D Bs eb s k => k.nx σ B H env s eb h
theorem run_asg (h : EvE K te (imm env) d) (q : E.nx (env.set i (.im d))) : Run K (tAsg te (gName i)) env E := fun B0 H0 B H σ D Bs eb s k =>
  h σ B s.imm H s.eH _ fun v B' H' g r => k.nx _ B' H' _ (s.im g r) (eb.trans g.b) q
theorem run_asgF (h : EvE K te (frz env) d) (hs : isSc d = true) (q : E.nx (env.set i (.im d))) : Run K (tAsg te (gName i)) env E := fun B0 H0 B H σ D Bs eb s k =>
  h σ H s.frz H (Ex.refl _) _ fun v B' H' g r => k.nx _ B H' _ (s.im (Gr.keep s.eH g.k) (r.sc hs)) eb q
theorem run_asgN (h : EvN K te (imm env) ds) (q : E.nx (env.set i (.mu ds))) : Run K (tAsg te (gName i)) env E := fun B0 H0 B H σ D Bs eb s k =>
  h σ B s.imm H s.eH _ fun p xs B' H' g h1 h2 h3 r => k.nx _ B' H' _ (s.mu g h1 h2 h3 r) (eb.trans g.b) q
theorem run_asgNF (h : EvN K te (frz env) ds) (hs : ds.all isSc = true) (q : E.nx (env.set i (.mu ds))) : Run K (tAsg te (gName i)) env E := fun B0 H0 B H σ D Bs eb s k =>
  h σ H s.frz H (Ex.refl _) _ fun p xs B' H' g h1 h2 h3 r => k.nx _ B H' _ (s.mu (Gr.keep s.eH g.k) h1 (fresh_back s.eH h1) h3 (r.sc hs)) eb q
theorem run_asgD {kvs : List (Int × Da)} (h : EvD K te (imm env) kvs) (q : E.nx (env.set i (.md kvs))) : Run K (tAsg te (gName i)) env E := fun B0 H0 B H σ D Bs eb s k =>
  h σ B s.imm H s.eH _ fun p xs B' H' g h1 h2 h3 r => k.nx _ B' H' _ (s.md g h1 h2 h3 r) (eb.trans g.b) q
theorem run_par {j : Nat} {ta : TA} {d' : Da} (h : EvA K ta (imm env) [d, d']) (q : E.nx ((env.set i (.im d)).set j (.im d'))) : Run K (tPar i j ta) env E := fun B0 H0 B H σ D Bs eb s k =>
  h σ B s.imm H s.eH _ fun vs B' H' g r => by
    obtain ⟨v, w, rfl, r1, r2⟩ := two_rp r
    exact ⟨v, w, rfl, k.nx _ B' H' _ ((s.im g r1).im (Gr.refl g.h) r2) (eb.trans g.b) q⟩
theorem run_parF {j : Nat} {ta : TA} {d' : Da} (h : EvA K ta (frz env) [d, d']) (h1 : isSc d = true) (h2 : isSc d' = true) (q : E.nx ((env.set i (.im d)).set j (.im d'))) : Run K (tPar i j ta) env E := fun B0 H0 B H σ D Bs eb s k =>
  h σ H s.frz H (Ex.refl _) _ fun vs B' H' g r => by
    obtain ⟨v, w, rfl, r1, r2⟩ := two_rp r
    exact ⟨v, w, rfl, k.nx _ B H' _ ((s.im (Gr.keep s.eH g.k) (r1.sc h1)).im (Gr.refl (s.eH.trans g.k)) (r2.sc h2)) eb q⟩
theorem run_if {b : Bool} (h : EvB K tt (frz env) b) (h1 : b = true → Run K t env E) (h2 : b = false → Run K u env E) : Run K (tIfS tt t u) env E := fun B0 H0 B H σ D Bs eb s k =>
  h σ H s.frz H (Ex.refl _) _ fun H' e => by
    cases b with
    | true =>
      show t D σ H'
      exact h1 rfl B0 H0 B H' σ D Bs eb (s.grow e) k
    | false =>
      show u D σ H'
      exact h2 rfl B0 H0 B H' σ D Bs eb (s.grow e) k
theorem run_never (h : False) : Run K tNever env E := h.elim
theorem run_drop (h : EvE K te (frz env) d) (q : E.nx env) : Run K (tDrop te) env E := fun B0 H0 B H σ D Bs eb s k =>
  h σ H s.frz H (Ex.refl _) _ fun v B' H' g r => k.nx σ B H' env (s.grow g.k) eb q
theorem run_ret (h : EvE K te (imm env) d) (q : E.rd d) : Run K (tRet te) env E := fun B0 H0 B H σ D Bs eb s k =>
  h σ B s.imm H s.eH _ fun v B' H' g r => k.rd v B' H' d ((s.up g).gr) r q
theorem run_retF (h : EvE K te (frz env) d) (hs : isSc d = true) (q : E.rd d) : Run K (tRet te) env E := fun B0 H0 B H σ D Bs eb s k =>
  h σ H s.frz H (Ex.refl _) _ fun v B' H' g r => k.rd v B H' d ((s.grow g.k).gr) (r.sc hs) q
theorem h0_none {B0 H0 B H : Hp} {σ : L2.St} {x : Addr} (s : Sta K B0 H0 B H σ env) (hx : H x = none) : H0 x = none := by
  cases hq : H0 x with
  | none => rfl
  | some o =>
    have := (s.old x (by rw [hq]; exact fun z => by cases z)).2
    rw [hx, hq] at this
    cases this
theorem run_retN (h : EvN K te (imm env) ds) (q : E.rl ds) : Run K (tRet te) env E := fun B0 H0 B H σ D Bs eb s k =>
  h σ B s.imm H s.eH _ fun p xs B' H' g h1 h2 h3 r => k.rl p xs B' H' ds ((s.up g).gr) (h0_none s h1) h2 h3 r q
theorem run_retNF (h : EvN K te (frz env) ds) (hs : ds.all isSc = true) (q : E.rl ds) : Run K (tRet te) env E := fun B0 H0 B H σ D Bs eb s k =>
  h σ H s.frz H (Ex.refl _) _ fun p xs B' H' g h1 h2 h3 r => k.rl p xs B H' ds ((s.grow g.k).gr) (h0_none s h1) (fresh_back s.eH h1) h3 (r.sc hs) q
theorem run_retV (h : env[i]? = some (.mu ds)) (q : E.rl ds) : Run K (tRet (tVar i)) env E := fun B0 H0 B H σ D Bs eb s k => by
  obtain ⟨ad, a1, a2, a3⟩ := s.own
  obtain ⟨l, xs, h1, h2, h3, h4⟩ := a3 i _ h
  obtain ⟨z1, z2, z3⟩ := a2 i l (by rw [h2]; exact List.mem_cons_self)
  exact ⟨_, h1, k.rl l xs B H ds s.gr z1 z2 h3 h4 q⟩
theorem run_retNo (q : E.rd .non) : Run K tRetN env E := fun B0 H0 B H σ D Bs eb s k => k.rd .non B H .non s.gr (by simp only [Rp]) q
/-- an own list told as data from here on -/
theorem run_fix (h : env[i]? = some (.mu ds)) (q : Run K t (env.set i (.im (.lst ds))) E) : Run K t env E := fun B0 H0 B H σ D Bs eb s k => by
  obtain ⟨ad, a1, a2, a3⟩ := s.own
  obtain ⟨l, xs, h1, h2, h3, h4⟩ := a3 i _ h
  obtain ⟨z1, z2, z3⟩ := a2 i l (by rw [h2]; exact List.mem_cons_self)
  have eB : Ex B (upd B l (.lst xs)) := Ex.new z2
  refine q B0 H0 (upd B l (.lst xs)) H σ D Bs (eb.trans eB) ⟨s.eB.trans eB, fun a o ho => ?_, fun a ha => ⟨?_, (s.old a ha).2⟩, by rw [List.length_set, s.len], fun j => if j = i then [] else ad j, fun p j x hp hj => ?_, fun p x hp => ?_, fun p t ht => ?_⟩ k
  · by_cases e : a = l
    · subst e
      rw [upd_same] at ho
      rw [h3]
      exact ho
    · rw [upd_ne e] at ho
      exact s.eH a o ho
  · rw [upd_ne fun e => ha (by rw [e]; exact z1)]
    exact (s.old a ha).1
  · by_cases e1 : p = i
    · simp only [if_pos e1] at hp
      cases hp
    · by_cases e2 : j = i
      · simp only [if_pos e2] at hj
        cases hj
      · simp only [if_neg e1] at hp
        simp only [if_neg e2] at hj
        exact a1 p j x hp hj
  · by_cases e1 : p = i
    · simp only [if_pos e1] at hp
      cases hp
    · simp only [if_neg e1] at hp
      obtain ⟨w1, w2, w3⟩ := a2 p x hp
      refine ⟨w1, ?_, w3⟩
      rw [upd_ne fun e => e1 (a1 p i x hp (by rw [h2, e]; exact List.mem_cons_self))]
      exact w2
  · by_cases e1 : i = p
    · subst e1
      rw [List.getElem?_set_self', h] at ht
      cases ht
      exact ⟨_, h1, by simp only [Rp]; exact ⟨l, xs, rfl, upd_same, RpAll.mono eB _ _ h4⟩⟩
    · rw [List.getElem?_set_ne e1] at ht
      have e2 : ¬ p = i := fun z => e1 z.symm
      simp only [if_neg e2]
      exact (a3 p t ht).up eB (Ex.refl _)
/-- less told of a slot -/
theorem run_less (q : Run K t (env.set i .no) E) : Run K t env E := fun B0 H0 B H σ D Bs eb s k => by
  obtain ⟨ad, a1, a2, a3⟩ := s.own
  refine q B0 H0 B H σ D Bs eb ⟨s.eB, s.eH, s.old, by rw [List.length_set, s.len], ad, a1, a2, fun p t ht => ?_⟩ k
  by_cases e1 : i = p
  · subst e1
    rw [List.getElem?_set_self'] at ht
    cases hi : env[i]? with
    | none =>
      rw [hi] at ht
      cases ht
    | some t' =>
      rw [hi] at ht
      cases ht
      trivial
  · rw [List.getElem?_set_ne e1] at ht
    exact a3 p t ht
theorem run_aug {f : Int → Int → Int} {a b : Int} (hx : env[i]? = some (.im (.int a))) (h : EvE K te (frz env) (.int b)) (q : E.nx (env.set i (.im (.int (f a b))))) : Run K (tAug i te (ipI f)) env E := fun B0 H0 B H σ D Bs eb s k => by
  obtain ⟨v, h1, h2⟩ := s.imm.sl i (.im (.int a)) (by rw [List.getElem?_map, hx]; rfl)
  simp only [Rp] at h2
  subst h2
  refine ⟨.int a, h1, h σ H s.frz H (Ex.refl _) _ fun w B' H' g r => ?_⟩
  simp only [Rp] at r
  subst r
  exact ⟨a, b, rfl, rfl, k.nx _ B H' _ (s.im (Gr.keep s.eH g.k) (by simp only [Rp])) eb q⟩
/-- xs.append(e), xs one's own -/
theorem run_app (hx : env[i]? = some (.mu ds)) (h : EvE K te (imm env) d) (hz : ds.length < 100000) (q : E.nx (env.set i (.mu (ds ++ [d])))) : Run K (tDrop (tBM K "list" rAppend (tVar i) (tCons te tNil))) env E := fun B0 H0 B H σ D Bs eb s k => by
  obtain ⟨ad, a1, a2, a3⟩ := s.own
  obtain ⟨l, xs, h1, h2, h3, h4⟩ := a3 i _ hx
  refine ⟨_, h1, .inl ⟨rfl, xs, sq_of h3⟩, h σ B s.imm H s.eH _ fun v B' H' g r => ?_⟩
  have s' := s.up g
  have h3' := g.k _ _ h3
  have hA : ∀ i x, x ∈ ad i → H0 x = none ∧ B' x = none ∧ H' x ≠ none := fun i x hx => by
    obtain ⟨z1, z2, z3⟩ := a2 i x hx
    exact ⟨z1, by rw [g.n x z3, z2], ex_nn g.k z3⟩
  refine ⟨l, xs, v, rfl, rfl, h3', sz_lt (by rw [h4.len]; exact hz), k.nx σ B' _ _ (s'.wr (i := i) (sl := .mu (ds ++ [d])) (H' := upd H' l (.lst (xs ++ [v]))) a1 hA (fun j t ht => (a3 j t ht).up g.b g.k) (fun a ha => upd_ne fun e => ha (by rw [h2, e]; exact List.mem_cons_self)) (fun a ha => ?_) ⟨l, xs ++ [v], h1, h2, upd_same, ?_⟩) (eb.trans g.b) q⟩
  · rw [h2, List.mem_singleton] at ha
    subst ha
    rw [upd_same]
    exact fun z => by cases z
  · exact (RpAll.mono g.b _ _ h4).app (.cons r .nil)
theorem run_appF (hx : env[i]? = some (.mu ds)) (h : EvE K te (frz env) d) (hs : isSc d = true) (hz : ds.length < 100000) (q : E.nx (env.set i (.mu (ds ++ [d])))) : Run K (tDrop (tBM K "list" rAppend (tVar i) (tCons te tNil))) env E := fun B0 H0 B H σ D Bs eb s k => by
  obtain ⟨ad, a1, a2, a3⟩ := s.own
  obtain ⟨l, xs, h1, h2, h3, h4⟩ := a3 i _ hx
  refine ⟨_, h1, .inl ⟨rfl, xs, sq_of h3⟩, h σ H s.frz H (Ex.refl _) _ fun v B' H' g r => ?_⟩
  have s' := s.grow g.k
  have h3' := g.k _ _ h3
  have hA : ∀ i x, x ∈ ad i → H0 x = none ∧ B x = none ∧ H' x ≠ none := fun i x hx => by
    obtain ⟨z1, z2, z3⟩ := a2 i x hx
    exact ⟨z1, z2, ex_nn g.k z3⟩
  refine ⟨l, xs, v, rfl, rfl, h3', sz_lt (by rw [h4.len]; exact hz), k.nx σ B _ _ (s'.wr (i := i) (sl := .mu (ds ++ [d])) (H' := upd H' l (.lst (xs ++ [v]))) a1 hA (fun j t ht => (a3 j t ht).up (Ex.refl _) g.k) (fun a ha => upd_ne fun e => ha (by rw [h2, e]; exact List.mem_cons_self)) (fun a ha => ?_) ⟨l, xs ++ [v], h1, h2, upd_same, ?_⟩) eb q⟩
  · rw [h2, List.mem_singleton] at ha
    subst ha
    rw [upd_same]
    exact fun z => by cases z
  · exact h4.app (.cons (r.sc hs) .nil)
theorem run_while (I : Nat → En → Prop) (m0 : Nat) (h0 : I m0 env)
    (hs : ∀ m e, I m e → ∃ b, EvB K tt (frz e) b ∧ (b = true → Run K tb e { E with nx := fun e' => ∃ m', m' < m ∧ I m' e', ct := fun e' => ∃ m', m' < m ∧ I m' e', bk := E.nx }) ∧ (b = false → E.nx e)) : Run K (tWhile tt tb) env E := fun B0 H0 B H σ D Bs eb s k => by
  refine ⟨fun m σ' H' => ∃ e B', I m e ∧ Sta K B0 H0 B' H' σ' e ∧ Ex Bs B', ⟨m0, env, B, h0, s, eb⟩, ?_⟩
  rintro m σ' H' ⟨e, B', hi, s', eb'⟩
  obtain ⟨b, hb, h1, h2⟩ := hs m e hi
  refine hb σ' H' s'.frz H' (Ex.refl _) _ fun H2 e2 => ?_
  cases b with
  | true =>
    refine iteT ⟨fun σ2 H3 => ∃ m', m' < m ∧ ∃ e B', I m' e ∧ Sta K B0 H0 B' H3 σ2 e ∧ Ex Bs B', fun σ2 H3 h => h, ?_⟩
    have hn : ∀ σ2 B2 H3 e3, Sta K B0 H0 B2 H3 σ2 e3 → Ex Bs B2 → (∃ m', m' < m ∧ I m' e3) → ∃ m', m' < m ∧ ∃ e B', I m' e ∧ Sta K B0 H0 B' H3 σ2 e ∧ Ex Bs B' := fun σ2 B2 H3 e3 s3 eb3 ⟨m', hm, hI⟩ => ⟨m', hm, e3, B2, hI, s3, eb3⟩
    exact h1 rfl B0 H0 B' H2 σ' _ Bs eb' (s'.grow e2) ⟨hn, fun σ2 B2 H3 e3 s3 eb3 q => k.nx σ2 B2 H3 e3 s3 eb3 q, hn, k.rd, k.rl, k.ro, k.rx⟩
  | false => exact iteF (k.nx σ' B' H2 e (s'.grow e2) eb' (h2 rfl))
def TgS (K : PySem.W.Frag) (g : TG) (d : Da) (env env' : En) : Prop := ∀ B0 H0 B H σ v, Sta K B0 H0 B H σ env → Rp K B d v → ∀ Q : L2.St → Hp → Prop, (∀ σ', Sta K B0 H0 B H σ' env' → Q σ' H) → g v σ H Q
theorem ts_name : TgS K (gName i) d env (env.set i (.im d)) := fun B0 H0 B H σ v s r Q q => q _ (s.im (Gr.refl s.eH) r)
theorem ts_tup2 {g1 g2 : TG} {x y : Da} {env2 : En} (h1 : TgS K g1 x env env') (h2 : TgS K g2 y env' env2) : TgS K (gTup K 2 (gCons g1 (gCons g2 gNil))) (.tup [x, y]) env env2 := fun B0 H0 B H σ v s r Q q => by
  simp only [Rp] at r
  obtain ⟨a, xs, rfl, h, hr⟩ := r
  obtain ⟨v, w, rfl, r1, r2⟩ := two_rp hr
  exact ⟨a, [v, w], rfl, st_of (s.eH _ _ h), rfl, v, [w], rfl, h1 B0 H0 B H σ v s r1 _ fun σ' s' => ⟨w, [], rfl, h2 B0 H0 B H σ' w s' r2 _ fun σ2 s2 => ⟨rfl, q σ2 s2⟩⟩⟩
theorem ts_tup3 {g1 g2 g3 : TG} {x y z : Da} {env2 env3 : En} (h1 : TgS K g1 x env env') (h2 : TgS K g2 y env' env2) (h3 : TgS K g3 z env2 env3) : TgS K (gTup K 3 (gCons g1 (gCons g2 (gCons g3 gNil)))) (.tup [x, y, z]) env env3 := fun B0 H0 B H σ v s r Q q => by
  simp only [Rp] at r
  obtain ⟨a, xs, rfl, h, hr⟩ := r
  obtain ⟨v, r', rfl, r1, hr2⟩ := hr.uncons
  obtain ⟨w, u, rfl, r2, r3⟩ := two_rp hr2
  exact ⟨a, [v, w, u], rfl, st_of (s.eH _ _ h), rfl, v, [w, u], rfl, h1 B0 H0 B H σ v s r1 _ fun σ' s' => ⟨w, [u], rfl, h2 B0 H0 B H σ' w s' r2 _ fun σ2 s2 => ⟨u, [], rfl, h3 B0 H0 B H σ2 u s2 r3 _ fun σ3 s3 => ⟨rfl, q σ3 s3⟩⟩⟩⟩
theorem run_asgT {g : TG} (h : EvE K te (imm env) d) (hg : TgS K g d env env') (q : E.nx env') : Run K (tAsg te g) env E := fun B0 H0 B H σ D Bs eb s k =>
  h σ B s.imm H s.eH _ fun v B' H' g' r => hg B0 H0 B' H' σ v (s.up g') r _ fun σ' s' => k.nx σ' B' H' env' s' (eb.trans g'.b) q
/-- a tuple of two scalars, made by a call that reads own lists -/
theorem run_asgTF {j : Nat} {x y : Da} (h : EvE K te (frz env) (.tup [x, y])) (hx : isSc x = true) (hy : isSc y = true) (q : E.nx ((env.set i (.im x)).set j (.im y))) : Run K (tAsg te (gTup K 2 (gCons (gName i) (gCons (gName j) gNil)))) env E := fun B0 H0 B H σ D Bs eb s k =>
  h σ H s.frz H (Ex.refl _) _ fun v B' H' g' r => by
    simp only [Rp] at r
    obtain ⟨a, xs, rfl, h, hr⟩ := r
    obtain ⟨v, w, rfl, r1, r2⟩ := two_rp hr
    exact ⟨a, [v, w], rfl, st_of (g'.h _ _ h), rfl, v, [w], rfl, w, [], rfl, rfl, k.nx _ B H' _ ((s.im (Gr.keep s.eH g'.k) (r1.sc hx)).im (Gr.refl (s.eH.trans g'.k)) (r2.sc hy)) eb q⟩
theorem run_for {wi : TI} {g : TG} (hw : WkE K wi (imm env) ds) (I : Nat → En → Prop) (h0 : I 0 env)
    (hs : ∀ n d e, ds[n]? = some d → I n e → ∃ e', TgS K g d e e' ∧ Run K tb e' { E with nx := I (n + 1), ct := I (n + 1), bk := E.nx }) (hd : ∀ e, I ds.length e → E.nx e) : Run K (tFor wi g tb) env E := fun B0 H0 B H σ D Bs eb s k =>
  hw σ B s.imm H s.eH _ fun J B' H2 G Y g0 w hG hY => by
    refine for_it w (fun n σ' H' => ∃ e Bi, I n e ∧ Sta K B0 H0 Bi H' σ' e ∧ Ex B' Bi) ⟨env, B', h0, s.up g0, Ex.refl _⟩ (fun n σ' H' _ ⟨e, Bi, _, s', eb'⟩ => hG H' (eb'.trans s'.eH)) ?_ ?_
    · rintro n x σ' H' H3 hn ⟨e, Bi, hi, s', eb'⟩ y
      obtain ⟨d, B3, hd', gy, rd⟩ := hY n H' x H3 Bi eb' s'.eH y
      obtain ⟨e', tg, rb⟩ := hs n d e hd' hi
      refine tg B0 H0 B3 H3 σ' x (s'.up gy) rd _ fun σ2 s2 => ?_
      exact rb B0 H0 B3 H3 σ2 _ B' (eb'.trans gy.b) s2 ⟨fun σ4 B4 H4 e4 s4 eb4 q => ⟨e4, B4, q, s4, eb4⟩, fun σ4 B4 H4 e4 s4 eb4 q => k.nx σ4 B4 H4 e4 s4 ((eb.trans g0.b).trans eb4) q, fun σ4 B4 H4 e4 s4 eb4 q => ⟨e4, B4, q, s4, eb4⟩, k.rd, k.rl, k.ro, fun σ4 B4 H4 e4 C s4 eb4 q => k.rx σ4 B4 H4 e4 C s4 ((eb.trans g0.b).trans eb4) q⟩
    · rintro σ' H' ⟨e, Bi, hi, s', eb'⟩
      exact k.nx σ' Bi H' e s' ((eb.trans g0.b).trans eb') (hd e hi)
theorem run_brk (q : E.bk env) : Run K tBreak env E := fun B0 H0 B H σ D Bs eb s k => k.bk σ B H env s eb q
theorem run_ct (q : E.ct env) : Run K tCont env E := fun B0 H0 B H σ D Bs eb s k => k.ct σ B H env s eb q
theorem Run.imp {E' : Ed} (h : Run K t env E') (h1 : ∀ e, E'.nx e → E.nx e) (h2 : ∀ d, E'.rd d → E.rd d) (h3 : ∀ d, E'.rl d → E.rl d) (h4 : ∀ C n d, E'.ro C n d → E.ro C n d) (h5 : ∀ e, E'.bk e → E.bk e) (h6 : ∀ e, E'.ct e → E.ct e) (h7 : ∀ e C, E'.rx e C → False := by intro _ _ h; exact h) : Run K t env E := fun B0 H0 B H σ D Bs eb s k =>
  h B0 H0 B H σ D Bs eb s ⟨fun σ' B' H' e s' eb' q => k.nx σ' B' H' e s' eb' (h1 e q), fun σ' B' H' e s' eb' q => k.bk σ' B' H' e s' eb' (h5 e q), fun σ' B' H' e s' eb' q => k.ct σ' B' H' e s' eb' (h6 e q), fun v B' H' d g r q => k.rd v B' H' d g r (h2 d q), fun l xs B' H' ds g z1 z2 z3 z4 q => k.rl l xs B' H' ds g z1 z2 z3 z4 (h3 ds q), fun a dx ls B' H' C ns dss g z1 z2 z3 z4 z5 q => k.ro a dx ls B' H' C ns dss g z1 z2 z3 z4 z5 (h4 C ns dss q), fun σ' B' H' e C s' eb' q => (h7 e C q).elim⟩
end

/-! ### promises of defs over data -/
def FnP (K : PySem.W.Frag) (P : List Da → Da → Prop) : Sp := fun vs H Q _ => ∃ B ds d, Ex B H ∧ RpAll K B ds vs ∧ P ds d ∧ ∀ v B' H', Gr B H B' H' → Rp K B' d v → Q v H'
def FnL (K : PySem.W.Frag) (P : List Da → List Da → Prop) : Sp := fun vs H Q _ => ∃ B ds es, Ex B H ∧ RpAll K B ds vs ∧ P ds es ∧ ∀ p xs B' H', Gr B H B' H' → H p = none → B' p = none → H' p = some (.lst xs) → RpAll K B' es xs → Q (.ref p) H'
def FnO (K : PySem.W.Frag) (P : List Da → Addr → List Str → List (List Da) → Prop) : Sp := fun vs H Q _ => ∃ B ds C ns dss, Ex B H ∧ RpAll K B ds vs ∧ P ds C ns dss ∧
  ∀ a dx ls B' H', Gr B H B' H' → (a :: ls).Nodup → (∀ x ∈ a :: ls, H x = none ∧ B' x = none) → H' a = some (.ins C dx (ns.zip (ls.map V.ref))) → ls.length = ns.length → OwL K B' H' dss ls → Q (.ref a) H'
section
variable {K : PySem.W.Frag} {env : En} {ta : TA} {ds es : List Da} {d : Da}
theorem ev_call {P : List Da → Da → Prop} {E : XK} (h : EvA K ta env ds) (hp : P ds d) : EvE K (tCall (FnP K P) [] E ta) env d := fun σ B s H1 e Q q =>
  h σ B s H1 e _ fun vs B2 H2 g r => by
    refine ⟨B2, ds, d, g.h, by rw [List.append_nil]; exact r, hp, fun v B' H' g' r' => q v B' H' (g.trans g') r'⟩
theorem en_call {P : List Da → List Da → Prop} {E : XK} (h : EvA K ta env ds) (hp : P ds es) : EvN K (tCall (FnL K P) [] E ta) env es := fun σ B s H1 e Q q =>
  h σ B s H1 e _ fun vs B2 H2 g r => by
    refine ⟨B2, ds, es, g.h, by rw [List.append_nil]; exact r, hp, fun p xs B' H' g' h1 h2 h3 r' => q p xs B' H' (g.trans g') (fresh_back g.k h1) h2 h3 r'⟩
/-- the slots at a def's entry -/
def ent (ds : List Da) (n : Nat) : En := ds.map Sl.im ++ List.replicate n .no
theorem sta_ent {B H : Hp} {vs : List V} {n : Nat} (e : Ex B H) (r : RpAll K B ds vs) : Sta K B H B H (vs.map some ++ List.replicate n none) (ent ds n) := by
  refine ⟨Ex.refl _, e, fun a _ => ⟨rfl, rfl⟩, by unfold ent; simp [r.len], fun _ => [], fun i j x h => (List.not_mem_nil h).elim, fun i x h => (List.not_mem_nil h).elim, fun i s hs => ?_⟩
  unfold ent at hs
  by_cases hi : i < ds.length
  · rw [List.getElem?_append_left (by simpa using hi), List.getElem?_map] at hs
    cases hd : ds[i]? with
    | none =>
      rw [hd] at hs
      cases hs
    | some d =>
      rw [hd] at hs
      cases hs
      obtain ⟨v, hv, rv⟩ := r.get hd
      refine ⟨v, ?_, rv⟩
      rw [List.getElem?_append_left (by rw [List.length_map, r.len]; exact hi), List.getElem?_map, hv]
      rfl
  · rw [List.getElem?_append_right (by simpa using Nat.le_of_not_lt hi)] at hs
    rw [List.getElem?_replicate] at hs
    split at hs
    · cases hs
      trivial
    · cases hs
def retD (d : Da) : Ed := { nx := fun _ => d = .non, rd := fun x => x = d, rl := fun xs => d = .lst xs }
def retL (es : List Da) : Ed := { nx := fun _ => False, rd := fun _ => False, rl := fun xs => xs = es }
theorem start_eq {N : List Str} {vs : List V} : start N vs = vs.map some ++ List.replicate (N.length - vs.length) none := rfl
theorem fnP_of {P : List Da → Da → Prop} {t : TS} {N : List Str} (n : Nat) (hn : ∀ ds d, P ds d → N.length - ds.length = n) (h : ∀ ds d, P ds d → Run K t (ent ds n) (retD d)) {vs : List V} {H : Hp} {Q : VK} {E : XK} (hp : FnP K P vs H Q E) :
    t { nx := fun _ H' => Q .non H', rt := Q } (start N vs) H := by
  obtain ⟨B, ds, d, e, r, p, q⟩ := hp
  have s := sta_ent (n := n) e r
  have hl : N.length - vs.length = n := by rw [r.len]; exact hn ds d p
  rw [start_eq, hl]
  refine h ds d p B H B H _ _ B (Ex.refl _) s ⟨fun σ B' H' env s' _ z => ?_, fun _ _ _ _ _ _ z => z.elim, fun _ _ _ _ _ _ z => z.elim, fun v B' H' d' g r' z => ?_, fun l xs B' H' es g h1 h2 h3 h4 z => ?_, fun _ _ _ _ _ _ _ _ _ _ _ _ _ _ z => z.elim, fun _ _ _ _ _ _ _ z => z.elim⟩
  · have z' : d = .non := z
    subst z'
    exact q .non B' H' s'.gr (by simp only [Rp])
  · have z' : d' = d := z
    subst z'
    exact q v B' H' g r'
  · have z' : d = .lst es := z
    subst z'
    have eB : Ex B' (upd B' l (.lst xs)) := Ex.new h2
    refine q (.ref l) (upd B' l (.lst xs)) H' ⟨g.b.trans eB, fun a o ho => ?_, g.k, fun a ha => ?_⟩ ?_
    · by_cases e : a = l
      · subst e
        rw [upd_same] at ho
        rw [h3]
        exact ho
      · rw [upd_ne e] at ho
        exact g.h a o ho
    · rw [upd_ne fun e => ha (by rw [e]; exact h1)]
      exact g.n a ha
    · simp only [Rp]
      exact ⟨l, xs, rfl, upd_same, RpAll.mono eB _ _ h4⟩
theorem fnL_of {P : List Da → List Da → Prop} {t : TS} {N : List Str} (n : Nat) (hn : ∀ ds d, P ds d → N.length - ds.length = n) (h : ∀ ds d, P ds d → Run K t (ent ds n) (retL d)) {vs : List V} {H : Hp} {Q : VK} {E : XK} (hp : FnL K P vs H Q E) :
    t { nx := fun _ H' => Q .non H', rt := Q } (start N vs) H := by
  obtain ⟨B, ds, d, e, r, p, q⟩ := hp
  have s := sta_ent (n := n) e r
  have hl : N.length - vs.length = n := by rw [r.len]; exact hn ds d p
  rw [start_eq, hl]
  refine h ds d p B H B H _ _ B (Ex.refl _) s ⟨fun σ B' H' env s' _ z => z.elim, fun _ _ _ _ _ _ z => z.elim, fun _ _ _ _ _ _ z => z.elim, fun v B' H' d' g r' z => z.elim, fun l xs B' H' es g h1 h2 h3 h4 z => ?_, fun _ _ _ _ _ _ _ _ _ _ _ _ _ _ z => z.elim, fun _ _ _ _ _ _ _ z => z.elim⟩
  have z' : es = d := z
  subst z'
  exact q l xs B' H' g h1 h2 h3 h4
theorem len_P {P : List Da → Da → Prop} {m : Nat} (hm : ∀ ds d, P ds d → ds.length = m) {vs : List V} {H : Hp} {Q : VK} {E : XK} (hp : FnP K P vs H Q E) : vs.length = m := by
  obtain ⟨B, ds, d, e, r, p, q⟩ := hp
  rw [r.len]
  exact hm ds d p
theorem len_L {P : List Da → List Da → Prop} {m : Nat} (hm : ∀ ds d, P ds d → ds.length = m) {vs : List V} {H : Hp} {Q : VK} {E : XK} (hp : FnL K P vs H Q E) : vs.length = m := by
  obtain ⟨B, ds, d, e, r, p, q⟩ := hp
  rw [r.len]
  exact hm ds d p
end
end FR

/-! Calls in short; equality of data; dicts; sets; chains of three. -/
namespace FR
open PySem L2 Evl
open PySem.Spec PyProof.Rows

/-! ### defs, methods, classes that stand behind the top -/
structure Cal (P : Program) (w : World) (K : PySem.W.Frag) (mg : Str → Option Value) (base : Heap) (CX : CXT) (k : Nat) (x : Str) (ps : List Str) (sp : Sp) : Prop where
  ex : ∃ f fd, FnOk P w K mg base CX k f fd ps sp ∧ mg x = some (.ref f) ∧ PySem.W.keepIn K (.ref f) = true ∧ Binds K fd ps []
structure CalM (P : Program) (w : World) (K : PySem.W.Frag) (mg : Str → Option Value) (base : Heap) (CX : CXT) (k : Nat) (C : Addr) (m : Str) (ps : List Str) (sp : Sp) : Prop where
  ex : ∃ f fd, FnOk P w K mg base CX k f fd ps sp ∧ Meth K C m f ∧ Binds K fd ps []
structure CalI (P : Program) (w : World) (K : PySem.W.Frag) (mg : Str → Option Value) (base : Heap) (CX : CXT) (k : Nat) (C : Addr) (ps : List Str) (sp : Sp) : Prop where
  ex : ∃ f fd, FnOk P w K mg base CX k f fd ps sp ∧ Mk K C f ∧ Binds K fd ps []
section
variable {X : Cx} {k : Nat} {x : Str} {ps : List Str} {sp : Sp} {CX : CXT} {E : XK} {e o : Expr} {es : List Expr} {t : TA} {to : TE} {p pos apos : Pos} {C : Addr} {m : Str}
theorem pe_cal (g : Cal X.prog X.w X.K X.mg X.base CX k x ps sp) (hr : Room k X.A) (hg : Gl X x) (hx : Passes CX X E) (ha : PA X (e :: es) t)
    (hdb : (x == ("__debug__" : Str)) = false := by decide) (he : starEach (e :: es) X.env = (false, eval e X.env) :: starEach es X.env := by rfl) (hpl : (backTo pos (starEach es X.env)).any (·.1) = false := by rfl) :
    PE X (.Call (.Name x p) (e :: es) [] pos) (tCall sp [] E t) := by
  obtain ⟨f, fd, F, hm, hk, hb⟩ := g.ex
  exact pe_call F hr hg hm hk hb .nil hx ha hdb he hpl
theorem pe_cal0 (g : Cal X.prog X.w X.K X.mg X.base CX k x ps sp) (hr : Room k X.A) (hg : Gl X x) (hx : Passes CX X E) (hdb : (x == ("__debug__" : Str)) = false := by decide) :
    PE X (.Call (.Name x p) [] [] pos) (tCall sp [] E tNil) := by
  obtain ⟨f, fd, F, hm, hk, hb⟩ := g.ex
  exact pe_call0 F hr hg hm hk hb .nil hx hdb
theorem pe_met {pl : Sem Bool} (he : PE X o to) (c : Cls X.K C) (g : CalM X.prog X.w X.K X.mg X.base CX k C m ps sp) (hr : Room k X.A) (hx : Passes CX X E) (ha : PA X (e :: es) t)
    (hst : starEach (e :: es) X.env = (false, eval e X.env) :: starEach es X.env := by rfl) (hpl : (backTo pos (starEach es X.env)).any (·.1) = false := by rfl)
    (ht : eval (.Call (.Attribute o m apos) (e :: es) [] pos) X.env = (do
      let ov ← eval o X.env
      standAt apos.atName
      let (f, first) ← holding [ov] (getMethod ov m pl)
      callWith pos f first (backTo pos (starEach (e :: es) X.env)) (backToKw pos (keywordEach [] X.env))) := by rfl) :
    PE X (.Call (.Attribute o m apos) (e :: es) [] pos) (tMeth C m sp [] E to t) := by
  obtain ⟨f, fd, F, hm, hb⟩ := g.ex
  exact pe_meth he c hm F hr hb .nil hx ha hst hpl ht
theorem pe_mak (g : CalI X.prog X.w X.K X.mg X.base CX k C ps sp) (hm : X.mg x = some (.ref C)) (hr : Room (k + 1) X.A) (hg : Gl X x) (hx : Passes CX X E) (ha : PA X (e :: es) t)
    (hdb : (x == ("__debug__" : Str)) = false := by decide) (he : starEach (e :: es) X.env = (false, eval e X.env) :: starEach es X.env := by rfl) (hpl : (backTo pos (starEach es X.env)).any (·.1) = false := by rfl) :
    PE X (.Call (.Name x p) (e :: es) [] pos) (tMake C sp [] E t) := by
  obtain ⟨f, fd, F, M, hb⟩ := g.ex
  exact pe_make M F hr hg hm hb .nil hx ha hdb he hpl
end

/-! ### data as the library's -/
mutual
def py : Da → PyData
  | .bl b => .bool b
  | .int i => .int i
  | .str s => .str s
  | .lst ds => .list (pyAll ds)
  | .sq ds => .list (pyAll ds)
  | .tup ds => .tuple (pyAll ds)
  | _ => .none
def pyAll : List Da → List PyData
  | [] => []
  | d :: ds => py d :: pyAll ds
end
mutual
def isPy : Da → Bool
  | .ty _ | .cls _ | .obj _ _ _ | .emp => false
  | .lst ds => isPyAll ds
  | .sq ds => isPyAll ds
  | .tup ds => isPyAll ds
  | _ => true
def isPyAll : List Da → Bool
  | [] => true
  | d :: ds => isPy d && isPyAll ds
end
section
variable {K : PySem.W.Frag} {B H : Hp}
mutual
theorem dp_of (e : Ex B H) : ∀ (d : Da) (v : V), isPy d = true → Rp K B d v → Dp K H v (py d)
  | .non, v, _, h => by
    simp only [Rp] at h
    subst h
    simp only [py]
    exact .non
  | .bl b, v, _, h => by
    simp only [Rp] at h
    subst h
    simp only [py]
    exact .bl b
  | .int i, v, _, h => by
    simp only [Rp] at h
    subst h
    simp only [py]
    exact .int i
  | .str s, v, _, h => by
    simp only [Rp] at h
    subst h
    simp only [py]
    exact .str s
  | .ty n, v, p, h => by simp [isPy] at p
  | .cls C, v, p, h => by simp [isPy] at p
  | .lst ds, v, p, h => by
    simp only [Rp] at h
    obtain ⟨a, xs, rfl, h2, h3⟩ := h
    simp only [py]
    exact .lst (sq_of (e _ _ h2)) (dpAll_of e ds xs (by simpa only [isPy] using p) h3)
  | .sq ds, v, p, h => by
    simp only [Rp] at h
    obtain ⟨a, xs, rfl, h2, h3⟩ := h
    simp only [py]
    exact .lst (ex_l e h2) (dpAll_of e ds xs (by simpa only [isPy] using p) h3)
  | .tup ds, v, p, h => by
    simp only [Rp] at h
    obtain ⟨a, xs, rfl, h2, h3⟩ := h
    simp only [py]
    exact .tup (st_of (e _ _ h2)) (dpAll_of e ds xs (by simpa only [isPy] using p) h3)
  | .obj C ns ds, v, p, h => by simp [isPy] at p
  | .emp, v, p, h => by simp [isPy] at p
theorem dpAll_of (e : Ex B H) : ∀ (ds : List Da) (vs : List V), isPyAll ds = true → RpAll K B ds vs → DpAll K H vs (pyAll ds)
  | [], vs, _, h => by
    have q : vs = [] := by simpa only [RpAll] using h
    subst q
    simp only [pyAll]
    exact .nil
  | d :: ds, vs, p, h => by
    obtain ⟨v, r, rfl, h2, h3⟩ := h.uncons
    simp only [isPyAll, Bool.and_eq_true] at p
    simp only [pyAll]
    exact .cons (dp_of e d v p.1 h2) (dpAll_of e ds r p.2 h3)
end
variable {env : En} {te ta tb tc td : TE} {d x y : Da} {ds es : List Da} {i j : Int}
theorem ev_eqD {b : Bool} (ha : EvE K ta env x) (hb : EvE K tb env y) (hx : isPy x = true ∧ SeqAt.shaped (py x) = true) (hy : isPy y = true ∧ SeqAt.shaped (py y) = true) (e : PyData.eqv (py x) (py y) = b) : EvE K (tOp (rEqD K) ta tb) env (.bl b) :=
  ev_op ha hb fun B H v w eh r1 r2 Q q => ⟨py x, py y, dp_of eh x v hx.1 r1, dp_of eh y w hy.1 r2, hx.2, hy.2, q _ B H (Gr.refl eh) (by simp only [Rp, e])⟩
theorem ev_neD {b : Bool} (ha : EvE K ta env x) (hb : EvE K tb env y) (hx : isPy x = true ∧ SeqAt.shaped (py x) = true) (hy : isPy y = true ∧ SeqAt.shaped (py y) = true) (e : PyData.eqv (py x) (py y) = b) : EvE K (tOp (rNeD K) ta tb) env (.bl (!b)) :=
  ev_op ha hb fun B H v w eh r1 r2 Q q => ⟨py x, py y, dp_of eh x v hx.1 r1, dp_of eh y w hy.1 r2, hx.2, hy.2, q _ B H (Gr.refl eh) (by simp only [Rp, e])⟩
end
/-! ints, truths, pairs, their lists -/
theorem beqd {α : Type} [DecidableEq α] (a b : α) : (a == b) = decide (a = b) := by
  by_cases h : a = b <;> simp [h]
theorem pyAll_map {α : Type} (f : α → Da) : ∀ xs : List α, pyAll (xs.map f) = xs.map fun x => py (f x)
  | [] => by simp [pyAll]
  | x :: xs => by simp [pyAll, pyAll_map f xs]
theorem isPyAll_map {α : Type} {f : α → Da} : ∀ {xs : List α}, (∀ x ∈ xs, isPy (f x) = true) → isPyAll (xs.map f) = true
  | [], _ => by simp [isPyAll]
  | x :: xs, h => by
    simp only [List.map_cons, isPyAll, Bool.and_eq_true]
    exact ⟨h x List.mem_cons_self, isPyAll_map fun y hy => h y (List.mem_cons_of_mem _ hy)⟩
theorem canAll {α : Type} {f : α → PyData} : ∀ {xs : List α}, (∀ x, (f x).canLay0 = true) → PyData.canLayAll0 (xs.map f) = true
  | [], _ => by simp [PyData.canLayAll0]
  | x :: xs, h => by simp [PyData.canLayAll0, h x, canAll h]
theorem depAll {α : Type} {f : α → PyData} {n : Nat} : ∀ {xs : List α}, (∀ x, (f x).depth ≤ n) → PyData.depthAll (xs.map f) ≤ n
  | [], _ => by simp [PyData.depthAll]
  | x :: xs, h => by
    have h1 := h x
    have h2 := depAll (xs := xs) h
    simp only [List.map_cons, PyData.depthAll]
    omega
theorem eqvAll_map {α : Type} [DecidableEq α] {f : α → PyData} (h : ∀ x y, PyData.eqv (f x) (f y) = decide (x = y)) : ∀ xs ys : List α, PyData.eqvAll (xs.map f) (ys.map f) = decide (xs = ys)
  | [], [] => by simp [PyData.eqvAll]
  | [], y :: ys => by simp [PyData.eqvAll]
  | x :: xs, [] => by simp [PyData.eqvAll]
  | x :: xs, y :: ys => by
    simp only [List.map_cons, PyData.eqvAll, h, eqvAll_map h xs ys]
    by_cases e1 : x = y <;> by_cases e2 : xs = ys <;> simp [e1, e2]
/-- a pair of ints -/
def prD (p : Int × Int) : Da := .tup [.int p.1, .int p.2]
abbrev rowL (row : List (Int × Int)) : List Da := row.map prD
abbrev rowD (row : List (Int × Int)) : Da := .lst (rowL row)
abbrev intL (ns : List Int) : List Da := ns.map Da.int
abbrev intsD (ns : List Int) : Da := .lst (intL ns)
abbrev blL (ns : List Bool) : List Da := ns.map Da.bl
theorem okInts (ns : List Int) : isPy (intsD ns) = true ∧ SeqAt.shaped (py (intsD ns)) = true := by
  refine ⟨?_, ?_⟩
  · simp only [intsD, isPy]
    exact isPyAll_map fun x _ => by simp [isPy]
  · simp only [intsD, py, pyAll_map, SeqAt.shaped, PyData.canLay0, PyData.depth, Bool.and_eq_true, decide_eq_true_eq]
    exact ⟨canAll fun x => by simp [PyData.canLay0], by have := depAll (f := fun i : Int => PyData.int i) (n := 0) (xs := ns) (fun x => by simp [PyData.depth]); omega⟩
theorem okBls (ns : List Bool) : isPy (.lst (blL ns)) = true ∧ SeqAt.shaped (py (.lst (blL ns))) = true := by
  refine ⟨?_, ?_⟩
  · simp only [isPy]
    exact isPyAll_map fun x _ => by simp [isPy]
  · simp only [py, pyAll_map, SeqAt.shaped, PyData.canLay0, PyData.depth, Bool.and_eq_true, decide_eq_true_eq]
    exact ⟨canAll fun x => by simp [PyData.canLay0], by have := depAll (f := fun i : Bool => PyData.bool i) (n := 0) (xs := ns) (fun x => by simp [PyData.depth]); omega⟩
theorem py_prD (p : Int × Int) : py (prD p) = .tuple [.int p.1, .int p.2] := by simp [prD, py, pyAll]
theorem okRow (row : List (Int × Int)) : isPy (rowD row) = true ∧ SeqAt.shaped (py (rowD row)) = true := by
  refine ⟨?_, ?_⟩
  · simp only [rowD, isPy]
    exact isPyAll_map fun x _ => by simp [prD, isPy, isPyAll]
  · simp only [rowD, py, pyAll_map, py_prD, SeqAt.shaped, PyData.canLay0, PyData.depth, Bool.and_eq_true, decide_eq_true_eq]
    exact ⟨canAll fun x => by simp [PyData.canLay0, PyData.canLayAll0], by have := depAll (f := fun p : Int × Int => PyData.tuple [.int p.1, .int p.2]) (n := 1) (xs := row) (fun x => by simp [PyData.depth, PyData.depthAll]); omega⟩
theorem eqv_ints (ns ms : List Int) : PyData.eqv (py (intsD ns)) (py (intsD ms)) = decide (ns = ms) := by
  simp only [intsD, py, pyAll_map, PyData.eqv]
  exact eqvAll_map (fun x y => by simp [PyData.eqv, beqd]) ns ms
theorem eqv_bls (ns ms : List Bool) : PyData.eqv (py (.lst (blL ns))) (py (.lst (blL ms))) = decide (ns = ms) := by
  simp only [py, pyAll_map, PyData.eqv]
  exact eqvAll_map (fun x y => by simp [PyData.eqv, beqd]) ns ms
theorem eqv_row (ns ms : List (Int × Int)) : PyData.eqv (py (rowD ns)) (py (rowD ms)) = decide (ns = ms) := by
  simp only [rowD, py, pyAll_map, py_prD, PyData.eqv]
  refine eqvAll_map (f := fun p : Int × Int => PyData.tuple [.int p.1, .int p.2]) (fun x y => ?_) ns ms
  simp only [PyData.eqv, PyData.eqvAll, Bool.and_true, beqd]
  obtain ⟨a, b⟩ := x
  obtain ⟨c, d⟩ := y
  simp
section
variable {K : PySem.W.Frag} {env : En} {te ta tb tc td : TE} {d x y : Da} {i j : Int}
theorem ev_eqInts {ns ms : List Int} (ha : EvE K ta env (intsD ns)) (hb : EvE K tb env (intsD ms)) : EvE K (tOp (rEqD K) ta tb) env (.bl (decide (ns = ms))) := ev_eqD ha hb (okInts ns) (okInts ms) (eqv_ints ns ms)
theorem ev_neInts {ns ms : List Int} (ha : EvE K ta env (intsD ns)) (hb : EvE K tb env (intsD ms)) : EvE K (tOp (rNeD K) ta tb) env (.bl (!decide (ns = ms))) := ev_neD ha hb (okInts ns) (okInts ms) (eqv_ints ns ms)
theorem ev_eqRow {ns ms : List (Int × Int)} (ha : EvE K ta env (rowD ns)) (hb : EvE K tb env (rowD ms)) : EvE K (tOp (rEqD K) ta tb) env (.bl (decide (ns = ms))) := ev_eqD ha hb (okRow ns) (okRow ms) (eqv_row ns ms)
theorem ev_neRow {ns ms : List (Int × Int)} (ha : EvE K ta env (rowD ns)) (hb : EvE K tb env (rowD ms)) : EvE K (tOp (rNeD K) ta tb) env (.bl (!decide (ns = ms))) := ev_neD ha hb (okRow ns) (okRow ms) (eqv_row ns ms)
end

/-! ### dicts of one's own with int keys -/
section
variable {K : PySem.W.Frag} {B H : Hp} {env : En} {te ta tb tc td tv : TE} {d x y : Da} {i j : Int} {kvs : List (Int × Da)} {ws : List (Key × V)}
theorem KvR.val : ∀ {kvs : List (Int × Da)} {ws : List (Key × V)} (j : Int), KvR K B kvs ws → (match valD kvs j with | none => valV ws (Sum.inl j : Key) = none | some d => ∃ v, valV ws (Sum.inl j : Key) = some v ∧ Rp K B d v)
  | [], ws, j, h => by
    have e : ws = [] := h
    subst e
    simp only [valD]
    exact valV_nil
  | (k, d) :: r, ws, j, h => by
    obtain ⟨v, t, rfl, h2, h3⟩ := h
    simp only [valD]
    by_cases e : k = j
    · rw [if_pos e]
      subst e
      exact ⟨v, valV_pos rfl, h2⟩
    · rw [if_neg e]
      have e2 : ¬ ((Sum.inl k : Key) = Sum.inl j) := fun z => e (Sum.inl.inj z)
      rw [valV_neg (p := ((Sum.inl k : Key), v)) e2]
      exact KvR.val j h3
theorem kvr_any : ∀ {kvs : List (Int × Da)} {ws : List (Key × V)} (j : Int), KvR K B kvs ws → (ws.any fun kv => decide (kv.1 = (Sum.inl j : Key))) = kvs.any fun kv => decide (kv.1 = j)
  | [], ws, j, h => by
    have e : ws = [] := h
    subst e
    rfl
  | (k, d) :: r, ws, j, h => by
    obtain ⟨v, t, rfl, h2, h3⟩ := h
    rw [List.any_cons, List.any_cons, kvr_any j h3]
    congr 1
    by_cases e : k = j
    · subst e
      simp
    · have e2 : ¬ ((Sum.inl k : Key) = Sum.inl j) := fun z => e (Sum.inl.inj z)
      simp [e, e2]
theorem kvr_map : ∀ {kvs : List (Int × Da)} {ws : List (Key × V)} (j : Int) {d : Da} {v : V}, KvR K B kvs ws → Rp K B d v → KvR K B (kvs.map fun kv => if kv.1 = j then (kv.1, d) else kv) (ws.map fun kv => if kv.1 = (Sum.inl j : Key) then (kv.1, v) else kv)
  | [], ws, j, d, v, h, r => by
    have e : ws = [] := h
    subst e
    exact h
  | (k, d') :: r', ws, j, d, v, h, r => by
    obtain ⟨v', t, rfl, h2, h3⟩ := h
    rw [List.map_cons, List.map_cons]
    by_cases e : k = j
    · subst e
      simp only [if_true]
      exact ⟨v, _, rfl, r, kvr_map k h3 r⟩
    · have e2 : ¬ ((Sum.inl k : Key) = Sum.inl j) := fun z => e (Sum.inl.inj z)
      simp only [if_neg e, if_neg e2]
      exact ⟨v', _, rfl, h2, kvr_map j h3 r⟩
theorem kvr_app : ∀ {kvs : List (Int × Da)} {ws : List (Key × V)} {j : Int} {d : Da} {v : V}, KvR K B kvs ws → Rp K B d v → KvR K B (kvs ++ [(j, d)]) (ws ++ [(Sum.inl j, v)])
  | [], ws, j, d, v, h, r => by
    have e : ws = [] := h
    subst e
    exact ⟨v, [], rfl, r, rfl⟩
  | (k, d') :: r', ws, j, d, v, h, r => by
    obtain ⟨v', t, rfl, h2, h3⟩ := h
    exact ⟨v', _, rfl, h2, kvr_app h3 r⟩
theorem KvR.put {v : V} (j : Int) (h : KvR K B kvs ws) (r : Rp K B d v) : KvR K B (putD kvs j d) (putK ws (Sum.inl j) v) := by
  unfold putD putK
  rw [kvr_any j h]
  split
  · exact kvr_map j h r
  · exact kvr_app h r
/-- a slot that holds a dict, in a view -/
theorem ev_din {n : Nat} (hd : env[n]? = some (.md kvs)) (hi : EvE K ta env (.int i)) : EvE K (tDIn ta (tVar n)) env (.bl (valD kvs i).isSome) := fun σ B s H1 e Q q =>
  hi σ B s H1 e _ fun v B2 H2 g r => by
    simp only [Rp] at r
    subst r
    obtain ⟨a, ws, h1, h2, h3⟩ := s.sl n _ hd
    refine ⟨_, h1, a, valV ws (Sum.inl i), rfl, DGet.k (k := Sum.inl i) (g.k _ _ (e _ _ h2)), q _ B2 H2 g ?_⟩
    have z := h3.val i
    simp only [Rp]
    cases hv : valD kvs i with
    | none =>
      rw [hv] at z
      have z' : valV ws (Sum.inl i : Key) = none := z
      rw [z']
      all_goals rfl
    | some d =>
      rw [hv] at z
      obtain ⟨v, z1, z2⟩ := z
      rw [z1]
      all_goals rfl
theorem ev_dnotin {n : Nat} (hd : env[n]? = some (.md kvs)) (hi : EvE K ta env (.int i)) : EvE K (tDNotIn ta (tVar n)) env (.bl (!(valD kvs i).isSome)) := fun σ B s H1 e Q q =>
  hi σ B s H1 e _ fun v B2 H2 g r => by
    simp only [Rp] at r
    subst r
    obtain ⟨a, ws, h1, h2, h3⟩ := s.sl n _ hd
    refine ⟨_, h1, a, valV ws (Sum.inl i), rfl, DGet.k (k := Sum.inl i) (g.k _ _ (e _ _ h2)), q _ B2 H2 g ?_⟩
    have z := h3.val i
    simp only [Rp]
    cases hv : valD kvs i with
    | none =>
      rw [hv] at z
      have z' : valV ws (Sum.inl i : Key) = none := z
      rw [z']
      all_goals rfl
    | some d =>
      rw [hv] at z
      obtain ⟨v, z1, z2⟩ := z
      rw [z1]
      all_goals rfl
theorem ev_dget {n : Nat} (hd : env[n]? = some (.md kvs)) (hi : EvE K ta env (.int i)) (hv : valD kvs i = some d) : EvE K (tDGet (tVar n) ta) env d := fun σ B s H1 e Q q => by
  obtain ⟨a, ws, h1, h2, h3⟩ := s.sl n _ hd
  refine ⟨_, h1, hi σ B s H1 e _ fun v B2 H2 g r => ?_⟩
  simp only [Rp] at r
  subst r
  have z := h3.val i
  rw [hv] at z
  obtain ⟨v, z1, z2⟩ := z
  exact ⟨a, v, rfl, by rw [← z1]; exact DGet.k (k := Sum.inl i) (g.k _ _ (e _ _ h2)), q v B2 H2 g (z2.mono g.b)⟩
def rLenD : List V → Hp → VK → Prop := fun xs H Q => ∃ a kvs, xs = [V.ref a] ∧ H a = some (.dK kvs) ∧ Q (.int kvs.length) H
theorem ev_lenD {n : Nat} (hd : env[n]? = some (.md kvs)) : EvE K (tCB rLenD (tCons (tVar n) tNil)) env (.int (kvs.length : Int)) := fun σ B s H1 e Q q => by
  obtain ⟨a, ws, h1, h2, h3⟩ := s.sl n _ hd
  exact ⟨_, h1, a, ws, rfl, e _ _ h2, q _ B H1 (Gr.refl e) (by simp only [Rp]; rw [h3.len])⟩
theorem ed_new : EvD K tDNewK env [] := fun σ B s H1 e Q q p hp => q p [] B _ (Gr.put e hp) hp (fresh_back e hp) upd_same rfl
/-- d[k] = e -/
theorem run_dput {n : Nat} {E : Ed} (hx : env[n]? = some (.md kvs)) (hv : EvE K tv (imm env) d) (hi : EvE K ta (frz env) (.int i)) (hz : kvs.length < 100000) (q : E.nx (env.set n (.md (putD kvs i d)))) : Run K (sDPut (tVar n) ta tv) env E := fun B0 H0 B H σ D Bs eb s k => by
  refine hv σ B s.imm H s.eH _ fun v B2 H2 g r => ?_
  obtain ⟨ad, a1, a2, a3⟩ := (s.up g).own
  obtain ⟨l, ws, h1, h2, h3, h4⟩ := a3 n _ hx
  refine ⟨_, h1, hi σ H2 (s.up g).frz H2 (Ex.refl _) _ fun u B3 H3 g3 r3 => ?_⟩
  simp only [Rp] at r3
  subst r3
  have s' := (s.up g).grow g3.k
  have h3' := g3.k _ _ h3
  refine ⟨l, _, rfl, DPut.k (k := Sum.inl i) (v := v) h3' (sz_lt (by rw [h4.len]; exact hz)), k.nx σ B2 _ _ (s'.wr (i := n) (sl := .md (putD kvs i d)) (H' := upd H3 l (.dK (putK ws (Sum.inl i) v))) a1 (fun p x hx => ?_) (fun p t ht => (a3 p t ht).up (Ex.refl _) g3.k) (fun a ha => upd_ne fun e => ha (by rw [h2, e]; exact List.mem_cons_self)) (fun a ha => ?_) ⟨l, _, h1, h2, upd_same, h4.put i r⟩) (eb.trans g.b) q⟩
  · obtain ⟨z1, z2, z3⟩ := a2 p x hx
    exact ⟨z1, z2, ex_nn g3.k z3⟩
  · rw [h2, List.mem_singleton] at ha
    subst ha
    rw [upd_same]
    exact fun z => by cases z
/-- sorted(xs), ints -/
theorem en_sortedI {ns ms : List Int} (ha : EvE K ta env (intsD ns)) (hm : ∀ ns' : List Int, ns'.Perm ns → ns'.Pairwise (· ≤ ·) → ns' = ms) : EvN K (tCB (rSortedI K) (tCons ta tNil)) env (intL ms) :=
  en_cb (ea_cons ha ea_nil) fun B H vs e r Q q => by
    obtain ⟨v, rfl, h1⟩ := one_rp r
    simp only [intsD, Rp] at h1
    obtain ⟨a, xs, rfl, h2, h3⟩ := h1
    have z := rp_ints h3
    subst z
    refine ⟨a, ns, rfl, sq_of (e _ _ h2), fun ns' p hp hs hn => ?_⟩
    have z2 := hm ns' hp hs
    subst z2
    exact q p _ B _ (Gr.put e hn) hn (fresh_back e hn) upd_same (ints_rp ns')
end

/-! ### is, in -/
section
variable {K : PySem.W.Frag} {env : En} {te ta tb tc : TE} {d x y : Da} {a b : Bool}
theorem ev_isBl (ha : EvE K ta env (.bl a)) (hb : EvE K tb env (.bl b)) : EvE K (tOp rIsB ta tb) env (.bl (decide (a = b))) :=
  ev_op ha hb fun B H v w e r1 r2 Q q => by
    simp only [Rp] at r1 r2
    subst r1 r2
    exact ⟨a, b, rfl, rfl, q _ B H (Gr.refl e) (by simp only [Rp])⟩
theorem ev_notBl (ha : EvE K ta env (.bl a)) (hb : EvE K tb env (.bl b)) : EvE K (tOp rNotB ta tb) env (.bl (!decide (a = b))) :=
  ev_op ha hb fun B H v w e r1 r2 Q q => by
    simp only [Rp] at r1 r2
    subst r1 r2
    exact ⟨a, b, rfl, rfl, q _ B H (Gr.refl e) (by simp only [Rp])⟩
def isNonD : Da → Bool
  | .non => true
  | _ => false
theorem isN_dec {B : Hp} {v : V} (r : Rp K B d v) : decide (v = .non) = isNonD d := by
  cases d with
  | non =>
    simp only [Rp] at r
    subst r
    rfl
  | bl b =>
    simp only [Rp] at r
    subst r
    rfl
  | int i =>
    simp only [Rp] at r
    subst r
    rfl
  | str s =>
    simp only [Rp] at r
    subst r
    rfl
  | ty n =>
    simp only [Rp] at r
    subst r
    rfl
  | cls C =>
    simp only [Rp] at r
    subst r
    rfl
  | lst ds =>
    simp only [Rp] at r
    obtain ⟨a, xs, rfl, _⟩ := r
    rfl
  | sq ds =>
    simp only [Rp] at r
    obtain ⟨a, xs, rfl, _⟩ := r
    rfl
  | tup ds =>
    simp only [Rp] at r
    obtain ⟨a, xs, rfl, _⟩ := r
    rfl
  | obj C ns ds =>
    simp only [Rp] at r
    obtain ⟨a, dx, xs, rfl, _⟩ := r
    rfl
  | emp =>
    simp only [Rp] at r
    obtain ⟨a, rfl, _⟩ := r
    rfl
theorem ev_isN (ha : EvE K ta env d) : EvE K (tOp rIsN ta (tC .non)) env (.bl (isNonD d)) :=
  ev_op ha ev_non fun B H v w e r1 r2 Q q => by
    simp only [Rp] at r2
    subst r2
    exact ⟨rfl, q _ B H (Gr.refl e) (by simp only [Rp, isN_dec r1])⟩
theorem ev_notN (ha : EvE K ta env d) : EvE K (tOp rNotN ta (tC .non)) env (.bl (!isNonD d)) :=
  ev_op ha ev_non fun B H v w e r1 r2 Q q => by
    simp only [Rp] at r2
    subst r2
    exact ⟨rfl, q _ B H (Gr.refl e) (by simp only [Rp, isN_dec r1])⟩
/-- an int in a tuple of ints -/
theorem inV_ints (i : Int) (ns : List Int) : inV (.int i) (ns.map V.int) = decide (i ∈ ns) := by
  unfold inV
  rw [List.any_map]
  induction ns with
  | nil => simp
  | cons n ns ih =>
    rw [List.any_cons, ih]
    have e : (Function.comp (fun y => eqV y (V.int i)) V.int) n = decide (n = i) := by
      simp [eqV, beqd]
    rw [e]
    by_cases h : n = i
    · simp [h]
    · have h' : ¬ i = n := fun z => h z.symm
      simp [h, h']
theorem ev_inI {i : Int} {ns : List Int} {neg : Bool} (ha : EvE K ta env (.int i)) (hb : EvE K tb env (.tup (intL ns))) : EvE K (tOp (rIn K neg) ta tb) env (.bl (if neg then !decide (i ∈ ns) else decide (i ∈ ns))) :=
  ev_op ha hb fun B H v w e r1 r2 Q q => by
    simp only [Rp] at r1 r2
    obtain ⟨a, xs, rfl, h2, h3⟩ := r2
    subst r1
    have z := rp_ints h3
    subst z
    refine ⟨a, ns.map V.int, rfl, .inr (st_of (e _ _ h2)), rfl, ?_, q _ B H (Gr.refl e) (by simp only [Rp, inV_ints])⟩
    rw [List.all_map]
    exact List.all_eq_true.mpr fun _ _ => rfl
end
end FR

/-! Rows of stones: what falls. -/
namespace FR

/-! ### rows -/
def plc (row : List (Int × Int)) (i : Int) : Int := (row.getD i.toNat (0, 0)).1
def hgt (row : List (Int × Int)) (i : Int) : Int := (row.getD i.toNat (0, 0)).2
def mx (a b : Int) : Int := if b > a then b else a
def mn (a b : Int) : Int := if b < a then b else a
theorem mx_eq (a b : Int) : (if b > a then b else a) = mx a b := rfl
theorem mn_eq (a b : Int) : (if b < a then b else a) = mn a b := rfl
structure Okr (row : List (Int × Int)) : Prop where
  pos : ∀ i : Nat, i < row.length → 0 < hgt row i
  inc : ∀ i j : Nat, i < j → j < row.length → plc row i < plc row j
  few : row.length ≤ 1000
/-- the stones ahead of a pushed one, told from it on: how far, how high -/
def qf (row : List (Int × Int)) (s : Int) (i : Nat) (k : Nat) : Int × Int := (s * plc row (i + s * k), hgt row (i + s * k))
/-- how many lie ahead to that side -/
def ah (row : List (Int × Int)) (s : Int) (i : Nat) : Nat := if s = 1 then row.length - 1 - i else i
def goN (q : Nat → Int × Int) : Nat → Nat → Int → Nat × Int
  | 0, k, far => (k, far)
  | m + 1, k, far => if (q (k + 1)).1 ≤ far then goN q m (k + 1) (mx far ((q (k + 1)).1 + (q (k + 1)).2)) else (k, far)
/-- how many fall behind the pushed one, and how far all reach -/
def fell (row : List (Int × Int)) (s : Int) (i : Nat) : Nat × Int := goN (qf row s i) (ah row s i) 0 ((qf row s i 0).1 + (qf row s i 0).2)
/-- the last one that falls -/
def lastI (row : List (Int × Int)) (s : Int) (i : Nat) : Int := i + s * (fell row s i).1
def farI (row : List (Int × Int)) (s : Int) (i : Nat) : Int := (fell row s i).2
def Sd (s : Int) : Prop := s = 1 ∨ s = -1

structure Chn (q : Nat → Int × Int) (m K : Nat) (F : Int) : Prop where
  le : K ≤ m
  by_ : ∀ j, j < K → ∃ t, t ≤ j ∧ (q (j + 1)).1 ≤ (q t).1 + (q t).2
  stop : K < m → ∀ t, t ≤ K → (q t).1 + (q t).2 < (q (K + 1)).1
  far : ∀ t, t ≤ K → (q t).1 + (q t).2 ≤ F
  att : ∃ t, t ≤ K ∧ F = (q t).1 + (q t).2
theorem goN_chn (q : Nat → Int × Int) (m : Nat) : ∀ (r k : Nat) (far : Int), k + r = m → Chn q k k far → Chn q m (goN q r k far).1 (goN q r k far).2
  | 0, k, far, e, c => by
    subst e
    exact ⟨by simp [goN], c.by_, fun h => by simp [goN] at h, c.far, c.att⟩
  | r + 1, k, far, e, c => by
    unfold goN
    by_cases h : (q (k + 1)).1 ≤ far
    · rw [if_pos h]
      refine goN_chn q m r (k + 1) _ (by omega) ⟨Nat.le_refl _, fun j hj => ?_, fun z => absurd z (by omega), fun t ht => ?_, ?_⟩
      · by_cases e2 : j = k
        · subst e2
          obtain ⟨t, ht, ef⟩ := c.att
          exact ⟨t, ht, by omega⟩
        · exact c.by_ j (by omega)
      · unfold mx
        by_cases e2 : t = k + 1
        · subst e2
          split <;> omega
        · have := c.far t (by omega)
          split <;> omega
      · unfold mx
        split
        · exact ⟨k + 1, Nat.le_refl _, rfl⟩
        · obtain ⟨t, ht, ef⟩ := c.att
          exact ⟨t, by omega, ef⟩
    · rw [if_neg h]
      exact ⟨by omega, c.by_, fun _ t ht => by
        have := c.far t ht
        show _ < (q (k + 1)).1
        omega, c.far, c.att⟩
theorem fell_chn (row : List (Int × Int)) (s : Int) (i : Nat) : Chn (qf row s i) (ah row s i) (fell row s i).1 (fell row s i).2 :=
  goN_chn _ _ _ 0 _ (by omega) ⟨Nat.le_refl _, fun j hj => absurd hj (by omega), fun z => absurd z (by omega), fun t ht => by
    have : t = 0 := by omega
    subst this
    exact Int.le_refl _, ⟨0, Nat.le_refl _, rfl⟩⟩
theorem Chn.uniq {q : Nat → Int × Int} {m K K' : Nat} {F F' : Int} (c : Chn q m K F) (c' : Chn q m K' F') : K = K' := by
  rcases Nat.lt_trichotomy K K' with h | h | h
  · obtain ⟨t, ht, e⟩ := c'.by_ K h
    have := c.stop (by have := c'.le; omega) t ht
    omega
  · exact h
  · obtain ⟨t, ht, e⟩ := c.by_ K' h
    have := c'.stop (by have := c.le; omega) t ht
    omega
end FR

/-! The program's defs about rows: what each computes. -/
namespace FR
open PySem L2 Evl
structure CS where
  w : World
  Answer : Addr
  Chain : Addr
  Stands : Addr
  Fewest : Addr
  Rights : Addr
  Higher : Addr
  FallError : Addr := 0
  BadRow : Addr := 0
  BadStone : Addr := 0
  BadSide : Addr := 0
  BadText : Addr := 0
  fn : List Addr := []

/-! ### rows read -/
theorem getD_atI {α : Type} {xs : List α} {i : Int} {d : α} (h0 : 0 ≤ i) (h1 : i < xs.length) : atI xs i = some (xs.getD i.toNat d) := by
  have e : i = ((i.toNat : Nat) : Int) := by omega
  have hl : i.toNat < xs.length := by omega
  rw [e]
  refine atI_nat ?_
  simp only [Int.toNat_natCast]
  rw [List.getElem?_eq_getElem hl, List.getD_eq_getElem?_getD, List.getElem?_eq_getElem hl]
  rfl
section
variable {K : PySem.W.Frag} {env : En} {te ta tb tc : TE} {row : List (Int × Int)} {i : Int} {ns : List Int}
theorem row_atI (h0 : 0 ≤ i) (h1 : i < row.length) : atI (rowL row) i = some (prD (plc row i, hgt row i)) := by
  have h := getD_atI (xs := row) (d := (0, 0)) h0 h1
  unfold atI at h ⊢
  rw [List.length_map]
  cases e : ixN row.length i with
  | none =>
    rw [e] at h
    cases h
  | some j =>
    rw [e] at h
    have h' : row[j]? = some (row.getD i.toNat (0, 0)) := h
    show (rowL row)[j]? = _
    rw [List.getElem?_map, h']
    rfl
theorem ev_rowI (ha : EvE K ta env (rowD row)) (hb : EvE K tb env (.int i)) (h0 : 0 ≤ i) (h1 : i < row.length) : EvE K (tOp (rIxL K) ta tb) env (prD (plc row i, hgt row i)) :=
  ev_ixL ha hb (row_atI h0 h1)
theorem ev_row0 (ha : EvE K ta env (rowD row)) (hb : EvE K tb env (.int i)) (h0 : 0 ≤ i) (h1 : i < row.length) : EvE K (tOp (rIxT K) (tOp (rIxL K) ta tb) (tC (.int 0))) env (.int (plc row i)) :=
  ev_ixT (ev_rowI ha hb h0 h1) ev_int rfl
theorem ev_row1 (ha : EvE K ta env (rowD row)) (hb : EvE K tb env (.int i)) (h0 : 0 ≤ i) (h1 : i < row.length) : EvE K (tOp (rIxT K) (tOp (rIxL K) ta tb) (tC (.int 1))) env (.int (hgt row i)) :=
  ev_ixT (ev_rowI ha hb h0 h1) ev_int rfl
theorem ev_pr0 {p : Int × Int} (ha : EvE K ta env (prD p)) : EvE K (tOp (rIxT K) ta (tC (.int 0))) env (.int p.1) := ev_ixT ha ev_int rfl
theorem ev_pr1 {p : Int × Int} (ha : EvE K ta env (prD p)) : EvE K (tOp (rIxT K) ta (tC (.int 1))) env (.int p.2) := ev_ixT ha ev_int rfl
theorem ev_lenR (ha : EvE K ta env (rowD row)) : EvE K (tCB (rLenS K) (tCons ta tNil)) env (.int (row.length : Int)) := (ev_lenL ha).is (by rw [List.length_map])
theorem ev_lenI (ha : EvE K ta env (intsD ns)) : EvE K (tCB (rLenS K) (tCons ta tNil)) env (.int (ns.length : Int)) := (ev_lenL ha).is (by rw [List.length_map])
theorem plc_get {j : Nat} {p : Int × Int} (h : row[j]? = some p) : p = (plc row j, hgt row j) := by
  unfold plc hgt
  simp only [Int.toNat_natCast]
  rw [List.getD_eq_getElem?_getD, h]
  rfl
theorem plc_mem {p : Int × Int} (h : p ∈ row) : ∃ j : Nat, j < row.length ∧ p = (plc row j, hgt row j) := by
  obtain ⟨j, hj, e⟩ := List.mem_iff_getElem.mp h
  exact ⟨j, hj, plc_get (by rw [List.getElem?_eq_getElem hj, e])⟩
end
local macro_rules | `(tactic| walk_at "ev") => `(tactic| first
  | (apply ev_pr0; walk_at "ev")
  | (apply ev_pr1; walk_at "ev")
  | (apply ev_lenR; walk_at "ev")
  | (apply ev_lenI; walk_at "ev"))
local macro_rules | `(tactic| walk_at "side") => `(tactic| first | assumption | decide | omega | (exact Or.inl ⟨by decide, by decide⟩) | (exact Or.inr ⟨by decide, by decide⟩))
local macro_rules | `(tactic| walk_at "wk") => `(tactic| first
  | (apply wk_rng1 <;> first | walk_at "ev" | walk_at "side")
  | (apply wk_rng2 <;> first | walk_at "ev" | walk_at "side")
  | (apply wk_list; walk_at "ev")
  | (apply wk_sq; walk_at "ev")
  | (apply wk_tup; walk_at "ev"))
local macro_rules | `(tactic| walk_at "en") => `(tactic| first
  | (apply en_lst <;> first | walk_at "ea" | simp)
  | (apply en_listL; walk_at "ev")
  | (apply en_listT; walk_at "ev")
  | (apply en_rev; walk_at "ev")
  | (apply en_slL <;> first | walk_at "ev" | walk_at "eo")
  | (apply en_slQ <;> first | walk_at "ev" | walk_at "eo"))
local macro_rules | `(tactic| walk_at "eo") => `(tactic| first
  | exact eo_none
  | (apply eo_some; walk_at "ev"))
local macro_rules | `(tactic| walk_at "ea") => `(tactic| first
  | exact ea_nil
  | (apply ea_cons <;> first | walk_at "ev" | walk_at "ea"))
local macro_rules | `(tactic| walk_at "eb") => `(tactic| first
  | exact eb_yes
  | (apply eb_not; walk_at "eb")
  | (apply eb_test; walk_at "ev")
  | (apply eb_B; walk_at "ev"))
local macro_rules | `(tactic| walk_at "ev") => `(tactic| first
  | exact ev_int
  | exact ev_bl
  | exact ev_non
  | exact ev_ty
  | exact ev_str
  | exact ev_cls
  | exact ev_var rfl
  | assumption
  | (apply ev_row0 <;> first | walk_at "ev" | walk_at "side")
  | (apply ev_row1 <;> first | walk_at "ev" | walk_at "side")
  | (apply ev_rowI <;> first | walk_at "ev" | walk_at "side")
  | (apply ev_add <;> walk_at "ev")
  | (apply ev_sub <;> walk_at "ev")
  | (apply ev_mul <;> first | walk_at "ev" | walk_at "side")
  | (apply ev_neg; walk_at "ev")
  | (apply ev_lt <;> walk_at "ev")
  | (apply ev_le <;> walk_at "ev")
  | (apply ev_gt <;> walk_at "ev")
  | (apply ev_ge <;> walk_at "ev")
  | (apply ev_mod <;> first | walk_at "ev" | walk_at "side")
  | (apply ev_div <;> first | walk_at "ev" | exact ⟨by decide, by decide⟩)
  | (apply ev_eqI <;> walk_at "ev")
  | (apply ev_neI <;> walk_at "ev")
  | (apply ev_max2 <;> walk_at "ev")
  | (apply ev_min2 <;> walk_at "ev")
  | (apply ev_abs; walk_at "ev")
  | (apply ev_lenL; walk_at "ev")
  | (apply ev_lenQ; walk_at "ev")
  | (apply ev_lenT; walk_at "ev")
  | (apply ev_isiB <;> first | walk_at "ev" | rfl | decide +kernel)
  | (apply ev_chainI rfl rfl <;> first | walk_at "ev" | (intro _; walk_at "ev"))
  | (apply ev_notV; walk_at "ev")
  | (apply ev_tup <;> first | walk_at "ea" | simp)
  | (apply ev_new; walk_at "en"))


/-! ### what the defs promise -/
def P_is_number (ds : List Da) (d : Da) : Prop := ∃ i : Int, ds = [.int i] ∧ d = .bl true
def P_is_pair (ds : List Da) (d : Da) : Prop := ∃ p : Int × Int, ds = [prD p] ∧ d = .bl true
def P_check_row (ds : List Da) (d : Da) : Prop := ∃ row, ds = [rowD row] ∧ Okr row ∧ d = .non
def P_check_stone (ds : List Da) (d : Da) : Prop := ∃ row, ∃ i : Int, ds = [rowD row, .int i] ∧ (0 ≤ i ∧ i < row.length) ∧ d = .non
def P_check_side (ds : List Da) (d : Da) : Prop := ∃ s : Int, ds = [.int s] ∧ Sd s ∧ d = .non
def P_last_felled (ds : List Da) (d : Da) : Prop := ∃ row, ∃ i : Nat, ∃ s : Int, ds = [rowD row, .int i, .int s] ∧ (i < row.length ∧ row.length ≤ 1000 ∧ Sd s) ∧ d = .tup [.int (lastI row s i), .int (farI row s i)]
/-- the ints lo .. hi -/
def spanL (lo hi : Int) : List Int := (List.range (hi + 1 - lo).toNat).map fun k => lo + (k : Nat)
def fellL (row : List (Int × Int)) (i : Nat) (s : Int) : List Int := spanL (mn i (lastI row s i)) (mx i (lastI row s i))
def P_felled_by (ds : List Da) (es : List Da) : Prop := ∃ row, ∃ i : Nat, ∃ s : Int, ds = [rowD row, .int i, .int s] ∧ (i < row.length ∧ row.length ≤ 1000 ∧ Sd s) ∧ es = intL (fellL row i s)
def mir (row : List (Int × Int)) : List (Int × Int) := row.reverse.map fun p => (-p.1, p.2)
def P_mirrored (ds : List Da) (es : List Da) : Prop := ∃ row, ds = [rowD row] ∧ Okr row ∧ es = rowL (mir row)
def P_felled (ds : List Da) (es : List Da) : Prop := ∃ row, ∃ i : Nat, ∃ s : Int, ds = [rowD row, .int i, .int s] ∧ (i < row.length ∧ Okr row ∧ Sd s) ∧ es = intL (fellL row i s)
abbrev sp_is_number (K : PySem.W.Frag) (C : CS) : Sp := FnP K P_is_number
abbrev sp_is_pair (K : PySem.W.Frag) (C : CS) : Sp := FnP K P_is_pair
abbrev sp_check_row (K : PySem.W.Frag) (C : CS) : Sp := FnP K P_check_row
abbrev sp_check_stone (K : PySem.W.Frag) (C : CS) : Sp := FnP K P_check_stone
abbrev sp_check_side (K : PySem.W.Frag) (C : CS) : Sp := FnP K P_check_side
abbrev sp_last_felled (K : PySem.W.Frag) (C : CS) : Sp := FnP K P_last_felled
abbrev sp_felled_by (K : PySem.W.Frag) (C : CS) : Sp := FnL K P_felled_by
abbrev sp_mirrored (K : PySem.W.Frag) (C : CS) : Sp := FnL K P_mirrored
abbrev sp_felled (K : PySem.W.Frag) (C : CS) : Sp := FnL K P_felled
def t_is_number (K : PySem.W.Frag) (C : CS) : TS :=
  (tRet (tAndV (tCB (rIsi K) (tCons (tVar 0) (tCons (tC (.ty "int")) tNil))) (tNotV (tCB (rIsi K) (tCons (tVar 0) (tCons (tC (.ty "bool")) tNil))))))
def t_is_pair (K : PySem.W.Frag) (C : CS) : TS :=
  (tRet (tAndV (tCB (rIsi K) (tCons (tVar 0) (tCons (tC (.ty "tuple")) tNil))) (tAndV (tOp rEq (tCB (rLenS K) (tCons (tVar 0) tNil)) (tC (.int 2))) (tAndV (tCall (sp_is_number K C) [] E0 (tCons (tOp (rIxT K) (tVar 0) (tC (.int 0))) tNil)) (tCall (sp_is_number K C) [] E0 (tCons (tOp (rIxT K) (tVar 0) (tC (.int 1))) tNil))))))
def t_check_row (K : PySem.W.Frag) (C : CS) : TS :=
  (tSeq (tIfS (tOr (tNot (tB (tCB (rIsi K) (tCons (tVar 0) (tCons (tC (.ty "list")) tNil))))) (tNot (tB (tCB (rAll K) (tCons (tLc (iList K (tVar 0)) (gName 1) tYes (tAndV (tCall (sp_is_pair K C) [] E0 (tCons (tVar 1) tNil)) (tOp rGtI (tOp (rIxT K) (tVar 1) (tC (.int 1))) (tC (.int 0)))) [1]) tNil))))) tNever tNext) (tIfS (tNot (tB (tCB (rAll K) (tCons (tLc (iRng2 (tCons (tC (.int 1)) (tCons (tCB (rLenS K) (tCons (tVar 0) tNil)) tNil))) (gName 2) tYes (tOp rLtI (tOp (rIxT K) (tOp (rIxL K) (tVar 0) (tOp rSubI (tVar 2) (tC (.int 1)))) (tC (.int 0))) (tOp (rIxT K) (tOp (rIxL K) (tVar 0) (tVar 2)) (tC (.int 0)))) [2]) tNil)))) tNever tNext))
def t_check_stone (K : PySem.W.Frag) (C : CS) : TS :=
  (tIfS (tOr (tNot (tB (tCall (sp_is_number K C) [] E0 (tCons (tVar 1) tNil)))) (tNot (tTest (tChain rLeI rLtI (tC (.int 0)) (tVar 1) (tCB (rLenS K) (tCons (tVar 0) tNil)))))) tNever tNext)
def t_check_side (K : PySem.W.Frag) (C : CS) : TS :=
  (tIfS (tOr (tNot (tB (tCall (sp_is_number K C) [] E0 (tCons (tVar 0) tNil)))) (tTest (tOp (rIn K true) (tVar 0) (tTup (tCons (tC (.int 1)) (tCons (tUn (rU fun i => .int (-i)) (tC (.int 1))) tNil)))))) tNever tNext)
def t_last_felled (K : PySem.W.Frag) (C : CS) : TS :=
  (tSeq (tAsg (tOp rAddI (tOp rMulI (tVar 2) (tOp (rIxT K) (tOp (rIxL K) (tVar 0) (tVar 1)) (tC (.int 0)))) (tOp (rIxT K) (tOp (rIxL K) (tVar 0) (tVar 1)) (tC (.int 1)))) (gName 3)) (tSeq (tAsg (tVar 1) (gName 4)) (tSeq (tWhile (tAnd (tTest (tChain rLeI rLtI (tC (.int 0)) (tOp rAddI (tVar 4) (tVar 2)) (tCB (rLenS K) (tCons (tVar 0) tNil)))) (tTest (tOp rLeI (tOp rMulI (tVar 2) (tOp (rIxT K) (tOp (rIxL K) (tVar 0) (tOp rAddI (tVar 4) (tVar 2))) (tC (.int 0)))) (tVar 3)))) (tSeq (tAug 4 (tVar 2) (ipI fun i j => i + j)) (tAsg (tCB rMax2 (tCons (tVar 3) (tCons (tOp rAddI (tOp rMulI (tVar 2) (tOp (rIxT K) (tOp (rIxL K) (tVar 0) (tVar 4)) (tC (.int 0)))) (tOp (rIxT K) (tOp (rIxL K) (tVar 0) (tVar 4)) (tC (.int 1)))) tNil))) (gName 3)))) (tRet (tTup (tCons (tVar 4) (tCons (tVar 3) tNil)))))))
def t_felled_by (K : PySem.W.Frag) (C : CS) : TS :=
  (tSeq (tAsg (tOp (rIxT K) (tCall (sp_last_felled K C) [] E0 (tCons (tVar 0) (tCons (tVar 1) (tCons (tVar 2) tNil)))) (tC (.int 0))) (gName 3)) (tRet (tLstRg (tRg2 (tCB rMin2 (tCons (tVar 1) (tCons (tVar 3) tNil))) (tOp rAddI (tCB rMax2 (tCons (tVar 1) (tCons (tVar 3) tNil))) (tC (.int 1)))))))
def t_mirrored (K : PySem.W.Frag) (C : CS) : TS :=
  (tSeq (tDrop (tCall (sp_check_row K C) [] E0 (tCons (tVar 0) tNil))) (tRet (tLc (iRev K (tCons (tVar 0) tNil)) (gTup K 2 (gCons (gName 1) (gCons (gName 2) gNil))) tYes (tTup (tCons (tUn (rU fun i => .int (-i)) (tVar 1)) (tCons (tVar 2) tNil))) [1, 2])))
def t_felled (K : PySem.W.Frag) (C : CS) : TS :=
  (tSeq (tDrop (tCall (sp_check_row K C) [] E0 (tCons (tVar 0) tNil))) (tSeq (tDrop (tCall (sp_check_stone K C) [] E0 (tCons (tVar 0) (tCons (tVar 1) tNil)))) (tSeq (tDrop (tCall (sp_check_side K C) [] E0 (tCons (tVar 2) tNil))) (tRet (tCall (sp_felled_by K C) [] E0 (tCons (tVar 0) (tCons (tVar 1) (tCons (tVar 2) tNil))))))))

/-! ### what they compute -/
section
variable {K : PySem.W.Frag} {C : CS}
theorem run_is_number {ds : List Da} {d : Da} (h : P_is_number ds d) : Run K (t_is_number K C) (ent ds 0) (retD d) := by
  obtain ⟨i, rfl, rfl⟩ := h
  refine run_ret (d := .bl (true && !false)) (ev_andV (a := true) (b := !false) ?_ fun _ => ?_) rfl
  · walk_at "ev"
  · walk_at "ev"
theorem run_is_pair {ds : List Da} {d : Da} (h : P_is_pair ds d) : Run K (t_is_pair K C) (ent ds 0) (retD d) := by
  obtain ⟨p, rfl, rfl⟩ := h
  refine run_ret (d := .bl (true && (decide ((2 : Int) = 2) && (true && true)))) (ev_andV ?_ fun _ => ev_andV ?_ fun _ => ev_andV ?_ fun _ => ?_) rfl
  · exact ev_isiB (n := "tuple") (ev_var rfl) ev_ty rfl (by decide)
  · exact ev_eqI (ev_lenT (ds := [.int p.1, .int p.2]) (ev_var rfl)) ev_int
  · exact ev_call (ds := [.int p.1]) (ea_cons (ev_pr0 (ev_var rfl)) ea_nil) ⟨p.1, rfl, rfl⟩
  · exact ev_call (ds := [.int p.2]) (ea_cons (ev_pr1 (ev_var rfl)) ea_nil) ⟨p.2, rfl, rfl⟩
theorem run_check_row {ds : List Da} {d : Da} (h : P_check_row ds d) : Run K (t_check_row K C) (ent ds 2) (retD d) := by
  obtain ⟨row, rfl, ok, rfl⟩ := h
  refine run_seq (run_if (b := !true || !true) (eb_or ?_ fun _ => ?_) (fun z => by cases z) fun _ => run_next ?_)
  · refine eb_not (eb_B ?_)
    exact ev_isiB (n := "list") (ev_var rfl) ev_ty rfl (by decide)
  · refine eb_not (eb_B ?_)
    refine (ev_all (bs := (row.filter fun _ => true).map fun p => true && decide (0 < p.2)) ?_).is ?_
    · refine ev_new ?_
      refine (en_lc (us := [1]) prD (fun _ => true) (fun p => Da.bl (true && decide (0 < p.2))) row (wk_list (ev_var rfl)) (by simp) (by have := ok.few; omega) fun p hp => ⟨_, tc_name, eb_yes, fun _ => ?_⟩).is (by rw [List.map_map]; rfl)
      refine ev_andV ?_ fun _ => ?_
      · exact ev_call (ds := [prD p]) (ea_cons (ev_var rfl) ea_nil) ⟨p, rfl, rfl⟩
      · exact ev_gt (ev_pr1 (ev_var rfl)) ev_int
    · congr 1
      rw [List.all_map, List.all_eq_true]
      intro p hp
      obtain ⟨j, hj, rfl⟩ := plc_mem (List.mem_filter.mp hp).1
      have := ok.pos j hj
      simp [this]
  · refine run_if (b := !true) ?_ (fun z => by cases z) fun _ => run_next rfl
    refine eb_not (eb_B ?_)
    refine (ev_all (bs := ((List.range ((row.length : Int) - 1).toNat).filter fun _ => true).map fun k => decide (plc row (1 + (k : Nat) - 1) < plc row (1 + (k : Nat)))) ?_).is ?_
    · refine ev_new ?_
      refine (en_lc (us := [2]) (fun k : Nat => Da.int (1 + (k : Nat))) (fun _ => true) (fun k => Da.bl (decide (plc row (1 + (k : Nat) - 1) < plc row (1 + (k : Nat))))) (List.range ((row.length : Int) - 1).toNat) ?_ (by simp) (by rw [List.length_range]; have := ok.few; omega) fun k hk => ⟨_, tc_name, eb_yes, fun _ => ?_⟩).is (by rw [List.map_map]; rfl)
      · refine wk_rng2 ev_int (ev_lenR (ev_var rfl)) ?_
        have := ok.few
        omega
      · have hk' := List.mem_range.mp hk
        refine ev_lt (ev_row0 (ev_var rfl) (ev_sub (ev_var rfl) ev_int) (by omega) (by omega)) (ev_row0 (ev_var rfl) (ev_var rfl) (by omega) (by omega))
    · congr 1
      rw [List.all_map, List.all_eq_true]
      intro k hk
      have hk' := List.mem_range.mp (List.mem_filter.mp hk).1
      have := ok.inc k (k + 1) (by omega) (by omega)
      simp only [Function.comp, id, decide_eq_true_eq]
      have e1 : (1 : Int) + (k : Nat) - 1 = ((k : Nat) : Int) := by omega
      have e2 : (1 : Int) + (k : Nat) = ((k + 1 : Nat) : Int) := by omega
      rw [e1, e2]
      exact this
theorem run_check_stone {ds : List Da} {d : Da} (h : P_check_stone ds d) : Run K (t_check_stone K C) (ent ds 0) (retD d) := by
  obtain ⟨row, i, rfl, hi, rfl⟩ := h
  refine run_if (b := !true || !(decide (0 ≤ i) && decide (i < (row.length : Int)))) (eb_or ?_ fun _ => ?_) (fun z => ?_) fun _ => run_next rfl
  · exact eb_not (eb_B (ev_call (ds := [.int i]) (ea_cons (ev_var rfl) ea_nil) ⟨i, rfl, rfl⟩))
  · exact eb_not (eb_test (ev_chainI rfl rfl ev_int (ev_var rfl) fun _ => ev_lenR (ev_var rfl)))
  · rw [decide_eq_true hi.1, decide_eq_true hi.2] at z
    cases z
theorem run_check_side {ds : List Da} {d : Da} (h : P_check_side ds d) : Run K (t_check_side K C) (ent ds 0) (retD d) := by
  obtain ⟨s, rfl, hs, rfl⟩ := h
  refine run_if (b := !true || (if true = true then !decide (s ∈ [1, -1]) else decide (s ∈ [1, -1]))) (eb_or ?_ fun _ => ?_) (fun z => ?_) fun _ => run_next rfl
  · exact eb_not (eb_B (ev_call (ds := [.int s]) (ea_cons (ev_var rfl) ea_nil) ⟨s, rfl, rfl⟩))
  · exact eb_test (ev_inI (ns := [1, -1]) (ev_var rfl) (ev_tup (ea_cons ev_int (ea_cons (ev_neg ev_int) ea_nil))))
  · rcases hs with rfl | rfl <;> simp at z
theorem cmul_s {s x : Int} (h : Sd s) : CMul s x := .inl (by rcases h with rfl | rfl <;> decide)
theorem run_last_felled {ds : List Da} {d : Da} (h : P_last_felled ds d) : Run K (t_last_felled K C) (ent ds 2) (retD d) := by
  obtain ⟨row, i, s, rfl, ⟨hi, hn, hs⟩, rfl⟩ := h
  refine run_seq (run_asg (d := .int ((qf row s i 0).1 + (qf row s i 0).2)) ?_ ?_)
  · refine (ev_add (ev_mul (ev_var rfl) (ev_row0 (i := i) (ev_var rfl) (ev_var rfl) (by omega) (by omega)) (cmul_s hs)) (ev_row1 (i := i) (ev_var rfl) (ev_var rfl) (by omega) (by omega))).is ?_
    simp [qf]
  refine run_seq (run_asg (d := .int (i : Nat)) (ev_var rfl) ?_)
  refine run_seq (run_while (fun m e => ∃ k far, e = [.im (rowD row), .im (.int i), .im (.int s), .im (.int far), .im (.int (i + s * (k : Nat)))] ∧ k + m = ah row s i ∧ goN (qf row s i) m k far = fell row s i) (ah row s i) ⟨0, (qf row s i 0).1 + (qf row s i 0).2, ?_, by omega, rfl⟩ ?_)
  · have e0 : (i : Int) + s * ((0 : Nat) : Int) = i := by simp
    rw [e0]
    rfl
  rintro m e ⟨k, far, rfl, hm, hg⟩
  have hk : 0 ≤ (i : Int) + s * k ∧ (i : Int) + s * k < row.length := by
    rcases hs with rfl | rfl
    · have : ah row 1 i = row.length - 1 - i := by unfold ah; simp
      omega
    · have : ah row (-1) i = i := by unfold ah; simp
      omega
  have e1 : (i : Int) + s * (k : Nat) + s = i + s * ((k + 1 : Nat) : Int) := by
    rcases hs with rfl | rfl <;> omega
  refine ⟨(decide (0 ≤ (i : Int) + s * k + s) && decide ((i : Int) + s * k + s < row.length)) && decide (s * plc row (i + s * k + s) ≤ far), eb_and (eb_test ?_) (fun hb => eb_test ?_), fun hb => ?_, fun hb => ?_⟩
  · exact ev_chainI rfl rfl ev_int (ev_add (ev_var rfl) (ev_var rfl)) fun _ => ev_lenR (ev_var rfl)
  · simp only [Bool.and_eq_true, decide_eq_true_eq] at hb
    exact ev_le (ev_mul (ev_var rfl) (ev_row0 (ev_var rfl) (ev_add (ev_var rfl) (ev_var rfl)) hb.1 hb.2) (cmul_s hs)) (ev_var rfl)
  · simp only [Bool.and_eq_true, decide_eq_true_eq] at hb
    have hm1 : m = (m - 1) + 1 := by
      rcases hs with rfl | rfl
      · have : ah row 1 i = row.length - 1 - i := by unfold ah; simp
        omega
      · have : ah row (-1) i = i := by unfold ah; simp
        omega
    refine run_seq (run_aug (a := i + s * (k : Nat)) (b := s) rfl (ev_var rfl) ?_)
    refine run_asg (d := .int (mx far (s * plc row (i + s * k + s) + hgt row (i + s * k + s)))) ?_ ?_
    · exact ev_max2 (ev_var rfl) (ev_add (ev_mul (ev_var rfl) (ev_row0 (ev_var rfl) (ev_var rfl) hb.1.1 hb.1.2) (cmul_s hs)) (ev_row1 (ev_var rfl) (ev_var rfl) hb.1.1 hb.1.2))
    · refine ⟨m - 1, by omega, k + 1, mx far (s * plc row (i + s * k + s) + hgt row (i + s * k + s)), ?_, by omega, ?_⟩
      · rw [← e1]
        rfl
      · rw [← hg, hm1]
        simp only [Nat.add_sub_cancel]
        conv => rhs; unfold goN
        rw [if_pos (by show s * plc row (i + s * ((k + 1 : Nat) : Int)) ≤ far; rw [← e1]; exact hb.2)]
        show _ = goN (qf row s i) (m - 1) (k + 1) (mx far (s * plc row (i + s * ((k + 1 : Nat) : Int)) + hgt row (i + s * ((k + 1 : Nat) : Int))))
        rw [← e1]
  · have hf : fell row s i = (k, far) := by
      rw [← hg]
      cases m with
      | zero => rfl
      | succ m =>
        unfold goN
        rw [if_neg]
        intro hq
        have hq' : s * plc row (i + s * ((k + 1 : Nat) : Int)) ≤ far := hq
        rw [← e1] at hq'
        rw [decide_eq_true hq', Bool.and_true, Bool.and_eq_false_iff, decide_eq_false_iff_not, decide_eq_false_iff_not] at hb
        rcases hs with rfl | rfl
        · have : ah row 1 i = row.length - 1 - i := by unfold ah; simp
          omega
        · have : ah row (-1) i = i := by unfold ah; simp
          omega
    refine run_ret (d := .tup [.int (i + s * (k : Nat)), .int far]) (ev_tup (ea_cons (ev_var rfl) (ea_cons (ev_var rfl) ea_nil))) ?_
    show Da.tup _ = Da.tup _
    unfold lastI farI
    rw [hf]
theorem lastI_in {row : List (Int × Int)} {s : Int} {i : Nat} (hi : i < row.length) (hs : Sd s) : 0 ≤ lastI row s i ∧ lastI row s i < row.length := by
  have h := (fell_chn row s i).le
  unfold lastI
  rcases hs with rfl | rfl
  · have : ah row 1 i = row.length - 1 - i := by unfold ah; simp
    omega
  · have : ah row (-1) i = i := by unfold ah; simp
    omega
theorem run_felled_by {ds : List Da} {es : List Da} (h : P_felled_by ds es) : Run K (t_felled_by K C) (ent ds 1) (retL es) := by
  obtain ⟨row, i, s, rfl, ⟨hi, hn, hs⟩, rfl⟩ := h
  have hl := lastI_in hi hs
  refine run_seq (run_asg (d := .int (lastI row s i)) ?_ ?_)
  · exact ev_ixT (ev_call (ds := [rowD row, .int i, .int s]) (ea_cons (ev_var rfl) (ea_cons (ev_var rfl) (ea_cons (ev_var rfl) ea_nil))) ⟨row, i, s, rfl, ⟨hi, hn, hs⟩, rfl⟩) ev_int rfl
  · refine run_retN (en_listRg (ev_min2 (ev_var rfl) (ev_var rfl)) (ev_add (ev_max2 (ev_var rfl) (ev_var rfl)) ev_int) ?_) ?_
    · refine RgOk.of_le ?_ ?_ ?_ ?_ <;> (repeat' split) <;> omega
    · show _ = intL (fellL row i s)
      unfold fellL spanL intL
      rw [List.map_map]
      rfl
theorem run_mirrored {ds : List Da} {es : List Da} (h : P_mirrored ds es) : Run K (t_mirrored K C) (ent ds 2) (retL es) := by
  obtain ⟨row, rfl, ok, rfl⟩ := h
  refine run_seq (run_drop (d := .non) (ev_call (ds := [rowD row]) (ea_cons (ev_var rfl) ea_nil) ⟨row, rfl, ok, rfl⟩) ?_)
  refine run_retN (en_lc (us := [1, 2]) prD (fun _ => true) (fun p => prD (-p.1, p.2)) row.reverse ?_ (by simp) (by rw [List.length_reverse]; have := ok.few; omega) fun p hp => ⟨_, tc_tup2 tc_name tc_name, eb_yes, fun _ => ?_⟩) ?_
  · have := wk_rev (K := K) (env := imm (ent [rowD row] 2)) (te := tVar 0) (ta := tVar 0) (ds := rowL row) (ev_var rfl)
    rw [List.map_reverse]
    exact this
  · exact ev_tup (ea_cons (ev_neg (ev_var rfl)) (ea_cons (ev_var rfl) ea_nil))
  · show _ = rowL (mir row)
    unfold mir rowL
    rw [List.map_map, List.filter_eq_self.mpr fun _ _ => rfl]
    rfl
theorem run_felled {ds : List Da} {es : List Da} (h : P_felled ds es) : Run K (t_felled K C) (ent ds 0) (retL es) := by
  obtain ⟨row, i, s, rfl, ⟨hi, ok, hs⟩, rfl⟩ := h
  refine run_seq (run_drop (d := .non) (ev_call (ds := [rowD row]) (ea_cons (ev_var rfl) ea_nil) ⟨row, rfl, ok, rfl⟩) ?_)
  refine run_seq (run_drop (d := .non) (ev_call (ds := [rowD row, .int i]) (ea_cons (ev_var rfl) (ea_cons (ev_var rfl) ea_nil)) ⟨row, i, rfl, by omega, rfl⟩) ?_)
  refine run_seq (run_drop (d := .non) (ev_call (ds := [.int s]) (ea_cons (ev_var rfl) ea_nil) ⟨s, rfl, hs, rfl⟩) ?_)
  exact run_retN (en_call (ds := [rowD row, .int i, .int s]) (ea_cons (ev_var rfl) (ea_cons (ev_var rfl) (ea_cons (ev_var rfl) ea_nil))) ⟨row, i, s, rfl, ⟨hi, ok.few, hs⟩, rfl⟩) rfl
end

/-! ### the same, as a def's body asks it -/
section
variable {K : PySem.W.Frag} {C : CS} {vs : List V} {H : Hp} {Q : VK} {E : XK}
theorem len_is_number (h : sp_is_number K C vs H Q E) : vs.length = 1 := len_P (m := 1) (fun ds d ⟨_, e, _⟩ => by rw [e]; rfl) h
theorem pure_is_number (h : sp_is_number K C vs H Q E) : t_is_number K C { nx := fun _ H' => Q .non H', rt := Q } (start ["thing"] vs) H := fnP_of 0 (fun ds d ⟨_, e, _⟩ => by rw [e]; rfl) (fun ds d p => run_is_number p) h
theorem len_is_pair (h : sp_is_pair K C vs H Q E) : vs.length = 1 := len_P (m := 1) (fun ds d ⟨_, e, _⟩ => by rw [e]; rfl) h
theorem pure_is_pair (h : sp_is_pair K C vs H Q E) : t_is_pair K C { nx := fun _ H' => Q .non H', rt := Q } (start ["thing"] vs) H := fnP_of 0 (fun ds d ⟨_, e, _⟩ => by rw [e]; rfl) (fun ds d p => run_is_pair p) h
theorem len_check_row (h : sp_check_row K C vs H Q E) : vs.length = 1 := len_P (m := 1) (fun ds d ⟨_, e, _⟩ => by rw [e]; rfl) h
theorem pure_check_row (h : sp_check_row K C vs H Q E) : t_check_row K C { nx := fun _ H' => Q .non H', rt := Q } (start ["row", "stone", "at"] vs) H := fnP_of 2 (fun ds d ⟨_, e, _⟩ => by rw [e]; rfl) (fun ds d p => run_check_row p) h
theorem len_check_stone (h : sp_check_stone K C vs H Q E) : vs.length = 2 := len_P (m := 2) (fun ds d ⟨_, _, e, _⟩ => by rw [e]; rfl) h
theorem pure_check_stone (h : sp_check_stone K C vs H Q E) : t_check_stone K C { nx := fun _ H' => Q .non H', rt := Q } (start ["row", "stone"] vs) H := fnP_of 0 (fun ds d ⟨_, _, e, _⟩ => by rw [e]; rfl) (fun ds d p => run_check_stone p) h
theorem len_check_side (h : sp_check_side K C vs H Q E) : vs.length = 1 := len_P (m := 1) (fun ds d ⟨_, e, _⟩ => by rw [e]; rfl) h
theorem pure_check_side (h : sp_check_side K C vs H Q E) : t_check_side K C { nx := fun _ H' => Q .non H', rt := Q } (start ["side"] vs) H := fnP_of 0 (fun ds d ⟨_, e, _⟩ => by rw [e]; rfl) (fun ds d p => run_check_side p) h
theorem len_last_felled (h : sp_last_felled K C vs H Q E) : vs.length = 3 := len_P (m := 3) (fun ds d ⟨_, _, _, e, _⟩ => by rw [e]; rfl) h
theorem pure_last_felled (h : sp_last_felled K C vs H Q E) : t_last_felled K C { nx := fun _ H' => Q .non H', rt := Q } (start ["row", "stone", "side", "far", "last"] vs) H := fnP_of 2 (fun ds d ⟨_, _, _, e, _⟩ => by rw [e]; rfl) (fun ds d p => run_last_felled p) h
theorem len_felled_by (h : sp_felled_by K C vs H Q E) : vs.length = 3 := len_L (m := 3) (fun ds d ⟨_, _, _, e, _⟩ => by rw [e]; rfl) h
theorem pure_felled_by (h : sp_felled_by K C vs H Q E) : t_felled_by K C { nx := fun _ H' => Q .non H', rt := Q } (start ["row", "stone", "side", "last"] vs) H := fnL_of 1 (fun ds d ⟨_, _, _, e, _⟩ => by rw [e]; rfl) (fun ds d p => run_felled_by p) h
theorem len_mirrored (h : sp_mirrored K C vs H Q E) : vs.length = 1 := len_L (m := 1) (fun ds d ⟨_, e, _⟩ => by rw [e]; rfl) h
theorem pure_mirrored (h : sp_mirrored K C vs H Q E) : t_mirrored K C { nx := fun _ H' => Q .non H', rt := Q } (start ["row", "place", "height"] vs) H := fnL_of 2 (fun ds d ⟨_, e, _⟩ => by rw [e]; rfl) (fun ds d p => run_mirrored p) h
theorem len_felled (h : sp_felled K C vs H Q E) : vs.length = 3 := len_L (m := 3) (fun ds d ⟨_, _, _, e, _⟩ => by rw [e]; rfl) h
theorem pure_felled (h : sp_felled K C vs H Q E) : t_felled K C { nx := fun _ H' => Q .non H', rt := Q } (start ["row", "stone", "side"] vs) H := fnL_of 0 (fun ds d ⟨_, _, _, e, _⟩ => by rw [e]; rfl) (fun ds d p => run_felled p) h
end
end FR

/-! Defs that raise (exceptions without a context), a comprehension over a range within an except suite. -/
namespace FX
open PySem PySem.Spec PyProof.Rows L2
abbrev WofE (E : XK) : WX := fun cls d _ H => E cls d H
theorem passN {X : Cx} : Passes (L2N.CX X.prog X.w) X E0 := fun _ _ _ _ _ _ _ h => by
  obtain ⟨_, _, _, _, _, _, _, _, _, _, _, _, z⟩ := h
  exact z.elim
theorem passNS {X : Cx} {σ : L2.St} : PassesAt (L2N.CX X.prog X.w) X σ E0 := fun _ _ _ _ _ _ h => by
  obtain ⟨_, _, _, _, _, _, _, _, _, _, _, _, z⟩ := h
  exact z.elim
theorem pass0S {X : Cx} {σ : L2.St} : PassesAt CX0 X σ E0 := fun _ _ _ _ _ _ h => h.elim
theorem takesN0 {X : Cx} : L2N.Takes X (fun _ _ _ _ => False) := fun _ _ x => by
  obtain ⟨_, _, _, _, _, _, _, _, _, _, _, _, _, _, _, _, z⟩ := x
  exact z.elim
theorem okN {P : Program} {w : World} {K : PySem.W.Frag} {mg : Str → Option Value} {base : Heap} {x qual : Str} {st : Stmt} {f : Addr} {fd : FuncData} {N ps : List Str} {k : Nat} {sp : Sp} (F : Fun K x qual st f fd) (S : FnScope N ps (defScope st)) (len : ∀ vs H Q E, sp vs H Q E → vs.length = ps.length)
    (hbody : ∀ (cdv : Value) (A : Around) (outer : List Env) (s : Shared) (H : Hp) (vs : List V) (Q : VK) (E : XK), Room k (A.deeper (envOfC qual (defScope st) s.heap.objs.size f cdv)) → sp vs H Q E →
      ∃ t, PSs (cxOf (L2N.CX P w) P w K mg base N qual (defScope st) f cdv A outer s H E) (defBody st) t ∧ t { nx := fun _ H' => Q .non H', rt := Q } (start N vs) H) : FnOk P w K mg base (L2N.CX P w) (k + 1) f fd ps sp := by
  obtain ⟨oc, od, kV, doc, pm, an, cdv, ct, osl, rfl, lk, hcd⟩ := F.ex
  exact fn_of lk hcd S len fun A outer s H vs Q E hr hsp => hbody cdv A outer s H vs Q E hr hsp
/-- the facts of an exception class of the text -/
structure ExcCls (K : PySem.W.Frag) (mg : Str → Option Value) (x : Str) (C : Addr) : Prop where
  ec : PySem.W.excIn K C [.type "ValueError", .type "Exception", .type "BaseException", .type "object"] "ValueError.__new__" = true
  g : mg x = some (.ref C)
  k : PySem.W.keepIn K (.ref C) = true
  b : PySem.W.subIn K (.ref C) (.type "BaseException") = some true
  t : PySem.W.typeIn K (.ref C) = some (.type "type")
def tRaise (W : WX) (C : Addr) : TS := fun _ σ H => W (.ref C) none σ H
section
variable {X : Cx} {k : Nat} {x m : Str} {ps : List Str} {sp : Sp} {W : WX} {e fe : Expr} {es : List Expr} {t : TA} {tf : TE} {p p2 pos pos2 : Pos} {C : Addr} {j : Nat}
theorem pe_calS (g : FR.Cal X.prog X.w X.K X.mg X.base (L2N.CX X.prog X.w) k x ps sp) (hr : Room k X.A) (hg : Gl X x) (tk : L2N.Takes X W) (ha : PA X (e :: es) t)
    (hdb : (x == ("__debug__" : Str)) = false := by decide) (he : starEach (e :: es) X.env = (false, eval e X.env) :: starEach es X.env := by rfl) (hpl : (backTo pos (starEach es X.env)).any (·.1) = false := by rfl) :
    PE X (.Call (.Name x p) (e :: es) [] pos) (tCallS sp (WE W) t) := by
  obtain ⟨f, fd, F, hm, hk, hb⟩ := g.ex
  exact pe_callS F hr hg hm hk hb (fun σ => L2N.passAt tk σ) ha hdb he hpl
theorem ps_raiseO (hc : X.calm = true) (tk : L2N.Takes X W) (c : ExcCls X.K X.mg x C) (hg : Gl X x) (hdb : (x == ("__debug__" : Str)) = false := by decide) :
    PS X (.Raise (some (.Call (.Name x p) [.Constant (.str m) j p2] [] pos)) none pos2) (tRaise W C) :=
  L2N.ps_raise hc tk (L2N.pmk_own PySem.F.excBase_ValueError c.ec c.g c.k (raises_own c.b c.t) hg hdb)
/-- f(..), f one of several defs, each with its promise -/
structure HeldS (P : Program) (w : World) (K : PySem.W.Frag) (mg : Str → Option Value) (base : Heap) (CX : CXT) (k : Nat) (f : Addr) (sp : Sp) : Prop where
  ex : ∃ (fd : FuncData) (ps : List Str), FnOk P w K mg base CX k f fd ps sp ∧ PySem.W.keepIn K (.ref f) = true ∧ Binds K fd ps []
def tCallF (S : Addr → Sp → Prop) (E : L2.St → XK) (tf : TE) (t : TA) : TE := fun σ H Q => tf σ H fun y H1 => ∃ f sp, y = .ref f ∧ S f sp ∧ t σ H1 fun vs H2 => sp vs H2 Q (E σ)
theorem pe_callF {CX : CXT} {E : L2.St → XK} {S : Addr → Sp → Prop} (hf : PE X fe tf) (A : ∀ f sp, S f sp → HeldS X.prog X.w X.K X.mg X.base CX k f sp) (hr : Room k X.A) (hx : ∀ σ, PassesAt CX X σ (E σ)) (ha : PA X (e :: es) t)
    (ht : eval (.Call fe (e :: es) [] pos) X.env = (do callWith pos (← eval fe X.env) [] (backTo pos (starEach (e :: es) X.env)) (backToKw pos (keywordEach [] X.env))) := by rfl)
    (he : starEach (e :: es) X.env = (false, eval e X.env) :: starEach es X.env := by rfl) (hpl : (backTo pos (starEach es X.env)).any (·.1) = false := by rfl) : PE X (.Call fe (e :: es) [] pos) (tCallF S E tf t) := by
  refine ⟨fun pins s σ H Q I h => ?_⟩
  refine Call_ (thn (hf.run pins s σ H _ I h) fun u s1 ⟨y, H1, I1, ry, f, sp, ey, hS, q⟩ => ?_) ht
  subst ey
  obtain rfl : u = Value.ref f := ry
  obtain ⟨fd, ps, F, hk, hb⟩ := (A f sp hS).ex
  refine PySem.W.callWith_K (h₀ := X.base) I1.ok.mod.kin hk (thn (ha.run pos pins s1 σ H1 _ I1 q) fun us s2 ⟨vs, H2, I2, r, q2⟩ => ⟨I2.kIn, ?_⟩) he hpl
  exact run_fnS F hr hb (hx σ) I2 r q2
theorem pe_callFN {CX : CXT} {E : L2.St → XK} {S : Addr → Sp → Prop} {i : Nat} (hN : X.N[i]? = some x) (hv : Vis X.env.scope x) (A : ∀ f sp, S f sp → HeldS X.prog X.w X.K X.mg X.base CX k f sp) (hr : Room k X.A) (hx : ∀ σ, PassesAt CX X σ (E σ)) (ha : PA X (e :: es) t)
    (hdb : (x == ("__debug__" : Str)) = false := by decide) (hcd : (x == ("__classdict__" : Str)) = false := by decide)
    (he : starEach (e :: es) X.env = (false, eval e X.env) :: starEach es X.env := by rfl) (hpl : (backTo pos (starEach es X.env)).any (·.1) = false := by rfl) : PE X (.Call (.Name x p) (e :: es) [] pos) (tCallF S E (tVar i) t) := by
  refine ⟨fun pins s σ H Q I h => ?_⟩
  refine wpAny_Call_Name_kw (thn ((pe_var (pos := p) hN hv hdb hcd).run pins s σ H _ I h) fun u s1 ⟨y, H1, I1, ry, f, sp, ey, hS, q⟩ => ?_)
  subst ey
  obtain rfl : u = Value.ref f := ry
  obtain ⟨fd, ps, F, hk, hb⟩ := (A f sp hS).ex
  refine PySem.W.callWith_K (h₀ := X.base) I1.ok.mod.kin hk (thn (ha.run pos pins s1 σ H1 _ I1 q) fun us s2 ⟨vs, H2, I2, r, q2⟩ => ⟨I2.kIn, ?_⟩) he hpl
  exact run_fnS F hr hb (hx σ) I2 r q2
end
/-- a suite for which exception it ever is -/
def tSuite (F : Addr → Prop) (inner : Addr → TS) (cls : Value) (d : Option Addr) : TS := fun D σ H => ∃ De, cls = .ref De ∧ d = none ∧ F De ∧ inner De D σ H
theorem pss_suite {X : Cx} {F : Addr → Prop} {inner : Addr → TS} {cls : Value} {d : Option Addr} {body : List Stmt} (h : ∀ De, cls = .ref De → d = none → F De → PSs X body (inner De)) : PSs X body (tSuite F inner cls d) := by
  refine ⟨fun pins s σ H D I q => ?_⟩
  obtain ⟨De, e1, e2, hF, q⟩ := q
  exact (h De e1 e2 hF).run pins s σ H D I q
theorem hot_suite {X : Cx} {a : Addr} {oe : Obj} {pn : List (Addr × Obj)} {cls : Value} {d : Option Addr} (hz : L2N.Zn cls d oe) (hf : ∃ vs, oe.data = .fields vs) : L2H.HotC (X.suite a ((a, oe) :: pn)) := by
  obtain ⟨vs, hd⟩ := hf
  exact ⟨(a, oe), ⟨rfl, vs, hd, hz.2.2 vs hd⟩, List.mem_cons_self⟩
theorem zc_of {De : Addr} {cls : Value} {d : Option Addr} {oe : Obj} (hz : L2N.Zn cls d oe) (e1 : cls = .ref De) (e2 : d = none) : Zc (.ref De) none oe := by
  subst e1 e2
  exact hz.zc
end FX

/-! [e for x in range(n)] where an exception is handled (my own; over the library's TurnH and its block). -/
namespace FX
open PySem PySem.Spec PyProof.Rows L2
abbrev blkE (X : Cx) (sc : Scope) (s : Shared) : Env :=
  compEnvC sc (cellsFrom (s.heap.objs.size + 1) sc.names (cloFrom X.env.cells sc.names [])) s.heap.objs.size X.env
abbrev blkS (sc : Scope) (s : Shared) : Shared :=
  { s with heap := pushCells (s.heap.push { cls := .type "dict", data := .dict #[] }) sc.names }
abbrev blkX (X : Cx) (sc : Scope) (s : Shared) (H : Hp) (fp : List Addr) : Cx := X.blk s H sc (blkE X sc s) fp
abbrev blkT (X : Cx) (sc : Scope) (s : Shared) (H : Hp) (fp : List Addr) (p : Addr × Obj) : Cx :=
  (blkX X sc s H fp).tr [p] fun _ _ => False
section
variable {X : Cx} {pins : List (Addr × Obj)} {σ τ : L2.St} {H G : Hp} {s r : Shared} {sc : Scope} {own : List (Str × Nat)} {fp : List Addr} {p : Addr × Obj}
/-- the block's start, the handled exception among its pins -/
theorem blk_in (I : Inv X pins σ H s) (ok : BlkOk X.N X.env.scope sc own) (nd : X.N.Nodup) (hp : p ∈ X.pn) (hf : ∀ b ∈ fp, FpOk X pins H b ∧ b < s.heap.objs.size) :
    Inv (blkX X sc s H fp) [p] (wipe σ (own.map (·.2))) H (blkS sc s) := by
  obtain ⟨p1, p2, p3, p4, p5⟩ := I.pin p (List.mem_append_left _ hp)
  refine (block_start I ok nd hf).pins_of fun q hq => ?_
  rw [List.mem_singleton] at hq
  rw [hq]
  refine ⟨pushCells_keeps _ _ _ _ (Heap.get?_push_of_some _ p1), p2, ?_, ?_, p5⟩
  · exact Nat.ne_of_lt (Heap.lt_size p1)
  · intro hm
    exact (List.mem_cons.mp (I.stkSub p.1 hm)).elim p3 p4
theorem blk_tr (I : Inv (blkX X sc s H fp) [p] τ G r) : Inv (blkT X sc s H fp p) [] τ G r := I.toTry _
theorem blk_rt (ok : (blkX X sc s H fp).Ok) (I : Inv (blkT X sc s H fp p) [] τ G r) : Inv (blkX X sc s H fp) [p] τ G r :=
  Inv.ofTry (X := blkX X sc s H fp) (pins := [p]) (pn' := []) I ok
/-- the iterator's objects keep apart in the block -/
theorem blk_fp (I : Inv (blkX X sc s H fp) [p] τ G r) (hn : ∀ b ∈ fp, G b = none) (np : ∀ b ∈ fp, p.1 ≠ b) : ∀ b ∈ fp, FpOk (blkX X sc s H fp) [p] G b := by
  intro b hb
  refine ⟨hn b hb, (I.ok.exf b hb).1, I.ok.exfs b hb, Or.inl hb, (I.ok.exf b hb).2, fun q hq => ?_⟩
  rw [List.nil_append, List.mem_singleton] at hq
  rw [hq]
  exact np b hb
end
section
variable {X : Cx} {tg elt iter : Expr} {sc : Scope} {own : List (Str × Nat)} {pos : Pos} {wi : TI} {g : TG} {te : TE}
theorem pe_lcHot (hot : L2H.HotC X) (nd : X.N.Nodup) (hi : L2H.PIH X tg iter wi) (ok : BlkOk X.N X.env.scope sc own)
    (hg : ∀ (s : Shared) (H : Hp) (C : Addr) (cl : List (Str × Addr)) (fp : List Addr), PG (X.blk s H sc (compEnvC sc cl C X.env) fp) tg g)
    (he : ∀ (s : Shared) (H : Hp) (C : Addr) (cl : List (Str × Addr)) (fp : List Addr), PE (X.blk s H sc (compEnvC sc cl C X.env) fp) elt te)
    (hs : ∀ x, foldedSetIterable iter X.env x = pure x := by intro _; rfl) : PE X (.ListComp elt [⟨tg, iter, [], 0⟩] sc pos) (tLc wi g tYes te (own.map (·.2))) := by
  obtain ⟨p, ⟨ph, v1, ve, vc⟩, pm⟩ := hot
  constructor
  intro pins s0 σ H0 Q I0 h
  rw [eval_ListComp]
  have free : ∀ y ∈ sc.names, y.2 = .free → ∃ c, X.env.cells.lookup y.1 = some c := by
    intro y hy e
    exact I0.ok.has _ (ok.free y hy e)
  have uq : ∀ y ∈ sc.names, y.2 = NameKind.local → sc.names.lookup y.1 = some .local := by
    intro y hy e
    rw [ok.uniq y hy, e]
  refine wpAny_comprehension_free (use := none) rfl hs (closure_ok free) ok.kind uq ?_
  refine thn (hi.run pins s0 σ H0 _ I0 h) fun _ _ w1 => thn w1 fun itv s2 w2 => ?_
  obtain ⟨it, fp, tn, J, H2, rfl, I2, T, t2, f2, q⟩ := w2
  refine wpAny_newObj_type (newEnv_comp ?_) (by show 0 ≤ sizeLine; decide)
  -- the list that grows
  obtain ⟨D, hD⟩ : ∃ D, s2.heap.objs.size = D := ⟨_, rfl⟩
  obtain ⟨s3, e3⟩ : ∃ s3 : Shared, s3 = { s2 with heap := s2.heap.push { cls := .type "list", data := .seq ([] : List Value).toArray } } := ⟨_, rfl⟩
  obtain ⟨H3, e4⟩ : ∃ H3 : Hp, H3 = upd H2 D (.lst []) := ⟨_, rfl⟩
  rw [hD, ← e3]
  have up3 : ∀ b o, s2.heap.get? b = some o → s3.heap.get? b = some o := by
    rw [e3]
    exact fun b o e => Heap.get?_push_of_some _ e
  have I3 : Inv X pins σ H3 s3 := by
    rw [e3, e4]
    refine I2.laid (t' := s2.toks) (fun b o e => Heap.get?_push_of_some _ e) (Nat.le_of_eq hD) ⟨Nat.zero_le _, [], 0, .nil, ?_⟩
    rw [← hD]
    exact Heap.get?_push_size _ rfl
  have lt3 : ∀ b ∈ fp, b < s2.heap.objs.size := by
    intro b hb
    obtain ⟨o, e, _⟩ := T.obj 0 s2.heap t2 b hb
    exact Heap.lt_size e
  have f3 : ∀ b ∈ fp, FpOk X pins H3 b ∧ b < s3.heap.objs.size := by
    intro b hb
    have l := lt3 b hb
    constructor
    · refine ⟨?_, (f2 b hb).2⟩
      rw [e4, upd_ne (fun z => Nat.ne_of_lt l (z.trans hD.symm))]
      exact (f2 b hb).1
    · rw [e3]
      show b < (s2.heap.push _).objs.size
      rw [Heap.size_push]
      exact Nat.lt_succ_of_lt l
  have pf : ∀ b ∈ fp, p.1 ≠ b := fun b hb => (f3 b hb).1.2.2.2.2.2 p (List.mem_append_left _ pm)
  have I4 := blk_in I3 ok nd pm f3
  have okB := I4.ok
  have t4 : tn 0 (blkS sc s3).heap := by
    refine T.keep 0 s2.heap _ t2 ?_
    intro b _ o e
    exact pushCells_keeps _ _ _ _ (Heap.get?_push_of_some _ (up3 b o e))
  obtain ⟨W, ⟨m0, w0⟩, turn⟩ := q D (I2.hok.fresh (Nat.le_of_eq hD))
  rw [← e4] at w0
  have hotT : L2H.HotC (blkT X sc s3 H3 fp p) := ⟨p, ⟨ph, v1, ve, vc⟩, List.mem_singleton.mpr rfl⟩
  -- the turns
  have all : codeAny (model X.prog X.w) X.A (.compLoop (.ListComp elt [⟨tg, iter, [], 0⟩] sc pos) 0 (.ref it) (.ref D) (blkE X sc s3)) (compPost (model X.prog X.w) X.A X.xe none (EP X pins σ Q) (.ref D) s3.heap.objs.size) (blkS sc s3) := by
    let V : Nat → Shared → Prop := fun m r => ∃ i G, Inv (blkX X sc s3 H3 fp) [p] (wipe σ (own.map (·.2))) G r ∧ tn i r.heap ∧ (∀ b ∈ fp, G b = none) ∧ W i m G
    refine compLoop_any V ?_ m0 ⟨0, H3, I4, t4, fun b hb => (f3 b hb).1.1, w0⟩
    rintro m r ⟨i, G, J5, t5, n5, w5⟩
    have k5 := blk_fp J5 n5 pf
    rcases turn i m G w5 with ⟨stop, fin⟩ | ⟨go, Nx, next, step⟩
    · refine thnF (T.done (blkT X sc s3 H3 fp p) rfl rfl rfl hotT i [] r _ G _ (blk_tr J5) k5 t5 stop) ?_
      rintro _ r' ⟨rfl, J6⟩
      have J7 : Inv X pins σ G r' := by
        refine I3.call' (ch := fp) J6.os J6.base J6.hok J6.bare ?_
        intro b hb
        obtain ⟨_, a2, _, a4, a5, a6⟩ := (f3 b hb).1
        exact ⟨a4, a2, a5, a6⟩
      obtain ⟨mm, ns, _⟩ := J6.loc
      have free' : G s3.heap.objs.size = none := J6.free
      obtain ⟨c0, c1, c2, c3, c4, c5⟩ := I3.fpOk (Nat.le_refl _) free'
      refine ⟨mm, ns, fun h'' sb => ?_⟩
      refine ⟨.ref D, G, ?_, rfl, fin⟩
      exact J7.turned (t' := r'.toks) (fun b o hb e => (sb.2 b hb).trans e) c0 c1 c3 c4 c5
    · refine thnF (T.item (blkT X sc s3 H3 fp p) rfl rfl rfl hotT i [] r _ G _ (blk_tr J5) k5 t5 go) ?_
      rintro _ r1 ⟨u, rfl, w6⟩
      refine thnF w6 ?_
      rintro _ r2 ⟨x, G2, J7, rx, yx, t7, n7⟩
      have J8 := blk_rt okB J7
      have J9 := J8.pinned (blk_fp J8 n7 pf) (T.obj _ _ t7)
      refine thnF ((hg _ _ _ _ _).run _ r2 _ G2 x u _ J9 rx (step x G2 yx)) ?_
      rintro _ r3 ⟨σ3, G3, J10, wq, b3⟩
      refine wpAny_tests_nil ?_
      have b3' : te σ3 G3 fun y H4 => ∃ acc, H4 D = some (.lst acc) ∧ acc.length < sizeLine ∧ Nx (upd H4 D (.lst (acc ++ [y]))) := b3
      show wpAny _ _ _ _ _ _
      refine thnF ((he _ _ _ _ _).run _ r3 σ3 G3 _ J10 b3') ?_
      rintro z r4 ⟨y, G4, J11, ry, acc, aD, az, nx⟩
      refine app_ok (X := blkX X sc s3 H3 fp) J11 aD az ry ?_
      intro r5 J12
      obtain ⟨m', lt, w'⟩ := next _ nx
      have held : ∀ b ∈ fp, ∀ o, r2.heap.get? b = some o → r5.heap.get? b = some o ∧ upd G4 D (.lst (acc ++ [y])) b = none := by
        intro b hb o e
        have z := J12.pin (b, o) (List.mem_append_right _ (List.mem_append_right _ (mem_pinsAt hb e)))
        exact ⟨z.1, z.2.1⟩
      refine ⟨m', lt, i + 1, _, ?_, T.keep _ _ _ t7 fun b hb o e => (held b hb o e).1, ?_, w'⟩
      · refine (J12.unpinned (pins := [p])).weak (by rw [← wq, wipe_length]) ?_
        intro j v e
        rw [← wq] at e
        exact (wipe_some e).1
      · intro b hb
        obtain ⟨o, e, _⟩ := T.obj _ _ t7 b hb
        exact (held b hb o e).2
  exact codeAny_compStart_list all (T.self X.A 0 _ _ _ t4 all)
end
end FX

/-! Refusals over data. -/
namespace FX
open PySem L2 Evl FR
open PySem.Spec PyProof.Rows
/-- what a def gives: data, a list of its own, a refusal -/
inductive Out where
  | rt (d : Da) | ls (es : List Da) | ex (C : Addr)
def OutOk (K : PySem.W.Frag) (B H : Hp) (Q : VK) (E : XK) : Out → Prop
  | .rt d => ∀ v B' H', Gr B H B' H' → Rp K B' d v → Q v H'
  | .ls es => ∀ p xs B' H', Gr B H B' H' → H p = none → B' p = none → H' p = some (.lst xs) → RpAll K B' es xs → Q (.ref p) H'
  | .ex C => ∀ B' H', Gr B H B' H' → E (.ref C) none H'
def FnR (K : PySem.W.Frag) (P : List Da → Out → Prop) : Sp := fun vs H Q E => ∃ B ds o, Ex B H ∧ RpAll K B ds vs ∧ P ds o ∧ OutOk K B H Q E o
/-- an expression that refuses -/
def EvX (K : PySem.W.Frag) (W : WX) (te : TE) (env : En) (C : Addr) : Prop := ∀ σ B, SD K B σ env → ∀ H1, Ex B H1 → ∀ Q : VK, (∀ B' H2, Gr B H1 B' H2 → W (.ref C) none σ H2) → te σ H1 Q
def EvAX (K : PySem.W.Frag) (W : WX) (ta : TA) (env : En) (C : Addr) : Prop := ∀ σ B, SD K B σ env → ∀ H1, Ex B H1 → ∀ Q : List V → Hp → Prop, (∀ B' H2, Gr B H1 B' H2 → W (.ref C) none σ H2) → ta σ H1 Q
section
variable {K : PySem.W.Frag} {env : En} {te tb : TE} {ta tr : TA} {tt : TT} {ds es : List Da} {d : Da} {P : List Da → Out → Prop} {W : WX} {C : Addr} {E : XK}
theorem ev_callS (h : EvA K ta env ds) (hp : P ds (.rt d)) : EvE K (tCallS (FnR K P) (WE W) ta) env d := fun σ B s H1 e Q q =>
  h σ B s H1 e _ fun vs B2 H2 g r => ⟨B2, ds, .rt d, g.h, r, hp, fun v B' H' g' r' => q v B' H' (g.trans g') r'⟩
theorem en_callS (h : EvA K ta env ds) (hp : P ds (.ls es)) : EvN K (tCallS (FnR K P) (WE W) ta) env es := fun σ B s H1 e Q q =>
  h σ B s H1 e _ fun vs B2 H2 g r => ⟨B2, ds, .ls es, g.h, r, hp, fun p xs B' H' g' h1 h2 h3 r' => q p xs B' H' (g.trans g') (fresh_back g.k h1) h2 h3 r'⟩
theorem ev_callR (h : EvA K ta env ds) (hp : P ds (.rt d)) : EvE K (tCall (FnR K P) [] E ta) env d := fun σ B s H1 e Q q =>
  h σ B s H1 e _ fun vs B2 H2 g r => ⟨B2, ds, .rt d, g.h, by rw [List.append_nil]; exact r, hp, fun v B' H' g' r' => q v B' H' (g.trans g') r'⟩
theorem en_callR (h : EvA K ta env ds) (hp : P ds (.ls es)) : EvN K (tCall (FnR K P) [] E ta) env es := fun σ B s H1 e Q q =>
  h σ B s H1 e _ fun vs B2 H2 g r => ⟨B2, ds, .ls es, g.h, by rw [List.append_nil]; exact r, hp, fun p xs B' H' g' h1 h2 h3 r' => q p xs B' H' (g.trans g') (fresh_back g.k h1) h2 h3 r'⟩
/-- the promises of non-raising defs, asked where one may raise -/
theorem ev_callSP {P : List Da → Da → Prop} {E : L2.St → XK} (h : EvA K ta env ds) (hp : P ds d) : EvE K (tCallS (FnP K P) E ta) env d := fun σ B s H1 e Q q =>
  h σ B s H1 e _ fun vs B2 H2 g r => ⟨B2, ds, d, g.h, r, hp, fun v B' H' g' r' => q v B' H' (g.trans g') r'⟩
theorem ex_call (h : EvA K ta env ds) (hp : P ds (.ex C)) : EvX K W (tCallS (FnR K P) (WE W) ta) env C := fun σ B s H1 e Q q =>
  h σ B s H1 e _ fun vs B2 H2 g r => ⟨B2, ds, .ex C, g.h, r, hp, fun B' H' g' => q B' H' (g.trans g')⟩
theorem exa_hd (h : EvX K W te env C) : EvAX K W (tCons te tr) env C := fun σ B s H1 e Q q => h σ B s H1 e _ q
theorem exa_tl (h : EvE K te env d) (h2 : EvAX K W tr env C) : EvAX K W (tCons te tr) env C := fun σ B s H1 e Q q =>
  h σ B s H1 e _ fun v B2 H2 g r => h2 σ B2 (s.mono g.b) H2 g.h _ fun B' H' g' => q B' H' (g.trans g')
theorem ex_tup (h : EvAX K W ta env C) : EvX K W (tTup ta) env C := fun σ B s H1 e Q q => h σ B s H1 e _ q
theorem ex_if {b : Bool} (h : EvB K tt env b) (h1 : b = true → EvX K W te env C) (h2 : b = false → EvX K W tb env C) : EvX K W (tIf tt te tb) env C := fun σ B s H1 e Q q =>
  h σ B s H1 e _ fun H2 e2 => by
    cases b with
    | true =>
      show te σ H2 Q
      exact h1 rfl σ B s H2 (e.trans e2) Q fun B' H' g => q B' H' ((Gr.keep e e2).trans g)
    | false =>
      show tb σ H2 Q
      exact h2 rfl σ B s H2 (e.trans e2) Q fun B' H' g => q B' H' ((Gr.keep e e2).trans g)
/-- f(..), f one of several -/
theorem ev_callF {f : Addr} {S : Addr → Sp → Prop} {E : L2.St → XK} (hf : EvE K te env (.cls f)) (hS : S f (FnR K P)) (h : EvA K ta env ds) (hp : P ds (.rt d)) : EvE K (tCallF S E te ta) env d := fun σ B s H1 e Q q =>
  hf σ B s H1 e _ fun v B2 H2 g r => by
    simp only [Rp] at r
    subst r
    exact ⟨f, _, rfl, hS, h σ B2 (s.mono g.b) H2 g.h _ fun vs B3 H3 g3 r3 => ⟨B3, ds, .rt d, g3.h, r3, hp, fun v B' H' g' r' => q v B' H' ((g.trans g3).trans g') r'⟩⟩
theorem en_callFL {f : Addr} {S : Addr → Sp → Prop} {P : List Da → List Da → Prop} {E : L2.St → XK} (hf : EvE K te env (.cls f)) (hS : S f (FnL K P)) (h : EvA K ta env ds) (hp : P ds es) : EvN K (tCallF S E te ta) env es := fun σ B s H1 e Q q =>
  hf σ B s H1 e _ fun v B2 H2 g r => by
    simp only [Rp] at r
    subst r
    exact ⟨f, _, rfl, hS, h σ B2 (s.mono g.b) H2 g.h _ fun vs B3 H3 g3 r3 => ⟨B3, ds, es, g3.h, r3, hp, fun p xs B' H' g' h1 h2 h3 r' => q p xs B' H' ((g.trans g3).trans g') (fresh_back (g.k.trans g3.k) h1) h2 h3 r'⟩⟩
theorem ex_callF {f : Addr} {S : Addr → Sp → Prop} (hf : EvE K te env (.cls f)) (hS : S f (FnR K P)) (h : EvA K ta env ds) (hp : P ds (.ex C)) : EvX K W (tCallF S (WE W) te ta) env C := fun σ B s H1 e Q q =>
  hf σ B s H1 e _ fun v B2 H2 g r => by
    simp only [Rp] at r
    subst r
    exact ⟨f, _, rfl, hS, h σ B2 (s.mono g.b) H2 g.h _ fun vs B3 H3 g3 r3 => ⟨B3, ds, .ex C, g3.h, r3, hp, fun B' H' g' => q B' H' ((g.trans g3).trans g')⟩⟩
end
/-! ### statements -/
section
variable {K : PySem.W.Frag} {env : En} {E : Ed} {te : TE} {tb : TS} {C : Addr} {i : Nat} {g : TG}
theorem run_raise (q : E.rx env C) : Run K (tRaise E.xk C) env E := fun B0 H0 B H σ D Bs eb s k => k.rx σ B H env C s eb q
theorem run_dropX (h : EvX K E.xk te (frz env) C) (q : E.rx env C) : Run K (tDrop te) env E := fun B0 H0 B H σ D Bs eb s k =>
  h σ H s.frz H (Ex.refl _) _ fun B' H' g => k.rx σ B H' env C (s.grow g.k) eb q
theorem run_retX (h : EvX K E.xk te (frz env) C) (q : E.rx env C) : Run K (tRet te) env E := fun B0 H0 B H σ D Bs eb s k =>
  h σ H s.frz H (Ex.refl _) _ fun B' H' g => k.rx σ B H' env C (s.grow g.k) eb q
theorem run_asgX (h : EvX K E.xk te (frz env) C) (q : E.rx env C) : Run K (tAsg te g) env E := fun B0 H0 B H σ D Bs eb s k =>
  h σ H s.frz H (Ex.refl _) _ fun B' H' g => k.rx σ B H' env C (s.grow g.k) eb q
theorem run_appX {ds : List Da} (hx : env[i]? = some (.mu ds)) (h : EvX K E.xk te (frz env) C) (q : E.rx env C) : Run K (tDrop (tBM K "list" rAppend (tVar i) (tCons te tNil))) env E := fun B0 H0 B H σ D Bs eb s k => by
  obtain ⟨ad, a1, a2, a3⟩ := s.own
  obtain ⟨l, xs, h1, h2, h3, h4⟩ := a3 i _ hx
  exact ⟨_, h1, .inl ⟨rfl, xs, sq_of h3⟩, h σ H s.frz H (Ex.refl _) _ fun B' H' g => k.rx σ B H' env C (s.grow g.k) eb q⟩
/-- try: .. except x as n -/
def tTryAs (K : PySem.W.Frag) (c : Value) (i : Nat) (tb : WX → TS) (ts : Addr → Value → Option Addr → TS) (Wout : WX) : TS := fun D σ H => tb (wAs K c i ts Wout D) D σ H
theorem run_tryAs {c : Value} {tb : WX → TS} {ts : Addr → Value → Option Addr → TS} {Wout : WX}
    (hb : ∀ W, Run K (tb W) env { E with xk := W, rx := fun e C => PySem.W.exmOne K (.ref C) c = some true ∧ ∀ a, Run K (ts a (.ref C) none) (e.set i (.im (.cls a))) { nx := fun _ => False, rd := E.rd, rl := E.rl, ro := E.ro } }) :
    Run K (tTryAs K c i tb ts Wout) env E := fun B0 H0 B H σ D Bs eb s k =>
  hb _ B0 H0 B H σ D Bs eb s ⟨k.nx, k.bk, k.ct, k.rd, k.rl, k.ro, fun σ2 B2 H2 e2 C s2 eb2 ⟨q1, q2⟩ => ⟨true, q1, fun _ a _ =>
    q2 a B0 H0 B2 H2 (σ2.set i (some (.ref a))) _ Bs eb2 (s2.im (Gr.refl s2.eH) (by simp only [Rp])) ⟨fun _ _ _ _ _ _ z => z.elim, fun _ _ _ _ _ _ z => z.elim, fun _ _ _ _ _ _ z => z.elim, k.rd, k.rl, k.ro, fun _ _ _ _ _ _ _ z => z.elim⟩, fun z => nomatch z⟩⟩
/-- try: .. except x, the suite raises -/
def tTryOnly (K : PySem.W.Frag) (c : Value) (tb : WX → TS) (ts : Addr → Value → Option Addr → TS) (Wout : WX) : TS := fun D σ H => tb (wOnly K c ts Wout D) D σ H
theorem run_tryOnly {c : Value} {tb : WX → TS} {ts : Addr → Value → Option Addr → TS} {Wout : WX}
    (hb : ∀ W, Run K (tb W) env { E with xk := W, rx := fun e C => PySem.W.exmOne K (.ref C) c = some true ∧ ∀ a, Run K (ts a (.ref C) none) e E }) :
    Run K (tTryOnly K c tb ts Wout) env E := fun B0 H0 B H σ D Bs eb s k =>
  hb _ B0 H0 B H σ D Bs eb s ⟨k.nx, k.bk, k.ct, k.rd, k.rl, k.ro, fun σ2 B2 H2 e2 C s2 eb2 ⟨q1, q2⟩ => ⟨true, q1, fun _ a _ =>
    q2 a B0 H0 B2 H2 σ2 _ Bs eb2 s2 k, fun z => nomatch z⟩⟩
theorem run_suite {F : Addr → Prop} {inner : Addr → TS} {De : Addr} (hF : F De) (h : Run K (inner De) env E) : Run K (tSuite F inner (.ref De) none) env E := fun B0 H0 B H σ D Bs eb s k =>
  ⟨De, rfl, rfl, hF, h B0 H0 B H σ D Bs eb s k⟩
end
/-! ### what an error is -/
section
variable {K : PySem.W.Frag} {env : En} {ta tb : TE} {a De Cx : Addr} {b : Bool} {n : String}
theorem ev_isE (ha : EvE K ta env (.cls a)) (hb : EvE K tb env (.cls Cx)) (hk : PySem.W.kitOne K (.ref De) (.ref Cx) = some b) : EvE K (tCB (rIsE K De a) (tCons ta (tCons tb tNil))) env (.bl b) :=
  ev_cb (ea_cons ha (ea_cons hb ea_nil)) fun B H vs e r Q q => by
    obtain ⟨v, w, rfl, h1, h2⟩ := two_rp r
    simp only [Rp] at h1 h2
    subst h1 h2
    exact ⟨.ref Cx, .ref Cx, b, rfl, fun u r => r, hk, q _ B H (Gr.refl e) (by simp only [Rp])⟩
theorem ev_isET (ha : EvE K ta env (.cls a)) (hb : EvE K tb env (.ty n)) (hk : PySem.W.kitOne K (.ref De) (.type n) = some b) : EvE K (tCB (rIsE K De a) (tCons ta (tCons tb tNil))) env (.bl b) :=
  ev_cb (ea_cons ha (ea_cons hb ea_nil)) fun B H vs e r Q q => by
    obtain ⟨v, w, rfl, h1, h2⟩ := two_rp r
    simp only [Rp] at h1 h2
    subst h1 h2
    exact ⟨.ty n, .type n, b, rfl, fun u r => r, hk, q _ B H (Gr.refl e) (by simp only [Rp])⟩
theorem ev_emp : EvE K tDNewK env .emp := fun σ B s H1 e Q q p hp => by
  refine q (.ref p) (upd B p (.dK [])) _ (Gr.lay e hp) ?_
  simp only [Rp]
  exact ⟨p, rfl, upd_same⟩
end
theorem kit_x {K : PySem.W.Frag} {A D : Addr} {b : Bool} (h1 : PySem.W.isClsIn K D = true) (h2 : PySem.W.typeIn K (.ref D) = some (.type "type")) (h3 : PySem.W.subIn K (.ref A) (.ref D) = some b) (h4 : PySem.W.subIn K (.ref A) (.ref A) = some true) : PySem.W.kitOne K (.ref A) (.ref D) = some b := by
  unfold PySem.W.kitOne
  by_cases e : A = D
  · subst e
    rw [h3] at h4
    rw [if_pos (beq_self_eq_true _), h4]
  · have e1 : (Value.ref A == Value.ref D) = false := by simpa using e
    rw [e1, if_neg Bool.false_ne_true]
    have h1' : (PySem.W.clsIn K D).isSome = true := h1
    show (if ((PySem.W.clsIn K D).isSome && PySem.W.typeIn K (.ref D) == some (.type "type")) = true then PySem.W.subIn K (.ref A) (.ref D) else none) = some b
    rw [h1', h2, if_pos (by rw [Bool.true_and]; exact beq_self_eq_true _)]
    exact h3
theorem kit_v {K : PySem.W.Frag} {A : Addr} {b : Bool} (h : PySem.W.subIn K (.ref A) (.type "ValueError") = some b) : PySem.W.kitOne K (.ref A) (.type "ValueError") = some b := by
  unfold PySem.W.kitOne
  have e1 : (Value.ref A == Value.type "ValueError") = false := by simp
  rw [e1, if_neg Bool.false_ne_true]
  show (if PySem.W.kitMeta "ValueError" = true then PySem.W.subIn K (.ref A) (.type "ValueError") else none) = some b
  rw [if_pos (by decide +kernel)]
  exact h
/-- what an error of the class at De is -/
structure ExcF (K : PySem.W.Frag) (C : CS) (De : Addr) (bR bS bD bT : Bool) : Prop where
  is : ExcC K De
  ex : PySem.W.exmOne K (.ref De) (.ref C.FallError) = some true
  kR : PySem.W.kitOne K (.ref De) (.ref C.BadRow) = some bR
  kS : PySem.W.kitOne K (.ref De) (.ref C.BadStone) = some bS
  kD : PySem.W.kitOne K (.ref De) (.ref C.BadSide) = some bD
  kT : PySem.W.kitOne K (.ref De) (.ref C.BadText) = some bT
  kV : PySem.W.kitOne K (.ref De) (.type "ValueError") = some true
structure ExcFs (K : PySem.W.Frag) (C : CS) : Prop where
  r : ExcF K C C.BadRow true false false false
  s : ExcF K C C.BadStone false true false false
  d : ExcF K C C.BadSide false false true false
  t : ExcF K C C.BadText false false false true
/-- a def's address, by its place in the law's list -/
def fa (C : CS) (i : Nat) : Addr := C.fn.getD i 0
/-! ### a def's body -/
def retR (X : XK) (o : Out) : Ed := { nx := fun _ => o = .rt .non, rd := fun d => o = .rt d, rl := fun xs => o = .ls xs ∨ o = .rt (.lst xs), xk := WofE X, rx := fun _ C => o = .ex C }
section
variable {K : PySem.W.Frag}
theorem fnR_of {P : List Da → Out → Prop} {t : XK → TS} {N : List Str} (n : Nat) (hn : ∀ ds o, P ds o → N.length - ds.length = n) (h : ∀ X ds o, P ds o → Run K (t X) (ent ds n) (retR X o)) {vs : List V} {H : Hp} {Q : VK} {E : XK} (hp : FnR K P vs H Q E) :
    t E { nx := fun _ H' => Q .non H', rt := Q } (start N vs) H := by
  obtain ⟨B, ds, o, e, r, p, q⟩ := hp
  have s := sta_ent (n := n) e r
  have hl : N.length - vs.length = n := by rw [r.len]; exact hn ds o p
  rw [start_eq, hl]
  refine h E ds o p B H B H _ _ B (Ex.refl _) s ⟨fun σ B' H' env s' _ z => ?_, fun _ _ _ _ _ _ z => z.elim, fun _ _ _ _ _ _ z => z.elim, fun v B' H' d' g r' z => ?_, fun l xs B' H' es g h1 h2 h3 h4 z => ?_, fun _ _ _ _ _ _ _ _ _ _ _ _ _ _ z => z.elim, fun σ B' H' env C s' _ z => ?_⟩
  · have z' : o = .rt .non := z
    subst z'
    exact q .non B' H' s'.gr (by simp only [Rp])
  · have z' : o = .rt d' := z
    subst z'
    exact q v B' H' g r'
  · have z' : o = .ls es ∨ o = .rt (.lst es) := z
    rcases z' with z' | z'
    · subst z'
      exact q l xs B' H' g h1 h2 h3 h4
    · subst z'
      have eB : Ex B' (upd B' l (.lst xs)) := Ex.new h2
      refine q (.ref l) (upd B' l (.lst xs)) H' ⟨g.b.trans eB, fun a u ho => ?_, g.k, fun a ha => ?_⟩ ?_
      · by_cases ea : a = l
        · subst ea
          rw [upd_same] at ho
          rw [h3]
          exact ho
        · rw [upd_ne ea] at ho
          exact g.h a u ho
      · rw [upd_ne fun ea => ha (by rw [ea]; exact h1)]
        exact g.n a ha
      · simp only [Rp]
        exact ⟨l, xs, rfl, upd_same, RpAll.mono eB _ _ h4⟩
  · have z' : o = .ex C := z
    subst z'
    exact q B' H' s'.gr
theorem len_R {P : List Da → Out → Prop} {m : Nat} (hm : ∀ ds o, P ds o → ds.length = m) {vs : List V} {H : Hp} {Q : VK} {E : XK} (hp : FnR K P vs H Q E) : vs.length = m := by
  obtain ⟨B, ds, o, e, r, p, q⟩ := hp
  rw [r.len]
  exact hm ds o p
end
end FX

/-! The program's defs about rows, asked with whatever is handed in. -/
namespace FX
open PySem L2 Evl FR
open PySem.Spec PyProof.Rows
/-! ### kinds of things -/
def kn1 (d : Da) : Bool := (tyD d).isSome
def kn2 : Da → Bool
  | .tup es => es.all kn1
  | d => kn1 d
def kn3 : Da → Bool
  | .lst ds => decide (ds.length ≤ 1000) && ds.all kn2
  | .sq _ => false
  | d => kn2 d
def isNum : Da → Bool
  | .int _ => true
  | _ => false
def intOr : Da → Bool
  | .int _ => true
  | .bl _ => true
  | _ => false
def isBol : Da → Bool
  | .bl _ => true
  | _ => false
def isLst : Da → Bool
  | .lst _ => true
  | .sq _ => true
  | _ => false
def isTup : Da → Bool
  | .tup _ => true
  | _ => false
def isStrD : Da → Bool
  | .str _ => true
  | _ => false
section
variable {K : PySem.W.Frag} {env : En} {ta : TE} {d : Da}
theorem ev_isInt (ha : EvE K ta env d) (hk : kn1 d = true) : EvE K (tCB (rIsi K) (tCons ta (tCons (tC (.ty "int")) tNil))) env (.bl (intOr d)) := by
  cases d with
  | non => exact ev_isiB (n := "NoneType") (b := false) ha ev_ty rfl (by decide +kernel)
  | bl b => exact ev_isiB (n := "bool") (b := true) ha ev_ty rfl (by decide +kernel)
  | int i => exact ev_isiB (n := "int") (b := true) ha ev_ty rfl (by decide +kernel)
  | str x => exact ev_isiB (n := "str") (b := false) ha ev_ty rfl (by decide +kernel)
  | lst ds => exact ev_isiB (n := "list") (b := false) ha ev_ty rfl (by decide +kernel)
  | sq ds => exact ev_isiB (n := "list") (b := false) ha ev_ty rfl (by decide +kernel)
  | tup ds => exact ev_isiB (n := "tuple") (b := false) ha ev_ty rfl (by decide +kernel)
  | emp => exact ev_isiB (n := "dict") (b := false) ha ev_ty rfl (by decide +kernel)
  | ty n => cases hk
  | cls C => cases hk
  | obj C ns ds => cases hk
theorem ev_isBol (ha : EvE K ta env d) (hk : kn1 d = true) : EvE K (tCB (rIsi K) (tCons ta (tCons (tC (.ty "bool")) tNil))) env (.bl (isBol d)) := by
  cases d with
  | non => exact ev_isiB (n := "NoneType") (b := false) ha ev_ty rfl (by decide +kernel)
  | bl b => exact ev_isiB (n := "bool") (b := true) ha ev_ty rfl (by decide +kernel)
  | int i => exact ev_isiB (n := "int") (b := false) ha ev_ty rfl (by decide +kernel)
  | str x => exact ev_isiB (n := "str") (b := false) ha ev_ty rfl (by decide +kernel)
  | lst ds => exact ev_isiB (n := "list") (b := false) ha ev_ty rfl (by decide +kernel)
  | sq ds => exact ev_isiB (n := "list") (b := false) ha ev_ty rfl (by decide +kernel)
  | tup ds => exact ev_isiB (n := "tuple") (b := false) ha ev_ty rfl (by decide +kernel)
  | emp => exact ev_isiB (n := "dict") (b := false) ha ev_ty rfl (by decide +kernel)
  | ty n => cases hk
  | cls C => cases hk
  | obj C ns ds => cases hk
theorem ev_isLst (ha : EvE K ta env d) (hk : kn1 d = true) : EvE K (tCB (rIsi K) (tCons ta (tCons (tC (.ty "list")) tNil))) env (.bl (isLst d)) := by
  cases d with
  | non => exact ev_isiB (n := "NoneType") (b := false) ha ev_ty rfl (by decide +kernel)
  | bl b => exact ev_isiB (n := "bool") (b := false) ha ev_ty rfl (by decide +kernel)
  | int i => exact ev_isiB (n := "int") (b := false) ha ev_ty rfl (by decide +kernel)
  | str x => exact ev_isiB (n := "str") (b := false) ha ev_ty rfl (by decide +kernel)
  | lst ds => exact ev_isiB (n := "list") (b := true) ha ev_ty rfl (by decide +kernel)
  | sq ds => exact ev_isiB (n := "list") (b := true) ha ev_ty rfl (by decide +kernel)
  | tup ds => exact ev_isiB (n := "tuple") (b := false) ha ev_ty rfl (by decide +kernel)
  | emp => exact ev_isiB (n := "dict") (b := false) ha ev_ty rfl (by decide +kernel)
  | ty n => cases hk
  | cls C => cases hk
  | obj C ns ds => cases hk
theorem ev_isTup (ha : EvE K ta env d) (hk : kn1 d = true) : EvE K (tCB (rIsi K) (tCons ta (tCons (tC (.ty "tuple")) tNil))) env (.bl (isTup d)) := by
  cases d with
  | non => exact ev_isiB (n := "NoneType") (b := false) ha ev_ty rfl (by decide +kernel)
  | bl b => exact ev_isiB (n := "bool") (b := false) ha ev_ty rfl (by decide +kernel)
  | int i => exact ev_isiB (n := "int") (b := false) ha ev_ty rfl (by decide +kernel)
  | str x => exact ev_isiB (n := "str") (b := false) ha ev_ty rfl (by decide +kernel)
  | lst ds => exact ev_isiB (n := "list") (b := false) ha ev_ty rfl (by decide +kernel)
  | sq ds => exact ev_isiB (n := "list") (b := false) ha ev_ty rfl (by decide +kernel)
  | tup ds => exact ev_isiB (n := "tuple") (b := true) ha ev_ty rfl (by decide +kernel)
  | emp => exact ev_isiB (n := "dict") (b := false) ha ev_ty rfl (by decide +kernel)
  | ty n => cases hk
  | cls C => cases hk
  | obj C ns ds => cases hk
theorem ev_isStr (ha : EvE K ta env d) (hk : kn1 d = true) : EvE K (tCB (rIsi K) (tCons ta (tCons (tC (.ty "str")) tNil))) env (.bl (isStrD d)) := by
  cases d with
  | non => exact ev_isiB (n := "NoneType") (b := false) ha ev_ty rfl (by decide +kernel)
  | bl b => exact ev_isiB (n := "bool") (b := false) ha ev_ty rfl (by decide +kernel)
  | int i => exact ev_isiB (n := "int") (b := false) ha ev_ty rfl (by decide +kernel)
  | str x => exact ev_isiB (n := "str") (b := true) ha ev_ty rfl (by decide +kernel)
  | lst ds => exact ev_isiB (n := "list") (b := false) ha ev_ty rfl (by decide +kernel)
  | sq ds => exact ev_isiB (n := "list") (b := false) ha ev_ty rfl (by decide +kernel)
  | tup ds => exact ev_isiB (n := "tuple") (b := false) ha ev_ty rfl (by decide +kernel)
  | emp => exact ev_isiB (n := "dict") (b := false) ha ev_ty rfl (by decide +kernel)
  | ty n => cases hk
  | cls C => cases hk
  | obj C ns ds => cases hk
end
theorem kn1_of2 {d : Da} (h : kn2 d = true) : kn1 d = true := by
  cases d <;> first | exact h | rfl
theorem kn1_of3 {d : Da} (h : kn3 d = true) : kn1 d = true := by
  cases d <;> first | rfl | exact h
def isPair : Da → Bool
  | .tup [x, y] => isNum x && isNum y
  | _ => false
def hgtD : Da → Int
  | .tup [_, .int h] => h
  | _ => 0
def plcD : Da → Int
  | .tup [.int p, _] => p
  | _ => 0
def stoneB (d : Da) : Bool := isPair d && decide (0 < hgtD d)
def rowOf (ds : List Da) : List (Int × Int) := ds.map fun d => (plcD d, hgtD d)
def incB (row : List (Int × Int)) : Bool := (List.range ((row.length : Int) - 1).toNat).all fun k => decide (plc row (1 + (k : Nat) - 1) < plc row (1 + (k : Nat)))
def rowB : Da → Bool
  | .lst ds => ds.all stoneB && incB (rowOf ds)
  | _ => false
def ixB (row : List (Int × Int)) : Da → Bool
  | .int i => decide (0 ≤ i) && decide (i < row.length)
  | _ => false
def sideB : Da → Bool
  | .int s => decide (s = 1) || decide (s = -1)
  | _ => false
theorem num_is {d : Da} (h : isNum d = true) : ∃ p, d = .int p := by
  cases d with
  | int p => exact ⟨p, rfl⟩
  | _ => cases h
theorem pair_is {d : Da} (h : isPair d = true) : ∃ p q, d = .tup [.int p, .int q] := by
  unfold isPair at h
  split at h
  · rename_i x y
    rw [Bool.and_eq_true] at h
    obtain ⟨h1, h2⟩ := h
    obtain ⟨p, rfl⟩ := num_is h1
    obtain ⟨q, rfl⟩ := num_is h2
    exact ⟨p, q, rfl⟩
  · cases h
theorem row_of : ∀ {ds : List Da}, ds.all stoneB = true → ds = rowL (rowOf ds)
  | [], _ => rfl
  | d :: ds, h => by
    rw [List.all_cons, Bool.and_eq_true] at h
    unfold stoneB at h
    have h1 := h.1
    rw [Bool.and_eq_true] at h1
    obtain ⟨p, q, rfl⟩ := pair_is h1.1
    show _ :: ds = prD (p, q) :: rowL (rowOf ds)
    rw [← row_of h.2]
    rfl
theorem rowOf_row (row : List (Int × Int)) : rowOf (rowL row) = row := by
  unfold rowOf rowL
  rw [List.map_map]
  exact (List.map_congr_left (fun p _ => rfl)).trans (List.map_id _)
theorem stones_pos {ds : List Da} (h : ds.all stoneB = true) : ∀ p ∈ rowOf ds, 0 < p.2 := by
  intro p hp
  obtain ⟨d, hd, rfl⟩ := List.mem_map.mp hp
  have := List.all_eq_true.mp h d hd
  unfold stoneB at this
  rw [Bool.and_eq_true, decide_eq_true_eq] at this
  exact this.2
theorem inc_of {row : List (Int × Int)} (h : incB row = true) : ∀ j, j < row.length → ∀ i, i < j → plc row i < plc row j := by
  have st : ∀ k : Nat, k + 1 < row.length → plc row k < plc row ((k + 1 : Nat) : Int) := by
    intro k hk
    have z := List.all_eq_true.mp h k (List.mem_range.mpr (by omega))
    rw [decide_eq_true_eq] at z
    have e1 : (1 : Int) + (k : Nat) - 1 = ((k : Nat) : Int) := by omega
    have e2 : (1 : Int) + (k : Nat) = ((k + 1 : Nat) : Int) := by omega
    rw [e1, e2] at z
    exact z
  intro j
  induction j with
  | zero => intro _ i hi; omega
  | succ j ih =>
    intro hj i hi
    by_cases e : i = j
    · subst e
      exact st i hj
    · exact Int.lt_trans (ih (by omega) i (by omega)) (st j hj)
theorem okr_of {ds : List Da} (h : rowB (.lst ds) = true) (hl : ds.length ≤ 1000) : Okr (rowOf ds) := by
  unfold rowB at h
  rw [Bool.and_eq_true] at h
  refine ⟨fun i hi => ?_, fun i j hij hj => inc_of h.2 j hj i hij, by unfold rowOf; rw [List.length_map]; exact hl⟩
  have e : (rowOf ds)[i]? = some ((rowOf ds)[i]) := List.getElem?_eq_getElem hi
  have hp := stones_pos h.1 _ (List.getElem_mem hi)
  unfold hgt
  simp only [Int.toNat_natCast]
  rw [List.getD_eq_getElem?_getD, e]
  exact hp
theorem rowB_of {row : List (Int × Int)} (ok : Okr row) : rowB (rowD row) = true := by
  show ((rowL row).all stoneB && incB (rowOf (rowL row))) = true
  rw [rowOf_row, Bool.and_eq_true]
  constructor
  · rw [List.all_eq_true]
    intro d hd
    obtain ⟨p, hp, rfl⟩ := List.mem_map.mp hd
    obtain ⟨j, hj, rfl⟩ := plc_mem hp
    have := ok.pos j hj
    show (true && true && decide (0 < hgt row j)) = true
    simp [this]
  · unfold incB
    rw [List.all_eq_true]
    intro k hk
    have hk' := List.mem_range.mp hk
    have := ok.inc k (k + 1) (by omega) (by omega)
    rw [decide_eq_true_eq]
    have e1 : (1 : Int) + (k : Nat) - 1 = ((k : Nat) : Int) := by omega
    have e2 : (1 : Int) + (k : Nat) = ((k + 1 : Nat) : Int) := by omega
    rw [e1, e2]
    exact this
theorem kn3_row {row : List (Int × Int)} (hl : row.length ≤ 1000) : kn3 (rowD row) = true := by
  show (decide ((rowL row).length ≤ 1000) && (rowL row).all kn2) = true
  rw [Bool.and_eq_true, decide_eq_true_eq, List.length_map]
  refine ⟨hl, List.all_eq_true.mpr fun d hd => ?_⟩
  obtain ⟨p, hp, rfl⟩ := List.mem_map.mp hd
  rfl
/-- a row is what rowB says -/
theorem row_cases {d : Da} (hk : kn3 d = true) (h : rowB d = true) : ∃ row, d = rowD row ∧ Okr row := by
  cases d with
  | lst ds =>
    have hk' : (decide (ds.length ≤ 1000) && ds.all kn2) = true := hk
    rw [Bool.and_eq_true, decide_eq_true_eq] at hk'
    have h' : (ds.all stoneB && incB (rowOf ds)) = true := h
    rw [Bool.and_eq_true] at h'
    exact ⟨rowOf ds, congrArg Da.lst (row_of h'.1), okr_of h hk'.1⟩
  | _ => cases h

/-! ### promises -/
def P_is_number (ds : List Da) (o : Da) : Prop := ∃ d, ds = [d] ∧ kn1 d = true ∧ o = .bl (isNum d)
def P_is_pair (ds : List Da) (o : Da) : Prop := ∃ d, ds = [d] ∧ kn2 d = true ∧ o = .bl (isPair d)
def P_check_row (C : CS) (ds : List Da) (o : Out) : Prop := ∃ d, ds = [d] ∧ kn3 d = true ∧ o = if rowB d = true then .rt .non else .ex C.BadRow
def P_check_stone (C : CS) (ds : List Da) (o : Out) : Prop := ∃ row x, ds = [rowD row, x] ∧ kn1 x = true ∧ o = if ixB row x = true then .rt .non else .ex C.BadStone
def P_check_side (C : CS) (ds : List Da) (o : Out) : Prop := ∃ x, ds = [x] ∧ kn1 x = true ∧ o = if sideB x = true then .rt .non else .ex C.BadSide
def oRow (C : CS) (d : Da) (good : List (Int × Int) → Out → Prop) (o : Out) : Prop := (rowB d = false ∧ o = .ex C.BadRow) ∨ ∃ row, d = rowD row ∧ Okr row ∧ good row o
def oStone (C : CS) (row : List (Int × Int)) (x : Da) (good : Nat → Out → Prop) (o : Out) : Prop := (ixB row x = false ∧ o = .ex C.BadStone) ∨ ∃ i : Nat, x = .int i ∧ i < row.length ∧ good i o
def oSide (C : CS) (x : Da) (good : Int → Out → Prop) (o : Out) : Prop := (sideB x = false ∧ o = .ex C.BadSide) ∨ ∃ s, x = .int s ∧ Sd s ∧ good s o
def isPr : Da → Bool
  | .tup [_, _] => true
  | _ => false
def oPush (C : CS) (p : Da) (good : Da → Da → Out → Prop) (o : Out) : Prop := (isPr p = false ∧ o = .ex C.BadStone) ∨ ∃ a b, p = .tup [a, b] ∧ kn1 a = true ∧ kn1 b = true ∧ good a b o
def P_mirrored (C : CS) (ds : List Da) (o : Out) : Prop := ∃ r, ds = [r] ∧ kn3 r = true ∧ oRow C r (fun row o => o = .ls (rowL (mir row))) o
def P_felled (C : CS) (ds : List Da) (o : Out) : Prop := ∃ r x s, ds = [r, x, s] ∧ (kn3 r = true ∧ kn1 x = true ∧ kn1 s = true) ∧ oRow C r (fun row => oStone C row x fun i => oSide C s fun sd o => o = .ls (intL (fellL row i sd))) o
def P_reached (C : CS) (ds : List Da) (o : Out) : Prop := ∃ r p x, ds = [r, p, x] ∧ (kn3 r = true ∧ kn2 p = true ∧ kn1 x = true) ∧ oRow C r (fun row => oPush C p fun a b => oStone C row a fun _ => oSide C b fun _ => oStone C row x fun _ _ => False) o
def P_higher (C : CS) (ds : List Da) (o : Out) : Prop := ∃ r x, ds = [r, x] ∧ (kn3 r = true ∧ kn1 x = true) ∧ oRow C r (fun row => oStone C row x fun _ _ => False) o
def P_rowOnly (C : CS) (ds : List Da) (o : Out) : Prop := ∃ r, ds = [r] ∧ kn3 r = true ∧ oRow C r (fun _ _ => False) o
abbrev P_fewest := P_rowOnly
abbrev P_rights := P_rowOnly
abbrev P_last_felled := FR.P_last_felled
abbrev P_felled_by := FR.P_felled_by
abbrev sp_is_number (K : PySem.W.Frag) (C : CS) : Sp := FnP K P_is_number
abbrev sp_is_pair (K : PySem.W.Frag) (C : CS) : Sp := FnP K P_is_pair
abbrev sp_check_row (K : PySem.W.Frag) (C : CS) : Sp := FnR K (P_check_row C)
abbrev sp_check_stone (K : PySem.W.Frag) (C : CS) : Sp := FnR K (P_check_stone C)
abbrev sp_check_side (K : PySem.W.Frag) (C : CS) : Sp := FnR K (P_check_side C)
abbrev sp_last_felled (K : PySem.W.Frag) (C : CS) : Sp := FnP K P_last_felled
abbrev sp_felled_by (K : PySem.W.Frag) (C : CS) : Sp := FnL K P_felled_by
abbrev sp_mirrored (K : PySem.W.Frag) (C : CS) : Sp := FnR K (P_mirrored C)
abbrev sp_felled (K : PySem.W.Frag) (C : CS) : Sp := FnR K (P_felled C)
abbrev sp_reached (K : PySem.W.Frag) (C : CS) : Sp := FnR K (P_reached C)
abbrev sp_higher (K : PySem.W.Frag) (C : CS) : Sp := FnR K (P_higher C)
abbrev sp_fewest (K : PySem.W.Frag) (C : CS) : Sp := FnR K (P_fewest C)
abbrev sp_rights (K : PySem.W.Frag) (C : CS) : Sp := FnR K (P_rights C)
def t_is_number (K : PySem.W.Frag) (C : CS) : TS :=
  (tRet (tAndV (tCB (rIsi K) (tCons (tVar 0) (tCons (tC (.ty "int")) tNil))) (tNotV (tCB (rIsi K) (tCons (tVar 0) (tCons (tC (.ty "bool")) tNil))))))
def t_is_pair (K : PySem.W.Frag) (C : CS) : TS :=
  (tRet (tAndV (tCB (rIsi K) (tCons (tVar 0) (tCons (tC (.ty "tuple")) tNil))) (tAndV (tOp rEq (tCB (rLenS K) (tCons (tVar 0) tNil)) (tC (.int 2))) (tAndV (tCall (sp_is_number K C) [] E0 (tCons (tOp (rIxT K) (tVar 0) (tC (.int 0))) tNil)) (tCall (sp_is_number K C) [] E0 (tCons (tOp (rIxT K) (tVar 0) (tC (.int 1))) tNil))))))
def t_check_row (K : PySem.W.Frag) (C : CS) (X : XK) : TS :=
  (tSeq (tIfS (tOr (tNot (tB (tCB (rIsi K) (tCons (tVar 0) (tCons (tC (.ty "list")) tNil))))) (tNot (tB (tCB (rAll K) (tCons (tLc (iList K (tVar 0)) (gName 1) tYes (tAndV (tCall (sp_is_pair K C) [] E0 (tCons (tVar 1) tNil)) (tOp rGtI (tOp (rIxT K) (tVar 1) (tC (.int 1))) (tC (.int 0)))) [1]) tNil))))) (tRaise (WofE X) C.BadRow) tNext) (tIfS (tNot (tB (tCB (rAll K) (tCons (tLc (iRng2 (tCons (tC (.int 1)) (tCons (tCB (rLenS K) (tCons (tVar 0) tNil)) tNil))) (gName 2) tYes (tOp rLtI (tOp (rIxT K) (tOp (rIxL K) (tVar 0) (tOp rSubI (tVar 2) (tC (.int 1)))) (tC (.int 0))) (tOp (rIxT K) (tOp (rIxL K) (tVar 0) (tVar 2)) (tC (.int 0)))) [2]) tNil)))) (tRaise (WofE X) C.BadRow) tNext))

/-! ### what they compute -/
section
variable {K : PySem.W.Frag} {C : CS}
theorem run_is_number {ds : List Da} {d : Da} (h : P_is_number ds d) : Run K (t_is_number K C) (ent ds 0) (retD d) := by
  obtain ⟨x, rfl, hk, rfl⟩ := h
  refine run_ret (d := .bl (intOr x && !isBol x)) (ev_andV (a := intOr x) (b := !isBol x) (ev_isInt (ev_var rfl) hk) fun _ => ev_notV (ev_isBol (ev_var rfl) hk)) ?_
  show Da.bl _ = Da.bl _
  cases x <;> rfl
theorem run_is_pair {ds : List Da} {d : Da} (h : P_is_pair ds d) : Run K (t_is_pair K C) (ent ds 0) (retD d) := by
  obtain ⟨x, rfl, hk, rfl⟩ := h
  have no : isTup x = false → Run K (t_is_pair K C) (ent [x] 0) (retD (.bl (isPair x))) := fun hx => by
    refine run_ret (d := .bl (isTup x && true)) (ev_andV (ev_isTup (ev_var rfl) (kn1_of2 hk)) fun z => by rw [hx] at z; cases z) ?_
    show Da.bl _ = Da.bl _
    rw [hx]
    cases x <;> first | rfl | cases hx
  cases x with
  | tup es =>
    have hk' : es.all kn1 = true := hk
    by_cases hl : es.length = 2
    · match es, hl with
      | [x, y], _ =>
        have hx : kn1 x = true := List.all_eq_true.mp hk' x (by simp)
        have hy : kn1 y = true := List.all_eq_true.mp hk' y (by simp)
        refine run_ret (d := .bl (true && (decide ((2 : Int) = 2) && (isNum x && isNum y)))) (ev_andV ?_ fun _ => ev_andV ?_ fun _ => ev_andV ?_ fun _ => ?_) ?_
        · exact ev_isTup (d := .tup [x, y]) (ev_var rfl) rfl
        · exact ev_eqI (ev_lenT (ds := [x, y]) (ev_var rfl)) ev_int
        · exact ev_call (ds := [x]) (ea_cons (ev_ixT (ds := [x, y]) (ev_var rfl) ev_int rfl) ea_nil) ⟨x, rfl, hx, rfl⟩
        · exact ev_call (ds := [y]) (ea_cons (ev_ixT (ds := [x, y]) (ev_var rfl) ev_int rfl) ea_nil) ⟨y, rfl, hy, rfl⟩
        · show Da.bl _ = Da.bl _
          simp [isPair]
    · refine run_ret (d := .bl (true && (decide ((es.length : Int) = 2) && true))) (ev_andV ?_ fun _ => ev_andV ?_ fun z => ?_) ?_
      · exact ev_isTup (d := .tup es) (ev_var rfl) rfl
      · exact ev_eqI (ev_lenT (ds := es) (ev_var rfl)) ev_int
      · rw [decide_eq_true_eq] at z
        omega
      · show Da.bl _ = Da.bl _
        have e1 : decide ((es.length : Int) = 2) = false := by
          rw [decide_eq_false_iff_not]
          omega
        rw [e1]
        have e2 : isPair (.tup es) = false := by
          unfold isPair
          split
          · rename_i heq
            cases heq
            simp at hl
          · rfl
        rw [e2]
        rfl
  | _ => exact no rfl
theorem all_stones {ds : List Da} (hk : ds.all kn2 = true) (hl : ds.length ≤ 1000) {env : En} {i : Nat} {te : TE} (ht : EvE K te env (.lst ds)) (hi : ∀ d, (wipeE env [i]).set i (.im d) = (wipeE env [i]).set i (.im d))
    (hv : ∀ d, ((wipeE env [i]).set i (.im d))[i]? = some (.im d)) :
    EvE K (tCB (L2.rAll K) (tCons (tLc (iList K te) (gName i) tYes (tAndV (tCall (sp_is_pair K C) [] E0 (tCons (tVar i) tNil)) (tOp rGtI (tOp (rIxT K) (tVar i) (tC (.int 1))) (tC (.int 0)))) [i]) tNil)) env (.bl (ds.all stoneB)) := by
  refine (ev_all (bs := (ds.filter fun _ => true).map stoneB) (ev_new ?_)).is (by rw [List.filter_eq_self.mpr fun _ _ => rfl, List.all_map]; rfl)
  refine (en_lc (us := [i]) (fun d : Da => d) (fun _ => true) (fun d => Da.bl (stoneB d)) ds (by rw [List.map_id']; exact wk_list ht) (by simp) (by omega) fun d hd => ⟨_, tc_name, eb_yes, fun _ => ?_⟩).is (by rw [List.map_map]; rfl)
  have hkd := List.all_eq_true.mp hk d hd
  refine (ev_andV (a := isPair d) (b := decide (0 < hgtD d)) ?_ fun z => ?_)
  · exact ev_call (ds := [d]) (ea_cons (ev_var (hv d)) ea_nil) ⟨d, rfl, hkd, rfl⟩
  · obtain ⟨p, q, rfl⟩ := pair_is z
    exact ev_gt (ev_ixT (ds := [.int p, .int q]) (ev_var (hv _)) ev_int rfl) ev_int
theorem run_check_row {X : XK} {ds : List Da} {o : Out} (h : P_check_row C ds o) : Run K (t_check_row K C X) (ent ds 2) (retR X o) := by
  obtain ⟨d, rfl, hk, rfl⟩ := h
  have bad : isLst d = false → Run K (t_check_row K C X) (ent [d] 2) (retR X (if rowB d = true then .rt .non else .ex C.BadRow)) := fun hx => by
    have hr : rowB d = false := by cases d <;> first | rfl | cases hx
    rw [if_neg (by rw [hr]; simp)]
    refine run_seq (run_if (b := !isLst d || true) (eb_or (eb_not (eb_B (ev_isLst (ev_var rfl) (kn1_of3 hk)))) fun z => by rw [hx] at z; cases z) (fun _ => run_raise rfl) fun z => by rw [hx] at z; cases z)
  cases d with
  | lst es =>
    have hk' : (decide (es.length ≤ 1000) && es.all kn2) = true := hk
    rw [Bool.and_eq_true, decide_eq_true_eq] at hk'
    refine run_seq (run_if (b := !true || !(es.all stoneB)) (eb_or (eb_not (eb_B (ev_isLst (d := .lst es) (ev_var rfl) rfl))) fun _ => eb_not (eb_B (all_stones hk'.2 hk'.1 (ev_var rfl) (fun _ => rfl) fun _ => rfl))) (fun z => run_raise ?_) fun z => run_next ?_)
    · have hr : rowB (.lst es) = false := by
        show (es.all stoneB && _) = false
        have : es.all stoneB = false := by simpa using z
        rw [this]
        rfl
      show (if rowB (.lst es) = true then Out.rt .non else .ex C.BadRow) = _
      rw [hr]
      rfl
    · have hs : es.all stoneB = true := by simpa using z
      have er := row_of hs
      obtain ⟨row, hrow⟩ : ∃ row, row = rowOf es := ⟨_, rfl⟩
      rw [← hrow] at er
      have hl : row.length ≤ 1000 := by
        rw [hrow]
        unfold rowOf
        rw [List.length_map]
        exact hk'.1
      have e2 : rowB (.lst es) = incB row := by
        show (es.all stoneB && incB (rowOf es)) = _
        rw [hs, ← hrow]
        rfl
      rw [e2, er]
      refine run_if (b := !(incB row)) (eb_not (eb_B ?_)) (fun z => run_raise ?_) fun z => run_next ?_
      · refine (ev_all (bs := ((List.range ((row.length : Int) - 1).toNat).filter fun _ => true).map fun k => decide (plc row (1 + (k : Nat) - 1) < plc row (1 + (k : Nat)))) ?_).is ?_
        · refine ev_new ?_
          refine (en_lc (us := [2]) (fun k : Nat => Da.int (1 + (k : Nat))) (fun _ => true) (fun k => Da.bl (decide (plc row (1 + (k : Nat) - 1) < plc row (1 + (k : Nat))))) (List.range ((row.length : Int) - 1).toNat) ?_ (by simp) (by rw [List.length_range]; omega) fun k hk => ⟨_, tc_name, eb_yes, fun _ => ?_⟩).is (by rw [List.map_map]; rfl)
          · refine wk_rng2 ev_int (ev_lenR (ev_var rfl)) ?_
            omega
          · have hk' := List.mem_range.mp hk
            refine ev_lt (ev_row0 (ev_var rfl) (ev_sub (ev_var rfl) ev_int) (by omega) (by omega)) (ev_row0 (ev_var rfl) (ev_var rfl) (by omega) (by omega))
        · rw [List.filter_eq_self.mpr fun _ _ => rfl, List.all_map]
          rfl
      · show (if incB row = true then Out.rt .non else .ex C.BadRow) = _
        have : incB row = false := by simpa using z
        rw [this]
        rfl
      · show (if incB row = true then Out.rt .non else .ex C.BadRow) = _
        have : incB row = true := by simpa using z
        rw [this]
        rfl
  | sq es => cases hk
  | _ => exact bad rfl
end
end FX

/-! law_k08: the doors, what is refused at each. -/
namespace FX
open PySem L2 Evl FR
open PySem.Spec PyProof.Rows
abbrev P_written := P_rowOnly
abbrev sp_written (K : PySem.W.Frag) (C : CS) : Sp := FnR K (P_written C)
def S_ask (K : PySem.W.Frag) (C : CS) (f : Addr) (sp : Sp) : Prop := (f = fa C 0 ∧ sp = sp_mirrored K C) ∨ (f = fa C 1 ∧ sp = sp_fewest K C) ∨ (f = fa C 2 ∧ sp = sp_rights K C) ∨ (f = fa C 3 ∧ sp = sp_written K C)
def goodRow : List (Int × Int) := [(0, 1), (3, 2), (4, 1)]
/-- what a door says of a thing -/
def askP (C : CS) (door : Int) (x : Da) (o : Out) : Prop :=
  ((0 ≤ door ∧ door < 4) ∧ kn3 x = true ∧ rowB x = false ∧ o = .ex C.BadRow) ∨
  (door = 4 ∧ P_felled C [x, .int (-1), .int 0] o) ∨ (door = 5 ∧ P_reached C [x, .non, .int (-1)] o) ∨ (door = 6 ∧ P_higher C [x, .int (-1)] o) ∨
  (door = 7 ∧ P_felled C [rowD goodRow, x, .int 0] o) ∨ (door = 8 ∧ P_higher C [rowD goodRow, x] o) ∨ (door = 9 ∧ P_reached C [rowD goodRow, .tup [.int 1, .int 1], x] o) ∨
  (door = 10 ∧ P_reached C [rowD goodRow, .tup [x, .int 0], .int (-1)] o) ∨ (door = 11 ∧ P_reached C [rowD goodRow, .tup [x, .int 1], .int (-1)] o) ∨ (door = 12 ∧ P_reached C [rowD goodRow, x, .int (-1)] o) ∨
  (door = 13 ∧ P_felled C [rowD goodRow, .int 1, x] o) ∨ (door = 14 ∧ P_reached C [rowD goodRow, .tup [.int 1, x], .int (-1)] o)
def P_law_ask (C : CS) (ds : List Da) (o : Out) : Prop := ∃ (door : Int) (x : Da) (Cx : Addr), ds = [.int door, x] ∧ o = .ex Cx ∧ askP C door x (.ex Cx)
/-- the class that is due -/
def clsOf (C : CS) (due : Int) : Addr := if due = 0 then C.BadRow else if due = 1 then C.BadStone else C.BadSide
def P_law_due (C : CS) (ds : List Da) (d : Da) : Prop := ∃ (door : Int) (x : Da) (due : Int), ds = [.int door, x, .int due] ∧ (0 ≤ due ∧ due ≤ 2) ∧ askP C door x (.ex (clsOf C due)) ∧ d = .bl true
abbrev sp_law_ask (K : PySem.W.Frag) (C : CS) : Sp := FnR K (P_law_ask C)
abbrev sp_law_due (K : PySem.W.Frag) (C : CS) : Sp := FnP K (P_law_due C)
def prI (a b : Int) : Da := .tup [.int a, .int b]
def rowsA (c : Int) : List Da := [.non, .tup [], .tup [prI 0 1], .str "0:1", .emp, .int 5, .lst [.int 5], .lst [.non], .lst [.tup [.int 0]], .lst [.tup [.int 0, .int 1, .int 2]], .lst [.lst [.int 0, .int 1]], .lst [prI 0 0], .lst [prI 0 (-1 - c)]]
def rowsB (c : Int) : List Da := [.lst [.tup [.bl true, .int 1]], .lst [.tup [.int 0, .bl true]], .lst [.tup [.str "0", .int 1]], .lst [.tup [.int 0, .non]], .lst [prI 0 1, prI 0 1], .lst [prI 1 1, prI 0 1], .lst [prI c 0]]
def rowsC (c : Int) : List Da := [.lst [prI 0 1, prI 1 1, prI 1 2], .lst [prI c 1, prI (c - 1) 1], .lst [prI 0 1, prI 5 1, prI 7 0], .lst [prI 0 1, .int 7]]
def rowsL (c : Int) : List Da := (rowsA c ++ rowsB c) ++ rowsC c
def stonesL (c : Int) : List Da := [.non, .int (-1), .int (-1 - c), .int 3, .int (3 + c), .bl true, .str "1", .lst [.int 1], .tup [.int 0], .emp]
def sidesL (c : Int) : List Da := [.non, .int 0, .int 2, .int (2 + c), .int (-2 - c), .bl true, .str "1", .lst [.int 1], .emp]
def pushesL (c : Int) : List Da := [.non, .int 1, .tup [.int 1], .tup [.int 1, .int 1, .int 1], .lst [.int 1, .int 1], .str "11", .tup [.int 3, .int 1], .tup [.int (-1 - c), .int 1], .tup [.non, .int 0], .emp]
def P_law_rows (ds es : List Da) : Prop := ∃ c : Int, ds = [.int c] ∧ es = rowsL c
def P_law_stones (ds es : List Da) : Prop := ∃ c : Int, ds = [.int c] ∧ es = stonesL c
def P_law_sides (ds es : List Da) : Prop := ∃ c : Int, ds = [.int c] ∧ es = sidesL c
def P_law_pushes (ds es : List Da) : Prop := ∃ c : Int, ds = [.int c] ∧ es = pushesL c
abbrev sp_law_rows (K : PySem.W.Frag) (C : CS) : Sp := FnL K P_law_rows
abbrev sp_law_stones (K : PySem.W.Frag) (C : CS) : Sp := FnL K P_law_stones
abbrev sp_law_sides (K : PySem.W.Frag) (C : CS) : Sp := FnL K P_law_sides
abbrev sp_law_pushes (K : PySem.W.Frag) (C : CS) : Sp := FnL K P_law_pushes
def S_things (K : PySem.W.Frag) (C : CS) (f : Addr) (sp : Sp) : Prop := (f = fa C 4 ∧ sp = sp_law_rows K C) ∨ (f = fa C 5 ∧ sp = sp_law_stones K C) ∨ (f = fa C 6 ∧ sp = sp_law_sides K C) ∨ (f = fa C 7 ∧ sp = sp_law_pushes K C)
def P_law (ds : List Da) (d : Da) : Prop := ∃ ns : List Int, ds = [.sq (intL ns)] ∧ ns.length ≤ 63 ∧ d = .bl true
abbrev sp_law (K : PySem.W.Frag) (C : CS) : Sp := FnP K P_law
def t_check_stone (K : PySem.W.Frag) (C : CS) (X : XK) : TS :=
  (tIfS (tOr (tNot (tB (tCall (sp_is_number K C) [] E0 (tCons (tVar 1) tNil)))) (tNot (tTest (tChain rLeI rLtI (tC (.int 0)) (tVar 1) (tCB (rLenS K) (tCons (tVar 0) tNil)))))) (tRaise (WofE X) C.BadStone) tNext)
def t_check_side (K : PySem.W.Frag) (C : CS) (X : XK) : TS :=
  (tIfS (tOr (tNot (tB (tCall (sp_is_number K C) [] E0 (tCons (tVar 0) tNil)))) (tTest (tOp (rIn K true) (tVar 0) (tTup (tCons (tC (.int 1)) (tCons (tUn (rU fun i => .int (-i)) (tC (.int 1))) tNil)))))) (tRaise (WofE X) C.BadSide) tNext)
def t_last_felled (K : PySem.W.Frag) (C : CS) : TS :=
  (tSeq (tAsg (tOp rAddI (tOp rMulI (tVar 2) (tOp (rIxT K) (tOp (rIxL K) (tVar 0) (tVar 1)) (tC (.int 0)))) (tOp (rIxT K) (tOp (rIxL K) (tVar 0) (tVar 1)) (tC (.int 1)))) (gName 3)) (tSeq (tAsg (tVar 1) (gName 4)) (tSeq (tWhile (tAnd (tTest (tChain rLeI rLtI (tC (.int 0)) (tOp rAddI (tVar 4) (tVar 2)) (tCB (rLenS K) (tCons (tVar 0) tNil)))) (tTest (tOp rLeI (tOp rMulI (tVar 2) (tOp (rIxT K) (tOp (rIxL K) (tVar 0) (tOp rAddI (tVar 4) (tVar 2))) (tC (.int 0)))) (tVar 3)))) (tSeq (tAug 4 (tVar 2) (ipI fun i j => i + j)) (tAsg (tCB rMax2 (tCons (tVar 3) (tCons (tOp rAddI (tOp rMulI (tVar 2) (tOp (rIxT K) (tOp (rIxL K) (tVar 0) (tVar 4)) (tC (.int 0)))) (tOp (rIxT K) (tOp (rIxL K) (tVar 0) (tVar 4)) (tC (.int 1)))) tNil))) (gName 3)))) (tRet (tTup (tCons (tVar 4) (tCons (tVar 3) tNil)))))))
def t_felled_by (K : PySem.W.Frag) (C : CS) : TS :=
  (tSeq (tAsg (tOp (rIxT K) (tCall (sp_last_felled K C) [] E0 (tCons (tVar 0) (tCons (tVar 1) (tCons (tVar 2) tNil)))) (tC (.int 0))) (gName 3)) (tRet (tLstRg (tRg2 (tCB rMin2 (tCons (tVar 1) (tCons (tVar 3) tNil))) (tOp rAddI (tCB rMax2 (tCons (tVar 1) (tCons (tVar 3) tNil))) (tC (.int 1)))))))
def t_mirrored (K : PySem.W.Frag) (C : CS) (X : XK) : TS :=
  (tSeq (tDrop (tCallS (sp_check_row K C) (WE (WofE X)) (tCons (tVar 0) tNil))) (tRet (tLc (iRev K (tCons (tVar 0) tNil)) (gTup K 2 (gCons (gName 1) (gCons (gName 2) gNil))) tYes (tTup (tCons (tUn (rU fun i => .int (-i)) (tVar 1)) (tCons (tVar 2) tNil))) [1, 2])))
def t_felled (K : PySem.W.Frag) (C : CS) (X : XK) : TS :=
  (tSeq (tDrop (tCallS (sp_check_row K C) (WE (WofE X)) (tCons (tVar 0) tNil))) (tSeq (tDrop (tCallS (sp_check_stone K C) (WE (WofE X)) (tCons (tVar 0) (tCons (tVar 1) tNil)))) (tSeq (tDrop (tCallS (sp_check_side K C) (WE (WofE X)) (tCons (tVar 2) tNil))) (tRet (tCall (sp_felled_by K C) [] E0 (tCons (tVar 0) (tCons (tVar 1) (tCons (tVar 2) tNil))))))))
def t_reached (K : PySem.W.Frag) (C : CS) (X : XK) : TS :=
  (tSeq (tDrop (tCallS (sp_check_row K C) (WE (WofE X)) (tCons (tVar 0) tNil))) (tSeq (tIfS (tOr (tNot (tB (tCB (rIsi K) (tCons (tVar 1) (tCons (tC (.ty "tuple")) tNil))))) (tTest (tOp rNe (tCB (rLenS K) (tCons (tVar 1) tNil)) (tC (.int 2))))) (tRaise (WofE X) C.BadStone) tNext) (tSeq (tDrop (tCallS (sp_check_stone K C) (WE (WofE X)) (tCons (tVar 0) (tCons (tOp (rIxT K) (tVar 1) (tC (.int 0))) tNil)))) (tSeq (tDrop (tCallS (sp_check_side K C) (WE (WofE X)) (tCons (tOp (rIxT K) (tVar 1) (tC (.int 1))) tNil))) (tSeq (tDrop (tCallS (sp_check_stone K C) (WE (WofE X)) (tCons (tVar 0) (tCons (tVar 2) tNil)))) tNever)))))
def t_fewest (K : PySem.W.Frag) (C : CS) (X : XK) : TS :=
  (tSeq (tDrop (tCallS (sp_check_row K C) (WE (WofE X)) (tCons (tVar 0) tNil))) tNever)
def t_rights (K : PySem.W.Frag) (C : CS) (X : XK) : TS :=
  (tSeq (tDrop (tCallS (sp_check_row K C) (WE (WofE X)) (tCons (tVar 0) tNil))) tNever)
def t_higher (K : PySem.W.Frag) (C : CS) (X : XK) : TS :=
  (tSeq (tDrop (tCallS (sp_check_row K C) (WE (WofE X)) (tCons (tVar 0) tNil))) (tSeq (tDrop (tCallS (sp_check_stone K C) (WE (WofE X)) (tCons (tVar 0) (tCons (tVar 1) tNil)))) tNever))
def t_written (K : PySem.W.Frag) (C : CS) (X : XK) : TS :=
  (tSeq (tDrop (tCallS (sp_check_row K C) (WE (WofE X)) (tCons (tVar 0) tNil))) tNever)
def t_law_ask (K : PySem.W.Frag) (C : CS) (X : XK) : TS :=
  (tSeq (tAsg (tLst (tCons (tTup (tCons (tC (.int 0)) (tCons (tC (.int 1)) tNil))) (tCons (tTup (tCons (tC (.int 3)) (tCons (tC (.int 2)) tNil))) (tCons (tTup (tCons (tC (.int 4)) (tCons (tC (.int 1)) tNil))) tNil)))) (gName 2)) (tSeq (tIfS (tTest (tOp rLtI (tVar 0) (tC (.int 4)))) (tRet (tCallF (S_ask K C) (WE (WofE X)) (tOp (rIxL K) (tLst (tCons (tC (.ref (fa C 0))) (tCons (tC (.ref (fa C 1))) (tCons (tC (.ref (fa C 2))) (tCons (tC (.ref (fa C 3))) tNil))))) (tVar 0)) (tCons (tVar 1) tNil))) tNext) (tSeq (tIfS (tTest (tOp rLtI (tVar 0) (tC (.int 7)))) (tRet (tIf (tTest (tOp rEq (tVar 0) (tC (.int 4)))) (tCallS (sp_felled K C) (WE (WofE X)) (tCons (tVar 1) (tCons (tUn (rU fun i => .int (-i)) (tC (.int 1))) (tCons (tC (.int 0)) tNil)))) (tIf (tTest (tOp rEq (tVar 0) (tC (.int 5)))) (tCallS (sp_reached K C) (WE (WofE X)) (tCons (tVar 1) (tCons (tC .non) (tCons (tUn (rU fun i => .int (-i)) (tC (.int 1))) tNil)))) (tCallS (sp_higher K C) (WE (WofE X)) (tCons (tVar 1) (tCons (tUn (rU fun i => .int (-i)) (tC (.int 1))) tNil)))))) tNext) (tSeq (tIfS (tTest (tOp rLtI (tVar 0) (tC (.int 10)))) (tSeq (tIfS (tTest (tOp rEq (tVar 0) (tC (.int 9)))) (tRet (tCallS (sp_reached K C) (WE (WofE X)) (tCons (tVar 2) (tCons (tTup (tCons (tC (.int 1)) (tCons (tC (.int 1)) tNil))) (tCons (tVar 1) tNil))))) tNext) (tRet (tIf (tTest (tOp rEq (tVar 0) (tC (.int 7)))) (tCallS (sp_felled K C) (WE (WofE X)) (tCons (tVar 2) (tCons (tVar 1) (tCons (tC (.int 0)) tNil)))) (tCallS (sp_higher K C) (WE (WofE X)) (tCons (tVar 2) (tCons (tVar 1) tNil)))))) tNext) (tSeq (tIfS (tTest (tOp rLtI (tVar 0) (tC (.int 12)))) (tRet (tIf (tTest (tOp rEq (tVar 0) (tC (.int 10)))) (tCallS (sp_reached K C) (WE (WofE X)) (tCons (tVar 2) (tCons (tTup (tCons (tVar 1) (tCons (tC (.int 0)) tNil))) (tCons (tUn (rU fun i => .int (-i)) (tC (.int 1))) tNil)))) (tCallS (sp_reached K C) (WE (WofE X)) (tCons (tVar 2) (tCons (tTup (tCons (tVar 1) (tCons (tC (.int 1)) tNil))) (tCons (tUn (rU fun i => .int (-i)) (tC (.int 1))) tNil)))))) tNext) (tSeq (tIfS (tTest (tOp rEq (tVar 0) (tC (.int 12)))) (tRet (tCallS (sp_reached K C) (WE (WofE X)) (tCons (tVar 2) (tCons (tVar 1) (tCons (tUn (rU fun i => .int (-i)) (tC (.int 1))) tNil))))) tNext) (tRet (tIf (tTest (tOp rEq (tVar 0) (tC (.int 13)))) (tCallS (sp_felled K C) (WE (WofE X)) (tCons (tVar 2) (tCons (tC (.int 1)) (tCons (tVar 1) tNil)))) (tCallS (sp_reached K C) (WE (WofE X)) (tCons (tVar 2) (tCons (tTup (tCons (tC (.int 1)) (tCons (tVar 1) tNil))) (tCons (tUn (rU fun i => .int (-i)) (tC (.int 1))) tNil))))))))))))
def t_law_due (K : PySem.W.Frag) (C : CS) : TS :=
  (tSeq (tTryAs K (.ref C.FallError) 3 (fun W => (tDrop (tCallS (sp_law_ask K C) (WE W) (tCons (tVar 0) (tCons (tVar 1) tNil))))) (fun a => tSuite (fun De => ExcC K De) fun De => (tSeq (tAsg (tLst (tCons (tCB (rIsE K De a) (tCons (tVar 3) (tCons (tC (.ref C.BadRow)) tNil))) (tCons (tCB (rIsE K De a) (tCons (tVar 3) (tCons (tC (.ref C.BadStone)) tNil))) (tCons (tCB (rIsE K De a) (tCons (tVar 3) (tCons (tC (.ref C.BadSide)) tNil))) tNil)))) (gName 4)) (tRet (tAndV (tOp (rEqD K) (tOp rCat (tVar 4) (tLst (tCons (tCB (rIsE K De a) (tCons (tVar 3) (tCons (tC (.ref C.BadText)) tNil))) tNil))) (tLc (iRng1 (tCons (tC (.int 4)) tNil)) (gName 5) tYes (tOp rEq (tVar 5) (tVar 2)) [5])) (tCB (rIsE K De a) (tCons (tVar 3) (tCons (tC (.ty "ValueError")) tNil))))))) (fun _ _ _ _ => False)) (tRet (tC (.bl false))))
def t_law_rows (K : PySem.W.Frag) (C : CS) : TS :=
  (tSeq (tAsg (tLst (tCons (tC .non) (tCons (tTup tNil) (tCons (tTup (tCons (tTup (tCons (tC (.int 0)) (tCons (tC (.int 1)) tNil))) tNil)) (tCons (tC (.str "0:1")) (tCons tDNewK (tCons (tC (.int 5)) (tCons (tLst (tCons (tC (.int 5)) tNil)) (tCons (tLst (tCons (tC .non) tNil)) (tCons (tLst (tCons (tTup (tCons (tC (.int 0)) tNil)) tNil)) (tCons (tLst (tCons (tTup (tCons (tC (.int 0)) (tCons (tC (.int 1)) (tCons (tC (.int 2)) tNil)))) tNil)) (tCons (tLst (tCons (tLst (tCons (tC (.int 0)) (tCons (tC (.int 1)) tNil))) tNil)) (tCons (tLst (tCons (tTup (tCons (tC (.int 0)) (tCons (tC (.int 0)) tNil))) tNil)) (tCons (tLst (tCons (tTup (tCons (tC (.int 0)) (tCons (tOp rSubI (tUn (rU fun i => .int (-i)) (tC (.int 1))) (tVar 0)) tNil))) tNil)) tNil)))))))))))))) (gName 1)) (tSeq (tAsg (tOp rCat (tVar 1) (tLst (tCons (tLst (tCons (tTup (tCons (tC (.bl true)) (tCons (tC (.int 1)) tNil))) tNil)) (tCons (tLst (tCons (tTup (tCons (tC (.int 0)) (tCons (tC (.bl true)) tNil))) tNil)) (tCons (tLst (tCons (tTup (tCons (tC (.str "0")) (tCons (tC (.int 1)) tNil))) tNil)) (tCons (tLst (tCons (tTup (tCons (tC (.int 0)) (tCons (tC .non) tNil))) tNil)) (tCons (tLst (tCons (tTup (tCons (tC (.int 0)) (tCons (tC (.int 1)) tNil))) (tCons (tTup (tCons (tC (.int 0)) (tCons (tC (.int 1)) tNil))) tNil))) (tCons (tLst (tCons (tTup (tCons (tC (.int 1)) (tCons (tC (.int 1)) tNil))) (tCons (tTup (tCons (tC (.int 0)) (tCons (tC (.int 1)) tNil))) tNil))) (tCons (tLst (tCons (tTup (tCons (tVar 0) (tCons (tC (.int 0)) tNil))) tNil)) tNil))))))))) (gName 1)) (tRet (tOp rCat (tVar 1) (tLst (tCons (tLst (tCons (tTup (tCons (tC (.int 0)) (tCons (tC (.int 1)) tNil))) (tCons (tTup (tCons (tC (.int 1)) (tCons (tC (.int 1)) tNil))) (tCons (tTup (tCons (tC (.int 1)) (tCons (tC (.int 2)) tNil))) tNil)))) (tCons (tLst (tCons (tTup (tCons (tVar 0) (tCons (tC (.int 1)) tNil))) (tCons (tTup (tCons (tOp rSubI (tVar 0) (tC (.int 1))) (tCons (tC (.int 1)) tNil))) tNil))) (tCons (tLst (tCons (tTup (tCons (tC (.int 0)) (tCons (tC (.int 1)) tNil))) (tCons (tTup (tCons (tC (.int 5)) (tCons (tC (.int 1)) tNil))) (tCons (tTup (tCons (tC (.int 7)) (tCons (tC (.int 0)) tNil))) tNil)))) (tCons (tLst (tCons (tTup (tCons (tC (.int 0)) (tCons (tC (.int 1)) tNil))) (tCons (tC (.int 7)) tNil))) tNil)))))))))
def t_law_stones (K : PySem.W.Frag) (C : CS) : TS :=
  (tRet (tLst (tCons (tC .non) (tCons (tUn (rU fun i => .int (-i)) (tC (.int 1))) (tCons (tOp rSubI (tUn (rU fun i => .int (-i)) (tC (.int 1))) (tVar 0)) (tCons (tC (.int 3)) (tCons (tOp rAddI (tC (.int 3)) (tVar 0)) (tCons (tC (.bl true)) (tCons (tC (.str "1")) (tCons (tLst (tCons (tC (.int 1)) tNil)) (tCons (tTup (tCons (tC (.int 0)) tNil)) (tCons tDNewK tNil))))))))))))
def t_law_sides (K : PySem.W.Frag) (C : CS) : TS :=
  (tRet (tLst (tCons (tC .non) (tCons (tC (.int 0)) (tCons (tC (.int 2)) (tCons (tOp rAddI (tC (.int 2)) (tVar 0)) (tCons (tOp rSubI (tUn (rU fun i => .int (-i)) (tC (.int 2))) (tVar 0)) (tCons (tC (.bl true)) (tCons (tC (.str "1")) (tCons (tLst (tCons (tC (.int 1)) tNil)) (tCons tDNewK tNil)))))))))))
def t_law_pushes (K : PySem.W.Frag) (C : CS) : TS :=
  (tRet (tLst (tCons (tC .non) (tCons (tC (.int 1)) (tCons (tTup (tCons (tC (.int 1)) tNil)) (tCons (tTup (tCons (tC (.int 1)) (tCons (tC (.int 1)) (tCons (tC (.int 1)) tNil)))) (tCons (tLst (tCons (tC (.int 1)) (tCons (tC (.int 1)) tNil))) (tCons (tC (.str "11")) (tCons (tTup (tCons (tC (.int 3)) (tCons (tC (.int 1)) tNil))) (tCons (tTup (tCons (tOp rSubI (tUn (rU fun i => .int (-i)) (tC (.int 1))) (tVar 0)) (tCons (tC (.int 1)) tNil))) (tCons (tTup (tCons (tC .non) (tCons (tC (.int 0)) tNil))) (tCons tDNewK tNil))))))))))))
def t_law (K : PySem.W.Frag) (C : CS) : TS :=
  (tSeq (tAsg (tLst (tCons (tTup (tCons (tLstRg (tRg1 (tC (.int 7)))) (tCons (tC (.ref (fa C 4))) (tCons (tC (.int 0)) tNil)))) (tCons (tTup (tCons (tLst (tCons (tC (.int 7)) (tCons (tC (.int 8)) (tCons (tC (.int 9)) (tCons (tC (.int 10)) (tCons (tC (.int 11)) tNil)))))) (tCons (tC (.ref (fa C 5))) (tCons (tC (.int 1)) tNil)))) (tCons (tTup (tCons (tLst (tCons (tC (.int 13)) (tCons (tC (.int 14)) tNil))) (tCons (tC (.ref (fa C 6))) (tCons (tC (.int 2)) tNil)))) tNil)))) (gName 1)) (tSeq (tFor (iList K (tOp rCat (tVar 1) (tLst (tCons (tTup (tCons (tLst (tCons (tC (.int 12)) tNil)) (tCons (tC (.ref (fa C 7))) (tCons (tC (.int 1)) tNil)))) tNil)))) (gTup K 3 (gCons (gName 2) (gCons (gName 3) (gCons (gName 4) gNil)))) (tSeq (tFor (iList K (tVar 2)) (gName 5) (tIfS (tNot (tB (tCB (rAll K) (tCons (tLc (iList K (tCallF (S_things K C) (fun _ => E0) (tVar 3) (tCons (tCB (rLenS K) (tCons (tVar 0) tNil)) tNil))) (gName 8) tYes (tCall (sp_law_due K C) [] E0 (tCons (tVar 5) (tCons (tVar 8) (tCons (tVar 4) tNil)))) [8]) tNil)))) (tRet (tC (.bl false))) tNext)) (tFor (iList K (tVar 0)) (gName 6) (tSeq (tAsg (tCallF (S_things K C) (fun _ => E0) (tVar 3) (tCons (tOp rModI (tVar 6) (tOp rPowI (tC (.int 10)) (tC (.int 60)))) tNil)) (gName 7)) (tIfS (tNot (tB (tCall (sp_law_due K C) [] E0 (tCons (tOp (rIxL K) (tVar 2) (tOp rModI (tVar 6) (tCB (rLenS K) (tCons (tVar 2) tNil)))) (tCons (tOp (rIxL K) (tVar 7) (tOp rModI (tOp rDivW (tVar 6) (tCB (rLenS K) (tCons (tVar 2) tNil))) (tCB (rLenS K) (tCons (tVar 7) tNil)))) (tCons (tVar 4) tNil)))))) (tRet (tC (.bl false))) tNext))))) (tSeq (tIfS (tOr (tNot (tB (tCall (sp_law_due K C) [] E0 (tCons (tC (.int 7)) (tCons (tC (.int 0)) (tCons (tC (.int 2)) tNil)))))) (tOr (tNot (tB (tCall (sp_law_due K C) [] E0 (tCons (tC (.int 4)) (tCons (tLst tNil) (tCons (tC (.int 1)) tNil)))))) (tNot (tB (tCall (sp_law_due K C) [] E0 (tCons (tC (.int 5)) (tCons (tLst (tCons (tTup (tCons (tC (.int 0)) (tCons (tC (.int 1)) tNil))) tNil)) (tCons (tC (.int 1)) tNil)))))))) (tRet (tC (.bl false))) tNext) (tRet (tAndV (tOp (rEqD K) (tCall (sp_felled K C) [] E0 (tCons (tLst (tCons (tTup (tCons (tC (.int 0)) (tCons (tC (.int 1)) tNil))) tNil)) (tCons (tC (.int 0)) (tCons (tUn (rU fun i => .int (-i)) (tC (.int 1))) tNil)))) (tLst (tCons (tC (.int 0)) tNil))) (tOp (rEqD K) (tCall (sp_mirrored K C) [] E0 (tCons (tLst tNil) tNil)) (tLst tNil)))))))

theorem nb_t {c : Bool} (h : (!true || !c) = true) : c = false := by cases c <;> first | rfl | cases h
theorem nb_f {c : Bool} (h : (!true || !c) = false) : c = true := by cases c <;> first | rfl | cases h
section
variable {K : PySem.W.Frag} {C : CS} {X : XK}
theorem run_check_stone {ds : List Da} {o : Out} (h : P_check_stone C ds o) : Run K (t_check_stone K C X) (ent ds 0) (retR X o) := by
  obtain ⟨row, x, rfl, hk, rfl⟩ := h
  have hb : EvB K (tNot (tB (tCall (sp_is_number K C) [] E0 (tCons (tVar 1) tNil)))) (frz (ent [rowD row, x] 0)) (!isNum x) := eb_not (eb_B (ev_call (ds := [x]) (ea_cons (ev_var rfl) ea_nil) ⟨x, rfl, hk, rfl⟩))
  cases hx : isNum x with
  | false =>
    have e : ixB row x = false := by cases x <;> first | rfl | cases hx
    rw [e]
    rw [hx] at hb
    exact run_if (b := !false || true) (eb_or hb fun z => by cases z) (fun _ => run_raise rfl) fun z => by cases z
  | true =>
    obtain ⟨i, rfl⟩ := num_is hx
    have e : ixB row (.int i) = (decide (0 ≤ i) && decide (i < row.length)) := rfl
    rw [e]
    rw [hx] at hb
    refine run_if (b := !true || !(decide (0 ≤ i) && decide (i < (row.length : Int)))) (eb_or hb fun _ => eb_not (eb_test (ev_chainI rfl rfl ev_int (ev_var rfl) fun _ => ev_lenR (ev_var rfl)))) (fun z => run_raise ?_) fun z => run_next ?_
    · show (if (decide (0 ≤ i) && decide (i < (row.length : Int))) = true then Out.rt .non else .ex C.BadStone) = _
      have : (decide (0 ≤ i) && decide (i < (row.length : Int))) = false := nb_t z
      rw [this]
      rfl
    · show (if (decide (0 ≤ i) && decide (i < (row.length : Int))) = true then Out.rt .non else .ex C.BadStone) = _
      have : (decide (0 ≤ i) && decide (i < (row.length : Int))) = true := nb_f z
      rw [this]
      rfl
theorem run_check_side {ds : List Da} {o : Out} (h : P_check_side C ds o) : Run K (t_check_side K C X) (ent ds 0) (retR X o) := by
  obtain ⟨x, rfl, hk, rfl⟩ := h
  have hb : EvB K (tNot (tB (tCall (sp_is_number K C) [] E0 (tCons (tVar 0) tNil)))) (frz (ent [x] 0)) (!isNum x) := eb_not (eb_B (ev_call (ds := [x]) (ea_cons (ev_var rfl) ea_nil) ⟨x, rfl, hk, rfl⟩))
  cases hx : isNum x with
  | false =>
    have e : sideB x = false := by cases x <;> first | rfl | cases hx
    rw [e]
    rw [hx] at hb
    exact run_if (b := !false || true) (eb_or hb fun z => by cases z) (fun _ => run_raise rfl) fun z => by cases z
  | true =>
    obtain ⟨s, rfl⟩ := num_is hx
    rw [hx] at hb
    have e : sideB (.int s) = (decide (s = 1) || decide (s = -1)) := rfl
    have e2 : decide (s ∈ [(1 : Int), -1]) = sideB (.int s) := by
      rw [e]
      simp
    refine run_if (b := !true || (if true = true then !decide (s ∈ [1, -1]) else decide (s ∈ [1, -1]))) (eb_or hb fun _ => eb_test (ev_inI (ns := [1, -1]) (ev_var rfl) (ev_tup (ea_cons ev_int (ea_cons (ev_neg ev_int) ea_nil))))) (fun z => run_raise ?_) fun z => run_next ?_
    · show (if sideB (.int s) = true then Out.rt .non else .ex C.BadSide) = _
      rw [e2] at z
      have : sideB (.int s) = false := nb_t z
      rw [this]
      rfl
    · show (if sideB (.int s) = true then Out.rt .non else .ex C.BadSide) = _
      rw [e2] at z
      have : sideB (.int s) = true := nb_f z
      rw [this]
      rfl
theorem run_last_felled {ds : List Da} {d : Da} (h : P_last_felled ds d) : Run K (t_last_felled K C) (ent ds 2) (retD d) := FR.run_last_felled (C := C) h
theorem run_felled_by {ds : List Da} {es : List Da} (h : P_felled_by ds es) : Run K (t_felled_by K C) (ent ds 1) (retL es) := FR.run_felled_by (C := C) h
/-- check_row asked, what comes behind it -/
theorem run_row {env : En} {E : Ed} {d : Da} {i : Nat} {t : TS} {good : List (Int × Int) → Out → Prop} {o : Out} (hv : env[i]? = some (.im d)) (hk : kn3 d = true) (h : oRow C d good o) (hx : E.xk = WofE X)
    (bad : o = .ex C.BadRow → E.rx env C.BadRow) (ok : ∀ row, d = rowD row → Okr row → good row o → Run K t env E) : Run K (tSeq (tDrop (tCallS (sp_check_row K C) (WE (WofE X)) (tCons (tVar i) tNil))) t) env E := by
  have hv1 : (imm env)[i]? = some (.im d) := by rw [List.getElem?_map, hv]; rfl
  have hv2 : (frz env)[i]? = some (.im d) := by rw [List.getElem?_map, hv]; rfl
  rcases h with ⟨hb, ho⟩ | ⟨row, hd, hok, hg⟩
  · refine run_seq ?_
    rw [← hx]
    exact run_dropX (E := { E with nx := fun e => Run K t e E }) (C := C.BadRow) (ex_call (ds := [d]) (ea_cons (ev_var hv2) ea_nil) ⟨d, rfl, hk, by rw [hb]; rfl⟩) (bad ho)
  · refine run_seq (run_drop (d := .non) (ev_callS (ds := [d]) (ea_cons (ev_var hv2) ea_nil) ⟨d, rfl, hk, ?_⟩) (ok row hd hok hg))
    rw [hd, rowB_of hok]
    rfl
theorem run_stone {env : En} {E : Ed} {x : Da} {i : Nat} {te : TE} {row : List (Int × Int)} {t : TS} {good : Nat → Out → Prop} {o : Out} (hv : env[i]? = some (.im (rowD row))) (ht : EvE K te (frz env) x) (hk : kn1 x = true) (h : oStone C row x good o) (hx : E.xk = WofE X)
    (bad : o = .ex C.BadStone → E.rx env C.BadStone) (ok : ∀ j : Nat, x = .int j → j < row.length → good j o → Run K t env E) : Run K (tSeq (tDrop (tCallS (sp_check_stone K C) (WE (WofE X)) (tCons (tVar i) (tCons te tNil)))) t) env E := by
  have hv2 : (frz env)[i]? = some (.im (rowD row)) := by rw [List.getElem?_map, hv]; rfl
  rcases h with ⟨hb, ho⟩ | ⟨j, hd, hj, hg⟩
  · refine run_seq ?_
    rw [← hx]
    exact run_dropX (E := { E with nx := fun e => Run K t e E }) (C := C.BadStone) (ex_call (ds := [rowD row, x]) (ea_cons (ev_var hv2) (ea_cons ht ea_nil)) ⟨row, x, rfl, hk, by rw [hb]; rfl⟩) (bad ho)
  · refine run_seq (run_drop (d := .non) (ev_callS (ds := [rowD row, x]) (ea_cons (ev_var hv2) (ea_cons ht ea_nil)) ⟨row, x, rfl, hk, ?_⟩) (ok j hd hj hg))
    rw [hd]
    have : ixB row (.int j) = true := by
      show (decide ((0 : Int) ≤ j) && decide ((j : Int) < row.length)) = true
      rw [Bool.and_eq_true, decide_eq_true_eq, decide_eq_true_eq]
      omega
    rw [this]
    rfl
theorem run_side {env : En} {E : Ed} {x : Da} {te : TE} {t : TS} {good : Int → Out → Prop} {o : Out} (ht : EvE K te (frz env) x) (hk : kn1 x = true) (h : oSide C x good o) (hx : E.xk = WofE X)
    (bad : o = .ex C.BadSide → E.rx env C.BadSide) (ok : ∀ s : Int, x = .int s → Sd s → good s o → Run K t env E) : Run K (tSeq (tDrop (tCallS (sp_check_side K C) (WE (WofE X)) (tCons te tNil))) t) env E := by
  rcases h with ⟨hb, ho⟩ | ⟨s, hd, hs, hg⟩
  · refine run_seq ?_
    rw [← hx]
    exact run_dropX (E := { E with nx := fun e => Run K t e E }) (C := C.BadSide) (ex_call (ds := [x]) (ea_cons ht ea_nil) ⟨x, rfl, hk, by rw [hb]; rfl⟩) (bad ho)
  · refine run_seq (run_drop (d := .non) (ev_callS (ds := [x]) (ea_cons ht ea_nil) ⟨x, rfl, hk, ?_⟩) (ok s hd hs hg))
    rw [hd]
    have : sideB (.int s) = true := by rcases hs with rfl | rfl <;> rfl
    rw [this]
    rfl
theorem run_mirrored {ds : List Da} {o : Out} (h : P_mirrored C ds o) : Run K (t_mirrored K C X) (ent ds 2) (retR X o) := by
  obtain ⟨r, rfl, hk, h⟩ := h
  refine run_row rfl hk h rfl (fun z => z) fun row hd ok ho => ?_
  subst hd ho
  refine run_retN (en_lc (us := [1, 2]) prD (fun _ => true) (fun p => prD (-p.1, p.2)) row.reverse ?_ (by simp) (by rw [List.length_reverse]; have := ok.few; omega) fun p hp => ⟨_, tc_tup2 tc_name tc_name, eb_yes, fun _ => ?_⟩) ?_
  · have := wk_rev (K := K) (env := imm (ent [rowD row] 2)) (te := tVar 0) (ta := tVar 0) (ds := rowL row) (ev_var rfl)
    rw [List.map_reverse]
    exact this
  · exact ev_tup (ea_cons (ev_neg (ev_var rfl)) (ea_cons (ev_var rfl) ea_nil))
  · refine Or.inl ?_
    show Out.ls (rowL (mir row)) = _
    unfold mir rowL
    rw [List.map_map, List.filter_eq_self.mpr fun _ _ => rfl]
    rfl
theorem run_felled {ds : List Da} {o : Out} (h : P_felled C ds o) : Run K (t_felled K C X) (ent ds 0) (retR X o) := by
  obtain ⟨r, x, s, rfl, ⟨hk, hkx, hks⟩, h⟩ := h
  refine run_row rfl hk h rfl (fun z => z) fun row hd ok h2 => ?_
  clear h
  subst hd
  refine run_stone rfl (ev_var rfl) hkx h2 rfl (fun z => z) fun j hx hj h3 => ?_
  clear h2
  subst hx
  refine run_side (ev_var rfl) hks h3 rfl (fun z => z) fun sd hs hsd ho => ?_
  subst hs ho
  exact run_retN (en_call (ds := [rowD row, .int j, .int sd]) (ea_cons (ev_var rfl) (ea_cons (ev_var rfl) (ea_cons (ev_var rfl) ea_nil))) ⟨row, j, sd, rfl, ⟨hj, ok.few, hsd⟩, rfl⟩) (.inl rfl)
theorem run_fewest {ds : List Da} {o : Out} (h : P_rowOnly C ds o) : Run K (t_fewest K C X) (ent ds 8) (retR X o) := by
  obtain ⟨r, rfl, hk, h⟩ := h
  exact run_row rfl hk h rfl (fun z => z) fun row hd ok h => h.elim
theorem run_rights {ds : List Da} {o : Out} (h : P_rowOnly C ds o) : Run K (t_rights K C X) (ent ds 2) (retR X o) := by
  obtain ⟨r, rfl, hk, h⟩ := h
  exact run_row rfl hk h rfl (fun z => z) fun row hd ok h => h.elim
theorem run_written {ds : List Da} {o : Out} (h : P_rowOnly C ds o) : Run K (t_written K C X) (ent ds 2) (retR X o) := by
  obtain ⟨r, rfl, hk, h⟩ := h
  exact run_row rfl hk h rfl (fun z => z) fun row hd ok h => h.elim
theorem run_higher {ds : List Da} {o : Out} (h : P_higher C ds o) : Run K (t_higher K C X) (ent ds 4) (retR X o) := by
  obtain ⟨r, x, rfl, ⟨hk, hkx⟩, h⟩ := h
  refine run_row rfl hk h rfl (fun z => z) fun row hd ok h2 => ?_
  clear h
  subst hd
  exact run_stone rfl (ev_var rfl) hkx h2 rfl (fun z => z) fun j hx hj h => h.elim
theorem run_reached {ds : List Da} {o : Out} (h : P_reached C ds o) : Run K (t_reached K C X) (ent ds 2) (retR X o) := by
  obtain ⟨r, p, x, rfl, ⟨hk, hkp, hkx⟩, h⟩ := h
  refine run_row rfl hk h rfl (fun z => z) fun row hd ok h2 => ?_
  clear h
  subst hd
  rcases h2 with ⟨hp, rfl⟩ | ⟨a, b, rfl, ka, kb, h⟩
  · refine run_seq ?_
    cases ht : isTup p with
    | false =>
      exact run_if (b := !isTup p || true) (eb_or (eb_not (eb_B (ev_isTup (ev_var rfl) (kn1_of2 hkp)))) fun z => by rw [ht] at z; cases z) (fun _ => run_raise rfl) fun z => by rw [ht] at z; cases z
    | true =>
      cases p with
      | tup es =>
        have hl : ¬ es.length = 2 := fun z => by
          match es, z with
          | [a, b], _ => cases hp
        refine run_if (b := !true || !decide ((es.length : Int) = 2)) (eb_or (eb_not (eb_B (ev_isTup (d := .tup es) (ev_var rfl) rfl))) fun _ => eb_test (ev_neI (ev_lenT (ds := es) (ev_var rfl)) ev_int)) (fun _ => run_raise rfl) fun z => ?_
        have : decide ((es.length : Int) = 2) = false := by
          rw [decide_eq_false_iff_not]
          omega
        rw [this] at z
        cases z
      | _ => cases ht
  · refine run_seq (run_if (b := !true || !decide ((2 : Int) = 2)) (eb_or (eb_not (eb_B (ev_isTup (d := .tup [a, b]) (ev_var rfl) rfl))) fun _ => eb_test (ev_neI (ev_lenT (ds := [a, b]) (ev_var rfl)) ev_int)) (fun z => by cases z) fun _ => run_next ?_)
    refine run_stone rfl (ev_ixT (ds := [a, b]) (ev_var rfl) ev_int rfl) ka h rfl (fun z => z) fun j hx hj h => ?_
    refine run_side (ev_ixT (ds := [a, b]) (ev_var rfl) ev_int rfl) kb h rfl (fun z => z) fun sd hs hsd h => ?_
    exact run_stone rfl (ev_var rfl) hkx h rfl (fun z => z) fun j hx hj h => h.elim
end
end FX

/-! law_k08: the law's own defs. -/
namespace FX
open PySem L2 Evl FR
open PySem.Spec PyProof.Rows
section
variable {K : PySem.W.Frag} {C : CS} {X : XK}
theorem dt {p : Prop} [Decidable p] (h : p) : decide p = true := decide_eq_true h
theorem df {p : Prop} [Decidable p] (h : ¬ p) : decide p = false := decide_eq_false h
theorem run_skip {env : En} {E : Ed} {b : Bool} {tt : TT} {t u : TS} (h : EvB K tt (frz env) b) (hb : b = false) (q : Run K u env E) : Run K (tSeq (tIfS tt t tNext) u) env E :=
  run_seq (run_if h (fun z => by rw [hb] at z; cases z) fun _ => run_next q)
theorem run_take {env : En} {E : Ed} {b : Bool} {tt : TT} {t u : TS} (h : EvB K tt (frz env) b) (hb : b = true) (q : Run K t env { E with nx := fun e => Run K u e E }) : Run K (tSeq (tIfS tt t tNext) u) env E :=
  run_seq (run_if h (fun _ => q) fun z => by rw [hb] at z; cases z)
abbrev askE (door : Int) (x : Da) : En := [.im (.int door), .im x, .im (rowD goodRow)]
theorem rd_good {door : Int} {x : Da} : EvE K (tVar 2) (frz (askE door x)) (rowD goodRow) := ev_var rfl
theorem run_law_ask {ds : List Da} {o : Out} (h : P_law_ask C ds o) : Run K (t_law_ask K C X) (ent ds 1) (retR X o) := by
  obtain ⟨door, x, Cx, rfl, rfl, h⟩ := h
  refine run_seq (run_asg (d := rowD goodRow) ?_ ?_)
  · refine ev_new (en_lst (ea_cons (ev_tup (ea_cons ev_int (ea_cons ev_int ea_nil))) (ea_cons (ev_tup (ea_cons ev_int (ea_cons ev_int ea_nil))) (ea_cons (ev_tup (ea_cons ev_int (ea_cons ev_int ea_nil))) ea_nil))))
  show Run K _ (askE door x) _
  have v0 : EvE K (tVar 0) (frz (askE door x)) (.int door) := ev_var rfl
  have v1 : EvE K (tVar 1) (frz (askE door x)) x := ev_var rfl
  have m1 : EvE K (tUn (rU fun i => .int (-i)) (tC (.int 1))) (frz (askE door x)) (.int (-1)) := ev_neg ev_int
  have lt : ∀ j : Int, EvB K (tTest (tOp rLtI (tVar 0) (tC (.int j)))) (frz (askE door x)) (decide (door < j)) := fun j => eb_test (ev_lt v0 ev_int)
  have eq : ∀ j : Int, EvB K (tTest (tOp rEq (tVar 0) (tC (.int j)))) (frz (askE door x)) (decide (door = j)) := fun j => eb_test (ev_eqI v0 ev_int)
  rcases h with ⟨hd, hk, hb, ho⟩ | ⟨rfl, h⟩ | ⟨rfl, h⟩ | ⟨rfl, h⟩ | ⟨rfl, h⟩ | ⟨rfl, h⟩ | ⟨rfl, h⟩ | ⟨rfl, h⟩ | ⟨rfl, h⟩ | ⟨rfl, h⟩ | ⟨rfl, h⟩ | ⟨rfl, h⟩
  · cases ho
    refine run_take (lt 4) (dt hd.2) (run_retX (C := C.BadRow) ?_ rfl)
    have hl : EvE K (tLst (tCons (tC (.ref (fa C 0))) (tCons (tC (.ref (fa C 1))) (tCons (tC (.ref (fa C 2))) (tCons (tC (.ref (fa C 3))) tNil))))) (frz (askE door x)) (.lst [.cls (fa C 0), .cls (fa C 1), .cls (fa C 2), .cls (fa C 3)]) :=
      ev_new (en_lst (ea_cons ev_cls (ea_cons ev_cls (ea_cons ev_cls (ea_cons ev_cls ea_nil)))))
    have he : EvA K (tCons (tVar 1) tNil) (frz (askE door x)) [x] := ea_cons v1 ea_nil
    have c4 : door = 0 ∨ door = 1 ∨ door = 2 ∨ door = 3 := by omega
    rcases c4 with rfl | rfl | rfl | rfl
    · exact ex_callF (P := P_mirrored C) (ev_ixL hl v0 rfl) (.inl ⟨rfl, rfl⟩) he ⟨x, rfl, hk, .inl ⟨hb, rfl⟩⟩
    · exact ex_callF (P := P_rowOnly C) (ev_ixL hl v0 rfl) (.inr (.inl ⟨rfl, rfl⟩)) he ⟨x, rfl, hk, .inl ⟨hb, rfl⟩⟩
    · exact ex_callF (P := P_rowOnly C) (ev_ixL hl v0 rfl) (.inr (.inr (.inl ⟨rfl, rfl⟩))) he ⟨x, rfl, hk, .inl ⟨hb, rfl⟩⟩
    · exact ex_callF (P := P_rowOnly C) (ev_ixL hl v0 rfl) (.inr (.inr (.inr ⟨rfl, rfl⟩))) he ⟨x, rfl, hk, .inl ⟨hb, rfl⟩⟩
  · refine run_skip (lt 4) (by decide) (run_take (lt 7) (by decide) (run_retX (C := Cx) (ex_if (eq 4) (fun _ => ?_) fun z => by cases z) rfl))
    exact ex_call (ea_cons v1 (ea_cons m1 (ea_cons ev_int ea_nil))) h
  · refine run_skip (lt 4) (by decide) (run_take (lt 7) (by decide) (run_retX (C := Cx) (ex_if (eq 4) (fun z => by cases z) fun _ => ex_if (eq 5) (fun _ => ?_) fun z => by cases z) rfl))
    exact ex_call (ea_cons v1 (ea_cons ev_non (ea_cons m1 ea_nil))) h
  · refine run_skip (lt 4) (by decide) (run_take (lt 7) (by decide) (run_retX (C := Cx) (ex_if (eq 4) (fun z => by cases z) fun _ => ex_if (eq 5) (fun z => by cases z) fun _ => ?_) rfl))
    exact ex_call (ea_cons v1 (ea_cons m1 ea_nil)) h
  · refine run_skip (lt 4) (by decide) (run_skip (lt 7) (by decide) (run_take (lt 10) (by decide) (run_skip (eq 9) (by decide) (run_retX (C := Cx) (ex_if (eq 7) (fun _ => ?_) fun z => by cases z) rfl))))
    exact ex_call (ea_cons rd_good (ea_cons v1 (ea_cons ev_int ea_nil))) h
  · refine run_skip (lt 4) (by decide) (run_skip (lt 7) (by decide) (run_take (lt 10) (by decide) (run_skip (eq 9) (by decide) (run_retX (C := Cx) (ex_if (eq 7) (fun z => by cases z) fun _ => ?_) rfl))))
    exact ex_call (ea_cons rd_good (ea_cons v1 ea_nil)) h
  · refine run_skip (lt 4) (by decide) (run_skip (lt 7) (by decide) (run_take (lt 10) (by decide) (run_take (eq 9) (by decide) (run_retX (C := Cx) ?_ rfl))))
    exact ex_call (ea_cons rd_good (ea_cons (ev_tup (ea_cons ev_int (ea_cons ev_int ea_nil))) (ea_cons v1 ea_nil))) h
  · refine run_skip (lt 4) (by decide) (run_skip (lt 7) (by decide) (run_skip (lt 10) (by decide) (run_take (lt 12) (by decide) (run_retX (C := Cx) (ex_if (eq 10) (fun _ => ?_) fun z => by cases z) rfl))))
    exact ex_call (ea_cons rd_good (ea_cons (ev_tup (ea_cons v1 (ea_cons ev_int ea_nil))) (ea_cons m1 ea_nil))) h
  · refine run_skip (lt 4) (by decide) (run_skip (lt 7) (by decide) (run_skip (lt 10) (by decide) (run_take (lt 12) (by decide) (run_retX (C := Cx) (ex_if (eq 10) (fun z => by cases z) fun _ => ?_) rfl))))
    exact ex_call (ea_cons rd_good (ea_cons (ev_tup (ea_cons v1 (ea_cons ev_int ea_nil))) (ea_cons m1 ea_nil))) h
  · refine run_skip (lt 4) (by decide) (run_skip (lt 7) (by decide) (run_skip (lt 10) (by decide) (run_skip (lt 12) (by decide) (run_take (eq 12) (by decide) (run_retX (C := Cx) ?_ rfl)))))
    exact ex_call (ea_cons rd_good (ea_cons v1 (ea_cons m1 ea_nil))) h
  · refine run_skip (lt 4) (by decide) (run_skip (lt 7) (by decide) (run_skip (lt 10) (by decide) (run_skip (lt 12) (by decide) (run_skip (eq 12) (by decide) (run_retX (C := Cx) (ex_if (eq 13) (fun _ => ?_) fun z => by cases z) rfl)))))
    exact ex_call (ea_cons rd_good (ea_cons ev_int (ea_cons v1 ea_nil))) h
  · refine run_skip (lt 4) (by decide) (run_skip (lt 7) (by decide) (run_skip (lt 10) (by decide) (run_skip (lt 12) (by decide) (run_skip (eq 12) (by decide) (run_retX (C := Cx) (ex_if (eq 13) (fun z => by cases z) fun _ => ?_) rfl)))))
    exact ex_call (ea_cons rd_good (ea_cons (ev_tup (ea_cons ev_int (ea_cons v1 ea_nil))) (ea_cons m1 ea_nil))) h
/-- the suite's look at the error -/
theorem run_look {De a : Addr} {bR bS bD bT : Bool} {door due : Int} {x : Da} {E : Ed} (F : ExcF K C De bR bS bD bT) (hb : [bR, bS, bD, bT] = (List.range 4).map fun k => decide (((k : Nat) : Int) = due)) (q : E.rd (.bl true)) :
    Run K (tSeq (tAsg (tLst (tCons (tCB (rIsE K De a) (tCons (tVar 3) (tCons (tC (.ref C.BadRow)) tNil))) (tCons (tCB (rIsE K De a) (tCons (tVar 3) (tCons (tC (.ref C.BadStone)) tNil))) (tCons (tCB (rIsE K De a) (tCons (tVar 3) (tCons (tC (.ref C.BadSide)) tNil))) tNil)))) (gName 4)) (tRet (tAndV (tOp (rEqD K) (tOp rCat (tVar 4) (tLst (tCons (tCB (rIsE K De a) (tCons (tVar 3) (tCons (tC (.ref C.BadText)) tNil))) tNil))) (tLc (iRng1 (tCons (tC (.int 4)) tNil)) (gName 5) tYes (tOp rEq (tVar 5) (tVar 2)) [5])) (tCB (rIsE K De a) (tCons (tVar 3) (tCons (tC (.ty "ValueError")) tNil))))))
      [.im (.int door), .im x, .im (.int due), .im (.cls a), .no, .no] E := by
  refine run_seq (run_asg (d := .lst (blL [bR, bS, bD])) (ev_new (en_lst (ea_cons (ev_isE (ev_var rfl) ev_cls F.kR) (ea_cons (ev_isE (ev_var rfl) ev_cls F.kS) (ea_cons (ev_isE (ev_var rfl) ev_cls F.kD) ea_nil))))) ?_)
  refine run_retF (d := .bl (true && true)) (ev_andV ?_ fun _ => ev_isET (ev_var rfl) ev_ty F.kV) rfl q
  refine (ev_eqD (x := .lst (blL [bR, bS, bD, bT])) (y := .lst (blL ((List.range 4).map fun k => decide (((k : Nat) : Int) = due)))) ?_ ?_ (okBls _) (okBls _) (eqv_bls _ _)).is (by rw [← hb]; simp)
  · exact ev_new (en_cat (ds := blL [bR, bS, bD]) (es := blL [bT]) (ev_var rfl) (ev_new (en_lst (ea_cons (ev_isE (ev_var rfl) ev_cls F.kT) ea_nil))) (show 3 + 1 ≤ 100000 by decide))
  · refine ev_new ((en_lc (us := [5]) (fun k : Nat => Da.int (0 + (k : Nat))) (fun _ => true) (fun k => Da.bl (decide (((k : Nat) : Int) = due))) (List.range 4) ?_ (by simp) (by simp) fun k hk => ⟨_, tc_name, eb_yes, fun _ => ?_⟩).is ?_)
    · exact wk_rng1 (j := 4) ev_int (by decide)
    · refine (ev_eqI (ev_var rfl) (ev_var (d := .int due) rfl)).is ?_
      rw [Int.zero_add]
    · rw [List.filter_eq_self.mpr fun _ _ => rfl]
      unfold blL
      rw [List.map_map]
      rfl
theorem run_law_due (A : ExcFs K C) {ds : List Da} {d : Da} (h : P_law_due C ds d) : Run K (t_law_due K C) (ent ds 3) (retD d) := by
  obtain ⟨door, x, due, rfl, hdue, h, rfl⟩ := h
  refine run_seq (run_tryAs fun W => ?_)
  refine run_dropX (C := clsOf C due) (ex_call (ds := [.int door, x]) (ea_cons (ev_var rfl) (ea_cons (ev_var rfl) ea_nil)) ⟨door, x, _, rfl, rfl, h⟩) ?_
  have c3 : due = 0 ∨ due = 1 ∨ due = 2 := by omega
  rcases c3 with rfl | rfl | rfl
  · exact ⟨A.r.ex, fun a => run_suite A.r.is (run_look A.r rfl rfl)⟩
  · exact ⟨A.s.ex, fun a => run_suite A.s.is (run_look A.s rfl rfl)⟩
  · exact ⟨A.d.ex, fun a => run_suite A.d.is (run_look A.d rfl rfl)⟩
theorem ev_prI {env : En} {ta tb : TE} {a b : Int} (ha : EvE K ta env (.int a)) (hb : EvE K tb env (.int b)) : EvE K (tTup (tCons ta (tCons tb tNil))) env (prI a b) := ev_tup (ea_cons ha (ea_cons hb ea_nil))
local macro_rules | `(tactic| walk_at "nn") => `(tactic| first
  | exact FR.ev_non
  | exact FR.ev_int
  | exact FR.ev_bl
  | exact FR.ev_str
  | exact FX.ev_emp
  | exact FR.ev_var rfl
  | exact FR.ea_nil
  | (apply FR.ea_cons <;> walk_at "nn")
  | (apply FX.ev_prI <;> walk_at "nn")
  | (apply FR.ev_tup <;> first | walk_at "nn" | simp)
  | (apply FR.ev_new; walk_at "nn")
  | (apply FR.en_lst <;> first | walk_at "nn" | simp)
  | (apply FR.ev_sub <;> walk_at "nn")
  | (apply FR.ev_add <;> walk_at "nn")
  | (apply FR.ev_neg; walk_at "nn"))
theorem run_law_stones {ds es : List Da} (h : P_law_stones ds es) : Run K (t_law_stones K C) (ent ds 0) (retL es) := by
  obtain ⟨c, rfl, rfl⟩ := h
  refine run_retN (ds := stonesL c) (en_lst ?_ (show 10 ≤ 100000 by decide)) rfl
  unfold stonesL
  walk_at "nn"
theorem run_law_sides {ds es : List Da} (h : P_law_sides ds es) : Run K (t_law_sides K C) (ent ds 0) (retL es) := by
  obtain ⟨c, rfl, rfl⟩ := h
  refine run_retN (ds := sidesL c) (en_lst ?_ (show 9 ≤ 100000 by decide)) rfl
  unfold sidesL
  walk_at "nn"
theorem run_law_pushes {ds es : List Da} (h : P_law_pushes ds es) : Run K (t_law_pushes K C) (ent ds 0) (retL es) := by
  obtain ⟨c, rfl, rfl⟩ := h
  refine run_retN (ds := pushesL c) (en_lst ?_ (show 10 ≤ 100000 by decide)) rfl
  unfold pushesL
  walk_at "nn"
theorem run_law_rows {ds es : List Da} (h : P_law_rows ds es) : Run K (t_law_rows K C) (ent ds 1) (retL es) := by
  obtain ⟨c, rfl, rfl⟩ := h
  refine run_seq (run_asg (d := .lst (rowsA c)) (ev_new (en_lst ?_ (show 13 ≤ 100000 by decide))) ?_)
  · unfold rowsA
    walk_at "nn"
  refine run_seq (run_asg (d := .lst (rowsA c ++ rowsB c)) (ev_new (en_cat (ev_var rfl) (ev_new (en_lst ?_ (show 7 ≤ 100000 by decide))) (show 13 + 7 ≤ 100000 by decide))) ?_)
  · unfold rowsB
    walk_at "nn"
  refine run_retN (ds := rowsL c) (en_cat (ev_var rfl) (ev_new (en_lst ?_ (show 4 ≤ 100000 by decide))) (show 20 + 4 ≤ 100000 by decide)) rfl
  unfold rowsC
  walk_at "nn"
end
end FX

/-! law_k08: what is handed in is refused; the law. -/
namespace FX
open PySem L2 Evl FR
open PySem.Spec PyProof.Rows
theorem okGood : Okr goodRow where
  pos := fun i hi => by
    have : i = 0 ∨ i = 1 ∨ i = 2 := by
      have : i < 3 := hi
      omega
    rcases this with rfl | rfl | rfl <;> decide
  inc := fun i j hij hj => by
    have h3 : j < 3 := hj
    have : (i = 0 ∧ j = 1) ∨ (i = 0 ∧ j = 2) ∨ (i = 1 ∧ j = 2) := by omega
    rcases this with ⟨rfl, rfl⟩ | ⟨rfl, rfl⟩ | ⟨rfl, rfl⟩ <;> decide
  few := by decide
theorem ok0 : Okr [] := ⟨fun i h => absurd h (Nat.not_lt_zero _), fun i j _ h => absurd h (Nat.not_lt_zero _), by decide⟩
theorem ok01 : Okr [(0, 1)] where
  pos := fun i hi => by
    have : i = 0 := by
      have : i < 1 := hi
      omega
    subst this
    decide
  inc := fun i j hij hj => by
    have : j < 1 := hj
    omega
  few := by decide
theorem kGood : kn3 (rowD goodRow) = true := kn3_row (by decide)
theorem inc1 (a b : Int) (h : ¬ a < b) : rowB (.lst [prI a 1, prI b 1]) = false := by
  show (([prI a 1, prI b 1]).all stoneB && incB (rowOf [prI a 1, prI b 1])) = false
  have : incB (rowOf [prI a 1, prI b 1]) = false := by
    show (decide (a < b) && true) = false
    rw [decide_eq_false h]
    rfl
  rw [this, Bool.and_false]
theorem hgt0 (a b : Int) (h : ¬ 0 < b) : rowB (.lst [prI a b]) = false := by
  show (((true && decide (0 < b)) && true) && _) = false
  rw [decide_eq_false h]
  rfl
def allB (p : Da → Prop) : List Da → Prop
  | [] => True
  | d :: ds => p d ∧ allB p ds
theorem allB_mem {p : Da → Prop} : ∀ {ds : List Da}, allB p ds → ∀ x ∈ ds, p x
  | [], _, x, hx => by cases hx
  | d :: ds, h, x, hx => by
    rcases List.mem_cons.mp hx with rfl | hx
    · exact h.1
    · exact allB_mem h.2 x hx
theorem rows_bad {c : Int} (hc : 0 ≤ c) : ∀ x ∈ rowsL c, kn3 x = true ∧ rowB x = false := by
  intro x hx
  unfold rowsL at hx
  rcases List.mem_append.mp hx with hx | hx
  · rcases List.mem_append.mp hx with hx | hx
    · refine allB_mem (p := fun x => kn3 x = true ∧ rowB x = false) ?_ x hx
      unfold rowsA
      exact ⟨⟨rfl, rfl⟩, ⟨rfl, rfl⟩, ⟨rfl, rfl⟩, ⟨rfl, rfl⟩, ⟨rfl, rfl⟩, ⟨rfl, rfl⟩, ⟨rfl, rfl⟩, ⟨rfl, rfl⟩, ⟨rfl, rfl⟩, ⟨rfl, rfl⟩, ⟨rfl, rfl⟩, ⟨rfl, rfl⟩, ⟨rfl, hgt0 _ _ (by omega)⟩, trivial⟩
    · refine allB_mem (p := fun x => kn3 x = true ∧ rowB x = false) ?_ x hx
      unfold rowsB
      exact ⟨⟨rfl, rfl⟩, ⟨rfl, rfl⟩, ⟨rfl, rfl⟩, ⟨rfl, rfl⟩, ⟨rfl, inc1 _ _ (by omega)⟩, ⟨rfl, inc1 _ _ (by omega)⟩, ⟨rfl, hgt0 _ _ (by omega)⟩, trivial⟩
  · refine allB_mem (p := fun x => kn3 x = true ∧ rowB x = false) ?_ x hx
    unfold rowsC
    exact ⟨⟨rfl, by decide⟩, ⟨rfl, inc1 _ _ (by omega)⟩, ⟨rfl, by decide⟩, ⟨rfl, by decide⟩, trivial⟩
theorem ix_bad {i : Int} (h : ¬ (0 ≤ i ∧ i < 3)) : ixB goodRow (.int i) = false := by
  show (decide (0 ≤ i) && decide (i < 3)) = false
  rw [Bool.and_eq_false_iff, decide_eq_false_iff_not, decide_eq_false_iff_not]
  omega
theorem stones_bad {c : Int} (hc : 0 ≤ c) : ∀ x ∈ stonesL c, kn1 x = true ∧ ixB goodRow x = false := by
  intro x hx
  refine allB_mem (p := fun x => kn1 x = true ∧ ixB goodRow x = false) ?_ x hx
  unfold stonesL
  exact ⟨⟨rfl, rfl⟩, ⟨rfl, ix_bad (by omega)⟩, ⟨rfl, ix_bad (by omega)⟩, ⟨rfl, ix_bad (by omega)⟩, ⟨rfl, ix_bad (by omega)⟩, ⟨rfl, rfl⟩, ⟨rfl, rfl⟩, ⟨rfl, rfl⟩, ⟨rfl, rfl⟩, ⟨rfl, rfl⟩, trivial⟩
theorem side_bad {i : Int} (h : ¬ (i = 1 ∨ i = -1)) : sideB (.int i) = false := by
  show (decide (i = 1) || decide (i = -1)) = false
  rw [Bool.or_eq_false_iff, decide_eq_false_iff_not, decide_eq_false_iff_not]
  omega
theorem sides_bad {c : Int} (hc : 0 ≤ c) : ∀ x ∈ sidesL c, kn1 x = true ∧ sideB x = false := by
  intro x hx
  refine allB_mem (p := fun x => kn1 x = true ∧ sideB x = false) ?_ x hx
  unfold sidesL
  exact ⟨⟨rfl, rfl⟩, ⟨rfl, side_bad (by omega)⟩, ⟨rfl, side_bad (by omega)⟩, ⟨rfl, side_bad (by omega)⟩, ⟨rfl, side_bad (by omega)⟩, ⟨rfl, rfl⟩, ⟨rfl, rfl⟩, ⟨rfl, rfl⟩, ⟨rfl, rfl⟩, trivial⟩
def badPush (x : Da) : Prop := kn2 x = true ∧ (isPr x = false ∨ ∃ a b, x = .tup [a, b] ∧ kn1 a = true ∧ kn1 b = true ∧ ixB goodRow a = false)
theorem pushes_bad {c : Int} (hc : 0 ≤ c) : ∀ x ∈ pushesL c, badPush x := by
  intro x hx
  refine allB_mem (p := badPush) ?_ x hx
  unfold pushesL
  exact ⟨⟨rfl, .inl rfl⟩, ⟨rfl, .inl rfl⟩, ⟨rfl, .inl rfl⟩, ⟨rfl, .inl rfl⟩, ⟨rfl, .inl rfl⟩, ⟨rfl, .inl rfl⟩, ⟨rfl, .inr ⟨_, _, rfl, rfl, rfl, ix_bad (by omega)⟩⟩, ⟨rfl, .inr ⟨_, _, rfl, rfl, rfl, ix_bad (by omega)⟩⟩, ⟨rfl, .inr ⟨_, _, rfl, rfl, rfl, rfl⟩⟩, ⟨rfl, .inl rfl⟩, trivial⟩
/-! ### the doors -/
section
variable {C : CS} {x : Da} {o : Out}
theorem fel_row (h : kn3 x = true ∧ rowB x = false) : P_felled C [x, .int (-1), .int 0] (.ex C.BadRow) := ⟨x, _, _, rfl, ⟨h.1, rfl, rfl⟩, .inl ⟨h.2, rfl⟩⟩
theorem rea_row (h : kn3 x = true ∧ rowB x = false) : P_reached C [x, .non, .int (-1)] (.ex C.BadRow) := ⟨x, _, _, rfl, ⟨h.1, rfl, rfl⟩, .inl ⟨h.2, rfl⟩⟩
theorem hig_row (h : kn3 x = true ∧ rowB x = false) : P_higher C [x, .int (-1)] (.ex C.BadRow) := ⟨x, _, rfl, ⟨h.1, rfl⟩, .inl ⟨h.2, rfl⟩⟩
theorem due_row {door : Int} (hd : 0 ≤ door ∧ door < 7) (h : kn3 x = true ∧ rowB x = false) : askP C door x (.ex C.BadRow) := by
  by_cases h4 : door < 4
  · exact .inl ⟨⟨hd.1, h4⟩, h.1, h.2, rfl⟩
  · have c : door = 4 ∨ door = 5 ∨ door = 6 := by omega
    rcases c with rfl | rfl | rfl
    · exact .inr (.inl ⟨rfl, fel_row h⟩)
    · exact .inr (.inr (.inl ⟨rfl, rea_row h⟩))
    · exact .inr (.inr (.inr (.inl ⟨rfl, hig_row h⟩)))
theorem stoneX (h : ixB goodRow x = false) {good : Nat → Out → Prop} : oStone C goodRow x good (.ex C.BadStone) := .inl ⟨h, rfl⟩
theorem reaG {p y : Da} (hp : kn2 p = true) (hy : kn1 y = true) (h : oPush C p (fun a b => oStone C goodRow a fun _ => oSide C b fun _ => oStone C goodRow y fun _ _ => False) o) : P_reached C [rowD goodRow, p, y] o :=
  ⟨_, p, y, rfl, ⟨kGood, hp, hy⟩, .inr ⟨goodRow, rfl, okGood, h⟩⟩
theorem felG {a b : Da} (ha : kn1 a = true) (hb : kn1 b = true) (h : oStone C goodRow a (fun i => oSide C b fun sd o => o = .ls (intL (fellL goodRow i sd))) o) : P_felled C [rowD goodRow, a, b] o :=
  ⟨_, a, b, rfl, ⟨kGood, ha, hb⟩, .inr ⟨goodRow, rfl, okGood, h⟩⟩
theorem goodI (j : Nat) (h : j < 3) {good : Nat → Out → Prop} (hg : good j o) : oStone C goodRow (.int j) good o := .inr ⟨j, rfl, h, hg⟩
theorem due_stone {door : Int} (hd : 7 ≤ door ∧ door < 12) (h : kn1 x = true ∧ ixB goodRow x = false) : askP C door x (.ex C.BadStone) := by
  have c : door = 7 ∨ door = 8 ∨ door = 9 ∨ door = 10 ∨ door = 11 := by omega
  have kp : ∀ n : Int, kn2 (.tup [x, .int n]) = true := fun n => by
    show (kn1 x && (true && true)) = true
    rw [h.1]
    rfl
  unfold askP
  rcases c with rfl | rfl | rfl | rfl | rfl
  · exact .inr (.inr (.inr (.inr (.inl ⟨rfl, felG h.1 rfl (stoneX h.2)⟩))))
  · exact .inr (.inr (.inr (.inr (.inr (.inl ⟨rfl, _, _, rfl, ⟨kGood, h.1⟩, .inr ⟨goodRow, rfl, okGood, stoneX h.2⟩⟩)))))
  · exact .inr (.inr (.inr (.inr (.inr (.inr (.inl ⟨rfl, reaG rfl h.1 (.inr ⟨_, _, rfl, rfl, rfl, goodI 1 (by decide) (.inr ⟨1, rfl, .inl rfl, stoneX h.2⟩)⟩)⟩))))))
  · exact .inr (.inr (.inr (.inr (.inr (.inr (.inr (.inl ⟨rfl, reaG (kp 0) rfl (.inr ⟨_, _, rfl, h.1, rfl, stoneX h.2⟩)⟩)))))))
  · exact .inr (.inr (.inr (.inr (.inr (.inr (.inr (.inr (.inl ⟨rfl, reaG (kp 1) rfl (.inr ⟨_, _, rfl, h.1, rfl, stoneX h.2⟩)⟩))))))))
theorem due_push (h : badPush x) : askP C 12 x (.ex C.BadStone) := by
  refine .inr (.inr (.inr (.inr (.inr (.inr (.inr (.inr (.inr (.inl ⟨rfl, reaG h.1 rfl ?_⟩)))))))))
  rcases h.2 with hp | ⟨a, b, rfl, ka, kb, hi⟩
  · exact .inl ⟨hp, rfl⟩
  · exact .inr ⟨a, b, rfl, ka, kb, stoneX hi⟩
theorem due_side {door : Int} (hd : door = 13 ∨ door = 14) (h : kn1 x = true ∧ sideB x = false) : askP C door x (.ex C.BadSide) := by
  have kp : kn2 (.tup [.int 1, x]) = true := by
    show (true && (kn1 x && true)) = true
    rw [h.1]
    rfl
  rcases hd with rfl | rfl
  · exact .inr (.inr (.inr (.inr (.inr (.inr (.inr (.inr (.inr (.inr (.inl ⟨rfl, felG rfl h.1 (goodI 1 (by decide) (.inl ⟨h.2, rfl⟩))⟩))))))))))
  · exact .inr (.inr (.inr (.inr (.inr (.inr (.inr (.inr (.inr (.inr (.inr ⟨rfl, reaG kp rfl (.inr ⟨_, _, rfl, rfl, h.1, goodI 1 (by decide) (.inl ⟨h.2, rfl⟩)⟩)⟩))))))))))
end
/-! ### the law -/
theorem atI_some {ds : List Da} {i : Int} (h0 : 0 ≤ i) (h1 : i < ds.length) : ∃ d, d ∈ ds ∧ atI ds i = some d := by
  have hl : i.toNat < ds.length := by omega
  refine ⟨ds[i.toNat], List.getElem_mem hl, ?_⟩
  have e := getD_atI (xs := ds) (d := Da.non) h0 h1
  rw [e, List.getD_eq_getElem?_getD, List.getElem?_eq_getElem hl]
  rfl
structure Kind where
  doors : List Int
  at_ : Nat
  things : Int → List Da
  due : Int
def kindD (C : CS) (k : Kind) : Da := .tup [.lst (intL k.doors), .cls (fa C k.at_), .int k.due]
structure KOk (K : PySem.W.Frag) (C : CS) (k : Kind) : Prop where
  ok : ∀ door ∈ k.doors, ∀ c, 0 ≤ c → ∀ x ∈ k.things c, askP C door x (.ex (clsOf C k.due))
  du : 0 ≤ k.due ∧ k.due ≤ 2
  nd : 0 < k.doors.length ∧ k.doors.length ≤ 1000
  nt : ∀ c, 0 < (k.things c).length ∧ (k.things c).length ≤ 1000
  sp : ∃ P : List Da → List Da → Prop, S_things K C (fa C k.at_) (FnL K P) ∧ ∀ c, P [.int c] (k.things c)
def kinds3 : List Kind := [⟨(List.range 7).map fun k => ((k : Nat) : Int), 4, rowsL, 0⟩, ⟨[7, 8, 9, 10, 11], 5, stonesL, 1⟩, ⟨[13, 14], 6, sidesL, 2⟩]
def kind4 : Kind := ⟨[12], 7, pushesL, 1⟩
theorem kinds_ok (K : PySem.W.Frag) (C : CS) : ∀ k ∈ kinds3 ++ [kind4], KOk K C k := by
  intro k hk
  have hk' : k = ⟨(List.range 7).map fun k => ((k : Nat) : Int), 4, rowsL, 0⟩ ∨ k = ⟨[7, 8, 9, 10, 11], 5, stonesL, 1⟩ ∨ k = ⟨[13, 14], 6, sidesL, 2⟩ ∨ k = kind4 := by
    simpa [kinds3] using hk
  rcases hk' with rfl | rfl | rfl | rfl
  · refine ⟨fun door hd c hc x hx => due_row ?_ (rows_bad hc x hx), ⟨by decide, by decide⟩, by decide, fun c => ⟨show 0 < 24 by decide, show 24 ≤ 1000 by decide⟩, P_law_rows, .inl ⟨rfl, rfl⟩, fun c => ⟨c, rfl, rfl⟩⟩
    obtain ⟨n, hn, rfl⟩ := List.mem_map.mp hd
    have := List.mem_range.mp hn
    omega
  · refine ⟨fun door hd c hc x hx => due_stone ?_ (stones_bad hc x hx), ⟨by decide, by decide⟩, by decide, fun c => ⟨show 0 < 10 by decide, show 10 ≤ 1000 by decide⟩, P_law_stones, .inr (.inl ⟨rfl, rfl⟩), fun c => ⟨c, rfl, rfl⟩⟩
    have hd' : door = 7 ∨ door = 8 ∨ door = 9 ∨ door = 10 ∨ door = 11 := by simpa using hd
    omega
  · refine ⟨fun door hd c hc x hx => due_side (by simpa using hd) (sides_bad hc x hx), ⟨by decide, by decide⟩, by decide, fun c => ⟨show 0 < 9 by decide, show 9 ≤ 1000 by decide⟩, P_law_sides, .inr (.inr (.inl ⟨rfl, rfl⟩)), fun c => ⟨c, rfl, rfl⟩⟩
  · refine ⟨fun door hd c hc x hx => ?_, ⟨by decide, by decide⟩, by decide, fun c => ⟨show 0 < 10 by decide, show 10 ≤ 1000 by decide⟩, P_law_pushes, .inr (.inr (.inr ⟨rfl, rfl⟩)), fun c => ⟨c, rfl, rfl⟩⟩
    have hd' : door = 12 := List.mem_singleton.mp hd
    subst hd'
    exact due_push (pushes_bad hc x hx)
section
variable {K : PySem.W.Frag} {C : CS}
theorem ev_due {env : En} {ta tb tc : TE} {door due : Int} {x : Da} (ha : EvE K ta env (.int door)) (hb : EvE K tb env x) (hc : EvE K tc env (.int due)) (hd : 0 ≤ due ∧ due ≤ 2) (h : askP C door x (.ex (clsOf C due))) :
    EvE K (tCall (sp_law_due K C) [] E0 (tCons ta (tCons tb (tCons tc tNil)))) env (.bl true) := ev_call (ds := [.int door, x, .int due]) (ea_cons ha (ea_cons hb (ea_cons hc ea_nil))) ⟨door, x, due, rfl, hd, h, rfl⟩
theorem run_law {ds : List Da} {d : Da} (h : P_law ds d) : Run K (t_law K C) (ent ds 8) (retD d) := by
  obtain ⟨ns, rfl, hl, rfl⟩ := h
  refine run_seq (run_asg (d := .lst (kinds3.map (kindD C))) ?_ ?_)
  · refine ev_new (en_lst (ea_cons ?_ (ea_cons ?_ (ea_cons ?_ ea_nil))) (show 3 ≤ 100000 by decide))
    · refine ev_tup (ea_cons ?_ (ea_cons ev_cls (ea_cons ev_int ea_nil)))
      refine ev_new ((en_listRg1 (j := 7) ev_int (RgOk.of_le (by decide) (by decide) (by decide) (by decide))).is ?_)
      show _ = intL ((List.range 7).map fun k => ((k : Nat) : Int))
      unfold intL
      rw [List.map_map]
      rfl
    · exact ev_tup (ea_cons (ev_new (en_lst (ea_cons ev_int (ea_cons ev_int (ea_cons ev_int (ea_cons ev_int (ea_cons ev_int ea_nil))))))) (ea_cons ev_cls (ea_cons ev_int ea_nil)))
    · exact ev_tup (ea_cons (ev_new (en_lst (ea_cons ev_int (ea_cons ev_int ea_nil)))) (ea_cons ev_cls (ea_cons ev_int ea_nil)))
  refine run_seq (run_for (ds := kinds3.map (kindD C) ++ [kindD C kind4]) (wk_list (ev_new (en_cat (ev_var rfl) (ev_new (en_lst (ea_cons ?_ ea_nil))) (by simp [kinds3])))) (fun _ e => ∃ a2 a3 a4 a5 a6 a7 a8, e = [.im (.sq (intL ns)), .im (.lst (kinds3.map (kindD C))), a2, a3, a4, a5, a6, a7, a8]) ⟨_, _, _, _, _, _, _, rfl⟩ ?_ ?_)
  · exact ev_tup (ea_cons (ev_new (en_lst (ea_cons ev_int ea_nil))) (ea_cons ev_cls (ea_cons ev_int ea_nil)))
  · rintro n dd e hn ⟨a2, a3, a4, a5, a6, a7, a8, rfl⟩
    have hmem := List.mem_of_getElem? hn
    obtain ⟨k, hk, rfl⟩ : ∃ k, k ∈ kinds3 ++ [kind4] ∧ kindD C k = dd := by
      have hm : dd ∈ (kinds3 ++ [kind4]).map (kindD C) := by
        rw [List.map_append]
        exact hmem
      obtain ⟨k, hk, e⟩ := List.mem_map.mp hm
      exact ⟨k, hk, e⟩
    have o := kinds_ok K C k hk
    obtain ⟨P, hS, hP⟩ := o.sp
    refine ⟨_, ts_tup3 ts_name ts_name ts_name, ?_⟩
    show Run K _ [.im (.sq (intL ns)), .im (.lst (kinds3.map (kindD C))), .im (.lst (intL k.doors)), .im (.cls (fa C k.at_)), .im (.int k.due), a5, a6, a7, a8] _
    refine run_seq (run_for (ds := intL k.doors) (wk_list (ev_var rfl)) (fun _ e => ∃ a5 a6 a7 a8, e = [.im (.sq (intL ns)), .im (.lst (kinds3.map (kindD C))), .im (.lst (intL k.doors)), .im (.cls (fa C k.at_)), .im (.int k.due), a5, a6, a7, a8]) ⟨_, _, _, _, rfl⟩ ?_ ?_)
    · rintro m dd e hm ⟨a5, a6, a7, a8, rfl⟩
      obtain ⟨door, hdm, rfl⟩ : ∃ door, door ∈ k.doors ∧ Da.int door = dd := by
        obtain ⟨j, hj, e⟩ := List.mem_map.mp (List.mem_of_getElem? hm)
        exact ⟨j, hj, e⟩
      refine ⟨_, ts_name, ?_⟩
      show Run K _ [.im (.sq (intL ns)), .im (.lst (kinds3.map (kindD C))), .im (.lst (intL k.doors)), .im (.cls (fa C k.at_)), .im (.int k.due), .im (.int door), a6, a7, a8] _
      refine run_if (b := !true) (eb_not (eb_B ?_)) (fun z => by cases z) fun _ => run_next ⟨_, _, _, _, rfl⟩
      refine (ev_all (bs := (((k.things ns.length).filter fun _ => true).map fun _ => true)) (ev_new ?_)).is (by rw [List.filter_eq_self.mpr fun _ _ => rfl]; congr 1; rw [List.all_map]; exact List.all_eq_true.mpr fun _ _ => rfl)
      refine (en_lc (us := [8]) (fun d : Da => d) (fun _ => true) (fun d => Da.bl true) (k.things ns.length) ?_ (by simp) (by have := (o.nt ns.length).2; omega) fun d hd => ⟨_, tc_name, eb_yes, fun _ => ?_⟩).is (by rw [List.map_map]; rfl)
      · rw [List.map_id']
        refine wk_list (ev_new (en_callFL (ev_var rfl) hS (ea_cons ?_ ea_nil) (hP ns.length)))
        refine (ev_lenQ (ds := intL ns) (ev_var rfl)).is ?_
        rw [List.length_map]
      · exact ev_due (ev_var rfl) (ev_var rfl) (ev_var rfl) o.du (o.ok door hdm ns.length (by omega) d hd)
    · rintro e ⟨a5, a6, a7, a8, rfl⟩
      refine run_for (ds := intL ns) (wk_sq (ev_var rfl)) (fun _ e => ∃ a5 a6 a7 a8, e = [.im (.sq (intL ns)), .im (.lst (kinds3.map (kindD C))), .im (.lst (intL k.doors)), .im (.cls (fa C k.at_)), .im (.int k.due), a5, a6, a7, a8]) ⟨_, _, _, _, rfl⟩ ?_ ?_
      · rintro m dd e hm ⟨a5, a6, a7, a8, rfl⟩
        obtain ⟨cell, hdm, rfl⟩ : ∃ door, door ∈ ns ∧ Da.int door = dd := by
          obtain ⟨j, hj, e⟩ := List.mem_map.mp (List.mem_of_getElem? hm)
          exact ⟨j, hj, e⟩
        refine ⟨_, ts_name, ?_⟩
        show Run K _ [.im (.sq (intL ns)), .im (.lst (kinds3.map (kindD C))), .im (.lst (intL k.doors)), .im (.cls (fa C k.at_)), .im (.int k.due), a5, .im (.int cell), a7, a8] _
        have hp : (0 : Int) < 10 ^ (60 : Int).toNat := by decide +kernel
        refine run_seq (run_asg (d := .lst (k.things (cell % 10 ^ (60 : Int).toNat))) (ev_new (en_callFL (ev_var rfl) hS (ea_cons (ev_mod (ev_var rfl) (ev_pow ev_int ev_int ⟨by decide, by decide, by decide⟩) hp) ea_nil) (hP _))) ?_)
        obtain ⟨t1, t2⟩ := o.nt (cell % 10 ^ (60 : Int).toNat)
        obtain ⟨d1, d2⟩ := o.nd
        have hdl : (0 : Int) < ((intL k.doors).length : Int) := by
          rw [List.length_map]
          omega
        have htl : (0 : Int) < ((k.things (cell % 10 ^ (60 : Int).toNat)).length : Int) := by omega
        obtain ⟨dd, hd1, hd2⟩ := atI_some (ds := intL k.doors) (Int.emod_nonneg cell (by omega : ((intL k.doors).length : Int) ≠ 0)) (Int.emod_lt_of_pos cell hdl)
        obtain ⟨door, hdm, rfl⟩ : ∃ door, door ∈ k.doors ∧ Da.int door = dd := by
          obtain ⟨j, hj, e⟩ := List.mem_map.mp hd1
          exact ⟨j, hj, e⟩
        obtain ⟨x, hx1, hx2⟩ := atI_some (ds := k.things (cell % 10 ^ (60 : Int).toNat)) (Int.emod_nonneg (cell / ((intL k.doors).length : Int)) (by omega : ((k.things (cell % 10 ^ (60 : Int).toNat)).length : Int) ≠ 0)) (Int.emod_lt_of_pos _ htl)
        refine run_if (b := !true) (eb_not (eb_B ?_)) (fun z => by cases z) fun _ => run_next ⟨_, _, _, _, rfl⟩
        refine ev_due (ev_ixL (ev_var rfl) (ev_mod (ev_var rfl) (ev_lenL (ev_var rfl)) hdl) hd2) (ev_ixL (ev_var rfl) (ev_mod (ev_divW (ev_var rfl) (ev_lenL (ev_var rfl)) ⟨hdl, ?_⟩) (ev_lenL (ev_var rfl)) htl) hx2) (ev_var rfl) o.du (o.ok door hdm _ (Int.emod_nonneg _ (by omega)) x hx1)
        have : ((intL k.doors).length : Int).natAbs < 2 ^ 10 := by
          rw [List.length_map]
          omega
        have := (Nat.log2_lt (by omega)).mpr this
        omega
      · rintro e ⟨a5, a6, a7, a8, rfl⟩
        exact ⟨_, _, _, _, _, _, _, rfl⟩
  · rintro e ⟨a2, a3, a4, a5, a6, a7, a8, rfl⟩
    refine run_seq (run_if (b := !true || (!true || !true)) (eb_or (eb_not (eb_B ?_)) fun _ => eb_or (eb_not (eb_B ?_)) fun _ => eb_not (eb_B ?_)) (fun z => by cases z) fun _ => run_next ?_)
    · exact ev_due ev_int ev_int ev_int (by decide) (.inr (.inr (.inr (.inr (.inl ⟨rfl, felG rfl rfl (goodI 0 (by decide) (.inl ⟨rfl, rfl⟩))⟩)))))
    · refine ev_due (x := rowD []) ev_int (ev_new (en_lst ea_nil)) ev_int (by decide) (.inr (.inl ⟨rfl, _, _, _, rfl, ⟨rfl, rfl, rfl⟩, .inr ⟨[], rfl, ok0, .inl ⟨rfl, rfl⟩⟩⟩))
    · refine ev_due (x := rowD [(0, 1)]) ev_int (ev_new (en_lst (ea_cons (ev_tup (ea_cons ev_int (ea_cons ev_int ea_nil))) ea_nil))) ev_int (by decide) (.inr (.inr (.inl ⟨rfl, _, _, _, rfl, ⟨rfl, rfl, rfl⟩, .inr ⟨[(0, 1)], rfl, ok01, .inl ⟨rfl, rfl⟩⟩⟩)))
    refine run_ret (d := .bl (true && true)) (ev_andV ?_ fun _ => ?_) rfl
    · refine (ev_eqInts (ns := fellL [(0, 1)] 0 (-1)) (ms := [0]) (ev_new (en_callR (ds := [rowD [(0, 1)], .int 0, .int (-1)]) (ea_cons (ev_new (en_lst (ea_cons (ev_tup (ea_cons ev_int (ea_cons ev_int ea_nil))) ea_nil))) (ea_cons ev_int (ea_cons (ev_neg ev_int) ea_nil))) ⟨_, _, _, rfl, ⟨rfl, rfl, rfl⟩, .inr ⟨[(0, 1)], rfl, ok01, .inr ⟨0, rfl, by decide, .inr ⟨-1, rfl, .inr rfl, rfl⟩⟩⟩⟩)) (ev_new (en_lst (ea_cons ev_int ea_nil)))).is ?_
      rw [decide_eq_true (by decide : fellL [(0, 1)] 0 (-1) = [0])]
    · refine (ev_eqRow (ns := mir []) (ms := []) (ev_new (en_callR (ds := [rowD []]) (ea_cons (ev_new (en_lst ea_nil)) ea_nil) ⟨_, rfl, rfl, .inr ⟨[], rfl, ok0, rfl⟩⟩)) (ev_new (en_lst ea_nil))).is rfl
end
end FX

namespace FX
open PySem L2 Evl FR
open PySem.Spec PyProof.Rows
section
variable {K : PySem.W.Frag} {C : CS} {vs : List V} {H : Hp} {Q : VK} {E : XK}
theorem lenP_is_number {ds : List Da} {d : Da} (h : P_is_number ds d) : ds.length = 1 := by
  repeat (rcases h with ⟨z, h⟩; first | (subst z; rfl) | skip)
theorem len_is_number (h : sp_is_number K C vs H Q E) : vs.length = 1 := len_P (m := 1) (fun _ _ p => lenP_is_number p) h
theorem pure_is_number (h : sp_is_number K C vs H Q E) : t_is_number K C { nx := fun _ H' => Q .non H', rt := Q } (start ["thing"] vs) H := fnP_of 0 (fun _ _ p => by rw [lenP_is_number p] <;> rfl) (fun _ _ p => run_is_number p) h
theorem lenP_is_pair {ds : List Da} {d : Da} (h : P_is_pair ds d) : ds.length = 1 := by
  repeat (rcases h with ⟨z, h⟩; first | (subst z; rfl) | skip)
theorem len_is_pair (h : sp_is_pair K C vs H Q E) : vs.length = 1 := len_P (m := 1) (fun _ _ p => lenP_is_pair p) h
theorem pure_is_pair (h : sp_is_pair K C vs H Q E) : t_is_pair K C { nx := fun _ H' => Q .non H', rt := Q } (start ["thing"] vs) H := fnP_of 0 (fun _ _ p => by rw [lenP_is_pair p] <;> rfl) (fun _ _ p => run_is_pair p) h
theorem lenP_check_row {ds : List Da} {o : Out} (h : P_check_row C ds o) : ds.length = 1 := by
  repeat (rcases h with ⟨z, h⟩; first | (subst z; rfl) | skip)
theorem len_check_row (h : sp_check_row K C vs H Q E) : vs.length = 1 := len_R (m := 1) (fun _ _ p => lenP_check_row p) h
theorem pure_check_row (h : sp_check_row K C vs H Q E) : t_check_row K C E { nx := fun _ H' => Q .non H', rt := Q } (start ["row", "stone", "at"] vs) H := fnR_of (t := t_check_row K C) 2 (fun _ _ p => by rw [lenP_check_row p] <;> rfl) (fun _ _ _ p => run_check_row p) h
theorem lenP_check_stone {ds : List Da} {o : Out} (h : P_check_stone C ds o) : ds.length = 2 := by
  repeat (rcases h with ⟨z, h⟩; first | (subst z; rfl) | skip)
theorem len_check_stone (h : sp_check_stone K C vs H Q E) : vs.length = 2 := len_R (m := 2) (fun _ _ p => lenP_check_stone p) h
theorem pure_check_stone (h : sp_check_stone K C vs H Q E) : t_check_stone K C E { nx := fun _ H' => Q .non H', rt := Q } (start ["row", "stone"] vs) H := fnR_of (t := t_check_stone K C) 0 (fun _ _ p => by rw [lenP_check_stone p] <;> rfl) (fun _ _ _ p => run_check_stone p) h
theorem lenP_check_side {ds : List Da} {o : Out} (h : P_check_side C ds o) : ds.length = 1 := by
  repeat (rcases h with ⟨z, h⟩; first | (subst z; rfl) | skip)
theorem len_check_side (h : sp_check_side K C vs H Q E) : vs.length = 1 := len_R (m := 1) (fun _ _ p => lenP_check_side p) h
theorem pure_check_side (h : sp_check_side K C vs H Q E) : t_check_side K C E { nx := fun _ H' => Q .non H', rt := Q } (start ["side"] vs) H := fnR_of (t := t_check_side K C) 0 (fun _ _ p => by rw [lenP_check_side p] <;> rfl) (fun _ _ _ p => run_check_side p) h
theorem lenP_last_felled {ds : List Da} {d : Da} (h : P_last_felled ds d) : ds.length = 3 := by
  repeat (rcases h with ⟨z, h⟩; first | (subst z; rfl) | skip)
theorem len_last_felled (h : sp_last_felled K C vs H Q E) : vs.length = 3 := len_P (m := 3) (fun _ _ p => lenP_last_felled p) h
theorem pure_last_felled (h : sp_last_felled K C vs H Q E) : t_last_felled K C { nx := fun _ H' => Q .non H', rt := Q } (start ["row", "stone", "side", "far", "last"] vs) H := fnP_of 2 (fun _ _ p => by rw [lenP_last_felled p] <;> rfl) (fun _ _ p => run_last_felled p) h
theorem lenP_felled_by {ds es : List Da} (h : P_felled_by ds es) : ds.length = 3 := by
  repeat (rcases h with ⟨z, h⟩; first | (subst z; rfl) | skip)
theorem len_felled_by (h : sp_felled_by K C vs H Q E) : vs.length = 3 := len_L (m := 3) (fun _ _ p => lenP_felled_by p) h
theorem pure_felled_by (h : sp_felled_by K C vs H Q E) : t_felled_by K C { nx := fun _ H' => Q .non H', rt := Q } (start ["row", "stone", "side", "last"] vs) H := fnL_of 1 (fun _ _ p => by rw [lenP_felled_by p] <;> rfl) (fun _ _ p => run_felled_by p) h
theorem lenP_mirrored {ds : List Da} {o : Out} (h : P_mirrored C ds o) : ds.length = 1 := by
  repeat (rcases h with ⟨z, h⟩; first | (subst z; rfl) | skip)
theorem len_mirrored (h : sp_mirrored K C vs H Q E) : vs.length = 1 := len_R (m := 1) (fun _ _ p => lenP_mirrored p) h
theorem pure_mirrored (h : sp_mirrored K C vs H Q E) : t_mirrored K C E { nx := fun _ H' => Q .non H', rt := Q } (start ["row", "place", "height"] vs) H := fnR_of (t := t_mirrored K C) 2 (fun _ _ p => by rw [lenP_mirrored p] <;> rfl) (fun _ _ _ p => run_mirrored p) h
theorem lenP_felled {ds : List Da} {o : Out} (h : P_felled C ds o) : ds.length = 3 := by
  repeat (rcases h with ⟨z, h⟩; first | (subst z; rfl) | skip)
theorem len_felled (h : sp_felled K C vs H Q E) : vs.length = 3 := len_R (m := 3) (fun _ _ p => lenP_felled p) h
theorem pure_felled (h : sp_felled K C vs H Q E) : t_felled K C E { nx := fun _ H' => Q .non H', rt := Q } (start ["row", "stone", "side"] vs) H := fnR_of (t := t_felled K C) 0 (fun _ _ p => by rw [lenP_felled p] <;> rfl) (fun _ _ _ p => run_felled p) h
theorem lenP_reached {ds : List Da} {o : Out} (h : P_reached C ds o) : ds.length = 3 := by
  repeat (rcases h with ⟨z, h⟩; first | (subst z; rfl) | skip)
theorem len_reached (h : sp_reached K C vs H Q E) : vs.length = 3 := len_R (m := 3) (fun _ _ p => lenP_reached p) h
theorem pure_reached (h : sp_reached K C vs H Q E) : t_reached K C E { nx := fun _ H' => Q .non H', rt := Q } (start ["row", "push", "stone", "last", "far"] vs) H := fnR_of (t := t_reached K C) 2 (fun _ _ p => by rw [lenP_reached p] <;> rfl) (fun _ _ _ p => run_reached p) h
theorem lenP_fewest {ds : List Da} {o : Out} (h : P_fewest C ds o) : ds.length = 1 := by
  repeat (rcases h with ⟨z, h⟩; first | (subst z; rfl) | skip)
theorem len_fewest (h : sp_fewest K C vs H Q E) : vs.length = 1 := len_R (m := 1) (fun _ _ p => lenP_fewest p) h
theorem pure_fewest (h : sp_fewest K C vs H Q E) : t_fewest K C E { nx := fun _ H' => Q .non H', rt := Q } (start ["row", "spans", "pushes", "stones", "stone", "end", "push", "first", "last"] vs) H := fnR_of (t := t_fewest K C) 8 (fun _ _ p => by rw [lenP_fewest p] <;> rfl) (fun _ _ _ p => run_fewest p) h
theorem lenP_rights {ds : List Da} {o : Out} (h : P_rights C ds o) : ds.length = 1 := by
  repeat (rcases h with ⟨z, h⟩; first | (subst z; rfl) | skip)
theorem len_rights (h : sp_rights K C vs H Q E) : vs.length = 1 := len_R (m := 1) (fun _ _ p => lenP_rights p) h
theorem pure_rights (h : sp_rights K C vs H Q E) : t_rights K C E { nx := fun _ H' => Q .non H', rt := Q } (start ["row", "found", "stone"] vs) H := fnR_of (t := t_rights K C) 2 (fun _ _ p => by rw [lenP_rights p] <;> rfl) (fun _ _ _ p => run_rights p) h
theorem lenP_higher {ds : List Da} {o : Out} (h : P_higher C ds o) : ds.length = 2 := by
  repeat (rcases h with ⟨z, h⟩; first | (subst z; rfl) | skip)
theorem len_higher (h : sp_higher K C vs H Q E) : vs.length = 2 := len_R (m := 2) (fun _ _ p => lenP_higher p) h
theorem pure_higher (h : sp_higher K C vs H Q E) : t_higher K C E { nx := fun _ H' => Q .non H', rt := Q } (start ["row", "stone", "number", "found", "far", "other"] vs) H := fnR_of (t := t_higher K C) 4 (fun _ _ p => by rw [lenP_higher p] <;> rfl) (fun _ _ _ p => run_higher p) h
theorem lenP_written {ds : List Da} {o : Out} (h : P_written C ds o) : ds.length = 1 := by
  repeat (rcases h with ⟨z, h⟩; first | (subst z; rfl) | skip)
theorem len_written (h : sp_written K C vs H Q E) : vs.length = 1 := len_R (m := 1) (fun _ _ p => lenP_written p) h
theorem pure_written (h : sp_written K C vs H Q E) : t_written K C E { nx := fun _ H' => Q .non H', rt := Q } (start ["row", "place", "height"] vs) H := fnR_of (t := t_written K C) 2 (fun _ _ p => by rw [lenP_written p] <;> rfl) (fun _ _ _ p => run_written p) h
theorem lenP_law_ask {ds : List Da} {o : Out} (h : P_law_ask C ds o) : ds.length = 2 := by
  repeat (rcases h with ⟨z, h⟩; first | (subst z; rfl) | skip)
theorem len_law_ask (h : sp_law_ask K C vs H Q E) : vs.length = 2 := len_R (m := 2) (fun _ _ p => lenP_law_ask p) h
theorem pure_law_ask (h : sp_law_ask K C vs H Q E) : t_law_ask K C E { nx := fun _ H' => Q .non H', rt := Q } (start ["_law_door", "_law_thing", "_law_good"] vs) H := fnR_of (t := t_law_ask K C) 1 (fun _ _ p => by rw [lenP_law_ask p] <;> rfl) (fun _ _ _ p => run_law_ask p) h
theorem lenP_law_due {ds : List Da} {d : Da} (h : P_law_due C ds d) : ds.length = 3 := by
  repeat (rcases h with ⟨z, h⟩; first | (subst z; rfl) | skip)
theorem len_law_due (h : sp_law_due K C vs H Q E) : vs.length = 3 := len_P (m := 3) (fun _ _ p => lenP_law_due p) h
theorem pure_law_due (A : ExcFs K C) (h : sp_law_due K C vs H Q E) : t_law_due K C { nx := fun _ H' => Q .non H', rt := Q } (start ["_law_door", "_law_thing", "_law_due_here", "error", "_law_found", "_law_k"] vs) H := fnP_of 3 (fun _ _ p => by rw [lenP_law_due p] <;> rfl) (fun _ _ p => run_law_due A p) h
theorem lenP_law_rows {ds es : List Da} (h : P_law_rows ds es) : ds.length = 1 := by
  repeat (rcases h with ⟨z, h⟩; first | (subst z; rfl) | skip)
theorem len_law_rows (h : sp_law_rows K C vs H Q E) : vs.length = 1 := len_L (m := 1) (fun _ _ p => lenP_law_rows p) h
theorem pure_law_rows (h : sp_law_rows K C vs H Q E) : t_law_rows K C { nx := fun _ H' => Q .non H', rt := Q } (start ["_law_cell", "_law_some"] vs) H := fnL_of 1 (fun _ _ p => by rw [lenP_law_rows p] <;> rfl) (fun _ _ p => run_law_rows p) h
theorem lenP_law_stones {ds es : List Da} (h : P_law_stones ds es) : ds.length = 1 := by
  repeat (rcases h with ⟨z, h⟩; first | (subst z; rfl) | skip)
theorem len_law_stones (h : sp_law_stones K C vs H Q E) : vs.length = 1 := len_L (m := 1) (fun _ _ p => lenP_law_stones p) h
theorem pure_law_stones (h : sp_law_stones K C vs H Q E) : t_law_stones K C { nx := fun _ H' => Q .non H', rt := Q } (start ["_law_cell"] vs) H := fnL_of 0 (fun _ _ p => by rw [lenP_law_stones p] <;> rfl) (fun _ _ p => run_law_stones p) h
theorem lenP_law_sides {ds es : List Da} (h : P_law_sides ds es) : ds.length = 1 := by
  repeat (rcases h with ⟨z, h⟩; first | (subst z; rfl) | skip)
theorem len_law_sides (h : sp_law_sides K C vs H Q E) : vs.length = 1 := len_L (m := 1) (fun _ _ p => lenP_law_sides p) h
theorem pure_law_sides (h : sp_law_sides K C vs H Q E) : t_law_sides K C { nx := fun _ H' => Q .non H', rt := Q } (start ["_law_cell"] vs) H := fnL_of 0 (fun _ _ p => by rw [lenP_law_sides p] <;> rfl) (fun _ _ p => run_law_sides p) h
theorem lenP_law_pushes {ds es : List Da} (h : P_law_pushes ds es) : ds.length = 1 := by
  repeat (rcases h with ⟨z, h⟩; first | (subst z; rfl) | skip)
theorem len_law_pushes (h : sp_law_pushes K C vs H Q E) : vs.length = 1 := len_L (m := 1) (fun _ _ p => lenP_law_pushes p) h
theorem pure_law_pushes (h : sp_law_pushes K C vs H Q E) : t_law_pushes K C { nx := fun _ H' => Q .non H', rt := Q } (start ["_law_cell"] vs) H := fnL_of 0 (fun _ _ p => by rw [lenP_law_pushes p] <;> rfl) (fun _ _ p => run_law_pushes p) h
theorem lenP_law {ds : List Da} {d : Da} (h : P_law ds d) : ds.length = 1 := by
  repeat (rcases h with ⟨z, h⟩; first | (subst z; rfl) | skip)
theorem len_law (h : sp_law K C vs H Q E) : vs.length = 1 := len_P (m := 1) (fun _ _ p => lenP_law p) h
theorem pure_law (h : sp_law K C vs H Q E) : t_law K C { nx := fun _ H' => Q .non H', rt := Q } (start ["_law_script", "_law_kinds", "_law_doors", "_law_things", "_law_due_here", "_law_door", "_law_cell", "_law_some", "_law_thing"] vs) H := fnP_of 8 (fun _ _ p => by rw [lenP_law p] <;> rfl) (fun _ _ p => run_law p) h
end
end FX

namespace FX
open PySem L2 Evl FR
open PySem.Spec PyProof.Rows
def topS (i : Nat) : Stmt := PySem.Challenge.pw_fallrow_k08_refused.main.body.getD i (.Pass ⟨0, 0, 0, 0⟩)
abbrev s_is_number : Stmt := topS 7
abbrev s_is_pair : Stmt := topS 8
abbrev s_check_row : Stmt := topS 9
abbrev s_check_stone : Stmt := topS 10
abbrev s_check_side : Stmt := topS 11
abbrev s_last_felled : Stmt := topS 12
abbrev s_felled_by : Stmt := topS 13
abbrev s_mirrored : Stmt := topS 14
abbrev s_felled : Stmt := topS 15
abbrev s_reached : Stmt := topS 26
abbrev s_fewest : Stmt := topS 28
abbrev s_rights : Stmt := topS 29
abbrev s_higher : Stmt := topS 30
abbrev s_written : Stmt := topS 32
abbrev s_law_ask : Stmt := topS 34
abbrev s_law_due : Stmt := topS 35
abbrev s_law_rows : Stmt := topS 36
abbrev s_law_stones : Stmt := topS 37
abbrev s_law_sides : Stmt := topS 38
abbrev s_law_pushes : Stmt := topS 39
abbrev s_law : Stmt := topS 40
theorem sc_is_number : FnScope ["thing"] ["thing"] (defScope s_is_number) := ⟨rfl, rfl, rfl, by decide +kernel, rfl, by decide +kernel, by decide +kernel⟩
theorem sc_is_pair : FnScope ["thing"] ["thing"] (defScope s_is_pair) := ⟨rfl, rfl, rfl, by decide +kernel, rfl, by decide +kernel, by decide +kernel⟩
theorem sc_check_row : FnScope ["row", "stone", "at"] ["row"] (defScope s_check_row) := ⟨rfl, rfl, rfl, by decide +kernel, rfl, by decide +kernel, by decide +kernel⟩
theorem sc_check_stone : FnScope ["row", "stone"] ["row", "stone"] (defScope s_check_stone) := ⟨rfl, rfl, rfl, by decide +kernel, rfl, by decide +kernel, by decide +kernel⟩
theorem sc_check_side : FnScope ["side"] ["side"] (defScope s_check_side) := ⟨rfl, rfl, rfl, by decide +kernel, rfl, by decide +kernel, by decide +kernel⟩
theorem sc_last_felled : FnScope ["row", "stone", "side", "far", "last"] ["row", "stone", "side"] (defScope s_last_felled) := ⟨rfl, rfl, rfl, by decide +kernel, rfl, by decide +kernel, by decide +kernel⟩
theorem sc_felled_by : FnScope ["row", "stone", "side", "last"] ["row", "stone", "side"] (defScope s_felled_by) := ⟨rfl, rfl, rfl, by decide +kernel, rfl, by decide +kernel, by decide +kernel⟩
theorem sc_mirrored : FnScope ["row", "place", "height"] ["row"] (defScope s_mirrored) := ⟨rfl, rfl, rfl, by decide +kernel, rfl, by decide +kernel, by decide +kernel⟩
theorem sc_felled : FnScope ["row", "stone", "side"] ["row", "stone", "side"] (defScope s_felled) := ⟨rfl, rfl, rfl, by decide +kernel, rfl, by decide +kernel, by decide +kernel⟩
theorem sc_reached : FnScope ["row", "push", "stone", "last", "far"] ["row", "push", "stone"] (defScope s_reached) := ⟨rfl, rfl, rfl, by decide +kernel, rfl, by decide +kernel, by decide +kernel⟩
theorem sc_fewest : FnScope ["row", "spans", "pushes", "stones", "stone", "end", "push", "first", "last"] ["row"] (defScope s_fewest) := ⟨rfl, rfl, rfl, by decide +kernel, rfl, by decide +kernel, by decide +kernel⟩
theorem sc_rights : FnScope ["row", "found", "stone"] ["row"] (defScope s_rights) := ⟨rfl, rfl, rfl, by decide +kernel, rfl, by decide +kernel, by decide +kernel⟩
theorem sc_higher : FnScope ["row", "stone", "number", "found", "far", "other"] ["row", "stone"] (defScope s_higher) := ⟨rfl, rfl, rfl, by decide +kernel, rfl, by decide +kernel, by decide +kernel⟩
theorem sc_written : FnScope ["row", "place", "height"] ["row"] (defScope s_written) := ⟨rfl, rfl, rfl, by decide +kernel, rfl, by decide +kernel, by decide +kernel⟩
theorem sc_law_ask : FnScope ["_law_door", "_law_thing", "_law_good"] ["_law_door", "_law_thing"] (defScope s_law_ask) := ⟨rfl, rfl, rfl, by decide +kernel, rfl, by decide +kernel, by decide +kernel⟩
theorem sc_law_due : FnScope ["_law_door", "_law_thing", "_law_due_here", "error", "_law_found", "_law_k"] ["_law_door", "_law_thing", "_law_due_here"] (defScope s_law_due) := ⟨rfl, rfl, rfl, by decide +kernel, rfl, by decide +kernel, by decide +kernel⟩
theorem sc_law_rows : FnScope ["_law_cell", "_law_some"] ["_law_cell"] (defScope s_law_rows) := ⟨rfl, rfl, rfl, by decide +kernel, rfl, by decide +kernel, by decide +kernel⟩
theorem sc_law_stones : FnScope ["_law_cell"] ["_law_cell"] (defScope s_law_stones) := ⟨rfl, rfl, rfl, by decide +kernel, rfl, by decide +kernel, by decide +kernel⟩
theorem sc_law_sides : FnScope ["_law_cell"] ["_law_cell"] (defScope s_law_sides) := ⟨rfl, rfl, rfl, by decide +kernel, rfl, by decide +kernel, by decide +kernel⟩
theorem sc_law_pushes : FnScope ["_law_cell"] ["_law_cell"] (defScope s_law_pushes) := ⟨rfl, rfl, rfl, by decide +kernel, rfl, by decide +kernel, by decide +kernel⟩
theorem sc_law : FnScope ["_law_script", "_law_kinds", "_law_doors", "_law_things", "_law_due_here", "_law_door", "_law_cell", "_law_some", "_law_thing"] ["_law_script"] (defScope s_law) := ⟨rfl, rfl, rfl, by decide +kernel, rfl, by decide +kernel, by decide +kernel⟩
structure Txt (w : World) (K : PySem.W.Frag) (mg : Str → Option Value) (C : CS) : Prop where
  hw : w = C.w
  b_ValueError : mg "ValueError" = none
  b_all : mg "all" = none
  b_bool : mg "bool" = none
  b_int : mg "int" = none
  b_isinstance : mg "isinstance" = none
  b_len : mg "len" = none
  b_list : mg "list" = none
  b_max : mg "max" = none
  b_min : mg "min" = none
  b_range : mg "range" = none
  b_reversed : mg "reversed" = none
  b_tuple : mg "tuple" = none
  e_BadRow : ExcCls K mg "BadRow" C.BadRow
  e_BadSide : ExcCls K mg "BadSide" C.BadSide
  e_BadStone : ExcCls K mg "BadStone" C.BadStone
  e_BadText : ExcCls K mg "BadText" C.BadText
  e_FallError : ExcCls K mg "FallError" C.FallError
  v_law_pushes : mg "_law_pushes" = some (.ref (fa C 7))
  v_law_rows : mg "_law_rows" = some (.ref (fa C 4))
  v_law_sides : mg "_law_sides" = some (.ref (fa C 6))
  v_law_stones : mg "_law_stones" = some (.ref (fa C 5))
  v_fewest : mg "fewest" = some (.ref (fa C 1))
  v_mirrored : mg "mirrored" = some (.ref (fa C 0))
  v_rights : mg "rights" = some (.ref (fa C 2))
  v_written : mg "written" = some (.ref (fa C 3))
  xf : ExcFs K C
section
variable {P : Program} {w : World} {K : PySem.W.Frag} {mg : Str → Option Value} {base : Heap} {C : CS}
theorem ok_is_number {f : Addr} {fd : FuncData} (F : Fun K "is_number" "is_number" s_is_number f fd) (T : Txt w K mg C) : FnOk P w K mg base (L2N.CX P w) 1 f fd ["thing"] (sp_is_number K C) := by
  obtain rfl := T.hw
  refine okN F sc_is_number (fun vs H Q E h => len_is_number h) (fun cdv A outer s H vs Q E hr h => ⟨t_is_number K C, PSs.nox (?_), pure_is_number h⟩)
  exact (pss_one (ps_ret (pe_and (pe_callB call_isi (by rfl) T.b_isinstance (by decide +kernel) (pa_cons (pv 0) (pa_cons (pe_bltn (v := .ty "int") (by rfl) T.b_int (by decide +kernel) rfl) pa_nil))) (pe_one (pe_not (pe_callB call_isi (by rfl) T.b_isinstance (by decide +kernel) (pa_cons (pv 0) (pa_cons (pe_bltn (v := .ty "bool") (by rfl) T.b_bool (by decide +kernel) rfl) pa_nil))))))))
theorem ok_is_pair {f : Addr} {fd : FuncData} (F : Fun K "is_pair" "is_pair" s_is_pair f fd) (T : Txt w K mg C) (g_is_number : Cal P w K mg base (L2N.CX P w) 1 "is_number" ["thing"] (sp_is_number K C)) : FnOk P w K mg base (L2N.CX P w) 2 f fd ["thing"] (sp_is_pair K C) := by
  obtain rfl := T.hw
  refine okN F sc_is_pair (fun vs H Q E h => len_is_pair h) (fun cdv A outer s H vs Q E hr h => ⟨t_is_pair K C, PSs.nox (?_), pure_is_pair h⟩)
  exact (pss_one (ps_ret (pe_and (pe_callB call_isi (by rfl) T.b_isinstance (by decide +kernel) (pa_cons (pv 0) (pa_cons (pe_bltn (v := .ty "tuple") (by rfl) T.b_tuple (by decide +kernel) rfl) pa_nil))) (pe_and (pe_cmpR op_eq (pe_callB call_len_seq (by rfl) T.b_len (by decide +kernel) (pa_cons (pv 0) pa_nil)) pe_int (nomark _)) (pe_and (pe_cal g_is_number (hr.mono (by decide)) (by rfl) passN (pa_cons (pe_ix ix_tup (pv 0) pe_int (fun _ _ => rfl)) pa_nil)) (pe_one (pe_cal g_is_number (hr.mono (by decide)) (by rfl) passN (pa_cons (pe_ix ix_tup (pv 0) pe_int (fun _ _ => rfl)) pa_nil))))))))
theorem ok_check_row {f : Addr} {fd : FuncData} (F : Fun K "check_row" "check_row" s_check_row f fd) (T : Txt w K mg C) (g_is_pair : Cal P w K mg base (L2N.CX P w) 2 "is_pair" ["thing"] (sp_is_pair K C)) : FnOk P w K mg base (L2N.CX P w) 3 f fd ["row"] (sp_check_row K C) := by
  obtain rfl := T.hw
  refine okN F sc_check_row (fun vs H Q E h => len_check_row h) (fun cdv A outer s H vs Q E hr h => ⟨t_check_row K C E, ?_, pure_check_row h⟩)
  exact (pss_cons (ps_if (PW.pt (pw_or (pt_not (pt_val (pe_callB call_isi (by rfl) T.b_isinstance (by decide +kernel) (pa_cons (pv 0) (pa_cons (pe_bltn (v := .ty "list") (by rfl) T.b_list (by decide +kernel) rfl) pa_nil))))) (pw_or1 (pt_not (pt_val (pe_callB (cr_all rfl) (by rfl) T.b_all (by decide +kernel) (pa_cons (pe_lc (own := [("stone", 1)]) (g := (gName 1)) (tt := tYes) (by rfl) sc_check_row.nd (pi_list (pv 0)) (blkOk_by (own := [("stone", 1)]) (N := ["row", "stone", "at"]) (sc := defScope s_check_row) (by decide +kernel)) (fun _ _ _ _ _ => (pg_name (i := 1) sc_check_row.nd rfl (.inl rfl))) (fun _ _ _ _ _ => pts_nil) (fun _ _ _ _ _ => (pe_and (pe_cal g_is_pair (hr.mono (by decide)) (by rfl) passN (pa_cons (pv 1) pa_nil)) (pe_one (pe_cmpR op_gt (pe_ix ix_tup (pv 1) pe_int (fun _ _ => rfl)) pe_int (nomark _)))))) pa_nil))))))) (pss_one (ps_raiseO rfl (L2N.takes_of rfl rfl rfl rfl) T.e_BadRow (by rfl))) pss_nil) (pss_one (ps_if (pt_not (pt_val (pe_callB (cr_all rfl) (by rfl) T.b_all (by decide +kernel) (pa_cons (pe_lc (own := [("at", 2)]) (g := (gName 2)) (tt := tYes) (by rfl) sc_check_row.nd (pi_range2 rfl T.b_range (pa_cons pe_int (pa_cons (pe_callB call_len_seq (by rfl) T.b_len (by decide +kernel) (pa_cons (pv 0) pa_nil)) pa_nil))) (blkOk_by (own := [("at", 2)]) (N := ["row", "stone", "at"]) (sc := defScope s_check_row) (by decide +kernel)) (fun _ _ _ _ _ => (pg_name (i := 2) sc_check_row.nd rfl (.inl rfl))) (fun _ _ _ _ _ => pts_nil) (fun _ _ _ _ _ => (pe_cmpR op_lt (pe_ix ix_tup (pe_ix ix_list (pv 0) (pe_op op_sub (pv 2) pe_int) (fun _ _ => rfl)) pe_int (fun _ _ => rfl)) (pe_ix ix_tup (pe_ix ix_list (pv 0) (pv 2) (fun _ _ => rfl)) pe_int (fun _ _ => rfl)) (nomark _)))) pa_nil)))) (pss_one (ps_raiseO rfl (L2N.takes_of rfl rfl rfl rfl) T.e_BadRow (by rfl))) pss_nil)))
theorem ok_check_stone {f : Addr} {fd : FuncData} (F : Fun K "check_stone" "check_stone" s_check_stone f fd) (T : Txt w K mg C) (g_is_number : Cal P w K mg base (L2N.CX P w) 1 "is_number" ["thing"] (sp_is_number K C)) : FnOk P w K mg base (L2N.CX P w) 2 f fd ["row", "stone"] (sp_check_stone K C) := by
  obtain rfl := T.hw
  refine okN F sc_check_stone (fun vs H Q E h => len_check_stone h) (fun cdv A outer s H vs Q E hr h => ⟨t_check_stone K C E, ?_, pure_check_stone h⟩)
  exact (pss_one (ps_if (PW.pt (pw_or (pt_not (pt_val (pe_cal g_is_number (hr.mono (by decide)) (by rfl) passN (pa_cons (pv 1) pa_nil)))) (pw_or1 (pt_not (pt_chain op_le op_lt pe_int (pv 1) (pe_callB call_len_seq (by rfl) T.b_len (by decide +kernel) (pa_cons (pv 0) pa_nil))))))) (pss_one (ps_raiseO rfl (L2N.takes_of rfl rfl rfl rfl) T.e_BadStone (by rfl))) pss_nil))
theorem ok_check_side {f : Addr} {fd : FuncData} (F : Fun K "check_side" "check_side" s_check_side f fd) (T : Txt w K mg C) (g_is_number : Cal P w K mg base (L2N.CX P w) 1 "is_number" ["thing"] (sp_is_number K C)) : FnOk P w K mg base (L2N.CX P w) 2 f fd ["side"] (sp_check_side K C) := by
  obtain rfl := T.hw
  refine okN F sc_check_side (fun vs H Q E h => len_check_side h) (fun cdv A outer s H vs Q E hr h => ⟨t_check_side K C E, ?_, pure_check_side h⟩)
  exact (pss_one (ps_if (PW.pt (pw_or (pt_not (pt_val (pe_cal g_is_number (hr.mono (by decide)) (by rfl) passN (pa_cons (pv 0) pa_nil)))) (pw_or1 (pt_cmpR op_notIn_seq (pv 0) (pe_tup (pa_cons pe_int (pa_cons (pe_un un_neg pe_int) pa_nil))) (by rfl))))) (pss_one (ps_raiseO rfl (L2N.takes_of rfl rfl rfl rfl) T.e_BadSide (by rfl))) pss_nil))
theorem ok_last_felled {f : Addr} {fd : FuncData} (F : Fun K "last_felled" "last_felled" s_last_felled f fd) (T : Txt w K mg C) : FnOk P w K mg base (L2N.CX P w) 1 f fd ["row", "stone", "side"] (sp_last_felled K C) := by
  obtain rfl := T.hw
  refine okN F sc_last_felled (fun vs H Q E h => len_last_felled h) (fun cdv A outer s H vs Q E hr h => ⟨t_last_felled K C, PSs.nox (?_), pure_last_felled h⟩)
  exact (pss_cons (ps_set (i := 3) sc_last_felled.nd rfl (.inl rfl) (pe_op op_add (pe_op op_mul (pv 2) (pe_ix ix_tup (pe_ix ix_list (pv 0) (pv 1) (fun _ _ => rfl)) pe_int (fun _ _ => rfl))) (pe_ix ix_tup (pe_ix ix_list (pv 0) (pv 1) (fun _ _ => rfl)) pe_int (fun _ _ => rfl)))) (pss_cons (ps_set (i := 4) sc_last_felled.nd rfl (.inl rfl) (pv 1)) (pss_cons (ps_while PassesOwn.never (PW.pt (pw_and (pt_chain op_le op_lt pe_int (pe_op op_add (pv 4) (pv 2)) (pe_callB call_len_seq (by rfl) T.b_len (by decide +kernel) (pa_cons (pv 0) pa_nil))) (pw_and1 (pt_cmpR op_le (pe_op op_mul (pv 2) (pe_ix ix_tup (pe_ix ix_list (pv 0) (pe_op op_add (pv 4) (pv 2)) (fun _ _ => rfl)) pe_int (fun _ _ => rfl))) (pv 3) (nomark _))))) (pss_cons (ps_aug (i := 4) sc_last_felled.nd rfl (.inl rfl) (pv 2) ip_add) (pss_one (ps_set (i := 3) sc_last_felled.nd rfl (.inl rfl) (pe_callB (call_max2 rfl) (by rfl) T.b_max (by decide +kernel) (pa_cons (pv 3) (pa_cons (pe_op op_add (pe_op op_mul (pv 2) (pe_ix ix_tup (pe_ix ix_list (pv 0) (pv 4) (fun _ _ => rfl)) pe_int (fun _ _ => rfl))) (pe_ix ix_tup (pe_ix ix_list (pv 0) (pv 4) (fun _ _ => rfl)) pe_int (fun _ _ => rfl))) pa_nil))))))) (pss_one (ps_ret (pe_tup (pa_cons (pv 4) (pa_cons (pv 3) pa_nil))))))))
theorem ok_felled_by {f : Addr} {fd : FuncData} (F : Fun K "felled_by" "felled_by" s_felled_by f fd) (T : Txt w K mg C) (g_last_felled : Cal P w K mg base (L2N.CX P w) 1 "last_felled" ["row", "stone", "side"] (sp_last_felled K C)) : FnOk P w K mg base (L2N.CX P w) 2 f fd ["row", "stone", "side"] (sp_felled_by K C) := by
  obtain rfl := T.hw
  refine okN F sc_felled_by (fun vs H Q E h => len_felled_by h) (fun cdv A outer s H vs Q E hr h => ⟨t_felled_by K C, PSs.nox (?_), pure_felled_by h⟩)
  exact (pss_cons (ps_set (i := 3) sc_felled_by.nd rfl (.inl rfl) (pe_ix ix_tup (pe_cal g_last_felled (hr.mono (by decide)) (by rfl) passN (pa_cons (pv 0) (pa_cons (pv 1) (pa_cons (pv 2) pa_nil)))) pe_int (fun _ _ => rfl))) (pss_one (ps_ret (pe_listRg (by rfl) (by rfl) T.b_list (prg_2 (by rfl) T.b_range (pe_callB (call_min2 rfl) (by rfl) T.b_min (by decide +kernel) (pa_cons (pv 1) (pa_cons (pv 3) pa_nil))) (pe_op op_add (pe_callB (call_max2 rfl) (by rfl) T.b_max (by decide +kernel) (pa_cons (pv 1) (pa_cons (pv 3) pa_nil))) pe_int))))))
theorem ok_mirrored {f : Addr} {fd : FuncData} (F : Fun K "mirrored" "mirrored" s_mirrored f fd) (T : Txt w K mg C) (g_check_row : Cal P w K mg base (L2N.CX P w) 3 "check_row" ["row"] (sp_check_row K C)) : FnOk P w K mg base (L2N.CX P w) 4 f fd ["row"] (sp_mirrored K C) := by
  obtain rfl := T.hw
  refine okN F sc_mirrored (fun vs H Q E h => len_mirrored h) (fun cdv A outer s H vs Q E hr h => ⟨t_mirrored K C E, ?_, pure_mirrored h⟩)
  exact (pss_cons (ps_expr (pe_calS g_check_row (hr.mono (by decide)) (by rfl) (L2N.takes_of rfl rfl rfl rfl) (pa_cons (pv 0) pa_nil))) (pss_one (ps_ret (pe_lc (own := [("place", 1), ("height", 2)]) (g := (gTup K 2 (gCons (gName 1) (gCons (gName 2) gNil)))) (tt := tYes) (by rfl) sc_mirrored.nd (pi_reversed (by rfl) T.b_reversed (pa_cons (pv 0) pa_nil)) (blkOk_by (own := [("place", 1), ("height", 2)]) (N := ["row", "place", "height"]) (sc := defScope s_mirrored) (by decide +kernel)) (fun _ _ _ _ _ => (pg_tup rfl (pgs_cons (pg_name (i := 1) sc_mirrored.nd rfl (.inl rfl)) (pgs_cons (pg_name (i := 2) sc_mirrored.nd rfl (.inl rfl)) pgs_nil)))) (fun _ _ _ _ _ => pts_nil) (fun _ _ _ _ _ => (pe_tup (pa_cons (pe_un un_neg (pv 1)) (pa_cons (pv 2) pa_nil))))))))
theorem ok_felled {f : Addr} {fd : FuncData} (F : Fun K "felled" "felled" s_felled f fd) (T : Txt w K mg C) (g_check_row : Cal P w K mg base (L2N.CX P w) 3 "check_row" ["row"] (sp_check_row K C)) (g_check_stone : Cal P w K mg base (L2N.CX P w) 2 "check_stone" ["row", "stone"] (sp_check_stone K C)) (g_check_side : Cal P w K mg base (L2N.CX P w) 2 "check_side" ["side"] (sp_check_side K C)) (g_felled_by : Cal P w K mg base (L2N.CX P w) 2 "felled_by" ["row", "stone", "side"] (sp_felled_by K C)) : FnOk P w K mg base (L2N.CX P w) 4 f fd ["row", "stone", "side"] (sp_felled K C) := by
  obtain rfl := T.hw
  refine okN F sc_felled (fun vs H Q E h => len_felled h) (fun cdv A outer s H vs Q E hr h => ⟨t_felled K C E, ?_, pure_felled h⟩)
  exact (pss_cons (ps_expr (pe_calS g_check_row (hr.mono (by decide)) (by rfl) (L2N.takes_of rfl rfl rfl rfl) (pa_cons (pv 0) pa_nil))) (pss_cons (ps_expr (pe_calS g_check_stone (hr.mono (by decide)) (by rfl) (L2N.takes_of rfl rfl rfl rfl) (pa_cons (pv 0) (pa_cons (pv 1) pa_nil)))) (pss_cons (ps_expr (pe_calS g_check_side (hr.mono (by decide)) (by rfl) (L2N.takes_of rfl rfl rfl rfl) (pa_cons (pv 2) pa_nil))) (pss_one (ps_ret (pe_cal g_felled_by (hr.mono (by decide)) (by rfl) passN (pa_cons (pv 0) (pa_cons (pv 1) (pa_cons (pv 2) pa_nil)))))))))
theorem ok_reached {f : Addr} {fd : FuncData} (F : Fun K "reached" "reached" s_reached f fd) (T : Txt w K mg C) (g_check_row : Cal P w K mg base (L2N.CX P w) 3 "check_row" ["row"] (sp_check_row K C)) (g_check_stone : Cal P w K mg base (L2N.CX P w) 2 "check_stone" ["row", "stone"] (sp_check_stone K C)) (g_check_side : Cal P w K mg base (L2N.CX P w) 2 "check_side" ["side"] (sp_check_side K C)) : FnOk P w K mg base (L2N.CX P w) 4 f fd ["row", "push", "stone"] (sp_reached K C) := by
  obtain rfl := T.hw
  refine okN F sc_reached (fun vs H Q E h => len_reached h) (fun cdv A outer s H vs Q E hr h => ⟨t_reached K C E, ?_, pure_reached h⟩)
  exact (pss_cons (ps_expr (pe_calS g_check_row (hr.mono (by decide)) (by rfl) (L2N.takes_of rfl rfl rfl rfl) (pa_cons (pv 0) pa_nil))) (pss_cons (ps_if (PW.pt (pw_or (pt_not (pt_val (pe_callB call_isi (by rfl) T.b_isinstance (by decide +kernel) (pa_cons (pv 1) (pa_cons (pe_bltn (v := .ty "tuple") (by rfl) T.b_tuple (by decide +kernel) rfl) pa_nil))))) (pw_or1 (pt_cmpR op_ne (pe_callB call_len_seq (by rfl) T.b_len (by decide +kernel) (pa_cons (pv 1) pa_nil)) pe_int (nomark _))))) (pss_one (ps_raiseO rfl (L2N.takes_of rfl rfl rfl rfl) T.e_BadStone (by rfl))) pss_nil) (pss_cons (ps_expr (pe_calS g_check_stone (hr.mono (by decide)) (by rfl) (L2N.takes_of rfl rfl rfl rfl) (pa_cons (pv 0) (pa_cons (pe_ix ix_tup (pv 1) pe_int (fun _ _ => rfl)) pa_nil)))) (pss_cons (ps_expr (pe_calS g_check_side (hr.mono (by decide)) (by rfl) (L2N.takes_of rfl rfl rfl rfl) (pa_cons (pe_ix ix_tup (pv 1) pe_int (fun _ _ => rfl)) pa_nil))) (pss_cons (ps_expr (pe_calS g_check_stone (hr.mono (by decide)) (by rfl) (L2N.takes_of rfl rfl rfl rfl) (pa_cons (pv 0) (pa_cons (pv 2) pa_nil)))) pss_never)))))
theorem ok_fewest {f : Addr} {fd : FuncData} (F : Fun K "fewest" "fewest" s_fewest f fd) (T : Txt w K mg C) (g_check_row : Cal P w K mg base (L2N.CX P w) 3 "check_row" ["row"] (sp_check_row K C)) : FnOk P w K mg base (L2N.CX P w) 4 f fd ["row"] (sp_fewest K C) := by
  obtain rfl := T.hw
  refine okN F sc_fewest (fun vs H Q E h => len_fewest h) (fun cdv A outer s H vs Q E hr h => ⟨t_fewest K C E, ?_, pure_fewest h⟩)
  exact (pss_cons (ps_expr (pe_calS g_check_row (hr.mono (by decide)) (by rfl) (L2N.takes_of rfl rfl rfl rfl) (pa_cons (pv 0) pa_nil))) pss_never)
theorem ok_rights {f : Addr} {fd : FuncData} (F : Fun K "rights" "rights" s_rights f fd) (T : Txt w K mg C) (g_check_row : Cal P w K mg base (L2N.CX P w) 3 "check_row" ["row"] (sp_check_row K C)) : FnOk P w K mg base (L2N.CX P w) 4 f fd ["row"] (sp_rights K C) := by
  obtain rfl := T.hw
  refine okN F sc_rights (fun vs H Q E h => len_rights h) (fun cdv A outer s H vs Q E hr h => ⟨t_rights K C E, ?_, pure_rights h⟩)
  exact (pss_cons (ps_expr (pe_calS g_check_row (hr.mono (by decide)) (by rfl) (L2N.takes_of rfl rfl rfl rfl) (pa_cons (pv 0) pa_nil))) pss_never)
theorem ok_higher {f : Addr} {fd : FuncData} (F : Fun K "higher" "higher" s_higher f fd) (T : Txt w K mg C) (g_check_row : Cal P w K mg base (L2N.CX P w) 3 "check_row" ["row"] (sp_check_row K C)) (g_check_stone : Cal P w K mg base (L2N.CX P w) 2 "check_stone" ["row", "stone"] (sp_check_stone K C)) : FnOk P w K mg base (L2N.CX P w) 4 f fd ["row", "stone"] (sp_higher K C) := by
  obtain rfl := T.hw
  refine okN F sc_higher (fun vs H Q E h => len_higher h) (fun cdv A outer s H vs Q E hr h => ⟨t_higher K C E, ?_, pure_higher h⟩)
  exact (pss_cons (ps_expr (pe_calS g_check_row (hr.mono (by decide)) (by rfl) (L2N.takes_of rfl rfl rfl rfl) (pa_cons (pv 0) pa_nil))) (pss_cons (ps_expr (pe_calS g_check_stone (hr.mono (by decide)) (by rfl) (L2N.takes_of rfl rfl rfl rfl) (pa_cons (pv 0) (pa_cons (pv 1) pa_nil)))) pss_never))
theorem ok_written {f : Addr} {fd : FuncData} (F : Fun K "written" "written" s_written f fd) (T : Txt w K mg C) (g_check_row : Cal P w K mg base (L2N.CX P w) 3 "check_row" ["row"] (sp_check_row K C)) : FnOk P w K mg base (L2N.CX P w) 4 f fd ["row"] (sp_written K C) := by
  obtain rfl := T.hw
  refine okN F sc_written (fun vs H Q E h => len_written h) (fun cdv A outer s H vs Q E hr h => ⟨t_written K C E, ?_, pure_written h⟩)
  exact (pss_cons (ps_expr (pe_calS g_check_row (hr.mono (by decide)) (by rfl) (L2N.takes_of rfl rfl rfl rfl) (pa_cons (pv 0) pa_nil))) pss_never)
theorem ok_law_ask {f : Addr} {fd : FuncData} (F : Fun K "_law_ask" "_law_ask" s_law_ask f fd) (T : Txt w K mg C) (g_felled : Cal P w K mg base (L2N.CX P w) 4 "felled" ["row", "stone", "side"] (sp_felled K C)) (g_reached : Cal P w K mg base (L2N.CX P w) 4 "reached" ["row", "push", "stone"] (sp_reached K C)) (g_higher : Cal P w K mg base (L2N.CX P w) 4 "higher" ["row", "stone"] (sp_higher K C)) (h_S_ask : ∀ f sp, S_ask K C f sp → HeldS P w K mg base (L2N.CX P w) 4 f sp) : FnOk P w K mg base (L2N.CX P w) 5 f fd ["_law_door", "_law_thing"] (sp_law_ask K C) := by
  obtain rfl := T.hw
  refine okN F sc_law_ask (fun vs H Q E h => len_law_ask h) (fun cdv A outer s H vs Q E hr h => ⟨t_law_ask K C E, ?_, pure_law_ask h⟩)
  exact (pss_cons (ps_set (i := 2) sc_law_ask.nd rfl (.inl rfl) (pe_lst (pa_cons (pe_tup (pa_cons pe_int (pa_cons pe_int pa_nil))) (pa_cons (pe_tup (pa_cons pe_int (pa_cons pe_int pa_nil))) (pa_cons (pe_tup (pa_cons pe_int (pa_cons pe_int pa_nil))) pa_nil))))) (pss_cons (ps_if (pt_cmpR op_lt (pv 0) pe_int (nomark _)) (pss_one (ps_ret (pe_callF (S := S_ask K C) (E := (WE (WofE E))) (pe_ix ix_list (pe_lst (pa_cons (pe_glob (v := .ref (fa C 0)) (by rfl) T.v_mirrored rfl) (pa_cons (pe_glob (v := .ref (fa C 1)) (by rfl) T.v_fewest rfl) (pa_cons (pe_glob (v := .ref (fa C 2)) (by rfl) T.v_rights rfl) (pa_cons (pe_glob (v := .ref (fa C 3)) (by rfl) T.v_written rfl) pa_nil))))) (pv 0) (fun _ _ => rfl)) h_S_ask (hr.mono (by decide)) (fun σ => L2N.passAt (L2N.takes_of rfl rfl rfl rfl) σ) (pa_cons (pv 1) pa_nil)))) pss_nil) (pss_cons (ps_if (pt_cmpR op_lt (pv 0) pe_int (nomark _)) (pss_one (ps_ret (pe_ifExp (pt_cmpR op_eq (pv 0) pe_int (nomark _)) (pe_calS g_felled (hr.mono (by decide)) (by rfl) (L2N.takes_of rfl rfl rfl rfl) (pa_cons (pv 1) (pa_cons (pe_un un_neg pe_int) (pa_cons pe_int pa_nil)))) (pe_ifExp (pt_cmpR op_eq (pv 0) pe_int (nomark _)) (pe_calS g_reached (hr.mono (by decide)) (by rfl) (L2N.takes_of rfl rfl rfl rfl) (pa_cons (pv 1) (pa_cons pe_non (pa_cons (pe_un un_neg pe_int) pa_nil)))) (pe_calS g_higher (hr.mono (by decide)) (by rfl) (L2N.takes_of rfl rfl rfl rfl) (pa_cons (pv 1) (pa_cons (pe_un un_neg pe_int) pa_nil))))))) pss_nil) (pss_cons (ps_if (pt_cmpR op_lt (pv 0) pe_int (nomark _)) (pss_cons (ps_if (pt_cmpR op_eq (pv 0) pe_int (nomark _)) (pss_one (ps_ret (pe_calS g_reached (hr.mono (by decide)) (by rfl) (L2N.takes_of rfl rfl rfl rfl) (pa_cons (pv 2) (pa_cons (pe_tup (pa_cons pe_int (pa_cons pe_int pa_nil))) (pa_cons (pv 1) pa_nil)))))) pss_nil) (pss_one (ps_ret (pe_ifExp (pt_cmpR op_eq (pv 0) pe_int (nomark _)) (pe_calS g_felled (hr.mono (by decide)) (by rfl) (L2N.takes_of rfl rfl rfl rfl) (pa_cons (pv 2) (pa_cons (pv 1) (pa_cons pe_int pa_nil)))) (pe_calS g_higher (hr.mono (by decide)) (by rfl) (L2N.takes_of rfl rfl rfl rfl) (pa_cons (pv 2) (pa_cons (pv 1) pa_nil))))))) pss_nil) (pss_cons (ps_if (pt_cmpR op_lt (pv 0) pe_int (nomark _)) (pss_one (ps_ret (pe_ifExp (pt_cmpR op_eq (pv 0) pe_int (nomark _)) (pe_calS g_reached (hr.mono (by decide)) (by rfl) (L2N.takes_of rfl rfl rfl rfl) (pa_cons (pv 2) (pa_cons (pe_tup (pa_cons (pv 1) (pa_cons pe_int pa_nil))) (pa_cons (pe_un un_neg pe_int) pa_nil)))) (pe_calS g_reached (hr.mono (by decide)) (by rfl) (L2N.takes_of rfl rfl rfl rfl) (pa_cons (pv 2) (pa_cons (pe_tup (pa_cons (pv 1) (pa_cons pe_int pa_nil))) (pa_cons (pe_un un_neg pe_int) pa_nil))))))) pss_nil) (pss_cons (ps_if (pt_cmpR op_eq (pv 0) pe_int (nomark _)) (pss_one (ps_ret (pe_calS g_reached (hr.mono (by decide)) (by rfl) (L2N.takes_of rfl rfl rfl rfl) (pa_cons (pv 2) (pa_cons (pv 1) (pa_cons (pe_un un_neg pe_int) pa_nil)))))) pss_nil) (pss_one (ps_ret (pe_ifExp (pt_cmpR op_eq (pv 0) pe_int (nomark _)) (pe_calS g_felled (hr.mono (by decide)) (by rfl) (L2N.takes_of rfl rfl rfl rfl) (pa_cons (pv 2) (pa_cons pe_int (pa_cons (pv 1) pa_nil)))) (pe_calS g_reached (hr.mono (by decide)) (by rfl) (L2N.takes_of rfl rfl rfl rfl) (pa_cons (pv 2) (pa_cons (pe_tup (pa_cons pe_int (pa_cons (pv 1) pa_nil))) (pa_cons (pe_un un_neg pe_int) pa_nil)))))))))))))
theorem ok_law_due {f : Addr} {fd : FuncData} (F : Fun K "_law_due" "_law_due" s_law_due f fd) (T : Txt w K mg C) (g_law_ask : Cal P w K mg base (L2N.CX P w) 5 "_law_ask" ["_law_door", "_law_thing"] (sp_law_ask K C)) : FnOk P w K mg base CX0 6 f fd ["_law_door", "_law_thing", "_law_due_here"] (sp_law_due K C) := by
  obtain rfl := T.hw
  refine F.ok sc_law_due (fun vs H Q E h => len_law_due h) (fun cdv A outer s H vs Q E hr h => ⟨t_law_due K C, ?_, pure_law_due T.xf h⟩)
  exact (pss_cons (L2N.ps_try_as (i := 3) (ts := (fun a => tSuite (fun De => ExcC K De) fun De => (tSeq (tAsg (tLst (tCons (tCB (rIsE K De a) (tCons (tVar 3) (tCons (tC (.ref C.BadRow)) tNil))) (tCons (tCB (rIsE K De a) (tCons (tVar 3) (tCons (tC (.ref C.BadStone)) tNil))) (tCons (tCB (rIsE K De a) (tCons (tVar 3) (tCons (tC (.ref C.BadSide)) tNil))) tNil)))) (gName 4)) (tRet (tAndV (tOp (rEqD K) (tOp rCat (tVar 4) (tLst (tCons (tCB (rIsE K De a) (tCons (tVar 3) (tCons (tC (.ref C.BadText)) tNil))) tNil))) (tLc (iRng1 (tCons (tC (.int 4)) tNil)) (gName 5) tYes (tOp rEq (tVar 5) (tVar 2)) [5])) (tCB (rIsE K De a) (tCons (tVar 3) (tCons (tC (.ty "ValueError")) tNil)))))))) (tb := fun W => (tDrop (tCallS (sp_law_ask K C) (WE W) (tCons (tVar 0) (tCons (tVar 1) tNil))))) rfl rfl sc_law_due.nd rfl rfl ⟨by rfl, by decide, .inl T.e_FallError.g⟩ takesN0 (fun W pn xe tk own => (pss_one (ps_expr (pe_calS g_law_ask (hr.mono (by decide)) (by rfl) tk (pa_cons (pv 0) (pa_cons (pv 1) pa_nil)))))) (fun a oe cls d pn hz hf => pss_suite fun De e1 e2 hF => (pss_cons (ps_set (i := 4) sc_law_due.nd rfl (.inl rfl) (pe_lst (pa_cons (pe_callB (call_isE hF (zc_of hz e1 e2) hf) (by rfl) T.b_isinstance (by decide +kernel) (pa_cons (pv 3) (pa_cons (pe_glob (v := .ref C.BadRow) (by rfl) T.e_BadRow.g rfl) pa_nil))) (pa_cons (pe_callB (call_isE hF (zc_of hz e1 e2) hf) (by rfl) T.b_isinstance (by decide +kernel) (pa_cons (pv 3) (pa_cons (pe_glob (v := .ref C.BadStone) (by rfl) T.e_BadStone.g rfl) pa_nil))) (pa_cons (pe_callB (call_isE hF (zc_of hz e1 e2) hf) (by rfl) T.b_isinstance (by decide +kernel) (pa_cons (pv 3) (pa_cons (pe_glob (v := .ref C.BadSide) (by rfl) T.e_BadSide.g rfl) pa_nil))) pa_nil))))) (pss_one (ps_ret (pe_and (pe_cmpR (op_eqD hr.units) (pe_op op_cat (pv 4) (pe_lst (pa_cons (pe_callB (call_isE hF (zc_of hz e1 e2) hf) (by rfl) T.b_isinstance (by decide +kernel) (pa_cons (pv 3) (pa_cons (pe_glob (v := .ref C.BadText) (by rfl) T.e_BadText.g rfl) pa_nil))) pa_nil))) (pe_lcHot (own := [("_law_k", 5)]) (g := (gName 5)) (hot_suite hz hf) sc_law_due.nd (L2H.pi_range1H rfl T.b_range (pa_cons pe_int pa_nil)) (blkOk_by (own := [("_law_k", 5)]) (N := ["_law_door", "_law_thing", "_law_due_here", "error", "_law_found", "_law_k"]) (sc := defScope s_law_due) (by decide +kernel)) (fun _ _ _ _ _ => (pg_name (i := 5) sc_law_due.nd rfl (.inl rfl))) (fun _ _ _ _ _ => (pe_cmpR op_eq (pv 5) (pv 2) (nomark _)))) (nomark _)) (pe_one (pe_callB (call_isE hF (zc_of hz e1 e2) hf) (by rfl) T.b_isinstance (by decide +kernel) (pa_cons (pv 3) (pa_cons (pe_bltn (v := .ty "ValueError") (by rfl) T.b_ValueError (by decide +kernel) rfl) pa_nil)))))))))) (pss_one (ps_ret pe_bl)))
theorem ok_law_rows {f : Addr} {fd : FuncData} (F : Fun K "_law_rows" "_law_rows" s_law_rows f fd) (T : Txt w K mg C) : FnOk P w K mg base CX0 1 f fd ["_law_cell"] (sp_law_rows K C) := by
  obtain rfl := T.hw
  refine F.ok sc_law_rows (fun vs H Q E h => len_law_rows h) (fun cdv A outer s H vs Q E hr h => ⟨t_law_rows K C, ?_, pure_law_rows h⟩)
  exact (pss_cons (ps_set (i := 1) sc_law_rows.nd rfl (.inl rfl) (pe_lst (pa_cons pe_non (pa_cons (pe_tup pa_nil) (pa_cons (pe_tup (pa_cons (pe_tup (pa_cons pe_int (pa_cons pe_int pa_nil))) pa_nil)) (pa_cons pe_str (pa_cons pe_dnewK (pa_cons pe_int (pa_cons (pe_lst (pa_cons pe_int pa_nil)) (pa_cons (pe_lst (pa_cons pe_non pa_nil)) (pa_cons (pe_lst (pa_cons (pe_tup (pa_cons pe_int pa_nil)) pa_nil)) (pa_cons (pe_lst (pa_cons (pe_tup (pa_cons pe_int (pa_cons pe_int (pa_cons pe_int pa_nil)))) pa_nil)) (pa_cons (pe_lst (pa_cons (pe_lst (pa_cons pe_int (pa_cons pe_int pa_nil))) pa_nil)) (pa_cons (pe_lst (pa_cons (pe_tup (pa_cons pe_int (pa_cons pe_int pa_nil))) pa_nil)) (pa_cons (pe_lst (pa_cons (pe_tup (pa_cons pe_int (pa_cons (pe_op op_sub (pe_un un_neg pe_int) (pv 0)) pa_nil))) pa_nil)) pa_nil))))))))))))))) (pss_cons (ps_set (i := 1) sc_law_rows.nd rfl (.inl rfl) (pe_op op_cat (pv 1) (pe_lst (pa_cons (pe_lst (pa_cons (pe_tup (pa_cons pe_bl (pa_cons pe_int pa_nil))) pa_nil)) (pa_cons (pe_lst (pa_cons (pe_tup (pa_cons pe_int (pa_cons pe_bl pa_nil))) pa_nil)) (pa_cons (pe_lst (pa_cons (pe_tup (pa_cons pe_str (pa_cons pe_int pa_nil))) pa_nil)) (pa_cons (pe_lst (pa_cons (pe_tup (pa_cons pe_int (pa_cons pe_non pa_nil))) pa_nil)) (pa_cons (pe_lst (pa_cons (pe_tup (pa_cons pe_int (pa_cons pe_int pa_nil))) (pa_cons (pe_tup (pa_cons pe_int (pa_cons pe_int pa_nil))) pa_nil))) (pa_cons (pe_lst (pa_cons (pe_tup (pa_cons pe_int (pa_cons pe_int pa_nil))) (pa_cons (pe_tup (pa_cons pe_int (pa_cons pe_int pa_nil))) pa_nil))) (pa_cons (pe_lst (pa_cons (pe_tup (pa_cons (pv 0) (pa_cons pe_int pa_nil))) pa_nil)) pa_nil)))))))))) (pss_one (ps_ret (pe_op op_cat (pv 1) (pe_lst (pa_cons (pe_lst (pa_cons (pe_tup (pa_cons pe_int (pa_cons pe_int pa_nil))) (pa_cons (pe_tup (pa_cons pe_int (pa_cons pe_int pa_nil))) (pa_cons (pe_tup (pa_cons pe_int (pa_cons pe_int pa_nil))) pa_nil)))) (pa_cons (pe_lst (pa_cons (pe_tup (pa_cons (pv 0) (pa_cons pe_int pa_nil))) (pa_cons (pe_tup (pa_cons (pe_op op_sub (pv 0) pe_int) (pa_cons pe_int pa_nil))) pa_nil))) (pa_cons (pe_lst (pa_cons (pe_tup (pa_cons pe_int (pa_cons pe_int pa_nil))) (pa_cons (pe_tup (pa_cons pe_int (pa_cons pe_int pa_nil))) (pa_cons (pe_tup (pa_cons pe_int (pa_cons pe_int pa_nil))) pa_nil)))) (pa_cons (pe_lst (pa_cons (pe_tup (pa_cons pe_int (pa_cons pe_int pa_nil))) (pa_cons pe_int pa_nil))) pa_nil))))))))))
theorem ok_law_stones {f : Addr} {fd : FuncData} (F : Fun K "_law_stones" "_law_stones" s_law_stones f fd) (T : Txt w K mg C) : FnOk P w K mg base CX0 1 f fd ["_law_cell"] (sp_law_stones K C) := by
  obtain rfl := T.hw
  refine F.ok sc_law_stones (fun vs H Q E h => len_law_stones h) (fun cdv A outer s H vs Q E hr h => ⟨t_law_stones K C, ?_, pure_law_stones h⟩)
  exact (pss_one (ps_ret (pe_lst (pa_cons pe_non (pa_cons (pe_un un_neg pe_int) (pa_cons (pe_op op_sub (pe_un un_neg pe_int) (pv 0)) (pa_cons pe_int (pa_cons (pe_op op_add pe_int (pv 0)) (pa_cons pe_bl (pa_cons pe_str (pa_cons (pe_lst (pa_cons pe_int pa_nil)) (pa_cons (pe_tup (pa_cons pe_int pa_nil)) (pa_cons pe_dnewK pa_nil)))))))))))))
theorem ok_law_sides {f : Addr} {fd : FuncData} (F : Fun K "_law_sides" "_law_sides" s_law_sides f fd) (T : Txt w K mg C) : FnOk P w K mg base CX0 1 f fd ["_law_cell"] (sp_law_sides K C) := by
  obtain rfl := T.hw
  refine F.ok sc_law_sides (fun vs H Q E h => len_law_sides h) (fun cdv A outer s H vs Q E hr h => ⟨t_law_sides K C, ?_, pure_law_sides h⟩)
  exact (pss_one (ps_ret (pe_lst (pa_cons pe_non (pa_cons pe_int (pa_cons pe_int (pa_cons (pe_op op_add pe_int (pv 0)) (pa_cons (pe_op op_sub (pe_un un_neg pe_int) (pv 0)) (pa_cons pe_bl (pa_cons pe_str (pa_cons (pe_lst (pa_cons pe_int pa_nil)) (pa_cons pe_dnewK pa_nil))))))))))))
theorem ok_law_pushes {f : Addr} {fd : FuncData} (F : Fun K "_law_pushes" "_law_pushes" s_law_pushes f fd) (T : Txt w K mg C) : FnOk P w K mg base CX0 1 f fd ["_law_cell"] (sp_law_pushes K C) := by
  obtain rfl := T.hw
  refine F.ok sc_law_pushes (fun vs H Q E h => len_law_pushes h) (fun cdv A outer s H vs Q E hr h => ⟨t_law_pushes K C, ?_, pure_law_pushes h⟩)
  exact (pss_one (ps_ret (pe_lst (pa_cons pe_non (pa_cons pe_int (pa_cons (pe_tup (pa_cons pe_int pa_nil)) (pa_cons (pe_tup (pa_cons pe_int (pa_cons pe_int (pa_cons pe_int pa_nil)))) (pa_cons (pe_lst (pa_cons pe_int (pa_cons pe_int pa_nil))) (pa_cons pe_str (pa_cons (pe_tup (pa_cons pe_int (pa_cons pe_int pa_nil))) (pa_cons (pe_tup (pa_cons (pe_op op_sub (pe_un un_neg pe_int) (pv 0)) (pa_cons pe_int pa_nil))) (pa_cons (pe_tup (pa_cons pe_non (pa_cons pe_int pa_nil))) (pa_cons pe_dnewK pa_nil)))))))))))))
theorem ok_law {f : Addr} {fd : FuncData} (F : Fun K "law" "law" s_law f fd) (T : Txt w K mg C) (g_law_due : Cal P w K mg base CX0 6 "_law_due" ["_law_door", "_law_thing", "_law_due_here"] (sp_law_due K C)) (g_felled : Cal P w K mg base (L2N.CX P w) 4 "felled" ["row", "stone", "side"] (sp_felled K C)) (g_mirrored : Cal P w K mg base (L2N.CX P w) 4 "mirrored" ["row"] (sp_mirrored K C)) (h_S_things : ∀ f sp, S_things K C f sp → HeldS P w K mg base CX0 1 f sp) : FnOk P w K mg base CX0 7 f fd ["_law_script"] (sp_law K C) := by
  obtain rfl := T.hw
  refine F.ok sc_law (fun vs H Q E h => len_law h) (fun cdv A outer s H vs Q E hr h => ⟨t_law K C, ?_, pure_law h⟩)
  exact (pss_cons (ps_set (i := 1) sc_law.nd rfl (.inl rfl) (pe_lst (pa_cons (pe_tup (pa_cons (pe_listRg (by rfl) (by rfl) T.b_list (prg_1 (by rfl) T.b_range pe_int)) (pa_cons (pe_glob (v := .ref (fa C 4)) (by rfl) T.v_law_rows rfl) (pa_cons pe_int pa_nil)))) (pa_cons (pe_tup (pa_cons (pe_lst (pa_cons pe_int (pa_cons pe_int (pa_cons pe_int (pa_cons pe_int (pa_cons pe_int pa_nil)))))) (pa_cons (pe_glob (v := .ref (fa C 5)) (by rfl) T.v_law_stones rfl) (pa_cons pe_int pa_nil)))) (pa_cons (pe_tup (pa_cons (pe_lst (pa_cons pe_int (pa_cons pe_int pa_nil))) (pa_cons (pe_glob (v := .ref (fa C 6)) (by rfl) T.v_law_sides rfl) (pa_cons pe_int pa_nil)))) pa_nil))))) (pss_cons (ps_for PassesOwn.never rfl (pi_list (pe_op op_cat (pv 1) (pe_lst (pa_cons (pe_tup (pa_cons (pe_lst (pa_cons pe_int pa_nil)) (pa_cons (pe_glob (v := .ref (fa C 7)) (by rfl) T.v_law_pushes rfl) (pa_cons pe_int pa_nil)))) pa_nil)))) (pg_tup rfl (pgs_cons (pg_name (i := 2) sc_law.nd rfl (.inl rfl)) (pgs_cons (pg_name (i := 3) sc_law.nd rfl (.inl rfl)) (pgs_cons (pg_name (i := 4) sc_law.nd rfl (.inr rfl)) pgs_nil)))) (pss_cons (ps_for PassesOwn.never rfl (pi_list (pv 2)) (pg_name (i := 5) sc_law.nd rfl (.inr rfl)) (pss_one (ps_if (pt_not (pt_val (pe_callB (cr_all rfl) (by rfl) T.b_all (by decide +kernel) (pa_cons (pe_lc (own := [("_law_thing", 8)]) (g := (gName 8)) (tt := tYes) (by rfl) sc_law.nd (pi_list (pe_callFN (S := S_things K C) (E := (fun _ => E0)) (i := 3) rfl (by first | exact Or.inl rfl | exact Or.inr (Or.inl rfl) | exact Or.inr (Or.inr rfl)) h_S_things (hr.mono (by decide)) (fun σ => pass0S) (pa_cons (pe_callB call_len_seq (by rfl) T.b_len (by decide +kernel) (pa_cons (pv 0) pa_nil)) pa_nil))) (blkOk_by (own := [("_law_thing", 8)]) (N := ["_law_script", "_law_kinds", "_law_doors", "_law_things", "_law_due_here", "_law_door", "_law_cell", "_law_some", "_law_thing"]) (sc := defScope s_law) (by decide +kernel)) (fun _ _ _ _ _ => (pg_name (i := 8) sc_law.nd rfl (.inl rfl))) (fun _ _ _ _ _ => pts_nil) (fun _ _ _ _ _ => (pe_cal g_law_due (hr.mono (by decide)) (by rfl) pass0 (pa_cons (pv 5) (pa_cons (pv 8) (pa_cons (pv 4) pa_nil)))))) pa_nil)))) (pss_one (ps_ret pe_bl)) pss_nil))) (pss_one (ps_for PassesOwn.never rfl (pi_list (pv 0)) (pg_name (i := 6) sc_law.nd rfl (.inl rfl)) (pss_cons (ps_set (i := 7) sc_law.nd rfl (.inl rfl) (pe_callFN (S := S_things K C) (E := (fun _ => E0)) (i := 3) rfl (by first | exact Or.inl rfl | exact Or.inr (Or.inl rfl) | exact Or.inr (Or.inr rfl)) h_S_things (hr.mono (by decide)) (fun σ => pass0S) (pa_cons (pe_op op_mod (pv 6) (pe_op op_pow pe_int pe_int)) pa_nil))) (pss_one (ps_if (pt_not (pt_val (pe_cal g_law_due (hr.mono (by decide)) (by rfl) pass0 (pa_cons (pe_ix ix_list (pv 2) (pe_op op_mod (pv 6) (pe_callB call_len_seq (by rfl) T.b_len (by decide +kernel) (pa_cons (pv 2) pa_nil))) (fun _ _ => rfl)) (pa_cons (pe_ix ix_list (pv 7) (pe_op op_mod (pe_op op_fdivW (pv 6) (pe_callB call_len_seq (by rfl) T.b_len (by decide +kernel) (pa_cons (pv 2) pa_nil))) (pe_callB call_len_seq (by rfl) T.b_len (by decide +kernel) (pa_cons (pv 7) pa_nil))) (fun _ _ => rfl)) (pa_cons (pv 4) pa_nil)))))) (pss_one (ps_ret pe_bl)) pss_nil))))))) (pss_cons (ps_if (PW.pt (pw_or (pt_not (pt_val (pe_cal g_law_due (hr.mono (by decide)) (by rfl) pass0 (pa_cons pe_int (pa_cons pe_int (pa_cons pe_int pa_nil)))))) (pw_or (pt_not (pt_val (pe_cal g_law_due (hr.mono (by decide)) (by rfl) pass0 (pa_cons pe_int (pa_cons (pe_lst pa_nil) (pa_cons pe_int pa_nil)))))) (pw_or1 (pt_not (pt_val (pe_cal g_law_due (hr.mono (by decide)) (by rfl) pass0 (pa_cons pe_int (pa_cons (pe_lst (pa_cons (pe_tup (pa_cons pe_int (pa_cons pe_int pa_nil))) pa_nil)) (pa_cons pe_int pa_nil)))))))))) (pss_one (ps_ret pe_bl)) pss_nil) (pss_one (ps_ret (pe_and (pe_cmpR (op_eqD hr.units) (pe_cal g_felled (hr.mono (by decide)) (by rfl) passN (pa_cons (pe_lst (pa_cons (pe_tup (pa_cons pe_int (pa_cons pe_int pa_nil))) pa_nil)) (pa_cons pe_int (pa_cons (pe_un un_neg pe_int) pa_nil)))) (pe_lst (pa_cons pe_int pa_nil)) (nomark _)) (pe_one (pe_cmpR (op_eqD hr.units) (pe_cal g_mirrored (hr.mono (by decide)) (by rfl) passN (pa_cons (pe_lst pa_nil) pa_nil)) (pe_lst pa_nil) (nomark _)))))))))
end
end FX

namespace FX
open PySem L2 Evl FR
open PySem.Spec PyProof.Rows
theorem law_sp {K : PySem.W.Frag} {H : Hp} {a : Addr} {ns : List Int} {E : XK} (hl : ns.length ≤ 63) (hS : SqL K H a (ns.map V.int)) : FnP K P_law [.ref a] H (fun v _ => v = .bl true) E :=
  ⟨H, [.sq (intL ns)], .bl true, Ex.refl _, .cons (by simp only [Rp]; exact ⟨a, _, rfl, hS, ints_rp ns⟩) .nil, ⟨ns, rfl, hl, rfl⟩, fun v B' H' g r => by simpa only [Rp] using r⟩
theorem all_mk {l : PySem.W.OpenLaw} {w : World} {K : PySem.W.Frag} {h : Heap} {mg : Str → Option Value} {fa : Addr} {CBadRow CBadSide CBadStone CBadText CFallError : Addr} (X : K.In h) (G : h.Ns mainGlobals mg) (hfa : mg "law" = some (.ref fa))
    (qBadRow : PySem.W.nsIn K mainGlobals "BadRow" = some (some (.ref CBadRow)))
    (qBadSide : PySem.W.nsIn K mainGlobals "BadSide" = some (some (.ref CBadSide)))
    (qBadStone : PySem.W.nsIn K mainGlobals "BadStone" = some (some (.ref CBadStone)))
    (qBadText : PySem.W.nsIn K mainGlobals "BadText" = some (some (.ref CBadText)))
    (qFallError : PySem.W.nsIn K mainGlobals "FallError" = some (some (.ref CFallError)))
    {od0 an0 : Option Addr} {sl0 : Array (Option Value)} {oc0 kV0 dc0 pm0 cd0 ct0 : Value} {f0 : Addr}
    (a0 : PySem.W.nsIn K mainGlobals "is_number" = some (some (.ref f0)))
    (l0 : K.lookup f0 = some ⟨oc0, od0, .func (PySem.W.fnOf "is_number" "is_number" (defArgs s_is_number) (defBody s_is_number) (defScope s_is_number) .none kV0 dc0 pm0 an0 cd0 ct0), sl0⟩) (c0 : PySem.W.codeIn K cd0 "is_number" = true) (k0 : PySem.W.keepIn K (.ref f0) = true)
    {od1 an1 : Option Addr} {sl1 : Array (Option Value)} {oc1 kV1 dc1 pm1 cd1 ct1 : Value} {f1 : Addr}
    (a1 : PySem.W.nsIn K mainGlobals "is_pair" = some (some (.ref f1)))
    (l1 : K.lookup f1 = some ⟨oc1, od1, .func (PySem.W.fnOf "is_pair" "is_pair" (defArgs s_is_pair) (defBody s_is_pair) (defScope s_is_pair) .none kV1 dc1 pm1 an1 cd1 ct1), sl1⟩) (c1 : PySem.W.codeIn K cd1 "is_pair" = true) (k1 : PySem.W.keepIn K (.ref f1) = true)
    {od2 an2 : Option Addr} {sl2 : Array (Option Value)} {oc2 kV2 dc2 pm2 cd2 ct2 : Value} {f2 : Addr}
    (a2 : PySem.W.nsIn K mainGlobals "check_row" = some (some (.ref f2)))
    (l2 : K.lookup f2 = some ⟨oc2, od2, .func (PySem.W.fnOf "check_row" "check_row" (defArgs s_check_row) (defBody s_check_row) (defScope s_check_row) .none kV2 dc2 pm2 an2 cd2 ct2), sl2⟩) (c2 : PySem.W.codeIn K cd2 "check_row" = true) (k2 : PySem.W.keepIn K (.ref f2) = true)
    {od3 an3 : Option Addr} {sl3 : Array (Option Value)} {oc3 kV3 dc3 pm3 cd3 ct3 : Value} {f3 : Addr}
    (a3 : PySem.W.nsIn K mainGlobals "check_stone" = some (some (.ref f3)))
    (l3 : K.lookup f3 = some ⟨oc3, od3, .func (PySem.W.fnOf "check_stone" "check_stone" (defArgs s_check_stone) (defBody s_check_stone) (defScope s_check_stone) .none kV3 dc3 pm3 an3 cd3 ct3), sl3⟩) (c3 : PySem.W.codeIn K cd3 "check_stone" = true) (k3 : PySem.W.keepIn K (.ref f3) = true)
    {od4 an4 : Option Addr} {sl4 : Array (Option Value)} {oc4 kV4 dc4 pm4 cd4 ct4 : Value} {f4 : Addr}
    (a4 : PySem.W.nsIn K mainGlobals "check_side" = some (some (.ref f4)))
    (l4 : K.lookup f4 = some ⟨oc4, od4, .func (PySem.W.fnOf "check_side" "check_side" (defArgs s_check_side) (defBody s_check_side) (defScope s_check_side) .none kV4 dc4 pm4 an4 cd4 ct4), sl4⟩) (c4 : PySem.W.codeIn K cd4 "check_side" = true) (k4 : PySem.W.keepIn K (.ref f4) = true)
    {od5 an5 : Option Addr} {sl5 : Array (Option Value)} {oc5 kV5 dc5 pm5 cd5 ct5 : Value} {f5 : Addr}
    (a5 : PySem.W.nsIn K mainGlobals "last_felled" = some (some (.ref f5)))
    (l5 : K.lookup f5 = some ⟨oc5, od5, .func (PySem.W.fnOf "last_felled" "last_felled" (defArgs s_last_felled) (defBody s_last_felled) (defScope s_last_felled) .none kV5 dc5 pm5 an5 cd5 ct5), sl5⟩) (c5 : PySem.W.codeIn K cd5 "last_felled" = true) (k5 : PySem.W.keepIn K (.ref f5) = true)
    {od6 an6 : Option Addr} {sl6 : Array (Option Value)} {oc6 kV6 dc6 pm6 cd6 ct6 : Value} {f6 : Addr}
    (a6 : PySem.W.nsIn K mainGlobals "felled_by" = some (some (.ref f6)))
    (l6 : K.lookup f6 = some ⟨oc6, od6, .func (PySem.W.fnOf "felled_by" "felled_by" (defArgs s_felled_by) (defBody s_felled_by) (defScope s_felled_by) .none kV6 dc6 pm6 an6 cd6 ct6), sl6⟩) (c6 : PySem.W.codeIn K cd6 "felled_by" = true) (k6 : PySem.W.keepIn K (.ref f6) = true)
    {od7 an7 : Option Addr} {sl7 : Array (Option Value)} {oc7 kV7 dc7 pm7 cd7 ct7 : Value} {f7 : Addr}
    (a7 : PySem.W.nsIn K mainGlobals "mirrored" = some (some (.ref f7)))
    (l7 : K.lookup f7 = some ⟨oc7, od7, .func (PySem.W.fnOf "mirrored" "mirrored" (defArgs s_mirrored) (defBody s_mirrored) (defScope s_mirrored) .none kV7 dc7 pm7 an7 cd7 ct7), sl7⟩) (c7 : PySem.W.codeIn K cd7 "mirrored" = true) (k7 : PySem.W.keepIn K (.ref f7) = true)
    {od8 an8 : Option Addr} {sl8 : Array (Option Value)} {oc8 kV8 dc8 pm8 cd8 ct8 : Value} {f8 : Addr}
    (a8 : PySem.W.nsIn K mainGlobals "felled" = some (some (.ref f8)))
    (l8 : K.lookup f8 = some ⟨oc8, od8, .func (PySem.W.fnOf "felled" "felled" (defArgs s_felled) (defBody s_felled) (defScope s_felled) .none kV8 dc8 pm8 an8 cd8 ct8), sl8⟩) (c8 : PySem.W.codeIn K cd8 "felled" = true) (k8 : PySem.W.keepIn K (.ref f8) = true)
    {od9 an9 : Option Addr} {sl9 : Array (Option Value)} {oc9 kV9 dc9 pm9 cd9 ct9 : Value} {f9 : Addr}
    (a9 : PySem.W.nsIn K mainGlobals "reached" = some (some (.ref f9)))
    (l9 : K.lookup f9 = some ⟨oc9, od9, .func (PySem.W.fnOf "reached" "reached" (defArgs s_reached) (defBody s_reached) (defScope s_reached) .none kV9 dc9 pm9 an9 cd9 ct9), sl9⟩) (c9 : PySem.W.codeIn K cd9 "reached" = true) (k9 : PySem.W.keepIn K (.ref f9) = true)
    {od10 an10 : Option Addr} {sl10 : Array (Option Value)} {oc10 kV10 dc10 pm10 cd10 ct10 : Value} {f10 : Addr}
    (a10 : PySem.W.nsIn K mainGlobals "fewest" = some (some (.ref f10)))
    (l10 : K.lookup f10 = some ⟨oc10, od10, .func (PySem.W.fnOf "fewest" "fewest" (defArgs s_fewest) (defBody s_fewest) (defScope s_fewest) .none kV10 dc10 pm10 an10 cd10 ct10), sl10⟩) (c10 : PySem.W.codeIn K cd10 "fewest" = true) (k10 : PySem.W.keepIn K (.ref f10) = true)
    {od11 an11 : Option Addr} {sl11 : Array (Option Value)} {oc11 kV11 dc11 pm11 cd11 ct11 : Value} {f11 : Addr}
    (a11 : PySem.W.nsIn K mainGlobals "rights" = some (some (.ref f11)))
    (l11 : K.lookup f11 = some ⟨oc11, od11, .func (PySem.W.fnOf "rights" "rights" (defArgs s_rights) (defBody s_rights) (defScope s_rights) .none kV11 dc11 pm11 an11 cd11 ct11), sl11⟩) (c11 : PySem.W.codeIn K cd11 "rights" = true) (k11 : PySem.W.keepIn K (.ref f11) = true)
    {od12 an12 : Option Addr} {sl12 : Array (Option Value)} {oc12 kV12 dc12 pm12 cd12 ct12 : Value} {f12 : Addr}
    (a12 : PySem.W.nsIn K mainGlobals "higher" = some (some (.ref f12)))
    (l12 : K.lookup f12 = some ⟨oc12, od12, .func (PySem.W.fnOf "higher" "higher" (defArgs s_higher) (defBody s_higher) (defScope s_higher) .none kV12 dc12 pm12 an12 cd12 ct12), sl12⟩) (c12 : PySem.W.codeIn K cd12 "higher" = true) (k12 : PySem.W.keepIn K (.ref f12) = true)
    {od13 an13 : Option Addr} {sl13 : Array (Option Value)} {oc13 kV13 dc13 pm13 cd13 ct13 : Value} {f13 : Addr}
    (a13 : PySem.W.nsIn K mainGlobals "written" = some (some (.ref f13)))
    (l13 : K.lookup f13 = some ⟨oc13, od13, .func (PySem.W.fnOf "written" "written" (defArgs s_written) (defBody s_written) (defScope s_written) .none kV13 dc13 pm13 an13 cd13 ct13), sl13⟩) (c13 : PySem.W.codeIn K cd13 "written" = true) (k13 : PySem.W.keepIn K (.ref f13) = true)
    {od14 an14 : Option Addr} {sl14 : Array (Option Value)} {oc14 kV14 dc14 pm14 cd14 ct14 : Value} {f14 : Addr}
    (a14 : PySem.W.nsIn K mainGlobals "_law_ask" = some (some (.ref f14)))
    (l14 : K.lookup f14 = some ⟨oc14, od14, .func (PySem.W.fnOf "_law_ask" "_law_ask" (defArgs s_law_ask) (defBody s_law_ask) (defScope s_law_ask) .none kV14 dc14 pm14 an14 cd14 ct14), sl14⟩) (c14 : PySem.W.codeIn K cd14 "_law_ask" = true) (k14 : PySem.W.keepIn K (.ref f14) = true)
    {od15 an15 : Option Addr} {sl15 : Array (Option Value)} {oc15 kV15 dc15 pm15 cd15 ct15 : Value} {f15 : Addr}
    (a15 : PySem.W.nsIn K mainGlobals "_law_due" = some (some (.ref f15)))
    (l15 : K.lookup f15 = some ⟨oc15, od15, .func (PySem.W.fnOf "_law_due" "_law_due" (defArgs s_law_due) (defBody s_law_due) (defScope s_law_due) .none kV15 dc15 pm15 an15 cd15 ct15), sl15⟩) (c15 : PySem.W.codeIn K cd15 "_law_due" = true) (k15 : PySem.W.keepIn K (.ref f15) = true)
    {od16 an16 : Option Addr} {sl16 : Array (Option Value)} {oc16 kV16 dc16 pm16 cd16 ct16 : Value} {f16 : Addr}
    (a16 : PySem.W.nsIn K mainGlobals "_law_rows" = some (some (.ref f16)))
    (l16 : K.lookup f16 = some ⟨oc16, od16, .func (PySem.W.fnOf "_law_rows" "_law_rows" (defArgs s_law_rows) (defBody s_law_rows) (defScope s_law_rows) .none kV16 dc16 pm16 an16 cd16 ct16), sl16⟩) (c16 : PySem.W.codeIn K cd16 "_law_rows" = true) (k16 : PySem.W.keepIn K (.ref f16) = true)
    {od17 an17 : Option Addr} {sl17 : Array (Option Value)} {oc17 kV17 dc17 pm17 cd17 ct17 : Value} {f17 : Addr}
    (a17 : PySem.W.nsIn K mainGlobals "_law_stones" = some (some (.ref f17)))
    (l17 : K.lookup f17 = some ⟨oc17, od17, .func (PySem.W.fnOf "_law_stones" "_law_stones" (defArgs s_law_stones) (defBody s_law_stones) (defScope s_law_stones) .none kV17 dc17 pm17 an17 cd17 ct17), sl17⟩) (c17 : PySem.W.codeIn K cd17 "_law_stones" = true) (k17 : PySem.W.keepIn K (.ref f17) = true)
    {od18 an18 : Option Addr} {sl18 : Array (Option Value)} {oc18 kV18 dc18 pm18 cd18 ct18 : Value} {f18 : Addr}
    (a18 : PySem.W.nsIn K mainGlobals "_law_sides" = some (some (.ref f18)))
    (l18 : K.lookup f18 = some ⟨oc18, od18, .func (PySem.W.fnOf "_law_sides" "_law_sides" (defArgs s_law_sides) (defBody s_law_sides) (defScope s_law_sides) .none kV18 dc18 pm18 an18 cd18 ct18), sl18⟩) (c18 : PySem.W.codeIn K cd18 "_law_sides" = true) (k18 : PySem.W.keepIn K (.ref f18) = true)
    {od19 an19 : Option Addr} {sl19 : Array (Option Value)} {oc19 kV19 dc19 pm19 cd19 ct19 : Value} {f19 : Addr}
    (a19 : PySem.W.nsIn K mainGlobals "_law_pushes" = some (some (.ref f19)))
    (l19 : K.lookup f19 = some ⟨oc19, od19, .func (PySem.W.fnOf "_law_pushes" "_law_pushes" (defArgs s_law_pushes) (defBody s_law_pushes) (defScope s_law_pushes) .none kV19 dc19 pm19 an19 cd19 ct19), sl19⟩) (c19 : PySem.W.codeIn K cd19 "_law_pushes" = true) (k19 : PySem.W.keepIn K (.ref f19) = true)
    {od20 an20 : Option Addr} {sl20 : Array (Option Value)} {oc20 kV20 dc20 pm20 cd20 ct20 : Value} {f20 : Addr}
    (a20 : PySem.W.nsIn K mainGlobals "law" = some (some (.ref f20)))
    (l20 : K.lookup f20 = some ⟨oc20, od20, .func (PySem.W.fnOf "law" "law" (defArgs s_law) (defBody s_law) (defScope s_law) .none kV20 dc20 pm20 an20 cd20 ct20), sl20⟩) (c20 : PySem.W.codeIn K cd20 "law" = true) (k20 : PySem.W.keepIn K (.ref f20) = true)
    (x0_BadRow : PySem.W.excIn K CBadRow [.type "ValueError", .type "Exception", .type "BaseException", .type "object"] "ValueError.__new__" = true)
    (x1_BadRow : PySem.W.keepIn K (.ref CBadRow) = true)
    (x2_BadRow : PySem.W.subIn K (.ref CBadRow) (.type "BaseException") = some true)
    (x3_BadRow : PySem.W.typeIn K (.ref CBadRow) = some (.type "type"))
    (x0_BadSide : PySem.W.excIn K CBadSide [.type "ValueError", .type "Exception", .type "BaseException", .type "object"] "ValueError.__new__" = true)
    (x1_BadSide : PySem.W.keepIn K (.ref CBadSide) = true)
    (x2_BadSide : PySem.W.subIn K (.ref CBadSide) (.type "BaseException") = some true)
    (x3_BadSide : PySem.W.typeIn K (.ref CBadSide) = some (.type "type"))
    (x0_BadStone : PySem.W.excIn K CBadStone [.type "ValueError", .type "Exception", .type "BaseException", .type "object"] "ValueError.__new__" = true)
    (x1_BadStone : PySem.W.keepIn K (.ref CBadStone) = true)
    (x2_BadStone : PySem.W.subIn K (.ref CBadStone) (.type "BaseException") = some true)
    (x3_BadStone : PySem.W.typeIn K (.ref CBadStone) = some (.type "type"))
    (x0_BadText : PySem.W.excIn K CBadText [.type "ValueError", .type "Exception", .type "BaseException", .type "object"] "ValueError.__new__" = true)
    (x1_BadText : PySem.W.keepIn K (.ref CBadText) = true)
    (x2_BadText : PySem.W.subIn K (.ref CBadText) (.type "BaseException") = some true)
    (x3_BadText : PySem.W.typeIn K (.ref CBadText) = some (.type "type"))
    (x0_FallError : PySem.W.excIn K CFallError [.type "ValueError", .type "Exception", .type "BaseException", .type "object"] "ValueError.__new__" = true)
    (x1_FallError : PySem.W.keepIn K (.ref CFallError) = true)
    (x2_FallError : PySem.W.subIn K (.ref CFallError) (.type "BaseException") = some true)
    (x3_FallError : PySem.W.typeIn K (.ref CFallError) = some (.type "type"))
    (y0_BadRow : PySem.W.findIn K (.ref CBadRow) "__getattribute__" = some (some (.builtin "BaseException.__getattribute__")))
    (y1_BadRow : PySem.W.findIn K (.ref CBadRow) "__getattr__" = some none)
    (y3_BadRow : PySem.W.hasDictIn K CBadRow = true)
    (y4_BadRow : PySem.W.findIn K (.ref CBadRow) "__class__" = some (some (.builtin "object.__class__")))
    (y7_BadRow : PySem.W.mroIn K CBadRow (.type "object") = some true)
    (y8_BadRow : PySem.W.isClsIn K CBadRow = true)
    (y9_BadRow : PySem.W.subIn K (.ref CBadRow) (.ref CFallError) = some true)
    (yv_BadRow : PySem.W.subIn K (.ref CBadRow) (.type "ValueError") = some true)
    (z_BadRow_BadRow : PySem.W.subIn K (.ref CBadRow) (.ref CBadRow) = some true)
    (z_BadRow_BadStone : PySem.W.subIn K (.ref CBadRow) (.ref CBadStone) = some false)
    (z_BadRow_BadSide : PySem.W.subIn K (.ref CBadRow) (.ref CBadSide) = some false)
    (z_BadRow_BadText : PySem.W.subIn K (.ref CBadRow) (.ref CBadText) = some false)
    (y0_BadStone : PySem.W.findIn K (.ref CBadStone) "__getattribute__" = some (some (.builtin "BaseException.__getattribute__")))
    (y1_BadStone : PySem.W.findIn K (.ref CBadStone) "__getattr__" = some none)
    (y3_BadStone : PySem.W.hasDictIn K CBadStone = true)
    (y4_BadStone : PySem.W.findIn K (.ref CBadStone) "__class__" = some (some (.builtin "object.__class__")))
    (y7_BadStone : PySem.W.mroIn K CBadStone (.type "object") = some true)
    (y8_BadStone : PySem.W.isClsIn K CBadStone = true)
    (y9_BadStone : PySem.W.subIn K (.ref CBadStone) (.ref CFallError) = some true)
    (yv_BadStone : PySem.W.subIn K (.ref CBadStone) (.type "ValueError") = some true)
    (z_BadStone_BadRow : PySem.W.subIn K (.ref CBadStone) (.ref CBadRow) = some false)
    (z_BadStone_BadStone : PySem.W.subIn K (.ref CBadStone) (.ref CBadStone) = some true)
    (z_BadStone_BadSide : PySem.W.subIn K (.ref CBadStone) (.ref CBadSide) = some false)
    (z_BadStone_BadText : PySem.W.subIn K (.ref CBadStone) (.ref CBadText) = some false)
    (y0_BadSide : PySem.W.findIn K (.ref CBadSide) "__getattribute__" = some (some (.builtin "BaseException.__getattribute__")))
    (y1_BadSide : PySem.W.findIn K (.ref CBadSide) "__getattr__" = some none)
    (y3_BadSide : PySem.W.hasDictIn K CBadSide = true)
    (y4_BadSide : PySem.W.findIn K (.ref CBadSide) "__class__" = some (some (.builtin "object.__class__")))
    (y7_BadSide : PySem.W.mroIn K CBadSide (.type "object") = some true)
    (y8_BadSide : PySem.W.isClsIn K CBadSide = true)
    (y9_BadSide : PySem.W.subIn K (.ref CBadSide) (.ref CFallError) = some true)
    (yv_BadSide : PySem.W.subIn K (.ref CBadSide) (.type "ValueError") = some true)
    (z_BadSide_BadRow : PySem.W.subIn K (.ref CBadSide) (.ref CBadRow) = some false)
    (z_BadSide_BadStone : PySem.W.subIn K (.ref CBadSide) (.ref CBadStone) = some false)
    (z_BadSide_BadSide : PySem.W.subIn K (.ref CBadSide) (.ref CBadSide) = some true)
    (z_BadSide_BadText : PySem.W.subIn K (.ref CBadSide) (.ref CBadText) = some false)
    (y0_BadText : PySem.W.findIn K (.ref CBadText) "__getattribute__" = some (some (.builtin "BaseException.__getattribute__")))
    (y1_BadText : PySem.W.findIn K (.ref CBadText) "__getattr__" = some none)
    (y3_BadText : PySem.W.hasDictIn K CBadText = true)
    (y4_BadText : PySem.W.findIn K (.ref CBadText) "__class__" = some (some (.builtin "object.__class__")))
    (y7_BadText : PySem.W.mroIn K CBadText (.type "object") = some true)
    (y8_BadText : PySem.W.isClsIn K CBadText = true)
    (y9_BadText : PySem.W.subIn K (.ref CBadText) (.ref CFallError) = some true)
    (yv_BadText : PySem.W.subIn K (.ref CBadText) (.type "ValueError") = some true)
    (z_BadText_BadRow : PySem.W.subIn K (.ref CBadText) (.ref CBadRow) = some false)
    (z_BadText_BadStone : PySem.W.subIn K (.ref CBadText) (.ref CBadStone) = some false)
    (z_BadText_BadSide : PySem.W.subIn K (.ref CBadText) (.ref CBadSide) = some false)
    (z_BadText_BadText : PySem.W.subIn K (.ref CBadText) (.ref CBadText) = some true)
    (y5 : PySem.W.specialIn K (.builtin "object.__class__") "__get__" = some (some (.builtin "getset_descriptor.__get__")))
    (y6 : PySem.W.takesIn K (.builtin "object.__class__") = some true)
    (yd : PySem.W.hasDictIn K CFallError = true)
    (z_ValueError : PySem.W.nsIn K mainGlobals "ValueError" = some none)
    (z_all : PySem.W.nsIn K mainGlobals "all" = some none)
    (z_bool : PySem.W.nsIn K mainGlobals "bool" = some none)
    (z_int : PySem.W.nsIn K mainGlobals "int" = some none)
    (z_isinstance : PySem.W.nsIn K mainGlobals "isinstance" = some none)
    (z_len : PySem.W.nsIn K mainGlobals "len" = some none)
    (z_list : PySem.W.nsIn K mainGlobals "list" = some none)
    (z_max : PySem.W.nsIn K mainGlobals "max" = some none)
    (z_min : PySem.W.nsIn K mainGlobals "min" = some none)
    (z_range : PySem.W.nsIn K mainGlobals "range" = some none)
    (z_reversed : PySem.W.nsIn K mainGlobals "reversed" = some none)
    (z_tuple : PySem.W.nsIn K mainGlobals "tuple" = some none) :
    ∃ fd : FuncData, (∀ (s : Shared) (v : Value), BindsTo s fd ⟨[v], []⟩ [("_law_script", v)]) ∧ ∀ base : Heap, K.In base → base.Ns mainGlobals mg → FnOk l.prog w K mg base CX0 7 fa fd ["_law_script"] (FnP K P_law) := by
  have e := hfa.symm.trans (PySem.W.mg_of X G a20)
  cases e
  let C : CS := { w := w, Answer := 0, Chain := 0, Stands := 0, Fewest := 0, Rights := 0, Higher := 0, BadRow := CBadRow, BadSide := CBadSide, BadStone := CBadStone, BadText := CBadText, FallError := CFallError, fn := [f7, f10, f11, f13, f16, f17, f18, f19] }
  have EBadRow : ExcCls K mg "BadRow" CBadRow := ⟨x0_BadRow, PySem.W.mg_of X G qBadRow, x1_BadRow, x2_BadRow, x3_BadRow⟩
  have EBadSide : ExcCls K mg "BadSide" CBadSide := ⟨x0_BadSide, PySem.W.mg_of X G qBadSide, x1_BadSide, x2_BadSide, x3_BadSide⟩
  have EBadStone : ExcCls K mg "BadStone" CBadStone := ⟨x0_BadStone, PySem.W.mg_of X G qBadStone, x1_BadStone, x2_BadStone, x3_BadStone⟩
  have EBadText : ExcCls K mg "BadText" CBadText := ⟨x0_BadText, PySem.W.mg_of X G qBadText, x1_BadText, x2_BadText, x3_BadText⟩
  have EFallError : ExcCls K mg "FallError" CFallError := ⟨x0_FallError, PySem.W.mg_of X G qFallError, x1_FallError, x2_FallError, x3_FallError⟩
  have XF_BadRow : ExcF K C CBadRow true false false false := ⟨⟨y0_BadRow, y1_BadRow, x2_BadRow, y3_BadRow, y4_BadRow, y5, y6, y7_BadRow⟩, PySem.W.exm_ref x2_FallError yd x3_FallError y9_BadRow, kit_x y8_BadRow x3_BadRow z_BadRow_BadRow z_BadRow_BadRow, kit_x y8_BadStone x3_BadStone z_BadRow_BadStone z_BadRow_BadRow, kit_x y8_BadSide x3_BadSide z_BadRow_BadSide z_BadRow_BadRow, kit_x y8_BadText x3_BadText z_BadRow_BadText z_BadRow_BadRow, kit_v yv_BadRow⟩
  have XF_BadStone : ExcF K C CBadStone false true false false := ⟨⟨y0_BadStone, y1_BadStone, x2_BadStone, y3_BadStone, y4_BadStone, y5, y6, y7_BadStone⟩, PySem.W.exm_ref x2_FallError yd x3_FallError y9_BadStone, kit_x y8_BadRow x3_BadRow z_BadStone_BadRow z_BadStone_BadStone, kit_x y8_BadStone x3_BadStone z_BadStone_BadStone z_BadStone_BadStone, kit_x y8_BadSide x3_BadSide z_BadStone_BadSide z_BadStone_BadStone, kit_x y8_BadText x3_BadText z_BadStone_BadText z_BadStone_BadStone, kit_v yv_BadStone⟩
  have XF_BadSide : ExcF K C CBadSide false false true false := ⟨⟨y0_BadSide, y1_BadSide, x2_BadSide, y3_BadSide, y4_BadSide, y5, y6, y7_BadSide⟩, PySem.W.exm_ref x2_FallError yd x3_FallError y9_BadSide, kit_x y8_BadRow x3_BadRow z_BadSide_BadRow z_BadSide_BadSide, kit_x y8_BadStone x3_BadStone z_BadSide_BadStone z_BadSide_BadSide, kit_x y8_BadSide x3_BadSide z_BadSide_BadSide z_BadSide_BadSide, kit_x y8_BadText x3_BadText z_BadSide_BadText z_BadSide_BadSide, kit_v yv_BadSide⟩
  have XF_BadText : ExcF K C CBadText false false false true := ⟨⟨y0_BadText, y1_BadText, x2_BadText, y3_BadText, y4_BadText, y5, y6, y7_BadText⟩, PySem.W.exm_ref x2_FallError yd x3_FallError y9_BadText, kit_x y8_BadRow x3_BadRow z_BadText_BadRow z_BadText_BadText, kit_x y8_BadStone x3_BadStone z_BadText_BadStone z_BadText_BadText, kit_x y8_BadSide x3_BadSide z_BadText_BadSide z_BadText_BadText, kit_x y8_BadText x3_BadText z_BadText_BadText z_BadText_BadText, kit_v yv_BadText⟩
  have T : Txt w K mg C := ⟨rfl, PySem.W.mg_none_of X G z_ValueError, PySem.W.mg_none_of X G z_all, PySem.W.mg_none_of X G z_bool, PySem.W.mg_none_of X G z_int, PySem.W.mg_none_of X G z_isinstance, PySem.W.mg_none_of X G z_len, PySem.W.mg_none_of X G z_list, PySem.W.mg_none_of X G z_max, PySem.W.mg_none_of X G z_min, PySem.W.mg_none_of X G z_range, PySem.W.mg_none_of X G z_reversed, PySem.W.mg_none_of X G z_tuple, EBadRow, EBadSide, EBadStone, EBadText, EFallError, PySem.W.mg_of X G a19, PySem.W.mg_of X G a16, PySem.W.mg_of X G a18, PySem.W.mg_of X G a17, PySem.W.mg_of X G a10, PySem.W.mg_of X G a7, PySem.W.mg_of X G a11, PySem.W.mg_of X G a13, ⟨XF_BadRow, XF_BadStone, XF_BadSide, XF_BadText⟩⟩
  have F0 := fun_mk (st := s_is_number) l0 c0 k0
  have b0 := F0.binds (ps := ["thing"]) fun _ _ _ _ _ _ us hl => match us, hl with | [_], _ => rfl
  have F1 := fun_mk (st := s_is_pair) l1 c1 k1
  have b1 := F1.binds (ps := ["thing"]) fun _ _ _ _ _ _ us hl => match us, hl with | [_], _ => rfl
  have F2 := fun_mk (st := s_check_row) l2 c2 k2
  have b2 := F2.binds (ps := ["row"]) fun _ _ _ _ _ _ us hl => match us, hl with | [_], _ => rfl
  have F3 := fun_mk (st := s_check_stone) l3 c3 k3
  have b3 := F3.binds (ps := ["row", "stone"]) fun _ _ _ _ _ _ us hl => match us, hl with | [_, _], _ => rfl
  have F4 := fun_mk (st := s_check_side) l4 c4 k4
  have b4 := F4.binds (ps := ["side"]) fun _ _ _ _ _ _ us hl => match us, hl with | [_], _ => rfl
  have F5 := fun_mk (st := s_last_felled) l5 c5 k5
  have b5 := F5.binds (ps := ["row", "stone", "side"]) fun _ _ _ _ _ _ us hl => match us, hl with | [_, _, _], _ => rfl
  have F6 := fun_mk (st := s_felled_by) l6 c6 k6
  have b6 := F6.binds (ps := ["row", "stone", "side"]) fun _ _ _ _ _ _ us hl => match us, hl with | [_, _, _], _ => rfl
  have F7 := fun_mk (st := s_mirrored) l7 c7 k7
  have b7 := F7.binds (ps := ["row"]) fun _ _ _ _ _ _ us hl => match us, hl with | [_], _ => rfl
  have F8 := fun_mk (st := s_felled) l8 c8 k8
  have b8 := F8.binds (ps := ["row", "stone", "side"]) fun _ _ _ _ _ _ us hl => match us, hl with | [_, _, _], _ => rfl
  have F9 := fun_mk (st := s_reached) l9 c9 k9
  have b9 := F9.binds (ps := ["row", "push", "stone"]) fun _ _ _ _ _ _ us hl => match us, hl with | [_, _, _], _ => rfl
  have F10 := fun_mk (st := s_fewest) l10 c10 k10
  have b10 := F10.binds (ps := ["row"]) fun _ _ _ _ _ _ us hl => match us, hl with | [_], _ => rfl
  have F11 := fun_mk (st := s_rights) l11 c11 k11
  have b11 := F11.binds (ps := ["row"]) fun _ _ _ _ _ _ us hl => match us, hl with | [_], _ => rfl
  have F12 := fun_mk (st := s_higher) l12 c12 k12
  have b12 := F12.binds (ps := ["row", "stone"]) fun _ _ _ _ _ _ us hl => match us, hl with | [_, _], _ => rfl
  have F13 := fun_mk (st := s_written) l13 c13 k13
  have b13 := F13.binds (ps := ["row"]) fun _ _ _ _ _ _ us hl => match us, hl with | [_], _ => rfl
  have F14 := fun_mk (st := s_law_ask) l14 c14 k14
  have b14 := F14.binds (ps := ["_law_door", "_law_thing"]) fun _ _ _ _ _ _ us hl => match us, hl with | [_, _], _ => rfl
  have F15 := fun_mk (st := s_law_due) l15 c15 k15
  have b15 := F15.binds (ps := ["_law_door", "_law_thing", "_law_due_here"]) fun _ _ _ _ _ _ us hl => match us, hl with | [_, _, _], _ => rfl
  have F16 := fun_mk (st := s_law_rows) l16 c16 k16
  have b16 := F16.binds (ps := ["_law_cell"]) fun _ _ _ _ _ _ us hl => match us, hl with | [_], _ => rfl
  have F17 := fun_mk (st := s_law_stones) l17 c17 k17
  have b17 := F17.binds (ps := ["_law_cell"]) fun _ _ _ _ _ _ us hl => match us, hl with | [_], _ => rfl
  have F18 := fun_mk (st := s_law_sides) l18 c18 k18
  have b18 := F18.binds (ps := ["_law_cell"]) fun _ _ _ _ _ _ us hl => match us, hl with | [_], _ => rfl
  have F19 := fun_mk (st := s_law_pushes) l19 c19 k19
  have b19 := F19.binds (ps := ["_law_cell"]) fun _ _ _ _ _ _ us hl => match us, hl with | [_], _ => rfl
  have F20 := fun_mk (st := s_law) l20 c20 k20
  have b20 := F20.binds (ps := ["_law_script"]) fun _ _ _ _ _ _ us hl => match us, hl with | [_], _ => rfl
  refine ⟨PySem.W.fnOf "law" "law" (defArgs s_law) (defBody s_law) (defScope s_law) .none kV20 dc20 pm20 an20 cd20 ct20, fun s v => .of_eq rfl, fun base _ _ => ?_⟩
  have o_is_number : FnOk l.prog w K mg base (L2N.CX l.prog w) 1 f0 _ ["thing"] (sp_is_number K C) := ok_is_number F0 T
  have g_is_number : Cal l.prog w K mg base (L2N.CX l.prog w) 1 "is_number" ["thing"] (sp_is_number K C) := ⟨_, _, o_is_number, PySem.W.mg_of X G a0, k0, b0⟩
  have o_is_pair : FnOk l.prog w K mg base (L2N.CX l.prog w) 2 f1 _ ["thing"] (sp_is_pair K C) := ok_is_pair F1 T g_is_number
  have g_is_pair : Cal l.prog w K mg base (L2N.CX l.prog w) 2 "is_pair" ["thing"] (sp_is_pair K C) := ⟨_, _, o_is_pair, PySem.W.mg_of X G a1, k1, b1⟩
  have o_check_row : FnOk l.prog w K mg base (L2N.CX l.prog w) 3 f2 _ ["row"] (sp_check_row K C) := ok_check_row F2 T g_is_pair
  have g_check_row : Cal l.prog w K mg base (L2N.CX l.prog w) 3 "check_row" ["row"] (sp_check_row K C) := ⟨_, _, o_check_row, PySem.W.mg_of X G a2, k2, b2⟩
  have o_check_stone : FnOk l.prog w K mg base (L2N.CX l.prog w) 2 f3 _ ["row", "stone"] (sp_check_stone K C) := ok_check_stone F3 T g_is_number
  have g_check_stone : Cal l.prog w K mg base (L2N.CX l.prog w) 2 "check_stone" ["row", "stone"] (sp_check_stone K C) := ⟨_, _, o_check_stone, PySem.W.mg_of X G a3, k3, b3⟩
  have o_check_side : FnOk l.prog w K mg base (L2N.CX l.prog w) 2 f4 _ ["side"] (sp_check_side K C) := ok_check_side F4 T g_is_number
  have g_check_side : Cal l.prog w K mg base (L2N.CX l.prog w) 2 "check_side" ["side"] (sp_check_side K C) := ⟨_, _, o_check_side, PySem.W.mg_of X G a4, k4, b4⟩
  have o_last_felled : FnOk l.prog w K mg base (L2N.CX l.prog w) 1 f5 _ ["row", "stone", "side"] (sp_last_felled K C) := ok_last_felled F5 T
  have g_last_felled : Cal l.prog w K mg base (L2N.CX l.prog w) 1 "last_felled" ["row", "stone", "side"] (sp_last_felled K C) := ⟨_, _, o_last_felled, PySem.W.mg_of X G a5, k5, b5⟩
  have o_felled_by : FnOk l.prog w K mg base (L2N.CX l.prog w) 2 f6 _ ["row", "stone", "side"] (sp_felled_by K C) := ok_felled_by F6 T g_last_felled
  have g_felled_by : Cal l.prog w K mg base (L2N.CX l.prog w) 2 "felled_by" ["row", "stone", "side"] (sp_felled_by K C) := ⟨_, _, o_felled_by, PySem.W.mg_of X G a6, k6, b6⟩
  have o_mirrored : FnOk l.prog w K mg base (L2N.CX l.prog w) 4 f7 _ ["row"] (sp_mirrored K C) := ok_mirrored F7 T g_check_row
  have g_mirrored : Cal l.prog w K mg base (L2N.CX l.prog w) 4 "mirrored" ["row"] (sp_mirrored K C) := ⟨_, _, o_mirrored, PySem.W.mg_of X G a7, k7, b7⟩
  have o_felled : FnOk l.prog w K mg base (L2N.CX l.prog w) 4 f8 _ ["row", "stone", "side"] (sp_felled K C) := ok_felled F8 T g_check_row g_check_stone g_check_side g_felled_by
  have g_felled : Cal l.prog w K mg base (L2N.CX l.prog w) 4 "felled" ["row", "stone", "side"] (sp_felled K C) := ⟨_, _, o_felled, PySem.W.mg_of X G a8, k8, b8⟩
  have o_reached : FnOk l.prog w K mg base (L2N.CX l.prog w) 4 f9 _ ["row", "push", "stone"] (sp_reached K C) := ok_reached F9 T g_check_row g_check_stone g_check_side
  have g_reached : Cal l.prog w K mg base (L2N.CX l.prog w) 4 "reached" ["row", "push", "stone"] (sp_reached K C) := ⟨_, _, o_reached, PySem.W.mg_of X G a9, k9, b9⟩
  have o_fewest : FnOk l.prog w K mg base (L2N.CX l.prog w) 4 f10 _ ["row"] (sp_fewest K C) := ok_fewest F10 T g_check_row
  have g_fewest : Cal l.prog w K mg base (L2N.CX l.prog w) 4 "fewest" ["row"] (sp_fewest K C) := ⟨_, _, o_fewest, PySem.W.mg_of X G a10, k10, b10⟩
  have o_rights : FnOk l.prog w K mg base (L2N.CX l.prog w) 4 f11 _ ["row"] (sp_rights K C) := ok_rights F11 T g_check_row
  have g_rights : Cal l.prog w K mg base (L2N.CX l.prog w) 4 "rights" ["row"] (sp_rights K C) := ⟨_, _, o_rights, PySem.W.mg_of X G a11, k11, b11⟩
  have o_higher : FnOk l.prog w K mg base (L2N.CX l.prog w) 4 f12 _ ["row", "stone"] (sp_higher K C) := ok_higher F12 T g_check_row g_check_stone
  have g_higher : Cal l.prog w K mg base (L2N.CX l.prog w) 4 "higher" ["row", "stone"] (sp_higher K C) := ⟨_, _, o_higher, PySem.W.mg_of X G a12, k12, b12⟩
  have o_written : FnOk l.prog w K mg base (L2N.CX l.prog w) 4 f13 _ ["row"] (sp_written K C) := ok_written F13 T g_check_row
  have g_written : Cal l.prog w K mg base (L2N.CX l.prog w) 4 "written" ["row"] (sp_written K C) := ⟨_, _, o_written, PySem.W.mg_of X G a13, k13, b13⟩
  have h_S_ask : ∀ f sp, S_ask K C f sp → HeldS l.prog w K mg base (L2N.CX l.prog w) 4 f sp := by
    intro f sp hS
    rcases hS with ⟨rfl, rfl⟩ | ⟨rfl, rfl⟩ | ⟨rfl, rfl⟩ | ⟨rfl, rfl⟩
    · exact ⟨_, _, FnOk.mono o_mirrored (by decide), k7, b7⟩
    · exact ⟨_, _, FnOk.mono o_fewest (by decide), k10, b10⟩
    · exact ⟨_, _, FnOk.mono o_rights (by decide), k11, b11⟩
    · exact ⟨_, _, FnOk.mono o_written (by decide), k13, b13⟩
  have o_law_ask : FnOk l.prog w K mg base (L2N.CX l.prog w) 5 f14 _ ["_law_door", "_law_thing"] (sp_law_ask K C) := ok_law_ask F14 T g_felled g_reached g_higher h_S_ask
  have g_law_ask : Cal l.prog w K mg base (L2N.CX l.prog w) 5 "_law_ask" ["_law_door", "_law_thing"] (sp_law_ask K C) := ⟨_, _, o_law_ask, PySem.W.mg_of X G a14, k14, b14⟩
  have o_law_due : FnOk l.prog w K mg base CX0 6 f15 _ ["_law_door", "_law_thing", "_law_due_here"] (sp_law_due K C) := ok_law_due F15 T g_law_ask
  have g_law_due : Cal l.prog w K mg base CX0 6 "_law_due" ["_law_door", "_law_thing", "_law_due_here"] (sp_law_due K C) := ⟨_, _, o_law_due, PySem.W.mg_of X G a15, k15, b15⟩
  have o_law_rows : FnOk l.prog w K mg base CX0 1 f16 _ ["_law_cell"] (sp_law_rows K C) := ok_law_rows F16 T
  have g_law_rows : Cal l.prog w K mg base CX0 1 "_law_rows" ["_law_cell"] (sp_law_rows K C) := ⟨_, _, o_law_rows, PySem.W.mg_of X G a16, k16, b16⟩
  have o_law_stones : FnOk l.prog w K mg base CX0 1 f17 _ ["_law_cell"] (sp_law_stones K C) := ok_law_stones F17 T
  have g_law_stones : Cal l.prog w K mg base CX0 1 "_law_stones" ["_law_cell"] (sp_law_stones K C) := ⟨_, _, o_law_stones, PySem.W.mg_of X G a17, k17, b17⟩
  have o_law_sides : FnOk l.prog w K mg base CX0 1 f18 _ ["_law_cell"] (sp_law_sides K C) := ok_law_sides F18 T
  have g_law_sides : Cal l.prog w K mg base CX0 1 "_law_sides" ["_law_cell"] (sp_law_sides K C) := ⟨_, _, o_law_sides, PySem.W.mg_of X G a18, k18, b18⟩
  have o_law_pushes : FnOk l.prog w K mg base CX0 1 f19 _ ["_law_cell"] (sp_law_pushes K C) := ok_law_pushes F19 T
  have g_law_pushes : Cal l.prog w K mg base CX0 1 "_law_pushes" ["_law_cell"] (sp_law_pushes K C) := ⟨_, _, o_law_pushes, PySem.W.mg_of X G a19, k19, b19⟩
  have h_S_things : ∀ f sp, S_things K C f sp → HeldS l.prog w K mg base CX0 1 f sp := by
    intro f sp hS
    rcases hS with ⟨rfl, rfl⟩ | ⟨rfl, rfl⟩ | ⟨rfl, rfl⟩ | ⟨rfl, rfl⟩
    · exact ⟨_, _, FnOk.mono o_law_rows (by decide), k16, b16⟩
    · exact ⟨_, _, FnOk.mono o_law_stones (by decide), k17, b17⟩
    · exact ⟨_, _, FnOk.mono o_law_sides (by decide), k18, b18⟩
    · exact ⟨_, _, FnOk.mono o_law_pushes (by decide), k19, b19⟩
  exact ok_law F20 T g_law_due g_felled g_mirrored h_S_things
end FX
open PySem PySem.W PyProof.Rows
set_option maxHeartbeats 0 in
theorem PySem.Challenge.cw_fallrow_k08_refused_holds : PySem.Challenge.rw_fallrow_k08_refused.Holds := by
  w_on; o_law; k_head; (case hw => w_witness2)
  k_fill
  refine L2.walk_of (l := PySem.Challenge.rw_fallrow_k08_refused) (n := 63) (k := 7) (x := "_law_script") (CX := fun _ => L2.CX0) (sp := fun w => FR.FnP _ FX.P_law) rfl (by decide) rfl ⟨rfl, by decide, by decide⟩ (fun w h Y => PySem.W.kIn_of Y) ?F (fun _ _ a ns hl _ hS => FX.law_sp hl hS) (fun _ _ _ _ _ h => h)
  case F =>
    intro w mg fa h KX G hmg
    refine' FX.all_mk KX G hmg ?qBadRow ?qBadSide ?qBadStone ?qBadText ?qFallError ?a0 ?l0 ?c0 ?k0 ?a1 ?l1 ?c1 ?k1 ?a2 ?l2 ?c2 ?k2 ?a3 ?l3 ?c3 ?k3 ?a4 ?l4 ?c4 ?k4 ?a5 ?l5 ?c5 ?k5 ?a6 ?l6 ?c6 ?k6 ?a7 ?l7 ?c7 ?k7 ?a8 ?l8 ?c8 ?k8 ?a9 ?l9 ?c9 ?k9 ?a10 ?l10 ?c10 ?k10 ?a11 ?l11 ?c11 ?k11 ?a12 ?l12 ?c12 ?k12 ?a13 ?l13 ?c13 ?k13 ?a14 ?l14 ?c14 ?k14 ?a15 ?l15 ?c15 ?k15 ?a16 ?l16 ?c16 ?k16 ?a17 ?l17 ?c17 ?k17 ?a18 ?l18 ?c18 ?k18 ?a19 ?l19 ?c19 ?k19 ?a20 ?l20 ?c20 ?k20 ?x0_BadRow ?x1_BadRow ?x2_BadRow ?x3_BadRow ?x0_BadSide ?x1_BadSide ?x2_BadSide ?x3_BadSide ?x0_BadStone ?x1_BadStone ?x2_BadStone ?x3_BadStone ?x0_BadText ?x1_BadText ?x2_BadText ?x3_BadText ?x0_FallError ?x1_FallError ?x2_FallError ?x3_FallError ?y0_BadRow ?y1_BadRow ?y3_BadRow ?y4_BadRow ?y7_BadRow ?y8_BadRow ?y9_BadRow ?yv_BadRow ?z_BadRow_BadRow ?z_BadRow_BadStone ?z_BadRow_BadSide ?z_BadRow_BadText ?y0_BadStone ?y1_BadStone ?y3_BadStone ?y4_BadStone ?y7_BadStone ?y8_BadStone ?y9_BadStone ?yv_BadStone ?z_BadStone_BadRow ?z_BadStone_BadStone ?z_BadStone_BadSide ?z_BadStone_BadText ?y0_BadSide ?y1_BadSide ?y3_BadSide ?y4_BadSide ?y7_BadSide ?y8_BadSide ?y9_BadSide ?yv_BadSide ?z_BadSide_BadRow ?z_BadSide_BadStone ?z_BadSide_BadSide ?z_BadSide_BadText ?y0_BadText ?y1_BadText ?y3_BadText ?y4_BadText ?y7_BadText ?y8_BadText ?y9_BadText ?yv_BadText ?z_BadText_BadRow ?z_BadText_BadStone ?z_BadText_BadSide ?z_BadText_BadText ?y5 ?y6 ?yd ?z_ValueError ?z_all ?z_bool ?z_int ?z_isinstance ?z_len ?z_list ?z_max ?z_min ?z_range ?z_reversed ?z_tuple
    (case qBadRow => k_is)
    (case qBadSide => k_is)
    (case qBadStone => k_is)
    (case qBadText => k_is)
    (case qFallError => k_is)
    (case a0 => k_is)
    (case l0 => k_is)
    (case c0 => k_is)
    (case k0 => k_is)
    (case a1 => k_is)
    (case l1 => k_is)
    (case c1 => k_is)
    (case k1 => k_is)
    (case a2 => k_is)
    (case l2 => k_is)
    (case c2 => k_is)
    (case k2 => k_is)
    (case a3 => k_is)
    (case l3 => k_is)
    (case c3 => k_is)
    (case k3 => k_is)
    (case a4 => k_is)
    (case l4 => k_is)
    (case c4 => k_is)
    (case k4 => k_is)
    (case a5 => k_is)
    (case l5 => k_is)
    (case c5 => k_is)
    (case k5 => k_is)
    (case a6 => k_is)
    (case l6 => k_is)
    (case c6 => k_is)
    (case k6 => k_is)
    (case a7 => k_is)
    (case l7 => k_is)
    (case c7 => k_is)
    (case k7 => k_is)
    (case a8 => k_is)
    (case l8 => k_is)
    (case c8 => k_is)
    (case k8 => k_is)
    (case a9 => k_is)
    (case l9 => k_is)
    (case c9 => k_is)
    (case k9 => k_is)
    (case a10 => k_is)
    (case l10 => k_is)
    (case c10 => k_is)
    (case k10 => k_is)
    (case a11 => k_is)
    (case l11 => k_is)
    (case c11 => k_is)
    (case k11 => k_is)
    (case a12 => k_is)
    (case l12 => k_is)
    (case c12 => k_is)
    (case k12 => k_is)
    (case a13 => k_is)
    (case l13 => k_is)
    (case c13 => k_is)
    (case k13 => k_is)
    (case a14 => k_is)
    (case l14 => k_is)
    (case c14 => k_is)
    (case k14 => k_is)
    (case a15 => k_is)
    (case l15 => k_is)
    (case c15 => k_is)
    (case k15 => k_is)
    (case a16 => k_is)
    (case l16 => k_is)
    (case c16 => k_is)
    (case k16 => k_is)
    (case a17 => k_is)
    (case l17 => k_is)
    (case c17 => k_is)
    (case k17 => k_is)
    (case a18 => k_is)
    (case l18 => k_is)
    (case c18 => k_is)
    (case k18 => k_is)
    (case a19 => k_is)
    (case l19 => k_is)
    (case c19 => k_is)
    (case k19 => k_is)
    (case a20 => k_is)
    (case l20 => k_is)
    (case c20 => k_is)
    (case k20 => k_is)
    (case x0_BadRow => k_exc)
    (case x1_BadRow => k_is)
    (case x2_BadRow => k_is)
    (case x3_BadRow => k_is)
    (case x0_BadSide => k_exc)
    (case x1_BadSide => k_is)
    (case x2_BadSide => k_is)
    (case x3_BadSide => k_is)
    (case x0_BadStone => k_exc)
    (case x1_BadStone => k_is)
    (case x2_BadStone => k_is)
    (case x3_BadStone => k_is)
    (case x0_BadText => k_exc)
    (case x1_BadText => k_is)
    (case x2_BadText => k_is)
    (case x3_BadText => k_is)
    (case x0_FallError => k_exc)
    (case x1_FallError => k_is)
    (case x2_FallError => k_is)
    (case x3_FallError => k_is)
    (case y0_BadRow => k_is)
    (case y1_BadRow => k_is)
    (case y3_BadRow => k_is)
    (case y4_BadRow => k_is)
    (case y7_BadRow => k_is)
    (case y8_BadRow => k_is)
    (case y9_BadRow => k_is)
    (case yv_BadRow => k_is)
    (case z_BadRow_BadRow => first | k_is | rfl)
    (case z_BadRow_BadStone => first | k_is | rfl)
    (case z_BadRow_BadSide => first | k_is | rfl)
    (case z_BadRow_BadText => first | k_is | rfl)
    (case y0_BadStone => k_is)
    (case y1_BadStone => k_is)
    (case y3_BadStone => k_is)
    (case y4_BadStone => k_is)
    (case y7_BadStone => k_is)
    (case y8_BadStone => k_is)
    (case y9_BadStone => k_is)
    (case yv_BadStone => k_is)
    (case z_BadStone_BadRow => first | k_is | rfl)
    (case z_BadStone_BadStone => first | k_is | rfl)
    (case z_BadStone_BadSide => first | k_is | rfl)
    (case z_BadStone_BadText => first | k_is | rfl)
    (case y0_BadSide => k_is)
    (case y1_BadSide => k_is)
    (case y3_BadSide => k_is)
    (case y4_BadSide => k_is)
    (case y7_BadSide => k_is)
    (case y8_BadSide => k_is)
    (case y9_BadSide => k_is)
    (case yv_BadSide => k_is)
    (case z_BadSide_BadRow => first | k_is | rfl)
    (case z_BadSide_BadStone => first | k_is | rfl)
    (case z_BadSide_BadSide => first | k_is | rfl)
    (case z_BadSide_BadText => first | k_is | rfl)
    (case y0_BadText => k_is)
    (case y1_BadText => k_is)
    (case y3_BadText => k_is)
    (case y4_BadText => k_is)
    (case y7_BadText => k_is)
    (case y8_BadText => k_is)
    (case y9_BadText => k_is)
    (case yv_BadText => k_is)
    (case z_BadText_BadRow => first | k_is | rfl)
    (case z_BadText_BadStone => first | k_is | rfl)
    (case z_BadText_BadSide => first | k_is | rfl)
    (case z_BadText_BadText => first | k_is | rfl)
    (case y5 => k_is)
    (case y6 => k_is)
    (case yd => k_is)
    (case z_ValueError => k_is)
    (case z_all => k_is)
    (case z_bool => k_is)
    (case z_int => k_is)
    (case z_isinstance => k_is)
    (case z_len => k_is)
    (case z_list => k_is)
    (case z_max => k_is)
    (case z_min => k_is)
    (case z_range => k_is)
    (case z_reversed => k_is)
    (case z_tuple => k_is)

